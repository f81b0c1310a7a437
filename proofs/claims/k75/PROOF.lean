import PyProof.Rows.All
import Wide.All
import OpenK.AllK
import Wide.FinOn
import HandS.ForMost
import KE.RegKTryMore
import KE.RegKIsAll
import PyProof.ReprRoads
import HandS.EndBits
import PyProof.ReprBulk
import PyProof.StrLaws
import HandS.Wide
import HandS.IsInst
import HandS.TupAny
import HandS.Walk
import HandS.Small
import HandS.ForExc
import HandS.ExcInit
import HandS.ExcField
import HandS.ClsMeth
import HandS.Codes
import KE.KExcIs
import HandS.SortInts
import PyProof.P3Eq
import HandS.TupLe
import HandS.Defaults
import HandS.Iter
import KE.GoesEnum
import HandS.TryOnly
import HandS.Conv
import HandS.Sort
import PyProof.RangeFor
import PyProof.EqKinds
import HandS.Deep
import HandS.Text
import HandS.FStr
import HandS.Strs
import PyProof.StrLawsTight
import HandS.Zip
import HandS.RaiseMore
import HandS.HeadHook3
import KE.GoesZip
import KE.GoesMore
import HandS.Replace
import PyProof.StrBlock2
import PyProof.ListStr
import PySem.Challenge.RW_onestaff_k75_logs
set_option Elab.async false
set_option linter.all false
set_option maxRecDepth 100000
set_option maxHeartbeats 4000000

namespace U
open PySem L2 PySem.Spec PyProof.Rows

/-! a def's promise where no repr is under way around it -/
section
variable (P : Program) (w : World) (K : PySem.W.Frag) (mg : Str → Option Value) (base : Heap)
structure FnG (cx : CXT) (k : Nat) (f : Addr) (fd : FuncData) (ps : List Str) (sp : Sp) : Prop where
  len : ∀ vs H Q E, sp vs H Q E → vs.length = ps.length
  run : ∀ (A : Around) (o : List Env) (s : Shared) (H : Hp) (ar : Args) (us : List Value) (vs : List V) (Q : VK) (E : XK),
    A.guards = some [] → Room k A → Env0 P w K mg base A o s H → BindsTo s fd ar (ps.zip us) → Vals vs us → sp vs H Q E →
    codeAny (model P w) A (.call (.ref f) ar) (CR cx o P w H s Q E) s
end
section
variable {P : Program} {w : World} {K : PySem.W.Frag} {mg : Str → Option Value} {base : Heap} {cx : CXT} {k : Nat} {f : Addr} {fd : FuncData} {ps : List Str} {sp : Sp}
theorem FnG.of (F : FnOk P w K mg base cx k f fd ps sp) : FnG P w K mg base cx k f fd ps sp :=
  ⟨F.len, fun A o s H ar us vs Q E _ => F.run A o s H ar us vs Q E⟩
theorem FnG.mono {j : Nat} (F : FnG P w K mg base cx j f fd ps sp) (h : j ≤ k) : FnG P w K mg base cx k f fd ps sp :=
  ⟨F.len, fun A o s H ar us vs Q E g r => F.run A o s H ar us vs Q E g (r.mono h)⟩

theorem fnG_of {nm ql : Str} {pr : Arguments} {bd : List Stmt} {sc : Scope} {dV kV dc pm cd ct oc : Value} {an od : Option Addr} {os : Array (Option Value)} {N : List Str}
    (lk : K.lookup f = some ⟨oc, od, .func (PySem.W.fnOf nm ql pr bd sc dV kV dc pm an cd ct), os⟩) (hc : PySem.W.codeIn K cd ql = true) (S : FnScope N ps sc)
    (len : ∀ vs H Q E, sp vs H Q E → vs.length = ps.length)
    (hb : ∀ (A : Around) (o : List Env) (s : Shared) (H : Hp) (vs : List V) (Q : VK) (E : XK), A.guards = some [] → Room k (A.deeper (envOfC ql sc s.heap.objs.size f cd)) → sp vs H Q E →
      ∃ t, PSs (cxOf cx P w K mg base N ql sc f cd A o s H E) bd t ∧ t { nx := fun _ H' => Q .non H', rt := Q } (start N vs) H) :
    FnG P w K mg base cx (k + 1) f (PySem.W.fnOf nm ql pr bd sc dV kV dc pm an cd ct) ps sp where
  len := len
  run := by
    intro A o s H ar us vs Q E hg hr e0 bi vv q
    have hl := len vs H Q E q
    have kp : ∀ b ob, base.get? b = some ob → s.heap.get? b = some ob := fun b ob e => (e0.bs b ob e).1
    have KX : K.In s.heap := e0.mod.kin.keeps kp
    have nl : s.heap.NoLimit := e0.mod.nolimit.keeps kp
    refine codeAny_call_function hr.depth (KX f _ lk) rfl S.co S.gen rfl (PySem.W.codeRec_of KX hc) (bi _ _ _ _ ?_)
    refine wpAny_newFunctionEnv_cells S.kind (fun y hy => ?_) fun ev he s1 x => ?_
    · obtain ⟨n, v⟩ := y
      rcases S.par n (List.of_mem_zip hy).1 with e | e
      · exact Or.inl e
      · exact Or.inr ⟨e, PySem.W.cellsFrom_some _ _ _ (Or.inl e)⟩
    · subst he
      obtain ⟨t, ht, z⟩ := hb A o s H vs Q E hg (hr.deeper _) q
      have J0 : Inv (cxOf cx P w K mg base N ql sc f cd A o s H E) [] (start N vs) H s1 := inv_start S hr.hd e0 hl vv x
      refine ⟨nl.keeps x.toInCall.keep, codeAny_func (wpAny_mono (ht.run [] s1 (start N vs) H _ J0 z) (fun fl s2 h2 => ?_) fun _ _ h2 => h2)⟩
      cases fl with
      | brk => obtain ⟨_, _, _, z⟩ := h2; exact z.elim
      | cont => obtain ⟨_, _, _, z⟩ := h2; exact z.elim
      | next =>
        obtain ⟨σ2, H2, J, z⟩ := h2
        exact ⟨V.non, H2, J.os, J.bare, J.base, J.hok, rfl, z⟩
      | ret u =>
        obtain ⟨v, σ2, H2, J, rv, z⟩ := h2
        exact ⟨v, H2, J.os, J.bare, J.base, J.hok, rv, z⟩
theorem okG {nm ql : Str} {st : Stmt} {N : List Str} (F : Fun K nm ql st f fd) (S : FnScope N ps (defScope st)) (len : ∀ vs H Q E, sp vs H Q E → vs.length = ps.length)
    (hb : ∀ (cd : Value) (A : Around) (o : List Env) (s : Shared) (H : Hp) (vs : List V) (Q : VK) (E : XK), A.guards = some [] → Room k (A.deeper (envOfC ql (defScope st) s.heap.objs.size f cd)) → sp vs H Q E →
      ∃ t, PSs (cxOf cx P w K mg base N ql (defScope st) f cd A o s H E) (defBody st) t ∧ t { nx := fun _ H' => Q .non H', rt := Q } (start N vs) H) :
    FnG P w K mg base cx (k + 1) f fd ps sp := by
  obtain ⟨_, _, _, _, _, _, cd, _, _, rfl, lk, hc⟩ := F.ex
  exact fnG_of lk hc S len fun A o s H vs Q E g r q => hb cd A o s H vs Q E g r q
theorem okG0 {nm ql : Str} {st : Stmt} {N : List Str} (F : Fun K nm ql st f fd) (S : FnScope N ps (defScope st)) (len : ∀ vs H Q E, sp vs H Q E → vs.length = ps.length)
    (hb : ∀ (cd : Value) (A : Around) (o : List Env) (s : Shared) (H : Hp) (vs : List V) (Q : VK) (E : XK), A.guards = some [] → Room k (A.deeper (envOfC ql (defScope st) s.heap.objs.size f cd)) → sp vs H Q E →
      ∃ t, PSs (cxOf CX0 P w K mg base N ql (defScope st) f cd A o s H E).nox (defBody st) t ∧ t { nx := fun _ H' => Q .non H', rt := Q } (start N vs) H) :
    FnG P w K mg base CX0 (k + 1) f fd ps sp :=
  okG F S len fun cd A o s H vs Q E g r q => by
    obtain ⟨t, h, z⟩ := hb cd A o s H vs Q E g r q
    exact ⟨t, h.nox, z⟩
end

section
variable {X : Cx} {cx : CXT} {k : Nat} {f : Addr} {fd : FuncData} {ps : List Str} {sp : Sp} {E : XK} {x : Str} {p pos : Pos} {e : Expr} {es : List Expr} {t : TA}
theorem run_fnG {pins : List (Addr × Obj)} {σ : L2.St} {H : Hp} {s : Shared} {Q : VK} {us : List Value} {vs : List V} (F : FnG X.prog X.w X.K X.mg X.base cx k f fd ps sp) (hg : X.A.guards = some []) (hr : Room k X.A) (hb : Binds X.K fd ps [])
    (hx : Passes cx X E) (I : Inv X pins σ H s) (r : Vals vs us) (h : sp vs H Q E) : wpAny (model X.prog X.w) X.A (call (.ref f) us) (EP X pins σ Q) X.xe s := by
  have e1 : us ++ [] = us := List.append_nil us
  have hl : (us ++ []).length = ps.length := by rw [e1, ← r.length]; exact F.len _ _ _ _ h
  have b1 := hb s us I.kIn hl
  rw [e1] at b1
  refine wpAny_call (codeAny_mono (F.run X.A X.stack s H ⟨us, []⟩ us vs Q E hg hr I.env0 b1 r h) fun rr s' hq => ?_)
  match rr, hq with
  | .error er, hq => exact hx pins σ H s er s' I hq
  | .ok (.ret u), hq => exact I.after hq
  | .ok .next, hq => exact False.elim hq
  | .ok .brk, hq => exact False.elim hq
  | .ok .cont, hq => exact False.elim hq
def tGo (sp : Sp) (E : XK) (t : TA) : TE := fun σ H Q => t σ H fun vs H1 => sp vs H1 Q E
/-- f(e, ..) -/
theorem pe_go (F : FnG X.prog X.w X.K X.mg X.base cx k f fd ps sp) (hg : X.A.guards = some []) (hr : Room k X.A) (gl : Gl X x) (hm : X.mg x = some (.ref f)) (hk : PySem.W.keepIn X.K (.ref f) = true) (hb : Binds X.K fd ps []) (hx : Passes cx X E)
    (ha : PA X (e :: es) t) (h1 : (x == ("__debug__" : Str)) = false := by decide) (h2 : starEach (e :: es) X.env = (false, eval e X.env) :: starEach es X.env := by rfl) (h3 : (backTo pos (starEach es X.env)).any (·.1) = false := by rfl) :
    PE X (.Call (.Name x p) (e :: es) [] pos) (tGo sp E t) := by
  refine ⟨fun pi s σ H Q I h => wpAny_Call_Name_kw (ld_glob I gl hm ?_ h1)⟩
  refine PySem.W.callWith_K (h₀ := X.base) I.ok.mod.kin hk (thn (ha.run pos pi s σ H _ I h) ?_) h2 h3
  rintro us s1 ⟨vs, H1, I1, r, q⟩
  exact ⟨I1.kIn, run_fnG F hg hr hb hx I1 r q⟩
theorem pe_go0 (F : FnG X.prog X.w X.K X.mg X.base cx k f fd ps sp) (hg : X.A.guards = some []) (hr : Room k X.A) (gl : Gl X x) (hm : X.mg x = some (.ref f)) (hk : PySem.W.keepIn X.K (.ref f) = true) (hb : Binds X.K fd ps []) (hx : Passes cx X E)
    (h1 : (x == ("__debug__" : Str)) = false := by decide) : PE X (.Call (.Name x p) [] [] pos) (tGo sp E tNil) := by
  refine ⟨fun pi s σ H Q I h => wpAny_Call_Name_kw (ld_glob I gl hm ?_ h1)⟩
  exact PySem.W.callWith_K0 I.kIn hk (run_fnG (us := []) F hg hr hb hx I .nil h)
end

/-! the law's own call -/
section
variable {P : Program} {w : World} {K : PySem.W.Frag} {mg mb : Str → Option Value} {cx : CXT} {k : Nat} {fa a : Addr} {fd : FuncData} {x : Str} {sp : Sp} {s1 : Shared} {vs : List Value} {ns : List Int}
/-- the heap at the entry: the script alone is tracked, as it stands -/
def Hin (K : PySem.W.Frag) (a : Addr) (o : Obj) (ns : List Int) : Hp := fun b => if b = a ∧ K.lookup a = none then some (.frz o (.lst (ns.map V.int))) else none
theorem law_callG (KX : K.In s1.heap) (hns : s1.heap.Ns mainGlobals mg) (hb : s1.heap.Ns builtinsNs mb) (hbb : ∀ x : Str, x ≠ "__name__" → mb x = bootBuiltins x) (hlim : s1.heap.NoLimit) (hsy : ∃ mm, s1.heap.Ns sysModules mm) (hg : s1.gens = #[])
    (ha : s1.heap.get? a = some { cls := .type "list", data := .seq vs.toArray }) (hi : IntsAre vs ns) (hl : ns.length ≤ sizeLine) (hr : Room k callerA)
    (F : ∀ base : Heap, K.In base → base.Ns mainGlobals mg → (∃ mm, base.Ns sysModules mm) → FnG P w K mg base cx k fa fd [x] sp)
    (hbind : ∀ (s : Shared) (u : Value), BindsTo s fd ⟨[u], []⟩ [(x, u)])
    (hsp : ∀ H : Hp, SqL K H a (ns.map V.int) → sp [.ref a] H (fun v _ => v = .bl true) fun _ _ _ => False)
    (hcx : ∀ H e s', cx [] H s1 (fun _ _ _ => False) e s' → False) :
    codeAny (model P w) callerA (.call (.ref fa) ⟨[.ref a], []⟩) (fun r s' => r = .ok (.ret (.bool true)) ∧ OldK s1.heap s'.heap ∧ s'.os = s1.os ∧ AllBare s'.gens) s1 := by
  generalize ho : ({ cls := .type "list", data := .seq vs.toArray } : Obj) = o at ha
  have rv := vals_ints hi
  have hlen := hi.length
  have hH : ∀ b u, Hin K a o ns b = some u → b = a ∧ K.lookup a = none ∧ u = .frz o (.lst (ns.map V.int)) := fun b u e => by
    unfold Hin at e
    by_cases c : b = a ∧ K.lookup a = none
    · rw [if_pos c] at e; exact ⟨c.1, c.2, (Option.some.inj e).symm⟩
    · rw [if_neg c] at e; cases e
  have hok : HOk P w (Hin K a o ns) s1.heap := fun b u e => by
    obtain ⟨rfl, _, rfl⟩ := hH b u e
    exact ⟨ha, by rw [List.length_map]; exact hl, vs, _, rv, by rw [ha, ← ho]⟩
  have hS : SqL K (Hin K a o ns) a (ns.map V.int) := by
    cases hk : K.lookup a with
    | none => exact Or.inl (Or.inr ⟨o, if_pos ⟨rfl, hk⟩⟩)
    | some o2 =>
      have e := KX a o2 hk
      rw [ha] at e
      cases e
      exact Or.inr ⟨_, vs.toArray, 0, hk, by rw [← ho], by rw [← ho], by rw [← ho], by rw [List.size_toArray, hlen]; exact hl, rv⟩
  have toB : ∀ {b : Addr} {ob : Obj}, s1.heap.get? b = some ob → Hin K a o ns b = none → (hidT s1.heap (Hin K a o ns)).get? b = some ob := fun e n => hidT_get e n
  have dictN : ∀ {b : Addr} {ob : Obj}, s1.heap.get? b = some ob → (∀ it n, ob.data ≠ .seq it n) → Hin K a o ns b = none := fun {b ob} e d => by
    cases q : Hin K a o ns b with
    | none => rfl
    | some u =>
      obtain ⟨rfl, _, _⟩ := hH b u q
      rw [ha] at e
      cases e
      exact (d vs.toArray 0 (by rw [← ho])).elim
  have nsB : ∀ {b : Addr} {m : Str → Option Value}, s1.heap.Ns b m → (hidT s1.heap (Hin K a o ns)).Ns b m := fun {b m} h => by
    obtain ⟨ob, es, ep, e, d, r⟩ := h
    exact ⟨ob, es, ep, toB e (dictN e fun it n z => by rw [d] at z; cases z), d, r⟩
  have KB : K.In (hidT s1.heap (Hin K a o ns)) := fun b ob e => toB (KX b ob e) (by
    cases q : Hin K a o ns b with
    | none => rfl
    | some u =>
      obtain ⟨rfl, z, _⟩ := hH b u q
      rw [z] at e; cases e)
  have lim : (hidT s1.heap (Hin K a o ns)).NoLimit := by
    obtain ⟨mc, h1, h2⟩ := hlim
    exact ⟨mc, nsB h1, h2⟩
  have M : Mod K mg (hidT s1.heap (Hin K a o ns)) := ⟨KB, nsB hns, ⟨mb, nsB hb, hbb⟩, lim⟩
  have e0 : Env0 P w K mg (hidT s1.heap (Hin K a o ns)) callerA [] s1 (Hin K a o ns) :=
    ⟨rfl, M, fun b ob e => of_hidT e, Nat.le_of_eq (hidT_size _ _), trivial, fun b z => (nomatch z), hok, .of_eq hg⟩
  have G := F _ KB (nsB hns) (by obtain ⟨mm, z⟩ := hsy; exact ⟨mm, nsB z⟩)
  refine codeAny_mono (G.run callerA [] s1 _ ⟨[.ref a], []⟩ [.ref a] [.ref a] _ _ rfl hr e0 (hbind s1 (.ref a)) (.cons rfl .nil) (hsp _ hS)) fun r s2 h => ?_
  match r, h with
  | .error er, h => exact (hcx _ er s2 h).elim
  | .ok .next, h => exact False.elim h
  | .ok .brk, h => exact False.elim h
  | .ok .cont, h => exact False.elim h
  | .ok (.ret u), h =>
    obtain ⟨v, H2, os, br, un, hok2, r2, q⟩ := h
    have q2 : v = .bl true := q
    subst q2
    obtain rfl : u = Value.bool true := r2
    refine ⟨rfl, OldK.of_keep fun b ob e => ?_, os, br⟩
    cases z : Hin K a o ns b with
    | none => exact un.keep b ob e z (fun m => nomatch m) (fun m => nomatch m)
    | some u =>
      obtain ⟨rfl, _, rfl⟩ := hH b u z
      obtain ⟨y, _⟩ := hok2 b _ (un.frzs b _ _ z)
      rw [ha] at e
      cases e
      exact y
end
/-- the end of a law: what k_head leaves, from the law's promise -/
theorem walkG {l : PySem.W.OpenLaw} {n k : Nat} {q : Program} {lo : List Str} {XP : (Str → Option Value) → Heap → Prop} {YP : World → Heap → Prop} {d : DefRec} {K : Params → PySem.W.Frag} {cx : World → CXT} {sp : World → Sp} {x : Str}
    (hn : l.most = some n) (hn2 : n ≤ sizeLine) (hdf : d.params.defaults = []) (hr : Room k callerA) (him : importsNone q = true)
    (hY : ∀ (w : World) (h : Heap), YP w h → (K w.params).In h)
    (F : ∀ (w : World) (mg : Str → Option Value) (fa : Addr) (h : Heap), (K w.params).In h → h.Ns mainGlobals mg → mg d.name = some (.ref fa) →
      ∃ fd : FuncData, (∀ (s : Shared) (u : Value), BindsTo s fd ⟨[u], []⟩ [(x, u)]) ∧
        ∀ base : Heap, (K w.params).In base → base.Ns mainGlobals mg → (∃ mm, base.Ns sysModules mm) → FnG l.prog w (K w.params) mg base (cx w) k fa fd [x] (sp w))
    (hsp : ∀ (w : World) (H : Hp) (a : Addr) (ns : List Int), ns.length ≤ n → (∀ z ∈ ns, Builtin.Int.intBits z ≤ 1048576) → SqL (K w.params) H a (ns.map V.int) → sp w [.ref a] H (fun v _ => v = .bl true) fun _ _ _ => False)
    (hcx : ∀ (w : World) (H : Hp) (s : Shared) (e : Value) (s' : Shared), cx w [] H s (fun _ _ _ => False) e s' → False) :
    PySem.W.WalkO q lo XP YP l.row.toRowW d [] (fun f vs => PySem.call f vs) := by
  refine Att.attach_callB hn hdf ?_
  intro w s0 s1 mg mb fa o pm cd doc a vs ns G Y ho hd hcd hmg hob hin hle hbi hge
  obtain ⟨fd, hb, hF⟩ := F w mg fa _ (hY w _ Y) G.T.g hmg
  have hsy : ∃ mm, s1.heap.Ns sysModules mm := by
    obtain ⟨mm, z, _⟩ := (G.T.seer him).mods
    exact ⟨mm, z⟩
  exact law_callG (hY w _ Y) G.T.g G.T.b G.T.builtins G.T.nolimit hsy hge hob hin (Nat.le_trans hle hn2) hr hF hb (fun H hS => hsp w H a ns hle hbi hS) fun H e s' => hcx w H s1 e s'

/-! data, by what repr shows -/
def keyD (k : Key) : PyData := match k with | .inl i => PyData.int i | .inr x => PyData.str x
mutual
inductive Dn (K : PySem.W.Frag) (H : Hp) : V → PyData → Prop
  | non : Dn K H .non .none
  | bl (b : Bool) : Dn K H (.bl b) (.bool b)
  | int (i : Int) : Dn K H (.int i) (.int i)
  | str (x : Str) : Dn K H (.str x) (.str x)
  | lst {a : Addr} {xs : List V} {ds : List PyData} : Rd H a (.lst xs) → DnA K H xs ds → Dn K H (.ref a) (.list ds)
  | tup {a : Addr} {xs : List V} {ds : List PyData} : SqT K H a xs → DnA K H xs ds → Dn K H (.ref a) (.tuple ds)
  | dic {a : Addr} {kvs : List (Key × V)} {ds : List PyData} : Rd H a (.dK kvs) → DnA K H (kvs.map (·.2)) ds → Dn K H (.ref a) (.dict ((kvs.map fun p => keyD p.1).zip ds))
inductive DnA (K : PySem.W.Frag) (H : Hp) : List V → List PyData → Prop
  | nil : DnA K H [] []
  | cons {v : V} {vs : List V} {d : PyData} {ds : List PyData} : Dn K H v d → DnA K H vs ds → DnA K H (v :: vs) (d :: ds)
end
end U

namespace U
open PySem L2 PySem.Spec PyProof.Rows

section
variable {X : Cx} {pins : List (Addr × Obj)} {σ : L2.St} {H : Hp} {s : Shared}
theorem rd_low (I : Inv X pins σ H s) (hs : ∃ mm, X.base.Ns sysModules mm) {a : Addr} {u : HO} (r : Rd H a u) : a ≠ sysModules := by
  rintro rfl
  obtain ⟨mm, ob, es, ep, e, _⟩ := hs
  have n := (I.bs _ ob e).2
  rcases r with r | ⟨o, r⟩ <;> (rw [n] at r; cases r)
theorem pairs_reads {P : Program} {w : World} {h : Heap} : ∀ {es : List DictEntry} {kvs : List (Key × V)} {vs : List (Key × Value)}, Pairs (mixKind P w) es vs → KV kvs vs →
    ReadsAll h (es.map (·.key)) (kvs.map fun p => keyD p.1) [] ∧ Vals (kvs.map (·.2)) (es.map (·.val))
  | _, _, _, .nil, .nil => ⟨.nil, .nil⟩
  | e :: es, (k, v) :: kvs, (k2, u) :: vs, .cons h1 h2 h3, .cons ⟨q1, q2⟩ h4 => by
    obtain ⟨r1, r2⟩ := pairs_reads (h := h) h3 h4
    have q1 : k = k2 := q1
    subst q1
    refine ⟨?_, .cons (show RelV v e.val by rw [h2]; exact q2) r2⟩
    show ReadsAll h (e.key :: _) (keyD k :: _) ([] ++ [])
    refine .cons ?_ r1
    rcases keyIs_shape h1 with ⟨i, t, z, y⟩ | ⟨x, t, z, y⟩
    · have z : k = Sum.inl i := z
      rw [y, z]; exact Reads.int i t
    · have z : k = Sum.inr x := z
      rw [y, z]; exact Reads.str x t
mutual
theorem Dn.reads (I : Inv X pins σ H s) (hs : ∃ mm, X.base.Ns sysModules mm) : ∀ {v : V} {d : PyData} {u : Value}, Dn X.K H v d → RelV v u → ∃ as, Reads s.heap u d as ∧ sysModules ∉ as
  | _, _, _, .non, r => by cases r; exact ⟨[], Reads.none, by simp⟩
  | _, _, _, .bl b, r => by cases r; exact ⟨[], Reads.bool b, by simp⟩
  | _, _, _, .int i, r => by obtain ⟨t, rfl⟩ := r; exact ⟨[], Reads.int i t, by simp⟩
  | _, _, _, .str x, r => by obtain ⟨t, rfl⟩ := r; exact ⟨[], Reads.str x t, by simp⟩
  | _, _, _, .lst h1 h2, r => by
    cases r
    obtain ⟨its, rv, ⟨o, n, ho, hc, _, hd⟩, _⟩ := I.list (Or.inl h1)
    obtain ⟨as, q1, q2⟩ := DnA.reads I hs h2 rv
    exact ⟨_, Reads.list ho hc hd q1, fun m => (List.mem_cons.mp m).elim (fun e => rd_low I hs h1 e.symm) q2⟩
  | _, _, _, .tup h1 h2, r => by
    cases r
    obtain ⟨its, rv, ⟨o, ho, hc, n, hd⟩, _⟩ := I.tuple h1
    obtain ⟨as, q1, q2⟩ := DnA.reads I hs h2 rv
    exact ⟨_, Reads.tuple ho hc hd q1, q2⟩
  | _, _, _, .dic (kvs := kvs) (ds := ds) h1 h2, r => by
    cases r
    obtain ⟨_, low, vs, kv, o, es, ep, ho, hc, hd, _, hp, _⟩ := h1.ok I.hok
    obtain ⟨q1, q2⟩ := pairs_reads (h := s.heap) hp kv
    obtain ⟨as, q3, q4⟩ := DnA.reads I hs h2 q2
    have el : ds.length = kvs.length := by
      have e1 := DnA.len h2
      rw [List.length_map] at e1
      exact e1.symm
    have z1 : ((kvs.map fun p => keyD p.1).zip ds).map (·.1) = kvs.map fun p => keyD p.1 := by
      rw [List.map_fst_zip]; rw [List.length_map]; omega
    have z2 : ((kvs.map fun p => keyD p.1).zip ds).map (·.2) = ds := by
      rw [List.map_snd_zip]; rw [List.length_map]; omega
    refine ⟨_, Reads.dict ho hc.1 hd (kvs := (kvs.map fun p => keyD p.1).zip ds) (as := []) (bs := as) ?_ ?_, ?_⟩
    · rw [z1]; exact q1
    · rw [z2]; exact q3
    · intro m
      rcases List.mem_cons.mp m with e | e
      · exact rd_low I hs h1 e.symm
      · exact q4 (by simpa using e)
theorem DnA.reads (I : Inv X pins σ H s) (hs : ∃ mm, X.base.Ns sysModules mm) : ∀ {vs : List V} {ds : List PyData} {us : List Value}, DnA X.K H vs ds → Vals vs us → ∃ as, ReadsAll s.heap us ds as ∧ sysModules ∉ as
  | _, _, _, .nil, r => by cases r; exact ⟨[], ReadsAll.nil, by simp⟩
  | _, _, _, .cons h1 h2, r => by
    cases r with
    | cons r1 r2 =>
      obtain ⟨as, q1, q2⟩ := Dn.reads I hs h1 r1
      obtain ⟨bs, q3, q4⟩ := DnA.reads I hs h2 r2
      exact ⟨_, ReadsAll.cons q1 q3, fun m => (List.mem_append.mp m).elim q2 q4⟩
theorem DnA.len {K : PySem.W.Frag} : ∀ {vs : List V} {ds : List PyData}, DnA K H vs ds → vs.length = ds.length
  | _, _, .nil => rfl
  | _, _, .cons _ h => by rw [List.length_cons, List.length_cons, DnA.len h]
end
end
/-! what may be shown, and how long it is -/
mutual
def good : PyData → Prop
  | .none => True
  | .bool _ => True
  | .int i => i.natAbs < 10 ^ 100
  | .str x => ∀ c ∈ x.cps.toList, c < 4294967296
  | .list xs => goodA xs
  | .tuple xs => goodA xs
  | .dict kvs => goodK kvs
def goodA : List PyData → Prop
  | [] => True
  | x :: xs => good x ∧ goodA xs
def goodK : List (PyData × PyData) → Prop
  | [] => True
  | (k, v) :: r => good k ∧ good v ∧ goodK r
end
mutual
def sz : PyData → Nat
  | .none => 4
  | .bool _ => 5
  | .int _ => 102
  | .str x => 10 * x.length + 2
  | .list xs => szA xs + 3
  | .tuple xs => szA xs + 3
  | .dict kvs => szK kvs + 3
def szA : List PyData → Nat
  | [] => 0
  | x :: xs => sz x + 2 + szA xs
def szK : List (PyData × PyData) → Nat
  | [] => 0
  | (k, v) :: r => sz k + sz v + 4 + szK r
end
theorem int_len {i : Int} (h : i.natAbs < 10 ^ 100) : (Str.ofString (toString i)).length ≤ 102 := by
  have e := int_text_length_le10 (k := 100) (by decide) h
  rw [PySem.ofString_length]
  omega
mutual
theorem good_show : ∀ {d : PyData}, good d → d.showable = true ∧ d.shown.length ≤ sz d
  | .none, _ => ⟨rfl, by decide +kernel⟩
  | .bool b, _ => ⟨rfl, by cases b <;> decide +kernel⟩
  | .int i, h => by
    refine ⟨?_, ?_⟩
    · simp only [PyData.showable, decide_eq_true_eq]
      have h : i.natAbs < 10 ^ 100 := by simpa only [good] using h
      refine log2_small (Nat.lt_of_lt_of_le h ?_)
      decide +kernel
    · have h : i.natAbs < 10 ^ 100 := by simpa only [good] using h
      exact int_len h
  | .str x, h => by
    refine ⟨rfl, ?_⟩
    have h : ∀ c ∈ x.cps.toList, c < 4294967296 := by simpa only [good] using h
    simp only [PyData.shown, sz]
    exact StrLaws.reprText_len x h
  | .list xs, h => by
    have q := goodA_show (ds := xs) (by simpa only [good] using h)
    refine ⟨by simpa only [PyData.showable] using q.1, ?_⟩
    simp only [PyData.shown, sz]
    have := listText_len_le (PyData.shownAll xs)
    have e : (PyData.shownAll xs).length = xs.length := q.2.2
    omega
  | .tuple xs, h => by
    have q := goodA_show (ds := xs) (by simpa only [good] using h)
    refine ⟨by simpa only [PyData.showable] using q.1, ?_⟩
    simp only [PyData.shown, sz]
    have := tupleText_len_le (PyData.shownAll xs)
    have e : (PyData.shownAll xs).length = xs.length := q.2.2
    omega
  | .dict kvs, h => by
    have q := goodK_show (ds := kvs) (by simpa only [good] using h)
    refine ⟨by simpa only [PyData.showable] using q.1, ?_⟩
    simp only [PyData.shown, sz]
    have := dictText_len_le (PyData.shownKv kvs)
    have e : (PyData.shownKv kvs).length = kvs.length := q.2.2
    omega
theorem goodA_show : ∀ {ds : List PyData}, goodA ds → PyData.showableAll ds = true ∧ ((PyData.shownAll ds).map (·.length)).sum + 2 * ds.length ≤ szA ds ∧ (PyData.shownAll ds).length = ds.length
  | [], _ => ⟨rfl, by simp [PyData.shownAll, szA], rfl⟩
  | x :: xs, h => by
    obtain ⟨h1, h2⟩ : good x ∧ goodA xs := by simpa only [goodA] using h
    obtain ⟨a1, a2⟩ := good_show h1
    obtain ⟨b1, b2, b3⟩ := goodA_show h2
    refine ⟨by simp only [PyData.showableAll, a1, b1, Bool.and_self], ?_, by simp only [PyData.shownAll, List.length_cons, b3]⟩
    simp only [PyData.shownAll, szA, List.map_cons, List.sum_cons, List.length_cons]
    omega
theorem goodK_show : ∀ {ds : List (PyData × PyData)}, goodK ds → PyData.showableKv ds = true ∧ ((PyData.shownKv ds).map (·.length)).sum + 2 * ds.length ≤ szK ds ∧ (PyData.shownKv ds).length = ds.length
  | [], _ => ⟨rfl, by simp [PyData.shownKv, szK], rfl⟩
  | (k, v) :: r, h => by
    obtain ⟨h1, h2, h3⟩ : good k ∧ good v ∧ goodK r := by simpa only [goodK] using h
    obtain ⟨a1, a2⟩ := good_show h1
    obtain ⟨c1, c2⟩ := good_show h2
    obtain ⟨b1, b2, b3⟩ := goodK_show h3
    refine ⟨by simp only [PyData.showableKv, a1, c1, b1, Bool.and_self], ?_, by simp only [PyData.shownKv, List.length_cons, b3]⟩
    have e : (": " : Str).length = 2 := by decide +kernel
    simp only [PyData.shownKv, szK, List.map_cons, List.sum_cons, List.length_cons, Str.length_append]
    have e : (Str.ofString ": ").length = 2 := by decide +kernel
    omega
end
/-- repr -/
def rRepr (K : PySem.W.Frag) : List V → Hp → VK → Prop := fun xs H Q => ∃ v d, xs = [v] ∧ Dn K H v d ∧ good d ∧ d.depth ≤ 100 ∧ sz d ≤ 16000000 ∧ Q (.str d.shown) H
theorem call_repr {X : Cx} {k : Nat} (hg : X.A.guards = some []) (hr : Room k X.A) (hs : ∃ mm, X.base.Ns sysModules mm) : CallR X (.builtin "repr") (rRepr X.K) := by
  rintro pi s σ H xs us Q I vv ⟨v, d, rfl, hd, g, dp, zz, q⟩
  obtain ⟨u, rfl, rv⟩ := Vals.one vv
  obtain ⟨sh, le⟩ := good_show g
  have le2 : d.shown.length ≤ sizeLine := Nat.le_trans (Nat.le_trans le zz) (by decide)
  have hu := hr.un
  cases hd with
  | non => cases rv; exact PySem.P.repr_of_none ⟨.str _, H, I.tok _, ⟨_, rfl⟩, q⟩
  | bl b => cases rv; exact PySem.P.repr_of_bool ⟨.str _, H, I.tok _, ⟨_, rfl⟩, q⟩
  | int i =>
    obtain ⟨t, rfl⟩ := rv
    simp only [PyData.showable, decide_eq_true_eq] at sh
    exact PySem.P.repr_of_int sh ⟨.str _, H, I.tok _, ⟨_, rfl⟩, q⟩
  | str x =>
    obtain ⟨t, rfl⟩ := rv
    exact PySem.P.repr_of_str ⟨.str _, H, I.tok _, ⟨_, rfl⟩, q⟩ le2
  | lst h1 h2 =>
    obtain ⟨as, r1, r2⟩ := Dn.reads I hs (.lst h1 h2) rv
    cases rv
    exact repr_of_reads' r1 sh (fun _ => r2) hg (by omega) (fun _ _ e => e) (fun h' u tk hk => ⟨.str _, H, I.kept hk, ⟨_, rfl⟩, q⟩) le2
  | tup h1 h2 =>
    obtain ⟨as, r1, r2⟩ := Dn.reads I hs (.tup h1 h2) rv
    cases rv
    exact repr_of_reads' r1 sh (fun _ => r2) hg (by omega) (fun _ _ e => e) (fun h' u tk hk => ⟨.str _, H, I.kept hk, ⟨_, rfl⟩, q⟩) le2
  | dic h1 h2 =>
    obtain ⟨as, r1, r2⟩ := Dn.reads I hs (.dic h1 h2) rv
    cases rv
    exact repr_of_reads' r1 sh (fun _ => r2) hg (by omega) (fun _ _ e => e) (fun h' u tk hk => ⟨.str _, H, I.kept hk, ⟨_, rfl⟩, q⟩) le2
end U

namespace U
open PySem L2 PySem.Spec PyProof.Rows

/-! operators, whatever the values -/
def rStrCat : R2 := fun x y H Q => ∃ i j, x = .str i ∧ y = .str j ∧ i.length + j.length ≤ sizeLine ∧ Q (.str (i ++ j)) H
def uAdd (K : PySem.W.Frag) : R2 := fun x y H Q => (rI0 fun i j => .int (i + j)) x y H Q ∨ rStrCat x y H Q ∨ rCat x y H Q ∨ rCatA K x y H Q
def uSub : R2 := rI0 fun i j => .int (i - j)
def uMul : R2 := fun x y H Q => (rI CMul fun i j => .int (i * j)) x y H Q ∨ rRep x y H Q
def uMod : R2 := rI (fun _ j => 0 < j) fun i j => .int (i % j)
def uDiv : R2 := rI CDivW fun i j => .int (i / j)
def uPow : R2 := rI CPow fun i j => .int (i ^ j.toNat)
def uLt : R2 := rI0 fun i j => .bl (decide (i < j))
def uLe : R2 := rI0 fun i j => .bl (decide (i ≤ j))
def uGt : R2 := rI0 fun i j => .bl (decide (j < i))
def uGe : R2 := rI0 fun i j => .bl (decide (j ≤ i))
def uEq (K : PySem.W.Frag) : R2 := fun x y H Q => rEq x y H Q ∨ rEqD K x y H Q
def uNe (K : PySem.W.Frag) : R2 := fun x y H Q => rNe x y H Q ∨ rNeD K x y H Q
def rInSign (ng : Bool) : R2 := fun x y H Q => ∃ (c : Nat) (z : Str), x = .str ⟨#[c]⟩ ∧ y = .str z ∧ Q (.bl (if ng then !decide (c ∈ z.cps.toList) else decide (c ∈ z.cps.toList))) H
def uIn (K : PySem.W.Frag) (ng : Bool) : R2 := fun x y H Q => rInSign ng x y H Q ∨ rIn K ng x y H Q
def uIs : R2 := fun x y H Q => y = .non ∧ Q (.bl (decide (x = .non))) H
def uIsNot : R2 := fun x y H Q => y = .non ∧ Q (.bl (!decide (x = .non))) H
section
variable {X : Cx} {k : Nat} {K : PySem.W.Frag}
theorem o_add (hK : X.K = K) : OpR X (binaryOp .Add) (uAdd K) := hK ▸ op_add.or (op_add_str.or (op_cat.or op_catA))
theorem o_sub : OpR X (binaryOp .Sub) uSub := op_sub
theorem o_mul : OpR X (binaryOp .Mult) uMul := op_mul.or op_rep
theorem o_mod : OpR X (binaryOp .Mod) uMod := op_mod
theorem o_div : OpR X (binaryOp .FloorDiv) uDiv := op_fdivW
theorem o_pow : OpR X (binaryOp .Pow) uPow := op_pow
theorem o_lt : OpR X (compareOp .Lt) uLt := op_lt
theorem o_le : OpR X (compareOp .LtE) uLe := op_le
theorem o_gt : OpR X (compareOp .Gt) uGt := op_gt
theorem o_ge : OpR X (compareOp .GtE) uGe := op_ge
theorem o_eq (hK : X.K = K) (hr : Room k X.A) : OpR X (compareOp .Eq) (uEq K) := hK ▸ op_eq.or (op_eqD hr.units)
theorem o_ne (hK : X.K = K) (hr : Room k X.A) : OpR X (compareOp .NotEq) (uNe K) := hK ▸ op_ne.or (op_neD hr.units)
theorem o_in (hK : X.K = K) : OpR X (compareOp .In) (uIn K false) := hK ▸ op_in_sign.or op_in_seq
theorem o_notin (hK : X.K = K) : OpR X (compareOp .NotIn) (uIn K true) := hK ▸ op_notIn_sign.or op_notIn_seq
theorem o_is : OpR X (compareOp .Is) uIs := op_isN
theorem o_isnot : OpR X (compareOp .IsNot) uIsNot := op_notN
/-- a built-in type's name as a value -/
theorem pe_ty {x : Str} {n : String} {pos : Pos} (hg : Gl X x) (hm : X.mg x = none) (hv : bootBuiltins x = some (.type n)) (hn : x ≠ "__name__" := by decide) (hd : (x == ("__debug__" : Str)) = false := by decide) : PE X (.Name x pos) (tC (.ty n)) :=
  pe_bltn hg hm hv rfl hn hd
def uSl (K : PySem.W.Frag) : V → Option Int → Option Int → Hp → VK → Prop := fun x lo hi H Q => rSlL K x lo hi H Q ∨ rSlS x lo hi H Q ∨ rSlA K x lo hi H Q
theorem ix_u (hK : X.K = K) : IxR X (rIx K) := hK ▸ ix_seq
theorem sl_u (hK : X.K = K) : SlR X (uSl K) := hK ▸ sl_list.or (sl_str.or sl_tupA)
end

/-! steps -/
section
variable {K : PySem.W.Frag} {σ : L2.St} {H : Hp} {Q : VK} {D : Ends} {t u : TS} {ta tb tc te : TE} {tA tB' : TT} {r r' : R2} {x y v : V} {i : Nat} {n m : Int} {a b : Str}
theorem s_seq (h : t { D with nx := u D } σ H) : tSeq t u D σ H := h
theorem s_next (h : D.nx σ H) : tNext D σ H := h
theorem s_brk (h : D.bk σ H) : tBreak D σ H := h
theorem s_cnt (h : D.ct σ H) : tCont D σ H := h
theorem s_retN (h : D.rt .non H) : tRetN D σ H := h
theorem s_var (h : σ[i]? = some (some v)) (q : Q v H) : tVar i σ H Q := ⟨v, h, q⟩
theorem s_c (q : Q v H) : tC v σ H Q := q
theorem s_op (h : ta σ H fun x H1 => tb σ H1 fun y H2 => r x y H2 Q) : tOp r ta tb σ H Q := h
theorem s_un {r : V → Hp → VK → Prop} (h : ta σ H fun x H1 => r x H1 Q) : tUn r ta σ H Q := h
theorem s_neg (q : Q (.int (-n)) H) : (rU fun i => .int (-i)) (.int n) H Q := ⟨n, rfl, q⟩
theorem s_test {Q : Bool → Hp → Prop} (h : te σ H fun x H' => ∃ k, x = .bl k ∧ Q k H') : tTest te σ H Q := h
theorem s_B {Q : Bool → Hp → Prop} (h : te σ H fun x H' => ∃ k, x = .bl k ∧ Q k H') : tB te σ H Q := h
theorem s_bl {P : Bool → Prop} {k : Bool} (q : P k) : ∃ c, V.bl k = .bl c ∧ P c := ⟨k, rfl, q⟩
theorem s_chain (h : ta σ H fun x H1 => tb σ H1 fun y H2 => r x y H2 fun z H3 => ∃ k, z = .bl k ∧ (if k = true then tc σ H3 fun w' H4 => r' y w' H4 Q else Q (.bl false) H3)) : tChain r r' ta tb tc σ H Q := h
theorem s_asg {g : TG} (h : te σ H fun x H1 => g x σ H1 D.nx) : tAsg te g D σ H := h
theorem s_name {R : L2.St → Hp → Prop} (h : R (σ.set i (some v)) H) : gName i v σ H R := h
theorem s_ret (h : te σ H D.rt) : tRet te D σ H := h
theorem s_drop (h : te σ H fun _ H1 => D.nx σ H1) : tDrop te D σ H := h
theorem s_ifS (h : tA σ H fun b H1 => if b = true then t D σ H1 else u D σ H1) : tIfS tA t u D σ H := h
theorem s_and {Q : Bool → Hp → Prop} (h : tA σ H fun c H1 => if c = true then tB' σ H1 Q else Q false H1) : tAnd tA tB' σ H Q := h
theorem s_or {Q : Bool → Hp → Prop} (h : tA σ H fun c H1 => if c = true then Q true H1 else tB' σ H1 Q) : tOr tA tB' σ H Q := h
theorem s_not {Q : Bool → Hp → Prop} (h : tA σ H fun c H1 => Q (!c) H1) : tNot tA σ H Q := h
theorem s_andV (h : ta σ H fun x H1 => ∃ c, x = .bl c ∧ if c = true then tb σ H1 Q else Q (.bl false) H1) : tAndV ta tb σ H Q := h
theorem s_orV (h : ta σ H fun x H1 => ∃ c, x = .bl c ∧ if c = true then Q (.bl true) H1 else tb σ H1 Q) : tOrV ta tb σ H Q := h
theorem s_notV (h : ta σ H fun x H1 => ∃ c, x = .bl c ∧ Q (.bl (!c)) H1) : tNotV ta σ H Q := h
theorem s_if (h : tA σ H fun c H1 => if c = true then ta σ H1 Q else tb σ H1 Q) : tIf tA ta tb σ H Q := h
theorem s_add (q : Q (.int (n + m)) H) : uAdd K (.int n) (.int m) H Q := Or.inl ⟨n, m, rfl, rfl, q⟩
theorem s_adds (h : a.length + b.length ≤ sizeLine) (q : Q (.str (a ++ b)) H) : uAdd K (.str a) (.str b) H Q := Or.inr (Or.inl ⟨a, b, rfl, rfl, h, q⟩)
theorem s_sub (q : Q (.int (n - m)) H) : uSub (.int n) (.int m) H Q := ⟨n, m, rfl, rfl, q⟩
theorem s_mul (h : CMul n m) (q : Q (.int (n * m)) H) : uMul (.int n) (.int m) H Q := Or.inl ⟨n, m, rfl, rfl, h, q⟩
theorem s_mod (h : 0 < m) (q : Q (.int (n % m)) H) : uMod (.int n) (.int m) H Q := ⟨n, m, rfl, rfl, h, q⟩
theorem s_div (h : CDivW n m) (q : Q (.int (n / m)) H) : uDiv (.int n) (.int m) H Q := ⟨n, m, rfl, rfl, h, q⟩
theorem s_pow {r : Int} (h : CPow n m) (e : n ^ m.toNat = r) (q : Q (.int r) H) : uPow (.int n) (.int m) H Q := ⟨n, m, rfl, rfl, h, (show Q (.int (n ^ m.toNat)) H by rw [e]; exact q)⟩
theorem cpow {i j : Int} (h0 : 0 ≤ i) (h1 : i < 9223372036854775808) (h2 : 0 ≤ j) (h3 : j ≤ 1000000) : CPow i j := ⟨h2, h3, by omega⟩
theorem cdiv {i j : Int} (h0 : 0 < j) (h1 : j < 100000000000000000000000000000000000000000) : CDivW i j := wide_div (b := 200) h0 (by
  have e : ((j.natAbs : Nat) : Int) < ((2 ^ 200 : Nat) : Int) := by
    rw [Int.natAbs_of_nonneg (by omega)]
    exact Int.lt_trans h1 (by decide)
  exact Int.ofNat_lt.mp e) (by decide) (by decide)
theorem cmulL {i j : Int} (h1 : -9223372036854775808 < i) (h2 : i < 9223372036854775808) : CMul i j := Or.inl ⟨by omega, by omega⟩
theorem cmulR {i j : Int} (h1 : -9223372036854775808 < j) (h2 : j < 9223372036854775808) : CMul i j := Or.inr ⟨by omega, by omega⟩
theorem s_lt (q : Q (.bl (decide (n < m))) H) : uLt (.int n) (.int m) H Q := ⟨n, m, rfl, rfl, q⟩
theorem s_le (q : Q (.bl (decide (n ≤ m))) H) : uLe (.int n) (.int m) H Q := ⟨n, m, rfl, rfl, q⟩
theorem s_gt (q : Q (.bl (decide (m < n))) H) : uGt (.int n) (.int m) H Q := ⟨n, m, rfl, rfl, q⟩
theorem s_ge (q : Q (.bl (decide (m ≤ n))) H) : uGe (.int n) (.int m) H Q := ⟨n, m, rfl, rfl, q⟩
theorem dec_int {n m : Int} : decide (V.int n = V.int m) = decide (n = m) := by
  by_cases h : n = m
  · subst h; simp
  · rw [decide_eq_false h]; exact decide_eq_false fun q => h (V.int.inj q)
theorem dec_str {n m : Str} : decide (V.str n = V.str m) = decide (n = m) := by
  by_cases h : n = m
  · subst h; simp
  · rw [decide_eq_false h]; exact decide_eq_false fun q => h (V.str.inj q)
theorem s_eqi (q : Q (.bl (decide (n = m))) H) : uEq K (.int n) (.int m) H Q := Or.inl ⟨rfl, by rw [dec_int]; exact q⟩
theorem s_nei (q : Q (.bl (!decide (n = m))) H) : uNe K (.int n) (.int m) H Q := Or.inl ⟨rfl, by rw [dec_int]; exact q⟩
theorem s_eqs (q : Q (.bl (decide (a = b))) H) : uEq K (.str a) (.str b) H Q := Or.inl ⟨rfl, by rw [dec_str]; exact q⟩
theorem s_nes (q : Q (.bl (!decide (a = b))) H) : uNe K (.str a) (.str b) H Q := Or.inl ⟨rfl, by rw [dec_str]; exact q⟩
theorem s_in1 {c : Nat} {z : Str} (q : Q (.bl (decide (c ∈ z.cps.toList))) H) : uIn K false (.str ⟨#[c]⟩) (.str z) H Q := Or.inl ⟨c, z, rfl, rfl, q⟩
theorem s_notin1 {c : Nat} {z : Str} (q : Q (.bl (!decide (c ∈ z.cps.toList))) H) : uIn K true (.str ⟨#[c]⟩) (.str z) H Q := Or.inl ⟨c, z, rfl, rfl, q⟩
theorem s_is (q : Q (.bl (decide (x = .non))) H) : uIs x .non H Q := ⟨rfl, q⟩
theorem s_isnot (q : Q (.bl (!decide (x = .non))) H) : uIsNot x .non H Q := ⟨rfl, q⟩
/-- items of lists -/
theorem s_nil {Q : List V → Hp → Prop} (q : Q [] H) : tNil σ H Q := q
theorem s_cons {Q : List V → Hp → Prop} {tr : TA} (h : te σ H fun x H1 => tr σ H1 fun xs H2 => Q (x :: xs) H2) : tCons te tr σ H Q := h
def LstK (Q : VK) (xs : List V) (H : Hp) : Prop := xs.length ≤ sizeLine ∧ ∀ p, H p = none → Q (.ref p) (upd H p (.lst xs))
def TupK (Q : VK) (xs : List V) (H : Hp) : Prop := xs.length ≤ sizeLine ∧ ∀ p, H p = none → Q (.ref p) (upd H p (.tup xs))
theorem s_lst {t : TA} (h : t σ H (LstK Q)) : tLst t σ H Q := h
theorem s_tup {t : TA} (h : t σ H (TupK Q)) : tTup t σ H Q := h
theorem s_cb {r : List V → Hp → VK → Prop} {t : TA} (h : t σ H fun vs H1 => r vs H1 Q) : tCB r t σ H Q := h
theorem s_go {sp : Sp} {E : XK} {t : TA} (h : t σ H fun vs H1 => sp vs H1 Q E) : tGo sp E t σ H Q := h
theorem s_max (q : Q (.int (if m > n then m else n)) H) : (fun xs H Q => ∃ i j, xs = [V.int i, V.int j] ∧ Q (.int (if j > i then j else i)) H : List V → Hp → VK → Prop) [.int n, .int m] H Q := ⟨n, m, rfl, q⟩
theorem at_nat {α : Type} {xs : List α} {j : Nat} {z : α} (h : xs[j]? = some z) : atI xs (j : Int) = some z := by
  have hj : j < xs.length := (List.getElem?_eq_some_iff.mp h).1
  unfold atI ixN
  rw [if_pos (by omega), if_pos (by omega)]
  simpa using h
theorem at_int {α : Type} {xs : List α} {j : Int} (h0 : 0 ≤ j) (h1 : j < xs.length) : ∃ z, xs[j.toNat]? = some z ∧ atI xs j = some z := by
  refine ⟨xs[j.toNat]'(by omega), by simp, ?_⟩
  have := at_nat (xs := xs) (j := j.toNat) (z := xs[j.toNat]'(by omega)) (by simp)
  rwa [Int.toNat_of_nonneg h0] at this
theorem s_ixL {p : Addr} {xs : List V} (h : SqL K H p xs) (ha : atI xs n = some v) (q : Q v H) : rIx K (.ref p) (.int n) H Q := Or.inl ⟨p, xs, n, v, rfl, rfl, h, ha, q⟩
theorem s_ixl {p : Addr} {xs : List V} (h : H p = some (.lst xs)) (ha : atI xs n = some v) (q : Q v H) : rIx K (.ref p) (.int n) H Q := Or.inl ⟨p, xs, n, v, rfl, rfl, SqL.of h, ha, q⟩
theorem s_ixt {p : Addr} {xs : List V} (h : H p = some (.tup xs)) (ha : atI xs n = some v) (q : Q v H) : rIx K (.ref p) (.int n) H Q := Or.inr (Or.inl ⟨p, xs, n, v, rfl, rfl, SqT.of h, ha, q⟩)
theorem s_ixs {z : Str} {c : Nat} (hz : z.length ≤ sizeLine) (ha : atI z.cps.toList n = some c) (q : Q (.str ⟨#[c]⟩) H) : rIx K (.str z) (.int n) H Q := Or.inr (Or.inr ⟨z, n, c, rfl, rfl, hz, ha, q⟩)
theorem s_sub2 {to ti : TE} {t : V → V → V → Hp → (Hp → Prop) → Prop} {R : L2.St → Hp → Prop} (h : to σ H fun o H1 => ti σ H1 fun i H2 => t o i v H2 fun H3 => R σ H3) : gSub to ti t v σ H R := h
theorem s_setl {p : Addr} {xs ys : List V} {j : Nat} {R : Hp → Prop} (h : H p = some (.lst xs)) (hj : ixN xs.length n = some j) (e : xs.set j v = ys) (q : R (upd H p (.lst ys))) : rSetL (.ref p) (.int n) v H R := ⟨p, xs, n, j, rfl, rfl, h, hj, by rw [e]; exact q⟩
theorem s_ite {p : Prop} [Decidable p] {A B : Prop} (h1 : p → A) (h2 : ¬p → B) : if decide p = true then A else B := by
  by_cases h : p
  · rw [decide_eq_true h, if_pos rfl]; exact h1 h
  · rw [decide_eq_false h, if_neg Bool.false_ne_true]; exact h2 h
theorem s_itn {p : Prop} [Decidable p] {A B : Prop} (h1 : ¬p → A) (h2 : p → B) : if (!decide p) = true then A else B := by
  by_cases h : p
  · rw [decide_eq_true h]; exact h2 h
  · rw [decide_eq_false h]; exact h1 h
theorem s_itt {A B : Prop} (h : A) : if true = true then A else B := h
theorem s_itf {A B : Prop} (h : B) : if false = true then A else B := h
theorem s_itb {k : Bool} {A B : Prop} (h1 : k = true → A) (h2 : k = false → B) : if k = true then A else B := by
  cases k with
  | true => exact h1 rfl
  | false => exact h2 rfl
end

/-! heaps: what stands still stands -/
section
variable {K : PySem.W.Frag} {H H1 H2 : Hp} {ps qs : List Addr} {a b p : Addr} {o u : HO}
/-- the kind of what stands -/
def ko : HO → Nat
  | .lst _ => 0 | .tup _ => 1 | .dK _ => 2 | .dT _ => 3 | .set _ _ => 4 | .ins _ _ _ => 5 | .own _ => 6 | .xd _ => 7 | .met _ _ => 8 | .rng _ _ => 9 | .frz _ _ => 10 | .tbl _ => 11
  | _ => 12
def Th (H : Hp) (a : Addr) (i : Nat) : Prop := ∃ o, H a = some o ∧ ko o = i
theorem Th.of (h : H a = some o) : Th H a (ko o) := ⟨o, h, rfl⟩
theorem Th.lst {xs : List V} (h : H a = some (.lst xs)) : Th H a 0 := ⟨_, h, rfl⟩
theorem Th.tup {xs : List V} (h : H a = some (.tup xs)) : Th H a 1 := ⟨_, h, rfl⟩
theorem Th.dK {xs : List (Key × V)} (h : H a = some (.dK xs)) : Th H a 2 := ⟨_, h, rfl⟩
theorem Th.ins {C dx : Addr} {xs : List (Str × V)} (h : H a = some (.ins C dx xs)) : Th H a 5 := ⟨_, h, rfl⟩
theorem Th.xd {xs : List (Str × V)} (h : H a = some (.xd xs)) : Th H a 7 := ⟨_, h, rfl⟩
/-- all that stood, but at the places ps, stands as it stood; and what stood stands, of its kind -/
structure Kp (ps : List Addr) (H H' : Hp) : Prop where
  keep : ∀ b o, H b = some o → b ∉ ps → H' b = some o
  kd : ∀ b i, Th H b i → Th H' b i
  tp : ∀ b xs, H b = some (.tup xs) → H' b = some (.tup xs)
theorem Kp.dom (h : Kp ps H H1) (b : Addr) (n : H1 b = none) : H b = none := by
  cases e : H b with
  | none => rfl
  | some o =>
    obtain ⟨o', e', _⟩ := h.kd b _ (Th.of e)
    rw [e'] at n; cases n
theorem Kp.refl : Kp ps H H := ⟨fun _ _ e _ => e, fun _ _ e => e, fun _ _ e => e⟩
theorem Kp.trans (h : Kp ps H H1) (g : Kp ps H1 H2) : Kp ps H H2 := ⟨fun b o e n => g.keep b o (h.keep b o e n) n, fun b i e => g.kd b i (h.kd b i e), fun b xs e => g.tp b xs (h.tp b xs e)⟩
theorem Kp.mono (h : Kp ps H H1) (g : ∀ a ∈ ps, a ∈ qs) : Kp qs H H1 := ⟨fun b o e n => h.keep b o e fun m => n (g b m), h.kd, h.tp⟩
theorem Kp.nil (h : Kp [] H H1) : Kp ps H H1 := h.mono fun _ m => nomatch m
theorem Kp.get (h : Kp ps H H1) (e : H b = some o) (n : b ∉ ps) : H1 b = some o := h.keep b o e n
theorem Kp.get0 (h : Kp [] H H1) (e : H b = some o) : H1 b = some o := h.keep b o e (by simp)
theorem Kp.get1 (h : Kp [p] H H1) (e : H b = some o) (n : b ≠ p) : H1 b = some o := h.keep b o e (by simpa using n)
theorem Kp.new (h : Kp ps H H1) (n : H1 p = none) : Kp ps H (upd H1 p u) := ⟨fun b o e m => by
  have e1 := h.keep b o e m
  rw [upd_ne (ne_of_none e1 n)]
  exact e1, fun b i e => by
  obtain ⟨o, e1, r⟩ := h.kd b i e
  exact ⟨o, by rw [upd_ne (ne_of_none e1 n)]; exact e1, r⟩, fun b xs e => by
  have e1 := h.tp b xs e
  rw [upd_ne (ne_of_none e1 n)]
  exact e1⟩
theorem Kp.put (h : Kp ps H H1) (m : p ∈ ps) (z : Th H1 p (ko u)) (y : Nat.beq (ko u) 1 = false := by rfl) : Kp ps H (upd H1 p u) := ⟨fun b o e n => by
  rw [upd_ne (fun z => n (by rw [z]; exact m))]
  exact h.keep b o e n, fun b i e => by
  by_cases y : b = p
  · subst y
    obtain ⟨o1, e1, r1⟩ := z
    obtain ⟨o2, e2, r2⟩ := h.kd b i e
    rw [e1] at e2
    cases e2
    exact ⟨u, upd_same, by rw [← r1, r2]⟩
  · obtain ⟨o2, e2, r2⟩ := h.kd b i e
    exact ⟨o2, by rw [upd_ne y]; exact e2, r2⟩, fun b xs e => by
  have e1 := h.tp b xs e
  have n : b ≠ p := fun x => by
    subst x
    obtain ⟨o1, e2, r1⟩ := z
    rw [e1] at e2
    cases e2
    rw [← r1] at y
    cases y
  rw [upd_ne n]
  exact e1⟩
theorem Kp.tgt {xs : List V} (h : Kp ps H H1) (e : H b = some (.tup xs)) : H1 b = some (.tup xs) := h.tp b xs e
theorem Kp.fresh (h : Kp ps H H1) (n : H1 p = none) : H p = none := h.dom p n
theorem Kp.fresh0 (h : Kp [] H H1) (n : H1 p = none) : H p = none := h.dom p n
/-- a place that did not stand may have changed -/
theorem Kp.drop (h : Kp (p :: ps) H H1) (n : H p = none) : Kp ps H H1 := ⟨fun b o e m => h.keep b o e (by
  intro z
  rcases List.mem_cons.mp z with z | z
  · subst z; rw [n] at e; cases e
  · exact m z), h.kd, h.tp⟩
/-- a new object, the heap behind it as a letter -/
theorem new_abs {o : HO} {R : Addr → Hp → Prop} (h : ∀ p H', H p = none → H' p = some o → Kp [] H H' → R p H') : ∀ p, H p = none → R p (upd H p o) :=
  fun p f => h p _ f upd_same (Kp.refl.new f)
theorem s_newl {Q : VK} {xs : List V} (hz : xs.length ≤ sizeLine) (h : ∀ p H', H p = none → H' p = some (.lst xs) → Kp [] H H' → Q (.ref p) H') : LstK Q xs H := ⟨hz, new_abs h⟩
theorem s_newt {Q : VK} {xs : List V} (hz : xs.length ≤ sizeLine) (h : ∀ p H', H p = none → H' p = some (.tup xs) → Kp [] H H' → Q (.ref p) H') : TupK Q xs H := ⟨hz, new_abs h⟩
theorem s_addl {Q : VK} {p q : Addr} {xs ys : List V} (h1 : H p = some (.lst xs)) (h2 : H q = some (.lst ys)) (h : xs.length + ys.length ≤ sizeLine)
    (z : ∀ p' H', H p' = none → H' p' = some (.lst (xs ++ ys)) → Kp [] H H' → Q (.ref p') H') : uAdd K (.ref p) (.ref q) H Q :=
  Or.inr (Or.inr (Or.inl ⟨p, q, xs, ys, rfl, rfl, h1, h2, h, new_abs z⟩))
theorem Kp.rd (h : Kp [] H H1) (e : Rd H a u) : Rd H1 a u := by
  rcases e with e | ⟨o, e⟩
  · exact Or.inl (h.get0 e)
  · exact Or.inr ⟨o, h.get0 e⟩
theorem Kp.sql {xs : List V} (h : Kp [] H H1) (e : SqL K H a xs) : SqL K H1 a xs := by
  rcases e with e | e
  · exact Or.inl (h.rd e)
  · exact Or.inr e
theorem Kp.sqt {xs : List V} (h : Kp [] H H1) (e : SqT K H a xs) : SqT K H1 a xs := by
  rcases e with e | e
  · exact Or.inl (h.rd e)
  · exact Or.inr e
end
end U

namespace U
open PySem L2 PySem.Spec PyProof.Rows

/-! promises by the number of arguments -/
abbrev P0 := Hp → VK → XK → Prop
def sp0 (F : P0) : Sp := fun vs H Q E => vs = [] ∧ F H Q E
def sp1 (F : V → P0) : Sp := fun vs H Q E => ∃ a, vs = [a] ∧ F a H Q E
def sp2 (F : V → V → P0) : Sp := fun vs H Q E => ∃ a b, vs = [a, b] ∧ F a b H Q E
def sp3 (F : V → V → V → P0) : Sp := fun vs H Q E => ∃ a b c, vs = [a, b, c] ∧ F a b c H Q E
def sp4 (F : V → V → V → V → P0) : Sp := fun vs H Q E => ∃ a b c d, vs = [a, b, c, d] ∧ F a b c d H Q E
def sp5 (F : V → V → V → V → V → P0) : Sp := fun vs H Q E => ∃ a b c d e, vs = [a, b, c, d, e] ∧ F a b c d e H Q E
def sp6 (F : V → V → V → V → V → V → P0) : Sp := fun vs H Q E => ∃ a b c d e f, vs = [a, b, c, d, e, f] ∧ F a b c d e f H Q E
section
variable {H : Hp} {Q : VK} {E : XK} {a b c d e f : V}
theorem s_sp0 {F : P0} (h : F H Q E) : sp0 F [] H Q E := ⟨rfl, h⟩
theorem s_sp1 {F : V → P0} (h : F a H Q E) : sp1 F [a] H Q E := ⟨a, rfl, h⟩
theorem s_sp2 {F : V → V → P0} (h : F a b H Q E) : sp2 F [a, b] H Q E := ⟨a, b, rfl, h⟩
theorem s_sp3 {F : V → V → V → P0} (h : F a b c H Q E) : sp3 F [a, b, c] H Q E := ⟨a, b, c, rfl, h⟩
theorem s_sp4 {F : V → V → V → V → P0} (h : F a b c d H Q E) : sp4 F [a, b, c, d] H Q E := ⟨a, b, c, d, rfl, h⟩
theorem s_sp5 {F : V → V → V → V → V → P0} (h : F a b c d e H Q E) : sp5 F [a, b, c, d, e] H Q E := ⟨a, b, c, d, e, rfl, h⟩
theorem s_sp6 {F : V → V → V → V → V → V → P0} (h : F a b c d e f H Q E) : sp6 F [a, b, c, d, e, f] H Q E := ⟨a, b, c, d, e, f, rfl, h⟩
end

/-! built-in names -/
theorem bt_len : bootBuiltins "len" = some (.builtin "len") := by decide +kernel
theorem bt_max : bootBuiltins "max" = some (.builtin "max") := by decide +kernel
theorem bt_min : bootBuiltins "min" = some (.builtin "min") := by decide +kernel
theorem bt_all : bootBuiltins "all" = some (.builtin "all") := by decide +kernel
theorem bt_any : bootBuiltins "any" = some (.builtin "any") := by decide +kernel
theorem bt_repr : bootBuiltins "repr" = some (.builtin "repr") := by decide +kernel
theorem bt_sorted : bootBuiltins "sorted" = some (.builtin "sorted") := by decide +kernel
theorem bt_sum : bootBuiltins "sum" = some (.builtin "sum") := by decide +kernel
theorem bt_isinstance : bootBuiltins "isinstance" = some (.builtin "isinstance") := by decide +kernel
theorem bt_int : bootBuiltins "int" = some (.type "int") := by decide +kernel
theorem bt_bool : bootBuiltins "bool" = some (.type "bool") := by decide +kernel
theorem bt_str : bootBuiltins "str" = some (.type "str") := by decide +kernel
theorem bt_list : bootBuiltins "list" = some (.type "list") := by decide +kernel
theorem bt_tuple : bootBuiltins "tuple" = some (.type "tuple") := by decide +kernel
theorem bt_dict : bootBuiltins "dict" = some (.type "dict") := by decide +kernel
theorem bt_set : bootBuiltins "set" = some (.type "set") := by decide +kernel
theorem bt_range : bootBuiltins "range" = some (.type "range") := by decide +kernel

section
variable {X : Cx} {K : PySem.W.Frag}
def uLen (K : PySem.W.Frag) : List V → Hp → VK → Prop := fun xs H Q => (∃ x n, xs = [x] ∧ LenV K x H n ∧ Q (.int n) H) ∨ ∃ a kvs, xs = [V.ref a] ∧ H a = some (.dK kvs) ∧ Q (.int kvs.length) H
theorem c_len (hK : X.K = K) : CallR X (.builtin "len") (uLen K) := hK ▸ call_len.or call_lenD
def uMax : List V → Hp → VK → Prop := fun xs H Q => ∃ i j, xs = [.int i, .int j] ∧ Q (.int (if j > i then j else i)) H
def uMin : List V → Hp → VK → Prop := fun xs H Q => ∃ i j, xs = [.int i, .int j] ∧ Q (.int (if j < i then j else i)) H
theorem c_max (hc : X.calm = true) : CallR X (.builtin "max") uMax := call_max2 hc
theorem c_min (hc : X.calm = true) : CallR X (.builtin "min") uMin := call_min2 hc
def uStr : List V → Hp → VK → Prop := fun xs H Q => ∃ i, xs = [.int i] ∧ i.natAbs.log2 < 1920 ∧ Q (.str (toString i)) H
theorem c_isi (hK : X.K = K) : CallR X (.builtin "isinstance") (rIsi K) := hK ▸ call_isi
theorem c_all (hK : X.K = K) (hc : X.calm = true) : CallR X (.builtin "all") (rAll K) := hK ▸ cr_all hc
theorem c_any (hK : X.K = K) (hc : X.calm = true) : CallR X (.builtin "any") (rAny K) := hK ▸ cr_any hc
theorem c_repr {k : Nat} (hK : X.K = K) (hg : X.A.guards = some []) (hr : Room k X.A) (hs : ∃ mm, X.base.Ns sysModules mm) : CallR X (.builtin "repr") (rRepr K) := hK ▸ call_repr hg hr hs
theorem c_str : CallR X (.type "str") uStr := call_str_int
end

def uJoin (K : PySem.W.Frag) : V → List V → Hp → VK → Prop := fun x xs H Q => ∃ a p, ∃ ys : List Str, x = .str a ∧ xs = [.ref p] ∧ (SqL K H p (ys.map V.str) ∨ SqT K H p (ys.map V.str)) ∧
  (ys.map (·.length)).sum + ys.length * a.length ≤ 16777216 ∧ Q (.str (Txt.join a ys)) H
theorem pe_joinU {X : Cx} {K : PySem.W.Frag} {o e : Expr} {to te : TE} {ap pos : Pos} (hK : X.K = K) (ho : PE X o to) (he : PE X e te) (h1 : starEach [e] X.env = [(false, eval e X.env)] := by rfl) (h2 : attributeBase o "join" X.env (eval o X.env) = eval o X.env := by rfl)
    (h3 : (ap.endLine == pos.line) = true := by rfl) : PE X (.Call (.Attribute o "join" ap) [e] [] pos) (tM1 (uJoin K) to te) := hK ▸ pe_join ho he h1 h2 h3

theorem pi_lst {X : Cx} {K : PySem.W.Frag} {tg l : Expr} {tl : TE} (hK : X.K = K) (hl : PE X l tl) : PI X tg l (iList K tl) := hK ▸ pi_list hl
theorem pi_tpl {X : Cx} {K : PySem.W.Frag} {tg l : Expr} {tl : TE} (hK : X.K = K) (hl : PE X l tl) : PI X tg l (iTup K tl) := hK ▸ pi_tup hl

/-! more steps -/
theorem zle {n : Nat} (h : n ≤ 1000000) : n ≤ sizeLine := Nat.le_trans h (by decide)
/-- what kind of thing a value is -/
inductive Kd | non | bl | int | str | lst | tup | dic
def Kd.nm : Kd → String
  | .non => "NoneType" | .bl => "bool" | .int => "int" | .str => "str" | .lst => "list" | .tup => "tuple" | .dic => "dict"
inductive TyN (H : Hp) : V → Kd → Prop
  | non : TyN H .non .non
  | bl {b : Bool} : TyN H (.bl b) .bl
  | int {i : Int} : TyN H (.int i) .int
  | str {z : Str} : TyN H (.str z) .str
  | lst {a : Addr} {xs : List V} : H a = some (.lst xs) → TyN H (.ref a) .lst
  | tup {a : Addr} {xs : List V} : H a = some (.tup xs) → TyN H (.ref a) .tup
  | dic {a : Addr} {kvs : List (Key × V)} : H a = some (.dK kvs) → TyN H (.ref a) .dic
theorem TyN.ty {K : PySem.W.Frag} {H : Hp} {v : V} {n : Kd} (h : TyN H v n) : TyX K H v (.type n.nm) := by
  cases h with
  | non => exact .base .non
  | bl => exact .base (.bl _)
  | int => exact .base (.int _)
  | str => exact .base (.str _)
  | lst e => exact .base (.lst e)
  | tup e => exact .base (.tup e)
  | dic e => exact .base (.dK e)
theorem TyN.kp {H H' : Hp} {v : V} {n : Kd} (h : TyN H v n) (k : Kp [] H H') : TyN H' v n := by
  cases h with
  | non => exact .non
  | bl => exact .bl
  | int => exact .int
  | str => exact .str
  | lst e => exact .lst (k.get0 e)
  | tup e => exact .tup (k.get0 e)
  | dic e => exact .dic (k.get0 e)
def Kd.isInt : Kd → Bool | .int => true | .bl => true | _ => false
def Kd.isBool : Kd → Bool | .bl => true | _ => false
def Kd.isStr : Kd → Bool | .str => true | _ => false
def Kd.isList : Kd → Bool | .lst => true | _ => false
def Kd.isTup : Kd → Bool | .tup => true | _ => false
def Kd.isDict : Kd → Bool | .dic => true | _ => false
theorem kb_int (t : Kd) : kitB t.nm "int" = some t.isInt := by cases t <;> decide +kernel
theorem kb_bool (t : Kd) : kitB t.nm "bool" = some t.isBool := by cases t <;> decide +kernel
theorem kb_str (t : Kd) : kitB t.nm "str" = some t.isStr := by cases t <;> decide +kernel
theorem kb_list (t : Kd) : kitB t.nm "list" = some t.isList := by cases t <;> decide +kernel
theorem kb_tup (t : Kd) : kitB t.nm "tuple" = some t.isTup := by cases t <;> decide +kernel
theorem kb_dict (t : Kd) : kitB t.nm "dict" = some t.isDict := by cases t <;> decide +kernel
section
variable {K : PySem.W.Frag} {σ : L2.St} {H : Hp} {Q : VK} {D : Ends} {x y v : V} {i : Nat} {n m : Int} {a b : Str}
theorem s_max2 (q : Q (.int (if m > n then m else n)) H) : uMax [.int n, .int m] H Q := ⟨n, m, rfl, q⟩
theorem s_min2 (q : Q (.int (if m < n then m else n)) H) : uMin [.int n, .int m] H Q := ⟨n, m, rfl, q⟩
theorem s_lens (h : a.length ≤ sizeLine) (q : Q (.int a.length) H) : uLen K [.str a] H Q := Or.inl ⟨_, a.length, rfl, ⟨h, rfl⟩, q⟩
theorem s_lenL {p : Addr} {xs : List V} (h : SqL K H p xs) (q : Q (.int xs.length) H) : uLen K [.ref p] H Q := Or.inl ⟨_, xs.length, rfl, Or.inl ⟨xs, h, rfl⟩, q⟩
theorem s_lenl {p : Addr} {xs : List V} (h : H p = some (.lst xs)) (q : Q (.int xs.length) H) : uLen K [.ref p] H Q := s_lenL (SqL.of h) q
theorem s_lent {p : Addr} {xs : List V} (h : H p = some (.tup xs)) (q : Q (.int xs.length) H) : uLen K [.ref p] H Q := Or.inl ⟨_, xs.length, rfl, Or.inr ⟨xs, SqT.of h, rfl⟩, q⟩
theorem s_lend {p : Addr} {xs : List (Key × V)} (h : H p = some (.dK xs)) (q : Q (.int xs.length) H) : uLen K [.ref p] H Q := Or.inr ⟨p, xs, rfl, h, q⟩
theorem s_str (h : n.natAbs.log2 < 1920) (q : Q (.str (toString n)) H) : uStr [.int n] H Q := ⟨n, rfl, h, q⟩
theorem s_isi0 {s t : String} {k : Bool} (h : TyX K H v (.type s)) (hk : kitB s t = some k) (q : Q (.bl k) H) : rIsi K [v, .ty t] H Q := ⟨v, .ty t, .type s, .type t, k, rfl, .ty t, h, kit_ty hk, q⟩
theorem s_isInt {t : Kd} (h : TyN H v t) (q : Q (.bl t.isInt) H) : rIsi K [v, .ty "int"] H Q := s_isi0 h.ty (kb_int t) q
theorem s_isBool {t : Kd} (h : TyN H v t) (q : Q (.bl t.isBool) H) : rIsi K [v, .ty "bool"] H Q := s_isi0 h.ty (kb_bool t) q
theorem s_isStr {t : Kd} (h : TyN H v t) (q : Q (.bl t.isStr) H) : rIsi K [v, .ty "str"] H Q := s_isi0 h.ty (kb_str t) q
theorem s_isList {t : Kd} (h : TyN H v t) (q : Q (.bl t.isList) H) : rIsi K [v, .ty "list"] H Q := s_isi0 h.ty (kb_list t) q
theorem s_isTup {t : Kd} (h : TyN H v t) (q : Q (.bl t.isTup) H) : rIsi K [v, .ty "tuple"] H Q := s_isi0 h.ty (kb_tup t) q
theorem s_isDict {t : Kd} (h : TyN H v t) (q : Q (.bl t.isDict) H) : rIsi K [v, .ty "dict"] H Q := s_isi0 h.ty (kb_dict t) q
theorem s_itT {k : Bool} {A B : Prop} (e : k = true) (h : A) : if k = true then A else B := by subst e; exact h
theorem s_itF {k : Bool} {A B : Prop} (e : k = false) (h : B) : if k = true then A else B := by subst e; exact h
theorem s_sl {r : V → Option Int → Option Int → Hp → VK → Prop} {te : TE} {tl th : TO} (h : te σ H fun x H1 => tl σ H1 fun l H2 => th σ H2 fun u H3 => r x l u H3 Q) : tSl r te tl th σ H Q := h
theorem s_nopart {Q : Option Int → Hp → Prop} (q : Q none H) : tNoPart σ H Q := q
theorem s_part {Q : Option Int → Hp → Prop} {t : TE} (h : t σ H fun x H1 => ∃ i, x = .int i ∧ Q (some i) H1) : tPart t σ H Q := h
theorem s_int {P : Int → Prop} (q : P n) : ∃ i, V.int n = .int i ∧ P i := ⟨n, rfl, q⟩
theorem s_sls {lo hi : Option Int} (h : a.length ≤ sizeLine) (q : Q (.str (cutS a lo hi)) H) : uSl K (.str a) lo hi H Q := Or.inr (Or.inl ⟨a, rfl, h, q⟩)
theorem s_sll {lo hi : Option Int} {p : Addr} {xs : List V} (h : SqL K H p xs) (q : ∀ p' H', H p' = none → H' p' = some (.lst (cutV xs lo hi)) → Kp [] H H' → Q (.ref p') H') : uSl K (.ref p) lo hi H Q := Or.inl ⟨p, xs, rfl, h, new_abs q⟩
theorem s_m1 {r : V → List V → Hp → VK → Prop} {to te : TE} (h : to σ H fun x H1 => (∃ a, x = .str a) ∧ te σ H1 fun y H2 => r x [y] H2 Q) : tM1 r to te σ H Q := h
theorem s_isstr {R : Prop} (h : R) : (∃ b, V.str a = .str b) ∧ R := ⟨⟨a, rfl⟩, h⟩
theorem s_join {p : Addr} {ys : List Str} (h : H p = some (.lst (ys.map V.str))) (hz : (ys.map (·.length)).sum + ys.length * a.length ≤ 16777216) (q : Q (.str (Txt.join a ys)) H) : uJoin K (.str a) [.ref p] H Q :=
  ⟨a, p, ys, rfl, rfl, Or.inl (SqL.of h), hz, q⟩
theorem s_rng1 {ta : TA} {R : It → Hp → Prop} (h : ta σ H fun vs H1 => ∃ j : Int, vs = [.int j] ∧ -(2 ^ 62) ≤ j ∧ j < 2 ^ 62 ∧ R (Itr 0 j.toNat) H1) : iRng1 ta σ H R := h
theorem s_rng {R : Int → Prop} (h1 : -(2 ^ 62) ≤ n) (h2 : n < 2 ^ 62) (q : R n) : ∃ j : Int, [V.int n] = [.int j] ∧ -(2 ^ 62) ≤ j ∧ j < 2 ^ 62 ∧ R j := ⟨n, rfl, h1, h2, q⟩
theorem s_ilist {tl : TE} {R : It → Hp → Prop} (h : tl σ H fun x H1 => ∃ a, x = .ref a ∧ (∃ xs, SqL K H1 a xs) ∧ R (Itl K a) H1) : iList K tl σ H R := h
theorem s_ilst {p : Addr} {xs : List V} {R : Addr → Prop} (h : SqL K H p xs) (q : R p) : ∃ a, V.ref p = .ref a ∧ (∃ xs, SqL K H a xs) ∧ R a := ⟨p, rfl, ⟨xs, h⟩, q⟩
theorem s_istr {te : TE} {R : It → Hp → Prop} (h : te σ H fun v H1 => ∃ x, v = .str x ∧ R (Its x) H1) : iStr te σ H R := h
theorem s_istr1 {R : Str → Prop} (q : R a) : ∃ x, V.str a = .str x ∧ R x := ⟨a, rfl, q⟩
theorem s_dnew (h : ∀ d H', H d = none → H' d = some (.dK []) → Kp [] H H' → Q (.ref d) H') : tDNewK σ H Q := new_abs (R := fun d H' => Q (.ref d) H') h
theorem s_all {p : Addr} {bs : List Bool} (h : H p = some (.lst (bs.map V.bl))) (q : Q (.bl (bs.all id)) H) : rAll K [.ref p] H Q := ⟨p, bs, rfl, SqL.of h, q⟩
theorem s_yes {Q : Bool → Hp → Prop} (q : Q true H) : tYes σ H Q := q
theorem dpa_strs : ∀ zs : List Str, DpAll K H (zs.map V.str) (zs.map PyData.str)
  | [] => .nil
  | z :: zs => .cons (.str z) (dpa_strs zs)
theorem lay_strs : ∀ {zs : List Str}, (∀ z ∈ zs, ∀ c ∈ z.cps.toList, c < 1114112) → PyData.canLayAll0 (zs.map PyData.str) = true ∧ PyData.depthAll (zs.map PyData.str) ≤ 1
  | [], _ => ⟨rfl, by simp [PyData.depthAll]⟩
  | z :: zs, h => by
    obtain ⟨h1, h2⟩ := lay_strs (zs := zs) fun y hy => h y (List.mem_cons_of_mem _ hy)
    refine ⟨?_, ?_⟩
    · simp only [List.map_cons, PyData.canLayAll0, PyData.canLay0, h1, Bool.and_true, PyData.strOk, Array.all_eq_true', decide_eq_true_eq]
      intro c hc
      exact h z List.mem_cons_self c (by simpa using hc)
    · simp only [List.map_cons, PyData.depthAll, PyData.depth]
      omega
theorem shp_strs {zs : List Str} (h : ∀ z ∈ zs, ∀ c ∈ z.cps.toList, c < 1114112) : SeqAt.shaped (.list (zs.map PyData.str)) = true := by
  obtain ⟨h1, h2⟩ := lay_strs h
  unfold SeqAt.shaped
  rw [Bool.and_eq_true]
  refine ⟨by simpa only [PyData.canLay0] using h1, decide_eq_true ?_⟩
  simp only [PyData.depth]
  omega
theorem s_eqNil {p q : Addr} {zs : List Str} (h1 : H p = some (.lst (zs.map V.str))) (h2 : H q = some (.lst [])) (ok : ∀ z ∈ zs, ∀ c ∈ z.cps.toList, c < 1114112) (k : Q (.bl zs.isEmpty) H) : uEq K (.ref p) (.ref q) H Q := by
  refine Or.inr ⟨_, _, .lst (SqL.of h1) (dpa_strs zs), .lst (SqL.of h2) .nil, shp_strs ok, by decide +kernel, ?_⟩
  have e : PyData.eqv (.list (zs.map PyData.str)) (.list []) = zs.isEmpty := by
    cases zs <;> simp [PyData.eqv, PyData.eqvAll]
  rw [e]
  exact k
/-- a comprehension -/
theorem s_lc {wi : TI} {g : TG} {tt : TT} {te : TE} {vs : List Nat} (h : wi σ H fun J H1 => ∀ D, H1 D = none → ∃ W : Nat → Nat → Hp → Prop, (∃ m, W 0 m (upd H1 D (.lst []))) ∧ ∀ i m H, W i m H →
    (J.stop i H ∧ Q (.ref D) H) ∨ (J.go i H ∧ ∃ Nx : Hp → Prop, (∀ H', Nx H' → ∃ m', m' < m ∧ W (i + 1) m' H') ∧ ∀ x H', J.yld i H x H' → g x (wipe σ vs) H' fun σ2 H2 => wipe σ2 vs = wipe σ vs ∧ tt σ2 H2 fun b H3 =>
      if b = true then te σ2 H3 fun y H4 => ∃ acc, H4 D = some (.lst acc) ∧ acc.length < sizeLine ∧ Nx (upd H4 D (.lst (acc ++ [y]))) else Nx H3)) : tLc wi g tt te vs σ H Q := h
/-- a loop -/
theorem s_for {wi : TI} {g : TG} {tb : TS} (h : wi σ H fun J H1 => ∃ W : Nat → Nat → L2.St → Hp → Prop, (∃ m, W 0 m σ H1) ∧ ∀ i m σ H, W i m σ H →
    (J.stop i H ∧ D.nx σ H) ∨ (J.go i H ∧ ∃ N : L2.St → Hp → Prop, (∀ σ' H', N σ' H' → ∃ m', m' < m ∧ W (i + 1) m' σ' H') ∧ ∀ x H', J.yld i H x H' → g x σ H' fun σ2 H2 => tb { D with nx := N, ct := N, bk := D.nx } σ2 H2)) : tFor wi g tb D σ H := h
/-- a comprehension's invariant, by the items made so far -/
def PvD (D : Addr) (Pv : Nat → List V → Hp → Prop) (i : Nat) (H : Hp) : Prop := ∃ acc, H D = some (.lst acc) ∧ Pv i acc H
theorem PvD.start {D : Addr} {Pv : Nat → List V → Hp → Prop} (h : Pv 0 [] (upd H D (.lst []))) : PvD D Pv 0 (upd H D (.lst [])) := ⟨[], upd_same, h⟩
theorem PvD.more {D : Addr} {Pv : Nat → List V → Hp → Prop} {acc : List V} (e : H D = some (.lst acc)) (hz : acc.length < sizeLine) (h : Pv i (acc ++ [y]) (upd H D (.lst (acc ++ [y])))) :
    ∃ acc, H D = some (.lst acc) ∧ acc.length < sizeLine ∧ PvD D Pv i (upd H D (.lst (acc ++ [y]))) := ⟨acc, e, hz, acc ++ [y], upd_same, h⟩
theorem PvD.skip {D : Addr} {Pv : Nat → List V → Hp → Prop} {acc : List V} (e : H D = some (.lst acc)) (h : Pv i acc H) : PvD D Pv i H := ⟨acc, e, h⟩
end
end U

namespace U
open PySem L2 PySem.Spec PyProof.Rows
theorem log2s {m : Nat} (h : m < 10 ^ 100) : m.log2 < 1920 := log2_small (Nat.lt_of_lt_of_le h (by decide +kernel))
/-- a text of at most n signs -/
structure SS (z : Str) (n : Nat) : Prop where
  len : z.length ≤ n
  ok : ∀ c ∈ z.cps.toList, c < 1114112
theorem SS.mono {z : Str} {n m : Nat} (h : SS z n) (e : n ≤ m) : SS z m := ⟨Nat.le_trans h.len e, h.ok⟩
theorem SS.app {a b : Str} {n m : Nat} (h : SS a n) (g : SS b m) : SS (a ++ b) (n + m) := by
  refine ⟨by rw [Str.length_append]; have := h.len; have := g.len; omega, fun c hc => ?_⟩
  rw [Str.cps_append, Array.toList_append, List.mem_append] at hc
  rcases hc with hc | hc
  · exact h.ok c hc
  · exact g.ok c hc
theorem SS.cut {a : Str} {n : Nat} {lo hi : Option Int} (h : SS a n) : SS (cutS a lo hi) n := by
  refine ⟨?_, fun c hc => ?_⟩
  · show (List.toArray _).size ≤ n
    rw [List.size_toArray, List.length_take, List.length_drop, Array.length_toList]
    have : a.cps.size ≤ n := h.len
    omega
  · have hc : c ∈ (List.take (HT.sIx a.length a.length hi - HT.sIx a.length 0 lo) (List.drop (HT.sIx a.length 0 lo) a.cps.toList)) := by simpa [cutS] using hc
    exact h.ok c (List.mem_of_mem_drop (List.mem_of_mem_take hc))
theorem SS.one {c : Nat} (h : c < 1114112) : SS ⟨#[c]⟩ 1 := ⟨by simp [Str.length], fun d hd => by
  have : d = c := by simpa using hd
  subst this; exact h⟩
theorem SS.mk' {z : Str} {n : Nat} (h : z.length ≤ n ∧ ∀ c ∈ z.cps.toList, c < 1114112) : SS z n := ⟨h.1, h.2⟩
theorem join_ones : ∀ cs : List Nat, Txt.join (Str.ofString "") (cs.map fun c => ⟨#[c]⟩) = ⟨cs.toArray⟩ := fun cs => by
  rw [show ∀ y l, Txt.join y l = Str.join y l from fun y l => StrLaws.glued_eq_join y l]
  have e0 : Str.ofString "" = Str.empty := by decide +kernel
  rw [e0]
  induction cs with
  | nil => rfl
  | cons c cs ih =>
    cases cs with
    | nil => rfl
    | cons d cs =>
      show (⟨#[c]⟩ : Str) ++ Str.empty ++ Str.join Str.empty ((d :: cs).map fun c => ⟨#[c]⟩) = _
      rw [ih]
      refine Str.ext' ?_
      simp [Str.cps_append, Str.empty]
theorem SS.ones {cs : List Nat} (h : ∀ c ∈ cs, c < 1114112) : SS (Txt.join (Str.ofString "") (cs.map fun c => ⟨#[c]⟩)) cs.length := by
  rw [join_ones]
  exact ⟨by simp [Str.length], by simpa using h⟩
theorem SS.num {i : Int} (h : i.natAbs < 10 ^ 100) : SS (Str.ofString (toString i)) 102 := by
  refine ⟨int_len h, fun c hc => ?_⟩
  rw [Str.ofString_eq_toList] at hc
  have hc : c ∈ (toString i).toList.map Char.toNat := by simpa using hc
  obtain ⟨d, _, rfl⟩ := List.mem_map.mp hc
  have h2 : d.toNat.isValidChar := d.valid
  unfold Nat.isValidChar at h2
  omega
theorem SS.at {z : Str} {n : Nat} {i : Int} (h : SS z n) (h0 : 0 ≤ i) (h1 : i < z.length) : ∃ c, atI z.cps.toList i = some c ∧ c < 1114112 ∧ c ∈ z.cps.toList := by
  obtain ⟨c, e1, e2⟩ := at_int (xs := z.cps.toList) h0 (by rw [Array.length_toList]; exact h1)
  have m := List.mem_of_getElem? e1
  exact ⟨c, e2, h.ok c m, m⟩
theorem ones_len (cs : List Nat) : ((cs.map fun c => (⟨#[c]⟩ : Str)).map (·.length)).sum = cs.length := by
  induction cs with
  | nil => rfl
  | cons c cs ih =>
    rw [List.map_cons, List.map_cons, List.sum_cons, ih, List.length_cons]
    simp [Str.length]
    omega
end U

namespace U
open PySem L2 PySem.Spec PyProof.Rows

theorem peImp {X : Cx} {e : Expr} {t u : TE} (h : PE X e t) (w : ∀ σ H (Q : VK), u σ H Q → ∃ Q0 : VK, t σ H Q0 ∧ ∀ x H1, Q0 x H1 → Q x H1) : PE X e u :=
  ⟨fun pi s σ H Q I q => by
    obtain ⟨Q0, q0, z⟩ := w σ H Q q
    exact thn (h.run pi s σ H Q0 I q0) fun a s1 ⟨x, H1, I1, r1, q1⟩ => ⟨x, H1, I1, r1, z x H1 q1⟩⟩
def tMo (t : TE) : TE := fun σ H Q => ∃ Q0 : VK, t σ H Q0 ∧ ∀ x H1, Q0 x H1 → Q x H1
theorem peMo {X : Cx} {e : Expr} {t : TE} (h : PE X e t) : PE X e (tMo t) := peImp h fun _ _ _ q => q
def tMa (t : TA) : TA := fun σ H Q => ∃ Q0 : List V → Hp → Prop, t σ H Q0 ∧ ∀ x H1, Q0 x H1 → Q x H1
theorem paMo {X : Cx} {es : List Expr} {t : TA} (h : PA X es t) : PA X es (tMa t) :=
  ⟨fun pos pi s σ H Q I ⟨Q0, q0, z⟩ => thn (h.run pos pi s σ H Q0 I q0) fun a s1 ⟨x, H1, I1, r1, q1⟩ => ⟨x, H1, I1, r1, z x H1 q1⟩⟩
theorem psImp {X : Cx} {st : Stmt} {t u : TS} (h : PS X st t) (w : ∀ D σ H, u D σ H → t D σ H) : PS X st u :=
  ⟨fun pi s σ H D I q => h.run pi s σ H D I (w D σ H q)⟩

/-! what is raised passes -/
section
variable {X : Cx} {E : XK}
theorem passF : Passes (L2.CX X.prog X.w) X (fun _ _ _ => False) := fun _ _ _ _ _ _ _ c => by
  obtain ⟨_, _, _, _, _, _, _, _, _, _, _, _, z⟩ := c
  exact z.elim
/-- the wish of a def's body -/
abbrev wE (E : XK) : WX := fun cls d _ H => E cls d H
abbrev wNo : WX := fun _ _ _ _ => False
end

/-! calls -/
section
variable {X : Cx} {k : Nat} {f C : Addr} {fd : FuncData} {ps : List Str} {sp : Sp} {W : WX} {x m : Str} {p ap pos : Pos} {e o : Expr} {es : List Expr} {t : TA} {ta : TE} {K : PySem.W.Frag}
variable {pi : List (Addr × Obj)} {σ : L2.St} {H : Hp} {s : Shared} {Q : VK} {us : List Value} {vs : List V}
theorem bind0 (hb : Binds X.K fd ps []) (I : Inv X pi σ H s) (r : Vals vs us) (l : vs.length = ps.length) : BindsTo s fd ⟨us, []⟩ (ps.zip us) := by
  have e1 : us ++ [] = us := List.append_nil us
  have b1 := hb s us I.kIn (by rw [e1, ← r.length]; exact l)
  rw [e1] at b1
  exact b1
theorem run_o (F : FnOk X.prog X.w X.K X.mg X.base (L2.CX X.prog X.w) k f fd ps sp) (hr : Room k X.A) (hb : Binds X.K fd ps []) (tk : Takes X W) (I : Inv X pi σ H s) (r : Vals vs us) (h : sp vs H Q (fun cls d H' => W cls d σ H')) :
    wpAny (model X.prog X.w) X.A (call (.ref f) us) (EP X pi σ Q) X.xe s := by
  refine wpAny_call (codeAny_mono (F.run X.A X.stack s H ⟨us, []⟩ us vs Q _ hr I.env0 (bind0 hb I r (F.len _ _ _ _ h)) r h) fun rr s' hq => ?_)
  match rr, hq with
  | .error er, z => exact tk er s' (XE.of_call I (fun _ _ _ y => y) z)
  | .ok (.ret u), z => exact I.after z
  | .ok .next, z => exact z.elim
  | .ok .brk, z => exact z.elim
  | .ok .cont, z => exact z.elim
theorem run_g (F : FnG X.prog X.w X.K X.mg X.base (L2.CX X.prog X.w) k f fd ps sp) (hg : X.A.guards = some []) (hr : Room k X.A) (hb : Binds X.K fd ps []) (tk : Takes X W) (I : Inv X pi σ H s) (r : Vals vs us) (h : sp vs H Q (fun cls d H' => W cls d σ H')) :
    wpAny (model X.prog X.w) X.A (call (.ref f) us) (EP X pi σ Q) X.xe s := by
  refine wpAny_call (codeAny_mono (F.run X.A X.stack s H ⟨us, []⟩ us vs Q _ hg hr I.env0 (bind0 hb I r (F.len _ _ _ _ h)) r h) fun rr s' hq => ?_)
  match rr, hq with
  | .error er, z => exact tk er s' (XE.of_call I (fun _ _ _ y => y) z)
  | .ok (.ret u), z => exact I.after z
  | .ok .next, z => exact z.elim
  | .ok .brk, z => exact z.elim
  | .ok .cont, z => exact z.elim
def tCo (sp : Sp) (W : WX) (t : TA) : TE := fun σ H Q => t σ H fun vs H1 => sp vs H1 Q fun cls d H' => W cls d σ H'
/-- f(e, ..), f of a promise that asks nothing of what is around -/
theorem pe_co (F : FnOk X.prog X.w X.K X.mg X.base (L2.CX X.prog X.w) k f fd ps sp) (hr : Room k X.A) (gl : Gl X x) (hm : X.mg x = some (.ref f)) (hk : PySem.W.keepIn X.K (.ref f) = true) (hb : Binds X.K fd ps []) (tk : Takes X W)
    (ha : PA X (e :: es) t) (h1 : (x == ("__debug__" : Str)) = false := by decide) (h2 : starEach (e :: es) X.env = (false, eval e X.env) :: starEach es X.env := by rfl) (h3 : (backTo pos (starEach es X.env)).any (·.1) = false := by rfl) :
    PE X (.Call (.Name x p) (e :: es) [] pos) (tCo sp W t) := by
  refine ⟨fun pi s σ H Q I h => wpAny_Call_Name_kw (ld_glob I gl hm ?_ h1)⟩
  refine PySem.W.callWith_K (h₀ := X.base) I.ok.mod.kin hk (thn (ha.run pos pi s σ H _ I h) ?_) h2 h3
  rintro us s1 ⟨vs, H1, I1, r, q⟩
  exact ⟨I1.kIn, run_o F hr hb tk I1 r q⟩
theorem pe_co0 (F : FnOk X.prog X.w X.K X.mg X.base (L2.CX X.prog X.w) k f fd ps sp) (hr : Room k X.A) (gl : Gl X x) (hm : X.mg x = some (.ref f)) (hk : PySem.W.keepIn X.K (.ref f) = true) (hb : Binds X.K fd ps []) (tk : Takes X W)
    (h1 : (x == ("__debug__" : Str)) = false := by decide) : PE X (.Call (.Name x p) [] [] pos) (tCo sp W tNil) :=
  ⟨fun pi s σ H Q I h => wpAny_Call_Name_kw (ld_glob I gl hm (PySem.W.callWith_K0 I.kIn hk (run_o (us := []) F hr hb tk I .nil h)) h1)⟩
/-- .. where no repr is under way -/
theorem pe_cg (F : FnG X.prog X.w X.K X.mg X.base (L2.CX X.prog X.w) k f fd ps sp) (hg : X.A.guards = some []) (hr : Room k X.A) (gl : Gl X x) (hm : X.mg x = some (.ref f)) (hk : PySem.W.keepIn X.K (.ref f) = true) (hb : Binds X.K fd ps []) (tk : Takes X W)
    (ha : PA X (e :: es) t) (h1 : (x == ("__debug__" : Str)) = false := by decide) (h2 : starEach (e :: es) X.env = (false, eval e X.env) :: starEach es X.env := by rfl) (h3 : (backTo pos (starEach es X.env)).any (·.1) = false := by rfl) :
    PE X (.Call (.Name x p) (e :: es) [] pos) (tCo sp W t) := by
  refine ⟨fun pi s σ H Q I h => wpAny_Call_Name_kw (ld_glob I gl hm ?_ h1)⟩
  refine PySem.W.callWith_K (h₀ := X.base) I.ok.mod.kin hk (thn (ha.run pos pi s σ H _ I h) ?_) h2 h3
  rintro us s1 ⟨vs, H1, I1, r, q⟩
  exact ⟨I1.kIn, run_g F hg hr hb tk I1 r q⟩
theorem pe_cg0 (F : FnG X.prog X.w X.K X.mg X.base (L2.CX X.prog X.w) k f fd ps sp) (hg : X.A.guards = some []) (hr : Room k X.A) (gl : Gl X x) (hm : X.mg x = some (.ref f)) (hk : PySem.W.keepIn X.K (.ref f) = true) (hb : Binds X.K fd ps []) (tk : Takes X W)
    (h1 : (x == ("__debug__" : Str)) = false := by decide) : PE X (.Call (.Name x p) [] [] pos) (tCo sp W tNil) :=
  ⟨fun pi s σ H Q I h => wpAny_Call_Name_kw (ld_glob I gl hm (PySem.W.callWith_K0 I.kIn hk (run_g (us := []) F hg hr hb tk I .nil h)) h1)⟩
/-- o.m(e, ..) -/
def MtK (C : Addr) (m : Str) (R : V → Hp → Prop) (x : V) (H : Hp) : Prop := ∃ a dx fs, x = .ref a ∧ H a = some (.ins C dx fs) ∧ fs.lookup m = none ∧ R x H
def tMt (C : Addr) (m : Str) (sp : Sp) (W : WX) (ta : TE) (t : TA) : TE := fun σ H Q => ta σ H (MtK C m fun x H1 => t σ H1 fun vs H2 => sp (x :: vs) H2 Q fun cls d H' => W cls d σ H')
theorem pe_mo {pl : Sem Bool} (c : Cls X.K C) (hm : Meth X.K C m f) (F : FnOk X.prog X.w X.K X.mg X.base (L2.CX X.prog X.w) k f fd ps sp) (hr : Room k X.A) (hb : Binds X.K fd ps []) (tk : Takes X W) (he : PE X o ta) (ha : PA X (e :: es) t)
    (h2 : starEach (e :: es) X.env = (false, eval e X.env) :: starEach es X.env := by rfl) (h3 : (backTo pos (starEach es X.env)).any (·.1) = false := by rfl)
    (h4 : eval (.Call (.Attribute o m ap) (e :: es) [] pos) X.env = (do
      let ov ← eval o X.env
      standAt ap.atName
      let (f, first) ← holding [ov] (getMethod ov m pl)
      callWith pos f first (backTo pos (starEach (e :: es) X.env)) (backToKw pos (keywordEach [] X.env))) := by rfl) :
    PE X (.Call (.Attribute o m ap) (e :: es) [] pos) (tMt C m sp W ta t) := by
  refine ⟨fun pi s σ H Q I h => PySem.W.methodCall_KW (pl := pl) (thn (he.run pi s σ H _ I h) ?_) h4⟩
  rintro u s1 ⟨x, H1, I1, rx, a, dx, fs, rfl, ea, l, q⟩
  obtain rfl : u = Value.ref a := rx
  refine getmeth_ok I1 ea c hm l (PySem.W.callWith_K (first := [.ref a]) (h₀ := X.base) I.ok.mod.kin hm.kp (thn (ha.run pos pi s1 σ H1 _ I1 q) ?_) h2 h3)
  rintro us s2 ⟨vs, H2, I2, r, q2⟩
  exact ⟨I2.kIn, run_o (us := .ref a :: us) (vs := .ref a :: vs) F hr hb tk I2 (.cons rfl r) q2⟩
theorem pe_mo0 {pl : Sem Bool} (c : Cls X.K C) (hm : Meth X.K C m f) (F : FnOk X.prog X.w X.K X.mg X.base (L2.CX X.prog X.w) k f fd ps sp) (hr : Room k X.A) (hb : Binds X.K fd ps []) (tk : Takes X W) (he : PE X o ta)
    (h4 : eval (.Call (.Attribute o m ap) [] [] pos) X.env = (do
      let ov ← eval o X.env
      standAt ap.atName
      let (f, first) ← holding [ov] (getMethod ov m pl)
      callWith pos f first (backTo pos (starEach [] X.env)) (backToKw pos (keywordEach [] X.env))) := by rfl) :
    PE X (.Call (.Attribute o m ap) [] [] pos) (tMt C m sp W ta tNil) := by
  refine ⟨fun pi s σ H Q I h => PySem.W.methodCall_KW (pl := pl) (thn (he.run pi s σ H _ I h) ?_) h4⟩
  rintro u s1 ⟨x, H1, I1, rx, a, dx, fs, rfl, ea, l, q⟩
  obtain rfl : u = Value.ref a := rx
  exact getmeth_ok I1 ea c hm l (PySem.W.callWith_K0 (first := [.ref a]) I1.kIn hm.kp (run_o (us := [.ref a]) (vs := [.ref a]) F hr hb tk I1 (.cons rfl .nil) q))
/-- C(e, ..) -/
def NewK (C : Addr) (sp : Sp) (E : XK) (Q : VK) (vs : List V) (H : Hp) : Prop := ∀ x dx H', H x = none → H' x = some (.ins C dx []) → Kp [] H H' → sp (.ref x :: vs) H' (fun v H2 => v = .non ∧ Q (.ref x) H2) E
def tNw (C : Addr) (sp : Sp) (W : WX) (t : TA) : TE := fun σ H Q => t σ H (NewK C sp (fun cls d H' => W cls d σ H') Q)
theorem run_nw (M : Mk X.K C f) (F : FnOk X.prog X.w X.K X.mg X.base (L2.CX X.prog X.w) k f fd ps sp) (hr : Room (k + 1) X.A) (hb : Binds X.K fd ps []) (tk : Takes X W) (I : Inv X pi σ H s) (r : Vals vs us)
    (h : NewK C sp (fun cls d H' => W cls d σ H') Q vs H) : wpAny (model X.prog X.w) X.A (call (.ref C) us) (EP X pi σ Q) X.xe s := by
  have n1 : H (s.heap.objs.size + 1) = none := I.hok.fresh (Nat.le_succ _)
  have n0 : H s.heap.objs.size = none := I.hok.fresh (Nat.le_refl _)
  have hq := h (s.heap.objs.size + 1) s.heap.objs.size _ n1 upd_same ((Kp.refl.new (u := .own (s.heap.objs.size + 1)) n0).new (by rw [upd_ne (Nat.succ_ne_self _)]; exact n1))
  have I2 := Inv.made (C := C) I
  have r2 : Vals (V.ref (s.heap.objs.size + 1) :: vs) (Value.ref (s.heap.objs.size + 1) :: us) := .cons rfl r
  refine wpAny_call (make_map (f := f) I.kIn M.makes M.init (beq_iff_eq.mp M.fn) (codeAny_mono (F.run _ X.stack _ _ ⟨Value.ref (s.heap.objs.size + 1) :: us, []⟩ (Value.ref (s.heap.objs.size + 1) :: us) _ _ _ (hr.make C us [])
    (I2.env0.make C us []) (bind0 hb I2 r2 (F.len _ _ _ _ hq)) r2 hq) fun rr s' z => ?_))
  match rr, z with
  | .error er, z => exact tk er s' (XE.of_call I2 (fun _ _ _ y => y) z)
  | .ok (.ret u), z =>
    obtain ⟨v, H', I3, rv, ev, q3⟩ := I2.after z
    subst ev
    exact ⟨rv, ⟨V.ref (s.heap.objs.size + 1), H', I3, rfl, q3⟩⟩
  | .ok .next, z => exact z.elim
  | .ok .brk, z => exact z.elim
  | .ok .cont, z => exact z.elim
theorem pe_nw (M : Mk X.K C f) (F : FnOk X.prog X.w X.K X.mg X.base (L2.CX X.prog X.w) k f fd ps sp) (hr : Room (k + 1) X.A) (gl : Gl X x) (hm : X.mg x = some (.ref C)) (hb : Binds X.K fd ps []) (tk : Takes X W)
    (ha : PA X (e :: es) t) (h1 : (x == ("__debug__" : Str)) = false := by decide) (h2 : starEach (e :: es) X.env = (false, eval e X.env) :: starEach es X.env := by rfl) (h3 : (backTo pos (starEach es X.env)).any (·.1) = false := by rfl) :
    PE X (.Call (.Name x p) (e :: es) [] pos) (tNw C sp W t) := by
  refine ⟨fun pi s σ H Q I h => wpAny_Call_Name_kw (ld_glob I gl hm ?_ h1)⟩
  refine PySem.W.callWith_K (h₀ := X.base) I.ok.mod.kin M.kp (thn (ha.run pos pi s σ H _ I h) ?_) h2 h3
  rintro us s1 ⟨vs, H1, I1, r, q⟩
  exact ⟨I1.kIn, run_nw M F hr hb tk I1 r q⟩
theorem pe_nw0 (M : Mk X.K C f) (F : FnOk X.prog X.w X.K X.mg X.base (L2.CX X.prog X.w) k f fd ps sp) (hr : Room (k + 1) X.A) (gl : Gl X x) (hm : X.mg x = some (.ref C)) (hb : Binds X.K fd ps []) (tk : Takes X W)
    (h1 : (x == ("__debug__" : Str)) = false := by decide) : PE X (.Call (.Name x p) [] [] pos) (tNw C sp W tNil) :=
  ⟨fun pi s σ H Q I h => wpAny_Call_Name_kw (ld_glob I gl hm (PySem.W.callWith_K0 I.kIn M.kp (run_nw (us := []) M F hr hb tk I .nil h)) h1)⟩
/-- e.f -/
def FldK (K : PySem.W.Frag) (f : Str) (Q : VK) (x : V) (H : Hp) : Prop := ∃ a C dx fs v, x = .ref a ∧ H a = some (.ins C dx fs) ∧ Cls K C ∧ NoAttr K C f ∧ fs.lookup f = some v ∧ Q v H
def tFd (K : PySem.W.Frag) (ta : TE) (f : Str) : TE := fun σ H Q => ta σ H (FldK K f Q)
theorem pe_fd {f : Str} (hK : X.K = K) (he : PE X e ta) (hb : attributeBase e f X.env (eval e X.env) = eval e X.env) : PE X (.Attribute e f pos) (tFd K ta f) := hK ▸ pe_fld he hb
/-- e.f = v -/
def SetK (K : PySem.W.Frag) (f : Str) (y : V) (R : Hp → Prop) (x : V) (H : Hp) : Prop := ∃ a C dx fs, x = .ref a ∧ H a = some (.ins C dx fs) ∧ Cls K C ∧ NoAttr K C f ∧ fs.length < 1000 ∧ R (upd H a (.ins C dx (putF f y fs)))
def tSd (K : PySem.W.Frag) (ta tv : TE) (f : Str) : TS := fun D σ H => tv σ H fun y H1 => ta σ H1 (SetK K f y (D.nx σ))
theorem ps_fd {f : Str} {value : Expr} {tv : TE} {pos' : Pos} (hK : X.K = K) (he : PE X o ta) (hv : PE X value tv) (hs : swapsWith value (some (.Attribute o f pos')) pos.line X.env = pure false) : PS X (.Assign [.Attribute o f pos'] value pos) (tSd K ta tv f) :=
  hK ▸ ps_fld he hv hs
end

/-! steps -/
section
variable {K : PySem.W.Frag} {σ : L2.St} {H : Hp} {Q : VK} {D : Ends} {x y v : V} {C p : Addr} {m f : Str} {ta tv : TE} {t : TA} {sp : Sp} {W : WX}
theorem s_co (h : t σ H fun vs H1 => sp vs H1 Q fun cls d H' => W cls d σ H') : tCo sp W t σ H Q := h
theorem s_mt (h : ta σ H (MtK C m fun x H1 => t σ H1 fun vs H2 => sp (x :: vs) H2 Q fun cls d H' => W cls d σ H')) : tMt C m sp W ta t σ H Q := h
theorem s_mtk {R : V → Hp → Prop} {dx : Addr} {fs : List (Str × V)} (h : H p = some (.ins C dx fs)) (l : fs.lookup m = none) (q : R (.ref p) H) : MtK C m R (.ref p) H := ⟨p, dx, fs, rfl, h, l, q⟩
theorem s_nw (h : t σ H (NewK C sp (fun cls d H' => W cls d σ H') Q)) : tNw C sp W t σ H Q := h
theorem s_fd (h : ta σ H (FldK K f Q)) : tFd K ta f σ H Q := h
theorem s_fdk {dx : Addr} {fs : List (Str × V)} (h : H p = some (.ins C dx fs)) (c : Cls K C) (n : NoAttr K C f) (l : fs.lookup f = some v) (q : Q v H) : FldK K f Q (.ref p) H := ⟨p, C, dx, fs, v, rfl, h, c, n, l, q⟩
theorem s_sd (h : tv σ H fun y H1 => ta σ H1 (SetK K f y (D.nx σ))) : tSd K ta tv f D σ H := h
/-- an object is changed, the heap behind it as a letter -/
theorem put_abs {o o0 : HO} {R : Hp → Prop} (e : H p = some o0) (z : ko o0 = ko o) (h : ∀ H', H' p = some o → Kp [p] H H' → R H') (y : Nat.beq (ko o) 1 = false := by rfl) : R (upd H p o) := h _ upd_same (Kp.refl.put (by simp) ⟨o0, e, z⟩ y)
theorem s_sdk {dx : Addr} {fs gs : List (Str × V)} {R : Hp → Prop} (h : H p = some (.ins C dx fs)) (c : Cls K C) (n : NoAttr K C f) (z : fs.length < 1000) (e : putF f y fs = gs) (q : ∀ H', H' p = some (.ins C dx gs) → Kp [p] H H' → R H') : SetK K f y R (.ref p) H :=
  ⟨p, C, dx, fs, rfl, h, c, n, z, by rw [e]; exact put_abs h rfl q⟩
end

/-! an error with one field -/
/-- __init__ of an error: its field, the class's -/
def spE (C : Addr) (f : Str) : Sp := sp2 fun x y H Q _ => ∃ a, x = .ref a ∧ H a = some (exo a C none) ∧ ∀ dx, H dx = none → dx ≠ a → Q .non (upd (upd H dx (exd dx [(f, y)])) a (exo a C (some dx)))
section
variable {X : Cx} {C S fI : Addr} {f x : Str} {e : Expr} {es : List Expr} {ta : TA} {te to : TE} {p p1 p2 pos pos' : Pos} {K : PySem.W.Frag}
/-- a class that is read -/
structure RdC (K : PySem.W.Frag) (C : Addr) : Prop where
  rd : PySem.W.readsIn K C (.type "type") = true
  ga : PySem.W.specialIn K (.ref C) "__getattribute__" = some (some (.builtin "type.__getattribute__"))
/-- S.__init__(self, ..), S a class over ValueError without an __init__ of its own -/
def SeK (K : PySem.W.Frag) (Q : VK) (vs : List V) (H : Hp) : Prop := ∃ (a C : Addr) (ws : List V), vs = .ref a :: ws ∧ ws.length ≤ 1000 ∧ OexC K C ∧ H a = some (exo a C none) ∧ Q .non H
def tSe (K : PySem.W.Frag) (ta : TA) : TE := fun σ H Q => ta σ H (SeK K Q)
theorem pe_se {pl : Sem Bool} (hK : X.K = K) (gl : Gl X x) (hm : X.mg x = some (.ref S)) (r : RdC X.K S) (vV : PySem.W.findCls X.K (.ref S) (.type "type") "__init__" = some (.val (.builtin "ValueError.__init__"))) (ha : PA X (e :: es) ta)
    (h1 : (x == ("__debug__" : Str)) = false := by decide)
    (hc : eval (.Call (.Attribute (.Name x p1) "__init__" p2) (e :: es) [] pos) X.env = (do
      let ov ← eval (.Name x p1) X.env
      standAt p2.atName
      let (f, first) ← holding [ov] (getMethod ov "__init__" pl)
      callWith pos f first (backTo pos (starEach (e :: es) X.env)) (backToKw pos (keywordEach [] X.env))) := by rfl)
    (h2 : starEach (e :: es) X.env = (false, eval e X.env) :: starEach es X.env := by rfl) (h3 : (backTo pos (starEach es X.env)).any (·.1) = false := by rfl) :
    PE X (.Call (.Attribute (.Name x p1) "__init__" p2) (e :: es) [] pos) (tSe K ta) := by
  subst hK
  refine ⟨fun pi s σ H Q I h => PySem.W.methodCall_KW (ld_glob I gl hm ?_ h1) hc⟩
  refine PySem.W.method_cls I.kIn r.ga (PySem.W.cls_value I.kIn r.rd vV (by decide +kernel) ?_)
  refine PyProof.Rows.callWith_method1 (thn (ha.run pos pi _ σ H _ (I.tok _) h) ?_) h2 h3
  rintro us s1 ⟨vs, H1, I1, r1, a, D, ws, rfl, hl, T, ea, q⟩
  cases r1 with
  | @cons _ u0 _ ur ra rw' =>
    obtain rfl : u0 = Value.ref a := ra
    have z := Paired.length rw'
    exact oinit_ok T I1 ea (by rw [sizeLine_eq]; omega) fun s' J => ⟨.non, H1, J, rfl, q⟩
/-- self.f = e in such an __init__ -/
def OsK (K : PySem.W.Frag) (f : Str) (y : V) (R : Hp → Prop) (x : V) (H : Hp) : Prop := ∃ a C : Addr, x = .ref a ∧ OexC K C ∧ PySem.W.findIn K (.ref C) f = some none ∧ H a = some (exo a C none) ∧ ∀ dx, H dx = none → dx ≠ a → R (upd (upd H dx (exd dx [(f, y)])) a (exo a C (some dx)))
def tOs (K : PySem.W.Frag) (f : Str) (to te : TE) : TS := fun D σ H => te σ H fun y H1 => to σ H1 (OsK K f y (D.nx σ))
theorem ps_os {o : Expr} (hK : X.K = K) (ho : PE X o to) (he : PE X e te) (hs : swapsWith e (some (.Attribute o f p')) pos.line X.env = pure false := by rfl) : PS X (.Assign [.Attribute o f p'] e pos) (tOs K f to te) := by
  subst hK
  refine psImp (ps_ost (f := f) (peMo ho) (peMo he) hs) fun D σ H q => ⟨_, q, fun y H1 z => ⟨_, z, fun x H2 w => ?_⟩⟩
  obtain ⟨a, C, rfl, h1, h2, h3, h4⟩ := w
  exact ⟨a, C, rfl, h1, h2, Or.inl ⟨h3, h4⟩⟩
/-- raise C(e) -/
def RzK (C : Addr) (f : Str) (R : Value → Option Addr → Hp → Prop) (v : V) (H : Hp) : Prop := ∀ d H', H d = none → H' d = some (.xd [(f, v)]) → Kp [] H H' → R (.ref C) (some d) H'
def tRz (C : Addr) (f : Str) (W : WX) (te : TE) : TS := fun _ σ H => te σ H (RzK C f fun cls d H' => W cls d σ H')
theorem ps_rz {k : Nat} {fd : FuncData} {ps : List Str} {W : WX} (hc : X.calm = true) (T : OexC X.K C) (iC : PySem.W.findIn X.K (.ref C) "__init__" = some (some (.ref fI))) (tI : PySem.W.typeIn X.K (.ref fI) = some (.type "function"))
    (F : FnOk X.prog X.w X.K X.mg X.base (L2.CX X.prog X.w) k fI fd ps (spE C f)) (hr : Room (k + 1) X.A) (hb : Binds X.K fd ps []) (gl : Gl X x) (hm : X.mg x = some (.ref C)) (tk : Takes X W) (he : PE X e te)
    (h1 : (x == ("__debug__" : Str)) = false := by decide) (h2 : starEach [e] X.env = [(false, eval e X.env)] := by rfl) :
    PS X (.Raise (some (.Call (.Name x p) [e] [] pos)) none pos') (tRz C f W te) := by
  refine psImp (ps_raise hc tk (pmk_oex T iC tI F hr hb .nil passF gl hm (pa_cons (peMo he) pa_nil h2) h1 h2 rfl)) fun D σ H q => ?_
  refine ⟨_, q, fun v H1 z => ⟨by simp, fun a na => ⟨_, _, rfl, a, rfl, upd_same, fun dx nd ne => ⟨rfl, dx, [(f, v)], upd_same, ?_, ?_, ?_⟩⟩⟩⟩
  · rw [upd_ne ne, upd_same]
  · rw [upd_ne ne] at nd; exact nd
  · rw [upd_ne ne] at nd
    refine z dx _ nd upd_same ⟨fun b o eb _ => ?_, fun b i eb => ?_, fun b xs eb => ?_⟩
    · have nb : b ≠ dx := ne_of_none eb nd
      have nb2 : b ≠ a := ne_of_none eb na
      rw [upd_ne nb, del_ne nb2, upd_ne nb2, upd_ne nb, upd_ne nb2]
      exact eb
    · obtain ⟨o1, e1, r1⟩ := eb
      have nb : b ≠ dx := ne_of_none e1 nd
      have nb2 : b ≠ a := ne_of_none e1 na
      refine ⟨o1, ?_, r1⟩
      rw [upd_ne nb, del_ne nb2, upd_ne nb2, upd_ne nb, upd_ne nb2]
      exact e1
    · have nb : b ≠ dx := ne_of_none eb nd
      have nb2 : b ≠ a := ne_of_none eb na
      rw [upd_ne nb, del_ne nb2, upd_ne nb2, upd_ne nb, upd_ne nb2]
      exact eb
end
end U

namespace U
open PySem L2 PySem.Spec PyProof.Rows
/-! try with clauses of any number, with names or without -/
/-- a clause: its class, the slot of its name, its suite's reading -/
abbrev Clause := Value × Option Nat × (Addr → Value → Option Addr → TS)
def dropS (i : Option Nat) (σ : L2.St) : L2.St := match i with | none => σ | some i => σ.set i none
def putS (i : Option Nat) (a : Addr) (σ : L2.St) : L2.St := match i with | none => σ | some i => σ.set i (some (.ref a))
def endS (i : Option Nat) (D : Ends) : Ends := { nx := fun σ H => D.nx (dropS i σ) H, rt := D.rt, bk := fun σ H => D.bk (dropS i σ) H, ct := fun σ H => D.ct (dropS i σ) H }
def wCl (K : PySem.W.Frag) (Wout : WX) (D : Ends) : List Clause → WX
  | [] => Wout
  | (c, i, ts) :: r => fun cls d σ H => ∃ b, PySem.W.exmOne K cls c = some b ∧ (b = true → ∀ a, H a = none → ts a cls d (endS i D) (putS i a σ) H) ∧ (b = false → wCl K Wout D r cls d σ H)
inductive ClOk (X : Cx) : List ExceptHandler → List Clause → Prop
  | nil : ClOk X [] []
  | only {x : Str} {c : Value} {ts : Addr → Value → Option Addr → TS} {b0 : Stmt} {su : List Stmt} {np p' : Pos} {hds : List ExceptHandler} {l : List Clause} (hc : Names X x c)
      (hsu : ∀ (a : Addr) (oe : Obj) (cls : Value) (d : Option Addr) (pn : List (Addr × Obj)), Zc cls d oe → (∃ vs, oe.data = .fields vs) → PSs (X.suite a ((a, oe) :: pn)) (b0 :: su) (ts a cls d)) (r : ClOk X hds l) :
      ClOk X (.ExceptHandler (some (.Name x np)) none (b0 :: su) p' :: hds) ((c, none, ts) :: l)
  | as {x n : Str} {i : Nat} {c : Value} {ts : Addr → Value → Option Addr → TS} {b0 : Stmt} {su : List Stmt} {np p' : Pos} {hds : List ExceptHandler} {l : List Clause} (hc : Names X x c) (hi : X.N[i]? = some n) (hln : X.env.kindOf n = some .local)
      (hsu : ∀ (a : Addr) (oe : Obj) (cls : Value) (d : Option Addr) (pn : List (Addr × Obj)), Zc cls d oe → (∃ vs, oe.data = .fields vs) → PSs (X.suite a ((a, oe) :: pn)) (b0 :: su) (ts a cls d)) (r : ClOk X hds l) :
      ClOk X (.ExceptHandler (some (.Name x np)) (some n) (b0 :: su) p' :: hds) ((c, some i, ts) :: l)
section
variable {X : Cx} {body : List Stmt} {h0 : ExceptHandler} {hds : List ExceptHandler} {l : List Clause} {pos : Pos} {tb : WX → TS} {Wout : WX} {K : PySem.W.Frag}
def tTry (K : PySem.W.Frag) (Wout : WX) (l : List Clause) (tb : WX → TS) : TS := fun D σ H => tb (wCl K Wout D l) D σ H
theorem ps_try (hK : X.K = K) (hs : X.stack = X.env :: X.outer) (hf : X.env.frame = some X.env.locals) (hN : X.N.Nodup) (tk : Takes X Wout)
    (hb : ∀ (W : WX) (pn : List (Addr × Obj)) (xe : Value → Shared → Prop), Takes (X.tr pn xe) W → PassesOwn (model X.prog X.w) X.A X.env xe → PSs (X.tr pn xe) body (tb W))
    (hh : ClOk X (h0 :: hds) l) : PS X (.Try body (h0 :: hds) [] [] pos) (tTry K Wout l tb) := by
  subst hK
  refine ⟨fun pi s σ H D I h => wpAny_Try_except ?_⟩
  have ok := I.ok
  have hfr : X.A.frames = some (X.env :: X.outer) := by rw [ok.frames, hs]
  let xe : Value → Shared → Prop := fun e s1 => wpAny (model X.prog X.w) X.A (noteFrame e X.env) (fun _ s2 => wpAny (model X.prog X.w) X.A (setFlight e none)
    (fun _ s3 => wpAny (model X.prog X.w) X.A (handleBy e X.env (h0 :: hds)) (SP X pi D) X.xe s3) X.xe s2) X.xe s1
  have tkx : Takes (X.tr (X.pn ++ pi) xe) (wCl X.K Wout D l) := by
    rintro u s1 ⟨a, B, sI, pins1, σ1, H1, cls, d, rfl, J1, nb, up, sky, na, os, ag, w⟩
    have J : Inv X pi σ1 H1 sI := J1.ofTry ok
    have sky1 : Sky B (X.env :: X.outer) a (Zc cls d) X.env.locals s1.heap := hs ▸ sky
    show wpAny (model X.prog X.w) X.A (noteFrame (.ref a) X.env) _ _ _
    refine Sky.land Zc.steady hfr hf sky1 fun h3 f3 u3 => ?_
    have J3 : Inv X pi σ1 H1 { s1 with heap := h3 } := J.landed nb f3.1 (up.trans u3) os ag
    obtain ⟨oe3, vs3, he3, hz3, hd3⟩ := f3.there
    have nfr : a ∉ frs (X.env :: X.outer) := fun hm => by
      obtain ⟨_, o', e', hnf⟩ := f3.2.2.1.mem hm
      rw [he3] at e'; cases e'
      exact hnf _ hd3
    have nL : a ≠ X.env.locals := fun z => nfr (List.mem_filterMap.mpr ⟨X.env, List.mem_cons_self, by rw [hf, z]⟩)
    have nF : a ∉ X.fs := fun hm => by
      obtain ⟨e, he, q⟩ := List.mem_filterMap.mp hm
      exact nfr (List.mem_filterMap.mpr ⟨e, List.mem_cons_of_mem _ he, q⟩)
    have S3 := J3.suite he3 hd3 na nL nF
    have LT : PySem.W.Looks (model X.prog X.w) h3 (typeOf (.ref a)) cls := fun A Q E s k q => wpAny_typeOf_ref (k _ _ he3) (by rw [hz3.1]; exact q)
    have test : ∀ {x : Str} {c : Value} {np : Pos} {Q : Value → Shared → Prop} {E : Value → Shared → Prop}, Names X x c → Q c { s1 with heap := h3 } →
        wpAny (model X.prog X.w) (X.A.mark (some (.ref a))) (eval (.Name x np) X.env) Q E { s1 with heap := h3 } := fun {x c np Q E} hc q => by
      obtain ⟨hg, hdb, hm | ⟨hm, hv, hnn⟩⟩ := hc
      · exact ld_glob (X := X.suite a ((a, oe3) :: (X.pn ++ pi))) S3 hg hm q hdb
      · exact ld_blt (X := X.suite a ((a, oe3) :: (X.pn ++ pi))) S3 hg hm hv q hnn hdb
    have go : ∀ {hds' : List ExceptHandler} {l' : List Clause}, ClOk X hds' l' → wCl X.K Wout D l' cls d σ1 H1 →
        wpAny (model X.prog X.w) X.A (handleBy (.ref a) X.env hds') (SP X pi D) X.xe { s1 with heap := h3 } := by
      intro hds' l' hk
      induction hk with
      | nil =>
        intro w
        refine wpAny_handleBy_nil ?_
        obtain ⟨_, _, _, oe, vs, T, oT, ts', he, hz, hd, h1, hr⟩ := id f3
        unfold PySem.passOn
        refine wpAny_bind (wpAny_field he hd h1 ?_)
        rw [if_neg (show ¬ ((Value.ref T == Value.none) = true) from by simp)]
        have fin : wpAny (model X.prog X.w) X.A (setFlight (.ref a) X.env.frame) (fun _ s4 => wpAny (model X.prog X.w) X.A (throw (.ref a) : Sem Flow) (SP X pi D) X.xe s4) X.xe { s1 with heap := h3 } := by
          rw [hf]
          refine HandSPX.setFlight_upZ f3 fun h4 hh4 up4 => wpAny_throw (tk _ _ ?_)
          exact ⟨a, B, sI, pi, σ1, H1, cls, d, rfl, J, nb, (up.trans u3).trans up4, Or.inr (Or.inr (by rw [hs]; exact hh4)), na, os, ag, w⟩
        first
          | exact wpAny_bind (wpAny_pure (wpAny_bind fin))
          | exact wpAny_bind fin
      | @only x c ts b0 su np p' hds2 l2 hc hsu r ih =>
        rintro ⟨b, hb1, yes, no⟩
        refine wpAny_handleBy_cons (codeAny_handlers_test (test hc ((PySem.W.exm_one (M := model X.prog X.w) J3.kIn LT hb1).here ?_))) (by intro q; cases q)
        cases b with
        | false => exact ih (no rfl)
        | true =>
          refine codeAny_handlers_suite (HandSPX.lands_againZ f3 fun h4 fl4 up4 => ?_)
          have J4 : Inv X pi σ1 H1 { s1 with heap := h4 } := J.landed nb fl4.1 ((up.trans u3).trans up4) os ag
          obtain ⟨oe4, vs4, he4, hz4, hd4⟩ := fl4.there
          refine wpAny_mono ((hsu a oe4 cls d (X.pn ++ pi) hz4 ⟨_, hd4⟩).run [] _ _ H1 _ (J4.suite he4 hd4 na nL nF) (yes rfl a na)) (fun f s6 hsp => ?_) (fun _ _ z => False.elim z)
          match f, hsp with
          | .next, ⟨_, _, S6, q6⟩ => exact ⟨_, _, S6.unsuite ok, q6⟩
          | .brk, ⟨_, _, S6, q6⟩ => exact ⟨_, _, S6.unsuite ok, q6⟩
          | .cont, ⟨_, _, S6, q6⟩ => exact ⟨_, _, S6.unsuite ok, q6⟩
          | .ret u, ⟨_, _, _, S6, r6, q6⟩ => exact ⟨_, _, _, S6.unsuite ok, r6, q6⟩
      | @as x n i c ts b0 su np p' hds2 l2 hc hi hln hsu r ih =>
        rintro ⟨b, hb1, yes, no⟩
        refine wpAny_handleBy_cons (codeAny_handlers_test (test hc ((PySem.W.exm_one (M := model X.prog X.w) J3.kIn LT hb1).here ?_))) (by intro q; cases q)
        cases b with
        | false => exact ih (no rfl)
        | true =>
          refine codeAny_handlers_suite_as (HandSPX.lands_againZ f3 fun h4 fl4 up4 => ?_)
          have J4 : Inv X pi σ1 H1 { s1 with heap := h4 } := J.landed nb fl4.1 ((up.trans u3).trans up4) os ag
          obtain ⟨oe4, vs4, he4, hz4, hd4⟩ := fl4.there
          refine store_ok (X := X.suite a ((a, oe4) :: (X.pn ++ pi))) (v := .ref a) (J4.suite he4 hd4 na nL nF) hN hi (Or.inl hln) rfl (fun s5 S5 => ?_) (Or.inr hln)
          refine wpAny_mono ((hsu a oe4 cls d (X.pn ++ pi) hz4 ⟨_, hd4⟩).run [] s5 _ H1 _ S5 (yes rfl a na)) (fun f s6 hsp => ?_) (fun _ _ z => False.elim z)
          have gone : ∀ {σ6 : L2.St} {H6 : Hp} {Q : Shared → Prop}, Inv (X.suite a ((a, oe4) :: (X.pn ++ pi))) [] σ6 H6 s6 → (∀ s7, Inv X pi (σ6.set i none) H6 s7 → Q s7) →
              wpAny (model X.prog X.w) X.A (do bindName X.env n .none; unbindBehindTheSuite X.env n p') (fun _ s7 => Q s7) X.xe s6 := fun S6 hq => gone_ok (S6.unsuite ok) hN hi hln hq
          match f, hsp with
          | .next, ⟨_, _, S6, q6⟩ => exact gone S6 fun s7 J7 => ⟨_, _, J7, q6⟩
          | .brk, ⟨_, _, S6, q6⟩ => exact gone S6 fun s7 J7 => ⟨_, _, J7, q6⟩
          | .cont, ⟨_, _, S6, q6⟩ => exact gone S6 fun s7 J7 => ⟨_, _, J7, q6⟩
          | .ret u, ⟨_, _, _, S6, r6, q6⟩ => exact gone S6 fun s7 J7 => ⟨_, _, _, J7, r6, q6⟩
    exact go hh w
  refine wpAny_mono ((hb _ (X.pn ++ pi) xe tkx PassesOwn.looking).run [] s σ H D (I.toTry _) h) (fun f s1 hsp => ?_) (fun e s1 he => he)
  match f, hsp with
  | .next, ⟨σ1, H1, J1, q⟩ => exact wpAny_execs_nil ⟨σ1, H1, J1.ofTry ok, q⟩
  | .brk, ⟨σ1, H1, J1, q⟩ => exact ⟨σ1, H1, J1.ofTry ok, q⟩
  | .cont, ⟨σ1, H1, J1, q⟩ => exact ⟨σ1, H1, J1.ofTry ok, q⟩
  | .ret u, ⟨v, σ1, H1, J1, r, q⟩ => exact ⟨v, σ1, H1, J1.ofTry ok, r, q⟩
end
end U

namespace U
open PySem L2 PySem.Spec PyProof.Rows
/-- what the written part says of an error's class at C, its __init__ at fI, its field f -/
structure ErrC (K : PySem.W.Frag) (C fI : Addr) (f : Str) : Prop where
  oex : OexC K C
  xf : XfC K C
  no : PySem.W.findIn K (.ref C) f = some none
  iC : PySem.W.findIn K (.ref C) "__init__" = some (some (.ref fI))
  tI : PySem.W.typeIn K (.ref fI) = some (.type "function")
  ha : PySem.W.findIn K (.ref C) "__class__" = some (some (.builtin "object.__class__"))
  hm : PySem.W.mroIn K C (.type "object") = some true
section
variable {X : Cx} {a C fI : Addr} {oe : Obj} {cls : Value} {d : Option Addr} {pn : List (Addr × Obj)} {e : Expr} {te : TE} {pos : Pos} {f : Str} {K : PySem.W.Frag}
/-- e.f += v -/
def FaK (K : PySem.W.Frag) (f : Str) (R : Addr → Addr → V → Hp → Prop) (x : V) (H : Hp) : Prop := ∃ a C dx fs v, x = .ref a ∧ H a = some (.ins C dx fs) ∧ Cls K C ∧ NoAttr K C f ∧ fs.lookup f = some v ∧ R a C v H
def FbK (f : Str) (a C : Addr) (R : Hp → Prop) (z : V) (H : Hp) : Prop := ∃ dx fs, H a = some (.ins C dx fs) ∧ fs.length < 1000 ∧ R (upd H a (.ins C dx (putF f z fs)))
def tFa (K : PySem.W.Frag) (ta tv : TE) (rd : V → V → Hp → VK → Prop) (f : Str) : TS := fun D σ H => ta σ H (FaK K f fun a C v H1 => tv σ H1 fun y H2 => rd v y H2 (FbK f a C (D.nx σ)))
theorem ps_fa {o value : Expr} {op : Operator} {ta tv : TE} {rd : V → V → Hp → VK → Prop} {tp : Pos} (hK : X.K = K) (ha : PE X o ta) (hv : PE X value tv) (hop : InOp X op rd) : PS X (.AugAssign (.Attribute o f tp) op value pos) (tFa K ta tv rd f) :=
  hK ▸ ps_fldaug ha hv hop
/-- err.f in its suite -/
def XfK (a : Addr) (cls : Value) (d : Option Addr) (C : Addr) (f : Str) (Q : VK) (x : V) (H : Hp) : Prop := x = .ref a ∧ cls = .ref C ∧ ∃ (dd : Addr) (fs : List (Str × V)) (v : V), d = some dd ∧ H dd = some (.xd fs) ∧ fs.lookup f = some v ∧ Q v H
def tXe (a : Addr) (cls : Value) (d : Option Addr) (C : Addr) (f : Str) (te : TE) : TE := fun σ H Q => te σ H (XfK a cls d C f Q)
theorem pe_xe (T : ErrC X.K C fI f) (hz : Zc cls d oe) (hf : ∃ vs, oe.data = .fields vs) (he : PE (X.suite a ((a, oe) :: pn)) e te) (hb : attributeBase e f X.env (eval e X.env) = eval e X.env := by rfl) :
    PE (X.suite a ((a, oe) :: pn)) (.Attribute e f pos) (tXe a cls d C f te) := pe_xf T.xf T.no hz hf he hb
/-- isinstance(err, T) in its suite -/
def rIsX (K : PySem.W.Frag) (a : Addr) (cls : Value) (d : Option Addr) (C : Addr) : List V → Hp → VK → Prop := fun xs H Q => ∃ (c : V) (cv : Value) (b : Bool) (dd : Addr) (fs : List (Str × V)), xs = [.ref a, c] ∧ ClsV c cv ∧ cls = .ref C ∧ d = some dd ∧ H dd = some (.xd fs) ∧
  PySem.W.kitOne K (.ref C) cv = some b ∧ Q (.bl b) H
theorem c_isx (hK : X.K = K) (T : ErrC X.K C fI f) (hn : PySem.W.specialIn X.K (.builtin "object.__class__") "__get__" = some (some (.builtin "getset_descriptor.__get__"))) (ht : PySem.W.takesIn X.K (.builtin "object.__class__") = some true)
    (hz : Zc cls d oe) (hf : ∃ vs, oe.data = .fields vs) : CallR (X.suite a ((a, oe) :: pn)) (.builtin "isinstance") (rIsX K a cls d C) := by
  subst hK
  rintro pi s σ H xs us Q I vv ⟨c, cv, b, dd, fs, rfl, hc, rfl, rfl, hd, e, q⟩
  cases vv with
  | cons rx rr =>
    cases rr with
    | cons rt rr =>
      cases rr
      cases rx
      obtain rfl := hc.eq rt
      obtain ⟨hget, _⟩ := I.pin (a, oe) (List.mem_append.mpr (Or.inl List.mem_cons_self))
      obtain ⟨vs, hv⟩ := hf
      have hx : ObjOk X.prog X.w H s.heap dd (.xd fs) := I.hok dd _ hd
      obtain ⟨mA, hns, _⟩ := hx
      obtain ⟨od, ho, _⟩ := lookIn_ns hns
      have J : PySem.W.InstAt s.heap a oe C (some od) := ⟨hget, hz.1, by unfold PySem.W.notCls; rw [hv] <;> rfl, by rw [hz.2]; exact ho⟩
      have hcl : (PySem.W.clsIn X.K C).isSome = true := by
        have z := T.xf.hdC
        unfold PySem.W.hasDictIn at z
        cases y : PySem.W.clsIn X.K C with
        | none => rw [y] at z; simp at z
        | some _ => rfl
      exact PySem.W.kia_one (PySem.W.kitx_exc hcl T.xf.ga T.xf.gg T.xf.exC T.ha hn ht T.hm) I.kIn J e (fun z => nomatch z) fun tk => ⟨.bl b, H, I.kept (t' := tk) fun _ _ z => z, rfl, q⟩
end
section
variable {K : PySem.W.Frag} {σ : L2.St} {H : Hp} {Q : VK} {D : Ends} {a C dd : Addr} {f : Str} {v : V} {te to : TE} {t : TA}
theorem s_fa {tv : TE} {rd : V → V → Hp → VK → Prop} (h : te σ H (FaK K f fun a C v H1 => tv σ H1 fun y H2 => rd v y H2 (FbK f a C (D.nx σ)))) : tFa K te tv rd f D σ H := h
theorem s_fak {R : Addr → Addr → V → Hp → Prop} {dx : Addr} {fs : List (Str × V)} (h : H a = some (.ins C dx fs)) (c : Cls K C) (n : NoAttr K C f) (l : fs.lookup f = some v) (q : R a C v H) : FaK K f R (.ref a) H := ⟨a, C, dx, fs, v, rfl, h, c, n, l, q⟩
theorem s_fbk {R : Hp → Prop} {dx : Addr} {fs gs : List (Str × V)} (h : H a = some (.ins C dx fs)) (z : fs.length < 1000) (e : putF f v fs = gs) (q : ∀ H', H' a = some (.ins C dx gs) → Kp [a] H H' → R H') : FbK f a C R v H := ⟨dx, fs, h, z, by rw [e]; exact put_abs h rfl q⟩
theorem s_radd {n m : Int} (q : Q (.int (n + m)) H) : rAdd (.int n) (.int m) H Q := ⟨n, m, rfl, rfl, q⟩
theorem s_rsub {n m : Int} (q : Q (.int (n - m)) H) : rSub (.int n) (.int m) H Q := ⟨n, m, rfl, rfl, q⟩
theorem s_xe {cls : Value} {d : Option Addr} (h : te σ H (XfK a cls d C f Q)) : tXe a cls d C f te σ H Q := h
theorem s_xek {fs : List (Str × V)} (h : H dd = some (.xd fs)) (l : fs.lookup f = some v) (q : Q v H) : XfK a (.ref C) (some dd) C f Q (.ref a) H := ⟨rfl, rfl, dd, fs, v, rfl, h, l, q⟩
theorem s_isx {C2 : Addr} {b : Bool} {fs : List (Str × V)} (h : H dd = some (.xd fs)) (e : PySem.W.kitOne K (.ref C) (.ref C2) = some b) (q : Q (.bl b) H) : rIsX K a (.ref C) (some dd) C [.ref a, .ref C2] H Q := ⟨.ref C2, .ref C2, b, dd, fs, rfl, .own C2, rfl, rfl, h, e, q⟩
theorem s_se (h : t σ H (SeK K Q)) : tSe K t σ H Q := h
theorem s_sek {z : V} (T : OexC K C) (h : H a = some (exo a C none)) (q : Q .non H) : SeK K Q [.ref a, z] H := ⟨a, C, [z], rfl, by simp, T, h, q⟩
theorem s_os (h : te σ H fun y H1 => to σ H1 (OsK K f y (D.nx σ))) : tOs K f to te D σ H := h
theorem s_rz {W : WX} (h : te σ H (RzK C f fun cls d H' => W cls d σ H')) : tRz C f W te D σ H := h
theorem s_try {Wout : WX} {l : List Clause} {tb : WX → TS} (h : tb (wCl K Wout D l) D σ H) : tTry K Wout l tb D σ H := h
end
end U

namespace U
open PySem L2 PySem.Spec PyProof.Rows
/-! dicts -/
section
variable {X : Cx} {k : Nat} {K : PySem.W.Frag} {o i e value : Expr} {pos p' ap : Pos} {td ty tv : TE} {trs : List (TE × TE)} {keys : List (Option Expr)} {values : List Expr}
def DdK (Q : VK) (p : Addr) (ps : List (V × V)) (H : Hp) : Prop := H p = some (.dK []) ∧ ∃ kvs : List (Key × V), ps = kvs.map (fun kv => (kV kv.1, kv.2)) ∧ kvs.length ≤ 15 ∧ Q (.ref p) (upd H p (.dK (mergeK [] kvs)))
def tDd (trs : List (TE × TE)) : TE := fun σ H Q => ∀ p, H p = none → tPairs trs σ (upd H p (.dK [])) (DdK Q p)
theorem pe_dd (h : PPs X pos keys values trs) (h1 : keys.all (·.isSome) = true) (h2 : keys.length = values.length) (h3 : keys ≠ []) (h4 : keys.length ≤ 15) : PE X (.Dict keys values pos) (tDd trs) := pe_disp h h1 h2 h3 h4
def DgK (x : V) (Q : VK) (y : V) (H : Hp) : Prop := ∃ a v, x = .ref a ∧ DGet H a y (some v) ∧ Q v H
def tDg (td ty : TE) : TE := fun σ H Q => td σ H fun x H1 => ty σ H1 (DgK x Q)
theorem pe_dg (hr : Room k X.A) (ho : PE X o td) (hi : PE X i ty) (hs : NoSl i) : PE X (.Subscript o i pos) (tDg td ty) := pe_dget (hu_of hr) ho hi hs
def DnK (ng : Bool) (y : V) (Q : VK) (x : V) (H : Hp) : Prop := ∃ a r, x = .ref a ∧ DGet H a y r ∧ Q (.bl (if ng then !r.isSome else r.isSome)) H
def tDn (ng : Bool) (ty td : TE) : TE := fun σ H Q => ty σ H fun y H1 => td σ H1 (DnK ng y Q)
theorem pc_in (hr : Room k X.A) (hi : PE X i ty) (ho : PE X o td) : PC X .In i o (tDn false ty td) := pc_din (hu_of hr) hi ho
theorem pc_nin (hr : Room k X.A) (hi : PE X i ty) (ho : PE X o td) : PC X .NotIn i o (tDn true ty td) := pc_dnotin (hu_of hr) hi ho
/-- o[i] = v, of a list or a dict -/
def uSet : V → V → V → Hp → (Hp → Prop) → Prop := fun o i v H Q => rSetL o i v H Q ∨ rSetD o i v H Q
theorem set_u (hr : Room k X.A) : PSet X uSet := by
  intro pi s σ H o i v ov iv u Q I ro ri rv h
  rcases h with h | h
  · exact set_list pi s σ H o i v ov iv u Q I ro ri rv h
  · exact set_dict (hu_of hr) pi s σ H o i v ov iv u Q I ro ri rv h
def PopK (a : Addr) (Q : VK) (y : V) (H : Hp) : Prop := ∃ kvs k v, H a = some (.dK kvs) ∧ y = kV k ∧ valV kvs k = some v ∧ Q v (upd H a (.dK (dropK kvs k)))
def PopJ (ty : TE) (σ : L2.St) (Q : VK) (x : V) (H : Hp) : Prop := ∃ a, x = .ref a ∧ IsD H a ∧ ty σ H (PopK a Q)
def tPop (td ty : TE) : TE := fun σ H Q => td σ H (PopJ ty σ Q)
theorem pe_pop (ho : PE X o td) (he : PE X e ty) (m : M1 X o "pop" ap e pos) : PE X (.Call (.Attribute o "pop" ap) [e] [] pos) (tPop td ty) := pe_dpop1 ho he m
def uDict : List V → Hp → VK → Prop := fun xs H Q => ∃ (a : Addr) (kvs : List (Key × V)), xs = [.ref a] ∧ Rd H a (.dK kvs) ∧ ∀ p, H p = none → Q (.ref p) (upd H p (.dK kvs))
theorem c_dict : CallR X (.type "dict") uDict := call_dictD
def uList (K : PySem.W.Frag) : List V → Hp → VK → Prop := fun xs H Q => ∃ p ys, xs = [.ref p] ∧ (SqL K H p ys ∨ SqT K H p ys) ∧ ∀ l, H l = none → Q (.ref l) (upd H l (.lst ys))
end
section
variable {K : PySem.W.Frag} {σ : L2.St} {H : Hp} {Q : VK} {D : Ends} {x y v : V} {p : Addr} {n : Int} {z : Str} {kvs ks : List (Key × V)} {td ty : TE} {trs : List (TE × TE)}
theorem s_dd (h : ∀ p H', H p = none → H' p = some (.dK []) → Kp [] H H' → tPairs trs σ H' (DdK Q p)) : tDd trs σ H Q := fun p f => h p _ f upd_same (Kp.refl.new f)
theorem s_ddk {ps : List (V × V)} (h : H p = some (.dK [])) (e : ps = kvs.map (fun kv => (kV kv.1, kv.2))) (hl : kvs.length ≤ 15) (m : mergeK [] kvs = ks) (q : ∀ H', H' p = some (.dK ks) → Kp [p] H H' → Q (.ref p) H') : DdK Q p ps H :=
  ⟨h, kvs, e, hl, by rw [m]; exact put_abs h rfl (R := fun H' => Q (.ref p) H') q⟩
theorem s_dg (h : td σ H fun x H1 => ty σ H1 (DgK x Q)) : tDg td ty σ H Q := h
theorem s_dgi (h : H p = some (.dK kvs)) (e : valV kvs (Sum.inl n : Key) = some v) (q : Q v H) : DgK (.ref p) Q (.int n) H := ⟨p, v, rfl, by rw [← e]; exact DGet.k (k := Sum.inl n) h, q⟩
theorem s_dgs (h : H p = some (.dK kvs)) (e : valV kvs (Sum.inr z : Key) = some v) (q : Q v H) : DgK (.ref p) Q (.str z) H := ⟨p, v, rfl, by rw [← e]; exact DGet.k (k := Sum.inr z) h, q⟩
theorem s_dn {ng : Bool} (h : ty σ H fun y H1 => td σ H1 (DnK ng y Q)) : tDn ng ty td σ H Q := h
theorem s_dni {ng : Bool} (h : H p = some (.dK kvs)) (q : Q (.bl (if ng then !(valV kvs (Sum.inl n : Key)).isSome else (valV kvs (Sum.inl n : Key)).isSome)) H) : DnK ng (.int n) Q (.ref p) H := ⟨p, _, rfl, DGet.k (k := Sum.inl n) h, q⟩
theorem s_dns {ng : Bool} (h : H p = some (.dK kvs)) (q : Q (.bl (if ng then !(valV kvs (Sum.inr z : Key)).isSome else (valV kvs (Sum.inr z : Key)).isSome)) H) : DnK ng (.str z) Q (.ref p) H := ⟨p, _, rfl, DGet.k (k := Sum.inr z) h, q⟩
theorem s_ul {xs ys : List V} {j : Nat} {R : Hp → Prop} (h : H p = some (.lst xs)) (hj : ixN xs.length n = some j) (e : xs.set j v = ys) (q : ∀ H', H' p = some (.lst ys) → Kp [p] H H' → R H') : uSet (.ref p) (.int n) v H R := Or.inl ⟨p, xs, n, j, rfl, rfl, h, hj, by rw [e]; exact put_abs h rfl q⟩
theorem s_uds {R : Hp → Prop} (h : H p = some (.dK kvs)) (hl : kvs.length < sizeLine) (e : putK kvs (Sum.inr z : Key) v = ks) (q : ∀ H', H' p = some (.dK ks) → Kp [p] H H' → R H') : uSet (.ref p) (.str z) v H R :=
  Or.inr ⟨p, _, rfl, DPut.k (k := Sum.inr z) h hl, by rw [e]; exact put_abs h rfl q⟩
theorem s_udi {R : Hp → Prop} (h : H p = some (.dK kvs)) (hl : kvs.length < sizeLine) (e : putK kvs (Sum.inl n : Key) v = ks) (q : ∀ H', H' p = some (.dK ks) → Kp [p] H H' → R H') : uSet (.ref p) (.int n) v H R :=
  Or.inr ⟨p, _, rfl, DPut.k (k := Sum.inl n) h hl, by rw [e]; exact put_abs h rfl q⟩
theorem s_pop (h : td σ H (PopJ ty σ Q)) : tPop td ty σ H Q := h
theorem s_popj (h : H p = some (.dK kvs)) (q : ty σ H (PopK p Q)) : PopJ ty σ Q (.ref p) H := ⟨p, rfl, Or.inl ⟨kvs, Or.inl h⟩, q⟩
theorem s_popk (h : H p = some (.dK kvs)) (e : valV kvs (Sum.inl n : Key) = some v) (m : dropK kvs (Sum.inl n : Key) = ks) (q : ∀ H', H' p = some (.dK ks) → Kp [p] H H' → Q v H') : PopK p Q (.int n) H :=
  ⟨kvs, Sum.inl n, v, h, rfl, e, by rw [m]; exact put_abs h rfl (R := fun H' => Q v H') q⟩
theorem s_dict (h : H p = some (.dK kvs)) (q : ∀ l H', H l = none → H' l = some (.dK kvs) → Kp [] H H' → Q (.ref l) H') : uDict [.ref p] H Q := ⟨p, kvs, rfl, Or.inl h, fun l f => q l _ f upd_same (Kp.refl.new f)⟩
theorem s_list {ys : List V} (h : SqL K H p ys) (q : ∀ l H', H l = none → H' l = some (.lst ys) → Kp [] H H' → Q (.ref l) H') : uList K [.ref p] H Q := ⟨p, ys, rfl, Or.inl h, fun l f => q l _ f upd_same (Kp.refl.new f)⟩
end
theorem c_list {X : Cx} {K : PySem.W.Frag} (hK : X.K = K) : CallR X (.type "list") (uList K) := hK ▸ call_list_of
end U

namespace U
open PySem L2 PySem.Spec PyProof.Rows
/-- may be shown -/
structure Sh (K : PySem.W.Frag) (H : Hp) (v : V) (d : PyData) : Prop where
  dn : Dn K H v d
  good : U.good d
  depth : d.depth ≤ 100
  sz : U.sz d ≤ 16000000
section
variable {K : PySem.W.Frag} {σ : L2.St} {H : Hp} {Q : VK} {D : Ends} {x y v : V} {p : Addr} {n : Int} {z : Str} {to te : TE} {t : TA} {r : V → List V → Hp → VK → Prop} {T : String} {xs : List V}
theorem s_rep {d : PyData} (h : Sh K H v d) (q : Q (.str d.shown) H) : rRepr K [v] H Q := ⟨v, d, rfl, h.dn, h.good, h.depth, h.sz, q⟩
theorem s_bm (h : to σ H fun x H1 => tyV K T x H1 ∧ t σ H1 fun xs H2 => r x xs H2 Q) : tBM K T r to t σ H Q := h
theorem s_bm0 (h : to σ H fun x H1 => tyV K T x H1 ∧ r x [] H1 Q) : tBM0 K T r to σ H Q := h
theorem s_tyl {R : Prop} (h : H p = some (.lst xs)) (q : R) : tyV K "list" (.ref p) H ∧ R := ⟨Or.inl ⟨rfl, xs, SqL.of h⟩, q⟩
theorem s_tys {R : Prop} (q : R) : tyV K "str" (.str z) H ∧ R := ⟨rfl, q⟩
theorem s_tyd {R : Prop} {kvs : List (Key × V)} (h : H p = some (.dK kvs)) (q : R) : tyV K "dict" (.ref p) H ∧ R := ⟨Or.inr (Or.inr (Or.inl ⟨rfl, Or.inl ⟨kvs, h⟩⟩)), q⟩
theorem s_app (h : H p = some (.lst xs)) (hz : xs.length < sizeLine) (q : ∀ H', H' p = some (.lst (xs ++ [y])) → Kp [p] H H' → Q .non H') : rAppend (.ref p) [y] H Q :=
  ⟨p, xs, y, rfl, rfl, h, hz, put_abs h rfl (R := fun H' => Q .non H') q⟩
theorem s_pnil {Q : List (V × V) → Hp → Prop} (q : Q [] H) : tPairs [] σ H Q := q
theorem s_pcons {Q : List (V × V) → Hp → Prop} {tk tv : TE} {r : List (TE × TE)} (h : tk σ H fun x H1 => tv σ H1 fun y H2 => tPairs r σ H2 fun ps H3 => Q ((x, y) :: ps) H3) : tPairs ((tk, tv) :: r) σ H Q := h
/-! a meeting of ways -/
theorem meetT {tt : TT} {Q : Bool → Hp → Prop} (R : Bool → Hp → Prop) (key : ∀ b H1, R b H1 → Q b H1) (w : (∀ b H1, R b H1 → Q b H1) → tt σ H Q) : tt σ H Q := w key
theorem meetE (R : V → Hp → Prop) (key : ∀ b H1, R b H1 → Q b H1) (w : (∀ b H1, R b H1 → Q b H1) → te σ H Q) : te σ H Q := w key
theorem meetS {t u : TS} (R : L2.St → Hp → Prop) (key : ∀ σ1 H1, R σ1 H1 → u D σ1 H1) (w : (∀ σ1 H1, R σ1 H1 → u D σ1 H1) → t { D with nx := u D } σ H) : tSeq t u D σ H := w key
theorem zlt {n : Nat} (h : n ≤ 1000000) : n < sizeLine := Nat.lt_of_le_of_lt h (by decide)
end
section
variable {K : PySem.W.Frag} {H H' : Hp}
mutual
theorem Dn.kp (k : Kp [] H H') : ∀ {v : V} {d : PyData}, Dn K H v d → Dn K H' v d
  | _, _, .non => .non
  | _, _, .bl b => .bl b
  | _, _, .int i => .int i
  | _, _, .str x => .str x
  | _, _, .lst r a => .lst (k.rd r) (DnA.kp k a)
  | _, _, .tup r a => .tup (k.sqt r) (DnA.kp k a)
  | _, _, .dic r a => .dic (k.rd r) (DnA.kp k a)
theorem DnA.kp (k : Kp [] H H') : ∀ {vs : List V} {ds : List PyData}, DnA K H vs ds → DnA K H' vs ds
  | _, _, .nil => .nil
  | _, _, .cons a b => .cons (Dn.kp k a) (DnA.kp k b)
end
theorem Sh.kp (k : Kp [] H H') {v : V} {d : PyData} (h : Sh K H v d) : Sh K H' v d := ⟨h.dn.kp k, h.good, h.depth, h.sz⟩
end
end U

namespace U
open PySem L2 PySem.Spec PyProof.Rows
section
variable {K : PySem.W.Frag} {σ : L2.St} {H H' : Hp} {Q : VK} {D : Ends} {x y v : V} {p : Addr} {n : Int} {xs vs : List V} {ps : List Addr}
theorem s_gtu {R : L2.St → Hp → Prop} {t : TGs} {k : Nat} (h : H p = some (.tup xs)) (hl : xs.length = k) (q : t xs σ H R) : gTup K k t (.ref p) σ H R := ⟨p, xs, rfl, SqT.of h, hl, q⟩
theorem s_gn {R : L2.St → Hp → Prop} (q : R σ H) : gNil [] σ H R := ⟨rfl, q⟩
theorem s_gc {R : L2.St → Hp → Prop} {t : TG} {u : TGs} (q : t v σ H fun σ1 H1 => u vs σ1 H1 R) : gCons t u (v :: vs) σ H R := ⟨v, vs, rfl, q⟩
theorem s_rng2 {ta : TA} {R : It → Hp → Prop} (h : ta σ H fun vs H1 => ∃ i j : Int, vs = [.int i, .int j] ∧ (-(2 ^ 62) ≤ i ∧ i < 2 ^ 62 ∧ -(2 ^ 62) ≤ j ∧ j < 2 ^ 62) ∧ R (Itr i (j - i).toNat) H1) : iRng2 ta σ H R := h
theorem s_rn2 {i j : Int} {R : Int → Int → Prop} (h : -(2 ^ 62) ≤ i ∧ i < 2 ^ 62 ∧ -(2 ^ 62) ≤ j ∧ j < 2 ^ 62) (q : R i j) : ∃ i' j' : Int, [V.int i, V.int j] = [.int i', .int j'] ∧ (-(2 ^ 62) ≤ i' ∧ i' < 2 ^ 62 ∧ -(2 ^ 62) ≤ j' ∧ j' < 2 ^ 62) ∧ R i' j' := ⟨i, j, rfl, h, q⟩
/-! a meeting of ways, what is behind it a letter -/
theorem jT {tt : TT} {Q : Bool → Hp → Prop} (R : Bool → Hp → Prop) (key : ∀ b H1, R b H1 → Q b H1) (w : ∀ Q' : Bool → Hp → Prop, (∀ b H1, R b H1 → Q' b H1) → tt σ H Q') : tt σ H Q := w _ key
theorem jE {te : TE} (R : V → Hp → Prop) (key : ∀ b H1, R b H1 → Q b H1) (w : ∀ Q' : VK, (∀ b H1, R b H1 → Q' b H1) → te σ H Q') : te σ H Q := w _ key
theorem jS {t u : TS} (R : L2.St → Hp → Prop) (key : ∀ σ1 H1, R σ1 H1 → u D σ1 H1) (w : ∀ u' : L2.St → Hp → Prop, (∀ σ1 H1, R σ1 H1 → u' σ1 H1) → t { D with nx := u' } σ H) : tSeq t u D σ H := w _ key
/-- no tuple -/
def Nt (H : Hp) (p : Addr) : Prop := ∀ xs, H p ≠ some (.tup xs)
theorem Nt.lst (h : H p = some (.lst xs)) : Nt H p := fun ys e => by rw [h] at e; cases e
theorem Nt.ins {C dx : Addr} {fs : List (Str × V)} (h : H p = some (.ins C dx fs)) : Nt H p := fun ys e => by rw [h] at e; cases e
theorem Nt.none (h : H p = none) : Nt H p := fun ys e => by rw [h] at e; cases e
theorem Kp.tup (k : Kp ps H H') (n : ∀ q ∈ ps, Nt H q) (e : H p = some (.tup xs)) : H' p = some (.tup xs) := k.get e fun m => n p m xs e
/-- new since -/
theorem Kp.all (k : Kp ps H H') (f : ∀ q ∈ ps, H q = none) : Kp [] H H' := ⟨fun b o e _ => k.keep b o e fun m => (by rw [f b m] at e; cases e), k.kd, k.tp⟩
end
end U

namespace U
open PySem L2 PySem.Spec PyProof.Rows
/-! xs[a:] = ys -/
theorem bounds_tail {a n : Nat} (h : a ≤ n) : sliceBounds (some (a : Int)) none none n = ((a : Int), (n : Int), 1) := by
  simp only [sliceBounds, Option.getD_none]
  have h1 : ¬ ((a : Int) < 0) := by omega
  simp only [h1, if_false, show (1 : Int) > 0 by decide, if_true]
  congr 1
  omega
section
variable {prog : Program} {w : World} {A : Around} {s : Shared} {E : Value → Shared → Prop}
theorem setItem_tail {l b sl : Addr} {items new : Array Value} {n n2 : Nat} {vl : Value} {a : Nat} {Q : Unit → Shared → Prop}
    (e : s.heap.get? l = some { cls := .type "list", data := .seq items n }) (e2 : s.heap.get? b = some { cls := .type "list", data := .seq new n2 }) (hne : l ≠ b)
    (hs : s.heap.IsSliceOf sl vl .none .none) (pl : IsPart vl (some (a : Int))) (ha : a ≤ items.size) (hsz : items.size + new.size ≤ sizeLine)
    (h : Q () { s with heap := s.heap.update l (Obj.mapSeq fun xs => xs.extract 0 a ++ new ++ xs.extract items.size xs.size) }) :
    wpAny (model prog w) A (setItem (.ref l) (.ref sl) (.ref b)) Q E s := by
  have hl : s.heap.IsList l items := PySem.IsL.isList e
  have hb : s.heap.IsList b new := PySem.IsL.isList e2
  obtain ⟨os, hos, hcs, hds⟩ := id hs
  have hTs : s.TypeIs (.ref sl) "slice" := ⟨os, hos, hcs⟩
  have hsame : Builtin.List.listSameRef (.ref l) (.ref b) = false := by
    unfold Builtin.List.listSameRef
    exact beq_eq_false_iff_ne.mpr hne
  have hmax : (max (a : Int) (items.size : Int)).toNat = items.size := by omega
  have hz' : ((fun xs : Array Value => xs.extract 0 a ++ new ++ xs.extract items.size xs.size) items).size ≤ sizeLine + 1 := by
    simp only [Array.size_append, Array.size_extract]
    omega
  unfold setItem
  try with_reducible refine wpAny_holding ?_
  first | refine wpAny_bind (wpAny_pure ?_) | skip
  refine wpAny_bind (wpAny_sequenceKey hl.typeIs (by decide) ?_)
  refine wpAny_bind (wpAny_callSpecial?_slot (name := Str.ofString "__setitem__") hl.typeIs slot_list_setitem (wpAny_call_entry slot_list_setitem hl.typeIs entry_list_setitem ?_ (args_list_setitem _ _ _)))
  show wpAny _ _ (Builtin.List.listSubscript? (.ref sl) >>= _) _ _ s
  refine wpAny_bind ?_
  unfold Builtin.List.listSubscript?
  refine wpAny_bind (wpAny_specialOf hTs slice_no_index ?_)
  simp only [Option.isNone_none, if_true]
  refine wpAny_pure ?_
  show wpAny _ _ (typeOf (.ref sl) >>= _) _ _ s
  refine wpAny_bind (wpAny_typeOf hTs ?_)
  first
    | rw [if_neg (by decide)]
    | refine PySem.W.KFB.if_not (by decide) ?_
  rw [listSliceParts_eq]
  refine wpAny_bind (wpAny_bind (wpAny_field hos hds (x := .none) rfl (wpAny_bind (wpAny_listPart .none ?_))))
  rw [if_neg (show ¬ ((rawPart none == rawInt 0) = true) from Bool.false_ne_true)]
  refine wpAny_bind (wpAny_field hos hds (x := vl) rfl (wpAny_bind (wpAny_listPart pl ?_)))
  refine wpAny_bind (wpAny_field hos hds (x := .none) rfl (wpAny_bind (wpAny_listPart .none (wpAny_pure ?_))))
  first
    | simp only [hsame, Bool.false_eq_true, if_false]
    | refine PySem.W.KFB.if_not hsame ?_
    | (dsimp only
       rw [if_neg (by rw [hsame]; exact Bool.false_ne_true)])
  refine wpAny_bind (m := Builtin.List.listAllItems (.ref b) "must assign iterable to extended slice") ?_
  unfold Builtin.List.listAllItems
  refine wpAny_bind (wpAny_typeOf hb.typeIs ?_)
  first
    | refine PySem.W.KFB.if_so (by decide) ?_
    | rw [if_pos (by decide)]
    | simp only [beq_self_eq_true, Bool.true_or, if_true]
  unfold Builtin.List.listItems
  refine wpAny_bind (wpAny_seqItems e2 rfl (wpAny_pure ?_))
  refine wpAny_bind (wpAny_bind (wpAny_seqItems e rfl (wpAny_pure ?_)))
  refine wpAny_bind (wpAny_of_eq ((sliceIndices_raw (some (a : Int)) none none items.size (by simp)).trans (congrArg (pure : Int × Int × Int → Sem (Int × Int × Int)) (bounds_tail ha))) ?_)
  show wpAny _ _ (if ((1 : Int) == 1) = true then _ else _) _ _ s
  rw [if_pos (by decide)]
  refine wpAny_bind (wpAny_rule ?_)
  first
    | simp only [notLongL hsz, Bool.false_eq_true, if_false]
    | refine PySem.W.KFB.if_not (notLongL hsz) ?_
  first | refine wpAny_bind (wpAny_pure ?_) | skip
  show wpAny _ _ (updateSeq l (fun xs => xs.extract 0 ((a : Int)).toNat ++ new ++ xs.extract (max (a : Int) (items.size : Int)).toNat xs.size) >>= _) _ _ s
  rw [hmax, Int.toNat_natCast]
  refine wpAny_bind (wpAny_updateSeq (hz := Nat.le_trans (Nat.le_add_right _ _) hsz) (_hz' := hz') e rfl ?_)
  refine wpAny_bind (wpAny_letGo ?_)
  first
    | exact wpAny_bind (wpAny_pure (wpAny_pure ⟨.none, rfl, wpAny_pure h⟩))
    | exact wpAny_pure ⟨.none, rfl, wpAny_pure h⟩
end
section
variable {X : Cx} {o lo : Expr} {to tl : TE} {pos p2 : Pos}
def TlK (x v : V) (R : Hp → Prop) (y : V) (H : Hp) : Prop := ∃ (l b : Addr) (xs ys : List V) (a : Int), x = .ref l ∧ v = .ref b ∧ y = .int a ∧ H l = some (.lst xs) ∧ H b = some (.lst ys) ∧ l ≠ b ∧ 0 ≤ a ∧ a ≤ xs.length ∧ xs.length + ys.length ≤ sizeLine ∧ R (upd H l (.lst (xs.take a.toNat ++ ys)))
def gTl (to tl : TE) : TG := fun v σ H R => to σ H fun x H1 => tl σ H1 (TlK x v (R σ))
theorem pg_tail (ho : PE X o to) (hl : PE X lo tl)
    (ha : ∀ v, assign (.Subscript o (.Slice (some lo) none none p2) pos) X.env v = (do
      let ov ← holding [v] (eval o X.env)
      let iv ← holding [v, ov] (eval (.Slice (some lo) none none p2) X.env)
      standAt pos
      holding [v, ov, iv] (setItem ov iv v)
      release [iv, v, ov] []) := by intro _; rfl) : PG X (.Subscript o (.Slice (some lo) none none p2) pos) (gTl to tl) := by
  refine ⟨fun pins s σ H v u Q I r h => ?_⟩
  rw [ha]
  refine wpAny_bind (wpAny_holding (thn (ho.run pins s σ H _ I h) fun ov s1 ⟨x, H1, I1, r1, q1⟩ => ?_))
  have hpo := po_some (peMo hl)
  refine wpAny_bind (wpAny_holding (wpAny_Slice (thn (hpo.run pins s1 σ H1 (fun o H2 => ∃ a, o = some a ∧ TlK x v (Q σ) (.int a) H2) I1 ⟨_, q1, fun y H2 z => ?_⟩) fun vl s2 ⟨a0, H2, I2, pl, a, ea, q2⟩ => ?_)))
  · obtain ⟨l, b, xs, ys, a, e1, e2, rfl, z⟩ := z
    exact ⟨a, rfl, a, rfl, l, b, xs, ys, a, e1, e2, rfl, z⟩
  subst ea
  refine thn (po_none.run pins s2 σ H2 (fun o H3 => o = none ∧ H3 = H2) I2 ⟨rfl, rfl⟩) fun vu s3 ⟨u', H3, I3, pu, eu, e3⟩ => ?_
  subst eu
  subst e3
  cases pu
  rw [evalPart_none]
  refine wpAny_pure ?_
  have I4 : Inv X pins σ H3 { s3 with heap := s3.heap.push { cls := .type "slice", data := .fields #[vl, .none, .none] } } := I3.kept (t' := s3.toks) fun b ob q => Heap.get?_push_of_some _ q
  obtain ⟨l, b, xs, ys, a', rfl, rfl, ea, hH, hB, hne, h0, h1, hz, q⟩ := q2
  cases ea
  cases r1
  cases r
  obtain ⟨z, its, n, rr, hl', e⟩ := I4.lstM hH
  obtain ⟨z2, its2, n2, r2, hl2, e2⟩ := I4.lstM hB
  obtain ⟨a', rfl⟩ := Int.eq_ofNat_of_zero_le h0
  simp only [Int.toNat_natCast] at q
  refine wpAny_bind (wpAny_standAt (wpAny_bind (wpAny_holding (setItem_tail (a := a') e e2 hne (Heap.IsSliceOf.new ..) pl (by rw [List.size_toArray]; omega) (by rw [List.size_toArray, List.size_toArray]; omega) ?_))))
  refine wpAny_release ⟨σ, _, I4.lset (its' := its.take a' ++ its2) (t' := s3.toks) hH e ?_ ((rr.take _).append r2) ?_, q⟩
  · have := splice_eq its its2 a' its.length
    rw [List.drop_length, List.append_nil] at this
    rw [List.size_toArray]
    exact this
  · rw [List.length_append, List.length_take]
    omega
section
variable {σ : L2.St} {H : Hp} {v x y : V} {l b : Addr} {xs ys zs : List V} {a : Int}
theorem s_tl {R : L2.St → Hp → Prop} (h : to σ H fun x H1 => tl σ H1 (TlK x v (R σ))) : gTl to tl v σ H R := h
theorem s_tlk {R : Hp → Prop} (h1 : H l = some (.lst xs)) (h2 : H b = some (.lst ys)) (n : l ≠ b) (h0 : 0 ≤ a) (ha : a ≤ xs.length) (hz : xs.length + ys.length ≤ sizeLine) (e : xs.take a.toNat ++ ys = zs)
    (q : ∀ H', H' l = some (.lst zs) → Kp [l] H H' → R H') : TlK (.ref l) (.ref b) R (.int a) H := ⟨l, b, xs, ys, a, rfl, rfl, rfl, h1, h2, n, h0, ha, hz, by rw [e]; exact put_abs h1 rfl q⟩
end
end
end U

namespace U
open PySem L2 PySem.Spec PyProof.Rows
section
variable {X : Cx}
/-- sorted(d), a dict with int keys, any number of them -/
def uSortD : List V → Hp → VK → Prop := fun xs H Q => ∃ (a : Addr) (kvs : List (Key × V)) (ks : List Int), xs = [.ref a] ∧ Rd H a (.dK kvs) ∧ kvs.map (·.1) = ks.map Sum.inl ∧
    ∀ (ys : List Int) (p : Addr), ys.Perm ks → ys.Pairwise (· ≤ ·) → H p = none → Q (.ref p) (upd H p (.lst (ys.map V.int)))
theorem c_sortD (hcalm : X.calm = true) : CallR X (.builtin "sorted") uSortD := by
  intro pins s σ H xs us Q I r q
  obtain ⟨a, kvs, ks, ex, hd, hks, q⟩ := q
  subst ex
  obtain ⟨u, eu, rx⟩ := vals1 r
  subst eu
  cases rx
  obtain ⟨z, lo, vs, rel, dd⟩ := dk_rd I.hok hd
  obtain ⟨ep, hat⟩ := dd.dictAt
  have hkeys : vs.map (·.1) = ks.map Sum.inl := rel.keys.symm.trans hks
  have hl : vs.length = ks.length := by
    have e := congrArg List.length hkeys
    rwa [List.length_map, List.length_map] at e
  have h16 : vs.length ≤ sizeLine := by rw [← rel.length]; exact z
  refine Calls.call_function_entry PyProof.Rows.kind_sorted PyProof.Rows.plain_sorted PyProof.Rows.entry_sorted (PyProof.Rows.args_sorted1 _) ?_
  unfold Builtin.«sorted»
  refine wpAny_bind (m := checkCount "sorted" 1 1 _) (wpAny_pure ?_)
  refine wpAny_bind (PySem.W.kdu_collect (A := X.A.in1) (PySem.W.kdl_dict (knd := mixKind X.prog X.w) (kvs := vs) (ep := ep) lo) (I.ok.hd hcalm) hat h16 fun h' tk acc hk hacc => ?_)
  have hal : acc.toList.length = ks.length := by rw [Array.length_toList, hacc.1, hl]
  have hS : IntsAre acc.toList ks := ints_each hal fun j v e => by
    obtain ⟨k, x, e1, e2⟩ := hacc.2 j v (by rw [← Array.getElem?_toList]; exact e)
    have e3 : (vs.map (·.1))[j]? = some k := by rw [List.getElem?_map, e1]; rfl
    rw [hkeys, List.getElem?_map] at e3
    obtain ⟨y, e4, rfl⟩ := Option.map_eq_some_iff.mp e3
    rcases keyIs_shape (show keyIs (Sum.inl y) v = true from e2) with ⟨i, t, ek, ev⟩ | ⟨z, t, ek, ev⟩
    · cases ek
      exact ⟨_, t, e4, ev⟩
    · cases ek
  have I1 : Inv X pins σ H { s with heap := h', toks := tk } := I.kept hk
  refine wpAny_bind (wpAny_newList ?_ (by rw [hal, ← hl]; exact h16))
  have hoL : (h'.push (seqObj "list" acc.toList.toArray 0)).get? h'.objs.size = some (seqObj "list" acc.toList.toArray 0) := Heap.get?_push_size _ rfl
  show wpAny _ _ _ _ _ { s with heap := h'.push (seqObj "list" acc.toList.toArray 0), toks := tk }
  refine wpAny_bind (wpAny_holding (wpAny_call_entry PyProof.Rows.slot_list_sort ⟨_, hoL, rfl⟩ PyProof.Rows.entry_list_sort
    (SrtO.list_sort_ord (s := { s with heap := h'.push (seqObj "list" acc.toList.toArray 0), toks := tk }) SrtO.swo_int hoL (by rw [hal, ← hl]; exact h16) (fun h2 => SrtO.ints_sortable hS h2) fun out h1 h2 => ⟨_, rfl, ?_⟩) (PyProof.Rows.args_list_sort _)))
  obtain ⟨g1, g2, g3⟩ := SrtO.ints_out hS h1 h2
  obtain ⟨e', he'⟩ := PyProof.Rows.sortedHeap_at (vs := acc.toList) (out := out.toArray) hoL
  have hlen : ((out.map SrtO.iv).map V.int).length ≤ sizeLine := by
    rw [List.length_map, g2.length_eq, ← hl]
    exact h16
  refine wpAny_pure ⟨_, rfl, .ref h'.objs.size, upd H h'.objs.size (.lst ((out.map SrtO.iv).map V.int)), I1.laid (t' := tk) (fun b u e => ?_) (Nat.le_refl _)
    (show ObjOk X.prog X.w _ _ _ (.lst ((out.map SrtO.iv).map V.int)) from ⟨hlen, out, e', vals_of_ints g1, he'⟩), rfl, q _ _ g2 g3 (I1.hok.fresh (Nat.le_refl _))⟩
  have hb : b < h'.objs.size := Heap.lt_size e
  rw [PyProof.Rows.sortedHeap_old (Nat.ne_of_lt hb) (by rw [size_push']; exact Nat.lt_succ_of_lt hb)]
  exact Heap.get?_push_of_some _ e
end
/-! d.update(e), another dict -/
section
variable {X : Cx}
theorem merge_len : ∀ (more kvs : List (Key × V)), (mergeK kvs more).length ≤ kvs.length + more.length
  | [], kvs => by simp [mergeK]
  | p :: r, kvs => by
    have h1 := merge_len r (putK kvs p.1 p.2)
    have h2 := length_putK kvs p.1 p.2
    have e : mergeK kvs (p :: r) = mergeK (putK kvs p.1 p.2) r := rfl
    rw [e, List.length_cons]
    omega
def rUpd : V → List V → Hp → VK → Prop := fun x xs H Q => ∃ (a b : Addr) (kvs more : List (Key × V)), x = .ref a ∧ xs = [.ref b] ∧ H a = some (.dK kvs) ∧ H b = some (.dK more) ∧ a ≠ b ∧ kvs.length + more.length ≤ sizeLine ∧ Q .non (upd H a (.dK (mergeK kvs more)))
theorem mt_update : MtR X "dict.update" rUpd := by
  intro pins s σ H x xs v us Q I rx rxs h
  obtain ⟨a, b, kvs, more, rfl, rfl, ha, hb, hne, hz, q⟩ := h
  cases rx
  obtain rfl := Vals.ref1 rxs
  obtain ⟨z, hd, vs, rel, dd⟩ := dk_of I.hok ha
  obtain ⟨z2, hd2, rs, rel2, dd2⟩ := dk_of I.hok hb
  refine call_meetsIn PySem.F.slot_dict_update dd.typeIs PySem.F.entry_dict_update (PySem.F.args_dict_update_2 _ _) (meets_dict_update (mixKind X.prog X.w) a b hne hd2) ⟨vs, rs, dd, dd2, by rw [← rel.length, ← rel2.length]; exact hz, fun h' dd' _ hs => ?_⟩
  have he : ∃ q, h'.get? a = some q := let ⟨q, _, _, hq, _⟩ := dd'; ⟨q, hq⟩
  exact ⟨.non, _, d_write (t' := s.toks) I (by rw [ha]; exact True.intro) hs he (dk_new (Nat.le_trans (merge_len _ _) hz) hd (KV.merge rel2 rel) dd'), rfl, q⟩
end
section
variable {K : PySem.W.Frag} {σ : L2.St} {H : Hp} {Q : VK} {a b : Addr} {kvs more ks : List (Key × V)}
theorem s_upd (ha : H a = some (.dK kvs)) (hb : H b = some (.dK more)) (n : a ≠ b) (hz : kvs.length + more.length ≤ sizeLine) (e : mergeK kvs more = ks) (q : ∀ H', H' a = some (.dK ks) → Kp [a] H H' → Q .non H') : rUpd (.ref a) [.ref b] H Q :=
  ⟨a, b, kvs, more, rfl, rfl, ha, hb, n, hz, by rw [e]; exact put_abs ha rfl (R := fun H' => Q .non H') q⟩
end
section
variable {K : PySem.W.Frag} {σ : L2.St} {H : Hp} {Q : VK} {p : Addr} {kvs : List (Key × V)} {ks : List Int}
theorem s_sortD (h : H p = some (.dK kvs)) (e : kvs.map (·.1) = ks.map Sum.inl) (q : ∀ (ys : List Int) l H', ys.Perm ks → ys.Pairwise (· ≤ ·) → H l = none → H' l = some (.lst (ys.map V.int)) → Kp [] H H' → Q (.ref l) H') : uSortD [.ref p] H Q :=
  ⟨p, kvs, ks, rfl, Or.inl h, e, fun ys l hp hs f => q ys l _ hp hs f upd_same (Kp.refl.new f)⟩
end
end U

namespace U
open PySem L2 PySem.Spec PyProof.Rows
/-! what the stepping words lean on: where things stand, by search -/
section
variable {K : PySem.W.Frag} {H H1 H2 : Hp} {ps qs : List Addr} {a b p q : Addr} {o u : HO} {i j : Nat}
theorem Kp.step (h : Kp ps H H1) (k : Kp qs H1 H2) (n : ∀ q ∈ qs, q ∈ ps ∨ H q = none) : Kp ps H H2 := ⟨fun b o e m => by
  refine k.keep b o (h.keep b o e m) fun z => ?_
  rcases n b z with y | y
  · exact m y
  · (rw [y] at e; cases e), fun b i e => k.kd b i (h.kd b i e), fun b xs e => k.tp b xs (h.tp b xs e)⟩
/-- told of heaps that are further apart (no step of the search) -/
structure Kz (ps : List Addr) (H H' : Hp) : Prop where
  k : Kp ps H H'
/-- told for later: it did not stand -/
structure Fz (H : Hp) (p : Addr) : Prop where
  f : H p = none
theorem nt1 {H : Hp} {p : Addr} (h : Nt H p) : ∀ q ∈ [p], Nt H q := by simpa using h
theorem nm0 : a ∉ ([] : List Addr) := by simp
theorem nmc (h : a ≠ p) (g : a ∉ ps) : a ∉ p :: ps := by simp [h, g]
theorem al0 {P : Addr → Prop} : ∀ q ∈ ([] : List Addr), P q := by simp
theorem alc {P : Addr → Prop} (h : P p) (g : ∀ q ∈ ps, P q) : ∀ q ∈ p :: ps, P q := by simpa using ⟨h, g⟩
/-- what stands was none before -/
def Dm (H H1 : Hp) : Prop := ∀ b, H1 b = none → H b = none
theorem Dm.refl : Dm H H := fun _ e => e
theorem Dm.step (h : Dm H H1) (k : Kp ps H1 H2) : Dm H H2 := fun b e => h b (k.dom b e)
theorem Dm.fr (n : H1 p = none) (h : Dm H H1) : H p = none := h p n
theorem Th.kp (k : Kp ps H H1) (h : Th H a i) : Th H1 a i := k.kd a i h
theorem Th.ne (h : Th H a i) (f : H p = none) : a ≠ p := by obtain ⟨o, e, r⟩ := h; exact ne_of_none e f
theorem Th.nk (h : Th H a i) (g : Th H p j) (d : Nat.beq i j = false) : a ≠ p := fun z => by
  subst z
  obtain ⟨o, e, rfl⟩ := h
  obtain ⟨o', e', rfl⟩ := g
  rw [e] at e'
  cases e'
  exact Nat.ne_of_beq_eq_false d rfl
theorem Th.nt (h : Th H a i) (d : Nat.beq i 1 = false) : Nt H a := fun xs e => by
  obtain ⟨o, e2, rfl⟩ := h
  rw [e] at e2
  cases e2
  cases d
theorem SqL.kpn {xs : List V} (k : Kp ps H H1) (h : SqL K H a xs) (n : a ∉ ps) : SqL K H1 a xs := by
  rcases h with (e | ⟨o, e⟩) | e
  · exact Or.inl (Or.inl (k.get e n))
  · exact Or.inl (Or.inr ⟨o, k.get e n⟩)
  · exact Or.inr e
theorem TyN.kpn {v : V} {t : Kd} (h : TyN H v t) (k : Kp ps H H1) (n : ∀ q ∈ ps, v ≠ .ref q) : TyN H1 v t := by
  cases h with
  | non => exact .non
  | bl => exact .bl
  | int => exact .int
  | str => exact .str
  | lst e => exact .lst (k.get e fun m => n _ m rfl)
  | tup e => exact .tup (k.get e fun m => n _ m rfl)
  | dic e => exact .dic (k.get e fun m => n _ m rfl)
theorem kn {a b : Str} (h : decide (a = b) = false) : ¬ ((Sum.inr a : Key) = Sum.inr b) := fun z => by
  injection z with z
  exact absurd z (of_decide_eq_false h)
/-- the box: a list of three numbers, the last one at most n -/
structure Box (H : Hp) (p : Addr) (n : Nat) : Prop where
  ex : ∃ a b c : Int, H p = some (.lst [.int a, .int b, .int c]) ∧ 0 ≤ a ∧ 0 ≤ b ∧ b < 2147483629 ∧ 0 ≤ c ∧ c ≤ n
theorem Box.th {n : Nat} (h : Box H p n) : Th H p 0 := by obtain ⟨a, b, c, e, r⟩ := h.ex; exact .lst e
theorem Box.kp {n : Nat} (h : Box H p n) (k : Kp [] H H1) : Box H1 p n := by
  obtain ⟨a, b, c, e, r⟩ := h.ex
  exact ⟨a, b, c, k.get0 e, r⟩
theorem Box.kpn {n : Nat} (h : Box H p n) (k : Kp ps H H1) (z : p ∉ ps) : Box H1 p n := by
  obtain ⟨a, b, c, e, r⟩ := h.ex
  exact ⟨a, b, c, k.get e z, r⟩
theorem Box.ne {l : Addr} {n : Nat} (h : Box H p n) (hl : H l = none) : l ≠ p := (h.th.ne hl).symm
theorem Box.more {n m : Nat} (h : Box H p n) (e : n ≤ m) : Box H p m := by
  obtain ⟨a, b, c, e1, h1, h2, h3, h4, h5⟩ := h.ex
  exact ⟨a, b, c, e1, h1, h2, h3, h4, by omega⟩
theorem Box.nt {n : Nat} (h : Box H p n) : Nt H p := by
  obtain ⟨a, b, c, e, r⟩ := h.ex
  exact Nt.lst e
theorem PvD.begin {H : Hp} {D : Addr} {Pv : Nat → List V → Hp → Prop} (f : H D = none) (h : ∀ H', H' D = some (.lst []) → Kp [] H H' → Pv 0 [] H') : PvD D Pv 0 (upd H D (.lst [])) := ⟨[], upd_same, h _ upd_same (Kp.refl.new f)⟩
theorem PvD.add {H : Hp} {D : Addr} {Pv : Nat → List V → Hp → Prop} {acc : List V} {y : V} {i : Nat} (e : H D = some (.lst acc)) (hz : acc.length ≤ 1000000) (h : ∀ H', H' D = some (.lst (acc ++ [y])) → Kp [D] H H' → Pv i (acc ++ [y]) H') :
    ∃ acc, H D = some (.lst acc) ∧ acc.length < sizeLine ∧ PvD D Pv i (upd H D (.lst (acc ++ [y]))) := ⟨acc, e, zlt hz, acc ++ [y], upd_same, h _ upd_same (Kp.refl.put (by simp) (.lst e))⟩
theorem many_j (n : Nat) (lo hi : Int) (h0 : 0 ≤ lo) (h : lo ≤ hi) : ∃ j : Nat, (if (if (n : Int) < hi then (n : Int) else hi) > lo then (if (n : Int) < hi then (n : Int) else hi) else lo) = (j : Int) ∧ lo ≤ j ∧ j ≤ hi := by
  refine ⟨(if (if (n : Int) < hi then (n : Int) else hi) > lo then (if (n : Int) < hi then (n : Int) else hi) else lo).toNat, ?_, ?_, ?_⟩ <;> (split <;> split <;> omega)
end
end U

namespace U
open PySem L2 PySem.Spec PyProof.Rows
/-! == and != of data -/
section
variable {K : PySem.W.Frag} {H H1 : Hp} {Q : VK} {x y : V} {d e : PyData} {ps qs : List Addr}
mutual
theorem Dn.dp : ∀ {v : V} {d : PyData}, d.canLay0 = true → Dn K H v d → Dp K H v d
  | _, _, _, .non => .non
  | _, _, _, .bl b => .bl b
  | _, _, _, .int i => .int i
  | _, _, _, .str x => .str x
  | _, _, h, .lst r a => .lst (Or.inl r) (DnA.dp (by simpa only [PyData.canLay0] using h) a)
  | _, _, h, .tup r a => .tup r (DnA.dp (by simpa only [PyData.canLay0] using h) a)
  | _, _, h, .dic r a => by simp [PyData.canLay0] at h
theorem DnA.dp : ∀ {vs : List V} {ds : List PyData}, PyData.canLayAll0 ds = true → DnA K H vs ds → DpAll K H vs ds
  | _, _, _, .nil => .nil
  | _, _, h, .cons a b => by
    rw [PyData.canLayAll0, Bool.and_eq_true] at h
    exact .cons (Dn.dp h.1 a) (DnA.dp h.2 b)
end
theorem shp {d : PyData} (h : SeqAt.shaped d = true) : d.canLay0 = true := by
  unfold SeqAt.shaped at h
  rw [Bool.and_eq_true] at h
  exact h.1
theorem s_eqD (h1 : Dn K H x d) (h2 : Dn K H y e) (s1 : SeqAt.shaped d = true) (s2 : SeqAt.shaped e = true) (q : Q (.bl (PyData.eqv d e)) H) : uEq K x y H Q :=
  Or.inr ⟨d, e, h1.dp (shp s1), h2.dp (shp s2), s1, s2, q⟩
theorem s_neD (h1 : Dn K H x d) (h2 : Dn K H y e) (s1 : SeqAt.shaped d = true) (s2 : SeqAt.shaped e = true) (q : Q (.bl (!PyData.eqv d e)) H) : uNe K x y H Q :=
  Or.inr ⟨d, e, h1.dp (shp s1), h2.dp (shp s2), s1, s2, q⟩
theorem s_eqR (h1 : Dn K H x d) (h2 : Dn K H y d) (s1 : SeqAt.shaped d = true) (q : Q (.bl true) H) : uEq K x y H Q :=
  s_eqD h1 h2 s1 s1 (by rw [PySem.SeqAt.eqv_refl d (shp s1)]; exact q)
theorem s_neR (h1 : Dn K H x d) (h2 : Dn K H y d) (s1 : SeqAt.shaped d = true) (q : Q (.bl false) H) : uNe K x y H Q :=
  s_neD h1 h2 s1 s1 (by rw [PySem.SeqAt.eqv_refl d (shp s1)]; exact q)
/-- a list against [] -/
theorem s_neN {p r : Addr} {ds : List PyData} (h1 : Dn K H (.ref p) (.list ds)) (h2 : H r = some (.lst [])) (s1 : SeqAt.shaped (.list ds) = true) (q : Q (.bl (!ds.isEmpty)) H) : uNe K (.ref p) (.ref r) H Q := by
  refine s_neD h1 (.lst (Or.inl h2) .nil) s1 (by decide +kernel) ?_
  have e : PyData.eqv (.list ds) (.list []) = ds.isEmpty := by
    cases ds <;> simp [PyData.eqv, PyData.eqvAll]
  rw [e]
  exact q
theorem s_eqN {p r : Addr} {ds : List PyData} (h1 : Dn K H (.ref p) (.list ds)) (h2 : H r = some (.lst [])) (s1 : SeqAt.shaped (.list ds) = true) (q : Q (.bl ds.isEmpty) H) : uEq K (.ref p) (.ref r) H Q := by
  refine s_eqD h1 (.lst (Or.inl h2) .nil) s1 (by decide +kernel) ?_
  have e : PyData.eqv (.list ds) (.list []) = ds.isEmpty := by
    cases ds <;> simp [PyData.eqv, PyData.eqvAll]
  rw [e]
  exact q
/-! data of the part of the heap that is not at ps -/
def hid (ps : List Addr) (H : Hp) : Hp := fun a => if a ∈ ps then none else H a
theorem hid_some {a : Addr} {o : HO} (h : hid ps H a = some o) : H a = some o ∧ a ∉ ps := by
  unfold hid at h
  by_cases m : a ∈ ps
  · rw [if_pos m] at h; cases h
  · rw [if_neg m] at h; exact ⟨h, m⟩
theorem hid_of {a : Addr} {o : HO} (h : H a = some o) (m : a ∉ ps) : hid ps H a = some o := by
  unfold hid; rw [if_neg m]; exact h
theorem hid_kp (k : Kp qs H H1) (n : ∀ q ∈ qs, q ∈ ps ∨ H q = none) : Kp [] (hid ps H) (hid ps H1) := ⟨fun b o e _ => by
  obtain ⟨e1, m⟩ := hid_some e
  refine hid_of (k.get e1 fun z => ?_) m
  rcases n b z with y | y
  · exact m y
  · (rw [y] at e1; cases e1), fun b i e => by
  obtain ⟨o, e, r⟩ := e
  obtain ⟨e1, m⟩ := hid_some e
  obtain ⟨o', e', r'⟩ := k.kd b i ⟨o, e1, r⟩
  exact ⟨o', hid_of e' m, r'⟩, fun b xs e => by
  obtain ⟨e1, m⟩ := hid_some e
  exact hid_of (k.tp b xs e1) m⟩
/-- a thing that is data, no part of it at ps -/
def Dx (ps : List Addr) (K : PySem.W.Frag) (H : Hp) (v : V) (d : PyData) : Prop := Dn K (hid ps H) v d
theorem Dx.kpn (h : Dx ps K H x d) (k : Kp qs H H1) (n : ∀ q ∈ qs, q ∈ ps ∨ H q = none) : Dx ps K H1 x d := Dn.kp (hid_kp k n) h
theorem rdh {a : Addr} {u : HO} (r : Rd (hid ps H) a u) : Rd H a u := by
  rcases r with r | ⟨o, r⟩
  · exact Or.inl (hid_some r).1
  · exact Or.inr ⟨o, (hid_some r).1⟩
mutual
theorem Dn.unhid : ∀ {v : V} {d : PyData}, Dn K (hid ps H) v d → Dn K H v d
  | _, _, .non => .non
  | _, _, .bl b => .bl b
  | _, _, .int i => .int i
  | _, _, .str x => .str x
  | _, _, .lst r a => .lst (rdh r) (DnA.unhid a)
  | _, _, .tup r a => .tup (r.elim (fun z => Or.inl (rdh z)) Or.inr) (DnA.unhid a)
  | _, _, .dic r a => .dic (rdh r) (DnA.unhid a)
theorem DnA.unhid : ∀ {vs : List V} {ds : List PyData}, DnA K (hid ps H) vs ds → DnA K H vs ds
  | _, _, .nil => .nil
  | _, _, .cons a b => .cons (Dn.unhid a) (DnA.unhid b)
end
end
def uIsB : R2 := fun x y H Q => ∃ a b : Bool, x = .bl a ∧ y = .bl b ∧ Q (.bl (decide (a = b))) H
theorem o_isb {X : Cx} : OpR X (compareOp .Is) uIsB := op_is_bl
theorem s_isb {a b : Bool} {H : Hp} {Q : VK} (q : Q (.bl (decide (a = b))) H) : uIsB (.bl a) (.bl b) H Q := ⟨a, b, rfl, rfl, q⟩
section
variable {K : PySem.W.Frag} {σ : L2.St} {H : Hp} {Q : VK} {p : Addr} {xs : List V} {X : Cx}
def uTuple (K : PySem.W.Frag) : List V → Hp → VK → Prop := fun xs H Q => ∃ p ys, xs = [.ref p] ∧ ((SqL K H p ys ∧ ∀ l, H l = none → Q (.ref l) (upd H l (.tup ys))) ∨ (SqT K H p ys ∧ Q (.ref p) H))
theorem c_tuple (hK : X.K = K) : CallR X (.type "tuple") (uTuple K) := hK ▸ call_tuple_of
theorem s_tuple (h : SqL K H p xs) (q : ∀ l H', H l = none → H' l = some (.tup xs) → Kp [] H H' → Q (.ref l) H') : uTuple K [.ref p] H Q := ⟨p, xs, rfl, Or.inl ⟨h, new_abs (R := fun l H' => Q (.ref l) H') q⟩⟩
theorem s_tupleT (h : H p = some (.tup xs)) (q : Q (.ref p) H) : uTuple K [.ref p] H Q := ⟨p, xs, rfl, Or.inr ⟨SqT.of h, q⟩⟩
theorem s_rev (h : H p = some (.lst xs)) (q : ∀ H', H' p = some (.lst xs.reverse) → Kp [p] H H' → Q .non H') : rReverse (.ref p) [] H Q := ⟨p, xs, rfl, rfl, h, put_abs h rfl (R := fun H' => Q .non H') q⟩
end
theorem ix_mem {xs : List V} {i : Int} (h0 : 0 ≤ i) (h1 : i < xs.length) : ∃ v, v ∈ xs ∧ atI xs i = some v := by
  obtain ⟨v, e1, e2⟩ := at_int h0 h1
  exact ⟨v, List.mem_of_getElem? e1, e2⟩
theorem natAbs_lt {i : Int} {n : Nat} (h1 : -(n : Int) < i) (h2 : i < n) : i.natAbs < n := by omega
theorem s_par {i j : Nat} {ta : TA} {D : Ends} {σ : L2.St} {H : Hp} (h : ta σ H fun vs H1 => ∃ u v, vs = [u, v] ∧ D.nx ((σ.set i (some u)).set j (some v)) H1) : tPar i j ta D σ H := h
theorem s_two {u v : V} {R : V → V → Prop} (q : R u v) : ∃ u' v', [u, v] = [u', v'] ∧ R u' v' := ⟨u, v, rfl, q⟩
theorem at_last {α : Type} {xs : List α} (h : xs ≠ []) : ∃ v, v ∈ xs ∧ atI xs (-1) = some v := by
  have hp := List.length_pos_iff.mpr h
  refine ⟨xs[xs.length - 1]'(by omega), List.getElem_mem _, ?_⟩
  unfold atI ixN
  rw [if_neg (by omega), if_pos (by omega)]
  have e : (-1 + (xs.length : Int)).toNat = xs.length - 1 := by omega
  simp [e]
end U

namespace U
open PySem L2 PySem.Spec PyProof.Rows
/-! a def whose last parameter has the default None -/
section
variable {P : Program} {w : World} {K : PySem.W.Frag} {mg : Str → Option Value} {base : Heap} {x ql : Str} {st : Stmt} {f : Addr} {fd : FuncData} {N ps : List Str} {k : Nat} {sp : Sp}
abbrev FunN (K : PySem.W.Frag) (x ql : Str) (st : Stmt) (f : Addr) (fd : FuncData) : Prop := FunD K x ql (defArgs st) (defBody st) (defScope st) [.non] [] f fd
theorem funN_okX (F : FunN K x ql st f fd) (S : FnScope N ps (defScope st)) (len : ∀ vs H Q E, sp vs H Q E → vs.length = ps.length)
    (hb : ∀ (cdv : Value) (A : Around) (outer : List Env) (s : Shared) (H : Hp) (vs : List V) (Q : VK) (E : XK), Room k (A.deeper (envOfC ql (defScope st) s.heap.objs.size f cdv)) → sp vs H Q E →
      ∃ t, PSs (cxOf (L2.CX P w) P w K mg base N ql (defScope st) f cdv A outer s H E) (defBody st) t ∧ t { nx := fun _ H' => Q .non H', rt := Q } (start N vs) H) : FnOk P w K mg base (L2.CX P w) (k + 1) f fd ps sp :=
  F.ok S len hb
theorem funN_full (F : FunN K x ql st f fd) (n : Nat) (hn : n = ps.length)
    (h : ∀ (T : Addr) (kV doc pm : Value) (an : Option Addr) (cdv ct : Value) (us its : List Value), us.length = n → its.length = 1 →
      ∃ k, bindArgs (PySem.W.fnOf x ql (defArgs st) (defBody st) (defScope st) (.ref T) kV doc pm an cdv ct) ⟨us, []⟩ = seqItems? (.ref T) >>= k ∧ k (some its.toArray) = pure (ps.zip (us ++ its.drop 1))) : Binds K fd ps [] := by
  obtain ⟨ds, v, b⟩ := F.binds1 (ps := ps) n 1 (by simp) (by simp [hn]) h
  cases v
  exact b
theorem funN_part (F : FunN K x ql st f fd) (n : Nat) (hn : n + 1 = ps.length)
    (h : ∀ (T : Addr) (kV doc pm : Value) (an : Option Addr) (cdv ct : Value) (us its : List Value), us.length = n → its.length = 1 →
      ∃ k, bindArgs (PySem.W.fnOf x ql (defArgs st) (defBody st) (defScope st) (.ref T) kV doc pm an cdv ct) ⟨us, []⟩ = seqItems? (.ref T) >>= k ∧ k (some its.toArray) = pure (ps.zip (us ++ its.drop 0))) : Binds K fd ps [.none] := by
  obtain ⟨ds, v, b⟩ := F.binds1 (ps := ps) n 0 (by simp) (by simp [hn]) h
  cases v with
  | cons a r =>
    cases r
    cases a
    exact b
theorem funN_mk {oc : Value} {od an : Option Addr} {osl : Array (Option Value)} {kV doc pm cdv ct : Value} {T : Addr} {oT : Obj} {nT : Nat} (l : K.lookup f = some ⟨oc, od, .func (PySem.W.fnOf x ql (defArgs st) (defBody st) (defScope st) (.ref T) kV doc pm an cdv ct), osl⟩)
    (c : PySem.W.codeIn K cdv ql = true) (k : PySem.W.keepIn K (.ref f) = true) (lT : K.lookup T = some oT) (dT : oT.data = .seq #[Value.none] nT) : FunN K x ql st f (PySem.W.fnOf x ql (defArgs st) (defBody st) (defScope st) (.ref T) kV doc pm an cdv ct) :=
  ⟨⟨oc, od, _, kV, doc, pm, an, cdv, ct, osl, rfl, l, c, Or.inr ⟨by simp, T, oT, [.none], nT, rfl, lT, dT, .cons rfl .nil⟩, Or.inl rfl⟩, k⟩
end
/-! a walk over a list or a tuple -/
section
variable {X : Cx} {K : PySem.W.Frag} {tg l : Expr} {tl : TE}
def iSeq (K : PySem.W.Frag) (tl : TE) : TI := fun σ H R => tl σ H fun x H1 => ∃ a, x = .ref a ∧ (((∃ xs, SqL K H1 a xs) ∧ R (Itl K a) H1) ∨ ((∃ xs, SqT K H1 a xs) ∧ R (Itt K a) H1))
theorem pi_seq (hK : X.K = K) (hl : PE X l tl) : PI X tg l (iSeq K tl) := by
  subst hK
  refine ⟨fun pins s σ H R I h => ?_⟩
  refine thn (hl.run pins s σ H _ I h) fun v s1 ⟨x, H1, I1, r1, q1⟩ => ?_
  obtain ⟨a, e, q1⟩ := q1
  subst e
  cases r1
  rcases q1 with ⟨⟨xs, hq⟩, q⟩ | ⟨⟨xs, hq⟩, q⟩
  · obtain ⟨its, rv, p, hz⟩ := I1.list hq
    refine wpAny_pyIter_list p.isList ?_
    refine ⟨s1.heap.objs.size, [s1.heap.objs.size], _, _, H1, rfl, I1.kept (t' := s1.toks) fun b o e => Heap.get?_push_of_some _ e, turn_list a _, ⟨_, Heap.get?_push_size _ rfl, rfl, rfl⟩, fun b hb => ?_, q⟩
    have e : b = s1.heap.objs.size := by simpa using hb
    subst e
    exact I1.fpOk (Nat.le_refl _) (I1.hok.fresh (Nat.le_refl _))
  · obtain ⟨its, rv, p, hz⟩ := I1.tuple hq
    refine wpAny_pyIter_tuple (show s1.heap.IsTuple a its.toArray from p) ?_
    refine ⟨s1.heap.objs.size, [s1.heap.objs.size], _, _, H1, rfl, I1.kept (t' := s1.toks) fun b o e => Heap.get?_push_of_some _ e, turn_tuple a _, ⟨_, Heap.get?_push_size _ rfl, rfl, rfl⟩, fun b hb => ?_, q⟩
    have e : b = s1.heap.objs.size := by simpa using hb
    subst e
    exact I1.fpOk (Nat.le_refl _) (I1.hok.fresh (Nat.le_refl _))
variable {σ : L2.St} {H : Hp} {R : It → Hp → Prop}
theorem s_iseq (h : tl σ H fun x H1 => ∃ a, x = .ref a ∧ (((∃ xs, SqL K H1 a xs) ∧ R (Itl K a) H1) ∨ ((∃ xs, SqT K H1 a xs) ∧ R (Itt K a) H1))) : iSeq K tl σ H R := h
theorem s_isqT {p : Addr} {xs : List V} {S L : Addr → Prop} (h : H p = some (.tup xs)) (q : S p) : ∃ a, V.ref p = .ref a ∧ (((∃ xs, SqL K H a xs) ∧ L a) ∨ ((∃ xs, SqT K H a xs) ∧ S a)) := ⟨p, rfl, Or.inr ⟨⟨xs, SqT.of h⟩, q⟩⟩
theorem s_isqL {p : Addr} {xs : List V} {S L : Addr → Prop} (h : H p = some (.lst xs)) (q : L p) : ∃ a, V.ref p = .ref a ∧ (((∃ xs, SqL K H a xs) ∧ L a) ∨ ((∃ xs, SqT K H a xs) ∧ S a)) := ⟨p, rfl, Or.inl ⟨⟨xs, SqL.of h⟩, q⟩⟩
theorem s_itup (h : tl σ H fun x H1 => ∃ a, x = .ref a ∧ (∃ xs, SqT K H1 a xs) ∧ R (Itt K a) H1) : iTup K tl σ H R := h
theorem s_itp {p : Addr} {xs : List V} {S : Addr → Prop} (h : H p = some (.tup xs)) (q : S p) : ∃ a, V.ref p = .ref a ∧ (∃ xs, SqT K H a xs) ∧ S a := ⟨p, rfl, ⟨xs, SqT.of h⟩, q⟩
end
/-! isinstance(x, (list, tuple)) -/
section
variable {X : Cx} {K : PySem.W.Frag} {H : Hp} {Q : VK}
theorem c_isiT (hK : X.K = K) : CallR X (.builtin "isinstance") (rIsiT K) := hK ▸ call_isiT
def Kd.isSeq : Kd → Bool | .lst => true | .tup => true | _ => false
theorem kb_seq (t : Kd) : PySem.W.kitAny K (.type t.nm) [.type "list", .type "tuple"] = some t.isSeq := by cases t <;> rfl
theorem s_isSeq {v : V} {t : Kd} {tp : Addr} (h : TyN H v t) (e : H tp = some (.tup [.ty "list", .ty "tuple"])) (q : Q (.bl t.isSeq) H) : rIsiT K [v, .ref tp] H Q :=
  ⟨v, tp, _, _, _, _, rfl, e, .cons (.ty _) (.cons (.ty _) .nil), h.ty, kb_seq t, q⟩
def uAbs : List V → Hp → VK → Prop := fun xs H Q => ∃ i, xs = [.int i] ∧ Q (.int (if i < 0 then -i else i)) H
theorem c_abs : CallR X (.builtin "abs") uAbs := call_abs
theorem s_abs {i : Int} (q : Q (.int (if i < 0 then -i else i)) H) : uAbs [.int i] H Q := ⟨i, rfl, q⟩
theorem bt_abs : bootBuiltins "abs" = some (.builtin "abs") := by decide +kernel
theorem bt_enumerate : bootBuiltins "enumerate" = some (.type "enumerate") := by decide +kernel
end
end U

namespace U
open PySem L2 PySem.Spec PyProof.Rows
/-! enumerate(t), t a tuple -/
def IteT (K : PySem.W.Frag) (a : Addr) : It :=
  ⟨fun i H => ∃ (xs : List V) (x : V), SqT K H a xs ∧ xs[i]? = some x, fun i H v H' => ∃ T x, v = .ref T ∧ H T = none ∧ H' = upd H T (.tup [.int (i : Nat), x]) ∧ ∀ xs, SqT K H a xs → xs[i]? = some x, fun i H => ∃ xs : List V, SqT K H a xs ∧ xs.length ≤ i⟩
theorem turn_enumT {P : Program} {w : World} {K : PySem.W.Frag} {elts : List Expr} {kk : Nat} {tpos : Pos} (a e it : Addr) :
    Turn P w K (.Tuple elts kk tpos) (IteT K a) [e, it] e (fun i h => (∃ old, IsEnum h e it ((i : Nat) : Int) old) ∧ h.IsTupleIter it a i ∧ e ≠ it) where
  mem := by simp
  obj := fun i h st b hb => by
    obtain ⟨⟨old, he⟩, ⟨o, ho, hc, hd⟩, _⟩ := st
    have e' : b = e ∨ b = it := by simpa using hb
    rcases e' with z | z
    · rw [z]; exact ⟨_, he, fun v q => nomatch q⟩
    · rw [z]; exact ⟨o, ho, fun v q => by rw [hd] at q; cases q⟩
  keep := fun i h h' st k => let ⟨⟨old, he⟩, hi, hne⟩ := st; ⟨⟨old, k e (by simp) _ he⟩, hi.at fun o q => k it (by simp) o q, hne⟩
  item := by
    intro X hP hw hK hc i pins s σ H E I hf st hg
    subst hP hw hK
    obtain ⟨⟨old, he⟩, hit, hne⟩ := st
    obtain ⟨xs, x, hq, hx⟩ := hg
    obtain ⟨its, rv, p, hz⟩ := I.tuple hq
    obtain ⟨u, hu, ru⟩ := rv.get hx
    have p' : s.heap.IsTuple a its.toArray := p
    have nai : a ≠ it := fun z => by
      subst z
      obtain ⟨o1, e1, c1, _⟩ := p'
      obtain ⟨o2, e2, c2, _⟩ := hit
      rw [e1] at e2; cases e2
      rw [c1] at c2; exact absurd c2 (by simp)
    have nae : a ≠ e := fun z => by
      subst z
      obtain ⟨o1, e1, c1, _⟩ := p'
      have he' := he
      unfold IsEnum at he'
      rw [e1] at he'
      cases he'
      exact absurd c1 (by simp)
    have hel : e < s.heap.objs.size := Heap.lt_size he
    have hil : it < s.heap.objs.size := by obtain ⟨_, q, _⟩ := hit; exact Heap.lt_size q
    have hi : i < its.toArray.size := by
      rw [List.size_toArray]
      exact (List.getElem?_eq_some_iff.mp hu).1
    refine wpAny_pyNext_enum_itemD (Draws.tuple (A := X.A.in1) (show X.A.in1.handled = none from I.ok.hd hc) it a nai its.toArray) he ⟨hit, p'⟩ hi hne (by simp; exact ⟨hne, nae.symm⟩) fun x' h' tk hP ho hst' hT hsz hk => ?_
    obtain ⟨hit', _⟩ := hst'
    have ex : x' = u := by
      have hP' : its.toArray[i]? = some x' := hP
      rw [List.getElem?_toArray, hu] at hP'
      exact (Option.some.inj hP').symm
    subst ex
    refine ⟨_, rfl, wpAny_letOwnedTupleGo_enum (s := { s with heap := h', toks := tk + 1 }) ho fun h'' he' sb => ?_⟩
    have hT2 : h''.get? s.heap.objs.size = some { cls := .type "tuple", data := .seq #[.int i tk, x'] } := (sb.2 _ (Nat.ne_of_gt hel)).trans hT
    have new : ObjOk X.prog X.w (upd H s.heap.objs.size (.tup [.int (i : Nat), x])) h'' s.heap.objs.size (.tup [.int (i : Nat), x]) :=
      ⟨by show 2 ≤ sizeLine; decide, [.int i tk, x'], .cons ⟨_, rfl⟩ (.cons ru .nil), ⟨_, hT2, rfl, _, rfl⟩⟩
    have I1 : Inv X pins σ (upd H s.heap.objs.size (.tup [.int (i : Nat), x])) { s with heap := h'', toks := tk + 1 } :=
      I.turnedNew (ch := [e, it]) (fun b ob hb q => (sb.2 b (fun z => hb (by simp [z]))).trans (hk b ob (fun z => hb (by simp [z])) (fun z => hb (by simp [z])) q)) hf (Nat.le_refl _) new
    refine ⟨.ref s.heap.objs.size, _, I1, rfl, ⟨_, x, rfl, I.hok.fresh (Nat.le_refl _), rfl, fun ys hy => by rw [I.tuple_inj hy hq]; exact hx⟩, ⟨⟨x', ?_⟩, hit'.at fun o q => (sb.2 it (Ne.symm hne)).trans q, hne⟩, fun b hb => ?_⟩
    · have e1 : ((i + 1 : Nat) : Int) = (i : Int) + 1 := by omega
      rw [e1]; exact he'
    · have hb' : b < s.heap.objs.size := by
        have e' : b = e ∨ b = it := by simpa using hb
        rcases e' with z | z
        · rw [z]; exact hel
        · rw [z]; exact hil
      rw [upd_ne (Nat.ne_of_lt hb')]
      exact (hf b hb).1
  done := by
    intro X hP hw hK hc i pins s σ H E I hf st hg
    subst hP hw hK
    obtain ⟨⟨old, he⟩, hit, hne⟩ := st
    obtain ⟨xs, hq, hx⟩ := hg
    obtain ⟨its, rv, p, hz⟩ := I.tuple hq
    obtain ⟨f0, f1, f2, f3, f4, f5⟩ := hf it (by simp)
    have hl := rv.length
    have p' : s.heap.IsTuple a its.toArray := p
    refine (?_ : wpAny (model X.prog X.w) X.A (pyNext (.ref e)) _ _ s)
    have hT : s.TypeIs (.ref e) "enumerate" := ⟨_, he, rfl⟩
    unfold pyNext
    refine wpAny_bind (wpAny_attempt (wpAny_callSpecial?_slot (name := Str.ofString "__next__") hT F.slot_enumerate_next
      (wpAny_call_entry F.slot_enumerate_next hT F.entry_enumerate_next ?_ (F.args_enumerate_next_1 _))))
    show wpAny _ _ (field (.ref e) 2 >>= _) _ _ _
    refine wpAny_bind (wpAny_field he rfl (x := .ref it) rfl ?_)
    refine wpAny_bind (wpAny_nextOf_tuple_end (I.ok.hd hc) hit p' (by simp; omega) fun h' x he' hx' => ?_)
    obtain ⟨o, ho, hc'⟩ := hx'
    refine wpAny_bind (wpAny_isInstance (T := "StopIteration") (b := true) ⟨o, ho, hc'⟩ isSubtype_stop ?_)
    exact wpAny_pure ⟨rfl, I.turned (t' := s.toks) (fun b o hb q => he' b o hb q) f0 f1 f3 f4 f5⟩
  self := fun A i s Q E st h => let ⟨⟨_, he⟩, _⟩ := st; wpAny_pyIter_enum he h
theorem meets_enum1 {v : Value} {o : Obj} {H : Heap → Prop} (B : Begins v o H) :
    Meets (Builtin.«enumerate.__new__» ⟨[.type "enumerate", v], []⟩) (fun _ R s => H s.heap ∧
      R (.ok (.ret (.ref (s.heap.push o).objs.size))) { s with heap := (s.heap.push o).push { cls := .type "enumerate", data := .fields #[.none, .bool false, .ref s.heap.objs.size, rawInt 0, .none, .none] } }) :=
  .of_wp fun prog w A R s h => by
    obtain ⟨hp, g, d, tk, os⟩ := s; obtain ⟨h1, h⟩ := h
    have hsub := sub_enumerate
    have q1 : ∀ {A' : Around} {E : Value → Shared → Prop} {Q : Value → Shared → Prop}, Q (.ref hp.objs.size) ⟨hp.push o, g, d, tk, os⟩ → wpAny (model prog w) A' (pyIter v) Q E ⟨hp, g, d, tk, os⟩ :=
      fun q => B.iter prog w _ _ ⟨hp, g, d, tk, os⟩ _ h1 q
    wp_walk using q1
    refine wpAny_stack_any fun st => wpAny_pure ?_
    split
    · rename_i c _ _ _ _ _
      cases (c == Value.type "enumerate")
      · wp_walk using q1
        exact ⟨_, rfl, h⟩
      · wp_walk using q1
        exact ⟨_, rfl, h⟩
    · wp_walk using q1
      exact ⟨_, rfl, h⟩
section
variable {prog : Program} {w : World} {A : Around} {E : Value → Shared → Prop} {s : Shared}
theorem enum_begins1 {v : Value} {o : Obj} {H : Heap → Prop} {Q : Value → Shared → Prop} (B : Begins v o H) (h1 : H s.heap)
    (h : ∀ h', IsEnum h' (s.heap.objs.size + 1) s.heap.objs.size 0 .none → h'.get? s.heap.objs.size = some o → h'.objs.size = s.heap.objs.size + 2 →
      (∀ b o, s.heap.get? b = some o → h'.get? b = some o) → Q (.ref (s.heap.objs.size + 1)) { s with heap := h' }) :
    wpAny (model prog w) A (call (.type "enumerate") [v]) Q E s := by
  refine callType_new F.called_enumerate (by decide) (F.typeCall_enumerate_1 _) (F.newCall_enumerate_1 _) (fun obj => F.args_object_init_2 obj _) F.entry_enumerate_new
    (meets_enum1 B) ⟨h1, ?_⟩
  have hz : (s.heap.push o).objs.size = s.heap.objs.size + 1 := Heap.size_push ..
  show _ ∧ _
  rw [hz]
  have he : IsEnum ((s.heap.push o).push { cls := .type "enumerate", data := .fields #[.none, .bool false, .ref s.heap.objs.size, rawInt 0, .none, .none] }) (s.heap.objs.size + 1) s.heap.objs.size 0 .none := by
    have := Heap.get?_push_size (s.heap.push o) (o := { cls := .type "enumerate", data := .fields #[.none, .bool false, .ref s.heap.objs.size, rawInt 0, .none, .none] }) rfl
    rw [hz] at this; exact this
  refine ⟨⟨_, he, rfl⟩, h _ he (Heap.get?_push_of_some _ (Heap.get?_push_size _ B.free)) (by rw [Heap.size_push, hz]) fun b o x => Heap.get?_push_of_some _ (Heap.get?_push_of_some _ x)⟩
end
def iEnumT (K : PySem.W.Frag) (ta : TA) : TI := fun σ H R => ta σ H fun vs H1 => ∃ a xs, vs = [.ref a] ∧ SqT K H1 a xs ∧ R (IteT K a) H1
theorem pi_enumT {X : Cx} {K : PySem.W.Frag} {e : Expr} {ta : TA} {p pos tpos : Pos} {elts : List Expr} {kk : Nat} (hK : X.K = K) (hg : Gl X "enumerate") (hm : X.mg "enumerate" = none) (ha : PA X [e] ta) (hs : starEach [e] X.env = [(false, eval e X.env)] := by rfl) :
    PI X (.Tuple elts kk tpos) (.Call (.Name "enumerate" p) [e] [] pos) (iEnumT K ta) := by
  subst hK
  refine ⟨fun pins s σ H R I h => ?_⟩
  refine Call_ (ld_blt I hg hm boot_enumerate (PyProof.Rows.callWith_type1 (thn (ha.run pos pins s σ H _ I h) fun us s1 ⟨vs, H1, I1, r1, q1⟩ => ?_) hs rfl))
  obtain ⟨a, xs, ex, hq, q⟩ := q1
  subst ex
  cases r1 with
  | cons r rr =>
    cases rr
    cases r
    obtain ⟨its, rv, p', hz⟩ := I1.tuple hq
    refine enum_begins1 (begins_tuple a its.toArray) (show s1.heap.IsTuple a its.toArray from p') fun h' he hit hsz hk => wpAny_pyIter_enum he ?_
    have I2 : Inv X pins σ H1 { s1 with heap := h' } := I1.kept (t' := s1.toks) hk
    refine ⟨s1.heap.objs.size + 1, [s1.heap.objs.size + 1, s1.heap.objs.size], _, _, H1, rfl, I2, turn_enumT a (s1.heap.objs.size + 1) s1.heap.objs.size, ⟨⟨.none, he⟩, ⟨_, hit, rfl, rfl⟩, Nat.succ_ne_self _⟩, fun b hb => ?_, q⟩
    have e' : b = s1.heap.objs.size + 1 ∨ b = s1.heap.objs.size := by simpa using hb
    have hle : s1.heap.objs.size ≤ b := by
      rcases e' with z | z
      · rw [z]; exact Nat.le_add_right _ _
      · rw [z]; exact Nat.le_refl _
    exact I1.fpOk hle (I1.hok.fresh hle)
theorem walk_enumT {K : PySem.W.Frag} {a : Addr} {xs : List V} : Walk (IteT K a) xs.length (fun H => SqT K H a xs) (YPair (fun i => some (.int (i : Nat))) (fun i => xs[i]?)) := by
  refine ⟨fun i _ hi q => ⟨xs, xs[i], q, by simp [hi]⟩, fun _ q => ⟨xs, q, Nat.le_refl _⟩, fun i H v H' _ q y => ?_⟩
  obtain ⟨T, x, h1, h2, h3, h4⟩ := y
  exact ⟨T, .int (i : Nat), x, h1, h2, h3, rfl, h4 xs q⟩
theorem pi_enumL {X : Cx} {K : PySem.W.Frag} {e : Expr} {ta : TA} {p pos tpos : Pos} {elts : List Expr} {kk : Nat} (hK : X.K = K) (hg : Gl X "enumerate") (hm : X.mg "enumerate" = none) (ha : PA X [e] ta) (hs : starEach [e] X.env = [(false, eval e X.env)] := by rfl) :
    PI X (.Tuple elts kk tpos) (.Call (.Name "enumerate" p) [e] [] pos) (iEnum K ta) := hK ▸ pi_enum hg hm ha hs
section
variable {K : PySem.W.Frag} {σ : L2.St} {H : Hp} {R : It → Hp → Prop} {ta : TA} {a : Addr} {xs : List V}
theorem s_ienT (h : ta σ H fun vs H1 => ∃ a xs, vs = [.ref a] ∧ SqT K H1 a xs ∧ R (IteT K a) H1) : iEnumT K ta σ H R := h
theorem s_ienL (h : ta σ H fun vs H1 => ∃ a xs, vs = [.ref a] ∧ SqL K H1 a xs ∧ R (Ite K a) H1) : iEnum K ta σ H R := h
theorem s_eT {S : Addr → Prop} (h : H a = some (.tup xs)) (q : S a) : ∃ a' xs', [V.ref a] = [.ref a'] ∧ SqT K H a' xs' ∧ S a' := ⟨a, xs, rfl, SqT.of h, q⟩
theorem s_eL {S : Addr → Prop} (h : H a = some (.lst xs)) (q : S a) : ∃ a' xs', [V.ref a] = [.ref a'] ∧ SqL K H a' xs' ∧ S a' := ⟨a, xs, rfl, SqL.of h, q⟩
end
/-! lists of texts -/
section
variable {K : PySem.W.Frag} {H : Hp} {Q : VK} {p : Addr} {zs : List Str} {z : Str}
theorem flat_strs (zs : List Str) : (zs.map V.str).all flatV = true := by
  rw [List.all_eq_true]
  intro x hx
  obtain ⟨y, _, rfl⟩ := List.mem_map.mp hx
  rfl
theorem eqV_str {a b : Str} : eqV (.str a) (.str b) = decide (a = b) := by
  first
    | (show decide (V.str a = V.str b) = _; exact U.dec_str)
    | rfl
    | simp [eqV]
theorem inV_strs : inV (.str z) (zs.map V.str) = decide (z ∈ zs) := by
  induction zs with
  | nil => rfl
  | cons y zs ih =>
    unfold inV at ih ⊢
    rw [List.map_cons, List.any_cons, ih, eqV_str]
    by_cases h : y = z
    · subst h; simp
    · simp [h, Ne.symm h]
theorem s_inS (h : SqL K H p (zs.map V.str)) (q : Q (.bl (decide (z ∈ zs))) H) : uIn K false (.str z) (.ref p) H Q := Or.inr ⟨p, _, rfl, Or.inl h, rfl, flat_strs zs, by rw [inV_strs]; exact q⟩
theorem s_ninS (h : SqL K H p (zs.map V.str)) (q : Q (.bl (!decide (z ∈ zs))) H) : uIn K true (.str z) (.ref p) H Q := Or.inr ⟨p, _, rfl, Or.inl h, rfl, flat_strs zs, by rw [inV_strs]; exact q⟩
theorem s_inT (h : SqT K H p (zs.map V.str)) (q : Q (.bl (decide (z ∈ zs))) H) : uIn K false (.str z) (.ref p) H Q := Or.inr ⟨p, _, rfl, Or.inr h, rfl, flat_strs zs, by rw [inV_strs]; exact q⟩
theorem s_ninT (h : SqT K H p (zs.map V.str)) (q : Q (.bl (!decide (z ∈ zs))) H) : uIn K true (.str z) (.ref p) H Q := Or.inr ⟨p, _, rfl, Or.inr h, rfl, flat_strs zs, by rw [inV_strs]; exact q⟩
theorem mt_ix {X : Cx} (hK : X.K = K) : MtR X "list.index" (rIndex K) := hK ▸ mt_index
theorem s_indexS {j : Nat} (h : SqL K H p (zs.map V.str)) (e : zs[j]? = some z) (nd : zs.Nodup) (q : Q (.int j) H) : rIndex K (.ref p) [.str z] H Q := by
  refine ⟨p, _, .str z, j, .str z, rfl, rfl, h, rfl, flat_strs zs, by rw [List.getElem?_map, e]; rfl, by rw [eqV_str]; simp, fun m z' hm hz' => ?_, q⟩
  rw [List.getElem?_map] at hz'
  obtain ⟨y, ey, rfl⟩ := Option.map_eq_some_iff.mp hz'
  rw [eqV_str]
  refine decide_eq_false fun hy => ?_
  subst hy
  have := (List.getElem?_inj (List.getElem?_eq_some_iff.mp ey).1 nd).mp (ey.trans e.symm)
  omega
end
end U

namespace U
open PySem L2 PySem.Spec PyProof.Rows
section
variable {K : PySem.W.Frag} {σ : L2.St} {H : Hp} {a : Addr} {vs : List V} {g : TG} {tb : TS} {D : Ends}
/-- for x in a list or a tuple -/
theorem for_sq (e : H a = some (.lst vs) ∨ H a = some (.tup vs)) (Pv : Nat → L2.St → Hp → Prop) (h0 : Pv 0 σ H) (hG : ∀ i σ' H', Pv i σ' H' → ∀ o, H a = some o → H' a = some o)
    (hs : ∀ i x σ' H', vs[i]? = some x → Pv i σ' H' → g x σ' H' fun σ2 H2 => tb { D with nx := Pv (i + 1), ct := Pv (i + 1), bk := D.nx } σ2 H2) (hd : ∀ σ' H', Pv vs.length σ' H' → D.nx σ' H') :
    ∃ a', V.ref a = .ref a' ∧ (((∃ xs, SqL K H a' xs) ∧ ∃ W : Nat → Nat → L2.St → Hp → Prop, (∃ m, W 0 m σ H) ∧ ∀ i m σ H, W i m σ H →
      ((Itl K a').stop i H ∧ D.nx σ H) ∨ ((Itl K a').go i H ∧ ∃ N : L2.St → Hp → Prop, (∀ σ' H', N σ' H' → ∃ m', m' < m ∧ W (i + 1) m' σ' H') ∧ ∀ x H', (Itl K a').yld i H x H' → g x σ H' fun σ2 H2 => tb { D with nx := N, ct := N, bk := D.nx } σ2 H2)) ∨
      ((∃ xs, SqT K H a' xs) ∧ ∃ W : Nat → Nat → L2.St → Hp → Prop, (∃ m, W 0 m σ H) ∧ ∀ i m σ H, W i m σ H →
      ((Itt K a').stop i H ∧ D.nx σ H) ∨ ((Itt K a').go i H ∧ ∃ N : L2.St → Hp → Prop, (∀ σ' H', N σ' H' → ∃ m', m' < m ∧ W (i + 1) m' σ' H') ∧ ∀ x H', (Itt K a').yld i H x H' → g x σ H' fun σ2 H2 => tb { D with nx := N, ct := N, bk := D.nx } σ2 H2))) := by
  refine ⟨a, rfl, ?_⟩
  rcases e with e | e
  · refine Or.inl ⟨⟨vs, SqL.of e⟩, for_it (walk_list (xs := vs)) Pv h0 (fun i σ' H' _ p => SqL.of (hG i σ' H' p _ e)) (fun i x σ' H1 H2 hi p y => ?_) hd⟩
    obtain ⟨rfl, ex⟩ := y
    exact hs i x σ' H2 ex p
  · refine Or.inr ⟨⟨vs, SqT.of e⟩, for_it (walk_tup (xs := vs)) Pv h0 (fun i σ' H' _ p => SqT.of (hG i σ' H' p _ e)) (fun i x σ' H1 H2 hi p y => ?_) hd⟩
    obtain ⟨rfl, ex⟩ := y
    exact hs i x σ' H2 ex p
theorem for_L (e : H a = some (.lst vs)) (Pv : Nat → L2.St → Hp → Prop) (h0 : Pv 0 σ H) (hG : ∀ i σ' H', Pv i σ' H' → ∀ o, H a = some o → H' a = some o)
    (hs : ∀ i x σ' H', vs[i]? = some x → Pv i σ' H' → g x σ' H' fun σ2 H2 => tb { D with nx := Pv (i + 1), ct := Pv (i + 1), bk := D.nx } σ2 H2) (hd : ∀ σ' H', Pv vs.length σ' H' → D.nx σ' H') :
    ∃ W : Nat → Nat → L2.St → Hp → Prop, (∃ m, W 0 m σ H) ∧ ∀ i m σ H, W i m σ H →
      ((Itl K a).stop i H ∧ D.nx σ H) ∨ ((Itl K a).go i H ∧ ∃ N : L2.St → Hp → Prop, (∀ σ' H', N σ' H' → ∃ m', m' < m ∧ W (i + 1) m' σ' H') ∧ ∀ x H', (Itl K a).yld i H x H' → g x σ H' fun σ2 H2 => tb { D with nx := N, ct := N, bk := D.nx } σ2 H2) :=
  for_it (walk_list (xs := vs)) Pv h0 (fun i σ' H' _ p => SqL.of (hG i σ' H' p _ e)) (fun i x σ' H1 H2 hi p y => by
    obtain ⟨rfl, ex⟩ := y
    exact hs i x σ' H2 ex p) hd
/-- for j, x in enumerate(tuple): the pair T is new -/
theorem for_eT (e : H a = some (.tup vs)) (Pv : Nat → L2.St → Hp → Prop) (h0 : Pv 0 σ H) (hG : ∀ i σ' H', Pv i σ' H' → ∀ xs, H a = some (.tup xs) → H' a = some (.tup xs))
    (hs : ∀ i x σ' H' T H2, vs[i]? = some x → Pv i σ' H' → H' T = none → H2 T = some (.tup [.int (i : Nat), x]) → Kp [] H' H2 → g (.ref T) σ' H2 fun σ2 H3 => tb { D with nx := Pv (i + 1), ct := Pv (i + 1), bk := D.nx } σ2 H3) (hd : ∀ σ' H', Pv vs.length σ' H' → D.nx σ' H') :
    ∃ W : Nat → Nat → L2.St → Hp → Prop, (∃ m, W 0 m σ H) ∧ ∀ i m σ H, W i m σ H →
      ((IteT K a).stop i H ∧ D.nx σ H) ∨ ((IteT K a).go i H ∧ ∃ N : L2.St → Hp → Prop, (∀ σ' H', N σ' H' → ∃ m', m' < m ∧ W (i + 1) m' σ' H') ∧ ∀ x H', (IteT K a).yld i H x H' → g x σ H' fun σ2 H2 => tb { D with nx := N, ct := N, bk := D.nx } σ2 H2) :=
  for_it (walk_enumT (xs := vs)) Pv h0 (fun i σ' H' _ p => SqT.of (hG i σ' H' p _ e)) (fun i x σ' H1 H2 hi p y => by
    obtain ⟨T, x1, x2, rfl, f, rfl, e1, e2⟩ := y
    cases Option.some.inj e1
    exact hs i x2 σ' H1 T _ e2 p f upd_same (Kp.refl.new f)) hd
theorem for_eL (e : H a = some (.lst vs)) (Pv : Nat → L2.St → Hp → Prop) (h0 : Pv 0 σ H) (hG : ∀ i σ' H', Pv i σ' H' → ∀ o, H a = some o → H' a = some o)
    (hs : ∀ i x σ' H' T H2, vs[i]? = some x → Pv i σ' H' → H' T = none → H2 T = some (.tup [.int (i : Nat), x]) → Kp [] H' H2 → g (.ref T) σ' H2 fun σ2 H3 => tb { D with nx := Pv (i + 1), ct := Pv (i + 1), bk := D.nx } σ2 H3) (hd : ∀ σ' H', Pv vs.length σ' H' → D.nx σ' H') :
    ∃ W : Nat → Nat → L2.St → Hp → Prop, (∃ m, W 0 m σ H) ∧ ∀ i m σ H, W i m σ H →
      ((Ite K a).stop i H ∧ D.nx σ H) ∨ ((Ite K a).go i H ∧ ∃ N : L2.St → Hp → Prop, (∀ σ' H', N σ' H' → ∃ m', m' < m ∧ W (i + 1) m' σ' H') ∧ ∀ x H', (Ite K a).yld i H x H' → g x σ H' fun σ2 H2 => tb { D with nx := N, ct := N, bk := D.nx } σ2 H2) :=
  for_it (walk_enum (xs := vs)) Pv h0 (fun i σ' H' _ p => SqL.of (hG i σ' H' p _ e)) (fun i x σ' H1 H2 hi p y => by
    obtain ⟨T, x1, x2, rfl, f, rfl, e1, e2⟩ := y
    cases Option.some.inj e1
    exact hs i x2 σ' H1 T _ e2 p f upd_same (Kp.refl.new f)) hd
variable {tt : TT} {te : TE} {ns : List Nat} {A : Addr} {Qd : Hp → Prop} {Pv : Nat → List V → Hp → Prop}
/-- a comprehension over a tuple / a list -/
theorem lc_T (e : H a = some (.tup vs)) (hA : H A = none) (Pv : Nat → List V → Hp → Prop) (h0 : ∀ H', H' A = some (.lst []) → Kp [] H H' → Pv 0 [] H') (hG : ∀ i acc H', Pv i acc H' → ∀ xs, H a = some (.tup xs) → H' a = some (.tup xs))
    (hs : ∀ i x acc H', vs[i]? = some x → H' A = some (.lst acc) → Pv i acc H' → g x (wipe σ ns) H' fun σ2 H2 => wipe σ2 ns = wipe σ ns ∧ tt σ2 H2 fun b H3 =>
      if b = true then te σ2 H3 fun y H4 => ∃ acc, H4 A = some (.lst acc) ∧ acc.length < sizeLine ∧ PvD A Pv (i + 1) (upd H4 A (.lst (acc ++ [y]))) else PvD A Pv (i + 1) H3) (hd : ∀ acc H', H' A = some (.lst acc) → Pv vs.length acc H' → Qd H') :
    ∃ W : Nat → Nat → Hp → Prop, (∃ m, W 0 m (upd H A (.lst []))) ∧ ∀ i m H, W i m H →
      ((Itt K a).stop i H ∧ Qd H) ∨ ((Itt K a).go i H ∧ ∃ Nx : Hp → Prop, (∀ H', Nx H' → ∃ m', m' < m ∧ W (i + 1) m' H') ∧ ∀ x H', (Itt K a).yld i H x H' → g x (wipe σ ns) H' fun σ2 H2 => wipe σ2 ns = wipe σ ns ∧ tt σ2 H2 fun b H3 =>
        if b = true then te σ2 H3 fun y H4 => ∃ acc, H4 A = some (.lst acc) ∧ acc.length < sizeLine ∧ Nx (upd H4 A (.lst (acc ++ [y]))) else Nx H3) :=
  lc_it (walk_tup (xs := vs)) (PvD A Pv) (PvD.begin hA h0) (fun i H' _ p => by
    obtain ⟨acc, _, p⟩ := p
    exact SqT.of (hG i acc H' p _ e)) (fun i x H1 H2 hi p y => by
    obtain ⟨rfl, ex⟩ := y
    obtain ⟨acc, ea, p⟩ := p
    exact hs i x acc H2 ex ea p) (fun H' p => by
    obtain ⟨acc, ea, p⟩ := p
    exact hd acc H' ea p)
theorem lc_L (e : H a = some (.lst vs)) (hA : H A = none) (Pv : Nat → List V → Hp → Prop) (h0 : ∀ H', H' A = some (.lst []) → Kp [] H H' → Pv 0 [] H') (hG : ∀ i acc H', Pv i acc H' → ∀ o, H a = some o → H' a = some o)
    (hs : ∀ i x acc H', vs[i]? = some x → H' A = some (.lst acc) → Pv i acc H' → g x (wipe σ ns) H' fun σ2 H2 => wipe σ2 ns = wipe σ ns ∧ tt σ2 H2 fun b H3 =>
      if b = true then te σ2 H3 fun y H4 => ∃ acc, H4 A = some (.lst acc) ∧ acc.length < sizeLine ∧ PvD A Pv (i + 1) (upd H4 A (.lst (acc ++ [y]))) else PvD A Pv (i + 1) H3) (hd : ∀ acc H', H' A = some (.lst acc) → Pv vs.length acc H' → Qd H') :
    ∃ W : Nat → Nat → Hp → Prop, (∃ m, W 0 m (upd H A (.lst []))) ∧ ∀ i m H, W i m H →
      ((Itl K a).stop i H ∧ Qd H) ∨ ((Itl K a).go i H ∧ ∃ Nx : Hp → Prop, (∀ H', Nx H' → ∃ m', m' < m ∧ W (i + 1) m' H') ∧ ∀ x H', (Itl K a).yld i H x H' → g x (wipe σ ns) H' fun σ2 H2 => wipe σ2 ns = wipe σ ns ∧ tt σ2 H2 fun b H3 =>
        if b = true then te σ2 H3 fun y H4 => ∃ acc, H4 A = some (.lst acc) ∧ acc.length < sizeLine ∧ Nx (upd H4 A (.lst (acc ++ [y]))) else Nx H3) :=
  lc_it (walk_list (xs := vs)) (PvD A Pv) (PvD.begin hA h0) (fun i H' _ p => by
    obtain ⟨acc, _, p⟩ := p
    exact SqL.of (hG i acc H' p _ e)) (fun i x H1 H2 hi p y => by
    obtain ⟨rfl, ex⟩ := y
    obtain ⟨acc, ea, p⟩ := p
    exact hs i x acc H2 ex ea p) (fun H' p => by
    obtain ⟨acc, ea, p⟩ := p
    exact hd acc H' ea p)
theorem lc_eL (e : H a = some (.lst vs)) (hA : H A = none) (Pv : Nat → List V → Hp → Prop) (h0 : ∀ H', H' A = some (.lst []) → Kp [] H H' → Pv 0 [] H') (hG : ∀ i acc H', Pv i acc H' → ∀ o, H a = some o → H' a = some o)
    (hs : ∀ i x acc H' T H2, vs[i]? = some x → H' A = some (.lst acc) → Pv i acc H' → H' T = none → H2 T = some (.tup [.int (i : Nat), x]) → Kp [] H' H2 → g (.ref T) (wipe σ ns) H2 fun σ2 H2 => wipe σ2 ns = wipe σ ns ∧ tt σ2 H2 fun b H3 =>
      if b = true then te σ2 H3 fun y H4 => ∃ acc, H4 A = some (.lst acc) ∧ acc.length < sizeLine ∧ PvD A Pv (i + 1) (upd H4 A (.lst (acc ++ [y]))) else PvD A Pv (i + 1) H3) (hd : ∀ acc H', H' A = some (.lst acc) → Pv vs.length acc H' → Qd H') :
    ∃ W : Nat → Nat → Hp → Prop, (∃ m, W 0 m (upd H A (.lst []))) ∧ ∀ i m H, W i m H →
      ((Ite K a).stop i H ∧ Qd H) ∨ ((Ite K a).go i H ∧ ∃ Nx : Hp → Prop, (∀ H', Nx H' → ∃ m', m' < m ∧ W (i + 1) m' H') ∧ ∀ x H', (Ite K a).yld i H x H' → g x (wipe σ ns) H' fun σ2 H2 => wipe σ2 ns = wipe σ ns ∧ tt σ2 H2 fun b H3 =>
        if b = true then te σ2 H3 fun y H4 => ∃ acc, H4 A = some (.lst acc) ∧ acc.length < sizeLine ∧ Nx (upd H4 A (.lst (acc ++ [y]))) else Nx H3) :=
  lc_it (walk_enum (xs := vs)) (PvD A Pv) (PvD.begin hA h0) (fun i H' _ p => by
    obtain ⟨acc, _, p⟩ := p
    exact SqL.of (hG i acc H' p _ e)) (fun i x H1 H2 hi p y => by
    obtain ⟨T, x1, x2, rfl, f, rfl, e1, e2⟩ := y
    cases Option.some.inj e1
    obtain ⟨acc, ea, p⟩ := p
    exact hs i x2 acc H1 T _ e2 ea p f upd_same (Kp.refl.new f)) (fun H' p => by
    obtain ⟨acc, ea, p⟩ := p
    exact hd acc H' ea p)
/-- in range(n) -/
theorem lc_R {lo : Int} {n : Nat} (hA : H A = none) (Pv : Nat → List V → Hp → Prop) (h0 : ∀ H', H' A = some (.lst []) → Kp [] H H' → Pv 0 [] H')
    (hs : ∀ i acc H', i < n → H' A = some (.lst acc) → Pv i acc H' → g (.int (lo + i)) (wipe σ ns) H' fun σ2 H2 => wipe σ2 ns = wipe σ ns ∧ tt σ2 H2 fun b H3 =>
      if b = true then te σ2 H3 fun y H4 => ∃ acc, H4 A = some (.lst acc) ∧ acc.length < sizeLine ∧ PvD A Pv (i + 1) (upd H4 A (.lst (acc ++ [y]))) else PvD A Pv (i + 1) H3) (hd : ∀ acc H', H' A = some (.lst acc) → Pv n acc H' → Qd H') :
    ∃ W : Nat → Nat → Hp → Prop, (∃ m, W 0 m (upd H A (.lst []))) ∧ ∀ i m H, W i m H →
      ((Itr lo n).stop i H ∧ Qd H) ∨ ((Itr lo n).go i H ∧ ∃ Nx : Hp → Prop, (∀ H', Nx H' → ∃ m', m' < m ∧ W (i + 1) m' H') ∧ ∀ x H', (Itr lo n).yld i H x H' → g x (wipe σ ns) H' fun σ2 H2 => wipe σ2 ns = wipe σ ns ∧ tt σ2 H2 fun b H3 =>
        if b = true then te σ2 H3 fun y H4 => ∃ acc, H4 A = some (.lst acc) ∧ acc.length < sizeLine ∧ Nx (upd H4 A (.lst (acc ++ [y]))) else Nx H3) :=
  lc_it walk_range (PvD A Pv) (PvD.begin hA h0) (fun _ _ _ _ => trivial) (fun i x H1 H2 hi p y => by
    obtain ⟨rfl, rfl⟩ := y
    obtain ⟨acc, ea, p⟩ := p
    exact hs i acc H2 hi ea p) (fun H' p => by
    obtain ⟨acc, ea, p⟩ := p
    exact hd acc H' ea p)
theorem for_R {lo : Int} {n : Nat} (Pv : Nat → L2.St → Hp → Prop) (h0 : Pv 0 σ H)
    (hs : ∀ i σ' H', i < n → Pv i σ' H' → g (.int (lo + i)) σ' H' fun σ2 H2 => tb { D with nx := Pv (i + 1), ct := Pv (i + 1), bk := D.nx } σ2 H2) (hd : ∀ σ' H', Pv n σ' H' → D.nx σ' H') :
    ∃ W : Nat → Nat → L2.St → Hp → Prop, (∃ m, W 0 m σ H) ∧ ∀ i m σ H, W i m σ H →
      ((Itr lo n).stop i H ∧ D.nx σ H) ∨ ((Itr lo n).go i H ∧ ∃ N : L2.St → Hp → Prop, (∀ σ' H', N σ' H' → ∃ m', m' < m ∧ W (i + 1) m' σ' H') ∧ ∀ x H', (Itr lo n).yld i H x H' → g x σ H' fun σ2 H2 => tb { D with nx := N, ct := N, bk := D.nx } σ2 H2) :=
  for_it walk_range Pv h0 (fun _ _ _ _ _ => trivial) (fun i x σ' H1 H2 hi p y => by
    obtain ⟨rfl, rfl⟩ := y
    exact hs i σ' H2 hi p) hd
end
theorem pg_tupK {X : Cx} {K : PySem.W.Frag} {es : List Expr} {k n : Nat} {t : TGs} {pos : Pos} (hK : X.K = K) (hc : X.calm = true) (h : PGs X es t)
    (hn : (assignEach es X.env).length = n := by rfl) (hst : (assignEach es X.env).findIdx? (·.1) = none := by rfl) : PG X (.Tuple es k pos) (gTup K n t) := hK ▸ pg_tup hc h hn hst
theorem s_nameR {σ τ : L2.St} {H : Hp} {i : Nat} {v : V} {R : L2.St → Hp → Prop} (e : σ.set i (some v) = τ) (h : R τ H) : gName i v σ H R := by subst e; exact h
/-! rows: things that stand for tuples -/
inductive Rw (H : Hp) : List V → List (List V) → Prop
  | nil : Rw H [] []
  | cons {u : Addr} {r : List V} {vs : List V} {rs : List (List V)} : H u = some (.tup r) → Rw H vs rs → Rw H (.ref u :: vs) (r :: rs)
section
variable {H H1 : Hp} {vs ws : List V} {rs ss : List (List V)} {ps : List Addr}
theorem Rw.kp (h : Rw H vs rs) (k : Kp ps H H1) : Rw H1 vs rs := by
  induction h with
  | nil => exact .nil
  | cons e _ ih => exact .cons (k.tgt e) ih
theorem Rw.len (h : Rw H vs rs) : vs.length = rs.length := by
  induction h with
  | nil => rfl
  | cons e _ ih => simp [ih]
theorem Rw.app (h : Rw H vs rs) (g : Rw H ws ss) : Rw H (vs ++ ws) (rs ++ ss) := by
  induction h with
  | nil => exact g
  | cons e _ ih => exact .cons e ih
theorem Rw.one {u : Addr} {r : List V} (e : H u = some (.tup r)) : Rw H [.ref u] [r] := .cons e .nil
theorem Rw.at (h : Rw H vs rs) {i : Nat} {x : V} (e : vs[i]? = some x) : ∃ u r, x = .ref u ∧ rs[i]? = some r ∧ H u = some (.tup r) := by
  induction h generalizing i with
  | nil => simp at e
  | @cons u r vs rs e1 _ ih =>
    cases i with
    | zero => exact ⟨u, r, by simpa using e.symm, rfl, e1⟩
    | succ i => exact ih (by simpa using e)
theorem Rw.take (h : Rw H vs rs) (n : Nat) : Rw H (vs.take n) (rs.take n) := by
  induction h generalizing n with
  | nil => cases n <;> exact .nil
  | cons e _ ih => cases n with
    | zero => exact .nil
    | succ n => exact .cons e (ih n)
end
end U

namespace U
open PySem L2 PySem.Spec PyProof.Rows
theorem pg_lstK {X : Cx} {K : PySem.W.Frag} {es : List Expr} {k n : Nat} {t : TGs} {pos : Pos} (hK : X.K = K) (hc : X.calm = true) (h : PGs X es t)
    (hn : (assignEach es X.env).length = n := by rfl) (hst : (assignEach es X.env).findIdx? (·.1) = none := by rfl) : PG X (.Tuple es k pos) (gLst K n t) := hK ▸ pg_lst hc h hn hst
theorem s_glu {K : PySem.W.Frag} {σ : L2.St} {H : Hp} {p : Addr} {xs : List V} {R : L2.St → Hp → Prop} {t : TGs} {k : Nat} (h : H p = some (.lst xs)) (hl : xs.length = k) (q : t xs σ H R) : gLst K k t (.ref p) σ H R := ⟨p, xs, rfl, SqL.of h, hl, q⟩
theorem at_head {xs : List V} {v : V} : atI (xs ++ [v]) 0 = some (xs.head?.getD v) := by
  cases xs with
  | nil => rfl
  | cons x r =>
    unfold atI ixN
    rw [if_pos (by decide), if_pos (by simp; omega)]
    rfl
/-! texts by their signs -/
def S (cs : List Nat) : Str := ⟨cs.toArray⟩
theorem S_of (z : Str) : S z.cps.toList = z := by
  unfold S; simp
theorem S_len (cs : List Nat) : (S cs).length = cs.length := by simp [S, Str.length]
theorem S_app (a b : List Nat) : S a ++ S b = S (a ++ b) := Str.ext' (by simp [S, Str.cps_append])
theorem S_inj {a b : List Nat} (h : S a = S b) : a = b := by
  have := congrArg (fun z : Str => z.cps.toList) h
  simpa [S] using this
theorem S_cps (cs : List Nat) : (S cs).cps.toList = cs := by simp [S]
theorem S_cut (cs : List Nat) (lo hi : Option Int) : cutS (S cs) lo hi = S ((cs.drop (HT.sIx cs.length 0 lo)).take (HT.sIx cs.length cs.length hi - HT.sIx cs.length 0 lo)) := by
  unfold cutS
  rw [S_cps, S_len]
  rfl
theorem S_pre (cs : List Nat) {n : Int} (h0 : 0 ≤ n) : cutS (S cs) none (some n) = S (cs.take n.toNat) := by
  rw [S_cut]
  congr 1
  obtain ⟨k, rfl⟩ := Int.eq_ofNat_of_zero_le h0
  rw [HT.sIx_none, HT.sIx_nat, List.drop_zero]
  simp
theorem S_mid (cs : List Nat) {n m : Int} (h0 : 0 ≤ n) (h1 : 0 ≤ m) : cutS (S cs) (some n) (some m) = S ((cs.drop n.toNat).take (m.toNat - n.toNat)) := by
  rw [S_cut]
  congr 1
  obtain ⟨k, rfl⟩ := Int.eq_ofNat_of_zero_le h0
  obtain ⟨l, rfl⟩ := Int.eq_ofNat_of_zero_le h1
  rw [HT.sIx_nat, HT.sIx_nat]
  simp only [Int.toNat_natCast]
  apply List.ext_getElem?
  intro i
  simp only [List.getElem?_take, List.getElem?_drop]
  by_cases c : k + i < cs.length
  · have e1 : min k cs.length = k := by omega
    rw [e1]
    by_cases d : i < l - k
    · rw [if_pos (by omega), if_pos d]
    · rw [if_neg (by omega), if_neg d]
  · have e2 : cs[k + i]? = none := List.getElem?_eq_none (by omega)
    have e3 : cs[min k cs.length + i]? = none := List.getElem?_eq_none (by omega)
    rw [e2, e3]
    split <;> split <;> rfl
theorem S_join (cs : List Nat) : Txt.join (Str.ofString "") (cs.map fun c => ⟨#[c]⟩) = S cs := join_ones cs
theorem SS.S {cs : List Nat} {n : Nat} (h : cs.length ≤ n) (g : ∀ c ∈ cs, c < 1114112) : SS (S cs) n := ⟨by rw [S_len]; exact h, by rw [S_cps]; exact g⟩
theorem range_snoc {α : Type} (f : Nat → α) (i : Nat) : (List.range (i + 1)).map f = (List.range i).map f ++ [f i] := by
  rw [List.range_succ, List.map_append]
  rfl
theorem range_nodup {f : Nat → Str} {n : Nat} (h : ∀ i j, i < n → j < n → f i = f j → i = j) : ((List.range n).map f).Nodup := by
  rw [List.nodup_iff_pairwise_ne, List.pairwise_map]
  refine List.Pairwise.imp_of_mem ?_ (List.nodup_iff_pairwise_ne.mp List.nodup_range)
  intro a b ha hb hne e
  exact hne (h a b (List.mem_range.mp ha) (List.mem_range.mp hb) e)
section
variable {H : Hp} {ps : List Addr} {l : Addr} {vs : List V} {rs : List (List V)}
theorem hid_le : Kp [] (hid ps H) H := ⟨fun b o e _ => (hid_some e).1, fun b i ⟨o, e, r⟩ => ⟨o, (hid_some e).1, r⟩, fun b xs e => (hid_some e).1⟩
theorem hid_tup {b : Addr} {xs : List V} (e : H b = some (.tup xs)) (t : Th H l 0) : hid [l] H b = some (.tup xs) := hid_of e (by simpa using (Th.tup e).nk t rfl)
theorem Rw.hid (h : Rw H vs rs) (t : Th H l 0) : Rw (U.hid [l] H) vs rs := by
  induction h with
  | nil => exact .nil
  | cons e _ ih => exact .cons (hid_tup e t) ih
theorem cut_sub {lo hi : Option Int} {v : V} (h : v ∈ cutV vs lo hi) : v ∈ vs := List.mem_of_mem_drop (List.mem_of_mem_take h)
end
end U

namespace U
open PySem L2 PySem.Spec PyProof.Rows
/-! list(range(a, b)) -/
section
variable {X : Cx} {K : PySem.W.Frag} {H : Hp} {Q : VK} {p : Addr} {i j : Int}
def rngV (i : Int) (n : Nat) : List V := (List.range n).map fun k => V.int (i + (k : Nat))
def uRange : List V → Hp → VK → Prop := fun vs H Q => ∃ i j, vs = [V.int i, V.int j] ∧ ∀ p, H p = none → Q (.ref p) (upd H p (.rng i j))
theorem c_range2 : CallR X (.type "range") uRange := cr_range2
def uListR : List V → Hp → VK → Prop := fun xs H Q => ∃ p i j, xs = [.ref p] ∧ H p = some (.rng i j) ∧ -(2 ^ 30) ≤ i ∧ i < 2 ^ 30 ∧ -(2 ^ 30) ≤ j ∧ j < 2 ^ 30 ∧ (j - i).toNat ≤ 2 ^ 20 ∧ ∀ l, H l = none → Q (.ref l) (upd H l (.lst (rngV i (j - i).toNat)))
theorem c_listR (hc : X.calm = true) : CallR X (.type "list") uListR := by
  intro pins s σ H xs us Q I r h
  obtain ⟨p, i, j, rfl, hp, i0, i1, j0, j1, hn, q⟩ := h
  obtain ⟨u, eu, rx⟩ := vals1 r
  subst eu
  obtain rfl : u = Value.ref p := rx
  obtain ⟨t, u, v, e⟩ := (show ObjOk X.prog X.w H s.heap p (.rng i j) from I.hok p _ hp)
  have hsm : Builtin.Range.small i j 1 = true := small_one (by omega) (by omega) (by omega) (by omega)
  have hsz : Builtin.Range.rangeSize i j 1 = (j - i).toNat := by
    unfold Builtin.Range.rangeSize
    simp
    split <;> omega
  refine call_list_range (I.ok.hd hc) e hsm hsz (Nat.le_trans hn (by decide)) fun h' tk acc' c' hk hS hacc => ?_
  refine ⟨.ref s.heap.objs.size, upd H s.heap.objs.size (.lst (rngV i (j - i).toNat)), I.laid hk (Nat.le_refl _) (show ObjOk X.prog X.w _ _ _ (.lst (rngV i (j - i).toNat)) from ⟨?_, acc'.toList, c', ?_, ?_⟩), rfl, q _ (I.hok.fresh (Nat.le_refl _))⟩
  · rw [rngV, List.length_map, List.length_range]
    exact Nat.le_trans hn (by decide)
  · refine vals_of_at (by rw [rngV, List.length_map, List.length_range, Array.length_toList, hacc.1]) fun m x w h1 h2 => ?_
    obtain ⟨tk', ew⟩ := hacc.2 m w (by rw [← Array.getElem?_toList]; exact h2)
    rw [rngV, List.getElem?_map] at h1
    obtain ⟨m', e1, rfl⟩ := Option.map_eq_some_iff.mp h1
    have : m' = m := by
      have hm := (List.getElem?_eq_some_iff.mp e1)
      obtain ⟨h3, h4⟩ := hm
      rw [List.getElem_range] at h4
      exact h4.symm
    subst this
    refine ⟨tk', ?_⟩
    rw [ew]
    congr 1
    omega
  · simpa using hS
theorem s_rngN (q : ∀ p H', H p = none → H' p = some (.rng i j) → Kp [] H H' → Q (.ref p) H') : uRange [.int i, .int j] H Q := ⟨i, j, rfl, new_abs (R := fun p H' => Q (.ref p) H') q⟩
theorem s_listR (h : H p = some (.rng i j)) (b : -(2 ^ 30) ≤ i ∧ i < 2 ^ 30 ∧ -(2 ^ 30) ≤ j ∧ j < 2 ^ 30 ∧ (j - i).toNat ≤ 2 ^ 20) (q : ∀ l H', H l = none → H' l = some (.lst (rngV i (j - i).toNat)) → Kp [] H H' → Q (.ref l) H') : uListR [.ref p] H Q :=
  ⟨p, i, j, rfl, h, b.1, b.2.1, b.2.2.1, b.2.2.2.1, b.2.2.2.2, new_abs (R := fun p H' => Q (.ref p) H') q⟩
end
end U

namespace U
open PySem L2 PySem.Spec PyProof.Rows
/-! C(e, ..), the last one left out (its default is None) -/
section
variable {X : Cx} {k : Nat} {f C : Addr} {fd : FuncData} {ps : List Str} {sp : Sp} {W : WX} {x : Str} {p pos : Pos} {e : Expr} {es : List Expr} {t : TA}
variable {pi : List (Addr × Obj)} {σ : L2.St} {H : Hp} {s : Shared} {Q : VK} {us : List Value} {vs : List V}
def tNwD (C : Addr) (sp : Sp) (W : WX) (t : TA) : TE := fun σ H Q => t σ H fun vs H1 => NewK C sp (fun cls d H' => W cls d σ H') Q (vs ++ [.non]) H1
theorem run_nwD (M : Mk X.K C f) (F : FnOk X.prog X.w X.K X.mg X.base (L2.CX X.prog X.w) k f fd ps sp) (hr : Room (k + 1) X.A) (hb : Binds X.K fd ps [.none]) (tk : Takes X W) (I : Inv X pi σ H s) (r : Vals vs us)
    (h : NewK C sp (fun cls d H' => W cls d σ H') Q (vs ++ [.non]) H) : wpAny (model X.prog X.w) X.A (call (.ref C) us) (EP X pi σ Q) X.xe s := by
  have n1 : H (s.heap.objs.size + 1) = none := I.hok.fresh (Nat.le_succ _)
  have n0 : H s.heap.objs.size = none := I.hok.fresh (Nat.le_refl _)
  have hq := h (s.heap.objs.size + 1) s.heap.objs.size _ n1 upd_same ((Kp.refl.new (u := .own (s.heap.objs.size + 1)) n0).new (by rw [upd_ne (Nat.succ_ne_self _)]; exact n1))
  have I2 := Inv.made (C := C) I
  have r2 : Vals (V.ref (s.heap.objs.size + 1) :: (vs ++ [.non])) (Value.ref (s.heap.objs.size + 1) :: us ++ [.none]) := .cons rfl (r.append (.cons rfl .nil))
  have b : BindsTo _ fd ⟨Value.ref (s.heap.objs.size + 1) :: us, []⟩ (ps.zip (Value.ref (s.heap.objs.size + 1) :: us ++ [.none])) := hb _ (Value.ref (s.heap.objs.size + 1) :: us) I2.kIn (by rw [← r2.length]; exact F.len _ _ _ _ hq)
  refine wpAny_call (make_map (f := f) I.kIn M.makes M.init (beq_iff_eq.mp M.fn) (codeAny_mono (F.run _ X.stack _ _ ⟨Value.ref (s.heap.objs.size + 1) :: us, []⟩ (Value.ref (s.heap.objs.size + 1) :: us ++ [.none]) _ _ _ (hr.make C us [])
    (I2.env0.make C us []) b r2 hq) fun rr s' z => ?_))
  match rr, z with
  | .error er, z => exact tk er s' (XE.of_call I2 (fun _ _ _ y => y) z)
  | .ok (.ret u), z =>
    obtain ⟨v, H', I3, rv, ev, q3⟩ := I2.after z
    subst ev
    exact ⟨rv, ⟨V.ref (s.heap.objs.size + 1), H', I3, rfl, q3⟩⟩
  | .ok .next, z => exact z.elim
  | .ok .brk, z => exact z.elim
  | .ok .cont, z => exact z.elim
theorem pe_nwD (M : Mk X.K C f) (F : FnOk X.prog X.w X.K X.mg X.base (L2.CX X.prog X.w) k f fd ps sp) (hr : Room (k + 1) X.A) (gl : Gl X x) (hm : X.mg x = some (.ref C)) (hb : Binds X.K fd ps [.none]) (tk : Takes X W)
    (ha : PA X (e :: es) t) (h1 : (x == ("__debug__" : Str)) = false := by decide) (h2 : starEach (e :: es) X.env = (false, eval e X.env) :: starEach es X.env := by rfl) (h3 : (backTo pos (starEach es X.env)).any (·.1) = false := by rfl) :
    PE X (.Call (.Name x p) (e :: es) [] pos) (tNwD C sp W t) := by
  refine ⟨fun pi s σ H Q I h => wpAny_Call_Name_kw (ld_glob I gl hm ?_ h1)⟩
  refine PySem.W.callWith_K (h₀ := X.base) I.ok.mod.kin M.kp (thn (ha.run pos pi s σ H _ I h) ?_) h2 h3
  rintro us s1 ⟨vs, H1, I1, r, q⟩
  exact ⟨I1.kIn, run_nwD M F hr hb tk I1 r q⟩
theorem s_nwD {C : Addr} {sp : Sp} {W : WX} {t : TA} {σ : L2.St} {H : Hp} {Q : VK} (h : t σ H fun vs H1 => NewK C sp (fun cls d H' => W cls d σ H') Q (vs ++ [.non]) H1) : tNwD C sp W t σ H Q := h
end
theorem s_clear {H : Hp} {Q : VK} {p : Addr} {xs : List V} (h : H p = some (.lst xs)) (q : ∀ H', H' p = some (.lst []) → Kp [p] H H' → Q .non H') : rClear (.ref p) [] H Q := ⟨p, xs, rfl, rfl, h, put_abs h rfl (R := fun H' => Q .non H') q⟩
end U

namespace U
open PySem L2 PySem.Spec PyProof.Rows
/-! things that are data, by the places of their lists and dicts -/
section
variable {K : PySem.W.Frag} {H H1 H2 : Hp} {F G ps qs : List Addr} {a b p : Addr} {v y : V} {d e : PyData} {xs ys : List V} {ds : List PyData} {kvs : List (Key × V)}
def isTu : HO → Bool | .tup _ => true | _ => false
/-- the tuples, and what stands at F -/
def vis (F : List Addr) (H : Hp) : Hp := fun a => match H a with | none => none | some o => if isTu o = true ∨ a ∈ F then some o else none
theorem vis_some {o : HO} (h : vis F H a = some o) : H a = some o ∧ (isTu o = true ∨ a ∈ F) := by
  unfold vis at h
  cases e : H a with
  | none => rw [e] at h; cases h
  | some o' =>
    rw [e] at h
    simp only at h
    split at h
    · cases h; rename_i c; exact ⟨rfl, c⟩
    · cases h
theorem vis_of {o : HO} (h : H a = some o) (c : isTu o = true ∨ a ∈ F) : vis F H a = some o := by
  unfold vis
  rw [h]
  simp only
  rw [if_pos c]
theorem vis_tup (h : H a = some (.tup xs)) : vis F H a = some (.tup xs) := vis_of h (Or.inl rfl)
theorem ko_tu {o u : HO} (h : ko o = ko u) (c : isTu o = true) : isTu u = true := by
  cases o <;> simp [isTu] at c
  cases u <;> simp [ko, isTu] at h ⊢
theorem vis_kp (k : Kp ps H H1) (n : ∀ a ∈ ps, a ∉ F) : Kp [] (vis F H) (vis F H1) := ⟨fun b o e _ => by
  obtain ⟨e1, c⟩ := vis_some e
  rcases c with c | c
  · cases o <;> simp [isTu] at c
    exact vis_tup (k.tp b _ e1)
  · exact vis_of (k.get e1 fun m => n b m c) (Or.inr c), fun b i e => by
  obtain ⟨o, e, r⟩ := e
  obtain ⟨e1, c⟩ := vis_some e
  obtain ⟨o', e', r'⟩ := k.kd b i ⟨o, e1, r⟩
  exact ⟨o', vis_of e' (c.imp (fun z => ko_tu (r.trans r'.symm) z) id), r'⟩, fun b xs e => vis_tup (k.tp b xs (vis_some e).1)⟩
theorem vis_le : Kp [] (vis F H) H := ⟨fun b o e _ => (vis_some e).1, fun b i ⟨o, e, r⟩ => ⟨o, (vis_some e).1, r⟩, fun b xs e => (vis_some e).1⟩
theorem vis_mono (h : ∀ a ∈ F, a ∈ G) : Kp [] (vis F H) (vis G H) := ⟨fun b o e _ => by
  obtain ⟨e1, c⟩ := vis_some e
  exact vis_of e1 (c.imp id (h b)), fun b i ⟨o, e, r⟩ => by
  obtain ⟨e1, c⟩ := vis_some e
  exact ⟨o, vis_of e1 (c.imp id (h b)), r⟩, fun b xs e => vis_tup (vis_some e).1⟩
/-- a thing, its lists and dicts at F -/
inductive Od (K : PySem.W.Frag) (H : Hp) : V → PyData → List Addr → Prop
  | flat {v : V} {d : PyData} {F : List Addr} {kd : Kd} : Dn K (vis F H) v d → TyN H v kd → kd.isList = false → kd.isDict = false → Od K H v d F
  | lst {a : Addr} {xs : List V} {ds : List PyData} {F : List Addr} : H a = some (.lst xs) → a ∉ F → DnA K (vis F H) xs ds → Od K H (.ref a) (.list ds) (a :: F)
  | dic {a : Addr} {kvs : List (Key × V)} {ds : List PyData} {F : List Addr} : H a = some (.dK kvs) → a ∉ F → DnA K (vis F H) (kvs.map (·.2)) ds → Od K H (.ref a) (.dict ((kvs.map fun p => keyD p.1).zip ds)) (a :: F)
theorem TyN.kpt {kd : Kd} (h : TyN H v kd) (h1 : kd.isList = false) (h2 : kd.isDict = false) (k : Kp ps H H1) : TyN H1 v kd := by
  cases h with
  | non => exact .non
  | bl => exact .bl
  | int => exact .int
  | str => exact .str
  | lst e => cases h1
  | tup e => exact .tup (k.tp _ _ e)
  | dic e => cases h2
theorem Od.kpn (h : Od K H v d F) (k : Kp ps H H1) (n : ∀ a ∈ ps, a ∉ F) : Od K H1 v d F := by
  cases h with
  | flat a b c e => exact .flat (a.kp (vis_kp k n)) (b.kpt c e k) c e
  | lst a b c => exact .lst (k.get a fun m => n _ m List.mem_cons_self) b (c.kp (vis_kp k fun x m z => n x m (List.mem_cons_of_mem _ z)))
  | dic a b c => exact .dic (k.get a fun m => n _ m List.mem_cons_self) b (c.kp (vis_kp k fun x m z => n x m (List.mem_cons_of_mem _ z)))
theorem Od.kp (h : Od K H v d F) (k : Kp [] H H1) : Od K H1 v d F := h.kpn k (by simp)
theorem Od.dnv (h : Od K H v d F) : Dn K (vis F H) v d := by
  cases h with
  | flat a b c e => exact a
  | lst a b c => exact .lst (Or.inl (vis_of a (Or.inr List.mem_cons_self))) (c.kp (vis_mono fun x m => List.mem_cons_of_mem _ m))
  | dic a b c => exact .dic (Or.inl (vis_of a (Or.inr List.mem_cons_self))) (c.kp (vis_mono fun x m => List.mem_cons_of_mem _ m))
theorem Od.dn (h : Od K H v d F) : Dn K H v d := h.dnv.kp vis_le
theorem Od.ty (h : Od K H v d F) : ∃ kd, TyN H v kd := by
  cases h with
  | flat a b c e => exact ⟨_, b⟩
  | lst a b c => exact ⟨_, .lst a⟩
  | dic a b c => exact ⟨_, .dic a⟩
theorem Od.int {i : Int} : Od K H (.int i) (.int i) [] := .flat (.int _) .int rfl rfl
theorem Od.non : Od K H .non .none [] := .flat .non .non rfl rfl
theorem Od.bl {i : Bool} : Od K H (.bl i) (.bool i) [] := .flat (.bl _) .bl rfl rfl
theorem Od.str {i : Str} : Od K H (.str i) (.str i) [] := .flat (.str _) .str rfl rfl
theorem Od.tup (h : H a = some (.tup xs)) (g : DnA K (vis F H) xs ds) : Od K H (.ref a) (.tuple ds) F := .flat (.tup (SqT.of (vis_tup h)) g) (.tup h) rfl rfl
theorem DnA.app : ∀ {xs ys : List V} {ds es : List PyData}, DnA K H xs ds → DnA K H ys es → DnA K H (xs ++ ys) (ds ++ es)
  | _, _, _, _, .nil, h => h
  | _, _, _, _, .cons a b, h => .cons a (DnA.app b h)
theorem Od.more {dy : PyData} (e : H1 a = some (.lst (xs ++ [y]))) (n : a ∉ F) (c : DnA K (vis F H) xs ds) (k : Kp [a] H H1) (hy : ∀ H, Dn K H y dy) : Od K H1 (.ref a) (.list (ds ++ [dy])) (a :: F) :=
  .lst e n ((c.kp (vis_kp k (by simpa using n))).app (.cons (hy _) .nil))
/-- what repr may show -/
structure Bd (d : PyData) (n : Nat) : Prop where
  good : U.good d
  depth : d.depth ≤ 90
  sz : U.sz d ≤ n
theorem Bd.mono {n m : Nat} (h : Bd d n) (e : n ≤ m) : Bd d m := ⟨h.good, h.depth, Nat.le_trans h.sz e⟩
theorem Bd.sh {n : Nat} (h : Bd d n) (g : Dn K H v d) (e : n ≤ 16000000) : Sh K H v d := ⟨g, h.good, Nat.le_trans h.depth (by decide), Nat.le_trans h.sz e⟩
theorem good_app : ∀ {ds es : List PyData}, goodA ds → goodA es → goodA (ds ++ es)
  | [], _, _, h => h
  | _ :: _, _, ⟨a, b⟩, h => ⟨a, good_app b h⟩
theorem depth_app : ∀ (ds es : List PyData), PyData.depthAll (ds ++ es) = max (PyData.depthAll ds) (PyData.depthAll es)
  | [], es => by simp [PyData.depthAll]
  | d :: ds, es => by
    rw [List.cons_append, PyData.depthAll, PyData.depthAll, depth_app ds es]
    omega
theorem sz_app : ∀ (ds es : List PyData), szA (ds ++ es) = szA ds + szA es
  | [], es => by simp [szA]
  | d :: ds, es => by
    rw [List.cons_append, szA, szA, sz_app ds es]
    omega
theorem Bd.more {n m : Nat} (h : Bd (.list ds) n) (g : Bd e m) (z : e.depth ≤ 80) : Bd (.list (ds ++ [e])) (n + m + 2) := by
  obtain ⟨h1, h2, h3⟩ := h
  obtain ⟨g1, g2, g3⟩ := g
  refine ⟨good_app h1 ⟨g1, trivial⟩, ?_, ?_⟩
  · simp only [PyData.depth, depth_app, PyData.depthAll] at h2 ⊢
    omega
  · simp only [U.sz, sz_app, szA] at h3 ⊢
    omega
theorem Bd.int {i : Int} (h : i.natAbs < 10 ^ 100) : Bd (.int i) 102 := ⟨h, by simp [PyData.depth], by simp [U.sz]⟩
theorem Bd.non : Bd .none 4 := ⟨trivial, by simp [PyData.depth], by simp [U.sz]⟩
theorem Bd.bl {i : Bool} : Bd (.bool i) 5 := ⟨trivial, by simp [PyData.depth], by simp [U.sz]⟩
theorem Bd.str {z : Str} {n : Nat} (h : SS z n) : Bd (.str z) (10 * n + 2) := ⟨fun c hc => Nat.lt_trans (h.ok c hc) (by decide), by simp [PyData.depth], by have := h.len; simp only [U.sz]; omega⟩
end
end U

namespace U
open PySem L2 PySem.Spec PyProof.Rows
/-! range(n) as a value; whole numbers in lists -/
section
variable {X : Cx} {K : PySem.W.Frag} {H : Hp} {Q : VK} {p : Addr} {i j : Int} {ns : List Int}
def uRange1 : List V → Hp → VK → Prop := fun vs H Q => ∃ j, vs = [V.int j] ∧ ∀ p, H p = none → Q (.ref p) (upd H p (.rng 0 j))
theorem c_range1 : CallR X (.type "range") uRange1 := by
  intro pins s σ H vs us Q I r h
  obtain ⟨j, rfl, q⟩ := h
  obtain ⟨u1, rfl, rj⟩ := vals1 r
  obtain ⟨u, rfl⟩ := rj
  refine call_range_1 ⟨.ref s.heap.objs.size, upd H s.heap.objs.size (.rng 0 j), I.laid (t' := s.toks + 1 + 1) (fun b o e => Heap.get?_push_of_some _ e) (Nat.le_refl _) ?_, rfl, q _ (I.hok.fresh (Nat.le_refl _))⟩
  exact ⟨s.toks, u, s.toks + 1, Heap.get?_push_size _ rfl⟩
theorem s_rngN1 (q : ∀ p H', H p = none → H' p = some (.rng 0 j) → Kp [] H H' → Q (.ref p) H') : uRange1 [.int j] H Q := ⟨j, rfl, new_abs (R := fun p H' => Q (.ref p) H') q⟩
theorem flat_ints (ns : List Int) : (ns.map V.int).all flatV = true := by
  rw [List.all_eq_true]
  intro x hx
  obtain ⟨y, _, rfl⟩ := List.mem_map.mp hx
  rfl
theorem eqV_int {a b : Int} : eqV (.int a) (.int b) = decide (a = b) := by
  first
    | (show decide (V.int a = V.int b) = _; exact U.dec_int)
    | rfl
    | simp [eqV]
theorem inV_ints : inV (.int i) (ns.map V.int) = decide (i ∈ ns) := by
  induction ns with
  | nil => rfl
  | cons y zs ih =>
    unfold inV at ih ⊢
    rw [List.map_cons, List.any_cons, ih, eqV_int]
    by_cases h : y = i
    · subst h; simp
    · simp [h, Ne.symm h]
theorem s_inI (h : SqL K H p (ns.map V.int)) (q : Q (.bl (decide (i ∈ ns))) H) : uIn K false (.int i) (.ref p) H Q := Or.inr ⟨p, _, rfl, Or.inl h, rfl, flat_ints ns, by rw [inV_ints]; exact q⟩
theorem s_ninI (h : SqL K H p (ns.map V.int)) (q : Q (.bl (!decide (i ∈ ns))) H) : uIn K true (.int i) (.ref p) H Q := Or.inr ⟨p, _, rfl, Or.inl h, rfl, flat_ints ns, by rw [inV_ints]; exact q⟩
end
/-! a thing to which more may be added: an item to a list, an entry of one key to a dict -/
section
variable {K : PySem.W.Frag} {H H1 : Hp} {F ps : List Addr} {a : Addr} {kvs c : List (Key × V)} {ds es : List PyData} {key : Str} {v y : V} {d dv dy : PyData} {xs : List V} {n m : Nat}
def noKey (key : Str) (c : List (Key × V)) : Prop := (c.any fun kv => decide (kv.1 = (Sum.inr key : Key))) = false
theorem put_new (h : noKey key c) : putK c (Sum.inr key : Key) v = c ++ [(Sum.inr key, v)] := by
  unfold putK
  rw [if_neg (by rw [h]; exact Bool.false_ne_true)]
theorem put_old {w : V} (h : noKey key c) : putK (c ++ [((Sum.inr key : Key), w)]) (Sum.inr key : Key) v = c ++ [(Sum.inr key, v)] := by
  unfold putK
  rw [if_pos (by simp), List.map_append]
  congr 1
  · unfold noKey at h
    rw [List.any_eq_false] at h
    calc c.map _ = c.map id := List.map_congr_left fun kv hk => by
          have := h kv hk
          simp only [decide_eq_true_eq] at this
          rw [if_neg this]; rfl
      _ = c := List.map_id c
  · simp
inductive Ot (K : PySem.W.Frag) (H : Hp) (key : Str) : V → PyData → List Addr → Prop
  | od {v : V} {d : PyData} {F : List Addr} : Od K H v d F → (∀ a kvs, v = .ref a → H a = some (.dK kvs) → noKey key kvs) → Ot K H key v d F
  | put {a : Addr} {c : List (Key × V)} {ds : List PyData} {F : List Addr} {v : V} {dv : PyData} : H a = some (.dK (c ++ [(Sum.inr key, v)])) → noKey key c → a ∉ F → DnA K (vis F H) (c.map (·.2)) ds → (∀ H, Dn K H v dv) →
      Ot K H key (.ref a) (.dict (((c ++ [((Sum.inr key : Key), v)]).map fun p => keyD p.1).zip (ds ++ [dv]))) (a :: F)
theorem Ot.kpn (h : Ot K H key v d F) (k : Kp ps H H1) (n : ∀ a ∈ ps, a ∉ F) : Ot K H1 key v d F := by
  cases h with
  | od a b =>
    refine .od (a.kpn k n) fun x kvs e h1 => ?_
    subst e
    cases a with
    | flat z1 z2 z3 z4 =>
      cases z2 with
      | lst e => cases z3
      | dic e => cases z4
      | tup e => rw [k.tp _ _ e] at h1; cases h1
    | lst z1 z2 z3 => rw [k.get z1 fun m => n _ m List.mem_cons_self] at h1; cases h1
    | dic z1 z2 z3 =>
      rw [k.get z1 fun m => n _ m List.mem_cons_self] at h1
      cases h1
      exact b _ _ rfl z1
  | put a b c e f => exact .put (k.get a fun m => n _ m List.mem_cons_self) b c (e.kp (vis_kp k fun x m z => n x m (List.mem_cons_of_mem _ z))) f
theorem Ot.kp (h : Ot K H key v d F) (k : Kp [] H H1) : Ot K H1 key v d F := h.kpn k (by simp)
theorem Ot.dn (h : Ot K H key v d F) : Dn K H v d := by
  cases h with
  | od a b => exact a.dn
  | put a b c e f =>
    refine .dic (Or.inl a) ?_
    rw [List.map_append]
    exact (e.kp vis_le).app (.cons (f _) .nil)
theorem Ot.ty (h : Ot K H key v d F) : ∃ kd, TyN H v kd := by
  cases h with
  | od a b => exact a.ty
  | put a b c e f => exact ⟨_, .dic a⟩
theorem dna_len : ∀ {vs : List V} {ds : List PyData}, DnA K H vs ds → vs.length = ds.length
  | _, _, .nil => rfl
  | _, _, .cons _ b => by rw [List.length_cons, List.length_cons, dna_len b]
theorem sz_len : ∀ ds : List PyData, 2 * ds.length ≤ szA ds
  | [] => by simp [szA]
  | d :: ds => by
    have := sz_len ds
    rw [szA, List.length_cons]
    omega
theorem szK_len : ∀ ds : List (PyData × PyData), 4 * ds.length ≤ szK ds
  | [] => by simp [szK]
  | (k, d) :: ds => by
    have := szK_len ds
    rw [szK, List.length_cons]
    omega
theorem goodK_app : ∀ {ds es : List (PyData × PyData)}, goodK (ds ++ es) ↔ goodK ds ∧ goodK es
  | [], es => by simp [goodK]
  | (k, d) :: ds, es => by
    rw [List.cons_append, goodK, goodK, goodK_app (ds := ds) (es := es)]
    simp only [and_assoc]
theorem depthK_app : ∀ (ds es : List (PyData × PyData)), PyData.depthKv (ds ++ es) = max (PyData.depthKv ds) (PyData.depthKv es)
  | [], es => by simp [PyData.depthKv]
  | (k, d) :: ds, es => by
    rw [List.cons_append, PyData.depthKv, PyData.depthKv, depthK_app ds es]
    omega
theorem szK_app : ∀ (ds es : List (PyData × PyData)), szK (ds ++ es) = szK ds + szK es
  | [], es => by simp [szK]
  | (k, d) :: ds, es => by
    rw [List.cons_append, szK, szK, szK_app ds es]
    omega
theorem zip_snoc (hl : DnA K H (c.map (·.2)) ds) : ((c ++ [((Sum.inr key : Key), v)]).map fun p => keyD p.1).zip (ds ++ [dv]) = ((c.map fun p => keyD p.1).zip ds) ++ [(.str key, dv)] := by
  have e : ds.length = c.length := by
    have := dna_len hl
    rw [List.length_map] at this
    exact this.symm
  rw [List.map_append, List.zip_append (by rw [List.length_map, e])]
  rfl
theorem Bd.putK {l : List (PyData × PyData)} (h : Bd (.dict l) n) (g : Bd dy m) (z : dy.depth ≤ 80) (s : SS key 20) : Bd (.dict (l ++ [(.str key, dy)])) (n + m + 300) := by
  obtain ⟨h1, h2, h3⟩ := h
  obtain ⟨g1, g2, g3⟩ := g
  refine ⟨goodK_app.mpr ⟨h1, fun c hc => Nat.lt_trans (s.ok c hc) (by decide), g1, trivial⟩, ?_, ?_⟩
  · simp only [PyData.depth, depthK_app, PyData.depthKv] at h2 ⊢
    omega
  · have := s.len
    simp only [U.sz, szK_app, szK] at h3 ⊢
    omega
theorem Bd.dropK {l : List (PyData × PyData)} {x : PyData × PyData} (h : Bd (.dict (l ++ [x])) n) : Bd (.dict l) n := by
  obtain ⟨h1, h2, h3⟩ := h
  obtain ⟨x1, x2⟩ := x
  refine ⟨(goodK_app.mp h1).1, ?_, ?_⟩
  · simp only [PyData.depth, depthK_app, PyData.depthKv] at h2 ⊢
    omega
  · simp only [U.sz, szK_app, szK] at h3 ⊢
    omega
theorem Ot.cs (h : Ot K H key v d F) (s : SS key 20) : (∃ kd, TyN H v kd ∧ kd.isList = false ∧ kd.isDict = false) ∨
    (∃ a xs, v = .ref a ∧ a ∈ F ∧ H a = some (.lst xs) ∧ (∀ n, Bd d n → xs.length ≤ n) ∧ ∀ y dy H1, (∀ H, Dn K H y dy) → H1 a = some (.lst (xs ++ [y])) → Kp [a] H H1 → ∃ d', Ot K H1 key v d' F ∧ ∀ n m, Bd d n → Bd dy m → dy.depth ≤ 80 → Bd d' (n + m + 300)) ∨
    (∃ a kvs, v = .ref a ∧ a ∈ F ∧ H a = some (.dK kvs) ∧ (∀ n, Bd d n → kvs.length ≤ n) ∧ ∀ y dy H1, (∀ H, Dn K H y dy) → H1 a = some (.dK (L2.putK kvs (Sum.inr key : Key) y)) → Kp [a] H H1 → ∃ d', Ot K H1 key v d' F ∧ ∀ n m, Bd d n → Bd dy m → dy.depth ≤ 80 → Bd d' (n + m + 300)) := by
  cases h with
  | od a b =>
    cases a with
    | flat z1 z2 z3 z4 => exact Or.inl ⟨_, z2, z3, z4⟩
    | @lst a xs ds F z1 z2 z3 =>
      refine Or.inr (Or.inl ⟨a, xs, rfl, List.mem_cons_self, z1, fun n g => ?_, fun y dy H1 hy e k => ⟨_, .od (Od.more e z2 z3 k hy) (fun x kvs e1 e2 => ?_), fun n m g1 g2 g3 => (g1.more g2 g3).mono (by omega)⟩⟩)
      · have := sz_len ds
        have := g.sz
        simp only [U.sz] at this
        have := dna_len z3
        omega
      · cases e1
        rw [e] at e2
        cases e2
    | @dic a kvs ds F z1 z2 z3 =>
      refine Or.inr (Or.inr ⟨a, kvs, rfl, List.mem_cons_self, z1, fun n g => ?_, fun y dy H1 hy e k => ?_⟩)
      · have := szK_len ((kvs.map fun p => keyD p.1).zip ds)
        have := g.sz
        simp only [U.sz] at this
        have e := dna_len z3
        rw [List.length_map] at e
        have : ((kvs.map fun p => keyD p.1).zip ds).length = kvs.length := by rw [List.length_zip, List.length_map, ← e]; omega
        omega
      · have nk := b _ _ rfl z1
        rw [put_new nk] at e
        refine ⟨_, .put e nk z2 (z3.kp (vis_kp k (by simpa using z2))) hy, fun n m g1 g2 g3 => ?_⟩
        rw [zip_snoc z3]
        exact g1.putK g2 g3 s
  | @put a c ds F v dv z1 nk z2 z3 z4 =>
    refine Or.inr (Or.inr ⟨a, _, rfl, List.mem_cons_self, z1, fun n g => ?_, fun y dy H1 hy e k => ?_⟩)
    · rw [zip_snoc z3] at g
      have := szK_len ((c.map fun p => keyD p.1).zip ds ++ [(.str key, dv)])
      have := g.sz
      simp only [U.sz] at this
      have e := dna_len z3
      rw [List.length_map] at e
      have : ((c.map fun p => keyD p.1).zip ds).length = c.length := by rw [List.length_zip, List.length_map, ← e]; omega
      rw [List.length_append] at *
      simp only [List.length_cons, List.length_nil] at *
      omega
    · rw [put_old nk] at e
      refine ⟨_, .put e nk z2 (z3.kp (vis_kp k (by simpa using z2))) hy, fun n m g1 g2 g3 => ?_⟩
      rw [zip_snoc z3] at g1 ⊢
      exact g1.dropK.putK g2 g3 s
end
theorem s_slT {K : PySem.W.Frag} {H : Hp} {p : Addr} {xs ys : List V} {lo hi : Option Int} {Q : VK} (h : H p = some (.tup xs)) (ey : cutV xs lo hi = ys) (q : ∀ p' H', H' p' = some (.tup ys) → Kp [] H H' → Q (.ref p') H') : uSl K (.ref p) lo hi H Q := by
  subst ey
  refine Or.inr (Or.inr ⟨p, xs, rfl, SqT.of h, fun e => ?_, fun _ => new_abs (R := fun l H' => Q (.ref l) H') fun p' H' _ e k => q p' H' e k⟩)
  have : cutV xs lo hi = xs := by
    unfold cutV
    rw [e.1, e.2]
    simp
  exact q p H (by rw [this]; exact h) Kp.refl
theorem int_shw {K : PySem.W.Frag} {H : Hp} {i : Int} (h0 : 0 ≤ i) (h1 : i ≤ 1000000000) : Sh K H (.int i) (.int i) :=
  ⟨.int i, Nat.lt_of_le_of_lt (show i.natAbs ≤ 1000000000 by omega) (by decide +kernel), by simp [PyData.depth], by simp [sz]⟩
end U

namespace U
open PySem L2 PySem.Spec PyProof.Rows PySem.SeqAt
/-! a dict beside texts -/
theorem dict_eq_declines_str (l : Addr) (es : Array DictEntry) (n : Nat) (dd : Option Addr) (sl : Array (Option Value)) (b : Str) (u : Tok) :
    Meets (Builtin.«dict.__eq__» ⟨[.ref l, .str b u], []⟩) (fun _ R s => s.heap.get? l = some { cls := .type "dict", dict := dd, data := .dict es n, slots := sl } ∧ R (.ok (.ret .notImplemented)) s) :=
  .of_wp fun prog w A R s h => by obtain ⟨hp, g, d, tk, os⟩ := s; obtain ⟨hl, h⟩ := h; have f1 := F.sub_str_dict; wp_walk using wpAny_loadPart' hl; exact ⟨_, rfl, h⟩
theorem str_eq_declines_dict (b : Str) (u : Tok) (l : Addr) (c : Value) (es : Array DictEntry) (n : Nat) (dd : Option Addr) (sl : Array (Option Value)) :
    Meets (Builtin.«str.__eq__» ⟨[.str b u, .ref l], []⟩) (fun _ R s => s.heap.get? l = some { cls := c, dict := dd, data := .dict es n, slots := sl } ∧ R (.ok (.ret .notImplemented)) s) :=
  .of_wp fun prog w A R s h => by obtain ⟨hp, g, d, tk, os⟩ := s; obtain ⟨hl, h⟩ := h; wp_walk using wpAny_loadPart' hl, wpAny_load hl; exact ⟨_, rfl, h⟩
theorem eqAt_str_dict {A : Around} {s : Shared} {l : Addr} {o : Obj} {es : Array DictEntry} {n : Nat} (b : Str) (u : Tok) (ho : s.heap.get? l = some o) (hc : o.cls = .type "dict") (hd : o.data = .dict es n) (hu : A.units < cLine) : EqAt A s (.str b u) (.ref l) false := fun prog w E Q h => by
  obtain ⟨cls, dd, data, sl⟩ := o
  simp only at hc hd
  subst hc hd
  unfold eqBool
  refine wpAny_holding ?_
  refine wpAny_ite_split (fun hab => absurd (eq_of_beq hab) nofun) (fun _ => ?_)
  refine wpAny_bind (?_ : wpAny (model prog w) A (richCompare .Eq (.str b u) (.ref l)) _ E s)
  refine rc_eq_decline_or (k := false) (typeIs_str s b u) ⟨_, ho, rfl⟩ (by decide) F.sub_dict_str F.slot_str_eq F.slot_dict_eq_refl
    (fun _ hq => call_meets F.slot_str_eq (typeIs_str s b u) F.entry_str_eq (F.args_str_eq_2 _ _) (str_eq_declines_dict b u l (.type "dict") es n dd sl) ⟨ho, hq⟩)
    (fun _ hq => call_meets F.slot_dict_eq_refl ⟨_, ho, rfl⟩ F.entry_dict_eq (F.args_dict_eq_2 _ _) (dict_eq_declines_str l es n dd sl b u) ⟨ho, hq⟩)
    (fun _ hq => wpAny_of_eq (rfl : isSame (.str b u) (.ref l) = pure false) hq) (.inr hu) (wpAny_truthy_bool h)
/-! x in a list of texts, x any data -/
def rInX (K : PySem.W.Frag) (ng : Bool) : R2 := fun x y H Q => ∃ (p a : Addr) (zs : List Str) (kvs : List (Key × V)), x = .ref a ∧ H a = some (.dK kvs) ∧ y = .ref p ∧ SqL K H p (zs.map V.str) ∧ Q (.bl ng) H
def rInY (K : PySem.W.Frag) (ng : Bool) : R2 := fun x y H Q => ∃ d ds, Dp K H x d ∧ Dp K H y (.list ds) ∧ SeqAt.shaped d = true ∧ SeqAt.shaped (.list ds) = true ∧ Q (.bl (if ng then !ds.any fun z => PyData.eqv z d else ds.any fun z => PyData.eqv z d)) H
def uInX (K : PySem.W.Frag) (ng : Bool) : R2 := fun x y H Q => uIn K ng x y H Q ∨ rInX K ng x y H Q ∨ rInY K ng x y H Q
section
variable {X : Cx} {k : Nat} {K : PySem.W.Frag}
theorem strs_eqAt {A : Around} {s : Shared} {l : Addr} {o : Obj} {es : Array DictEntry} {n : Nat} (ho : s.heap.get? l = some o) (hc : o.cls = .type "dict") (hd : o.data = .dict es n) (hu : A.units < cLine) : ∀ {zs : List Str} {us : List Value}, Vals (zs.map V.str) us → ∀ u ∈ us, EqAt A s u (.ref l) false
  | [], _, .nil => fun u hu => by cases hu
  | z :: zs, _, .cons r t => fun u' hu' => by
    rcases List.mem_cons.mp hu' with rfl | hm
    · obtain ⟨tk, rfl⟩ := r
      exact eqAt_str_dict z tk ho hc hd hu
    · exact strs_eqAt ho hc hd hu t u' hm
theorem op_inX (hr : Room k X.A) : OpR X (compareOp .In) (rInX X.K false) := by
  intro pins s σ H x y v u Q I rx ry h
  obtain ⟨p, a, zs, kvs, rfl, ea, rfl, hq, q⟩ := h
  cases rx
  cases ry
  obtain ⟨z, hd, vs, rel, o, es, ep, h1, h2, h3, h4⟩ := dk_of I.hok ea
  obtain ⟨its, r, pl, hz⟩ := I.list hq
  refine SeqAt.in_listAt (fun _ => false) pl.isList (fun w hw => strs_eqAt h1 h2.1 h3 (hu_of hr) r w (by simpa using hw)) ⟨.bl _, H, I, rfl, ?_⟩
  rw [show its.toArray.any (fun _ => false) = false by simp]
  exact q
theorem op_notInX (hr : Room k X.A) : OpR X (compareOp .NotIn) (rInX X.K true) := by
  intro pins s σ H x y v u Q I rx ry h
  obtain ⟨p, a, zs, kvs, rfl, ea, rfl, hq, q⟩ := h
  cases rx
  cases ry
  obtain ⟨z, hd, vs, rel, o, es, ep, h1, h2, h3, h4⟩ := dk_of I.hok ea
  obtain ⟨its, r, pl, hz⟩ := I.list hq
  refine SeqAt.notIn_listAt (fun _ => false) pl.isList (fun w hw => strs_eqAt h1 h2.1 h3 (hu_of hr) r w (by simpa using hw)) ⟨.bl _, H, I, rfl, ?_⟩
  rw [show its.toArray.any (fun _ => false) = false by simp]
  exact q
theorem o_inX (hK : X.K = K) (hr : Room k X.A) : OpR X (compareOp .In) (uInX K false) := by
  subst hK
  exact (o_in rfl).or ((op_inX hr).or (op_inD (by have := hr.un; omega)))
theorem o_notinX (hK : X.K = K) (hr : Room k X.A) : OpR X (compareOp .NotIn) (uInX K true) := by
  subst hK
  exact (o_notin rfl).or ((op_notInX hr).or (op_notInD (by have := hr.un; omega)))
end
section
variable {K : PySem.W.Frag} {σ : L2.St} {H : Hp} {Q : VK} {p a : Addr} {zs : List Str} {ng : Bool} {x y : V} {d : PyData}
/-- a thing that is no text is in no list of texts -/
def noStr : PyData → Bool | .str _ => false | _ => true
theorem any_noStr (h : noStr d = true) : ∀ zs : List Str, ((zs.map PyData.str).any fun z => PyData.eqv z d) = false
  | [] => rfl
  | z :: zs => by
    rw [List.map_cons, List.any_cons, any_noStr h zs, Bool.or_false]
    cases d <;> first | rfl | (simp [noStr] at h) | simp [PyData.eqv]
theorem s_iX (h : uIn K ng x y H Q) : uInX K ng x y H Q := Or.inl h
theorem s_iXD {kvs : List (Key × V)} (h : H a = some (.dK kvs)) (g : SqL K H p (zs.map V.str)) (q : Q (.bl ng) H) : uInX K ng (.ref a) (.ref p) H Q := Or.inr (Or.inl ⟨p, a, zs, kvs, rfl, h, rfl, g, q⟩)
theorem s_iXY (h : Dn K H x d) (s : SeqAt.shaped d = true) (nd : noStr d = true) (g : SqL K H p (zs.map V.str)) (ok : ∀ z ∈ zs, ∀ c ∈ z.cps.toList, c < 1114112) (q : Q (.bl ng) H) : uInX K ng x (.ref p) H Q := by
  refine Or.inr (Or.inr ⟨d, zs.map PyData.str, h.dp (shp s), .lst g (dpa_strs zs), s, shp_strs ok, ?_⟩)
  rw [any_noStr nd zs]
  cases ng <;> exact q
theorem s_m0 {r : V → List V → Hp → VK → Prop} {to : TE} (h : to σ H fun x H1 => (∃ a, x = .str a) ∧ r x [] H1 Q) : tM0 r to σ H Q := h
theorem s_upper {z : Str} (h : z.length ≤ 5592405) (q : Q (.str (Txt.upper z)) H) : ∃ a, V.str z = .str a ∧ ([] : List V) = [] ∧ a.length ≤ 5592405 ∧ Q (.str (Txt.upper a)) H := ⟨z, rfl, rfl, h, q⟩
theorem up_let : ∀ c ∈ List.range' 97 26, Unicode.upperOf c = [c - 32] := by decide +kernel
theorem up_ss {z : Str} {n : Nat} (h : SS z n) (g : ∀ c ∈ z.cps.toList, 97 ≤ c ∧ c ≤ 122) : SS (Txt.upper z) (3 * n) := by
  refine ⟨Nat.le_trans (len_upper z) (by have := h.len; omega), fun c hc => ?_⟩
  have hc : c ∈ (PySem.placed z fun _ c => Unicode.upperOf c) := by simpa [Txt.upper] using hc
  unfold PySem.placed at hc
  obtain ⟨xs, hx, hc⟩ := Array.mem_flatten.mp hc
  obtain ⟨i, hi, rfl⟩ := Array.mem_mapIdx.mp hx
  have hm : z.cps[i] ∈ z.cps.toList := by simp
  have b := g _ hm
  simp only [] at hc
  rw [up_let _ (by rw [List.mem_range']; exact ⟨z.cps[i] - 97, by omega, by omega⟩)] at hc
  simp at hc
  omega
def uInt : List V → Hp → VK → Prop := fun xs H Q => (∃ i, xs = [.int i] ∧ Q (.int i) H) ∨ ∃ k : Bool, xs = [.bl k] ∧ Q (.int (if k then 1 else 0)) H
theorem c_int {X : Cx} : CallR X (.type "int") uInt := call_int1
theorem s_intB {k : Bool} (q : Q (.int (if k then 1 else 0)) H) : uInt [.bl k] H Q := Or.inr ⟨k, rfl, q⟩
end
end U

namespace U
open PySem L2 PySem.Spec PyProof.Rows
/-! enumerate(list, c) -/
def IteS (K : PySem.W.Frag) (a : Addr) (c : Int) : It :=
  ⟨fun i H => ∃ (xs : List V) (x : V), SqL K H a xs ∧ xs[i]? = some x, fun i H v H' => ∃ T x, v = .ref T ∧ H T = none ∧ H' = upd H T (.tup [.int (c + (i : Nat)), x]) ∧ ∀ xs, SqL K H a xs → xs[i]? = some x, fun i H => ∃ xs : List V, SqL K H a xs ∧ xs.length ≤ i⟩
theorem turn_enumS {P : Program} {w : World} {K : PySem.W.Frag} {elts : List Expr} {kk : Nat} {tpos : Pos} (a e it : Addr) (c : Int) :
    Turn P w K (.Tuple elts kk tpos) (IteS K a c) [e, it] e (fun i h => (∃ old, IsEnum h e it (c + ((i : Nat) : Int)) old) ∧ h.IsListIter it a i ∧ e ≠ it) where
  mem := by simp
  obj := fun i h st b hb => by
    obtain ⟨⟨old, he⟩, ⟨o, ho, hc, hd⟩, _⟩ := st
    have e' : b = e ∨ b = it := by simpa using hb
    rcases e' with z | z
    · rw [z]; exact ⟨_, he, fun v q => nomatch q⟩
    · rw [z]; exact ⟨o, ho, fun v q => by rw [hd] at q; cases q⟩
  keep := fun i h h' st k => let ⟨⟨old, he⟩, hi, hne⟩ := st; ⟨⟨old, k e (by simp) _ he⟩, hi.at fun o q => k it (by simp) o q, hne⟩
  item := by
    intro X hP hw hK hc i pins s σ H E I hf st hg
    subst hP hw hK
    obtain ⟨⟨old, he⟩, hit, hne⟩ := st
    obtain ⟨xs, x, hq, hx⟩ := hg
    obtain ⟨its, rv, p, hz⟩ := I.list hq
    obtain ⟨u, hu, ru⟩ := rv.get hx
    have p' : s.heap.IsList a its.toArray := p.isList
    have nai : a ≠ it := fun z => by
      subst z
      obtain ⟨o1, e1, c1, _⟩ := p'
      obtain ⟨o2, e2, c2, _⟩ := hit
      rw [e1] at e2; cases e2
      rw [c1] at c2; exact absurd c2 (by simp)
    have nae : a ≠ e := fun z => by
      subst z
      obtain ⟨o1, e1, c1, _⟩ := p'
      have he' := he
      unfold IsEnum at he'
      rw [e1] at he'
      cases he'
      exact absurd c1 (by simp)
    have hel : e < s.heap.objs.size := Heap.lt_size he
    have hil : it < s.heap.objs.size := by obtain ⟨_, q, _⟩ := hit; exact Heap.lt_size q
    have hi : i < its.toArray.size := by
      rw [List.size_toArray]
      exact (List.getElem?_eq_some_iff.mp hu).1
    refine wpAny_pyNext_enum_itemC (Draws.list (A := X.A.in1) (show X.A.in1.handled = none from I.ok.hd hc) it a nai its.toArray) he ⟨hit, p'⟩ hi hne (by simp; exact ⟨hne, nae.symm⟩) fun x' h' tk hP ho hst' hT hsz hk => ?_
    obtain ⟨hit', _⟩ := hst'
    have ex : x' = u := by
      have hP' : its.toArray[i]? = some x' := hP
      rw [List.getElem?_toArray, hu] at hP'
      exact (Option.some.inj hP').symm
    subst ex
    refine ⟨_, rfl, wpAny_letOwnedTupleGo_enum (s := { s with heap := h', toks := tk + 1 }) ho fun h'' he' sb => ?_⟩
    have hT2 : h''.get? s.heap.objs.size = some { cls := .type "tuple", data := .seq #[.int (c + i) tk, x'] } := (sb.2 _ (Nat.ne_of_gt hel)).trans hT
    have new : ObjOk X.prog X.w (upd H s.heap.objs.size (.tup [.int (c + (i : Nat)), x])) h'' s.heap.objs.size (.tup [.int (c + (i : Nat)), x]) :=
      ⟨by show 2 ≤ sizeLine; decide, [.int (c + i) tk, x'], .cons ⟨_, rfl⟩ (.cons ru .nil), ⟨_, hT2, rfl, _, rfl⟩⟩
    have I1 : Inv X pins σ (upd H s.heap.objs.size (.tup [.int (c + (i : Nat)), x])) { s with heap := h'', toks := tk + 1 } :=
      I.turnedNew (ch := [e, it]) (fun b ob hb q => (sb.2 b (fun z => hb (by simp [z]))).trans (hk b ob (fun z => hb (by simp [z])) (fun z => hb (by simp [z])) q)) hf (Nat.le_refl _) new
    refine ⟨.ref s.heap.objs.size, _, I1, rfl, ⟨_, x, rfl, I.hok.fresh (Nat.le_refl _), rfl, fun ys hy => by rw [I.list_inj hy hq]; exact hx⟩, ⟨⟨x', ?_⟩, hit'.at fun o q => (sb.2 it (Ne.symm hne)).trans q, hne⟩, fun b hb => ?_⟩
    · have e1 : c + ((i + 1 : Nat) : Int) = c + (i : Int) + 1 := by omega
      rw [e1]; exact he'
    · have hb' : b < s.heap.objs.size := by
        have e' : b = e ∨ b = it := by simpa using hb
        rcases e' with z | z
        · rw [z]; exact hel
        · rw [z]; exact hil
      rw [upd_ne (Nat.ne_of_lt hb')]
      exact (hf b hb).1
  done := by
    intro X hP hw hK hc i pins s σ H E I hf st hg
    subst hP hw hK
    obtain ⟨⟨old, he⟩, hit, hne⟩ := st
    obtain ⟨xs, hq, hx⟩ := hg
    obtain ⟨its, rv, p, hz⟩ := I.list hq
    obtain ⟨f0, f1, f2, f3, f4, f5⟩ := hf it (by simp)
    have hl := rv.length
    have p' : s.heap.IsList a its.toArray := p.isList
    refine (?_ : wpAny (model X.prog X.w) X.A (pyNext (.ref e)) _ _ s)
    have hT : s.TypeIs (.ref e) "enumerate" := ⟨_, he, rfl⟩
    unfold pyNext
    refine wpAny_bind (wpAny_attempt (wpAny_callSpecial?_slot (name := Str.ofString "__next__") hT F.slot_enumerate_next
      (wpAny_call_entry F.slot_enumerate_next hT F.entry_enumerate_next ?_ (F.args_enumerate_next_1 _))))
    show wpAny _ _ (field (.ref e) 2 >>= _) _ _ _
    refine wpAny_bind (wpAny_field he rfl (x := .ref it) rfl ?_)
    refine wpAny_bind (wpAny_nextOf_list_end (I.ok.hd hc) hit p' (by simp; omega) fun h' x he' hx' => ?_)
    obtain ⟨o, ho, hc'⟩ := hx'
    refine wpAny_bind (wpAny_isInstance (T := "StopIteration") (b := true) ⟨o, ho, hc'⟩ isSubtype_stop ?_)
    exact wpAny_pure ⟨rfl, I.turned (t' := s.toks) (fun b o hb q => he' b o hb q) f0 f1 f3 f4 f5⟩
  self := fun A i s Q E st h => let ⟨⟨_, he⟩, _⟩ := st; wpAny_pyIter_enum he h
def iEnumS (K : PySem.W.Frag) (ta : TA) : TI := fun σ H R => ta σ H fun vs H1 => ∃ a xs c, vs = [.ref a, .int c] ∧ SqL K H1 a xs ∧ (-(2 ^ 62) ≤ c ∧ c < 2 ^ 62) ∧ R (IteS K a c) H1
theorem pi_enumS {X : Cx} {K : PySem.W.Frag} {e e2 : Expr} {ta : TA} {p pos tpos : Pos} {elts : List Expr} {kk : Nat} (hK : X.K = K) (hg : Gl X "enumerate") (hm : X.mg "enumerate" = none) (ha : PA X [e, e2] ta) (hs : starEach [e, e2] X.env = (false, eval e X.env) :: starEach [e2] X.env := by rfl) (hs2 : (backTo pos (starEach [e2] X.env)).any (·.1) = false := by rfl) :
    PI X (.Tuple elts kk tpos) (.Call (.Name "enumerate" p) [e, e2] [] pos) (iEnumS K ta) := by
  subst hK
  refine ⟨fun pins s σ H R I h => ?_⟩
  refine Call_ (ld_blt I hg hm boot_enumerate (PyProof.Rows.callWith_type1 (thn (ha.run pos pins s σ H _ I h) fun us s1 ⟨vs, H1, I1, r1, q1⟩ => ?_) hs hs2))
  obtain ⟨a, xs, c, ex, hq, hc, q⟩ := q1
  subst ex
  cases r1 with
  | cons r rr =>
    cases rr with
    | cons r2 rr =>
      cases rr
      cases r
      obtain ⟨tk, rfl⟩ := r2
      obtain ⟨its, rv, p', hz⟩ := I1.list hq
      refine enum_begins (begins_list a its.toArray) (show s1.heap.IsList a its.toArray from p'.isList) (by omega) (by omega) fun h' he hit hsz hk => wpAny_pyIter_enum he ?_
      have I2 : Inv X pins σ H1 { s1 with heap := h' } := I1.kept (t' := s1.toks) hk
      refine ⟨s1.heap.objs.size + 1, [s1.heap.objs.size + 1, s1.heap.objs.size], _, _, H1, rfl, I2, turn_enumS a (s1.heap.objs.size + 1) s1.heap.objs.size c, ⟨⟨.none, by simpa using he⟩, ⟨_, hit, rfl, rfl⟩, Nat.succ_ne_self _⟩, fun b hb => ?_, q⟩
      have e' : b = s1.heap.objs.size + 1 ∨ b = s1.heap.objs.size := by simpa using hb
      have hle : s1.heap.objs.size ≤ b := by
        rcases e' with z | z
        · rw [z]; exact Nat.le_add_right _ _
        · rw [z]; exact Nat.le_refl _
      exact I1.fpOk hle (I1.hok.fresh hle)
theorem walk_enumS {K : PySem.W.Frag} {a : Addr} {xs : List V} {c : Int} : Walk (IteS K a c) xs.length (fun H => SqL K H a xs) (YPair (fun i => some (.int (c + (i : Nat)))) (fun i => xs[i]?)) := by
  refine ⟨fun i _ hi q => ⟨xs, xs[i], q, by simp [hi]⟩, fun _ q => ⟨xs, q, Nat.le_refl _⟩, fun i H v H' _ q y => ?_⟩
  obtain ⟨T, x, h1, h2, h3, h4⟩ := y
  exact ⟨T, .int (c + (i : Nat)), x, h1, h2, h3, rfl, h4 xs q⟩
section
variable {K : PySem.W.Frag} {σ : L2.St} {H : Hp} {a : Addr} {vs : List V} {g : TG} {tb : TS} {D : Ends} {c : Int} {R : It → Hp → Prop} {ta : TA} {xs : List V}
theorem for_eS (e : H a = some (.lst vs)) (Pv : Nat → L2.St → Hp → Prop) (h0 : Pv 0 σ H) (hG : ∀ i σ' H', Pv i σ' H' → ∀ o, H a = some o → H' a = some o)
    (hs : ∀ i x σ' H' T H2, vs[i]? = some x → Pv i σ' H' → H' T = none → H2 T = some (.tup [.int (c + (i : Nat)), x]) → Kp [] H' H2 → g (.ref T) σ' H2 fun σ2 H3 => tb { D with nx := Pv (i + 1), ct := Pv (i + 1), bk := D.nx } σ2 H3) (hd : ∀ σ' H', Pv vs.length σ' H' → D.nx σ' H') :
    ∃ W : Nat → Nat → L2.St → Hp → Prop, (∃ m, W 0 m σ H) ∧ ∀ i m σ H, W i m σ H →
      ((IteS K a c).stop i H ∧ D.nx σ H) ∨ ((IteS K a c).go i H ∧ ∃ N : L2.St → Hp → Prop, (∀ σ' H', N σ' H' → ∃ m', m' < m ∧ W (i + 1) m' σ' H') ∧ ∀ x H', (IteS K a c).yld i H x H' → g x σ H' fun σ2 H2 => tb { D with nx := N, ct := N, bk := D.nx } σ2 H2) :=
  for_it (walk_enumS (xs := vs)) Pv h0 (fun i σ' H' _ p => SqL.of (hG i σ' H' p _ e)) (fun i x σ' H1 H2 hi p y => by
    obtain ⟨T, x1, x2, rfl, f, rfl, e1, e2⟩ := y
    cases Option.some.inj e1
    exact hs i x2 σ' H1 T _ e2 p f upd_same (Kp.refl.new f)) hd
theorem s_ienS (h : ta σ H fun vs H1 => ∃ a xs c, vs = [.ref a, .int c] ∧ SqL K H1 a xs ∧ (-(2 ^ 62) ≤ c ∧ c < 2 ^ 62) ∧ R (IteS K a c) H1) : iEnumS K ta σ H R := h
theorem s_eS {S : Addr → Int → Prop} (h : H a = some (.lst xs)) (b : -(2 ^ 62) ≤ c ∧ c < 2 ^ 62) (q : S a c) : ∃ a' xs' c', [V.ref a, V.int c] = [.ref a', .int c'] ∧ SqL K H a' xs' ∧ (-(2 ^ 62) ≤ c' ∧ c' < 2 ^ 62) ∧ S a' c' := ⟨a, xs, c, rfl, SqL.of h, b, q⟩
end
end U

namespace U
open PySem L2 PySem.Spec PyProof.Rows
/-! texts that are joined, and split again -/
def jl (c : Nat) : List (List Nat) → List Nat
  | [] => []
  | [w] => w
  | w :: v :: r => w ++ c :: jl c (v :: r)
theorem app_inj {c : Nat} : ∀ {a b x y : List Nat}, c ∉ a → c ∉ b → a ++ c :: x = b ++ c :: y → a = b ∧ x = y
  | [], [], _, _, _, _, h => ⟨rfl, by simpa using h⟩
  | [], b :: bs, _, _, _, hb, h => by
    simp only [List.nil_append, List.cons_append, List.cons.injEq] at h
    exact (hb (by rw [h.1]; exact List.mem_cons_self)).elim
  | a :: as, [], _, _, ha, _, h => by
    simp only [List.nil_append, List.cons_append, List.cons.injEq] at h
    exact (ha (by rw [← h.1]; exact List.mem_cons_self)).elim
  | a :: as, b :: bs, x, y, ha, hb, h => by
    simp only [List.cons_append, List.cons.injEq] at h
    obtain ⟨h1, h2⟩ := app_inj (fun m => ha (List.mem_cons_of_mem _ m)) (fun m => hb (List.mem_cons_of_mem _ m)) h.2
    exact ⟨by rw [h.1, h1], h2⟩
theorem jl_inj {c : Nat} : ∀ {as bs : List (List Nat)}, as ≠ [] → bs ≠ [] → (∀ a ∈ as, c ∉ a) → (∀ b ∈ bs, c ∉ b) → jl c as = jl c bs → as = bs
  | [], _, h, _, _, _, _ => (h rfl).elim
  | _ :: _, [], _, h, _, _, _ => (h rfl).elim
  | [a], [b], _, _, _, _, h => by rw [show a = b from h]
  | [a], b :: b' :: r, _, _, ha, _, h => by
    have h : a = b ++ c :: jl c (b' :: r) := h
    exact (ha a List.mem_cons_self (by rw [h]; simp)).elim
  | a :: a' :: r, [b], _, _, _, hb, h => by
    have h : a ++ c :: jl c (a' :: r) = b := h
    exact (hb b List.mem_cons_self (by rw [← h]; simp)).elim
  | a :: a' :: r, b :: b' :: s, _, _, ha, hb, h => by
    have h : a ++ c :: jl c (a' :: r) = b ++ c :: jl c (b' :: s) := h
    obtain ⟨h1, h2⟩ := app_inj (ha a List.mem_cons_self) (hb b List.mem_cons_self) h
    rw [h1, jl_inj (by simp) (by simp) (fun x m => ha x (List.mem_cons_of_mem _ m)) (fun x m => hb x (List.mem_cons_of_mem _ m)) h2]
theorem join_jl (c : Nat) : ∀ ws : List Str, (Str.join ⟨#[c]⟩ ws).cps.toList = jl c (ws.map fun w => w.cps.toList)
  | [] => rfl
  | [w] => rfl
  | w :: v :: r => by
    have ih := join_jl c (v :: r)
    have e : Str.join ⟨#[c]⟩ (w :: v :: r) = w ++ ⟨#[c]⟩ ++ Str.join ⟨#[c]⟩ (v :: r) := rfl
    rw [e, Str.cps_append, Str.cps_append, Array.toList_append, Array.toList_append, ih]
    show (w.cps.toList ++ [c]) ++ _ = w.cps.toList ++ c :: _
    rw [List.append_assoc]
    rfl
theorem tj (y : Str) (l : List Str) : Txt.join y l = Str.join y l := StrLaws.glued_eq_join y l
theorem split_join {c : Nat} {ws : List Str} (hne : ws ≠ []) (h : ∀ w ∈ ws, c ∉ w.cps.toList) : Txt.split (Txt.join ⟨#[c]⟩ ws) ⟨#[c]⟩ = ws := by
  rw [tj]
  generalize hx : Str.join ⟨#[c]⟩ ws = x
  have h1 : Str.join ⟨#[c]⟩ (Txt.split x ⟨#[c]⟩) = Str.join ⟨#[c]⟩ ws := by rw [StrLaws.join_split, hx]
  have h2 := congrArg (fun z : Str => z.cps.toList) h1
  simp only [join_jl] at h2
  have h3 := jl_inj (by
    intro z
    have := PyProof.Rows.split_pos x ⟨#[c]⟩
    rw [List.map_eq_nil_iff] at z
    rw [z] at this
    simp at this) (by simpa using hne) (by
    intro a ha
    obtain ⟨p, hp, rfl⟩ := List.mem_map.mp ha
    exact StrLaws.split_free x c p hp) (by
    intro a ha
    obtain ⟨p, hp, rfl⟩ := List.mem_map.mp ha
    exact h p hp) h2
  exact (List.map_inj_right (fun a b (e : a.cps.toList = b.cps.toList) => Str.ext' (Array.toList_inj.mp e))).mp h3
theorem sp_eq : (" " : Str) = ⟨#[32]⟩ := by decide +kernel
theorem nl_eq : ("\n" : Str) = ⟨#[10]⟩ := by decide +kernel
section
variable {K : PySem.W.Frag} {σ : L2.St} {H : Hp} {Q : VK} {z sep acc y : Str} {ws : List Str} {p : Addr} {xs ys : List V} {n : Int} {v : V} {te : TE} {ts : List TE} {q : Str → Hp → Prop} {X : Cx}
theorem s_spl (h0 : (sep.length == 0) = false) (hz : z.length + 2 ≤ sizeLine) (e : Txt.split z sep = ws) (q : ∀ p H', H p = none → H' p = some (.lst (ws.map V.str)) → Kp [] H H' → Q (.ref p) H') :
    ∃ b, [V.str sep] = [V.str b] ∧ (b.length == 0) = false ∧ z.length + 2 ≤ sizeLine ∧ rNewStrs (Txt.split z b) H Q := by
  refine ⟨sep, rfl, h0, hz, ?_⟩
  rw [e]
  exact new_abs (R := fun l H' => Q (.ref l) H') q
/-! f-strings -/
def tJo (ts : List TE) : TE := fun σ H Q => tJs ts Str.empty σ H fun out H1 => Q (.str out) H1
theorem pe_jo {v1 v2 : Expr} {rest : List Expr} {pos : Pos} (h : PJ X (v1 :: v2 :: rest) ts) : PE X (.JoinedStr (v1 :: v2 :: rest) pos) (tJo ts) := pe_joined h
theorem s_jo (h : tJs ts Str.empty σ H fun out H1 => Q (.str out) H1) : tJo ts σ H Q := h
theorem s_js0 (h : q acc H) : tJs [] acc σ H q := h
theorem s_jsC (h : (acc ++ z).length ≤ sizeLine) (k : tJs ts (acc ++ z) σ H q) : tJs (tC (.str z) :: ts) acc σ H q := ⟨z, rfl, h, k⟩
def FmK (ts : List TE) (acc : Str) (σ : L2.St) (q : Str → Hp → Prop) : V → Hp → Prop := fun x H1 => (∃ y : Str, x = .str y ∧ y.length ≤ sizeLine ∧ ∃ y', V.str y = .str y' ∧ (acc ++ y').length ≤ sizeLine ∧ tJs ts (acc ++ y') σ H1 q) ∨
  ∃ i : Int, x = .int i ∧ i.natAbs.log2 < 1920 ∧ ∃ y', V.str (toString i) = .str y' ∧ (acc ++ y').length ≤ sizeLine ∧ tJs ts (acc ++ y') σ H1 q
theorem s_jsF (h : te σ H (FmK ts acc σ q)) : tJs (tFmt te :: ts) acc σ H q := h
theorem s_fmS (h : y.length ≤ sizeLine) (h2 : (acc ++ y).length ≤ sizeLine) (k : tJs ts (acc ++ y) σ H q) : FmK ts acc σ q (.str y) H := Or.inl ⟨y, rfl, h, y, rfl, h2, k⟩
theorem s_fmI (h : n.natAbs.log2 < 1920) (h2 : (acc ++ (toString n : Str)).length ≤ sizeLine) (k : tJs ts (acc ++ (toString n : Str)) σ H q) : FmK ts acc σ q (.int n) H := Or.inr ⟨n, rfl, h, _, rfl, h2, k⟩
/-! tuples of the module's top -/
structure KT (K : PySem.W.Frag) (a : Addr) (xs : List V) : Prop where
  ex : ∃ (o : Obj) (its : Array Value) (n : Nat), K.lookup a = some o ∧ (o.cls = .type "tuple" ∧ o.dict = none) ∧ o.data = .seq its n ∧ its.size ≤ sizeLine ∧ Vals xs its.toList
theorem KT.mk' {a : Addr} {o : Obj} (l : K.lookup a = some o) (h : (o.cls = .type "tuple" ∧ o.dict = none) ∧ ∃ (its : Array Value) (n : Nat), o.data = .seq its n ∧ its.size ≤ sizeLine ∧ Vals xs its.toList) : KT K a xs := by
  obtain ⟨h1, its, n, h2, h3, h4⟩ := h
  exact ⟨o, its, n, l, h1, h2, h3, h4⟩
theorem KT.sq (h : KT K p xs) : SqT K H p xs := by
  obtain ⟨o, its, n, l, h1, h2, h3, h4⟩ := h.ex
  exact Or.inr ⟨o, its, n, l, h1.1, h2, h3, h4⟩
theorem s_ixK (h : KT K p xs) (ha : atI xs n = some v) (q : Q v H) : rIx K (.ref p) (.int n) H Q := Or.inr (Or.inl ⟨p, xs, n, v, rfl, rfl, h.sq, ha, q⟩)
theorem s_tyK {R : Prop} (h : KT K p xs) (q : R) : tyV K "tuple" (.ref p) H ∧ R := by
  obtain ⟨o, its, n, l, h1, h2, h3, h4⟩ := h.ex
  exact ⟨Or.inr (Or.inl ⟨rfl, o, l, h1.1, h1.2⟩), q⟩
def rTIx (K : PySem.W.Frag) : V → List V → Hp → VK → Prop := fun x xs H Q => ∃ p, ∃ ys : List Str, ∃ z j, x = .ref p ∧ xs = [.str z] ∧ SqT K H p (ys.map V.str) ∧ ys[j]? = some z ∧ (∀ m, m < j → ys[m]? ≠ some z) ∧ Q (.int (j : Nat)) H
theorem mt_tix (hK : X.K = K) : MtR X "tuple.index" (rTIx K) := hK ▸ mt_tup_index
theorem s_tix {zs : List Str} {j : Nat} (h : KT K p (zs.map V.str)) (e : zs[j]? = some z) (nd : ∀ m, m < j → zs[m]? ≠ some z) (q : Q (.int (j : Nat)) H) : rTIx K (.ref p) [.str z] H Q := ⟨p, zs, z, j, rfl, rfl, h.sq, e, nd, q⟩
theorem s_ext {l b : Addr} (hl : H l = some (.lst xs)) (hb : H b = some (.lst ys)) (hz : xs.length + ys.length ≤ sizeLine) (q : ∀ H', H' l = some (.lst (xs ++ ys)) → Kp [l] H H' → Q .non H') : rExtend (.ref l) [.ref b] H Q :=
  ⟨l, b, xs, ys, rfl, rfl, hl, hb, hz, put_abs hl rfl (R := fun H' => Q .non H') q⟩
def uIntS : List V → Hp → VK → Prop := fun xs H Q => ∃ a n, xs = [.str a] ∧ PySem.intText? a = some n ∧ a.length ≤ 640 ∧ Q (.int n) H
theorem c_intS : CallR X (.type "int") uIntS := call_int_str
theorem s_intS (e : PySem.intText? z = some n) (h : z.length ≤ 640) (q : Q (.int n) H) : uIntS [.str z] H Q := ⟨z, n, rfl, e, h, q⟩
end
end U

namespace U
open PySem L2 PySem.Spec PyProof.Rows
section
variable {K : PySem.W.Frag} {H : Hp} {Q : VK} {p : Addr} {y : V} {d z : PyData} {ds : List PyData} {j : Nat} {X : Cx} {k : Nat} {ng : Bool}
/-- data in a list of data -/
theorem mt_ixD (hK : X.K = K) (hr : Room k X.A) : MtR X "list.index" (rIndexD K) := hK ▸ mt_indexD (by have := hr.un; omega)
theorem s_ixD (hl : Dn K H (.ref p) (.list ds)) (hy : Dn K H y d) (sl : SeqAt.shaped (.list ds) = true) (sd : SeqAt.shaped d = true) (e : ds[j]? = some z) (ez : PyData.eqv z d = true) (no : ∀ (m : Nat) (z' : PyData), m < j → ds[m]? = some z' → PyData.eqv z' d = false) (q : Q (.int (j : Nat)) H) : rIndexD K (.ref p) [y] H Q :=
  ⟨p, y, d, ds, j, z, rfl, rfl, hl.dp (shp sl), hy.dp (shp sd), sl, sd, e, ez, no, q⟩
theorem s_inD (hl : Dn K H (.ref p) (.list ds)) (hy : Dn K H y d) (sl : SeqAt.shaped (.list ds) = true) (sd : SeqAt.shaped d = true) (q : Q (.bl (ds.any fun z => PyData.eqv z d)) H) : uInX K false y (.ref p) H Q :=
  Or.inr (Or.inr ⟨d, ds, hy.dp (shp sd), hl.dp (shp sl), sd, sl, q⟩)
end
/-! texts are put together -/
theorem sa (a b c : Str) : a ++ b ++ c = a ++ (b ++ c) := Str.ext' (by simp [Str.cps_append])
theorem sj1 (a : Str) : Txt.join " " [a] = a := by rw [tj]; rfl
theorem sj2 (a b : Str) : Txt.join " " [a, b] = a ++ " " ++ b := by rw [tj]; rfl
theorem sj3 (a b c : Str) : Txt.join " " [a, b, c] = a ++ " " ++ (b ++ " " ++ c) := by rw [tj]; rfl
theorem sj4 (a b c d : Str) : Txt.join " " [a, b, c, d] = a ++ " " ++ (b ++ " " ++ (c ++ " " ++ d)) := by rw [tj]; rfl
theorem e_app (a : Str) : Str.empty ++ a = a := Str.ext' (by simp [Str.cps_append, Str.empty])
theorem join_len {a : Str} {ws : List Str} {n : Nat} (h : ∀ w ∈ ws, w.length ≤ n) : (Txt.join a ws).length ≤ ws.length * (n + a.length) := by
  rw [tj]
  refine Nat.le_trans (StrLaws.join_length_le a ws) ?_
  have : (ws.map (·.length)).sum ≤ ws.length * n := by
    induction ws with
    | nil => simp
    | cons w ws ih =>
      have h1 := h w List.mem_cons_self
      have h2 := ih fun x hx => h x (List.mem_cons_of_mem _ hx)
      rw [List.map_cons, List.sum_cons, List.length_cons, Nat.succ_mul]
      omega
  rw [Nat.mul_add]
  omega
theorem join_mem {c : Nat} {a : Str} : ∀ {ws : List Str}, c ∈ (Txt.join a ws).cps.toList → c ∈ a.cps.toList ∨ ∃ w ∈ ws, c ∈ w.cps.toList
  | [], h => by rw [tj] at h; simp [Str.join, Str.empty] at h
  | [w], h => by rw [tj] at h; exact Or.inr ⟨w, List.mem_cons_self, h⟩
  | w :: v :: r, h => by
    have e : Txt.join a (w :: v :: r) = w ++ a ++ Txt.join a (v :: r) := by rw [tj, tj]; rfl
    rw [e, Str.cps_append, Str.cps_append, Array.toList_append, Array.toList_append, List.mem_append, List.mem_append] at h
    rcases h with (h | h) | h
    · exact Or.inr ⟨w, List.mem_cons_self, h⟩
    · exact Or.inl h
    · rcases join_mem h with h | ⟨x, hx, h⟩
      · exact Or.inl h
      · exact Or.inr ⟨x, List.mem_cons_of_mem _ hx, h⟩
/-- what is said of a class whose instances isinstance is asked of -/
structure IsC (K : PySem.W.Frag) (C : Addr) : Prop where
  cl : Cls K C
  ha : PySem.W.findIn K (.ref C) "__class__" = some (some (.builtin "object.__class__"))
  hn : PySem.W.specialIn K (.builtin "object.__class__") "__get__" = some (some (.builtin "getset_descriptor.__get__"))
  tk : PySem.W.takesIn K (.builtin "object.__class__") = some true
  hm : PySem.W.mroIn K C (.type "object") = some true
theorem s_isO {K : PySem.W.Frag} {H : Hp} {Q : VK} {p C C2 dx : Addr} {fs : List (Str × V)} {b : Bool} (h : H p = some (.ins C dx fs)) (c : IsC K C) (ki : PySem.W.kitOne K (.ref C) (.ref C2) = some b) (q : Q (.bl b) H) : rIsi K [.ref p, .ref C2] H Q :=
  ⟨.ref p, .ref C2, .ref C, .ref C2, b, rfl, .own C2, .base (.ins h c.cl c.ha c.hn c.tk c.hm), ki, q⟩
section
variable {X : Cx} {K : PySem.W.Frag} {T id : String} {name : Str} {r : V → List V → Hp → VK → Prop} {o e : Expr} {es : List Expr} {to : TE} {t : TA} {apos cpos : Pos}
theorem pe_bmK (hK : X.K = K) (pa : PlainAttrs T) (slot : Slot T name id) (hty : typeOf (.builtin id) = pure (.type "method_descriptor")) (hm : MtR X id r) (ho : PE X o to) (ha : PA X (e :: es) t)
    (hbase : attributeBase o name X.env (eval o X.env) = eval o X.env := by rfl)
    (hfew : ((backTo cpos (starEach (e :: es) X.env)).all (fun x => !x.1) && (backToKw cpos (keywordEach [] X.env)).all (fun x => x.1.isSome)
      && decide ((e :: es).length + ([] : List Keyword).length + (if ([] : List Keyword).isEmpty then 0 else 1) < 30)) = true := by rfl)
    (hline : (apos.endLine == cpos.line) = true := by rfl) (hs : starEach (e :: es) X.env = (false, eval e X.env) :: starEach es X.env := by rfl) (hplain : (backTo cpos (starEach es X.env)).any (·.1) = false := by rfl) :
    PE X (.Call (.Attribute o name apos) (e :: es) [] cpos) (tBM K T r to t) := hK ▸ pe_bm pa slot hty hm ho ha hbase hfew hline hs hplain
theorem pe_bm0K (hK : X.K = K) (pa : PlainAttrs T) (slot : Slot T name id) (hty : typeOf (.builtin id) = pure (.type "method_descriptor")) (hm : MtR X id r) (ho : PE X o to)
    (hbase : attributeBase o name X.env (eval o X.env) = eval o X.env := by rfl) (hline : (apos.endLine == cpos.line) = true := by rfl) : PE X (.Call (.Attribute o name apos) [] [] cpos) (tBM0 K T r to) := hK ▸ pe_bm0 pa slot hty hm ho hbase hline
end
end U

namespace U
open PySem L2 PySem.Spec PyProof.Rows
/-! zip of lists and tuples in any mix (true: a tuple) -/
def SqB (K : PySem.W.Frag) (b : Bool) (H : Hp) (a : Addr) (xs : List V) : Prop := match b with
  | false => SqL K H a xs
  | true => SqT K H a xs
def IterB (b : Bool) (h : Heap) (i a : Addr) (n : Nat) : Prop := match b with
  | false => h.IsListIter i a n
  | true => h.IsTupleIter i a n
def IsB (b : Bool) (h : Heap) (a : Addr) (its : Array Value) : Prop := match b with
  | false => h.IsList a its
  | true => h.IsTuple a its
def oB (b : Bool) (a : Addr) : Obj := match b with
  | false => { cls := .type "list_iterator", data := .fields #[.ref a, .int 0 0] }
  | true => { cls := .type "tuple_iterator", data := .fields #[.ref a, .int 0 0] }
theorem beginsB (b : Bool) (a : Addr) (its : Array Value) : Begins (.ref a) (oB b a) fun h => IsB b h a its := by
  cases b
  · exact begins_list a its
  · exact begins_tuple a its
theorem iterB0 {b : Bool} {h : Heap} {i a : Addr} (e : h.get? i = some (oB b a)) : IterB b h i a 0 := by
  cases b
  · exact ⟨_, e, rfl, rfl⟩
  · exact ⟨_, e, rfl, rfl⟩
theorem drawsB {prog : Program} {w : World} {A : Around} (b : Bool) (hh : A.handled = none) (it l : Addr) (hne : l ≠ it) (its : Array Value) :
    Draws prog w A it [it, l] its.size (fun i v => its[i]? = some v) (fun i h => IterB b h it l i ∧ IsB b h l its) := by
  cases b
  · exact Draws.list hh it l hne its
  · exact Draws.tuple hh it l hne its
theorem IterB.obj {b : Bool} {h : Heap} {i a : Addr} {n : Nat} (x : IterB b h i a n) : ∃ o, h.get? i = some o ∧ o.data = .fields #[.ref a, .int n 0] := by
  cases b
  · obtain ⟨o, e, _, d⟩ := x; exact ⟨o, e, d⟩
  · obtain ⟨o, e, _, d⟩ := x; exact ⟨o, e, d⟩
theorem IterB.at {b : Bool} {h h' : Heap} {i a : Addr} {n : Nat} (x : IterB b h i a n) (k : ∀ o, h.get? i = some o → h'.get? i = some o) : IterB b h' i a n := by
  cases b
  · obtain ⟨o, e, c⟩ := x; exact ⟨o, k o e, c⟩
  · obtain ⟨o, e, c⟩ := x; exact ⟨o, k o e, c⟩
theorem IsB.lt {b : Bool} {h : Heap} {a : Addr} {its : Array Value} (x : IsB b h a its) : a < h.objs.size := by
  cases b
  · obtain ⟨o, e, _⟩ := x; exact Heap.lt_size e
  · obtain ⟨o, e, _⟩ := x; exact Heap.lt_size e
section
variable {X : Cx} {pins : List (Addr × Obj)} {σ : L2.St} {H : Hp} {s : Shared}
theorem seqB {b : Bool} {a : Addr} {xs : List V} (I : Inv X pins σ H s) (h : SqB X.K b H a xs) : ∃ its, Vals xs its ∧ IsB b s.heap a its.toArray := by
  cases b
  · obtain ⟨its, rv, p, _⟩ := I.list h; exact ⟨its, rv, p.isList⟩
  · obtain ⟨its, rv, p, _⟩ := I.tuple h; exact ⟨its, rv, p⟩
theorem seqB_inj {b : Bool} {a : Addr} {xs ys : List V} (I : Inv X pins σ H s) (h : SqB X.K b H a xs) (g : SqB X.K b H a ys) : xs = ys := by
  cases b
  · exact I.list_inj h g
  · exact I.tuple_inj h g
end
def ItzB (K : PySem.W.Frag) (b1 b2 : Bool) (a b : Addr) : It :=
  ⟨fun i H => ∃ (xs ys : List V) (x y : V), SqB K b1 H a xs ∧ SqB K b2 H b ys ∧ xs[i]? = some x ∧ ys[i]? = some y,
    fun i H v H' => ∃ T x y, v = .ref T ∧ H T = none ∧ H' = upd H T (.tup [x, y]) ∧ (∀ xs, SqB K b1 H a xs → xs[i]? = some x) ∧ ∀ ys, SqB K b2 H b ys → ys[i]? = some y,
    fun i H => ∃ xs ys : List V, SqB K b1 H a xs ∧ SqB K b2 H b ys ∧ i ≤ xs.length ∧ i ≤ ys.length ∧ (xs.length ≤ i ∨ ys.length ≤ i)⟩
theorem sep_of {z TI TO i1 i2 a b : Addr} (D : ZipApart z TI TO i1 i2 a b) : ZipSep2 z TI TO i1 i2 [i1, a] [i2, b] where
  TIz := D.TIz
  TOz := D.TOz
  TITO := D.TITO
  TIi1 := D.TIi1
  mem1 := by simp
  zf1 := by simp; exact ⟨D.i1z.symm, D.l1z.symm⟩
  Tf1 := by simp; exact ⟨D.TOi1, D.l1TO.symm⟩
  TIi2 := D.TIi2
  mem2 := by simp
  zf2 := by simp; exact ⟨D.i2z.symm, D.l2z.symm⟩
  Tf2 := by simp; exact ⟨D.TOi2, D.l2TO.symm⟩
  sep1_2 := by simp; exact ⟨D.i12, D.l2i1.symm⟩
  sep2_1 := by simp; exact ⟨D.i12.symm, D.l1i2.symm⟩
theorem turn_zipB {P : Program} {w : World} {K : PySem.W.Frag} {elts : List Expr} {kk : Nat} {tpos : Pos} {b1 b2 : Bool} {a b z TI TO i1 i2 : Addr} (D : ZipApart z TI TO i1 i2 a b) :
    Turn P w K (.Tuple elts kk tpos) (ItzB K b1 b2 a b) [z, TI, TO, i1, i2] z (fun i h => IsZip h z TI TO .none ∧ IsTupOf2 h TI (.ref i1) (.ref i2) ∧ (∃ x y, IsTupOf2 h TO x y) ∧ IterB b1 h i1 a i ∧ IterB b2 h i2 b i) where
  mem := by simp
  obj := fun i h st c hc => by
    obtain ⟨hz, hTI, ⟨x, y, hTO⟩, h1, h2⟩ := st
    obtain ⟨o1, e1, d1⟩ := h1.obj
    obtain ⟨o2, e2, d2⟩ := h2.obj
    have e' : c = z ∨ c = TI ∨ c = TO ∨ c = i1 ∨ c = i2 := by simpa using hc
    rcases e' with q | q | q | q | q
    · rw [q]; exact ⟨_, hz, fun v q => nomatch q⟩
    · rw [q]; exact ⟨_, hTI, fun v q => nomatch q⟩
    · rw [q]; exact ⟨_, hTO, fun v q => nomatch q⟩
    · rw [q]; exact ⟨o1, e1, fun v q => by rw [d1] at q; cases q⟩
    · rw [q]; exact ⟨o2, e2, fun v q => by rw [d2] at q; cases q⟩
  keep := fun i h h' st k => by
    obtain ⟨hz, hTI, ⟨x, y, hTO⟩, h1, h2⟩ := st
    exact ⟨k z (by simp) _ hz, k TI (by simp) _ hTI, ⟨x, y, k TO (by simp) _ hTO⟩, h1.at fun o q => k i1 (by simp) o q, h2.at fun o q => k i2 (by simp) o q⟩
  item := by
    intro X hP hw hK hc i pins s σ H E I hf st hg
    subst hP hw hK
    obtain ⟨hz, hTI, ⟨x0, y0, hTO⟩, h1, h2⟩ := st
    obtain ⟨xs, ys, x, y, hqx, hqy, hx, hy⟩ := hg
    obtain ⟨its, rv, p⟩ := seqB I hqx
    obtain ⟨its2, rv2, p2⟩ := seqB I hqy
    obtain ⟨u, hu, ru⟩ := rv.get hx
    obtain ⟨u2, hu2, ru2⟩ := rv2.get hy
    have hzl : z < s.heap.objs.size := Heap.lt_size hz
    have hh : X.A.in1.handled = none := I.ok.hd hc
    refine wpAny_pyNext_zipD2_item (sep_of D) (drawsB b1 hh i1 a D.l1i1 its.toArray) (drawsB b2 hh i2 b D.l2i2 its2.toArray) hz hTI hTO ⟨h1, p⟩ ⟨h2, p2⟩
      (by rw [List.size_toArray]; exact (List.getElem?_eq_some_iff.mp hu).1) (by rw [List.size_toArray]; exact (List.getElem?_eq_some_iff.mp hu2).1) fun x1 x2 h' tk hP1 hP2 z' TO' s1' s2' hT hsz hk => ?_
    have ex1 : x1 = u := by
      have hP' : its.toArray[i]? = some x1 := hP1
      rw [List.getElem?_toArray, hu] at hP'
      exact (Option.some.inj hP').symm
    have ex2 : x2 = u2 := by
      have hP' : its2.toArray[i]? = some x2 := hP2
      rw [List.getElem?_toArray, hu2] at hP'
      exact (Option.some.inj hP').symm
    subst ex1 ex2
    obtain ⟨h1', _⟩ := s1'
    obtain ⟨h2', _⟩ := s2'
    refine ⟨_, rfl, wpAny_letOwnedTupleGo_zip (s := { s with heap := h', toks := tk }) z' fun h'' z'' sb => ?_⟩
    have hT2 : h''.get? s.heap.objs.size = some { cls := .type "tuple", data := .seq #[x1, x2] } := (sb.2 _ (Nat.ne_of_gt hzl)).trans hT
    have new : ObjOk X.prog X.w (upd H s.heap.objs.size (.tup [x, y])) h'' s.heap.objs.size (.tup [x, y]) :=
      ⟨by show 2 ≤ sizeLine; decide, [x1, x2], .cons ru (.cons ru2 .nil), ⟨_, hT2, rfl, _, rfl⟩⟩
    have I1 : Inv X pins σ (upd H s.heap.objs.size (.tup [x, y])) { s with heap := h'', toks := tk } :=
      I.turnedNew (t' := tk) (ch := [z, TI, TO, i1, i2]) (fun c o hb q => (sb.2 c (fun q' => hb (by simp [q']))).trans (hk c o (fun q' => hb (by simp [q'])) (fun q' => hb (by simp [q'])) (fun q' => hb (by simp [q'])) (fun q' => hb (by simp [q'])) q)) hf (Nat.le_refl _) new
    refine ⟨.ref s.heap.objs.size, _, I1, rfl, ⟨_, x, y, rfl, I.hok.fresh (Nat.le_refl _), rfl, fun l hl => by rw [seqB_inj I hl hqx]; exact hx, fun l hl => by rw [seqB_inj I hl hqy]; exact hy⟩, ⟨z'', ?_, ⟨x1, x2, ?_⟩, ?_, ?_⟩, fun c hcm => ?_⟩
    · exact (sb.2 _ D.TIz).trans (hk _ _ D.TIz D.TITO D.TIi1 D.TIi2 hTI)
    · exact (sb.2 _ D.TOz).trans TO'
    · exact h1'.at fun o q => (sb.2 _ D.i1z).trans q
    · exact h2'.at fun o q => (sb.2 _ D.i2z).trans q
    · have hlt : c < s.heap.objs.size := by
        obtain ⟨o1, e1, _⟩ := h1.obj
        obtain ⟨o2, e2, _⟩ := h2.obj
        have e' : c = z ∨ c = TI ∨ c = TO ∨ c = i1 ∨ c = i2 := by simpa using hcm
        rcases e' with q | q | q | q | q
        · rw [q]; exact hzl
        · rw [q]; exact Heap.lt_size hTI
        · rw [q]; exact Heap.lt_size hTO
        · rw [q]; exact Heap.lt_size e1
        · rw [q]; exact Heap.lt_size e2
      rw [upd_ne (Nat.ne_of_lt hlt)]
      exact (hf c hcm).1
  done := by
    intro X hP hw hK hc i pins s σ H E I hf st hg
    subst hP hw hK
    obtain ⟨hz, hTI, ⟨x0, y0, hTO⟩, h1, h2⟩ := st
    obtain ⟨xs, ys, hqx, hqy, hle1, hle2, hend⟩ := hg
    obtain ⟨its, rv, p⟩ := seqB I hqx
    obtain ⟨its2, rv2, p2⟩ := seqB I hqy
    have l1 := rv.length
    have l2 := rv2.length
    have hh : X.A.in1.handled = none := I.ok.hd hc
    exact wpAny_pyNext_zipD2_end (sep_of D) (drawsB b1 hh i1 a D.l1i1 its.toArray) (drawsB b2 hh i2 b D.l2i2 its2.toArray) hz hTI hTO ⟨h1, p⟩ ⟨h2, p2⟩ (by simp; omega) (by simp; omega) (by simp; omega) fun h' tk hk =>
      ⟨rfl, I.turnedL (t' := tk) (ch := [z, TI, TO, i1, i2]) (fun c o hb q => hk c o (fun q' => hb (by simp [q'])) (fun q' => hb (by simp [q'])) (fun q' => hb (by simp [q'])) (fun q' => hb (by simp [q'])) q) hf⟩
  self := fun A i s Q E st h => wpAny_pyIter_zip st.1 h
def iZipB (K : PySem.W.Frag) (ta : TA) : TI := fun σ H R => ta σ H fun vs H1 => ∃ a b b1 b2 xs ys, vs = [.ref a, .ref b] ∧ SqB K b1 H1 a xs ∧ SqB K b2 H1 b ys ∧ R (ItzB K b1 b2 a b) H1
theorem pi_zipB {X : Cx} {K : PySem.W.Frag} {e e2 : Expr} {ta : TA} {p pos tpos : Pos} {elts : List Expr} {kk : Nat} (hK : X.K = K) (hg : Gl X "zip") (hm : X.mg "zip" = none) (ha : PA X [e, e2] ta)
    (hs : starEach [e, e2] X.env = (false, eval e X.env) :: starEach [e2] X.env := by rfl) (hpl : (backTo pos (starEach [e2] X.env)).any (·.1) = false := by rfl) :
    PI X (.Tuple elts kk tpos) (.Call (.Name "zip" p) [e, e2] [] pos) (iZipB K ta) := by
  subst hK
  refine ⟨fun pins s σ H R I h => ?_⟩
  refine Call_ (ld_blt I hg hm PyProof.Rows.boot_zip (PyProof.Rows.callWith_type1 (thn (ha.run pos pins s σ H _ I h) fun us s1 ⟨vs, H1, I1, r1, q1⟩ => ?_) hs hpl))
  obtain ⟨a, b, b1, b2, xs, ys, ex, hqx, hqy, q⟩ := q1
  subst ex
  cases r1 with
  | cons r rr =>
    cases rr with
    | cons r' rr =>
      cases rr
      cases r
      cases r'
      have fresh5 : ∀ c, c ∈ [s1.heap.objs.size + 4, s1.heap.objs.size + 2, s1.heap.objs.size + 3, s1.heap.objs.size, s1.heap.objs.size + 1] → FpOk X pins H1 c := fun c hcm => by
        have e' : c = s1.heap.objs.size + 4 ∨ c = s1.heap.objs.size + 2 ∨ c = s1.heap.objs.size + 3 ∨ c = s1.heap.objs.size ∨ c = s1.heap.objs.size + 1 := by simpa using hcm
        have hle : s1.heap.objs.size ≤ c := by
          rcases e' with z | z | z | z | z
          · rw [z]; exact Nat.le_add_right _ _
          · rw [z]; exact Nat.le_add_right _ _
          · rw [z]; exact Nat.le_add_right _ _
          · rw [z]; exact Nat.le_refl _
          · rw [z]; exact Nat.le_add_right _ _
        exact I1.fpOk hle (I1.hok.fresh hle)
      obtain ⟨its, rv, p1⟩ := seqB I1 hqx
      obtain ⟨its2, rv2, p2⟩ := seqB I1 hqy
      refine zip_begins2 (beginsB b1 a its.toArray) (beginsB b2 b its2.toArray) p1 p2 fun h' hz hTI hTO h1 h2 hsz hk => wpAny_pyIter_zip hz ?_
      have I2 : Inv X pins σ H1 { s1 with heap := h' } := I1.kept (t' := s1.toks) hk
      exact ⟨s1.heap.objs.size + 4, [s1.heap.objs.size + 4, s1.heap.objs.size + 2, s1.heap.objs.size + 3, s1.heap.objs.size, s1.heap.objs.size + 1], _, _, H1, rfl, I2, turn_zipB (PySem.W.ktu_apart s1.heap.objs.size a b p1.lt p2.lt), ⟨hz, hTI, ⟨_, _, hTO⟩, iterB0 h1, iterB0 h2⟩, fresh5, q⟩
theorem walk_zipB {K : PySem.W.Frag} {b1 b2 : Bool} {a b : Addr} {xs ys : List V} {n : Nat} (hn : n = min xs.length ys.length) : Walk (ItzB K b1 b2 a b) n (fun H => SqB K b1 H a xs ∧ SqB K b2 H b ys) (YPair (fun i => xs[i]?) (fun i => ys[i]?)) := by
  subst hn
  refine ⟨fun i _ hi q => ?_, fun _ q => ⟨xs, ys, q.1, q.2, by omega, by omega, by omega⟩, fun i H v H' _ q y => ?_⟩
  · have h1 : i < xs.length := by omega
    have h2 : i < ys.length := by omega
    exact ⟨xs, ys, xs[i], ys[i], q.1, q.2, by simp [h1], by simp [h2]⟩
  · obtain ⟨T, x, z, h1, h2, h3, h4, h5⟩ := y
    exact ⟨T, x, z, h1, h2, h3, h4 xs q.1, h5 ys q.2⟩
end U

namespace U
open PySem L2 PySem.Spec PyProof.Rows
section
variable {K : PySem.W.Frag} {σ : L2.St} {H : Hp} {a b A : Addr} {b1 b2 : Bool} {vs xs ys : List V} {g : TG} {tb : TS} {D : Ends} {R : It → Hp → Prop} {ta : TA} {tl : TE}
variable {tt : TT} {te : TE} {ns : List Nat} {Qd : Hp → Prop} {n : Nat}
/-! zip -/
theorem for_zB (hn : n = min xs.length ys.length) (Pv : Nat → L2.St → Hp → Prop) (h0 : Pv 0 σ H) (hG : ∀ i σ' H', Pv i σ' H' → SqB K b1 H' a xs ∧ SqB K b2 H' b ys)
    (hs : ∀ i x y σ' H' T H2, xs[i]? = some x → ys[i]? = some y → Pv i σ' H' → H' T = none → H2 T = some (.tup [x, y]) → Kp [] H' H2 → g (.ref T) σ' H2 fun σ2 H3 => tb { D with nx := Pv (i + 1), ct := Pv (i + 1), bk := D.nx } σ2 H3) (hd : ∀ σ' H', Pv n σ' H' → D.nx σ' H') :
    ∃ W : Nat → Nat → L2.St → Hp → Prop, (∃ m, W 0 m σ H) ∧ ∀ i m σ H, W i m σ H →
      ((ItzB K b1 b2 a b).stop i H ∧ D.nx σ H) ∨ ((ItzB K b1 b2 a b).go i H ∧ ∃ N : L2.St → Hp → Prop, (∀ σ' H', N σ' H' → ∃ m', m' < m ∧ W (i + 1) m' σ' H') ∧ ∀ x H', (ItzB K b1 b2 a b).yld i H x H' → g x σ H' fun σ2 H2 => tb { D with nx := N, ct := N, bk := D.nx } σ2 H2) :=
  for_it (walk_zipB hn) Pv h0 (fun i σ' H' _ p => hG i σ' H' p) (fun i x σ' H1 H2 hi p y => by
    obtain ⟨T, x1, x2, rfl, f, rfl, e1, e2⟩ := y
    exact hs i x1 x2 σ' H1 T _ e1 e2 p f upd_same (Kp.refl.new f)) hd
theorem lc_zB (hn : n = min xs.length ys.length) (hA : H A = none) (Pv : Nat → List V → Hp → Prop) (h0 : ∀ H', H' A = some (.lst []) → Kp [] H H' → Pv 0 [] H') (hG : ∀ i acc H', H' A = some (.lst acc) → Pv i acc H' → SqB K b1 H' a xs ∧ SqB K b2 H' b ys)
    (hs : ∀ i x y acc H' T H2, xs[i]? = some x → ys[i]? = some y → H' A = some (.lst acc) → Pv i acc H' → H' T = none → H2 T = some (.tup [x, y]) → Kp [] H' H2 → g (.ref T) (wipe σ ns) H2 fun σ2 H2 => wipe σ2 ns = wipe σ ns ∧ tt σ2 H2 fun b H3 =>
      if b = true then te σ2 H3 fun y H4 => ∃ acc, H4 A = some (.lst acc) ∧ acc.length < sizeLine ∧ PvD A Pv (i + 1) (upd H4 A (.lst (acc ++ [y]))) else PvD A Pv (i + 1) H3) (hd : ∀ acc H', H' A = some (.lst acc) → Pv n acc H' → Qd H') :
    ∃ W : Nat → Nat → Hp → Prop, (∃ m, W 0 m (upd H A (.lst []))) ∧ ∀ i m H, W i m H →
      ((ItzB K b1 b2 a b).stop i H ∧ Qd H) ∨ ((ItzB K b1 b2 a b).go i H ∧ ∃ Nx : Hp → Prop, (∀ H', Nx H' → ∃ m', m' < m ∧ W (i + 1) m' H') ∧ ∀ x H', (ItzB K b1 b2 a b).yld i H x H' → g x (wipe σ ns) H' fun σ2 H2 => wipe σ2 ns = wipe σ ns ∧ tt σ2 H2 fun b H3 =>
        if b = true then te σ2 H3 fun y H4 => ∃ acc, H4 A = some (.lst acc) ∧ acc.length < sizeLine ∧ Nx (upd H4 A (.lst (acc ++ [y]))) else Nx H3) :=
  lc_it (walk_zipB hn) (PvD A Pv) (PvD.begin hA h0) (fun i H' _ p => by
    obtain ⟨acc, ea, p⟩ := p
    exact hG i acc H' ea p) (fun i x H1 H2 hi p y => by
    obtain ⟨T, x1, x2, rfl, f, rfl, e1, e2⟩ := y
    obtain ⟨acc, ea, p⟩ := p
    exact hs i x1 x2 acc H1 T _ e1 e2 ea p f upd_same (Kp.refl.new f)) (fun H' p => by
    obtain ⟨acc, ea, p⟩ := p
    exact hd acc H' ea p)
theorem s_izB (h : ta σ H fun vs H1 => ∃ a b b1 b2 xs ys, vs = [.ref a, .ref b] ∧ SqB K b1 H1 a xs ∧ SqB K b2 H1 b ys ∧ R (ItzB K b1 b2 a b) H1) : iZipB K ta σ H R := h
theorem s_zB {S : Addr → Addr → Bool → Bool → Prop} (b1 b2 : Bool) (xs ys : List V) (h1 : SqB K b1 H a xs) (h2 : SqB K b2 H b ys) (q : S a b b1 b2) : ∃ a' b' b1 b2 xs ys, [V.ref a, V.ref b] = [.ref a', .ref b'] ∧ SqB K b1 H a' xs ∧ SqB K b2 H b' ys ∧ S a' b' b1 b2 := ⟨a, b, b1, b2, xs, ys, rfl, h1, h2, q⟩
theorem sqb_L (h : H a = some (.lst xs)) : SqB K false H a xs := SqL.of h
theorem sqb_T (h : H a = some (.tup xs)) : SqB K true H a xs := SqT.of h
theorem sqb_K (h : KT K a xs) : SqB K true H a xs := h.sq
/-! walks over tuples of the module -/
theorem s_itK {S : Addr → Prop} (h : KT K a xs) (q : S a) : ∃ a', V.ref a = .ref a' ∧ (∃ xs, SqT K H a' xs) ∧ S a' := ⟨a, rfl, ⟨xs, h.sq⟩, q⟩
theorem for_K (e : KT K a vs) (Pv : Nat → L2.St → Hp → Prop) (h0 : Pv 0 σ H)
    (hs : ∀ i x σ' H', vs[i]? = some x → Pv i σ' H' → g x σ' H' fun σ2 H2 => tb { D with nx := Pv (i + 1), ct := Pv (i + 1), bk := D.nx } σ2 H2) (hd : ∀ σ' H', Pv vs.length σ' H' → D.nx σ' H') :
    ∃ W : Nat → Nat → L2.St → Hp → Prop, (∃ m, W 0 m σ H) ∧ ∀ i m σ H, W i m σ H →
      ((Itt K a).stop i H ∧ D.nx σ H) ∨ ((Itt K a).go i H ∧ ∃ N : L2.St → Hp → Prop, (∀ σ' H', N σ' H' → ∃ m', m' < m ∧ W (i + 1) m' σ' H') ∧ ∀ x H', (Itt K a).yld i H x H' → g x σ H' fun σ2 H2 => tb { D with nx := N, ct := N, bk := D.nx } σ2 H2) :=
  for_it (walk_tup (xs := vs)) Pv h0 (fun i σ' H' _ p => e.sq) (fun i x σ' H1 H2 hi p y => by
    obtain ⟨rfl, ex⟩ := y
    exact hs i x σ' H2 ex p) hd
theorem lc_K (e : KT K a vs) (hA : H A = none) (Pv : Nat → List V → Hp → Prop) (h0 : ∀ H', H' A = some (.lst []) → Kp [] H H' → Pv 0 [] H')
    (hs : ∀ i x acc H', vs[i]? = some x → H' A = some (.lst acc) → Pv i acc H' → g x (wipe σ ns) H' fun σ2 H2 => wipe σ2 ns = wipe σ ns ∧ tt σ2 H2 fun b H3 =>
      if b = true then te σ2 H3 fun y H4 => ∃ acc, H4 A = some (.lst acc) ∧ acc.length < sizeLine ∧ PvD A Pv (i + 1) (upd H4 A (.lst (acc ++ [y]))) else PvD A Pv (i + 1) H3) (hd : ∀ acc H', H' A = some (.lst acc) → Pv vs.length acc H' → Qd H') :
    ∃ W : Nat → Nat → Hp → Prop, (∃ m, W 0 m (upd H A (.lst []))) ∧ ∀ i m H, W i m H →
      ((Itt K a).stop i H ∧ Qd H) ∨ ((Itt K a).go i H ∧ ∃ Nx : Hp → Prop, (∀ H', Nx H' → ∃ m', m' < m ∧ W (i + 1) m' H') ∧ ∀ x H', (Itt K a).yld i H x H' → g x (wipe σ ns) H' fun σ2 H2 => wipe σ2 ns = wipe σ ns ∧ tt σ2 H2 fun b H3 =>
        if b = true then te σ2 H3 fun y H4 => ∃ acc, H4 A = some (.lst acc) ∧ acc.length < sizeLine ∧ Nx (upd H4 A (.lst (acc ++ [y]))) else Nx H3) :=
  lc_it (walk_tup (xs := vs)) (PvD A Pv) (PvD.begin hA h0) (fun i H' _ p => e.sq) (fun i x H1 H2 hi p y => by
    obtain ⟨rfl, ex⟩ := y
    obtain ⟨acc, ea, p⟩ := p
    exact hs i x acc H2 ex ea p) (fun H' p => by
    obtain ⟨acc, ea, p⟩ := p
    exact hd acc H' ea p)
end
/-! written dicts of the module: texts to tuples of texts -/
structure KF (K : PySem.W.Frag) (w : World) (a : Addr) (f : Str → Option (List Str)) : Prop where
  ex : ∃ es n, KDict K w a es n
  hit : ∀ z xs, f z = some xs → ∃ t, PySem.W.nsIn K a z = some (some (.ref t)) ∧ KT K t (xs.map V.str)
  miss : ∀ z, f z = none → PySem.W.nsIn K a z = some none
def lk (l : List (Str × List Str)) (z : Str) : Option (List Str) := (l.find? fun p => p.1 == z).map Prod.snd
def Ents (K : PySem.W.Frag) (P : Params) : List DictEntry → List (Str × List Str) → Prop
  | [], [] => True
  | e :: r, kx :: s => ((∃ tk, e.key = .str kx.1 tk) ∧ e.hash = PyData.keyHash P kx.1 ∧ ∃ t, e.val = .ref t ∧ KT K t (kx.2.map V.str)) ∧ Ents K P r s
  | _, _ => False
theorem Ents.nil {K : PySem.W.Frag} {P : Params} : Ents K P [] [] := trivial
theorem Ents.cons {K : PySem.W.Frag} {P : Params} {e : DictEntry} {r : List DictEntry} {k : Str} {xs : List Str} {s : List (Str × List Str)} {t : Addr} (h1 : ∃ tk, e.key = .str k tk) (h2 : e.hash = PyData.keyHash P k) (h3 : e.val = .ref t) (h4 : KT K t (xs.map V.str)) (h5 : Ents K P r s) : Ents K P (e :: r) ((k, xs) :: s) :=
  ⟨⟨h1, h2, t, h3, h4⟩, h5⟩
theorem Ents.lit {K : PySem.W.Frag} {P : Params} : ∀ {es : List DictEntry} {l : List (Str × List Str)}, Ents K P es l → PySem.W.KeysLit P es
  | [], _, _ => trivial
  | _ :: _, [], h => h.elim
  | e :: r, kx :: s, ⟨⟨⟨tk, h1⟩, h2, _⟩, h3⟩ => ⟨⟨kx.1, tk, h1, h2⟩, Ents.lit h3⟩
theorem Ents.noref {K : PySem.W.Frag} {P : Params} : ∀ {es : List DictEntry} {l : List (Str × List Str)}, Ents K P es l → es.any (·.refKey) = false
  | [], _, _ => rfl
  | _ :: _, [], h => h.elim
  | e :: r, kx :: s, ⟨⟨⟨tk, h1⟩, h2, _⟩, h3⟩ => by
    rw [List.any_cons, Ents.noref h3, Bool.or_false]
    unfold DictEntry.refKey
    rw [h1]
theorem Ents.find {K : PySem.W.Frag} {P : Params} (z : Str) : ∀ {es : List DictEntry} {l : List (Str × List Str)}, Ents K P es l → match lk l z with
    | none => es.find? (·.key.isStr z) = none
    | some xs => ∃ e t, es.find? (·.key.isStr z) = some e ∧ e.val = .ref t ∧ KT K t (xs.map V.str)
  | [], [], _ => rfl
  | [], _ :: _, h => h.elim
  | _ :: _, [], h => h.elim
  | e :: r, kx :: s, ⟨⟨⟨tk, h1⟩, h2, t, h4, h5⟩, h3⟩ => by
    have hs : e.key.isStr z = (kx.1 == z) := by rw [h1]; rfl
    have ih := Ents.find z h3
    unfold lk at ih ⊢
    cases hb : (kx.1 == z) with
    | true =>
      rw [List.find?_cons_of_pos (by exact hb)]
      exact ⟨e, t, by rw [List.find?_cons_of_pos (by rw [hs]; exact hb)], h4, h5⟩
    | false =>
      rw [List.find?_cons_of_neg (by rw [hb]; simp), List.find?_cons_of_neg (by rw [hs, hb]; simp)]
      exact ih
theorem KF.mk' {K : PySem.W.Frag} {w : World} {a : Addr} {l : List (Str × List Str)} {es : Array DictEntry} {n : Nat} (hl : K.lookup a = some ⟨.type "dict", none, .dict es n, #[]⟩) (low : (a == sysModules) = false) (h : Ents K w.params es.toList l) : KF K w a (lk l) := by
  refine ⟨⟨es, n, hl, h.lit, low⟩, fun z xs e => ?_, fun z e => ?_⟩
  · have f := h.find z
    rw [e] at f
    obtain ⟨d, t, f1, f2, f3⟩ := f
    refine ⟨t, ?_, f3⟩
    unfold PySem.W.nsIn
    rw [hl]
    dsimp only
    rw [f1]
    dsimp only
    rw [f2]
  · have f := h.find z
    rw [e] at f
    unfold PySem.W.nsIn
    rw [hl]
    dsimp only
    rw [f]
    dsimp only
    rw [h.noref]
    rfl
def rInF (K : PySem.W.Frag) (w : World) (ng : Bool) : R2 := fun x y H Q => ∃ (d : Addr) (es : Array DictEntry) (n : Nat) (z : Str) (r : Option Value), x = .str z ∧ y = .ref d ∧ KDict K w d es n ∧ PySem.W.nsIn K d z = some r ∧ Q (.bl (xor ng r.isSome)) H
section
variable {X : Cx} {K : PySem.W.Frag} {w : World} {H : Hp} {Q : VK} {d : Addr} {f : Str → Option (List Str)} {z : Str} {xs : List Str}
theorem o_inF (hK : X.K = K) (hw : X.w = w) : OpR X (compareOp .In) (rInF K w false) := by
  subst hK hw
  intro pins s σ H x y v u Q I rx ry h
  obtain ⟨d, es, n, z, r, rfl, rfl, D, e, q⟩ := h
  exact op_in_kd D pins s σ H _ _ v u Q I rx ry ⟨z, r, rfl, rfl, e, by simpa using q⟩
theorem o_notinF (hK : X.K = K) (hw : X.w = w) : OpR X (compareOp .NotIn) (rInF K w true) := by
  subst hK hw
  intro pins s σ H x y v u Q I rx ry h
  obtain ⟨d, es, n, z, r, rfl, rfl, D, e, q⟩ := h
  exact op_notIn_kd D pins s σ H _ _ v u Q I rx ry ⟨z, r, rfl, rfl, e, by simpa using q⟩
theorem s_inF {ng : Bool} (h : KF K w d f) (q : Q (.bl (xor ng (f z).isSome)) H) : rInF K w ng (.str z) (.ref d) H Q := by
  obtain ⟨es, n, D⟩ := h.ex
  cases e : f z with
  | none => exact ⟨d, es, n, z, none, rfl, rfl, D, h.miss z e, by rw [e] at q; exact q⟩
  | some xs =>
    obtain ⟨t, e1, _⟩ := h.hit z xs e
    exact ⟨d, es, n, z, _, rfl, rfl, D, e1, by rw [e] at q; exact q⟩
theorem ix_F (hK : X.K = K) (hw : X.w = w) : IxR X (rIxD K w) := by
  subst hK hw
  exact ix_kdict
theorem s_ixF (h : KF K w d f) (e : f z = some xs) (q : ∀ t, KT K t (xs.map V.str) → Q (.ref t) H) : rIxD K w (.ref d) (.str z) H Q := by
  obtain ⟨es, n, D⟩ := h.ex
  obtain ⟨t, e1, e2⟩ := h.hit z xs e
  exact ⟨d, z, .ref t, rfl, rfl, ⟨es, n, _, D.at_, D.lit, e1, rfl⟩, q t e2⟩
end
/-! list.pop(0), str(x), tuple + tuple, isdigit, len of a tuple -/
section
variable {X : Cx} {K : PySem.W.Frag} {H : Hp} {Q : VK} {p a b : Addr} {xs ys : List V} {x : V} {z : Str} {n : Int} {o : Expr} {to : TE}
theorem s_pop0 (h : H p = some (.lst (x :: xs))) (q : ∀ H', H' p = some (.lst xs) → Kp [p] H H' → Q x H') : rPopAt (.ref p) [.int 0] H Q :=
  ⟨p, x :: xs, 0, 0, x, rfl, rfl, h, by decide, by decide, (by simp [seqIndex?]), rfl, put_abs h rfl (R := fun H' => Q x H') q⟩
def uStrA : List V → Hp → VK → Prop := fun xs H Q => uStr xs H Q ∨ ∃ a, xs = [.str a] ∧ Q (.str a) H
theorem c_strA : CallR X (.type "str") uStrA := by
  intro pins s σ H xs us Q I r h
  rcases h with h | h
  · exact c_str pins s σ H xs us Q I r h
  · exact SkE.call_str_str pins s σ H xs us Q I r h
theorem s_strS (q : Q (.str z) H) : uStrA [.str z] H Q := Or.inr ⟨z, rfl, q⟩
theorem s_cat (ha : H a = some (.tup xs)) (hb : H b = some (.tup ys)) (n1 : xs ≠ []) (n2 : ys ≠ []) (hz : xs.length + ys.length ≤ sizeLine) (q : ∀ p H', H p = none → H' p = some (.tup (xs ++ ys)) → Kp [] H H' → Q (.ref p) H') : uAdd K (.ref a) (.ref b) H Q :=
  Or.inr (Or.inr (Or.inr ⟨a, b, xs, ys, rfl, rfl, SqT.of ha, SqT.of hb, hz, fun e => (n1 e).elim, fun _ e => (n2 e).elim, fun _ _ => new_abs (R := fun p H' => Q (.ref p) H') q⟩))
theorem pe_isdg {apos pos : Pos} (ho : PE X o to) (hbase : attributeBase o "isdigit" X.env (eval o X.env) = eval o X.env := by rfl) (hline : (apos.endLine == pos.line) = true := by rfl) :
    PE X (.Call (.Attribute o "isdigit" apos) [] [] pos) (tM0 (fun x xs H Q => ∃ a, x = .str a ∧ xs = [] ∧ True ∧ Q (.bl (Txt.isdigit a)) H) to) :=
  pe_m0 F.slot_str_isdigit F.type_str_isdigit mt_isdigit ho hbase hline
theorem s_isdg (q : Q (.bl (Txt.isdigit z)) H) : ∃ a, V.str z = .str a ∧ ([] : List V) = [] ∧ True ∧ Q (.bl (Txt.isdigit a)) H := ⟨z, rfl, rfl, trivial, q⟩
end
/-! x == (), x a tuple of any things -/
def uEqE (K : PySem.W.Frag) : R2 := fun x y H Q => ∃ a b xs, x = .ref a ∧ y = .ref b ∧ SqT K H a xs ∧ SqT K H b [] ∧ Q (.bl xs.isEmpty) H
section
variable {X : Cx} {K : PySem.W.Frag} {H : Hp} {Q : VK} {a b : Addr} {xs : List V} {k : Nat}
theorem o_eqE (hK : X.K = K) (hr : Room k X.A) : OpR X (compareOp .Eq) (uEqE K) := by
  subst hK
  intro pins s σ H x y v u Q I rx ry h
  obtain ⟨a, b, xs, rfl, rfl, h1, h2, q⟩ := h
  cases rx
  cases ry
  obtain ⟨its, rv, p, _⟩ := I.tuple h1
  obtain ⟨its2, rv2, p2, _⟩ := I.tuple h2
  have e2 : its2 = [] := by cases rv2; rfl
  subst e2
  refine SeqAt.eq_tupleAt (e := fun _ => true) p p2 (Nat.lt_of_succ_lt (hu_of hr)) (fun j _ h => absurd h (by simp)) ⟨.bl xs.isEmpty, H, I, ?_, q⟩
  cases rv with
  | nil => rfl
  | cons r rr => exact congrArg Value.bool (by simp)
theorem s_eqE (h1 : H a = some (.tup xs)) (h2 : H b = some (.tup [])) (q : Q (.bl xs.isEmpty) H) : uEqE K (.ref a) (.ref b) H Q := ⟨a, b, xs, rfl, rfl, SqT.of h1, SqT.of h2, q⟩
end
end U

namespace U
open PySem L2 PySem.Spec PyProof.Rows
section
variable {K : PySem.W.Frag} {H H1 : Hp} {Q : VK} {p a b : Addr} {xs ys : List V} {z : Str}
/-- tuple + tuple, of any lengths -/
theorem s_catG (ha : H a = some (.tup xs)) (hb : H b = some (.tup ys)) (hz : xs.length + ys.length ≤ sizeLine) (q : ∀ p H', H' p = some (.tup (xs ++ ys)) → Kp [] H H' → Q (.ref p) H') : uAdd K (.ref a) (.ref b) H Q :=
  Or.inr (Or.inr (Or.inr ⟨a, b, xs, ys, rfl, rfl, SqT.of ha, SqT.of hb, hz, fun e => q b H (by rw [e]; exact hb) Kp.refl, fun _ e => q a H (by rw [e, List.append_nil]; exact ha) Kp.refl, fun _ _ => new_abs (R := fun p H' => Q (.ref p) H') fun p H' _ e k => q p H' e k⟩))
/-- list + list -/
theorem s_addL (h1 : H a = some (.lst xs)) (h2 : H b = some (.lst ys)) (h : xs.length + ys.length ≤ sizeLine)
    (z : ∀ p' H', H p' = none → H' p' = some (.lst (xs ++ ys)) → Kp [] H H' → Q (.ref p') H') : uAdd K (.ref a) (.ref b) H Q := s_addl h1 h2 h z
/-- list(tuple) -/
theorem s_listT (h : H p = some (.tup xs)) (q : ∀ l H', H l = none → H' l = some (.lst xs) → Kp [] H H' → Q (.ref l) H') : uList K [.ref p] H Q := ⟨p, xs, rfl, Or.inr (SqT.of h), fun l f => q l _ f upd_same (Kp.refl.new f)⟩
theorem dna_strs : ∀ zs : List Str, DnA K H (zs.map V.str) (zs.map PyData.str)
  | [] => .nil
  | z :: zs => .cons (.str z) (dna_strs zs)
theorem dna_rep {j : Int} : ∀ m : Nat, DnA K H (List.replicate m (V.int j)) (List.replicate m (.int j))
  | 0 => .nil
  | m + 1 => by rw [List.replicate_succ, List.replicate_succ]; exact .cons (.int j) (dna_rep m)
theorem lay_rep {j : Int} : ∀ m : Nat, PyData.canLayAll0 (List.replicate m (.int j)) = true ∧ PyData.depthAll (List.replicate m (.int j)) ≤ 1
  | 0 => ⟨rfl, by simp [PyData.depthAll]⟩
  | m + 1 => by
    obtain ⟨h1, h2⟩ := lay_rep (j := j) m
    rw [List.replicate_succ]
    refine ⟨by simp only [PyData.canLayAll0, PyData.canLay0, h1, Bool.and_self], ?_⟩
    simp only [PyData.depthAll, PyData.depth]
    omega
theorem shp_rep {j : Int} (m : Nat) : SeqAt.shaped (.list (List.replicate m (.int j))) = true := by
  obtain ⟨h1, h2⟩ := lay_rep (j := j) m
  unfold SeqAt.shaped
  rw [Bool.and_eq_true]
  refine ⟨by simpa only [PyData.canLay0] using h1, decide_eq_true ?_⟩
  simp only [PyData.depth]
  omega
theorem map_one (cs : List Nat) : cs.map (fun c => V.str ⟨#[c]⟩) = (cs.map fun c => (⟨#[c]⟩ : Str)).map V.str := by rw [List.map_map]; rfl
end
theorem cut_pre (xs : List V) {n : Int} (h0 : 0 ≤ n) : cutV xs none (some n) = xs.take n.toNat := by
  obtain ⟨k, rfl⟩ := Int.eq_ofNat_of_zero_le h0
  unfold cutV
  rw [HT.sIx_none, HT.sIx_nat, List.drop_zero]
  simp
theorem cut_tail (xs : List V) {n : Int} (h0 : 0 ≤ n) : cutV xs (some n) none = xs.drop n.toNat := by
  obtain ⟨k, rfl⟩ := Int.eq_ofNat_of_zero_le h0
  unfold cutV
  rw [HT.sIx_none, HT.sIx_nat]
  apply List.ext_getElem?
  intro i
  simp [List.getElem?_take, List.getElem?_drop]
  by_cases h : k ≤ xs.length
  · rw [Nat.min_eq_left h]
    by_cases h2 : i < xs.length - k
    · rw [if_pos h2]
    · rw [if_neg h2, List.getElem?_eq_none (by omega)]
  · rw [Nat.min_eq_right (by omega), if_neg (by omega), List.getElem?_eq_none (by omega)]
theorem S_tail (cs : List Nat) {n : Int} (h0 : 0 ≤ n) : cutS (S cs) (some n) none = S (cs.drop n.toNat) := by
  rw [S_cut]
  congr 1
  obtain ⟨k, rfl⟩ := Int.eq_ofNat_of_zero_le h0
  rw [HT.sIx_none, HT.sIx_nat]
  apply List.ext_getElem?
  intro i
  simp [List.getElem?_take, List.getElem?_drop]
  by_cases h : k ≤ cs.length
  · rw [Nat.min_eq_left h]
    by_cases h2 : i < cs.length - k
    · rw [if_pos h2]
    · rw [if_neg h2, List.getElem?_eq_none (by omega)]
  · rw [Nat.min_eq_right (by omega), if_neg (by omega), List.getElem?_eq_none (by omega)]
end U

namespace U
open PySem L2 PySem.Spec PyProof.Rows
/-! repr where an error is being handled -/
section
theorem call_reprU {X : Cx} (hg : X.A.guards = some []) (hu : X.A.units + 200 < cLine) (hs : ∃ mm, X.base.Ns sysModules mm) : CallR X (.builtin "repr") (rRepr X.K) := by
  rintro pi s σ H xs us Q I vv ⟨v, d, rfl, hd, g, dp, zz, q⟩
  obtain ⟨u, rfl, rv⟩ := Vals.one vv
  obtain ⟨sh, le⟩ := good_show g
  have le2 : d.shown.length ≤ sizeLine := Nat.le_trans (Nat.le_trans le zz) (by decide)
  cases hd with
  | non => cases rv; exact PySem.P.repr_of_none ⟨.str _, H, I.tok _, ⟨_, rfl⟩, q⟩
  | bl b => cases rv; exact PySem.P.repr_of_bool ⟨.str _, H, I.tok _, ⟨_, rfl⟩, q⟩
  | int i =>
    obtain ⟨t, rfl⟩ := rv
    simp only [PyData.showable, decide_eq_true_eq] at sh
    exact PySem.P.repr_of_int sh ⟨.str _, H, I.tok _, ⟨_, rfl⟩, q⟩
  | str x =>
    obtain ⟨t, rfl⟩ := rv
    exact PySem.P.repr_of_str ⟨.str _, H, I.tok _, ⟨_, rfl⟩, q⟩ le2
  | lst h1 h2 =>
    obtain ⟨as, r1, r2⟩ := Dn.reads I hs (.lst h1 h2) rv
    cases rv
    exact repr_of_reads' r1 sh (fun _ => r2) hg (by omega) (fun _ _ e => e) (fun h' u tk hk => ⟨.str _, H, I.kept hk, ⟨_, rfl⟩, q⟩) le2
  | tup h1 h2 =>
    obtain ⟨as, r1, r2⟩ := Dn.reads I hs (.tup h1 h2) rv
    cases rv
    exact repr_of_reads' r1 sh (fun _ => r2) hg (by omega) (fun _ _ e => e) (fun h' u tk hk => ⟨.str _, H, I.kept hk, ⟨_, rfl⟩, q⟩) le2
  | dic h1 h2 =>
    obtain ⟨as, r1, r2⟩ := Dn.reads I hs (.dic h1 h2) rv
    cases rv
    exact repr_of_reads' r1 sh (fun _ => r2) hg (by omega) (fun _ _ e => e) (fun h' u tk hk => ⟨.str _, H, I.kept hk, ⟨_, rfl⟩, q⟩) le2
theorem hu200 {k : Nat} {A : Around} {h : Option Value} (r : Room k A) : (A.mark h).units + 200 < cLine := by have := r.un; show A.units + 200 < cLine; omega
theorem o_eqU {X : Cx} {K : PySem.W.Frag} (hK : X.K = K) (hu : X.A.units + 200 < cLine) : OpR X (compareOp .Eq) (uEq K) := hK ▸ op_eq.or (op_eqD (by omega))
theorem o_neU {X : Cx} {K : PySem.W.Frag} (hK : X.K = K) (hu : X.A.units + 200 < cLine) : OpR X (compareOp .NotEq) (uNe K) := hK ▸ op_ne.or (op_neD (by omega))
theorem c_reprU {X : Cx} {K : PySem.W.Frag} (hK : X.K = K) (hg : X.A.guards = some []) (hu : X.A.units + 200 < cLine) (hs : ∃ mm, X.base.Ns sysModules mm) : CallR X (.builtin "repr") (rRepr K) := hK ▸ call_reprU hg hu hs
end
end U

namespace U
open PySem L2 PySem.Spec PyProof.Rows
/-! text * number; text.index(sign) -/
def rSmul : R2 := fun x y H Q => ∃ (a : Str) (n : Int), x = .str a ∧ y = .int n ∧ MulOk a n ∧ Q (.str (Txt.mul a n)) H
section
variable {X : Cx} {K : PySem.W.Frag} {H : Hp} {Q : VK} {z : Str}
theorem op_smul : OpR X (binaryOp .Mult) rSmul := by
  intro pins s σ H x y v u Q I rx ry h
  obtain ⟨a, n, rfl, rfl, hm, q⟩ := h
  obtain ⟨t, rfl⟩ := rx
  obtain ⟨u', rfl⟩ := ry
  exact SB.mul hm fun t' k => ⟨.str _, H, I.kept (h' := s.heap) (t' := k) fun _ _ e => e, ⟨_, rfl⟩, q⟩
def uMulS : R2 := fun x y H Q => uMul x y H Q ∨ rSmul x y H Q
theorem o_mulS : OpR X (binaryOp .Mult) uMulS := o_mul.or op_smul
theorem s_mulS0 (q : Q (.str Str.empty) H) : uMulS (.str z) (.int 0) H Q := Or.inr ⟨z, 0, rfl, rfl, ⟨by decide, fun h => absurd (by decide : (0 : Int) < 1) h, fun h => absurd (by decide : (0 : Int) < 1) h⟩, q⟩
theorem s_mulS1 (q : Q (.str z) H) : uMulS (.str z) (.int 1) H Q := Or.inr ⟨z, 1, rfl, rfl, ⟨by decide, fun _ h => by simp at h, fun _ h => by simp at h⟩, by
  have : Txt.mul z 1 = z := by unfold Txt.mul; simp
  rw [this]; exact q⟩
theorem s_mulI (h : uMul (.int i) (.int j) H Q) : uMulS (.int i) (.int j) H Q := Or.inl h
/-- list * number -/
theorem s_repL {l : Addr} {k : Int} {xs : List V} (h : H l = some (.lst xs)) (h0 : 0 ≤ k) (h1 : k ≤ 1000) (hz : xs.length * k.toNat ≤ 1000000) (q : ∀ p H', H p = none → H' p = some (.lst (List.replicate k.toNat xs).flatten) → Kp [] H H' → Q (.ref p) H') : uMul (.ref l) (.int k) H Q :=
  Or.inr ⟨l, k, xs, rfl, rfl, h, by omega, by omega, zle hz, new_abs (R := fun p H' => Q (.ref p) H') q⟩
theorem pe_sidx {o e : Expr} {to te : TE} {apos pos : Pos} (ho : PE X o to) (he : PE X e te) (h1 : starEach [e] X.env = [(false, eval e X.env)] := by rfl) (h2 : attributeBase o "index" X.env (eval o X.env) = eval o X.env := by rfl) (hline : (apos.endLine == pos.line) = true := by rfl) :
    PE X (.Call (.Attribute o "index" apos) [e] [] pos) (tM1 (fun x xs H Q => ∃ a b i rest, x = .str a ∧ xs = [.str b] ∧ Builtin.Str.occurrences a b 0 a.length 1 = i :: rest ∧ Q (.int (i : Nat)) H) to te) :=
  pe_m1 F.slot_str_index F.type_str_index mt_sindex ho he h1 h2 hline
theorem dig_occ : ∀ c ∈ List.range' 48 10, Builtin.Str.occurrences "0123456789" ⟨#[c]⟩ 0 ("0123456789" : Str).length 1 = [c - 48] := by decide +kernel
theorem s_digI {c : Nat} (h0 : 48 ≤ c) (h1 : c ≤ 57) (q : Q (.int ((c - 48 : Nat) : Int)) H) : ∃ a b i rest, V.str ("0123456789" : Str) = .str a ∧ [V.str (⟨#[c]⟩ : Str)] = [.str b] ∧ Builtin.Str.occurrences a b 0 a.length 1 = i :: rest ∧ Q (.int (i : Nat)) H :=
  ⟨_, _, c - 48, [], rfl, rfl, dig_occ c (by rw [List.mem_range']; exact ⟨c - 48, by omega, by omega⟩), q⟩
end
end U

namespace U
open PySem L2 PySem.Spec PyProof.Rows
/-! any list against [] -/
def uNeE (K : PySem.W.Frag) : R2 := fun x y H Q => ∃ a b xs, x = .ref a ∧ y = .ref b ∧ SqL K H a xs ∧ SqL K H b [] ∧ Q (.bl (!xs.isEmpty)) H
section
variable {X : Cx} {K : PySem.W.Frag} {H : Hp} {Q : VK} {a b : Addr} {xs : List V} {k : Nat}
theorem o_neE (hK : X.K = K) (hr : Room k X.A) : OpR X (compareOp .NotEq) (uNeE K) := by
  subst hK
  intro pins s σ H x y v u Q I rx ry h
  obtain ⟨a, b, xs, rfl, rfl, h1, h2, q⟩ := h
  cases rx
  cases ry
  obtain ⟨its, rv, p, _⟩ := I.list h1
  obtain ⟨its2, rv2, p2, _⟩ := I.list h2
  have e2 : its2 = [] := by cases rv2; rfl
  subst e2
  have p := p.isList
  have p2 := p2.isList
  have hu : X.A.units < cLine := Nat.lt_of_succ_lt (hu_of hr)
  cases rv with
  | nil => exact SeqAt.RcNeAt.lists (e := fun _ => false) p p2 rfl hu (fun j h _ => absurd h (by simp)) _ _ _ _ ⟨.bl false, H, I, rfl, q⟩
  | cons r rr => exact SeqAt.RcNeAt.lists_lengths p p2 (by simp) hu _ _ _ _ ⟨.bl true, H, I, rfl, q⟩
theorem s_neE (h1 : H a = some (.lst xs)) (h2 : H b = some (.lst [])) (q : Q (.bl (!xs.isEmpty)) H) : uNeE K (.ref a) (.ref b) H Q := ⟨a, b, xs, rfl, rfl, SqL.of h1, SqL.of h2, q⟩
end
/-! text * number, any small ones -/
theorem s_mulSn {H : Hp} {Q : VK} {z : Str} {n : Nat} (h1 : 1 < n) (h2 : n ≤ 1000) (hz : z.length ≤ 1000) (h0 : 0 < z.length) (q : ∀ r : Str, r.length = z.length * n → (∀ c ∈ r.cps.toList, c ∈ z.cps.toList) → Q (.str r) H) : uMulS (.str z) (.int (n : Int)) H Q := by
  have hp : z.length * n ≤ 1000 * 1000 := Nat.mul_le_mul hz h2
  refine Or.inr ⟨z, n, rfl, rfl, ⟨?_, fun _ _ => ?_, fun _ _ => ?_⟩, ?_⟩
  · simp only [Bool.or_eq_false_iff, decide_eq_false_iff_not]
    omega
  · have : (2 ^ 63 - 1) / 1000 ≤ (2 ^ 63 - 1) / (n : Int) := by
      apply Int.le_ediv_of_mul_le (by omega)
      have : ((2 ^ 63 - 1) / 1000 : Int) * (n : Int) ≤ ((2 ^ 63 - 1) / 1000 : Int) * 1000 := Int.mul_le_mul_of_nonneg_left (by omega) (by decide)
      omega
    have e : ((2 ^ 63 - 1) / 1000 : Int) = 9223372036854775 := by decide
    omega
  · unfold Builtin.Str.tooLong
    have : z.length * (n : Int).toNat ≤ sizeLine := zle (by rw [Int.toNat_natCast]; omega)
    simpa using this
  · have e : Txt.mul z n = ⟨(List.replicate n z.cps).foldl (· ++ ·) #[]⟩ := by
      unfold Txt.mul
      rw [if_neg (by omega), if_neg (by
        simp only [Bool.or_eq_true, beq_iff_eq]
        omega), Int.toNat_natCast]
    have key : ∀ (m : Nat) (acc : Array Nat), ((List.replicate m z.cps).foldl (· ++ ·) acc).toList = acc.toList ++ (List.replicate m z.cps.toList).flatten := by
      intro m
      induction m with
      | zero => intro acc; simp
      | succ m ih => intro acc; rw [List.replicate_succ, List.foldl_cons, ih, List.replicate_succ]; simp
    rw [e]
    refine q _ ?_ fun c hc => ?_
    · have := congrArg List.length (key n #[])
      rw [Array.length_toList] at this
      show Array.size _ = _
      rw [this]
      have e2 : z.cps.size = z.length := rfl
      simp [e2, Nat.mul_comm]
    · have hc : c ∈ ((List.replicate n z.cps).foldl (· ++ ·) #[]).toList := hc
      rw [key] at hc
      simp only [List.nil_append, List.mem_flatten, List.mem_replicate] at hc
      obtain ⟨l, ⟨_, rfl⟩, hc⟩ := hc
      exact hc
end U

namespace U
open PySem L2 PySem.Spec PyProof.Rows
/-! list(text) -/
def uListZ : List V → Hp → VK → Prop := fun xs H Q => ∃ z : Str, xs = [.str z] ∧ z.length ≤ sizeLine ∧ ∀ l, H l = none → Q (.ref l) (upd H l (.lst (z.cps.toList.map fun c => V.str ⟨#[c]⟩)))
section
variable {X : Cx} {K : PySem.W.Frag} {H : Hp} {Q : VK}
theorem c_listZ (hc : X.calm = true) : CallR X (.type "list") uListZ := by
  intro pins s σ H xs us Q I r h
  obtain ⟨z, rfl, hz, q⟩ := h
  obtain ⟨u, eu, rx⟩ := vals1 r
  subst eu
  obtain ⟨tz, rfl⟩ := rx
  refine call_list_str (I.ok.hd hc) z _ (hn := hz) fun h' tk acc' c' hk hS hacc => ?_
  refine ⟨.ref s.heap.objs.size, upd H s.heap.objs.size (.lst (z.cps.toList.map fun c => V.str ⟨#[c]⟩)), I.laid hk (Nat.le_refl _) (show ObjOk X.prog X.w _ _ _ (.lst (z.cps.toList.map fun c => V.str ⟨#[c]⟩)) from ⟨?_, acc'.toList, c', ?_, ?_⟩), rfl, q _ (I.hok.fresh (Nat.le_refl _))⟩
  · rw [List.length_map, Array.length_toList]
    exact hz
  · refine vals_of_at (by rw [List.length_map, Array.length_toList, Array.length_toList, hacc.1]) fun m x w h1 h2 => ?_
    obtain ⟨c, tk', ec, ew⟩ := hacc.2 m w (by rw [← Array.getElem?_toList]; exact h2)
    rw [List.getElem?_map, Array.getElem?_toList, ec] at h1
    cases h1
    subst ew
    exact ⟨tk', rfl⟩
  · simpa using hS
theorem s_listZ {z : Str} (h : z.length ≤ sizeLine) (q : ∀ l H', H l = none → H' l = some (.lst (z.cps.toList.map fun c => V.str ⟨#[c]⟩)) → Kp [] H H' → Q (.ref l) H') : uListZ [.str z] H Q :=
  ⟨z, rfl, h, new_abs (R := fun p H' => Q (.ref p) H') q⟩
end
end U

namespace U
open PySem L2 PySem.Spec PyProof.Rows
/-! an error that leaves a list comprehension -/
section
variable {X : Cx} {pins : List (Addr × Obj)} {σ : L2.St} {H : Hp} {s : Shared}
theorem Inv.xe {xe : Value → Shared → Prop} (I : Inv X pins σ H s) : Inv { X with xe := xe } pins σ H s := by
  obtain ⟨ok, a1, a2, a3, a4, a5, a6, a7, a8, a9, a10⟩ := I
  obtain ⟨b1, b2, b3, b4, b5, b6, b7, b8, b9, b10, b11, b12, b13, b14, b15, b16, b17, b18⟩ := ok
  exact ⟨⟨b1, b2, b3, b4, b5, b6, b7, b8, b9, b10, b11, b12, b13, b14, b15, b16, b17, b18⟩, a1, a2, a3, a4, a5, a6, a7, a8, a9, a10⟩
theorem noteFrame_eq {e : Value} {a b : Env} (h : a.frame = b.frame) : noteFrame e a = noteFrame e b := by
  unfold noteFrame PySem.frameOf
  rw [h]
/-- as the kit's compPost, with the frame of the block -/
def cPost (M : Model) (A : Around) (E : Value → Shared → Prop) (F : Option Addr) (use : Option (Value → Sem Unit)) (Q : Value → Shared → Prop) (acc : Value) (C : Addr) (r : Result) (s' : Shared) : Prop :=
  match r, use with
  | .ok _, none => ∃ m, s'.heap.Ns C m ∧ ∀ h', Heap.SameBut C s'.heap h' → Q acc { s' with heap := h' }
  | .ok _, some u => wpAny M A (u acc) (fun _ s'' => ∃ m, s''.heap.Ns C m ∧ ∀ h', Heap.SameBut C s''.heap h' → Q .none { s'' with heap := h' }) E s'
  | .error x, _ => ∃ m, s'.heap.Ns C m ∧ ∀ h', Heap.SameBut C s'.heap h' → ∀ cenv : Env, cenv.frame = F → wpAny M A (passOn "comprehension.variables-let-go" x cenv : Sem Value) (fun _ _ => False) E { s' with heap := h' }

theorem comp_freeX {M : Model} {A : Around} {E : Value → Shared → Prop} {s : Shared} {env : Env} {e : Expr} {scope : Scope} {pos : Pos} {newAcc first : Sem Value} {g : Comprehension} {gs : List Comprehension} {cl : List (Str × Addr)} {use : Option (Value → Sem Unit)}
    {Q : Value → Shared → Prop}
    (hcl : clausesOf e = g :: gs) (hs : ∀ x, foldedSetIterable g.iter env x = pure x) (hclos : closureFor scope env = pure cl)
    (hkind : scope.kind = .function) (hnames : ∀ x ∈ scope.names, x.2 = .local → scope.names.lookup x.1 = some .local)
    (h : wpAny M A first (fun x s₁ => wpAny M A (pyIter x) (fun it s₂ => wpAny M A newAcc (fun acc s₃ =>
      wpAny M A (newFunctionEnv scope env.globals cl [] env.qual none .none (some env)) (fun cenv s₄ =>
        codeAny M A (.compStart e 0 it acc { cenv with scope := relabel scope env }) (cPost M A E cenv.frame use Q acc cenv.locals) s₄) E s₃) E s₂) E s₁) E s) :
    wpAny M A (comprehension e scope env pos newAcc false first use) Q E s := by
  unfold comprehension
  rw [hclos, hcl]
  refine wpAny_bind (wpAny_mono h (fun x s₁ h₁ => wpAny_bind (wpAny_standAt (wpAny_bind (wpAny_of_eq (hs x) (wpAny_bind (wpAny_holding (wpAny_mono h₁ (fun it s₂ h₂ =>
    wpAny_standIf (wpAny_bind (wpAny_mono h₂ (fun acc s₃ h₃ => wpAny_bind (wpAny_pure (wpAny_bind (wpAny_mono h₃ (fun cenv s₄ h₄ => ?_) fun _ _ h' => h')))) fun _ _ h' => h')))
      fun _ _ h' => h'))))))) fun _ _ h' => h')
  dsimp only
  have hv : ∀ x ∈ (scope.names.filter fun x => (x.2 == .local || x.2 == .cell) && x.1 != (".0" : Str)).reverse, x.2 = .local →
      Env.kindOf { cenv with scope := relabel scope env } x.1 = some .local := fun x hx hl => lookup_relabel_local (hnames x (List.mem_filter.mp (List.mem_reverse.mp hx)).1 hl)
  have hv' : ∀ x ∈ (scope.names.filter fun x => (x.2 == .local || x.2 == .cell) && x.1 != (".0" : Str)).reverse.drop 1 ++ (scope.names.filter fun x => (x.2 == .local || x.2 == .cell) && x.1 != (".0" : Str)).reverse.take 1,
      x.2 = .local → Env.kindOf { cenv with scope := relabel scope env } x.1 = some .local := fun x hx hl => by
    rcases List.mem_append.mp hx with h1 | h1
    · exact hv x (List.mem_of_mem_drop h1) hl
    · exact hv x (List.mem_of_mem_take h1) hl
  refine wpAny_holding (wpAny_bind (wpAny_attempt (wpAny_holding (wpAny_run (codeAny_mono h₄ fun r s' hr => ?_)))))
  cases r with
  | ok f =>
    cases use with
    | none =>
      obtain ⟨m, hn, hr⟩ := hr
      exact wpAny_bind (wpAny_holding (wpAny_comp_letGo (cenv := { cenv with scope := relabel scope env }) hkind _ s' m hv hn fun h' m' _ hs' => wpAny_pure (hr h' hs')))
    | some u =>
      refine wpAny_bind (wpAny_rule (wpAny_bind (wpAny_holding (wpAny_mono hr (fun _ s'' hr' => ?_) fun _ _ h' => h'))))
      obtain ⟨m, hn, hr'⟩ := hr'
      exact wpAny_bind (wpAny_comp_letGo (cenv := { cenv with scope := relabel scope env }) hkind _ s'' m hv' hn fun h' m' _ hs' => wpAny_pure (hr' h' hs'))
  | error x =>
    have hr' : ∃ m, s'.heap.Ns cenv.locals m ∧ ∀ h', Heap.SameBut cenv.locals s'.heap h' → ∀ cenv' : Env, cenv'.frame = cenv.frame → wpAny M A (passOn "comprehension.variables-let-go" x cenv' : Sem Value) (fun _ _ => False) E { s' with heap := h' } := by cases use <;> exact hr
    obtain ⟨m, hn, hr⟩ := hr'
    exact wpAny_bind (wpAny_holding (wpAny_comp_letGo (cenv := { cenv with scope := relabel scope env }) hkind _ s' m hv hn fun h' m' _ hs' => wpAny_mono (hr h' hs' _ rfl) (fun _ _ f => f.elim) fun _ _ y => y))

theorem funFrames_but {base B h h' : Heap} {C : Addr} : ∀ {l : List Env}, h.FunFrames base l → (∀ L ∈ frs l, B.get? L = none) → (∀ b o, b ≠ C → h.get? b = some o → h'.get? b = some o) → C ∉ frs l → h'.FunFrames B l
  | [], _, _, _, _ => trivial
  | env :: l, h, hn, k, hC => by
    obtain ⟨hk, ⟨L, o, hf, _, ho, hd⟩, hr⟩ := h
    have mL : L ∈ frs (env :: l) := List.mem_filterMap.mpr ⟨env, List.mem_cons_self, hf⟩
    have up : ∀ b, b ∈ frs l → b ∈ frs (env :: l) := fun b hb => by
      obtain ⟨e, he, q⟩ := List.mem_filterMap.mp hb
      exact List.mem_filterMap.mpr ⟨e, List.mem_cons_of_mem _ he, q⟩
    exact ⟨hk, ⟨L, o, hf, hn L mL, k L o (fun z => hC (z ▸ mL)) ho, hd⟩, funFrames_but hr (fun b hb => hn b (up b hb)) k fun z => hC (up C z)⟩
/-- the block's context, with a place for errors -/
abbrev blx (X : Cx) (s : Shared) (H : Hp) (scope : Scope) (cenv : Env) (fp : List Addr) (xe : Value → Shared → Prop) : Cx := { X.blk s H scope cenv fp with xe := xe }

/-- a callee's error in the block leaves the comprehension -/
theorem blx_passes {E : XK} {scope : Scope} {ce : Env} {fp : List Addr} {use : Option (Value → Sem Unit)} {Qf : Value → Shared → Prop} {acc : Value} (hs : X.stack = X.env :: X.outer) (hf : X.env.frame = some X.env.locals) (tk : Takes X (wE E))
    (I3 : Inv X pins σ H s) (f3 : ∀ b ∈ fp, FpOk X pins H b) (hF : ce.frame = X.env.frame) (hC : ce.locals = s.heap.objs.size) :
    Passes (L2.CX X.prog X.w) (blx X s H scope ce fp (notedBy (model X.prog X.w) X.A ce fun e s' => cPost (model X.prog X.w) X.A X.xe X.env.frame use Qf acc s.heap.objs.size (.error e) s')) E := by
  intro pins' σ' H' s1 e s' I c
  obtain ⟨a, B, H2, cls, d, rfl, fl, hok, ub, na, os, ag, hE⟩ := c
  obtain ⟨G, g1, g2⟩ := restrict s'.heap fun b => (B.get? b).isSome || decide (b ∈ frs X.stack)
  have st : B.StaysIn s'.heap := fl.1
  have gB : ∀ b o, B.get? b = some o → G.get? b = some o := fun b o e => by
    rw [g1 b (by simp [e])]
    exact st b o e
  have gF : ∀ b, b ∈ frs X.stack → G.get? b = s'.heap.get? b := fun b hb => g1 b (by simp [hb])
  have og : ∀ b o, G.get? b = some o → s'.heap.get? b = some o ∧ ((B.get? b).isSome = true ∨ b ∈ frs X.stack) := fun b o e => by
    cases q : ((B.get? b).isSome || decide (b ∈ frs X.stack)) with
    | false => rw [g2 b q] at e; cases e
    | true =>
      rw [g1 b q] at e
      exact ⟨e, by simpa [Bool.or_eq_true] using q⟩
  have nb : ∀ b o, G.get? b = some o → b ∉ frs X.stack → B.get? b = some o := fun b o e hb => by
    obtain ⟨e', h⟩ := og b o e
    rcases h with h | h
    · obtain ⟨o', q⟩ := Option.isSome_iff_exists.mp h
      have z := st b o' q
      rw [e'] at z; cases z
      exact q
    · exact absurd h hb
  have IB : Inv (blx X s H scope ce fp (notedBy (model X.prog X.w) X.A ce fun e s' => cPost (model X.prog X.w) X.A X.xe X.env.frame use Qf acc s.heap.objs.size (.error e) s')) pins' σ' H2 { s1 with heap := G, gens := s'.gens, drawn := s'.drawn, toks := s'.toks } := by
    refine I.call (ch := []) ⟨fun b o e n hb _ => gB b o (ub.keep b o e n hb), fun b o e n hb _ => ?_, fun b o e n _ => ub.free b o e n, fun b o e _ => ?_, ub.tups, ub.frzs, ub.tbls⟩ (hok.kept gB) ag (fun _ z => nomatch z)
    · obtain ⟨sl, q⟩ := ub.slot b o e hb
      exact ⟨sl, by rw [gF b hb]; exact q⟩
    · by_cases hb : b ∈ frs X.stack
      · obtain ⟨sl, q⟩ := ub.slot b o e hb
        exact ⟨_, by rw [gF b hb]; exact q⟩
      · obtain ⟨o', q⟩ := ub.there b o e hb
        exact ⟨o', gB b o' q⟩
  have hfr : X.A.frames = some (X.env :: X.outer) := by rw [I3.ok.frames, hs]
  show wpAny _ _ (noteFrame (.ref a) ce) _ _ _
  rw [noteFrame_eq hF]
  rw [hs] at fl
  refine HandSPX.looks_onZ Zc.steady hfr hf fl fun h1 held up1 => ?_
  obtain ⟨m, hn, _⟩ := IB.loc
  have hn : G.Ns ce.locals m := hn
  rw [hC] at hn
  generalize hCC : s.heap.objs.size = C at *
  have nC : C ∉ frs X.stack := fun hm => by
    obtain ⟨_, o, ho, _⟩ := I3.stack.mem hm
    have := Heap.lt_size ho
    rw [hCC] at this
    exact Nat.lt_irrefl _ this
  have hn1 : h1.Ns C m := by
    obtain ⟨o, es, ep, ho, r⟩ := hn
    exact ⟨o, es, ep, held.1 _ _ (nb _ _ ho nC), r⟩
  refine ⟨m, hn1, fun h' sb cenv e1 => ?_⟩
  -- without the block's names
  obtain ⟨B2, b1, b2⟩ := restrict B fun b => !decide (b = C)
  obtain ⟨G2, c1, c2⟩ := restrict G fun b => !decide (b = C)
  have BB : ∀ b o, B2.get? b = some o → B.get? b = some o ∧ b ≠ C := fun b o e => by
    by_cases z : b = C
    · rw [b2 b (by simp [z])] at e; cases e
    · rw [b1 b (by simp [z])] at e; exact ⟨e, z⟩
  have GG : ∀ b o, G2.get? b = some o → G.get? b = some o ∧ b ≠ C := fun b o e => by
    by_cases z : b = C
    · rw [c2 b (by simp [z])] at e; cases e
    · rw [c1 b (by simp [z])] at e; exact ⟨e, z⟩
  have BN : ∀ b, B.get? b = none → B2.get? b = none := fun b e => by
    cases q : B2.get? b with
    | none => rfl
    | some o => rw [(BB b o q).1] at e; cases e
  obtain ⟨k1, k2, k3, oe, vs, T, oT, ts, he, hz, hd, hv1, hnT, hTe, hT, hdT, h3⟩ := held
  have hCB : ∃ o, B.get? C = some o := by
    obtain ⟨o, es, ep, ho, r⟩ := hn
    exact ⟨o, nb _ _ ho nC⟩
  have aC : a ≠ C := fun z => by
    obtain ⟨o, q⟩ := hCB
    rw [z, q] at k2; cases k2
  have TC : T ≠ C := fun z => by
    obtain ⟨o, q⟩ := hCB
    rw [z, q] at hnT; cases hnT
  have he' : h'.get? a = some oe := (sb.2 a aC).trans he
  have hT' : h'.get? T = some oT := (sb.2 T TC).trans hT
  have k1' : B2.StaysIn h' := fun b o e => (sb.2 b (BB b o e).2).trans (k1 b o (BB b o e).1)
  have k3' : h'.FunFrames B2 (X.env :: X.outer) := funFrames_but k3 (fun b hb => BN b (k3.mem hb).1) (fun b o hb e => (sb.2 b hb).trans e) (by rw [← hs]; exact nC)
  unfold PySem.passOn
  refine wpAny_bind (wpAny_field he' hd hv1 ?_)
  rw [if_neg (show ¬ ((Value.ref T == Value.none) = true) from by simp)]
  rw [e1, hf]
  refine wpAny_bind (HandSPX.setFlight_anyZ k1' k3' ⟨oe, vs, T, oT, ts, he', hz, hd, hv1, BN _ hnT, hTe, hT', hdT, h3⟩ fun h2 z1 z2 z3 z4 => ?_)
  refine wpAny_throw (tk _ _ ?_)
  have IX : Inv X pins σ H2 { s1 with heap := G, gens := s'.gens, drawn := s'.drawn, toks := s'.toks } :=
    I3.call' (ch := fp) IB.os IB.base IB.hok IB.bare fun b hb => ⟨(f3 b hb).2.2.2.1, (f3 b hb).2.1, (f3 b hb).2.2.2.2.1, (f3 b hb).2.2.2.2.2⟩
  have hC2 : H2 C = none := by
    have z : H2 ce.locals = none := IB.free
    rw [hC] at z
    exact z
  obtain ⟨q0, q1, q2, q3, q4, q5⟩ := I3.fpOk (b := C) (H' := H2) (Nat.le_of_eq hCC) hC2
  have IY := IX.turned (t' := s'.toks) (h' := G2) (it := C) (fun b o hb e => by rw [c1 b (by simp [hb])]; exact e) q0 q1 q3 q4 q5
  refine ⟨a, B2, _, pins, σ, H2, cls, d, rfl, IY, fun b o e hb => ?_, fun b o e hnf => ?_, ?_, na, os, ag, hE⟩
  · obtain ⟨e', z⟩ := GG b o e
    rw [b1 b (by simp [z])]
    exact nb b o e' hb
  · obtain ⟨e', z⟩ := GG b o e
    obtain ⟨sl, e2⟩ := up1 b o (og b o e').1 hnf
    obtain ⟨sl2, e3⟩ := z4 b _ ((sb.2 b z).trans e2) hnf
    exact ⟨sl2, e3⟩
  · rw [hs]
    exact .inr (.inr ⟨z1, BN _ k2, z2, z3⟩)
end
section
variable {X : Cx}
theorem lc_coreX {E : XK} {pins : List (Addr × Obj)} {s : Shared} {σ : L2.St} {H : Hp} {Q : VK} {elt tg iter : Expr} {ifs : List Expr} {scope : Scope} {own : List (Str × Nat)} {pos pos' : Pos} {wi : TI} {g : TG} {tt : TT} {te : TE} {use : Option (Value → Sem Unit)} {Qf : Value → Shared → Prop}
    (hs0 : X.stack = X.env :: X.outer) (hf0 : X.env.frame = some X.env.locals) (tk : Takes X (wE E))
    (hc : X.calm = true) (hN : X.N.Nodup) (I : Inv X pins σ H s) (hi : PI X tg iter wi) (ok : BlkOk X.N X.env.scope scope own)
    (hg : ∀ (s : Shared) (H : Hp) (C : Addr) (cl : List (Str × Addr)) (fp : List Addr) (xe : Value → Shared → Prop), PG (blx X s H scope (compEnvC scope cl C X.env) fp xe) tg g)
    (ht : ∀ (s : Shared) (H : Hp) (C : Addr) (cl : List (Str × Addr)) (fp : List Addr) (xe : Value → Shared → Prop), Passes (L2.CX X.prog X.w) (blx X s H scope (compEnvC scope cl C X.env) fp xe) E → PTs (blx X s H scope (compEnvC scope cl C X.env) fp xe) ifs tt)
    (he : ∀ (s : Shared) (H : Hp) (C : Addr) (cl : List (Str × Addr)) (fp : List Addr) (xe : Value → Shared → Prop), Passes (L2.CX X.prog X.w) (blx X s H scope (compEnvC scope cl C X.env) fp xe) E → PE (blx X s H scope (compEnvC scope cl C X.env) fp xe) elt te) (hs : ∀ x, foldedSetIterable iter X.env x = pure x)
    (h : tLc wi g tt te (own.map (·.2)) σ H Q)
    (hRR : ∀ D C s' m H', Inv X pins σ H' s' → Q (.ref D) H' → s'.heap.Ns C m → FpOk X pins H' C → cPost (model X.prog X.w) X.A X.xe X.env.frame use Qf (.ref D) C (.ok .next) s') :
    wpAny (model X.prog X.w) X.A (comprehension (.ListComp elt [⟨tg, iter, ifs, 0⟩] scope pos) scope X.env pos' (newList []) false (eval iter X.env) use) Qf X.xe s := by
  have hfree : ∀ y ∈ scope.names, y.2 = .free → ∃ c, X.env.cells.lookup y.1 = some c := fun y hy e => by
    rcases ok.free y hy e with k | k
    · exact I.ok.has _ (.inl k)
    · exact I.ok.has _ (.inr k)
  refine comp_freeX (use := use) rfl hs (closure_ok hfree) ok.kind (fun y hy e => by rw [ok.uniq y hy, e])
    (thn (hi.run pins s σ H _ I h) fun xv s1 hx => thn hx fun itv s2 h2 => ?_)
  obtain ⟨it, fp, tn, J, H2, e, I2, T, st2, f2, q⟩ := h2
  subst e
  refine wpAny_newObj_type (newEnv_comp ?_) (by show 0 ≤ sizeLine; decide)
  generalize hD : s2.heap.objs.size = D
  have hDn : H2 D = none := I2.hok.fresh (Nat.le_of_eq hD)
  obtain ⟨W, ⟨m0, w0⟩, turn⟩ := q D hDn
  -- the new list
  generalize hs3 : ({ s2 with heap := s2.heap.push { cls := .type "list", data := .seq ([] : List Value).toArray } } : Shared) = s3
  have I3 : Inv X pins σ (upd H2 D (.lst [])) s3 := by
    rw [← hs3]
    refine I2.laid (t' := s2.toks) (fun b o e => Heap.get?_push_of_some _ e) (Nat.le_of_eq hD) ⟨Nat.zero_le _, [], 0, .nil, ?_⟩
    rw [← hD]
    exact Heap.get?_push_size _ rfl
  have h3 : s3.heap = s2.heap.push { cls := .type "list", data := .seq ([] : List Value).toArray } := by rw [← hs3]
  have sz : ∀ b ∈ fp, b < s2.heap.objs.size := fun b hb => by
    obtain ⟨o, e, _⟩ := T.obj _ _ st2 b hb
    exact Heap.lt_size e
  have f3 : ∀ b ∈ fp, FpOk X pins (upd H2 D (.lst [])) b ∧ b < s3.heap.objs.size := fun b hb => by
    have hlt := sz b hb
    refine ⟨⟨?_, (f2 b hb).2⟩, by rw [h3, Heap.size_push]; exact Nat.lt_succ_of_lt hlt⟩
    rw [upd_ne (by rw [← hD]; exact Nat.ne_of_lt hlt)]
    exact (f2 b hb).1
  have st3 : tn 0 s3.heap := T.keep _ _ _ st2 fun b _ o e => by rw [h3]; exact Heap.get?_push_of_some _ e
  have I4 := block_start I3 ok hN f3
  have pg := hg s3 (upd H2 D (.lst [])) s3.heap.objs.size (cellsFrom (s3.heap.objs.size + 1) scope.names (cloFrom X.env.cells scope.names [])) fp
  have pt := ht s3 (upd H2 D (.lst [])) s3.heap.objs.size (cellsFrom (s3.heap.objs.size + 1) scope.names (cloFrom X.env.cells scope.names [])) fp
  have pe := he s3 (upd H2 D (.lst [])) s3.heap.objs.size (cellsFrom (s3.heap.objs.size + 1) scope.names (cloFrom X.env.cells scope.names [])) fp
  show codeAny _ _ (.compStart (.ListComp elt [⟨tg, iter, ifs, 0⟩] scope pos) 0 (.ref it) (.ref D) (compEnvC scope (cellsFrom (s3.heap.objs.size + 1) scope.names (cloFrom X.env.cells scope.names [])) s3.heap.objs.size X.env)) (cPost (model X.prog X.w) X.A X.xe X.env.frame use Qf (.ref D) s3.heap.objs.size) { s3 with heap := pushCells (s3.heap.push { cls := .type "dict", data := .dict #[] }) scope.names }
  have nfp : ∀ b ∈ fp, (upd H2 D (.lst [])) b = none := fun b hb => (f3 b hb).1.1
  generalize hce : compEnvC scope (cellsFrom (s3.heap.objs.size + 1) scope.names (cloFrom X.env.cells scope.names [])) s3.heap.objs.size X.env = ce at I4 pg pt pe ⊢
  have cL : ce.locals = s3.heap.objs.size := by subst hce; rfl
  have cF : ce.frame = X.env.frame := by subst hce; rfl
  generalize hH3 : upd H2 D (.lst []) = H3 at I3 I4 pg pt pe w0 nfp f3
  have ps := blx_passes (E := E) (scope := scope) (use := use) (Qf := Qf) (acc := .ref D) hs0 hf0 tk I3 (fun b hb => (f3 b hb).1) cF cL
  generalize hxe : (notedBy (model X.prog X.w) X.A ce fun e s' => cPost (model X.prog X.w) X.A X.xe X.env.frame use Qf (.ref D) s3.heap.objs.size (.error e) s') = xe at ps
  have pg := pg xe
  have pt := pt xe ps
  have pe := pe xe ps
  have I4 : Inv (blx X s3 H3 scope ce fp xe) [] (wipe σ (own.map (·.2))) H3 { s3 with heap := pushCells (s3.heap.push { cls := .type "dict", data := .dict #[] }) scope.names } := Inv.xe I4
  generalize hs4 : ({ s3 with heap := pushCells (s3.heap.push { cls := .type "dict", data := .dict #[] }) scope.names } : Shared) = s4 at I4 ⊢
  have st4 : tn 0 s4.heap := T.keep _ _ _ st3 fun b _ o e => by rw [← hs4]; exact pushCells_keeps _ _ _ _ (Heap.get?_push_of_some _ e)
  have stat : ∀ {σ' : L2.St} {H' : Hp} {s' : Shared}, Inv (blx X s3 H3 scope ce fp xe) [] σ' H' s' → (∀ b ∈ fp, H' b = none) → ∀ b ∈ fp, FpOk (blx X s3 H3 scope ce fp xe) [] H' b := fun {σ' H' s'} I' hn b hb =>
    ⟨hn b hb, (I'.ok.exf b hb).1, I'.ok.exfs b hb, .inl hb, fun x c e => (I'.ok.exf b hb).2 x c e, fun p hp => absurd (show p ∈ ([] : List (Addr × Obj)) ++ [] from hp) (by simp)⟩
  have loop : codeAny (model X.prog X.w) X.A (.compLoop (.ListComp elt [⟨tg, iter, ifs, 0⟩] scope pos) 0 (.ref it) (.ref D) ce) (cPost (model X.prog X.w) X.A X.xe X.env.frame use Qf (.ref D) s3.heap.objs.size) s4 := by
    refine compLoop_any (fun n s' => ∃ i H', Inv (blx X s3 H3 scope ce fp xe) [] (wipe σ (own.map (·.2))) H' s' ∧ tn i s'.heap ∧ (∀ b ∈ fp, H' b = none) ∧ W i n H') ?_ m0 ⟨0, H3, I4, st4, nfp, w0⟩
    rw [hxe]
    rintro n s5 ⟨i, H5, I5, st5, n5, w5⟩
    rcases turn i n H5 w5 with ⟨stop, qq⟩ | ⟨go, Nx, hNx, step⟩
    · have td := T.done (blx X s3 H3 scope ce fp xe) rfl rfl rfl hc i [] s5 _ H5 (fun _ _ => False) I5 (stat I5 n5) st5 stop
      refine thnF td fun r s6 ⟨hr, I6⟩ => ?_
      subst hr
      -- back in the def's context
      have I7 : Inv X pins σ H5 s6 := I3.call' (ch := fp) I6.os I6.base I6.hok I6.bare fun b hb => ⟨(f3 b hb).1.2.2.2.1, (f3 b hb).1.2.1, (f3 b hb).1.2.2.2.2.1, (f3 b hb).1.2.2.2.2.2⟩
      have nC : H5 s3.heap.objs.size = none := by
        have z : H5 ce.locals = none := I6.free
        rw [cL] at z
        exact z
      obtain ⟨m, hn, _⟩ := I6.loc
      have hn : s6.heap.Ns ce.locals m := hn
      rw [cL] at hn
      exact hRR D s3.heap.objs.size s6 m H5 I7 qq hn (I3.fpOk (Nat.le_refl _) nC)
    · have ti := T.item (blx X s3 H3 scope ce fp xe) rfl rfl rfl hc i [] s5 _ H5 (fun _ _ => False) I5 (stat I5 n5) st5 go
      refine thnF ti fun r s6 ⟨u, hr, h6⟩ => ?_
      subst hr
      refine thnF h6 fun _ s7 ⟨x, H7, I7, r7, y7, st7, n7⟩ => ?_
      have I7' := I7.pinned (stat I7 n7) (T.obj _ _ st7)
      refine thn (pg.run _ s7 _ H7 x u _ I7' r7 (step x H7 y7)) fun _ s8 ⟨σ8, H8, I8, hw8, q8⟩ => ?_
      refine thn (pt.run _ s8 σ8 H8 _ I8 q8) fun b s9 ⟨H9, I9, q9⟩ => ?_
      -- the turn's end
      have fin : ∀ {s' : Shared} {H' : Hp}, Inv (blx X s3 H3 scope ce fp xe) ([] ++ pinsAt fp s7.heap) σ8 H' s' → Nx H' → ∃ m, m < n ∧ ∃ i H', Inv (blx X s3 H3 scope ce fp xe) [] (wipe σ (own.map (·.2))) H' s' ∧ tn i s'.heap ∧ (∀ b ∈ fp, H' b = none) ∧ W i m H' := fun {s' H'} I' nx => by
        obtain ⟨m', hm, w'⟩ := hNx H' nx
        have pin' : ∀ b ∈ fp, ∀ o, s7.heap.get? b = some o → s'.heap.get? b = some o ∧ H' b = none := fun b hb o e =>
          let z := I'.pin (b, o) (List.mem_append_right _ (List.mem_append_right _ (mem_pinsAt hb e)))
          ⟨z.1, z.2.1⟩
        have hl : (wipe σ (own.map (·.2))).length = σ8.length := by rw [← hw8, wipe_length]
        refine ⟨m', hm, i + 1, H', (I'.unpinned (pins := [])).weak hl (fun j v e => ?_), T.keep _ _ _ st7 fun b hb o e => (pin' b hb o e).1, fun b hb => ?_, w'⟩
        · rw [← hw8] at e
          exact (wipe_some e).1
        · obtain ⟨o, e, _⟩ := T.obj _ _ st7 b hb
          exact (pin' b hb o e).2
      cases b with
      | false =>
        simp only [Bool.false_eq_true, if_false] at q9 ⊢
        exact fin I9 q9
      | true =>
        simp only [if_true] at q9 ⊢
        refine thn (pe.run _ s9 σ8 H9 _ I9 q9) fun z s10 ⟨yv, H10, I10, r10, acc, hD10, hz10, nx⟩ => ?_
        exact app_ok (X := blx X s3 H3 scope ce fp xe) I10 hD10 hz10 r10 fun s11 I11 => fin I11 nx
  exact codeAny_compStart_list loop (T.self X.A 0 _ _ _ st4 loop)
/-- as a value -/
theorem pe_lcX {E : XK} {elt tg iter : Expr} {ifs : List Expr} {scope : Scope} {own : List (Str × Nat)} {pos : Pos} {wi : TI} {g : TG} {tt : TT} {te : TE} (hs0 : X.stack = X.env :: X.outer) (hf0 : X.env.frame = some X.env.locals) (tk : Takes X (wE E)) (hc : X.calm = true) (hN : X.N.Nodup) (hi : PI X tg iter wi) (ok : BlkOk X.N X.env.scope scope own)
    (hg : ∀ (s : Shared) (H : Hp) (C : Addr) (cl : List (Str × Addr)) (fp : List Addr) (xe : Value → Shared → Prop), PG (blx X s H scope (compEnvC scope cl C X.env) fp xe) tg g)
    (ht : ∀ (s : Shared) (H : Hp) (C : Addr) (cl : List (Str × Addr)) (fp : List Addr) (xe : Value → Shared → Prop), Passes (L2.CX X.prog X.w) (blx X s H scope (compEnvC scope cl C X.env) fp xe) E → PTs (blx X s H scope (compEnvC scope cl C X.env) fp xe) ifs tt)
    (he : ∀ (s : Shared) (H : Hp) (C : Addr) (cl : List (Str × Addr)) (fp : List Addr) (xe : Value → Shared → Prop), Passes (L2.CX X.prog X.w) (blx X s H scope (compEnvC scope cl C X.env) fp xe) E → PE (blx X s H scope (compEnvC scope cl C X.env) fp xe) elt te) (hs : ∀ x, foldedSetIterable iter X.env x = pure x := by intro _; rfl) :
    PE X (.ListComp elt [⟨tg, iter, ifs, 0⟩] scope pos) (tLc wi g tt te (own.map (·.2))) := by
  refine ⟨fun pins s σ H Q I h => ?_⟩
  rw [eval_ListComp]
  refine lc_coreX hs0 hf0 tk hc hN I hi ok hg ht he hs h fun D C s' m H' I' q hn f => ⟨m, hn, fun h'' sb => ?_⟩
  obtain ⟨f0, f1, f2, f3, f4, f5⟩ := f
  exact ⟨.ref D, H', I'.turned (t' := s'.toks) (fun b o hb e => (sb.2 b hb).trans e) f0 f1 f3 f4 f5, rfl, q⟩
end
section
variable {X : Cx} {k : Nat} {f : Addr} {fd : FuncData} {ps : List Str} {sp : Sp} {E : XK} {x : Str} {p pos : Pos} {e : Expr} {es : List Expr} {t : TA}
/-- a call whose errors pass -/
theorem pe_coP (F : FnOk X.prog X.w X.K X.mg X.base (L2.CX X.prog X.w) k f fd ps sp) (hr : Room k X.A) (gl : Gl X x) (hm : X.mg x = some (.ref f)) (hk : PySem.W.keepIn X.K (.ref f) = true) (hb : Binds X.K fd ps []) (hx : Passes (L2.CX X.prog X.w) X E)
    (ha : PA X (e :: es) t) (h1 : (x == ("__debug__" : Str)) = false := by decide) (h2 : starEach (e :: es) X.env = (false, eval e X.env) :: starEach es X.env := by rfl) (h3 : (backTo pos (starEach es X.env)).any (·.1) = false := by rfl) :
    PE X (.Call (.Name x p) (e :: es) [] pos) (tCo sp (wE E) t) := by
  refine ⟨fun pi s σ H Q I h => wpAny_Call_Name_kw (ld_glob I gl hm ?_ h1)⟩
  refine PySem.W.callWith_K (h₀ := X.base) I.ok.mod.kin hk (thn (ha.run pos pi s σ H _ I h) ?_) h2 h3
  rintro us s1 ⟨vs, H1, I1, r, q⟩
  refine ⟨I1.kIn, wpAny_call (codeAny_mono (F.run X.A X.stack s1 H1 ⟨us, []⟩ us vs Q E hr I1.env0 (bind0 hb I1 r (F.len _ _ _ _ q)) r q) fun rr s' hq => ?_)⟩
  match rr, hq with
  | .error er, z => exact hx pi σ H1 s1 er s' I1 z
  | .ok (.ret u), z => exact I1.after z
  | .ok .next, z => exact z.elim
  | .ok .brk, z => exact z.elim
  | .ok .cont, z => exact z.elim
end
end U

namespace U
open PySem L2 PySem.Spec PyProof.Rows PySem.SeqAt
/-! a dict beside tuples -/
theorem dict_eq_declines_tuple (l b : Addr) (es : Array DictEntry) (n : Nat) (dd : Option Addr) (sl : Array (Option Value)) (items2 : Array Value) (n2 : Nat) (dd2 : Option Addr) (sl2 : Array (Option Value)) :
    Meets (Builtin.«dict.__eq__» ⟨[.ref l, .ref b], []⟩) (fun _ R s => s.heap.get? l = some { cls := .type "dict", dict := dd, data := .dict es n, slots := sl } ∧ s.heap.get? b = some { cls := .type "tuple", dict := dd2, data := .seq items2 n2, slots := sl2 } ∧ R (.ok (.ret .notImplemented)) s) :=
  .of_wp fun prog w A R s h => by obtain ⟨hp, g, d, tk, os⟩ := s; obtain ⟨hl, hb, h⟩ := h; have f1 := F.sub_tuple_dict; wp_walk using wpAny_loadPart' hl, wpAny_loadPart' hb; exact ⟨_, rfl, h⟩
theorem tuple_eq_declines_dict (l b : Addr) (es : Array DictEntry) (n : Nat) (dd : Option Addr) (sl : Array (Option Value)) (items2 : Array Value) (n2 : Nat) (dd2 : Option Addr) (sl2 : Array (Option Value)) :
    Meets (Builtin.«tuple.__eq__» ⟨[.ref b, .ref l], []⟩) (fun _ R s => s.heap.get? l = some { cls := .type "dict", dict := dd, data := .dict es n, slots := sl } ∧ s.heap.get? b = some { cls := .type "tuple", dict := dd2, data := .seq items2 n2, slots := sl2 } ∧ R (.ok (.ret .notImplemented)) s) :=
  .of_wp fun prog w A R s h => by obtain ⟨hp, g, d, tk, os⟩ := s; obtain ⟨hl, hb, h⟩ := h; have f1 := F.sub_dict_tuple; wp_walk using wpAny_loadPart' hl, wpAny_loadPart' hb; exact ⟨_, rfl, h⟩
theorem eqAt_tuple_dict {A : Around} {s : Shared} {b l : Addr} {items : Array Value} {o : Obj} {es : Array DictEntry} {n : Nat} (hb : s.heap.IsTuple b items) (ho : s.heap.get? l = some o) (hc : o.cls = .type "dict") (hd : o.data = .dict es n) (hu : A.units < cLine) : EqAt A s (.ref b) (.ref l) false := by
  obtain ⟨cls, dd, data, sl⟩ := o
  obtain ⟨⟨cls2, dd2, data2, sl2⟩, ho2, hc2, n2, hd2⟩ := id hb
  simp only at hc hd hc2 hd2
  subst hc hd hc2 hd2
  have hne : b ≠ l := by
    rintro rfl
    rw [ho] at ho2
    have := congrArg (fun o : Option Obj => o.map (·.cls)) ho2
    simp at this
  refine .of_refs hne fun prog w E Q h => ?_
  exact (rc_eq_decline_or (k := false) ⟨_, ho2, rfl⟩ ⟨_, ho, rfl⟩ (by decide) F.sub_dict_tuple F.slot_tuple_eq F.slot_dict_eq_refl
    (fun _ hq => call_meets F.slot_tuple_eq ⟨_, ho2, rfl⟩ F.entry_tuple_eq (F.args_tuple_eq_2 _ _) (tuple_eq_declines_dict l b es n dd sl items n2 dd2 sl2) ⟨ho, ho2, hq⟩)
    (fun _ hq => call_meets F.slot_dict_eq_refl ⟨_, ho, rfl⟩ F.entry_dict_eq (F.args_dict_eq_2 _ _) (dict_eq_declines_tuple l b es n dd sl items n2 dd2 sl2) ⟨ho, ho2, hq⟩)
    (fun _ hq => wpAny_isSame_ref_other' hne ho2 ho (by simp) hq) (.inr hu) h)
def AllTup (H : Hp) (vs : List V) : Prop := ∀ v ∈ vs, ∃ u xs, v = V.ref u ∧ H u = some (.tup xs)
def rInTd (K : PySem.W.Frag) (ng : Bool) : R2 := fun x y H Q => ∃ (p a : Addr) (vs : List V) (kvs : List (Key × V)), x = .ref a ∧ H a = some (.dK kvs) ∧ y = .ref p ∧ SqL K H p vs ∧ AllTup H vs ∧ Q (.bl ng) H
def uInT (K : PySem.W.Frag) (ng : Bool) : R2 := fun x y H Q => uInX K ng x y H Q ∨ rInTd K ng x y H Q
section
variable {X : Cx} {k : Nat} {K : PySem.W.Frag}
theorem tups_eqAt {pins : List (Addr × Obj)} {σ : L2.St} {H : Hp} {A : Around} {s : Shared} {l : Addr} {o : Obj} {es : Array DictEntry} {n : Nat} (I : Inv X pins σ H s) (ho : s.heap.get? l = some o) (hc : o.cls = .type "dict") (hd : o.data = .dict es n) (hu : A.units < cLine) : ∀ {vs : List V} {us : List Value}, AllTup H vs → Vals vs us → ∀ u ∈ us, EqAt A s u (.ref l) false
  | [], _, _, .nil => fun u hu => by cases hu
  | z :: zs, _, ht, .cons r t => fun u' hu' => by
    rcases List.mem_cons.mp hu' with rfl | hm
    · obtain ⟨b, xs, rfl, e⟩ := ht z List.mem_cons_self
      cases r
      obtain ⟨its, _, ⟨o2, q1, q2, n2, q3⟩, _⟩ := I.tuple (SqT.of e)
      exact eqAt_tuple_dict (items := its.toArray) ⟨o2, q1, q2, n2, q3⟩ ho hc hd hu
    · exact tups_eqAt I ho hc hd hu (fun v hv => ht v (List.mem_cons_of_mem _ hv)) t u' hm
theorem op_inTd (hr : Room k X.A) : OpR X (compareOp .In) (rInTd X.K false) := by
  intro pins s σ H x y v u Q I rx ry h
  obtain ⟨p, a, zs, kvs, rfl, ea, rfl, hq, ht, q⟩ := h
  cases rx
  cases ry
  obtain ⟨z, hd, vs, rel, o, es, ep, h1, h2, h3, h4⟩ := dk_of I.hok ea
  obtain ⟨its, r, pl, hz⟩ := I.list hq
  refine SeqAt.in_listAt (fun _ => false) pl.isList (fun w hw => tups_eqAt I h1 h2.1 h3 (hu_of hr) ht r w (by simpa using hw)) ⟨.bl _, H, I, rfl, ?_⟩
  rw [show its.toArray.any (fun _ => false) = false by simp]
  exact q
theorem op_notInTd (hr : Room k X.A) : OpR X (compareOp .NotIn) (rInTd X.K true) := by
  intro pins s σ H x y v u Q I rx ry h
  obtain ⟨p, a, zs, kvs, rfl, ea, rfl, hq, ht, q⟩ := h
  cases rx
  cases ry
  obtain ⟨z, hd, vs, rel, o, es, ep, h1, h2, h3, h4⟩ := dk_of I.hok ea
  obtain ⟨its, r, pl, hz⟩ := I.list hq
  refine SeqAt.notIn_listAt (fun _ => false) pl.isList (fun w hw => tups_eqAt I h1 h2.1 h3 (hu_of hr) ht r w (by simpa using hw)) ⟨.bl _, H, I, rfl, ?_⟩
  rw [show its.toArray.any (fun _ => false) = false by simp]
  exact q
theorem o_inT (hK : X.K = K) (hr : Room k X.A) : OpR X (compareOp .In) (uInT K false) := by
  subst hK
  exact (o_inX rfl hr).or (op_inTd hr)
theorem o_notinT (hK : X.K = K) (hr : Room k X.A) : OpR X (compareOp .NotIn) (uInT K true) := by
  subst hK
  exact (o_notinX rfl hr).or (op_notInTd hr)
end
section
variable {K : PySem.W.Frag} {H : Hp} {Q : VK} {p a : Addr} {ng : Bool} {x y : V} {d : PyData} {ds : List PyData}
theorem s_inTd {kvs : List (Key × V)} {vs : List V} (h : H a = some (.dK kvs)) (g : SqL K H p vs) (t : AllTup H vs) (q : Q (.bl ng) H) : uInT K ng (.ref a) (.ref p) H Q := Or.inr ⟨p, a, vs, kvs, rfl, h, rfl, g, t, q⟩
theorem s_ninD (hl : Dn K H (.ref p) (.list ds)) (hy : Dn K H y d) (sl : SeqAt.shaped (.list ds) = true) (sd : SeqAt.shaped d = true) (q : Q (.bl (!ds.any fun z => PyData.eqv z d)) H) : uInT K true y (.ref p) H Q :=
  Or.inl (Or.inr (Or.inr ⟨d, ds, hy.dp (shp sd), hl.dp (shp sl), sd, sl, q⟩))
end
end U

local macro_rules | `(tactic| walk_at "b1") => `(tactic| first
  | with_reducible refine' U.s_asg ?_
  | ((with_reducible refine' U.s_nameR ?une ?_); (case une => (dsimp only [List.set]; try exact rfl)))
  | with_reducible refine' U.s_name ?_
  | with_reducible refine' U.s_ret ?_
  | with_reducible refine' U.s_next ?_
  | ((with_reducible show L2.Ends.nx _ _ _); dsimp only)
  | ((with_reducible show L2.Ends.rt _ _ _); dsimp only)
  | ((with_reducible show L2.Ends.bk _ _ _); dsimp only)
  | ((with_reducible show L2.Ends.ct _ _ _); dsimp only)
  | with_reducible refine' U.s_brk ?_
  | with_reducible refine' U.s_cnt ?_
  | with_reducible refine' U.s_retN ?_
  | with_reducible refine' U.s_drop ?_
  | with_reducible refine' U.s_op ?_
  | with_reducible refine' U.s_c ?_
  | ((with_reducible refine' U.s_var ?uvh ?_); (case uvh => exact rfl))
  | with_reducible refine' U.s_un ?_
  | with_reducible refine' U.s_neg ?_
  | with_reducible refine' U.s_test ?_
  | with_reducible refine' U.s_B ?_
  | with_reducible refine' U.s_bl ?_
  | with_reducible refine' U.s_not ?_
  | with_reducible refine' U.s_notV ?_
  | with_reducible refine' U.s_if ?_
  | with_reducible refine' U.s_add ?_
  | with_reducible refine' U.s_sub ?_
  | with_reducible refine' U.s_lt ?_
  | with_reducible refine' U.s_le ?_
  | with_reducible refine' U.s_gt ?_
  | with_reducible refine' U.s_ge ?_
  | with_reducible refine' U.s_eqi ?_
  | with_reducible refine' U.s_nei ?_
  | with_reducible refine' U.s_eqs ?_
  | with_reducible refine' U.s_nes ?_
  | with_reducible refine' U.s_in1 ?_
  | with_reducible refine' U.s_notin1 ?_
  | with_reducible refine' U.s_is ?_
  | with_reducible refine' U.s_isb ?_
  | with_reducible refine' U.s_isnot ?_
  | with_reducible refine' U.s_nil ?_
  | with_reducible refine' U.s_cons ?_
  | with_reducible refine' U.s_lst ?_
  | with_reducible refine' U.s_tup ?_
  | with_reducible refine' U.s_cb ?_
  | with_reducible refine' U.s_go ?_
  | with_reducible refine' U.s_co ?_
  | with_reducible refine' U.s_mt ?_
  | with_reducible refine' U.s_nw ?_
  | with_reducible refine' U.s_nwD ?_
  | with_reducible refine' U.s_fd ?_
  | with_reducible refine' U.s_sd ?_
  | with_reducible refine' U.s_fa ?_
  | with_reducible refine' U.s_radd ?_
  | with_reducible refine' U.s_rsub ?_
  | with_reducible refine' U.s_xe ?_
  | with_reducible refine' U.s_se ?_
  | with_reducible refine' U.s_os ?_
  | with_reducible refine' U.s_rz ?_
  | with_reducible refine' U.s_try ?_
  | with_reducible refine' U.s_dg ?_
  | with_reducible refine' U.s_dn ?_
  | with_reducible refine' U.s_pop ?_
  | with_reducible refine' U.s_bm ?_
  | with_reducible refine' U.s_gn ?_
  | with_reducible refine' U.s_tl ?_
  | with_reducible refine' U.s_gc ?_
  | with_reducible refine' U.s_rng2 ?_
  | ((with_reducible refine' U.s_gtu ?uth ?utl ?_); (case uth => walk_at "gt"); (case utl => exact rfl))
  | ((with_reducible refine' U.s_glu ?uth ?utl ?_); (case uth => walk_at "g"); (case utl => exact rfl))
  | ((with_reducible refine' U.s_ixt ?uih ?uia ?_); (case uih => walk_at "gt"); (case uia => exact rfl))
  | with_reducible refine' U.s_bm0 ?_
  | with_reducible refine' U.s_tys ?_
  | with_reducible refine' U.s_pnil ?_
  | with_reducible refine' U.s_pcons ?_
  | ((with_reducible refine' U.s_tyl ?uth ?_); (case uth => walk_at "g"))
  | ((with_reducible refine' U.s_tyd ?uth ?_); (case uth => walk_at "g"))
  | with_reducible refine' U.s_max2 ?_
  | with_reducible refine' U.s_min2 ?_
  | with_reducible refine' U.s_sub2 ?_
  | with_reducible refine' U.s_sl ?_
  | with_reducible refine' U.s_nopart ?_
  | with_reducible refine' U.s_part ?_
  | with_reducible refine' U.s_int ?_
  | with_reducible refine' U.s_m1 ?_
  | with_reducible refine' U.s_m0 ?_
  | with_reducible refine' U.s_isstr ?_
  | with_reducible refine' U.s_rng1 ?_
  | with_reducible refine' U.s_ilist ?_
  | with_reducible refine' U.s_istr ?_
  | with_reducible refine' U.s_lc ?_
  | with_reducible refine' U.s_for ?_
  | with_reducible refine' U.s_istr1 ?_
  | with_reducible refine' U.s_yes ?_
  | with_reducible refine' U.s_itt ?_
  | with_reducible refine' U.s_itf ?_
  | ((with_reducible refine' U.s_ixl ?uih ?uia ?_); (case uih => walk_at "g"); (case uia => exact rfl))
  | ((with_reducible refine' U.s_ixl ?uih ?uia ?_); (case uih => exact L2.upd_same); (case uia => exact rfl))
  | ((with_reducible refine' U.s_mod ?umh ?_); (case umh => first | decide | assumption | omega))
  | ((with_reducible refine' U.s_isInt ?uty ?_); (case uty => first | assumption | exact U.TyN.int | exact U.TyN.str | exact U.TyN.non | exact U.TyN.bl | exact U.TyN.lst (by walk_at "g") | exact U.TyN.tup (by walk_at "gt") | exact U.TyN.dic (by walk_at "g")))
  | ((with_reducible refine' U.s_isBool ?uty ?_); (case uty => first | assumption | exact U.TyN.int | exact U.TyN.str | exact U.TyN.non | exact U.TyN.bl | exact U.TyN.lst (by walk_at "g") | exact U.TyN.tup (by walk_at "gt") | exact U.TyN.dic (by walk_at "g")))
  | ((with_reducible refine' U.s_isStr ?uty ?_); (case uty => first | assumption | exact U.TyN.int | exact U.TyN.str | exact U.TyN.non | exact U.TyN.bl | exact U.TyN.lst (by walk_at "g") | exact U.TyN.tup (by walk_at "gt") | exact U.TyN.dic (by walk_at "g")))
  | ((with_reducible refine' U.s_isList ?uty ?_); (case uty => first | assumption | exact U.TyN.int | exact U.TyN.str | exact U.TyN.non | exact U.TyN.bl | exact U.TyN.lst (by walk_at "g") | exact U.TyN.tup (by walk_at "gt") | exact U.TyN.dic (by walk_at "g")))
  | ((with_reducible refine' U.s_isTup ?uty ?_); (case uty => first | assumption | exact U.TyN.int | exact U.TyN.str | exact U.TyN.non | exact U.TyN.bl | exact U.TyN.lst (by walk_at "g") | exact U.TyN.tup (by walk_at "gt") | exact U.TyN.dic (by walk_at "g")))
  | ((with_reducible refine' U.s_isDict ?uty ?_); (case uty => first | assumption | exact U.TyN.int | exact U.TyN.str | exact U.TyN.non | exact U.TyN.bl | exact U.TyN.lst (by walk_at "g") | exact U.TyN.tup (by walk_at "gt") | exact U.TyN.dic (by walk_at "g")))
  | ((with_reducible refine' U.s_itT ?uit ?_); (case uit => exact rfl))
  | ((with_reducible refine' U.s_itF ?uit ?_); (case uit => exact rfl))
  | ((with_reducible refine' U.s_itT ?uit ?_); (case uit => decide +kernel))
  | ((with_reducible refine' U.s_itF ?uit ?_); (case uit => decide +kernel))
  | ((with_reducible refine' U.s_mul ?umh ?_); (case umh => first | exact U.cmulL (by omega) (by omega) | exact U.cmulR (by omega) (by omega)))
  | ((with_reducible refine' U.s_pow ?umh ?ume ?_); (case umh => exact U.cpow (by omega) (by omega) (by omega) (by omega)); (case ume => simp only [Int.reduceToNat, Int.reducePow]; exact rfl))
  | ((with_reducible refine' U.s_div ?umh ?_); (case umh => exact U.cdiv (by omega) (by omega)))
  | ((with_reducible refine' U.s_dgs ?uih ?uia ?_); (case uih => walk_at "g"); (case uia => exact rfl))
  | ((with_reducible refine' U.s_dgs ?uih ?uia ?_); (case uih => walk_at "g"); (case uia => decide +kernel))
  | with_reducible refine' U.s_par ?_
  | with_reducible refine' U.s_two ?_
  | with_reducible refine' U.s_iseq ?_
  | with_reducible refine' U.s_itup ?_
  | with_reducible refine' U.s_ienT ?_
  | with_reducible refine' U.s_ienL ?_
  | with_reducible refine' U.s_ienS ?_
  | with_reducible refine' U.s_izB ?_
  | with_reducible refine' U.s_jo ?_
  | with_reducible refine' U.s_jsF ?_
  | with_reducible refine' U.s_abs ?_
  | ((with_reducible refine' U.s_inS ?uih ?_); (case uih => walk_at "g"))
  | ((with_reducible refine' U.s_ninS ?uih ?_); (case uih => walk_at "g"))
  | ((with_reducible refine' U.s_itp ?uih ?_); (case uih => walk_at "gt"))
  | ((with_reducible refine' U.s_eT ?uih ?_); (case uih => walk_at "gt"))
  | ((with_reducible refine' U.s_eL ?uih ?_); (case uih => walk_at "g")))
local macro_rules | `(tactic| walk_at "u1") => `(tactic| first
  | walk_at "b1"
  | with_reducible refine' U.s_seq ?_
  | with_reducible refine' U.s_ifS ?_
  | with_reducible refine' U.s_and ?_
  | with_reducible refine' U.s_or ?_
  | with_reducible refine' U.s_andV ?_
  | with_reducible refine' U.s_orV ?_
  | with_reducible refine' U.s_chain ?_)
local macro_rules | `(tactic| walk_at "v1") => `(tactic| first
  | walk_at "b1"
  | with_reducible refine' U.s_seq ?_
  | with_reducible refine' U.s_ifS ?_)
local macro_rules | `(tactic| walk_at "w1") => `(tactic| first
  | walk_at "b1"
  | with_reducible refine' U.s_seq ?_)
local macro_rules | `(tactic| walk_at "s1") => `(tactic| first
  | walk_at "b1")
local macro_rules | `(tactic| walk_at "u") => `(tactic| repeat (first | walk_at "u1" | walk_at "u2"))
local macro_rules | `(tactic| walk_at "v") => `(tactic| repeat (first | walk_at "v1" | walk_at "u2"))
local macro_rules | `(tactic| walk_at "w") => `(tactic| repeat (first | walk_at "w1" | walk_at "u2"))
local macro_rules | `(tactic| walk_at "s") => `(tactic| repeat (first | walk_at "s1" | walk_at "u2"))
local macro_rules | `(tactic| walk_at "na") => `(tactic| first
  | ((with_reducible refine' U.s_newl (U.zle ?unz) ?_); (case unz => simp))
  | ((with_reducible refine' U.s_newt (U.zle ?unz) ?_); (case unz => simp)))
local macro_rules | `(tactic| walk_at "g") => `(tactic| first
  | assumption
  | ((refine' U.Kp.get ?ugk ?ugm ?ugn); (case ugk => assumption); (case ugm => walk_at "g"); (case ugn => walk_at "n"))
  | ((refine' U.Box.kpn ?ugm ?ugk ?ugn); (case ugk => assumption); (case ugm => walk_at "g"); (case ugn => walk_at "n"))
  | ((refine' U.SqL.kpn ?ugk ?ugm ?ugn); (case ugk => assumption); (case ugm => walk_at "g"); (case ugn => walk_at "n"))
  | ((refine' L2.SqL.of ?ugm); (case ugm => walk_at "g"))
  | ((refine' U.Dx.kpn ?ugm ?ugk ?ugn); (case ugk => assumption); (case ugm => walk_at "g"); (case ugn => walk_at "q"))
  | walk_at "g2")
local macro_rules | `(tactic| walk_at "gt") => `(tactic| first
  | assumption
  | ((refine' U.Kp.tgt ?ugk ?ugm); (case ugk => assumption); (case ugm => walk_at "gt"))
  | fail)
local macro_rules | `(tactic| walk_at "g2") => `(tactic| fail)
local macro_rules | `(tactic| walk_at "n") => `(tactic| first
  | exact U.nm0
  | ((refine' U.nmc ?unh ?unr); (case unh => walk_at "ne"); (case unr => walk_at "n"))
  | assumption
  | fail)
local macro_rules | `(tactic| walk_at "ne") => `(tactic| first
  | assumption
  | exact Ne.symm (by assumption)
  | ((refine' U.Th.ne ?una ?unf); (case unf => assumption); (case una => walk_at "t"))
  | ((refine' Ne.symm (U.Th.ne ?una ?unf)); (case unf => assumption); (case una => walk_at "t"))
  | ((refine' U.Th.nk ?una ?unb ?unc); (case una => walk_at "t0"); (case unb => walk_at "t"); (case unc => exact rfl))
  | ((refine' Ne.symm (U.Th.nk ?una ?unb ?unc)); (case una => walk_at "t0"); (case unb => walk_at "t"); (case unc => exact rfl))
  | fail)
local macro_rules | `(tactic| walk_at "t0") => `(tactic| first
  | exact U.Th.lst (by assumption)
  | exact U.Th.tup (by assumption)
  | exact U.Th.dK (by assumption)
  | exact U.Th.ins (by assumption)
  | exact U.Th.xd (by assumption)
  | exact U.Box.th (by assumption)
  | walk_at "t2")
local macro_rules | `(tactic| walk_at "t2") => `(tactic| fail)
local macro_rules | `(tactic| walk_at "t") => `(tactic| first
  | walk_at "t0"
  | ((refine' U.Th.kp ?ugk ?ugm); (case ugk => assumption); (case ugm => walk_at "t"))
  | fail)
local macro_rules | `(tactic| walk_at "k") => `(tactic| first
  | exact U.Kp.refl
  | assumption
  | ((refine' U.Kp.step ?ukm ?ukk ?ukq); (case ukk => assumption); (case ukm => walk_at "k"); (case ukq => walk_at "q"))
  | fail)
local macro_rules | `(tactic| walk_at "q") => `(tactic| first
  | exact U.al0
  | ((refine' U.alc ?uqh ?uqr); (case uqh => first | (apply Or.inl; simp; done) | (apply Or.inr; walk_at "f")); (case uqr => walk_at "q"))
  | fail)
local macro_rules | `(tactic| walk_at "f") => `(tactic| first
  | assumption
  | exact U.Fz.f (by assumption)
  | ((refine' U.Dm.fr ?ufa ?ufm); (case ufa => assumption); (case ufm => walk_at "m"))
  | fail)
local macro_rules | `(tactic| walk_at "m") => `(tactic| first
  | exact U.Dm.refl
  | ((refine' U.Dm.step ?umm ?umk); (case umk => assumption); (case umm => walk_at "m"))
  | fail)
local macro_rules | `(tactic| walk_at "ud") => `(tactic| first
  | refine U.s_uds (by walk_at "g") (U.zlt (by simp)) rfl ?_
  | refine U.s_udi (by walk_at "g") (U.zlt (by simp)) rfl ?_
  | refine U.s_ul (by walk_at "g") rfl rfl ?_)

namespace K75
open PySem L2 U
def top (i : Nat) : Stmt := PySem.Challenge.pw_onestaff_k75_logs.main.body.getD i (.Pass ⟨0, 0, 0, 0⟩)
abbrev s_NoDeed_init : Stmt := inClass (top 2) 0
abbrev N_NoDeed_init : List Str := ["self", "found"]
theorem sc_NoDeed_init : FnScope N_NoDeed_init ["self", "found"] (defScope s_NoDeed_init) := ⟨rfl, rfl, rfl, by decide +kernel, rfl, by decide +kernel, by decide +kernel⟩
theorem st_NoDeed_init {v0 v1 : V} : L2.start N_NoDeed_init [v0, v1] = [some v0, some v1] := rfl
abbrev s_NoText_init : Stmt := inClass (top 3) 0
abbrev N_NoText_init : List Str := ["self", "row"]
theorem sc_NoText_init : FnScope N_NoText_init ["self", "row"] (defScope s_NoText_init) := ⟨rfl, rfl, rfl, by decide +kernel, rfl, by decide +kernel, by decide +kernel⟩
theorem st_NoText_init {v0 v1 : V} : L2.start N_NoText_init [v0, v1] = [some v0, some v1] := rfl
abbrev s_is_whole : Stmt := top 7
abbrev N_is_whole : List Str := ["thing", "low", "high"]
theorem sc_is_whole : FnScope N_is_whole ["thing", "low", "high"] (defScope s_is_whole) := ⟨rfl, rfl, rfl, by decide +kernel, rfl, by decide +kernel, by decide +kernel⟩
theorem st_is_whole {v0 v1 v2 : V} : L2.start N_is_whole [v0, v1, v2] = [some v0, some v1, some v2] := rfl
abbrev s_is_name : Stmt := top 8
abbrev N_is_name : List Str := ["thing", "sign"]
theorem sc_is_name : FnScope N_is_name ["thing"] (defScope s_is_name) := ⟨rfl, rfl, rfl, by decide +kernel, rfl, by decide +kernel, by decide +kernel⟩
theorem st_is_name {v0 : V} : L2.start N_is_name [v0] = [some v0, none] := rfl
abbrev s_is_filled : Stmt := top 14
abbrev N_is_filled : List Str := ["part"]
theorem sc_is_filled : FnScope N_is_filled ["part"] (defScope s_is_filled) := ⟨rfl, rfl, rfl, by decide +kernel, rfl, by decide +kernel, by decide +kernel⟩
theorem st_is_filled {v0 : V} : L2.start N_is_filled [v0] = [some v0] := rfl
abbrev s_is_part : Stmt := top 15
abbrev N_is_part : List Str := ["part", "thing"]
theorem sc_is_part : FnScope N_is_part ["part", "thing"] (defScope s_is_part) := ⟨rfl, rfl, rfl, by decide +kernel, rfl, by decide +kernel, by decide +kernel⟩
theorem st_is_part {v0 v1 : V} : L2.start N_is_part [v0, v1] = [some v0, some v1] := rfl
abbrev s_is_deed : Stmt := top 16
abbrev N_is_deed : List Str := ["thing", "parts", "part", "one"]
theorem sc_is_deed : FnScope N_is_deed ["thing"] (defScope s_is_deed) := ⟨rfl, rfl, rfl, by decide +kernel, rfl, by decide +kernel, by decide +kernel⟩
theorem st_is_deed {v0 : V} : L2.start N_is_deed [v0] = [some v0, none, none, none] := rfl
abbrev s_deed_text : Stmt := top 17
abbrev N_deed_text : List Str := ["deed", "words", "left", "part"]
theorem sc_deed_text : FnScope N_deed_text ["deed"] (defScope s_deed_text) := ⟨rfl, rfl, rfl, by decide +kernel, rfl, by decide +kernel, by decide +kernel⟩
theorem st_deed_text {v0 : V} : L2.start N_deed_text [v0] = [some v0, none, none, none] := rfl
abbrev s_number_in : Stmt := top 18
abbrev N_number_in : List Str := ["word"]
theorem sc_number_in : FnScope N_number_in ["word"] (defScope s_number_in) := ⟨rfl, rfl, rfl, by decide +kernel, rfl, by decide +kernel, by decide +kernel⟩
theorem st_number_in {v0 : V} : L2.start N_number_in [v0] = [some v0] := rfl
abbrev s_part_in : Stmt := top 19
abbrev N_part_in : List Str := ["part", "word", "thing"]
theorem sc_part_in : FnScope N_part_in ["part", "word"] (defScope s_part_in) := ⟨rfl, rfl, rfl, by decide +kernel, rfl, by decide +kernel, by decide +kernel⟩
theorem st_part_in {v0 v1 : V} : L2.start N_part_in [v0, v1] = [some v0, some v1, none] := rfl
abbrev s_deed_of : Stmt := top 20
abbrev N_deed_of : List Str := ["words", "found", "part", "word"]
theorem sc_deed_of : FnScope N_deed_of ["words"] (defScope s_deed_of) := ⟨rfl, rfl, rfl, by decide +kernel, rfl, by decide +kernel, by decide +kernel⟩
theorem st_deed_of {v0 : V} : L2.start N_deed_of [v0] = [some v0, none, none, none] := rfl
abbrev s_log_text : Stmt := top 21
abbrev N_log_text : List Str := ["deeds", "deed"]
theorem sc_log_text : FnScope N_log_text ["deeds"] (defScope s_log_text) := ⟨rfl, rfl, rfl, by decide +kernel, rfl, by decide +kernel, by decide +kernel⟩
theorem st_log_text {v0 : V} : L2.start N_log_text [v0] = [some v0, none] := rfl
abbrev s_rows_read : Stmt := top 22
abbrev N_rows_read : List Str := ["rows", "first", "found", "at", "row", "deed"]
theorem sc_rows_read : FnScope N_rows_read ["rows", "first"] (defScope s_rows_read) := ⟨rfl, rfl, rfl, by decide +kernel, rfl, by decide +kernel, by decide +kernel⟩
theorem st_rows_read {v0 v1 : V} : L2.start N_rows_read [v0, v1] = [some v0, some v1, none, none, none, none] := rfl
abbrev s_read_log : Stmt := top 23
abbrev N_read_log : List Str := ["text"]
theorem sc_read_log : FnScope N_read_log ["text"] (defScope s_read_log) := ⟨rfl, rfl, rfl, by decide +kernel, rfl, by decide +kernel, by decide +kernel⟩
theorem st_read_log {v0 : V} : L2.start N_read_log [v0] = [some v0] := rfl
abbrev s_law_cell : Stmt := top 25
abbrev N_law_cell : List Str := ["_law_script", "_law_k"]
theorem sc_law_cell : FnScope N_law_cell ["_law_script", "_law_k"] (defScope s_law_cell) := ⟨rfl, rfl, rfl, by decide +kernel, rfl, by decide +kernel, by decide +kernel⟩
theorem st_law_cell {v0 v1 : V} : L2.start N_law_cell [v0, v1] = [some v0, some v1] := rfl
abbrev s_law_box : Stmt := top 26
abbrev N_law_box : List Str := ["_law_cell_here"]
theorem sc_law_box : FnScope N_law_box ["_law_cell_here"] (defScope s_law_box) := ⟨rfl, rfl, rfl, by decide +kernel, rfl, by decide +kernel, by decide +kernel⟩
theorem st_law_box {v0 : V} : L2.start N_law_box [v0] = [some v0] := rfl
abbrev s_law_take : Stmt := top 27
abbrev N_law_take : List Str := ["_law_box_here", "_law_many", "_law_number_here", "_law_digit"]
theorem sc_law_take : FnScope N_law_take ["_law_box_here", "_law_many"] (defScope s_law_take) := ⟨rfl, rfl, rfl, by decide +kernel, rfl, by decide +kernel, by decide +kernel⟩
theorem st_law_take {v0 v1 : V} : L2.start N_law_take [v0, v1] = [some v0, some v1, none, none] := rfl
abbrev s_law_name : Stmt := top 28
abbrev N_law_name : List Str := ["_law_box_here", "_law_words", "_law_k"]
theorem sc_law_name : FnScope N_law_name ["_law_box_here"] (defScope s_law_name) := ⟨rfl, rfl, rfl, by decide +kernel, rfl, by decide +kernel, by decide +kernel⟩
theorem st_law_name {v0 : V} : L2.start N_law_name [v0] = [some v0, none, none] := rfl
abbrev s_law_number : Stmt := top 29
abbrev N_law_number : List Str := ["_law_box_here", "_law_way"]
theorem sc_law_number : FnScope N_law_number ["_law_box_here"] (defScope s_law_number) := ⟨rfl, rfl, rfl, by decide +kernel, rfl, by decide +kernel, by decide +kernel⟩
theorem st_law_number {v0 : V} : L2.start N_law_number [v0] = [some v0, none] := rfl
abbrev s_law_forms : Stmt := top 30
abbrev N_law_forms : List Str := ["_law_some"]
theorem sc_law_forms : FnScope N_law_forms [] (defScope s_law_forms) := ⟨rfl, rfl, rfl, by decide +kernel, rfl, by decide +kernel, by decide +kernel⟩
theorem st_law_forms : L2.start N_law_forms [] = [none] := rfl
abbrev s_law_part : Stmt := top 31
abbrev N_law_part : List Str := ["_law_box_here", "_law_sign"]
theorem sc_law_part : FnScope N_law_part ["_law_box_here", "_law_sign"] (defScope s_law_part) := ⟨rfl, rfl, rfl, by decide +kernel, rfl, by decide +kernel, by decide +kernel⟩
theorem st_law_part {v0 v1 : V} : L2.start N_law_part [v0, v1] = [some v0, some v1] := rfl
abbrev s_law_deed : Stmt := top 32
abbrev N_law_deed : List Str := ["_law_box_here", "_law_words", "_law_deed_here", "_law_row", "_law_word"]
theorem sc_law_deed : FnScope N_law_deed ["_law_box_here"] (defScope s_law_deed) := ⟨rfl, rfl, rfl, by decide +kernel, rfl, by decide +kernel, by decide +kernel⟩
theorem st_law_deed {v0 : V} : L2.start N_law_deed [v0] = [some v0, none, none, none, none] := rfl
abbrev s_law_is_name : Stmt := top 33
abbrev N_law_is_name : List Str := ["_law_thing", "_law_letters", "_law_sign"]
theorem sc_law_is_name : FnScope N_law_is_name ["_law_thing"] (defScope s_law_is_name) := ⟨rfl, rfl, rfl, by decide +kernel, rfl, by decide +kernel, by decide +kernel⟩
theorem st_law_is_name {v0 : V} : L2.start N_law_is_name [v0] = [some v0, none, none] := rfl
abbrev s_law_number_read : Stmt := top 34
abbrev N_law_number_read : List Str := ["_law_word", "_law_sign"]
theorem sc_law_number_read : FnScope N_law_number_read ["_law_word"] (defScope s_law_number_read) := ⟨rfl, rfl, rfl, by decide +kernel, rfl, by decide +kernel, by decide +kernel⟩
theorem st_law_number_read {v0 : V} : L2.start N_law_number_read [v0] = [some v0, none] := rfl
abbrev s_law_is_part : Stmt := top 35
abbrev N_law_is_part : List Str := ["_law_sign", "_law_thing"]
theorem sc_law_is_part : FnScope N_law_is_part ["_law_sign", "_law_thing"] (defScope s_law_is_part) := ⟨rfl, rfl, rfl, by decide +kernel, rfl, by decide +kernel, by decide +kernel⟩
theorem st_law_is_part {v0 v1 : V} : L2.start N_law_is_part [v0, v1] = [some v0, some v1] := rfl
abbrev s_law_deed_read : Stmt := top 36
abbrev N_law_deed_read : List Str := ["_law_row", "_law_words", "_law_form", "_law_due", "_law_deed_here", "_law_one", "_law_word"]
theorem sc_law_deed_read : FnScope N_law_deed_read ["_law_row"] (defScope s_law_deed_read) := ⟨rfl, rfl, rfl, by decide +kernel, rfl, by decide +kernel, by decide +kernel⟩
theorem st_law_deed_read {v0 : V} : L2.start N_law_deed_read [v0] = [some v0, none, none, none, none, none, none] := rfl
abbrev s_law_odd : Stmt := top 37
abbrev N_law_odd : List Str := ["_law_box_here", "_law_some"]
theorem sc_law_odd : FnScope N_law_odd ["_law_box_here"] (defScope s_law_odd) := ⟨rfl, rfl, rfl, by decide +kernel, rfl, by decide +kernel, by decide +kernel⟩
theorem st_law_odd {v0 : V} : L2.start N_law_odd [v0] = [some v0, none] := rfl
abbrev s_law_bad_row : Stmt := top 38
abbrev N_law_bad_row : List Str := ["_law_box_here", "_law_row", "_law_words", "_law_way", "_law_at", "_law_more", "_law_some"]
theorem sc_law_bad_row : FnScope N_law_bad_row ["_law_box_here", "_law_row"] (defScope s_law_bad_row) := ⟨rfl, rfl, rfl, by decide +kernel, rfl, by decide +kernel, by decide +kernel⟩
theorem st_law_bad_row {v0 v1 : V} : L2.start N_law_bad_row [v0, v1] = [some v0, some v1, none, none, none, none, none] := rfl
abbrev s_law_wrote : Stmt := top 39
abbrev N_law_wrote : List Str := ["_law_deeds", "e"]
theorem sc_law_wrote : FnScope N_law_wrote ["_law_deeds"] (defScope s_law_wrote) := ⟨rfl, rfl, rfl, by decide +kernel, rfl, by decide +kernel, by decide +kernel⟩
theorem st_law_wrote {v0 : V} : L2.start N_law_wrote [v0] = [some v0, none] := rfl
abbrev s_law_read : Stmt := top 40
abbrev N_law_read : List Str := ["_law_text", "e"]
theorem sc_law_read : FnScope N_law_read ["_law_text"] (defScope s_law_read) := ⟨rfl, rfl, rfl, by decide +kernel, rfl, by decide +kernel, by decide +kernel⟩
theorem st_law_read {v0 : V} : L2.start N_law_read [v0] = [some v0, none] := rfl
abbrev s_law_read_due : Stmt := top 41
abbrev N_law_read_due : List Str := ["_law_text", "_law_rows", "_law_found", "_law_row"]
theorem sc_law_read_due : FnScope N_law_read_due ["_law_text"] (defScope s_law_read_due) := ⟨rfl, rfl, rfl, by decide +kernel, rfl, by decide +kernel, by decide +kernel⟩
theorem st_law_read_due {v0 : V} : L2.start N_law_read_due [v0] = [some v0, none, none, none] := rfl
abbrev s_law_good_right : Stmt := top 42
abbrev N_law_good_right : List Str := ["_law_deeds", "_law_rows", "_law_kept", "_law_handed", "_law_turn", "_law_found"]
theorem sc_law_good_right : FnScope N_law_good_right ["_law_deeds", "_law_rows"] (defScope s_law_good_right) := ⟨rfl, rfl, rfl, by decide +kernel, rfl, by decide +kernel, by decide +kernel⟩
theorem st_law_good_right {v0 v1 : V} : L2.start N_law_good_right [v0, v1] = [some v0, some v1, none, none, none, none] := rfl
abbrev s_law_bad_deeds_right : Stmt := top 43
abbrev N_law_bad_deeds_right : List Str := ["_law_box_here", "_law_deeds", "_law_some", "_law_turn", "_law_bad", "_law_found", "_law_odd_here", "_law_at", "_law_one"]
theorem sc_law_bad_deeds_right : FnScope N_law_bad_deeds_right ["_law_box_here", "_law_deeds"] (defScope s_law_bad_deeds_right) := ⟨rfl, rfl, rfl, by decide +kernel, rfl, by decide +kernel, by decide +kernel⟩
theorem st_law_bad_deeds_right {v0 v1 : V} : L2.start N_law_bad_deeds_right [v0, v1] = [some v0, some v1, none, none, none, none, none, none, none] := rfl
abbrev s_law_bad_rows_right : Stmt := top 44
abbrev N_law_bad_rows_right : List Str := ["_law_box_here", "_law_rows", "_law_some", "_law_turn", "_law_text", "_law_thing", "_law_at", "_law_row"]
theorem sc_law_bad_rows_right : FnScope N_law_bad_rows_right ["_law_box_here", "_law_rows"] (defScope s_law_bad_rows_right) := ⟨rfl, rfl, rfl, by decide +kernel, rfl, by decide +kernel, by decide +kernel⟩
theorem st_law_bad_rows_right {v0 v1 : V} : L2.start N_law_bad_rows_right [v0, v1] = [some v0, some v1, none, none, none, none, none, none] := rfl
abbrev s_law : Stmt := top 45
abbrev N_law : List Str := ["_law_script", "_law_k", "_law_box_here", "_law_many", "_law_drawn", "_law_deeds", "_law_rows", "_law_deed_here", "_law_row", "_law_turn"]
theorem sc_law : FnScope N_law ["_law_script"] (defScope s_law) := ⟨rfl, rfl, rfl, by decide +kernel, rfl, by decide +kernel, by decide +kernel⟩
theorem st_law {v0 : V} : L2.start N_law [v0] = [some v0, none, none, none, none, none, none, none, none, none] := rfl
def l_FORMS : List (Str × List Str) := [("leave", ["name", "to", "name", "by", "thing"]), ("come", ["name"]), ("lock", ["name", "number", "for", "name"]), ("pilot", ["name", "number"]), ("unlock", ["name", "number"]), ("give", ["name", "number"]), ("take", ["name", "number"]), ("box", ["name", "number"]), ("walk", ["name", "to", "name"]), ("help", ["name", "name"]), ("bring", ["name", "to", "name"]), ("again", ["name", "kind", "number"]), ("get", ["number"]), ("lose", ["number"])]
structure Tx (K : PySem.W.Frag) (mg : Str → Option Value) (w : World) where
  C_NoDeed : Addr
  m_NoDeed : mg "NoDeed" = some (.ref C_NoDeed)
  C_NoText : Addr
  m_NoText : mg "NoText" = some (.ref C_NoText)
  C_StaffError : Addr
  m_StaffError : mg "StaffError" = some (.ref C_StaffError)
  a_NoDeed_init : Addr
  d_NoDeed_init : FuncData
  F_NoDeed_init : Fun K "__init__" "NoDeed.__init__" s_NoDeed_init a_NoDeed_init d_NoDeed_init
  B_NoDeed_init : Binds K d_NoDeed_init ["self", "found"] []
  a_NoText_init : Addr
  d_NoText_init : FuncData
  F_NoText_init : Fun K "__init__" "NoText.__init__" s_NoText_init a_NoText_init d_NoText_init
  B_NoText_init : Binds K d_NoText_init ["self", "row"] []
  a_is_whole : Addr
  d_is_whole : FuncData
  F_is_whole : Fun K "is_whole" "is_whole" s_is_whole a_is_whole d_is_whole
  B_is_whole : Binds K d_is_whole ["thing", "low", "high"] []
  m_is_whole : mg "is_whole" = some (.ref a_is_whole)
  a_is_name : Addr
  d_is_name : FuncData
  F_is_name : Fun K "is_name" "is_name" s_is_name a_is_name d_is_name
  B_is_name : Binds K d_is_name ["thing"] []
  m_is_name : mg "is_name" = some (.ref a_is_name)
  a_is_filled : Addr
  d_is_filled : FuncData
  F_is_filled : Fun K "is_filled" "is_filled" s_is_filled a_is_filled d_is_filled
  B_is_filled : Binds K d_is_filled ["part"] []
  m_is_filled : mg "is_filled" = some (.ref a_is_filled)
  a_is_part : Addr
  d_is_part : FuncData
  F_is_part : Fun K "is_part" "is_part" s_is_part a_is_part d_is_part
  B_is_part : Binds K d_is_part ["part", "thing"] []
  m_is_part : mg "is_part" = some (.ref a_is_part)
  a_is_deed : Addr
  d_is_deed : FuncData
  F_is_deed : Fun K "is_deed" "is_deed" s_is_deed a_is_deed d_is_deed
  B_is_deed : Binds K d_is_deed ["thing"] []
  m_is_deed : mg "is_deed" = some (.ref a_is_deed)
  a_deed_text : Addr
  d_deed_text : FuncData
  F_deed_text : Fun K "deed_text" "deed_text" s_deed_text a_deed_text d_deed_text
  B_deed_text : Binds K d_deed_text ["deed"] []
  m_deed_text : mg "deed_text" = some (.ref a_deed_text)
  a_number_in : Addr
  d_number_in : FuncData
  F_number_in : Fun K "number_in" "number_in" s_number_in a_number_in d_number_in
  B_number_in : Binds K d_number_in ["word"] []
  m_number_in : mg "number_in" = some (.ref a_number_in)
  a_part_in : Addr
  d_part_in : FuncData
  F_part_in : Fun K "part_in" "part_in" s_part_in a_part_in d_part_in
  B_part_in : Binds K d_part_in ["part", "word"] []
  m_part_in : mg "part_in" = some (.ref a_part_in)
  a_deed_of : Addr
  d_deed_of : FuncData
  F_deed_of : Fun K "deed_of" "deed_of" s_deed_of a_deed_of d_deed_of
  B_deed_of : Binds K d_deed_of ["words"] []
  m_deed_of : mg "deed_of" = some (.ref a_deed_of)
  a_log_text : Addr
  d_log_text : FuncData
  F_log_text : Fun K "log_text" "log_text" s_log_text a_log_text d_log_text
  B_log_text : Binds K d_log_text ["deeds"] []
  m_log_text : mg "log_text" = some (.ref a_log_text)
  a_rows_read : Addr
  d_rows_read : FuncData
  F_rows_read : Fun K "rows_read" "rows_read" s_rows_read a_rows_read d_rows_read
  B_rows_read : Binds K d_rows_read ["rows", "first"] []
  m_rows_read : mg "rows_read" = some (.ref a_rows_read)
  a_read_log : Addr
  d_read_log : FuncData
  F_read_log : Fun K "read_log" "read_log" s_read_log a_read_log d_read_log
  B_read_log : Binds K d_read_log ["text"] []
  m_read_log : mg "read_log" = some (.ref a_read_log)
  a_law_cell : Addr
  d_law_cell : FuncData
  F_law_cell : Fun K "_law_cell" "_law_cell" s_law_cell a_law_cell d_law_cell
  B_law_cell : Binds K d_law_cell ["_law_script", "_law_k"] []
  m_law_cell : mg "_law_cell" = some (.ref a_law_cell)
  a_law_box : Addr
  d_law_box : FuncData
  F_law_box : Fun K "_law_box" "_law_box" s_law_box a_law_box d_law_box
  B_law_box : Binds K d_law_box ["_law_cell_here"] []
  m_law_box : mg "_law_box" = some (.ref a_law_box)
  a_law_take : Addr
  d_law_take : FuncData
  F_law_take : Fun K "_law_take" "_law_take" s_law_take a_law_take d_law_take
  B_law_take : Binds K d_law_take ["_law_box_here", "_law_many"] []
  m_law_take : mg "_law_take" = some (.ref a_law_take)
  a_law_name : Addr
  d_law_name : FuncData
  F_law_name : Fun K "_law_name" "_law_name" s_law_name a_law_name d_law_name
  B_law_name : Binds K d_law_name ["_law_box_here"] []
  m_law_name : mg "_law_name" = some (.ref a_law_name)
  a_law_number : Addr
  d_law_number : FuncData
  F_law_number : Fun K "_law_number" "_law_number" s_law_number a_law_number d_law_number
  B_law_number : Binds K d_law_number ["_law_box_here"] []
  m_law_number : mg "_law_number" = some (.ref a_law_number)
  a_law_forms : Addr
  d_law_forms : FuncData
  F_law_forms : Fun K "_law_forms" "_law_forms" s_law_forms a_law_forms d_law_forms
  B_law_forms : Binds K d_law_forms [] []
  m_law_forms : mg "_law_forms" = some (.ref a_law_forms)
  a_law_part : Addr
  d_law_part : FuncData
  F_law_part : Fun K "_law_part" "_law_part" s_law_part a_law_part d_law_part
  B_law_part : Binds K d_law_part ["_law_box_here", "_law_sign"] []
  m_law_part : mg "_law_part" = some (.ref a_law_part)
  a_law_deed : Addr
  d_law_deed : FuncData
  F_law_deed : Fun K "_law_deed" "_law_deed" s_law_deed a_law_deed d_law_deed
  B_law_deed : Binds K d_law_deed ["_law_box_here"] []
  m_law_deed : mg "_law_deed" = some (.ref a_law_deed)
  a_law_is_name : Addr
  d_law_is_name : FuncData
  F_law_is_name : Fun K "_law_is_name" "_law_is_name" s_law_is_name a_law_is_name d_law_is_name
  B_law_is_name : Binds K d_law_is_name ["_law_thing"] []
  m_law_is_name : mg "_law_is_name" = some (.ref a_law_is_name)
  a_law_number_read : Addr
  d_law_number_read : FuncData
  F_law_number_read : Fun K "_law_number_read" "_law_number_read" s_law_number_read a_law_number_read d_law_number_read
  B_law_number_read : Binds K d_law_number_read ["_law_word"] []
  m_law_number_read : mg "_law_number_read" = some (.ref a_law_number_read)
  a_law_is_part : Addr
  d_law_is_part : FuncData
  F_law_is_part : Fun K "_law_is_part" "_law_is_part" s_law_is_part a_law_is_part d_law_is_part
  B_law_is_part : Binds K d_law_is_part ["_law_sign", "_law_thing"] []
  m_law_is_part : mg "_law_is_part" = some (.ref a_law_is_part)
  a_law_deed_read : Addr
  d_law_deed_read : FuncData
  F_law_deed_read : Fun K "_law_deed_read" "_law_deed_read" s_law_deed_read a_law_deed_read d_law_deed_read
  B_law_deed_read : Binds K d_law_deed_read ["_law_row"] []
  m_law_deed_read : mg "_law_deed_read" = some (.ref a_law_deed_read)
  a_law_odd : Addr
  d_law_odd : FuncData
  F_law_odd : Fun K "_law_odd" "_law_odd" s_law_odd a_law_odd d_law_odd
  B_law_odd : Binds K d_law_odd ["_law_box_here"] []
  m_law_odd : mg "_law_odd" = some (.ref a_law_odd)
  a_law_bad_row : Addr
  d_law_bad_row : FuncData
  F_law_bad_row : Fun K "_law_bad_row" "_law_bad_row" s_law_bad_row a_law_bad_row d_law_bad_row
  B_law_bad_row : Binds K d_law_bad_row ["_law_box_here", "_law_row"] []
  m_law_bad_row : mg "_law_bad_row" = some (.ref a_law_bad_row)
  a_law_wrote : Addr
  d_law_wrote : FuncData
  F_law_wrote : Fun K "_law_wrote" "_law_wrote" s_law_wrote a_law_wrote d_law_wrote
  B_law_wrote : Binds K d_law_wrote ["_law_deeds"] []
  m_law_wrote : mg "_law_wrote" = some (.ref a_law_wrote)
  a_law_read : Addr
  d_law_read : FuncData
  F_law_read : Fun K "_law_read" "_law_read" s_law_read a_law_read d_law_read
  B_law_read : Binds K d_law_read ["_law_text"] []
  m_law_read : mg "_law_read" = some (.ref a_law_read)
  a_law_read_due : Addr
  d_law_read_due : FuncData
  F_law_read_due : Fun K "_law_read_due" "_law_read_due" s_law_read_due a_law_read_due d_law_read_due
  B_law_read_due : Binds K d_law_read_due ["_law_text"] []
  m_law_read_due : mg "_law_read_due" = some (.ref a_law_read_due)
  a_law_good_right : Addr
  d_law_good_right : FuncData
  F_law_good_right : Fun K "_law_good_right" "_law_good_right" s_law_good_right a_law_good_right d_law_good_right
  B_law_good_right : Binds K d_law_good_right ["_law_deeds", "_law_rows"] []
  m_law_good_right : mg "_law_good_right" = some (.ref a_law_good_right)
  a_law_bad_deeds_right : Addr
  d_law_bad_deeds_right : FuncData
  F_law_bad_deeds_right : Fun K "_law_bad_deeds_right" "_law_bad_deeds_right" s_law_bad_deeds_right a_law_bad_deeds_right d_law_bad_deeds_right
  B_law_bad_deeds_right : Binds K d_law_bad_deeds_right ["_law_box_here", "_law_deeds"] []
  m_law_bad_deeds_right : mg "_law_bad_deeds_right" = some (.ref a_law_bad_deeds_right)
  a_law_bad_rows_right : Addr
  d_law_bad_rows_right : FuncData
  F_law_bad_rows_right : Fun K "_law_bad_rows_right" "_law_bad_rows_right" s_law_bad_rows_right a_law_bad_rows_right d_law_bad_rows_right
  B_law_bad_rows_right : Binds K d_law_bad_rows_right ["_law_box_here", "_law_rows"] []
  m_law_bad_rows_right : mg "_law_bad_rows_right" = some (.ref a_law_bad_rows_right)
  a_law : Addr
  d_law : FuncData
  F_law : Fun K "law" "law" s_law a_law d_law
  B_law : Binds K d_law ["_law_script"] []
  m_law : mg "law" = some (.ref a_law)
  er_NoDeed : ErrC K C_NoDeed a_NoDeed_init "found"
  er_NoText : ErrC K C_NoText a_NoText_init "row"
  rd_StaffError : RdC K C_StaffError
  vi_StaffError : PySem.W.findCls K (.ref C_StaffError) (.type "type") "__init__" = some (.val (.builtin "ValueError.__init__"))
  oc_get : PySem.W.specialIn K (.builtin "object.__class__") "__get__" = some (some (.builtin "getset_descriptor.__get__"))
  oc_take : PySem.W.takesIn K (.builtin "object.__class__") = some true
  ex_NoDeed_NoDeed : PySem.W.exmOne K (.ref C_NoDeed) (.ref C_NoDeed) = some true
  ex_NoText_NoText : PySem.W.exmOne K (.ref C_NoText) (.ref C_NoText) = some true
  c_LONGEST : Value
  mc_LONGEST : mg "LONGEST" = some c_LONGEST
  rc_LONGEST : RelV (V.int 6) c_LONGEST
  c_LETTERS : Value
  mc_LETTERS : mg "LETTERS" = some c_LETTERS
  rc_LETTERS : RelV (V.str "abcdefghijklmnopqrstuvwxyz") c_LETTERS
  c_MOST_NUMBER : Value
  mc_MOST_NUMBER : mg "MOST_NUMBER" = some c_MOST_NUMBER
  rc_MOST_NUMBER : RelV (V.int 999999) c_MOST_NUMBER
  t_THINGS : Addr
  mt_THINGS : mg "THINGS" = some (.ref t_THINGS)
  kt_THINGS : KT K t_THINGS [.str "staff", .str "ticket", .str "pilot", .str "long"]
  t_KINDS : Addr
  mt_KINDS : mg "KINDS" = some (.ref t_KINDS)
  kt_KINDS : KT K t_KINDS [.str "through", .str "lock", .str "open"]
  q_FORMS : Addr
  mq_FORMS : mg "FORMS" = some (.ref q_FORMS)
  kq_FORMS : KF K w q_FORMS (lk l_FORMS)
  z_all : mg "all" = none
  z_bool : mg "bool" = none
  z_enumerate : mg "enumerate" = none
  z_int : mg "int" = none
  z_isinstance : mg "isinstance" = none
  z_len : mg "len" = none
  z_list : mg "list" = none
  z_max : mg "max" = none
  z_min : mg "min" = none
  z_range : mg "range" = none
  z_repr : mg "repr" = none
  z_str : mg "str" = none
  z_tuple : mg "tuple" = none
  z_zip : mg "zip" = none
variable {P : Program} {w : World} {K : PySem.W.Frag} {mg : Str → Option Value} {base : Heap}
local macro_rules | `(tactic| walk_at "u2") => `(tactic| fail)
theorem ok_NoDeed_init (T : Tx K mg w) : FnOk P w K mg base (L2.CX P w) 1 T.a_NoDeed_init T.d_NoDeed_init ["self", "found"] (spE T.C_NoDeed "found") := by
  refine T.F_NoDeed_init.okX sc_NoDeed_init (fun vs H Q E h => ?_) (fun cd A o s H vs Q E hr h => ?_)
  · obtain ⟨v0, v1, rfl, h⟩ := h; rfl
  obtain ⟨v0, v1, rfl, a, rfl, ha, k⟩ := h
  refine ⟨_, (pss_cons (ps_expr (pe_se (K := K) rfl rfl T.m_StaffError T.rd_StaffError T.vi_StaffError (pa_cons (pv 0) (pa_cons pe_str pa_nil))))
    (pss_one (ps_os (K := K) rfl (pv 0) (pv 1)))), ?_⟩
  walk_at "u"
  refine s_sek T.er_NoDeed.oex ha ?_
  walk_at "u"
  exact ⟨a, T.C_NoDeed, rfl, T.er_NoDeed.oex, T.er_NoDeed.no, ha, k⟩
theorem ok_NoText_init (T : Tx K mg w) : FnOk P w K mg base (L2.CX P w) 1 T.a_NoText_init T.d_NoText_init ["self", "row"] (spE T.C_NoText "row") := by
  refine T.F_NoText_init.okX sc_NoText_init (fun vs H Q E h => ?_) (fun cd A o s H vs Q E hr h => ?_)
  · obtain ⟨v0, v1, rfl, h⟩ := h; rfl
  obtain ⟨v0, v1, rfl, a, rfl, ha, k⟩ := h
  refine ⟨_, (pss_cons (ps_expr (pe_se (K := K) rfl rfl T.m_StaffError T.rd_StaffError T.vi_StaffError (pa_cons (pv 0) (pa_cons pe_str pa_nil))))
    (pss_one (ps_os (K := K) rfl (pv 0) (pv 1)))), ?_⟩
  walk_at "u"
  refine s_sek T.er_NoText.oex ha ?_
  walk_at "u"
  exact ⟨a, T.C_NoText, rfl, T.er_NoText.oex, T.er_NoText.no, ha, k⟩
/-- take: a number below many -/
def sp_law_take : Sp := sp2 fun x y H Q _ => ∃ (p : Addr) (m : Int) (n : Nat), x = .ref p ∧ y = .int m ∧ Box H p n ∧ n ≤ 1000000 ∧ 0 < m ∧ m < 10 ^ 40 ∧
  ∀ (d : Int) (H' : Hp), 0 ≤ d → d < m → Box H' p (n + 1) → Kp [p] H H' → Q (.int d) H'
set_option maxHeartbeats 16000000 in
theorem ok_law_take (T : Tx K mg w) : FnOk P w K mg base (L2.CX P w) 1 T.a_law_take T.d_law_take ["_law_box_here", "_law_many"] (sp_law_take) := by
  refine T.F_law_take.okX sc_law_take (fun vs H Q E h => ?_) (fun cd A o s H vs Q E hr h => ?_)
  · obtain ⟨v0, v1, rfl, h⟩ := h; rfl
  obtain ⟨v0, v1, rfl, h⟩ := h
  obtain ⟨p, m, n, rfl, rfl, ⟨a, b, c, hp, ha, hb, hb2, hc, hc2⟩, hn, hm, hm2, k⟩ := h
  refine ⟨_, (pss_cons (ps_if (pt_cmpR o_gt (pe_ix (ix_u (K := K) rfl) (pv 0) pe_int (fun _ _ => rfl)) pe_int (nomark _))
    (pss_cons (ps_set (i := 3) sc_law_take.nd rfl (Or.inl rfl) (pe_op o_mod (pe_ix (ix_u (K := K) rfl) (pv 0) pe_int (fun _ _ => rfl)) (pv 1)))
    (pss_cons (ps_asg (pe_op o_div (pe_ix (ix_u (K := K) rfl) (pv 0) pe_int (fun _ _ => rfl)) (pv 1)) (pg_sub (pv 0) pe_int (set_u hr)))
    (pss_one (ps_ret (pv 3)))))
    pss_nil)
    (pss_cons (ps_asg (pe_op (o_add (K := K) rfl) (pe_ix (ix_u (K := K) rfl) (pv 0) pe_int (fun _ _ => rfl)) pe_int) (pg_sub (pv 0) pe_int (set_u hr)))
    (pss_cons (ps_set (i := 2) sc_law_take.nd rfl (Or.inl rfl) (pe_op o_mod (pe_op o_pow (pe_op (o_add (K := K) rfl) (pe_op (o_add (K := K) rfl) (pe_ix (ix_u (K := K) rfl) (pv 0) pe_int (fun _ _ => rfl)) (pe_op o_mul pe_int (pe_ix (ix_u (K := K) rfl) (pv 0) pe_int (fun _ _ => rfl)))) pe_int) pe_int) pe_int))
    (pss_cons (ps_set (i := 2) sc_law_take.nd rfl (Or.inl rfl) (pe_op o_mod (pe_op o_pow (pe_op (o_add (K := K) rfl) (pv 2) (pe_op o_mul pe_int (pe_ix (ix_u (K := K) rfl) (pv 0) pe_int (fun _ _ => rfl)))) pe_int) pe_int))
    (pss_one (ps_ret (pe_op o_mod (pe_op o_div (pv 2) pe_int) (pv 1)))))))), ?_⟩
  rw [st_law_take]
  walk_at "u"
  refine s_ite (fun h0 => ?_) (fun h0 => ?_)
  · walk_at "u"
    refine s_ul hp rfl rfl fun H1 e1 k1 => ?_
    walk_at "u"
    refine k _ _ (Int.emod_nonneg _ (by omega)) (Int.emod_lt_of_pos _ hm) ⟨_, _, _, e1, Int.ediv_nonneg ha (by omega), hb, hb2, hc, by omega⟩ k1
  · walk_at "u"
    refine s_ul hp rfl rfl fun H1 e1 k1 => ?_
    walk_at "u"
    have h1 : (0 : Int) ≤ (b + 7919 * (c + 1) + 17) ^ 5 % 2147483647 := Int.emod_nonneg _ (by omega)
    have h2 : (b + 7919 * (c + 1) + 17) ^ 5 % 2147483647 < 2147483647 := Int.emod_lt_of_pos _ (by omega)
    generalize (b + 7919 * (c + 1) + 17) ^ 5 % 2147483647 = y at h1 h2 ⊢
    walk_at "u"
    refine k _ _ (Int.emod_nonneg _ (by omega)) (Int.emod_lt_of_pos _ hm) ⟨_, _, _, e1, ha, hb, hb2, by omega, by omega⟩ k1
theorem c_take {p : Addr} {m : Int} {n : Nat} {H : Hp} {Q : VK} {E : XK} (hB : Box H p n) (hn : n ≤ 1000000) (h0 : 0 < m) (h1 : m < 10 ^ 40)
    (k : ∀ (d : Int) (H' : Hp), 0 ≤ d → d < m → Box H' p (n + 1) → Kp [p] H H' → Q (.int d) H') : sp_law_take [.ref p, .int m] H Q E := ⟨_, _, rfl, p, m, n, rfl, rfl, hB, hn, h0, h1, k⟩
def sp_law_cell (K : PySem.W.Frag) : Sp := sp2 fun x y H Q _ => ∃ (a : Addr) (ns : List Int) (k : Int), x = .ref a ∧ y = .int k ∧ SqL K H a (ns.map V.int) ∧ 0 ≤ k ∧ k < 1000 ∧ ∀ c : Int, Q (.int c) H
set_option maxHeartbeats 16000000 in
theorem ok_law_cell (T : Tx K mg w) : FnOk P w K mg base (L2.CX P w) 1 T.a_law_cell T.d_law_cell ["_law_script", "_law_k"] (sp_law_cell K) := by
  refine T.F_law_cell.okX sc_law_cell (fun vs H Q E h => ?_) (fun cd A o s H vs Q E hr h => ?_)
  · obtain ⟨v0, v1, rfl, h⟩ := h; rfl
  obtain ⟨v0, v1, rfl, h⟩ := h
  obtain ⟨a, ns, k, rfl, rfl, hS, h0, h1, q⟩ := h
  refine ⟨_, (pss_cons (ps_if (pt_cmpR o_lt (pv 1) (pe_callB (c_len (K := K) rfl) rfl T.z_len bt_len (pa_cons (pv 0) pa_nil)) (nomark _))
    (pss_one (ps_ret (pe_ix (ix_u (K := K) rfl) (pv 0) (pv 1) (fun _ _ => rfl))))
    pss_nil)
    (pss_one (ps_ret (pe_op (o_add (K := K) rfl) (pe_op o_mul pe_int (pv 1)) pe_int)))), ?_⟩
  rw [st_law_cell]
  walk_at "u"
  refine s_lenL hS ?_
  walk_at "u"
  rw [List.length_map]
  refine s_ite (fun h2 => ?_) (fun h2 => ?_)
  · walk_at "u"
    obtain ⟨z, e1, e2⟩ := at_int (xs := ns.map V.int) h0 (by rw [List.length_map]; exact h2)
    rw [List.getElem?_map] at e1
    obtain ⟨c, _, rfl⟩ := Option.map_eq_some_iff.mp e1
    refine s_ixL hS e2 ?_
    walk_at "u"
    exact q c
  · walk_at "u"
    exact q _
theorem c_cell {K : PySem.W.Frag} {a : Addr} {ns : List Int} {k : Int} {H : Hp} {Q : VK} {E : XK} (hS : SqL K H a (ns.map V.int)) (h0 : 0 ≤ k) (h1 : k < 1000) (q : ∀ c : Int, Q (.int c) H) : sp_law_cell K [.ref a, .int k] H Q E := ⟨_, _, rfl, a, ns, k, rfl, rfl, hS, h0, h1, q⟩
def sp_law_box : Sp := sp1 fun x H Q _ => ∃ (c : Int), x = .int c ∧ ∀ p H', H p = none → Kp [] H H' → Box H' p 0 → Q (.ref p) H'
set_option maxHeartbeats 16000000 in
theorem ok_law_box (T : Tx K mg w) : FnOk P w K mg base (L2.CX P w) 1 T.a_law_box T.d_law_box ["_law_cell_here"] (sp_law_box) := by
  refine T.F_law_box.okX sc_law_box (fun vs H Q E h => ?_) (fun cd A o s H vs Q E hr h => ?_)
  · obtain ⟨v0, rfl, h⟩ := h; rfl
  obtain ⟨v0, rfl, h⟩ := h
  obtain ⟨c, rfl, k⟩ := h
  refine ⟨_, (pss_one (ps_ret (pe_lst (pa_cons (pe_callB (c_max rfl) rfl T.z_max bt_max (pa_cons pe_int (pa_cons (pe_op o_sub (pv 0) (pe_op o_pow pe_int pe_int)) pa_nil))) (pa_cons (pe_op o_mod (pv 0) pe_int) (pa_cons pe_int pa_nil)))))), ?_⟩
  rw [st_law_box]
  walk_at "u"
  refine s_newl (zle (by simp)) fun p H1 hp e1 k1 => k p _ hp k1 ⟨_, _, _, e1, ?_, Int.emod_nonneg _ (by decide), Int.emod_lt_of_pos _ (by decide), Int.le_refl _, Int.le_refl _⟩
  split <;> omega
theorem c_box {c : Int} {H : Hp} {Q : VK} {E : XK} (q : ∀ p H', H p = none → Kp [] H H' → Box H' p 0 → Q (.ref p) H') : sp_law_box [.int c] H Q E := ⟨_, rfl, c, rfl, q⟩
local macro_rules | `(tactic| walk_at "tk") => `(tactic| (refine c_take (by walk_at "g") (by omega) (by first | decide | omega) (by first | decide | omega) ?_))
local macro_rules | `(tactic| walk_at "cl") => `(tactic| (refine c_cell (by walk_at "g") (by omega) (by omega) ?_))

def isWhole (v : V) (lo hi : Int) : Bool := match v with | .int i => decide (lo ≤ i) && decide (i ≤ hi) | _ => false
def sp_is_whole : Sp := sp3 fun x y z H Q _ => ∃ (lo hi : Int) (t : Kd), y = .int lo ∧ z = .int hi ∧ TyN H x t ∧ Q (.bl (isWhole x lo hi)) H
set_option maxHeartbeats 16000000 in
theorem ok_is_whole (T : Tx K mg w) : FnOk P w K mg base (L2.CX P w) 1 T.a_is_whole T.d_is_whole ["thing", "low", "high"] (sp_is_whole) := by
  refine T.F_is_whole.okX sc_is_whole (fun vs H Q E h => ?_) (fun cd A o s H vs Q E hr h => ?_)
  · obtain ⟨v0, v1, v2, rfl, h⟩ := h; rfl
  obtain ⟨v0, v1, v2, rfl, h⟩ := h
  obtain ⟨lo, hi, t, rfl, rfl, ht, k⟩ := h
  refine ⟨_, (pss_one (ps_ret (pe_and (pe_callB (c_isi (K := K) rfl) rfl T.z_isinstance bt_isinstance (pa_cons (pv 0) (pa_cons (pe_ty rfl T.z_int bt_int) pa_nil))) (pe_and (pe_not (pe_callB (c_isi (K := K) rfl) rfl T.z_isinstance bt_isinstance (pa_cons (pv 0) (pa_cons (pe_ty rfl T.z_bool bt_bool) pa_nil)))) (pe_one (pe_chain o_le o_le (pv 1) (pv 0) (pv 2))))))), ?_⟩
  rw [st_is_whole]
  cases ht <;> walk_at "u"
  all_goals try exact k
  rename_i i
  refine s_ite (fun h1 => ?_) (fun h1 => ?_)
  · walk_at "u"
    have e : isWhole (V.int i) lo hi = (decide (lo ≤ i) && decide (i ≤ hi)) := rfl
    rw [e, decide_eq_true h1, Bool.true_and] at k
    exact k
  · have e : isWhole (V.int i) lo hi = (decide (lo ≤ i) && decide (i ≤ hi)) := rfl
    rw [e, decide_eq_false h1, Bool.false_and] at k
    exact k
theorem whole_int {v : V} {lo hi : Int} (h : isWhole v lo hi = true) : ∃ n, v = .int n ∧ lo ≤ n ∧ n ≤ hi := by
  cases v <;> simp_all [isWhole]

def letters : Str := "abcdefghijklmnopqrstuvwxyz"
def isName (v : V) : Bool := match v with | .str z => decide (1 ≤ z.length ∧ z.length ≤ 6) && z.cps.toList.all (fun c => decide (c ∈ letters.cps.toList)) | _ => false
def Small (v : V) : Prop := match v with | .str z => SS z 1000 | _ => True
def sp_is_name : Sp := sp1 fun x H Q _ => ∃ t, TyN H x t ∧ Small x ∧ ∀ H', Kp [] H H' → Q (.bl (isName x)) H'
theorem take_one {α : Type} {xs : List α} {i : Nat} {x : α} (h : xs[i]? = some x) : xs.take (i + 1) = xs.take i ++ [x] := by
  rw [List.take_add_one, h]; rfl
set_option maxHeartbeats 16000000 in
theorem ok_is_name (T : Tx K mg w) : FnOk P w K mg base (L2.CX P w) 1 T.a_is_name T.d_is_name ["thing"] (sp_is_name) := by
  refine T.F_is_name.okX sc_is_name (fun vs H Q E h => ?_) (fun cd A o s H vs Q E hr h => ?_)
  · obtain ⟨v0, rfl, h⟩ := h; rfl
  obtain ⟨v0, rfl, h⟩ := h
  obtain ⟨t, ht, hz, k⟩ := h
  refine ⟨_, (pss_cons (ps_if (PW.pt (pw_or (pt_not (pt_val (pe_callB (c_isi (K := K) rfl) rfl T.z_isinstance bt_isinstance (pa_cons (pv 0) (pa_cons (pe_ty rfl T.z_str bt_str) pa_nil))))) (pw_or1 (pt_not (pt_chain o_le o_le pe_int (pe_callB (c_len (K := K) rfl) rfl T.z_len bt_len (pa_cons (pv 0) pa_nil)) (pe_glob rfl T.mc_LONGEST T.rc_LONGEST))))))
    (pss_one (ps_ret pe_bl))
    pss_nil)
    (pss_one (ps_ret (pe_callB (c_all (K := K) rfl rfl) rfl T.z_all bt_all (pa_cons (pe_lc (own := [("sign", 1)]) rfl sc_is_name.nd (pi_str (pv 0)) (blkOk_by (own := [("sign", 1)]) (N := N_is_name) (sc := defScope s_is_name) (by decide +kernel)) (fun _ _ _ _ _ => (pg_name (i := 1) sc_is_name.nd rfl (Or.inl rfl))) (fun _ _ _ _ _ => pts_nil) (fun _ _ _ _ _ => (pe_cmpR (o_in (K := K) rfl) (pv 1) (pe_glob rfl T.mc_LETTERS T.rc_LETTERS) rfl))) pa_nil))))), ?_⟩
  rw [st_is_name]
  cases ht <;> walk_at "u"
  all_goals try exact k _ Kp.refl
  rename_i z
  obtain ⟨hz, hz2⟩ : SS z 1000 := hz
  refine s_lens (zle (by omega)) ?_
  walk_at "u"
  have key : ∀ b : Bool, (decide (1 ≤ (z.length : Int)) && decide ((z.length : Int) ≤ 6)) = b → (b = true → ∀ H', Kp [] H H' → Q (.bl (z.cps.toList.all fun c => decide (c ∈ letters.cps.toList))) H') ∧ (b = false → ∀ H', Kp [] H H' → Q (.bl false) H') := by
    intro b hb
    refine ⟨fun e H' kp => ?_, fun e H' kp => ?_⟩
    · subst e
      have q := k H' kp
      have e2 : isName (V.str z) = (decide (1 ≤ z.length ∧ z.length ≤ 6) && z.cps.toList.all fun c => decide (c ∈ letters.cps.toList)) := rfl
      rw [Bool.and_eq_true, decide_eq_true_eq, decide_eq_true_eq] at hb
      rw [e2, decide_eq_true (by omega), Bool.true_and] at q
      exact q
    · subst e
      have q := k H' kp
      have e2 : isName (V.str z) = (decide (1 ≤ z.length ∧ z.length ≤ 6) && z.cps.toList.all fun c => decide (c ∈ letters.cps.toList)) := rfl
      have hb : ¬ (1 ≤ z.length ∧ z.length ≤ 6) := fun h => by
        rw [decide_eq_true (by omega), decide_eq_true (by omega)] at hb
        cases hb
      rw [e2, decide_eq_false hb, Bool.false_and] at q
      exact q
  refine s_ite (fun h1 => ?_) (fun h1 => ?_)
  · walk_at "u"
    refine s_itn (fun h2 => ?_) (fun h2 => ?_)
    · walk_at "u"
      exact (key false (by rw [decide_eq_true h1, decide_eq_false h2]; rfl)).2 rfl _ Kp.refl
    · walk_at "u"
      intro D hD
      refine lc_it walk_str (PvD D fun i acc H' => Kp [D] H H' ∧ acc = (z.cps.toList.take i).map fun c => V.bl (decide (c ∈ letters.cps.toList))) (PvD.begin hD fun H7 e7 k7 => ⟨by walk_at "k", rfl⟩) (fun _ _ _ _ => trivial) ?_ ?_
      · rintro i x H1 H2 hi ⟨acc, e, kp, rfl⟩ ⟨rfl, c, hc, rfl⟩
        walk_at "u"
        refine ⟨rfl, ?_⟩
        walk_at "u"
        refine PvD.add e ?_ fun H9 e9 k9 => ⟨by walk_at "k", ?_⟩
        · rw [List.length_map, List.length_take]
          have : i < z.length := hi
          omega
        · rw [take_one (x := c) (by simpa using hc), List.map_append]
          rfl
      · rintro H2 ⟨acc, e, kp, rfl⟩
        walk_at "u"
        rw [List.take_of_length_le (by simp)] at e
        refine s_all (bs := z.cps.toList.map fun c => decide (c ∈ letters.cps.toList)) (by rw [List.map_map]; exact e) ?_
        rw [List.all_map]
        exact (key true (by rw [decide_eq_true h1, decide_eq_true h2]; rfl)).1 rfl _ (kp.drop hD)
  · walk_at "u"
    exact (key false (by rw [decide_eq_false h1]; rfl)).2 rfl _ Kp.refl

theorem c_name {z : Str} {H : Hp} {Q : VK} {E : XK} (h : SS z 1000) (q : ∀ H', Kp [] H H' → Q (.bl (isName (.str z))) H') : sp_is_name [.str z] H Q E := ⟨_, rfl, _, .str, h, q⟩

/-! deeds: the parts of forms -/
def fillN : List Str := ["name", "number", "thing", "kind"]
def thingN : List Str := ["staff", "ticket", "pilot", "long"]
def kindN : List Str := ["through", "lock", "open"]
def filledB (z : Str) : Bool := decide (z ∈ fillN)
def isPart (z : Str) (x : V) : Bool := if z = "name" then isName x else if z = "number" then isWhole x 0 999999 else match x with
  | .str y => if z = "thing" then decide (y ∈ thingN) else decide (y ∈ kindN)
  | _ => false
def sp_is_filled : Sp := sp1 fun x H Q _ => ∃ z, x = .str z ∧ ∀ H', Kp [] H H' → Q (.bl (filledB z)) H'
set_option maxHeartbeats 16000000 in
theorem ok_is_filled (T : Tx K mg w) : FnOk P w K mg base (L2.CX P w) 1 T.a_is_filled T.d_is_filled ["part"] (sp_is_filled) := by
  refine T.F_is_filled.okX sc_is_filled (fun vs H Q E h => ?_) (fun cd A o s H vs Q E hr h => ?_)
  · obtain ⟨v0, rfl, h⟩ := h; rfl
  obtain ⟨v0, rfl, h⟩ := h
  obtain ⟨z, rfl, k⟩ := h
  refine ⟨_, (pss_one (ps_ret (pe_cmpR (o_in (K := K) rfl) (pv 0) (pe_tup (pa_cons pe_str (pa_cons pe_str (pa_cons pe_str (pa_cons pe_str pa_nil))))) rfl))), ?_⟩
  rw [st_is_filled]
  walk_at "u"
  walk_at "na"
  intro t H1 f1 e1 k1
  refine s_inT (zs := fillN) (SqT.of e1) ?_
  walk_at "u"
  exact k _ k1
theorem c_filled {z : Str} {H : Hp} {Q : VK} {E : XK} (k : ∀ H', Kp [] H H' → Q (.bl (filledB z)) H') : sp_is_filled [.str z] H Q E := ⟨_, rfl, z, rfl, k⟩
def sp_is_part : Sp := sp2 fun y x H Q _ => ∃ z t, y = .str z ∧ TyN H x t ∧ Small x ∧ ∀ H', Kp [] H H' → Q (.bl (isPart z x)) H'
set_option maxHeartbeats 16000000 in
theorem ok_is_part (T : Tx K mg w) : FnOk P w K mg base (L2.CX P w) 2 T.a_is_part T.d_is_part ["part", "thing"] (sp_is_part) := by
  have G_is_name := ok_is_name (P := P) (w := w) (base := base) T
  have G_is_whole := ok_is_whole (P := P) (w := w) (base := base) T
  refine T.F_is_part.okX sc_is_part (fun vs H Q E h => ?_) (fun cd A o s H vs Q E hr h => ?_)
  · obtain ⟨v0, v1, rfl, h⟩ := h; rfl
  obtain ⟨v0, v1, rfl, h⟩ := h
  obtain ⟨z, t, rfl, ht, hz, k⟩ := h
  refine ⟨_, (pss_cons (ps_if (pt_cmpR (o_eq (K := K) rfl hr) (pv 0) pe_str (nomark _))
    (pss_one (ps_ret (pe_co G_is_name (hr.mono (by decide)) rfl T.m_is_name T.F_is_name.kp T.B_is_name (takes_of (E := E) rfl rfl rfl rfl) (pa_cons (pv 1) pa_nil))))
    pss_nil)
    (pss_cons (ps_if (pt_cmpR (o_eq (K := K) rfl hr) (pv 0) pe_str (nomark _))
    (pss_one (ps_ret (pe_co G_is_whole (hr.mono (by decide)) rfl T.m_is_whole T.F_is_whole.kp T.B_is_whole (takes_of (E := E) rfl rfl rfl rfl) (pa_cons (pv 1) (pa_cons pe_int (pa_cons (pe_glob rfl T.mc_MOST_NUMBER T.rc_MOST_NUMBER) pa_nil))))))
    pss_nil)
    (pss_cons (ps_if (pt_not (pt_val (pe_callB (c_isi (K := K) rfl) rfl T.z_isinstance bt_isinstance (pa_cons (pv 1) (pa_cons (pe_ty rfl T.z_str bt_str) pa_nil)))))
    (pss_one (ps_ret pe_bl))
    pss_nil)
    (pss_cons (ps_if (pt_cmpR (o_eq (K := K) rfl hr) (pv 0) pe_str (nomark _))
    (pss_one (ps_ret (pe_cmpR (o_in (K := K) rfl) (pv 1) (pe_glob rfl T.mt_THINGS (show RelV (V.ref T.t_THINGS) (Value.ref T.t_THINGS) from rfl)) rfl)))
    pss_nil)
    (pss_one (ps_ret (pe_cmpR (o_in (K := K) rfl) (pv 1) (pe_glob rfl T.mt_KINDS (show RelV (V.ref T.t_KINDS) (Value.ref T.t_KINDS) from rfl)) rfl))))))), ?_⟩
  rw [st_is_part]
  walk_at "u"
  refine s_ite (fun h1 => ?_) (fun h1 => ?_)
  · walk_at "u"
    refine ⟨_, rfl, t, ht, hz, fun H' k' => ?_⟩
    walk_at "u"
    have q := k H' k'
    unfold isPart at q
    rw [if_pos h1] at q
    exact q
  · walk_at "u"
    refine s_ite (fun h2 => ?_) (fun h2 => ?_)
    · walk_at "u"
      refine ⟨_, _, _, rfl, 0, 999999, t, rfl, rfl, ht, ?_⟩
      walk_at "u"
      have q := k _ Kp.refl
      unfold isPart at q
      rw [if_neg h1, if_pos h2] at q
      exact q
    · walk_at "u"
      have q := k _ Kp.refl
      unfold isPart at q
      rw [if_neg h1, if_neg h2] at q
      cases ht <;> walk_at "u"
      all_goals try exact q
      rename_i y
      refine s_ite (fun h3 => ?_) (fun h3 => ?_)
      · walk_at "u"
        refine s_inT (zs := thingN) T.kt_THINGS.sq ?_
        walk_at "u"
        simp only [if_pos h3] at q
        exact q
      · walk_at "u"
        refine s_inT (zs := kindN) T.kt_KINDS.sq ?_
        walk_at "u"
        simp only [if_neg h3] at q
        exact q
theorem c_part {z : Str} {x : V} {t : Kd} {H : Hp} {Q : VK} {E : XK} (ht : TyN H x t) (hs : Small x) (k : ∀ H', Kp [] H H' → Q (.bl (isPart z x)) H') : sp_is_part [.str z, x] H Q E := ⟨_, _, rfl, z, t, rfl, ht, hs, k⟩

/-! words that write numbers -/
def AS (w : Str) : Prop := ∀ c ∈ w.cps.toList, c < 128
def digB (w : Str) : Bool := decide (0 < w.length) && w.cps.toList.all fun c => decide (48 ≤ c ∧ c ≤ 57)
def lead0 (w : Str) : Bool := decide (1 < w.length) && decide (w.cps.toList.head? = some 48)
def numIn (w : Str) : Option Int := if digB w && decide (w.length ≤ 6) && !lead0 w then some ((NumText.digitsVal w.cps.toList : Nat) : Int) else none
def numV (w : Str) : V := match numIn w with | some n => .int n | none => .non
theorem isdigit_B {w : Str} (h : AS w) : Txt.isdigit w = digB w := by
  have e : Txt.isdigit w = (decide (w.length > 0) && w.cps.all Unicode.isDigit) := rfl
  rw [e]
  unfold digB
  congr 1
  rw [← Array.all_toList]
  have : ∀ l : List Nat, (∀ c ∈ l, c < 128) → l.all Unicode.isDigit = l.all fun c => decide (48 ≤ c ∧ c ≤ 57) := by
    intro l
    induction l with
    | nil => intro _; rfl
    | cons c l ih =>
      intro hl
      rw [List.all_cons, List.all_cons, ih fun d hd => hl d (List.mem_cons_of_mem _ hd)]
      have k : ∀ n : _root_.Fin 128, Unicode.isDigit n.val = decide (48 ≤ n.val ∧ n.val ≤ 57) := by decide +kernel
      rw [k ⟨c, hl c List.mem_cons_self⟩]
  exact this _ h
theorem zero_eq : ("0" : Str) = ⟨#[48]⟩ := by decide +kernel
def sp_number_in : Sp := sp1 fun x H Q _ => ∃ w : Str, x = .str w ∧ AS w ∧ w.length ≤ 1000000 ∧ Q (numV w) H
set_option maxHeartbeats 16000000 in
theorem ok_number_in (T : Tx K mg w) : FnOk P w K mg base (L2.CX P w) 1 T.a_number_in T.d_number_in ["word"] (sp_number_in) := by
  refine T.F_number_in.okX sc_number_in (fun vs H Q E h => ?_) (fun cd A o s H vs Q E hr h => ?_)
  · obtain ⟨v0, rfl, h⟩ := h; rfl
  obtain ⟨v0, rfl, h⟩ := h
  obtain ⟨w', rfl, ha, hl, k⟩ := h
  refine ⟨_, (pss_cons (ps_if (PW.pt (pw_or (pt_not (pt_val (pe_isdg (pv 0)))) (pw_or (pt_cmpR o_gt (pe_callB (c_len (K := K) rfl) rfl T.z_len bt_len (pa_cons (pv 0) pa_nil)) pe_int (nomark _)) (pw_or1 (PW.pt (pw_and (pt_cmpR o_gt (pe_callB (c_len (K := K) rfl) rfl T.z_len bt_len (pa_cons (pv 0) pa_nil)) pe_int (nomark _)) (pw_and1 (pt_cmpR (o_eq (K := K) rfl hr) (pe_ix (ix_u (K := K) rfl) (pv 0) pe_int (fun _ _ => rfl)) pe_str (nomark _)))))))))
    (pss_one (ps_ret pe_non))
    pss_nil)
    (pss_one (ps_ret (pe_callTy c_intS rfl T.z_int bt_int (pa_cons (pv 0) pa_nil))))), ?_⟩
  rw [st_number_in]
  have key : ∀ b : Bool, (digB w' && decide (w'.length ≤ 6) && !lead0 w') = b → (b = true → Q (.int ((NumText.digitsVal w'.cps.toList : Nat) : Int)) H) ∧ (b = false → Q .non H) := by
    intro b hb
    unfold numV numIn at k
    rw [hb] at k
    exact ⟨fun e => by subst e; exact k, fun e => by subst e; exact k⟩
  walk_at "u"
  refine ⟨rfl, trivial, ?_⟩
  rw [isdigit_B ha]
  walk_at "u"
  have fin1 : digB w' = true → w'.length ≤ 6 → PySem.intText? w' = some ((NumText.digitsVal w'.cps.toList : Nat) : Int) := by
    intro hd hz
    unfold digB at hd
    rw [Bool.and_eq_true, decide_eq_true_eq, List.all_eq_true] at hd
    refine intText_digits (fun c hc => by simpa using hd.2 c hc) (fun z => ?_) (by omega)
    have : w'.cps.toList.length = w'.length := Array.length_toList
    rw [z] at this
    simp at this
    omega
  cases hd : digB w' with
  | false =>
    walk_at "u"
    exact (key false (by rw [hd]; rfl)).2 rfl
  | true =>
    walk_at "u"
    refine s_lens (zle (by omega)) ?_
    walk_at "u"
    refine s_ite (fun h6 => ?_) (fun h6 => ?_)
    · walk_at "u"
      exact (key false (by rw [hd, decide_eq_false (by omega)]; rfl)).2 rfl
    walk_at "u"
    refine s_lens (zle (by omega)) ?_
    walk_at "u"
    refine s_ite (fun h1 => ?_) (fun h1 => ?_)
    · walk_at "u"
      have l1 : w'.cps.toList.length = w'.length := Array.length_toList
      obtain ⟨c, cs, ec⟩ : ∃ c cs, w'.cps.toList = c :: cs := by
        cases e : w'.cps.toList with
        | nil => rw [e] at l1; simp at l1; omega
        | cons c cs => exact ⟨c, cs, rfl⟩
      refine s_ixs (c := c) (zle (by omega)) (by rw [ec]; simp [atI, ixN]) ?_
      walk_at "u"
      have e0 : ((⟨#[c]⟩ : Str) = "0") ↔ c = 48 := by
        constructor
        · intro e
          have := congrArg (fun z : Str => z.cps.toList) (e.trans zero_eq)
          simpa using this
        · rintro rfl
          decide +kernel
      have lz : lead0 w' = decide (c = 48) := by
        unfold lead0
        rw [decide_eq_true (by omega), Bool.true_and, ec]
        simp
      refine s_ite (fun h2 => ?_) (fun h2 => ?_)
      · walk_at "u"
        exact (key false (by rw [hd, lz, decide_eq_true (e0.mp h2)]; simp)).2 rfl
      · walk_at "u"
        refine s_intS (fin1 hd (by omega)) (by omega) ?_
        walk_at "u"
        exact (key true (by rw [hd, lz, decide_eq_true (by omega), decide_eq_false (fun z => h2 (e0.mpr z))]; rfl)).1 rfl
    · walk_at "u"
      refine s_intS (fin1 hd (by omega)) (by omega) ?_
      walk_at "u"
      exact (key true (by rw [hd, decide_eq_true (by omega)]; unfold lead0; rw [decide_eq_false (by omega)]; rfl)).1 rfl
theorem numV_ty {H : Hp} {w : Str} : ∃ t, TyN H (numV w) t := by
  unfold numV
  cases numIn w
  · exact ⟨_, .non⟩
  · exact ⟨_, .int⟩
theorem numV_small {w : Str} : Small (numV w) := by
  unfold numV
  cases numIn w <;> trivial
/-- what a word writes in the place of a part -/
def wordV (f w : Str) : V := if f = "number" then numV w else .str w
def partV (f w : Str) : V := if isPart f (wordV f w) then wordV f w else .non
def sp_part_in : Sp := sp2 fun y x H Q _ => ∃ f w : Str, y = .str f ∧ x = .str w ∧ AS w ∧ SS w 1000 ∧ ∀ H', Kp [] H H' → Q (partV f w) H'
set_option maxHeartbeats 16000000 in
theorem ok_part_in (T : Tx K mg w) : FnOk P w K mg base (L2.CX P w) 3 T.a_part_in T.d_part_in ["part", "word"] (sp_part_in) := by
  have G_is_part := ok_is_part (P := P) (w := w) (base := base) T
  have G_number_in := ok_number_in (P := P) (w := w) (base := base) T
  refine T.F_part_in.okX sc_part_in (fun vs H Q E h => ?_) (fun cd A o s H vs Q E hr h => ?_)
  · obtain ⟨v0, v1, rfl, h⟩ := h; rfl
  obtain ⟨v0, v1, rfl, h⟩ := h
  obtain ⟨f, w', rfl, rfl, ha, hs, k⟩ := h
  refine ⟨_, (pss_cons (ps_set (i := 2) sc_part_in.nd rfl (Or.inl rfl) (pe_ifExp (pt_cmpR (o_eq (K := K) rfl hr) (pv 0) pe_str (nomark _)) (pe_co G_number_in (hr.mono (by decide)) rfl T.m_number_in T.F_number_in.kp T.B_number_in (takes_of (E := E) rfl rfl rfl rfl) (pa_cons (pv 1) pa_nil)) (pv 1)))
    (pss_cons (ps_if (pt_val (pe_co G_is_part (hr.mono (by decide)) rfl T.m_is_part T.F_is_part.kp T.B_is_part (takes_of (E := E) rfl rfl rfl rfl) (pa_cons (pv 0) (pa_cons (pv 2) pa_nil))))
    (pss_one (ps_ret (pv 2)))
    pss_nil)
    (pss_one (ps_ret pe_non)))), ?_⟩
  rw [st_part_in]
  have tail : ∀ b : Bool, isPart f (wordV f w') = b → ∀ H', Kp [] H H' → (b = true → Q (wordV f w') H') ∧ (b = false → Q .non H') := by
    intro b hb H' k'
    have q := k H' k'
    unfold partV at q
    rw [hb] at q
    exact ⟨fun e => by subst e; exact q, fun e => by subst e; exact q⟩
  have ht : ∃ t, TyN H (wordV f w') t := by
    unfold wordV
    split
    · exact numV_ty
    · exact ⟨_, .str⟩
  have hz : Small (wordV f w') := by
    unfold wordV
    split
    · exact numV_small
    · exact hs
  obtain ⟨t, ht⟩ := ht
  walk_at "u"
  refine s_ite (fun h1 => ?_) (fun h1 => ?_)
  · walk_at "u"
    refine ⟨_, rfl, w', rfl, ha, by have := hs.len; omega, ?_⟩
    have ew : wordV f w' = numV w' := by unfold wordV; rw [if_pos h1]
    rw [ew] at ht hz tail
    walk_at "u"
    refine c_part ht hz fun H1 k1 => ?_
    walk_at "u"
    cases hb : isPart f (numV w') with
    | true =>
      walk_at "u"
      exact (tail true hb H1 k1).1 rfl
    | false =>
      walk_at "u"
      exact (tail false hb H1 k1).2 rfl
  · walk_at "u"
    have ew : wordV f w' = .str w' := by unfold wordV; rw [if_neg h1]
    rw [ew] at ht hz tail
    refine c_part ht hz fun H1 k1 => ?_
    walk_at "u"
    cases hb : isPart f (.str w') with
    | true =>
      walk_at "u"
      exact (tail true hb H1 k1).1 rfl
    | false =>
      walk_at "u"
      exact (tail false hb H1 k1).2 rfl
theorem c_partin {f w : Str} {H : Hp} {Q : VK} {E : XK} (ha : AS w) (hs : SS w 1000) (k : ∀ H', Kp [] H H' → Q (partV f w) H') : sp_part_in [.str f, .str w] H Q E := ⟨_, _, rfl, f, w, rfl, rfl, ha, hs, k⟩

/-! what is a deed -/
def isDeed (xs : List V) : Bool := match xs with
  | .str w :: ps => (match lk l_FORMS w with
    | none => false
    | some fs => decide ((fs.filter filledB).length = ps.length) && ((fs.filter filledB).zip ps).all fun p => isPart p.1 p.2)
  | _ => false
theorem at0 {α : Type} {x : α} {xs : List α} : atI (x :: xs) 0 = some x := by simp [atI, ixN]
theorem tyn_nf {H : Hp} {v : V} {t : Kd} {D : Addr} (h : TyN H v t) (f : H D = none) : v ≠ .ref D := by
  rintro rfl
  cases h with
  | lst e => rw [f] at e; cases e
  | tup e => rw [f] at e; cases e
  | dic e => rw [f] at e; cases e
theorem cut1 {x : V} {xs : List V} : cutV (x :: xs) (some 1) none = xs := by
  unfold cutV
  simp [HT.sIx]
theorem forms_len : ∀ kx ∈ l_FORMS, kx.2.length ≤ 5 := by decide +kernel
theorem lk_mem {l : List (Str × List Str)} {z : Str} {xs : List Str} (h : lk l z = some xs) : ∃ k, (k, xs) ∈ l := by
  unfold lk at h
  obtain ⟨a, e, rfl⟩ := Option.map_eq_some_iff.mp h
  exact ⟨a.1, List.mem_of_find?_eq_some e⟩
theorem lk_len {z : Str} {xs : List Str} (h : lk l_FORMS z = some xs) : xs.length ≤ 5 := by
  obtain ⟨k, m⟩ := lk_mem h
  exact forms_len _ m
def sp_is_deed (K : PySem.W.Frag) : Sp := sp1 fun x H Q _ => (∃ t, TyN H x t ∧ t ≠ .tup ∧ ∀ H', Kp [] H H' → Q (.bl false) H') ∨
  ∃ a xs, x = .ref a ∧ H a = some (.tup xs) ∧ (∀ v ∈ xs, ∃ t, TyN H v t ∧ Small v) ∧ ∀ H', Kp [] H H' → Q (.bl (isDeed xs)) H'
set_option maxHeartbeats 16000000 in
theorem ok_is_deed (T : Tx K mg w) : FnOk P w K mg base (L2.CX P w) 3 T.a_is_deed T.d_is_deed ["thing"] (sp_is_deed K) := by
  have G_is_filled := ok_is_filled (P := P) (w := w) (base := base) T
  have G_is_part := ok_is_part (P := P) (w := w) (base := base) T
  refine T.F_is_deed.okX sc_is_deed (fun vs H Q E h => ?_) (fun cd A o s H vs Q E hr h => ?_)
  · obtain ⟨v0, rfl, h⟩ := h; rfl
  obtain ⟨v0, rfl, h⟩ := h
  refine ⟨_, (pss_cons (ps_if (PW.pt (pw_or (pt_not (pt_val (pe_callB (c_isi (K := K) rfl) rfl T.z_isinstance bt_isinstance (pa_cons (pv 0) (pa_cons (pe_ty rfl T.z_tuple bt_tuple) pa_nil))))) (pw_or (pt_cmpR (o_eqE (K := K) rfl hr) (pv 0) (pe_tup pa_nil) (nomark _)) (pw_or (pt_not (pt_val (pe_callB (c_isi (K := K) rfl) rfl T.z_isinstance bt_isinstance (pa_cons (pe_ix (ix_u (K := K) rfl) (pv 0) pe_int (fun _ _ => rfl)) (pa_cons (pe_ty rfl T.z_str bt_str) pa_nil))))) (pw_or1 (pt_cmpR (o_notinF (K := K) (w := w) rfl rfl) (pe_ix (ix_u (K := K) rfl) (pv 0) pe_int (fun _ _ => rfl)) (pe_glob rfl T.mq_FORMS (show RelV (V.ref T.q_FORMS) (Value.ref T.q_FORMS) from rfl)) rfl))))))
    (pss_one (ps_ret pe_bl))
    pss_nil)
    (pss_cons (ps_setLc (i := 1) (own := [("part", 2)]) rfl sc_is_deed.nd rfl rfl (sw_true rfl rfl rfl (by decide +kernel)) (pi_tpl (K := K) rfl (pe_ix (ix_F (K := K) (w := w) rfl rfl) (pe_glob rfl T.mq_FORMS (show RelV (V.ref T.q_FORMS) (Value.ref T.q_FORMS) from rfl)) (pe_ix (ix_u (K := K) rfl) (pv 0) pe_int (fun _ _ => rfl)) (fun _ _ => rfl))) (blkOk_by (own := [("part", 2)]) (N := N_is_deed) (sc := defScope s_is_deed) (by decide +kernel)) (fun _ _ _ _ _ => (pg_name (i := 2) sc_is_deed.nd rfl (Or.inl rfl))) (fun _ _ _ _ _ => (pts_one (pt_val (pe_co G_is_filled (hr.mono (by decide)) rfl T.m_is_filled T.F_is_filled.kp T.B_is_filled takes0 (pa_cons (pv 2) pa_nil))))) (fun _ _ _ _ _ => (pv 2)))
    (pss_cons (ps_if (pt_cmpR (o_ne (K := K) rfl hr) (pe_callB (c_len (K := K) rfl) rfl T.z_len bt_len (pa_cons (pv 1) pa_nil)) (pe_op o_sub (pe_callB (c_len (K := K) rfl) rfl T.z_len bt_len (pa_cons (pv 0) pa_nil)) pe_int) (nomark _))
    (pss_one (ps_ret pe_bl))
    pss_nil)
    (pss_one (ps_ret (pe_callB (c_all (K := K) rfl rfl) rfl T.z_all bt_all (pa_cons (pe_lc (own := [("part", 2), ("one", 3)]) rfl sc_is_deed.nd (pi_zipB (K := K) rfl rfl T.z_zip (pa_cons (pv 1) (pa_cons (pe_slice (sl_u (K := K) rfl) (pv 0) (po_some pe_int) po_none) pa_nil))) (blkOk_by (own := [("part", 2), ("one", 3)]) (N := N_is_deed) (sc := defScope s_is_deed) (by decide +kernel)) (fun _ _ _ _ _ => (pg_tupK (K := K) (n := 2) rfl rfl (pgs_cons (pg_name (i := 2) sc_is_deed.nd rfl (Or.inl rfl)) (pgs_cons (pg_name (i := 3) sc_is_deed.nd rfl (Or.inl rfl)) pgs_nil)))) (fun _ _ _ _ _ => pts_nil) (fun _ _ _ _ _ => (pe_co G_is_part (hr.mono (by decide)) rfl T.m_is_part T.F_is_part.kp T.B_is_part takes0 (pa_cons (pv 2) (pa_cons (pv 3) pa_nil))))) pa_nil))))))), ?_⟩
  rw [st_is_deed]
  rcases h with ⟨t, ht, hn, k⟩ | ⟨a, xs, rfl, ea, hv, k⟩
  · cases ht <;> walk_at "u"
    all_goals first
      | exact k _ Kp.refl
      | exact (hn rfl).elim
  walk_at "u"
  walk_at "na"
  intro t1 H1 f1 e1 k1
  refine s_eqE (xs := xs) (by walk_at "gt") (by walk_at "gt") ?_
  cases xs with
  | nil =>
    walk_at "u"
    exact k _ k1
  | cons x0 ps =>
    walk_at "u"
    refine s_ixt (xs := x0 :: ps) (by walk_at "gt") at0 ?_
    obtain ⟨t0, ht0, hs0⟩ := hv x0 List.mem_cons_self
    have ht0 := ht0.kp k1
    have hv2 : ∀ v ∈ ps, ∃ t, TyN H1 v t ∧ Small v := fun v m => by
      obtain ⟨t, a1, a2⟩ := hv v (List.mem_cons_of_mem _ m)
      exact ⟨t, a1.kp k1, a2⟩
    cases ht0 <;> walk_at "u"
    all_goals try exact k _ k1
    rename_i w'
    refine s_ixt (xs := .str w' :: ps) (by walk_at "gt") at0 ?_
    walk_at "u"
    refine s_inF T.kq_FORMS ?_
    cases e : lk l_FORMS w' with
    | none =>
      walk_at "u"
      have q := k _ k1
      unfold isDeed at q
      simp only [e] at q
      exact q
    | some fs =>
      have l5 := lk_len e
      walk_at "u"
      refine s_ixt (xs := .str w' :: ps) (by walk_at "gt") at0 ?_
      walk_at "u"
      refine s_ixF T.kq_FORMS e fun tf ktf => ?_
      refine s_itK ktf ?_
      intro D hD
      refine lc_K ktf hD (fun i acc H' => Kp [D] H1 H' ∧ acc = ((fs.take i).filter filledB).map V.str) (fun H2 e2 k2 => ⟨by walk_at "k", rfl⟩) ?_ ?_
      · rintro i x acc H2 ex ea2 ⟨k2, rfl⟩
        rw [List.getElem?_map] at ex
        obtain ⟨f, ef, rfl⟩ := Option.map_eq_some_iff.mp ex
        have hi := (List.getElem?_eq_some_iff.mp ef).1
        walk_at "u"
        refine ⟨rfl, ?_⟩
        walk_at "u"
        refine c_filled fun H3 k3 => ?_
        walk_at "u"
        cases hf : filledB f with
        | true =>
          walk_at "u"
          refine PvD.add (k3.get0 ea2) (by rw [List.length_map]; have := List.length_filter_le filledB (fs.take i); rw [List.length_take] at this; omega) fun H4 e4 k4 => ⟨by walk_at "k", ?_⟩
          rw [take_one ef, List.filter_append, List.map_append]
          simp [hf]
        | false =>
          walk_at "u"
          refine ⟨_, k3.get0 ea2, by walk_at "k", ?_⟩
          rw [take_one ef, List.filter_append]
          simp [hf]
      · rintro acc H2 ea2 ⟨k2, rfl⟩
        rw [List.length_map, List.take_of_length_le (Nat.le_refl _)] at ea2
        have z2 : Kz [] H H2 := ⟨by walk_at "k"⟩
        have lf := List.length_filter_le filledB fs
        walk_at "u"
        refine s_lenl ea2 ?_
        walk_at "u"
        refine s_lent (xs := .str w' :: ps) (by walk_at "gt") ?_
        walk_at "u"
        rw [List.length_map, List.length_cons]
        refine s_itn (fun h1 => ?_) (fun h1 => ?_)
        · walk_at "u"
          have q := k _ z2.k
          unfold isDeed at q
          simp only [e] at q
          rw [decide_eq_false (by omega), Bool.false_and] at q
          exact q
        · have h1 : (fs.filter filledB).length = ps.length := by omega
          walk_at "u"
          refine s_slT (xs := .str w' :: ps) (by walk_at "gt") cut1 fun t3 H3 e3 k3 => ?_
          walk_at "u"
          refine s_zB false true _ _ (sqb_L (k3.get0 ea2)) (sqb_T e3) ?_
          intro B hB
          refine lc_zB (n := ps.length) (by simp [h1]) hB (fun i acc H' => Kp [B] H3 H' ∧ acc = (((fs.filter filledB).zip ps).take i).map fun p => V.bl (isPart p.1 p.2)) (fun H4 e4 k4 => ⟨by walk_at "k", rfl⟩) (fun i acc H' _ p => ⟨sqb_L (p.1.get1 (k3.get0 ea2) (by walk_at "ne")), sqb_T (p.1.tgt e3)⟩) ?_ ?_
          · rintro i x y acc H4 T4 H5 ex ey ea4 ⟨k4, rfl⟩ f5 e5 k5
            rw [List.getElem?_map] at ex
            obtain ⟨f, ef, rfl⟩ := Option.map_eq_some_iff.mp ex
            have hi := (List.getElem?_eq_some_iff.mp ey).1
            obtain ⟨ty, hty, hsy⟩ := hv2 y (List.mem_of_getElem? ey)
            have hty3 : TyN H3 y ty := (hty.kpn k2 fun q hq => by rw [List.mem_singleton.mp hq]; exact tyn_nf hty hD).kp k3
            have hty5 : TyN H5 y ty := (hty3.kpn k4 fun q hq => by rw [List.mem_singleton.mp hq]; exact tyn_nf hty3 hB).kp k5
            walk_at "u"
            refine ⟨rfl, ?_⟩
            walk_at "u"
            refine c_part hty5 hsy fun H6 k6 => ?_
            walk_at "u"
            refine PvD.add (k6.get0 (k5.get0 ea4)) (by rw [List.length_map, List.length_take, List.length_zip]; omega) fun H7 e7 k7 => ⟨by walk_at "k", ?_⟩
            rw [take_one (x := (f, y)) (by rw [List.getElem?_zip_eq_some]; exact ⟨ef, ey⟩), List.map_append]
            rfl
          · rintro acc H4 ea4 ⟨k4, rfl⟩
            rw [List.take_of_length_le (by rw [List.length_zip]; omega)] at ea4
            walk_at "u"
            refine s_all (bs := ((fs.filter filledB).zip ps).map fun p => isPart p.1 p.2) (by rw [List.map_map]; exact ea4) ?_
            have q := k H4 (by walk_at "k")
            unfold isDeed at q
            simp only [e] at q
            rw [decide_eq_true h1, Bool.true_and] at q
            rw [List.all_map]
            walk_at "u"
            exact q

/-! the row of a deed -/
def ErF (f : Str) (C : Addr) (y : V) (H : Hp) (E : XK) : Prop := ∀ d H', H d = none → H' d = some (.xd [(f, y)]) → Kp [] H H' → E (.ref C) (some d) H'
theorem ErF.kp {f : Str} {C : Addr} {y : V} {H H1 : Hp} {E : XK} (h : ErF f C y H E) (k : Kp [] H H1) : ErF f C y H1 E := fun d H' fr e k' => h d H' (k.dom d fr) e (k.trans k')
def strV (v : V) : Str := match v with | .str z => z | .int n => (toString n : Str) | _ => Str.empty
def fill : List Str → List V → List Str
  | [], _ => []
  | f :: fs, ps => if filledB f then (match ps with | p :: r => strV p :: fill fs r | [] => []) else f :: fill fs ps
def rowOf (xs : List V) : Str := match xs with
  | .str w :: ps => (match lk l_FORMS w with | some fs => Txt.join " " (w :: fill fs ps) | none => Str.empty)
  | _ => Str.empty
theorem isDeed_ex {xs : List V} (h : isDeed xs = true) : ∃ w ps fs, xs = .str w :: ps ∧ lk l_FORMS w = some fs ∧ (fs.filter filledB).length = ps.length ∧ ((fs.filter filledB).zip ps).all (fun p => isPart p.1 p.2) = true := by
  unfold isDeed at h
  split at h
  · rename_i w ps
    split at h
    · cases h
    · rename_i fs e
      rw [Bool.and_eq_true, decide_eq_true_eq] at h
      exact ⟨w, ps, fs, rfl, e, h.1, h.2⟩
  · cases h
theorem name_ss {z : Str} (h : isName (.str z) = true) : z.length ≤ 6 := by
  simp only [isName, Bool.and_eq_true, decide_eq_true_eq] at h
  exact h.1.2
theorem things_len : (∀ z ∈ thingN, z.length ≤ 7) ∧ ∀ z ∈ kindN, z.length ≤ 7 := by decide +kernel
theorem part_ex {f : Str} {x : V} (h : isPart f x = true) : (∃ z, x = .str z ∧ z.length ≤ 7) ∨ ∃ n : Nat, x = .int (n : Nat) ∧ n ≤ 999999 := by
  unfold isPart at h
  split at h
  · cases x <;> simp only [isName, Bool.false_eq_true] at h
    rename_i z
    exact Or.inl ⟨z, rfl, Nat.le_trans (name_ss h) (by omega)⟩
  split at h
  · obtain ⟨n, rfl, h0, h1⟩ := whole_int h
    exact Or.inr ⟨n.toNat, by congr; omega, by omega⟩
  split at h
  · rename_i y
    refine Or.inl ⟨y, rfl, ?_⟩
    split at h
    · exact things_len.1 y (by simpa using h)
    · exact things_len.2 y (by simpa using h)
  · cases h
theorem num_len {n : Nat} (h : n ≤ 999999) : ((toString ((n : Nat) : Int) : Str)).length ≤ 6 := by
  have e : ((toString ((n : Nat) : Int) : Str)).length = (TL.numL n).length := by
    rw [TL.len_tl]
    exact congrArg List.length (TL.tl_num n)
  rw [e]
  exact TL.numL_len (by omega) (by omega)
theorem sum_le {n : Nat} : ∀ {ws : List Str}, (∀ z ∈ ws, z.length ≤ n) → (ws.map (·.length)).sum ≤ ws.length * n
  | [], _ => by simp
  | w :: ws, h => by
    have h1 := h w List.mem_cons_self
    have h2 := sum_le fun z hz => h z (List.mem_cons_of_mem _ hz)
    simp only [List.map_cons, List.sum_cons, List.length_cons, Nat.add_mul]
    omega
theorem forms_words : ∀ kx ∈ l_FORMS, kx.1.length ≤ 7 ∧ ∀ z ∈ kx.2, z.length ≤ 7 := by decide +kernel
theorem lk_key {l : List (Str × List Str)} {z : Str} {xs : List Str} (h : lk l z = some xs) : (z, xs) ∈ l := by
  unfold lk at h
  obtain ⟨a, e, rfl⟩ := Option.map_eq_some_iff.mp h
  have := List.find?_some e
  have hz : a.1 = z := by simpa using this
  rw [← hz]
  exact List.mem_of_find?_eq_some e
def sp_deed_text (T : Tx K mg w) : Sp := sp1 fun x H Q E => (∃ t, TyN H x t ∧ t ≠ .tup ∧ ErF "found" T.C_NoDeed x H E) ∨
  ∃ a xs, x = .ref a ∧ H a = some (.tup xs) ∧ (∀ v ∈ xs, ∃ t, TyN H v t ∧ Small v) ∧ (isDeed xs = true → ∀ H', Kp [] H H' → Q (.str (rowOf xs)) H') ∧ (isDeed xs = false → ErF "found" T.C_NoDeed x H E)
set_option maxHeartbeats 16000000 in
theorem ok_deed_text (T : Tx K mg w) : FnOk P w K mg base (L2.CX P w) 4 T.a_deed_text T.d_deed_text ["deed"] (sp_deed_text T) := by
  have G_is_deed := ok_is_deed (P := P) (w := w) (base := base) T
  have G_NoDeed_init := ok_NoDeed_init (P := P) (w := w) (base := base) T
  have G_is_filled := ok_is_filled (P := P) (w := w) (base := base) T
  refine T.F_deed_text.okX sc_deed_text (fun vs H Q E h => ?_) (fun cd A o s H vs Q E hr h => ?_)
  · obtain ⟨v0, rfl, h⟩ := h; rfl
  obtain ⟨v0, rfl, h⟩ := h
  refine ⟨_, (pss_cons (ps_if (pt_not (pt_val (pe_co G_is_deed (hr.mono (by decide)) rfl T.m_is_deed T.F_is_deed.kp T.B_is_deed (takes_of (E := E) rfl rfl rfl rfl) (pa_cons (pv 0) pa_nil))))
    (pss_one (ps_rz rfl T.er_NoDeed.oex T.er_NoDeed.iC T.er_NoDeed.tI G_NoDeed_init (hr.mono (by decide)) T.B_NoDeed_init rfl T.m_NoDeed (takes_of (E := E) rfl rfl rfl rfl) (pv 0)))
    pss_nil)
    (pss_cons (ps_set (i := 1) sc_deed_text.nd rfl (Or.inl rfl) (pe_lst (pa_cons (pe_ix (ix_u (K := K) rfl) (pv 0) pe_int (fun _ _ => rfl)) pa_nil)))
    (pss_cons (ps_set (i := 2) sc_deed_text.nd rfl (Or.inl rfl) (pe_callTy (c_list (K := K) rfl) rfl T.z_list bt_list (pa_cons (pe_slice (sl_u (K := K) rfl) (pv 0) (po_some pe_int) po_none) pa_nil)))
    (pss_cons (ps_for PassesOwn.leaving rfl (pi_tpl (K := K) rfl (pe_ix (ix_F (K := K) (w := w) rfl rfl) (pe_glob rfl T.mq_FORMS (show RelV (V.ref T.q_FORMS) (Value.ref T.q_FORMS) from rfl)) (pe_ix (ix_u (K := K) rfl) (pv 0) pe_int (fun _ _ => rfl)) (fun _ _ => rfl))) (pg_name (i := 3) sc_deed_text.nd rfl (Or.inl rfl))
    (pss_one (ps_expr (pe_bm PySem.F.plainAttrs_list PySem.F.slot_list_append PySem.F.type_list_append mt_append (pv 1) (pa_cons (pe_ifExp (pt_val (pe_co G_is_filled (hr.mono (by decide)) rfl T.m_is_filled T.F_is_filled.kp T.B_is_filled (takes_of (E := E) rfl rfl rfl rfl) (pa_cons (pv 3) pa_nil))) (pe_callTy c_strA rfl T.z_str bt_str (pa_cons (pe_bm PySem.F.plainAttrs_list PySem.F.slot_list_pop PySem.F.type_list_pop mt_popAt (pv 2) (pa_cons pe_int pa_nil)) pa_nil)) (pv 3)) pa_nil)))))
    (pss_one (ps_ret (pe_joinU (K := K) rfl pe_str (pv 1)))))))), ?_⟩
  rw [st_deed_text]
  rcases h with ⟨t, ht, hn, k⟩ | ⟨a, xs, rfl, ea, hv, k, kE⟩
  · walk_at "u"
    refine ⟨_, rfl, Or.inl ⟨t, ht, hn, fun H1 k1 => ?_⟩⟩
    walk_at "u"
    exact k.kp k1
  walk_at "u"
  refine ⟨_, rfl, Or.inr ⟨a, xs, rfl, ea, hv, fun H1 k1 => ?_⟩⟩
  cases hd : isDeed xs with
  | false =>
    walk_at "u"
    exact (kE hd).kp k1
  | true =>
    obtain ⟨w', ps, fs, rfl, e, hl, hp⟩ := isDeed_ex hd
    have l5 := lk_len e
    have lw := forms_words _ (lk_key e)
    walk_at "u"
    refine s_ixt (xs := .str w' :: ps) (by walk_at "gt") at0 ?_
    walk_at "u"
    walk_at "na"
    intro L H2 f2 e2 k2
    walk_at "u"
    refine s_slT (xs := .str w' :: ps) (by walk_at "gt") cut1 fun t3 H3 e3 k3 => ?_
    refine ⟨t3, ps, rfl, Or.inr (SqT.of e3), new_abs (R := fun l H' => _) fun F H4 f4 e4 k4 => ?_⟩
    walk_at "u"
    refine s_ixt (xs := .str w' :: ps) (by walk_at "gt") at0 ?_
    walk_at "u"
    refine s_ixF T.kq_FORMS e fun tf ktf => ?_
    refine s_itK ktf ?_
    have z4 : Kz [] H H4 := ⟨by walk_at "k"⟩
    have hLF : L ≠ F := by walk_at "ne"
    have eL4 : H4 L = some (.lst [.str w']) := by walk_at "g"
    refine for_K ktf (fun i σ H' => Kp [L, F] H4 H' ∧ (∃ (ws : List Str) (qs : List V), H' L = some (.lst ((w' :: ws).map V.str)) ∧ H' F = some (.lst qs) ∧ ws.length = i ∧ (∀ z ∈ ws, z.length ≤ 7) ∧ fill fs ps = ws ++ fill (fs.drop i) qs ∧ ((fs.drop i).filter filledB).length = qs.length ∧ (((fs.drop i).filter filledB).zip qs).all (fun p => isPart p.1 p.2) = true) ∧ ∃ u3, σ = [some (.ref a), some (.ref L), some (.ref F), u3]) ⟨Kp.refl, ⟨[], ps, eL4, e4, rfl, by simp, rfl, hl, hp⟩, _, rfl⟩ ?_ ?_
    · rintro i x σ H5 ex ⟨k5, ⟨ws, qs, eL, eF, lws, hws, hf, hq, hall⟩, u3, rfl⟩
      rw [List.getElem?_map] at ex
      obtain ⟨f, ef, rfl⟩ := Option.map_eq_some_iff.mp ex
      obtain ⟨hi, rfl⟩ := List.getElem?_eq_some_iff.mp ef
      rw [List.drop_eq_getElem_cons hi] at hf hq hall
      have mf := lw.2 _ (List.mem_of_getElem? ef)
      walk_at "u"
      refine c_filled fun H6 k6 => ?_
      walk_at "u"
      cases hb : filledB fs[i] with
      | true =>
        rw [List.filter_cons_of_pos hb] at hq hall
        cases qs with
        | nil => simp at hq
        | cons q qs =>
          rw [List.zip_cons_cons, List.all_cons, Bool.and_eq_true] at hall
          walk_at "u"
          refine s_pop0 (by walk_at "g") fun H7 e7 k7 => ?_
          have fin : ∀ z : Str, strV q = z → z.length ≤ 7 → ∀ (R : VK), (∀ H8, H8 L = some (.lst ((w' :: (ws ++ [z])).map V.str)) → Kp [L] H7 H8 → R .non H8) → rAppend (.ref L) [.str z] H7 R := by
            intro z _ hz R kr
            refine s_app (xs := (w' :: ws).map V.str) (by walk_at "g") (zlt (by simp; omega)) fun H8 e8 k8 => kr H8 ?_ k8
            rw [e8]; simp
          have inv : ∀ z : Str, strV q = z → z.length ≤ 7 → ∀ H8, H8 L = some (.lst ((w' :: (ws ++ [z])).map V.str)) → Kp [L] H7 H8 → Kp [L, F] H4 H8 ∧ ∃ (ws' : List Str) (qs' : List V), H8 L = some (.lst ((w' :: ws').map V.str)) ∧ H8 F = some (.lst qs') ∧ ws'.length = i + 1 ∧ (∀ z ∈ ws', z.length ≤ 7) ∧ fill fs ps = ws' ++ fill (fs.drop (i + 1)) qs' ∧ ((fs.drop (i + 1)).filter filledB).length = qs'.length ∧ (((fs.drop (i + 1)).filter filledB).zip qs').all (fun p => isPart p.1 p.2) = true := by
            intro z hz hz7 H8 e8 k8
            refine ⟨by walk_at "k", ws ++ [z], qs, e8, by walk_at "g", by simp [lws], ?_, ?_, by simpa using hq, hall.2⟩
            · intro y hy
              rcases List.mem_append.mp hy with hy | hy
              · exact hws y hy
              · rw [List.mem_singleton.mp hy]; exact hz7
            · rw [hf, List.append_assoc]
              congr 1
              simp only [fill, hb, if_true, hz]
              rfl
          rcases part_ex hall.1 with ⟨z, rfl, hz⟩ | ⟨n, rfl, hn⟩
          · refine s_strS ?_
            walk_at "u"
            refine fin z rfl hz _ fun H8 e8 k8 => ?_
            walk_at "u"
            obtain ⟨a1, a2⟩ := inv z rfl hz H8 e8 k8
            exact ⟨a1, a2, _, rfl⟩
          · refine Or.inl ⟨_, rfl, ?_, ?_⟩
            · exact log2s (Nat.lt_of_le_of_lt (show ((n : Nat) : Int).natAbs ≤ 1000000 by omega) (by decide +kernel))
            walk_at "u"
            refine fin _ rfl (Nat.le_trans (num_len hn) (by omega)) _ fun H8 e8 k8 => ?_
            walk_at "u"
            obtain ⟨a1, a2⟩ := inv _ rfl (Nat.le_trans (num_len hn) (by omega)) H8 e8 k8
            exact ⟨a1, a2, _, rfl⟩
      | false =>
        rw [List.filter_cons_of_neg (by rw [hb]; simp)] at hq hall
        walk_at "u"
        refine s_app (xs := (w' :: ws).map V.str) (by walk_at "g") (zlt (by simp; omega)) fun H8 e8 k8 => ?_
        walk_at "u"
        refine ⟨by walk_at "k", ⟨ws ++ [fs[i]], qs, by rw [e8]; simp, by walk_at "g", by simp [lws], ?_, ?_, hq, hall⟩, _, rfl⟩
        · intro y hy
          rcases List.mem_append.mp hy with hy | hy
          · exact hws y hy
          · rw [List.mem_singleton.mp hy]; exact mf
        · rw [hf, List.append_assoc]
          congr 1
          simp only [fill, hb]
          rfl
    · rintro σ H5 ⟨k5, ⟨ws, qs, eL, eF, lws, hws, hf, hq, hall⟩, u3, rfl⟩
      rw [List.length_map] at lws
      rw [List.length_map, List.drop_of_length_le (Nat.le_refl _)] at hf
      have hf : fill fs ps = ws := by rw [hf]; simp [fill]
      walk_at "u"
      refine s_join (ys := w' :: ws) eL ?_ ?_
      · have : ((w' :: ws).map (·.length)).sum ≤ (w' :: ws).length * 7 := sum_le (fun z hz => by
          rcases List.mem_cons.mp hz with rfl | hz
          · exact lw.1
          · exact hws z hz)
        have h1 : (" " : Str).length = 1 := by decide +kernel
        rw [h1]
        simp only [List.length_cons] at this ⊢
        omega
      walk_at "u"
      have q := k hd H5 (by walk_at "k")
      unfold rowOf at q
      simp only [e, hf] at q
      exact q

/-! the deed that words write -/
def readF : List Str → List Str → Option (List V)
  | [], [] => some []
  | f :: fs, w :: ws => if filledB f then (if partV f w = .non then none else (readF fs ws).map (partV f w :: ·)) else if w = f then readF fs ws else none
  | _, _ => none
def deedOf (ws : List Str) : Option (List V) := match ws with
  | [] => none
  | w :: r => (match lk l_FORMS w with
    | none => none
    | some fs => if r.length = fs.length then (readF fs r).map (V.str w :: ·) else none)
theorem atLast {α : Type} {x : α} {xs : List α} : atI (xs ++ [x]) (-1) = some x := by
  unfold atI ixN
  rw [if_neg (by omega), if_pos (by simp; omega)]
  have : (-1 + (((xs ++ [x]).length : Nat) : Int)).toNat = xs.length := by simp; omega
  rw [this]
  simp
def sp_deed_of : Sp := sp1 fun x H Q _ => ∃ (l : Addr) (ws : List Str), x = .ref l ∧ H l = some (.lst (ws.map V.str)) ∧ ws ≠ [] ∧ ws.length ≤ 100000 ∧ (∀ w ∈ ws, AS w ∧ SS w 1000) ∧
  (∀ xs, deedOf ws = some xs → ∀ t H', H t = none → H' t = some (.tup xs) → Kp [] H H' → Q (.ref t) H') ∧ (deedOf ws = none → ∀ H', Kp [] H H' → Q .non H')
set_option maxHeartbeats 16000000 in
theorem ok_deed_of (T : Tx K mg w) : FnOk P w K mg base (L2.CX P w) 4 T.a_deed_of T.d_deed_of ["words"] (sp_deed_of) := by
  have G_is_filled := ok_is_filled (P := P) (w := w) (base := base) T
  have G_part_in := ok_part_in (P := P) (w := w) (base := base) T
  refine T.F_deed_of.okX sc_deed_of (fun vs H Q E h => ?_) (fun cd A o s H vs Q E hr h => ?_)
  · obtain ⟨v0, rfl, h⟩ := h; rfl
  obtain ⟨v0, rfl, h⟩ := h
  obtain ⟨l, ws, rfl, el, hne, hz, hw, k, kN⟩ := h
  refine ⟨_, (pss_cons (ps_if (PW.pt (pw_or (pt_cmpR (o_notinF (K := K) (w := w) rfl rfl) (pe_ix (ix_u (K := K) rfl) (pv 0) pe_int (fun _ _ => rfl)) (pe_glob rfl T.mq_FORMS (show RelV (V.ref T.q_FORMS) (Value.ref T.q_FORMS) from rfl)) rfl) (pw_or1 (pt_cmpR (o_ne (K := K) rfl hr) (pe_callB (c_len (K := K) rfl) rfl T.z_len bt_len (pa_cons (pv 0) pa_nil)) (pe_op (o_add (K := K) rfl) (pe_callB (c_len (K := K) rfl) rfl T.z_len bt_len (pa_cons (pe_ix (ix_F (K := K) (w := w) rfl rfl) (pe_glob rfl T.mq_FORMS (show RelV (V.ref T.q_FORMS) (Value.ref T.q_FORMS) from rfl)) (pe_ix (ix_u (K := K) rfl) (pv 0) pe_int (fun _ _ => rfl)) (fun _ _ => rfl)) pa_nil)) pe_int) (nomark _)))))
    (pss_one (ps_ret pe_non))
    pss_nil)
    (pss_cons (ps_set (i := 1) sc_deed_of.nd rfl (Or.inl rfl) (pe_lst (pa_cons (pe_ix (ix_u (K := K) rfl) (pv 0) pe_int (fun _ _ => rfl)) pa_nil)))
    (pss_cons (ps_for PassesOwn.leaving rfl (pi_zipB (K := K) rfl rfl T.z_zip (pa_cons (pe_ix (ix_F (K := K) (w := w) rfl rfl) (pe_glob rfl T.mq_FORMS (show RelV (V.ref T.q_FORMS) (Value.ref T.q_FORMS) from rfl)) (pe_ix (ix_u (K := K) rfl) (pv 0) pe_int (fun _ _ => rfl)) (fun _ _ => rfl)) (pa_cons (pe_slice (sl_u (K := K) rfl) (pv 0) (po_some pe_int) po_none) pa_nil))) (pg_tupK (K := K) (n := 2) rfl rfl (pgs_cons (pg_name (i := 2) sc_deed_of.nd rfl (Or.inl rfl)) (pgs_cons (pg_name (i := 3) sc_deed_of.nd rfl (Or.inl rfl)) pgs_nil)))
    (pss_one (ps_if (pt_val (pe_co G_is_filled (hr.mono (by decide)) rfl T.m_is_filled T.F_is_filled.kp T.B_is_filled (takes_of (E := E) rfl rfl rfl rfl) (pa_cons (pv 2) pa_nil)))
    (pss_cons (ps_expr (pe_bm PySem.F.plainAttrs_list PySem.F.slot_list_append PySem.F.type_list_append mt_append (pv 1) (pa_cons (pe_co G_part_in (hr.mono (by decide)) rfl T.m_part_in T.F_part_in.kp T.B_part_in (takes_of (E := E) rfl rfl rfl rfl) (pa_cons (pv 2) (pa_cons (pv 3) pa_nil))) pa_nil)))
    (pss_one (ps_if (pt_cmpR o_is (pe_ix (ix_u (K := K) rfl) (pv 1) (pe_un un_neg pe_int) (fun _ _ => rfl)) pe_non (nomark _))
    (pss_one (ps_ret pe_non))
    pss_nil)))
    (pss_one (ps_if (pt_cmpR (o_ne (K := K) rfl hr) (pv 3) (pv 2) (nomark _))
    (pss_one (ps_ret pe_non))
    pss_nil)))))
    (pss_one (ps_ret (pe_callTy (c_tuple (K := K) rfl) rfl T.z_tuple bt_tuple (pa_cons (pv 1) pa_nil))))))), ?_⟩
  rw [st_deed_of]
  cases ws with
  | nil => exact (hne rfl).elim
  | cons w' r =>
  have el : H l = some (.lst (.str w' :: r.map V.str)) := el
  walk_at "u"
  refine s_ixl el at0 ?_
  walk_at "u"
  refine s_inF T.kq_FORMS ?_
  cases e : lk l_FORMS w' with
  | none =>
    walk_at "u"
    exact kN (by unfold deedOf; simp only [e]) _ Kp.refl
  | some fs =>
    have l5 := lk_len e
    walk_at "u"
    refine s_lenl el ?_
    walk_at "u"
    refine s_ixl el at0 ?_
    walk_at "u"
    refine s_ixF T.kq_FORMS e fun tf ktf => ?_
    refine Or.inl ⟨_, (fs.map V.str).length, rfl, Or.inr ⟨_, ktf.sq, rfl⟩, ?_⟩
    walk_at "u"
    rw [List.length_cons, List.length_map, List.length_map]
    refine s_itn (fun h1 => ?_) (fun h1 => ?_)
    · walk_at "u"
      exact kN (by unfold deedOf; simp only [e]; rw [if_neg (by omega)]) _ Kp.refl
    have h1 : r.length = fs.length := by omega
    walk_at "u"
    refine s_ixl el at0 ?_
    walk_at "u"
    walk_at "na"
    intro L H1 f1 e1 k1
    walk_at "u"
    refine s_ixl (xs := .str w' :: r.map V.str) (by walk_at "g") at0 ?_
    walk_at "u"
    refine s_ixF T.kq_FORMS e fun tg ktg => ?_
    walk_at "u"
    refine s_sll (xs := .str w' :: r.map V.str) (SqL.of (by walk_at "g")) fun l2 H2 f2 e2 k2 => ?_
    rw [cut1] at e2
    walk_at "u"
    refine s_zB true false _ _ (sqb_K ktg) (sqb_L e2) ?_
    have eL : H2 L = some (.lst [.str w']) := by walk_at "g"
    have nL : L ≠ l2 := by walk_at "ne"
    have z2 : Kz [] H H2 := ⟨by walk_at "k"⟩
    have dN : readF fs r = none → deedOf (w' :: r) = none := by
      intro h
      unfold deedOf
      simp only [e]
      rw [if_pos h1, h]
      rfl
    refine for_zB (n := fs.length) (by simp [h1]) (fun i σ H' => Kp [L] H2 H' ∧ (∃ qs : List V, H' L = some (.lst (.str w' :: qs)) ∧ qs.length ≤ i ∧ readF fs r = (readF (fs.drop i) (r.drop i)).map (qs ++ ·)) ∧ ∃ u2 u3, σ = [some (.ref l), some (.ref L), u2, u3]) ⟨Kp.refl, ⟨[], eL, Nat.le_refl _, by simp⟩, _, _, rfl⟩ (fun i σ H' p => ⟨sqb_K ktg, sqb_L (p.1.get1 e2 (by walk_at "ne"))⟩) ?_ ?_
    · rintro i x y σ H3 T3 H4 ex ey ⟨k3, ⟨qs, eq, lq, hr'⟩, u2, u3, rfl⟩ f4 e4 k4
      rw [List.getElem?_map] at ex ey
      obtain ⟨f, ef, rfl⟩ := Option.map_eq_some_iff.mp ex
      obtain ⟨wd, ew, rfl⟩ := Option.map_eq_some_iff.mp ey
      obtain ⟨hi, rfl⟩ := List.getElem?_eq_some_iff.mp ef
      obtain ⟨hi2, rfl⟩ := List.getElem?_eq_some_iff.mp ew
      obtain ⟨as, ss⟩ := hw r[i] (List.mem_cons_of_mem _ (List.getElem_mem hi2))
      rw [List.drop_eq_getElem_cons hi, List.drop_eq_getElem_cons hi2] at hr'
      simp only [readF] at hr'
      walk_at "u"
      refine c_filled fun H5 k5 => ?_
      walk_at "u"
      cases hb : filledB fs[i] with
      | true =>
        rw [hb] at hr'
        walk_at "u"
        refine c_partin as ss fun H6 k6 => ?_
        walk_at "u"
        refine s_app (xs := .str w' :: qs) (by walk_at "g") (zlt (by simp; omega)) fun H7 e7 k7 => ?_
        walk_at "u"
        refine s_ixl e7 atLast ?_
        walk_at "u"
        refine s_ite (fun hn => ?_) (fun hn => ?_)
        · walk_at "u"
          rw [if_pos rfl, if_pos hn] at hr'
          exact kN (dN hr') _ (by walk_at "k")
        · walk_at "u"
          rw [if_pos rfl, if_neg hn] at hr'
          refine ⟨by walk_at "k", ⟨qs ++ [partV fs[i] r[i]], by rw [e7]; simp, by simp; omega, ?_⟩, _, _, rfl⟩
          rw [hr', Option.map_map]
          congr 1
          funext z
          simp
      | false =>
        rw [hb] at hr'
        walk_at "u"
        refine s_itn (fun hn => ?_) (fun hn => ?_)
        · walk_at "u"
          rw [if_neg (by simp), if_neg hn] at hr'
          exact kN (dN hr') _ (by walk_at "k")
        · walk_at "u"
          rw [if_neg (by simp), if_pos hn] at hr'
          exact ⟨by walk_at "k", ⟨qs, by walk_at "g", by omega, hr'⟩, _, _, rfl⟩
    · rintro σ H3 ⟨k3, ⟨qs, eq, lq, hr'⟩, u2, u3, rfl⟩
      rw [List.drop_of_length_le (Nat.le_refl _), List.drop_of_length_le (by omega)] at hr'
      simp only [readF, Option.map_some, List.append_nil] at hr'
      walk_at "u"
      refine s_tuple (SqL.of eq) fun t H4 f4 e4 k4 => ?_
      walk_at "u"
      have ft : H t = none := by walk_at "f"
      exact k _ (by unfold deedOf; simp only [e]; rw [if_pos h1, hr']; rfl) t H4 ft e4 (by walk_at "k")

/-! the deed that a row writes -/
theorem join_of_mem {c : Nat} {a : Str} : ∀ {ws : List Str} {w : Str}, w ∈ ws → c ∈ w.cps.toList → c ∈ (Str.join a ws).cps.toList
  | [], _, h, _ => by cases h
  | [v], w, h, hc => by rw [List.mem_singleton.mp h] at hc; exact hc
  | v :: v2 :: r, w, h, hc => by
    have e : Str.join a (v :: v2 :: r) = v ++ a ++ Str.join a (v2 :: r) := rfl
    rw [e, Str.cps_append, Str.cps_append, Array.toList_append, Array.toList_append]
    rcases List.mem_cons.mp h with rfl | h
    · exact List.mem_append_left _ (List.mem_append_left _ hc)
    · exact List.mem_append_right _ (join_of_mem h hc)
theorem join_ge {a : Str} : ∀ {ws : List Str} {w : Str}, w ∈ ws → w.length ≤ (Str.join a ws).length
  | [], _, h => by cases h
  | [v], w, h => by rw [List.mem_singleton.mp h]; exact Nat.le_refl _
  | v :: v2 :: r, w, h => by
    have e : Str.join a (v :: v2 :: r) = v ++ a ++ Str.join a (v2 :: r) := rfl
    have e2 : (Str.join a (v :: v2 :: r)).length = v.length + a.length + (Str.join a (v2 :: r)).length := by rw [e]; simp [Str.length, Str.cps_append]; omega
    rcases List.mem_cons.mp h with rfl | h
    · omega
    · have := join_ge (a := a) h; omega
theorem split_as {z w a : Str} (h : AS z) (m : w ∈ Txt.split z a) : AS w := fun c hc => h c (by
  have := join_of_mem (a := a) m hc
  rwa [StrLaws.join_split] at this)
theorem split_le {z w a : Str} (m : w ∈ Txt.split z a) : w.length ≤ z.length := by
  have := join_ge (a := a) m
  rwa [StrLaws.join_split] at this
theorem split_ne {z a : Str} : Txt.split z a ≠ [] := fun h => by
  have := PyProof.Rows.split_pos z a
  rw [h] at this
  simp at this
theorem s_spl3 {H : Hp} {Q : VK} {z sep : Str} {ws : List Str} (h0 : (sep.length == 0) = false) (hz : z.length + 2 ≤ sizeLine) (e : Txt.split z sep = ws) (q : ∀ p H', H p = none → H' p = some (.lst (ws.map V.str)) → Kp [] H H' → Q (.ref p) H') :
    ∃ a b, V.str z = V.str a ∧ [V.str sep] = [V.str b] ∧ (b.length == 0) = false ∧ a.length + 2 ≤ sizeLine ∧ rNewStrs (Txt.split a b) H Q := by
  obtain ⟨b, h1, h2, h3, h4⟩ := s_spl (z := z) h0 hz e q
  exact ⟨z, b, rfl, h1, h2, h3, h4⟩

theorem let_ss : SS ("abcdefghijklmnopqrstuvwxyz" : Str) 26 := SS.mk' (by decide +kernel)
def letL : List Nat := [97, 98, 99, 100, 101, 102, 103, 104, 105, 106, 107, 108, 109, 110, 111, 112, 113, 114, 115, 116, 117, 118, 119, 120, 121, 122]
theorem let_eq : letters = S letL := by decide +kernel
theorem let_cps : letters.cps.toList = letL := by rw [let_eq, S_cps]
theorem let_nd : letL.Nodup := by decide
theorem let_small : ∀ c ∈ letL, c < 1114112 := by decide
def okW (cs : List Nat) : Prop := 1 ≤ cs.length ∧ cs.length ≤ 6 ∧ ∀ c ∈ cs, c ∈ letL
theorem okW.nm {cs : List Nat} (h : okW cs) : isName (.str (S cs)) = true ∧ SS (S cs) 20 := by
  obtain ⟨h1, h2, h3⟩ := h
  refine ⟨?_, SS.S (by omega) fun c hc => let_small c (h3 c hc)⟩
  unfold isName
  simp only [Bool.and_eq_true, decide_eq_true_eq, List.all_eq_true, S_len, S_cps, let_cps]
  exact ⟨⟨h1, h2⟩, fun c hc => h3 c hc⟩
structure NmsOk (zs : List Str) : Prop where
  nd : zs.Nodup
  ok : ∀ z ∈ zs, isName (.str z) = true ∧ SS z 20
theorem nms_of {F : Nat → List Nat} {n : Nat} (h : ∀ k, k < n → okW (F k)) (i : ∀ j k, j < n → k < n → F j = F k → j = k) : NmsOk ((List.range n).map fun k => S (F k)) :=
  ⟨range_nodup fun j k hj hk e => i j k hj hk (S_inj e), fun z hz => by
    obtain ⟨k, hk, rfl⟩ := List.mem_map.mp hz
    exact (h k (List.mem_range.mp hk)).nm⟩
theorem let_at {i : Int} (h0 : 0 ≤ i) (h1 : i < 26) : ∃ c, c ∈ letL ∧ letL[i.toNat]? = some c ∧ atI ("abcdefghijklmnopqrstuvwxyz" : Str).cps.toList i = some c := by
  have e : ("abcdefghijklmnopqrstuvwxyz" : Str).cps.toList = letL := let_cps
  rw [e]
  obtain ⟨c, e1, e2⟩ := at_int (xs := letL) h0 (by simpa [letL] using h1)
  exact ⟨c, List.mem_of_getElem? e1, e1, e2⟩

/-! the law's own deeds -/
def dwL : List Str := ["to", "by", "at", "for", "staff", "ticket", "lock", "open", "leave", "come", "a", "end"]
theorem dwL_ok : (dwL.all fun z => isName (.str z)) = true := by decide +kernel
def sp_law_name : Sp := sp1 fun x H Q _ => ∃ (p : Addr) (n : Nat), x = .ref p ∧ Box H p n ∧ n ≤ 900000 ∧ ∀ (z : Str) (H' : Hp), isName (.str z) = true → Box H' p (n + 10) → Kp [p] H H' → Q (.str z) H'
set_option maxHeartbeats 16000000 in
theorem ok_law_name (T : Tx K mg w) : FnOk P w K mg base (L2.CX P w) 2 T.a_law_name T.d_law_name ["_law_box_here"] (sp_law_name) := by
  have G_law_take := ok_law_take (P := P) (w := w) (base := base) T
  refine T.F_law_name.okX sc_law_name (fun vs H Q E h => ?_) (fun cd A o s H vs Q E hr h => ?_)
  · obtain ⟨v0, rfl, h⟩ := h; rfl
  obtain ⟨v0, rfl, h⟩ := h
  obtain ⟨p, n, rfl, hB, hn, k⟩ := h
  refine ⟨_, (pss_cons (ps_set (i := 1) sc_law_name.nd rfl (Or.inl rfl) (pe_lst (pa_cons pe_str (pa_cons pe_str (pa_cons pe_str (pa_cons pe_str (pa_cons pe_str (pa_cons pe_str (pa_cons pe_str (pa_cons pe_str (pa_cons pe_str (pa_cons pe_str (pa_cons pe_str (pa_cons pe_str pa_nil))))))))))))))
    (pss_cons (ps_if (pt_cmpR (o_eq (K := K) rfl hr) (pe_co G_law_take (hr.mono (by decide)) rfl T.m_law_take T.F_law_take.kp T.B_law_take (takes_of (E := E) rfl rfl rfl rfl) (pa_cons (pv 0) (pa_cons pe_int pa_nil))) pe_int (nomark _))
    (pss_one (ps_ret (pe_ix (ix_u (K := K) rfl) (pv 1) (pe_co G_law_take (hr.mono (by decide)) rfl T.m_law_take T.F_law_take.kp T.B_law_take (takes_of (E := E) rfl rfl rfl rfl) (pa_cons (pv 0) (pa_cons pe_int pa_nil))) (fun _ _ => rfl))))
    pss_nil)
    (pss_one (ps_ret (pe_joinU (K := K) rfl pe_str (pe_lc (own := [("_law_k", 2)]) rfl sc_law_name.nd (pi_range1 rfl T.z_range (pa_cons (pe_op (o_add (K := K) rfl) pe_int (pe_co G_law_take (hr.mono (by decide)) rfl T.m_law_take T.F_law_take.kp T.B_law_take (takes_of (E := E) rfl rfl rfl rfl) (pa_cons (pv 0) (pa_cons pe_int pa_nil)))) pa_nil)) (blkOk_by (own := [("_law_k", 2)]) (N := N_law_name) (sc := defScope s_law_name) (by decide +kernel)) (fun _ _ _ _ _ => (pg_name (i := 2) sc_law_name.nd rfl (Or.inl rfl))) (fun _ _ _ _ _ => pts_nil) (fun _ _ _ _ _ => (pe_ix (ix_u (K := K) rfl) pe_str (pe_co G_law_take (hr.mono (by decide)) rfl T.m_law_take T.F_law_take.kp T.B_law_take takes0 (pa_cons (pv 0) (pa_cons pe_int pa_nil))) (fun _ _ => rfl))))))))), ?_⟩
  rw [st_law_name]
  walk_at "u"
  walk_at "na"
  intro l1 H1 f1 e1 k1
  walk_at "u"
  walk_at "tk"
  intro way H2 w0 w1 B2 k2
  walk_at "u"
  refine s_ite (fun h => ?_) (fun h => ?_)
  · walk_at "u"
    walk_at "tk"
    intro d H3 d0 d1 B3 k3
    obtain ⟨v, hv, ev⟩ := at_int (xs := dwL.map V.str) d0 (by simpa [dwL] using d1)
    rw [List.getElem?_map] at hv
    obtain ⟨z, hz, rfl⟩ := Option.map_eq_some_iff.mp hv
    refine s_ixl (xs := dwL.map V.str) (by walk_at "g") ev ?_
    walk_at "u"
    exact k z _ (List.all_eq_true.mp dwL_ok z (List.mem_of_getElem? hz)) (B3.more (by omega)) (by walk_at "k")
  · walk_at "u"
    walk_at "tk"
    intro d H3 d0 d1 B3 k3
    walk_at "u"
    refine s_rng (by omega) (by omega) ?_
    intro D hD
    refine lc_R hD (fun i acc H' => Kp [p, D] H3 H' ∧ Box H' p (n + 2 + i) ∧ ∃ cs : List Nat, (∀ c ∈ cs, c ∈ letL) ∧ cs.length = i ∧ acc = cs.map fun c => V.str ⟨#[c]⟩) (fun H4 e4 k4 => ⟨by walk_at "k", by walk_at "g", [], by simp, rfl, rfl⟩) ?_ ?_
    · rintro i acc H4 hi ea ⟨k4, B4, cs, hcs, hl, rfl⟩
      walk_at "u"
      refine ⟨rfl, ?_⟩
      walk_at "u"
      walk_at "tk"
      intro d5 H5 d50 d51 B5 k5
      walk_at "u"
      obtain ⟨c, hc, _, hc2⟩ := let_at d50 d51
      refine s_ixs (by decide +kernel) hc2 ?_
      refine PvD.add (acc := cs.map fun c => V.str ⟨#[c]⟩) (by walk_at "g") (by simp; omega) fun H6 e6 k6 => ⟨by walk_at "k", by walk_at "g", cs ++ [c], ?_, by simp [hl], by simp⟩
      intro y hy
      rcases List.mem_append.mp hy with hy | hy
      · exact hcs y hy
      · rw [List.mem_singleton.mp hy]; exact hc
    · rintro acc H4 ea ⟨k4, B4, cs, hcs, hl, rfl⟩
      walk_at "u"
      refine s_join (ys := cs.map fun c => ⟨#[c]⟩) (by rw [List.map_map]; exact ea) ?_ ?_
      · rw [ones_len, List.length_map, show (Str.ofString "").length = 0 by decide +kernel]
        omega
      rw [S_join]
      walk_at "u"
      refine k _ _ (okW.nm ⟨by omega, by omega, hcs⟩).1 (B4.more (by omega)) (by walk_at "k")
theorem c_lname {p : Addr} {n : Nat} {H : Hp} {Q : VK} {E : XK} (hB : Box H p n) (hn : n ≤ 900000) (k : ∀ (z : Str) (H' : Hp), isName (.str z) = true → Box H' p (n + 10) → Kp [p] H H' → Q (.str z) H') : sp_law_name [.ref p] H Q E := ⟨_, rfl, p, n, rfl, hB, hn, k⟩
def sp_law_number : Sp := sp1 fun x H Q _ => ∃ (p : Addr) (n : Nat), x = .ref p ∧ Box H p n ∧ n ≤ 900000 ∧ ∀ (d : Int) (H' : Hp), 0 ≤ d → d ≤ 999999 → Box H' p (n + 10) → Kp [p] H H' → Q (.int d) H'
theorem at_ints {xs : List Int} {j lo hi : Int} (h0 : 0 ≤ j) (h1 : j < xs.length) (h : xs.all (fun x => decide (lo ≤ x) && decide (x ≤ hi)) = true) : ∃ z, lo ≤ z ∧ z ≤ hi ∧ atI (xs.map V.int) j = some (.int z) := by
  obtain ⟨v, hv, ev⟩ := at_int (xs := xs.map V.int) h0 (by simpa using h1)
  rw [List.getElem?_map] at hv
  obtain ⟨z, hz, rfl⟩ := Option.map_eq_some_iff.mp hv
  have := List.all_eq_true.mp h z (List.mem_of_getElem? hz)
  rw [Bool.and_eq_true, decide_eq_true_eq, decide_eq_true_eq] at this
  exact ⟨z, this.1, this.2, ev⟩
set_option maxHeartbeats 16000000 in
theorem ok_law_number (T : Tx K mg w) : FnOk P w K mg base (L2.CX P w) 2 T.a_law_number T.d_law_number ["_law_box_here"] (sp_law_number) := by
  have G_law_take := ok_law_take (P := P) (w := w) (base := base) T
  refine T.F_law_number.okX sc_law_number (fun vs H Q E h => ?_) (fun cd A o s H vs Q E hr h => ?_)
  · obtain ⟨v0, rfl, h⟩ := h; rfl
  obtain ⟨v0, rfl, h⟩ := h
  obtain ⟨p, n, rfl, hB, hn, k⟩ := h
  refine ⟨_, (pss_cons (ps_set (i := 1) sc_law_number.nd rfl (Or.inl rfl) (pe_co G_law_take (hr.mono (by decide)) rfl T.m_law_take T.F_law_take.kp T.B_law_take (takes_of (E := E) rfl rfl rfl rfl) (pa_cons (pv 0) (pa_cons pe_int pa_nil))))
    (pss_cons (ps_if (pt_cmpR o_lt (pv 1) pe_int (nomark _))
    (pss_one (ps_ret (pe_ix (ix_u (K := K) rfl) (pe_lst (pa_cons pe_int (pa_cons pe_int pa_nil))) (pv 1) (fun _ _ => rfl))))
    pss_nil)
    (pss_cons (ps_if (pt_cmpR (o_eq (K := K) rfl hr) (pv 1) pe_int (nomark _))
    (pss_one (ps_ret (pe_ix (ix_u (K := K) rfl) (pe_lst (pa_cons pe_int (pa_cons pe_int (pa_cons pe_int (pa_cons pe_int (pa_cons (pe_op o_pow pe_int pe_int) (pa_cons (pe_op o_pow pe_int pe_int) pa_nil))))))) (pe_co G_law_take (hr.mono (by decide)) rfl T.m_law_take T.F_law_take.kp T.B_law_take (takes_of (E := E) rfl rfl rfl rfl) (pa_cons (pv 0) (pa_cons pe_int pa_nil))) (fun _ _ => rfl))))
    pss_nil)
    (pss_one (ps_ret (pe_co G_law_take (hr.mono (by decide)) rfl T.m_law_take T.F_law_take.kp T.B_law_take (takes_of (E := E) rfl rfl rfl rfl) (pa_cons (pv 0) (pa_cons (pe_ix (ix_u (K := K) rfl) (pe_lst (pa_cons pe_int (pa_cons pe_int pa_nil))) (pe_op o_sub (pv 1) pe_int) (fun _ _ => rfl)) pa_nil)))))))), ?_⟩
  rw [st_law_number]
  walk_at "u"
  walk_at "tk"
  intro way H1 w0 w1 B1 k1
  walk_at "u"
  refine s_ite (fun h => ?_) (fun h => ?_)
  · walk_at "u"
    walk_at "na"
    intro l2 H2 f2 e2 k2
    walk_at "u"
    obtain ⟨z, z0, z1, ez⟩ := at_ints (xs := [0, 999999]) (lo := 0) (hi := 999999) w0 (by simpa using h) (by decide)
    refine s_ixl e2 ez ?_
    walk_at "u"
    exact k z _ z0 z1 ((B1.kp k2).more (by omega)) (by walk_at "k")
  walk_at "u"
  refine s_ite (fun h2 => ?_) (fun h2 => ?_)
  · walk_at "u"
    walk_at "na"
    intro l2 H2 f2 e2 k2
    walk_at "u"
    walk_at "tk"
    intro d H3 d0 d1 B3 k3
    obtain ⟨z, z0, z1, ez⟩ := at_ints (xs := [1, 10, 100, 1000, 10000, 100000]) (lo := 0) (hi := 999999) d0 (by simpa using d1) (by decide)
    refine s_ixl (by walk_at "g") ez ?_
    walk_at "u"
    exact k z _ z0 z1 (B3.more (by omega)) (by walk_at "k")
  · walk_at "u"
    walk_at "na"
    intro l2 H2 f2 e2 k2
    walk_at "u"
    obtain ⟨z, z0, z1, ez⟩ := at_ints (xs := [10, 999999]) (lo := 1) (hi := 999999) (j := way - 3) (by omega) (by simp; omega) (by decide)
    refine s_ixl e2 ez ?_
    walk_at "u"
    walk_at "tk"
    intro d H3 d0 d1 B3 k3
    walk_at "u"
    exact k d _ d0 (by omega) (B3.more (by omega)) (by walk_at "k")
theorem c_lnum {p : Addr} {n : Nat} {H : Hp} {Q : VK} {E : XK} (hB : Box H p n) (hn : n ≤ 900000) (k : ∀ (d : Int) (H' : Hp), 0 ≤ d → d ≤ 999999 → Box H' p (n + 10) → Kp [p] H H' → Q (.int d) H') : sp_law_number [.ref p] H Q E := ⟨_, rfl, p, n, rfl, hB, hn, k⟩

def lfT : List Str := ["leave N to N by H", "come N", "lock N K for N", "pilot N K", "unlock N K", "give N K", "take N K", "box N K", "walk N to N", "help N N", "bring N to N", "again N D K", "get K", "lose K"]
def lfW : List (Str × List Str) := [("leave", ["N", "to", "N", "by", "H"]), ("come", ["N"]), ("lock", ["N", "K", "for", "N"]), ("pilot", ["N", "K"]), ("unlock", ["N", "K"]), ("give", ["N", "K"]), ("take", ["N", "K"]), ("box", ["N", "K"]), ("walk", ["N", "to", "N"]), ("help", ["N", "N"]), ("bring", ["N", "to", "N"]), ("again", ["N", "D", "K"]), ("get", ["K"]), ("lose", ["K"])]
def sgN : List Str := ["N", "K", "H", "D"]
def sg (z : Str) : Str := if z = "N" then "name" else if z = "K" then "number" else if z = "H" then "thing" else if z = "D" then "kind" else z
theorem lf_split : lfT.map (fun z => Txt.split z " ") = lfW.map fun q => q.1 :: q.2 := by decide +kernel
theorem lf_len : ∀ z ∈ lfT, z.length ≤ 20 := by decide +kernel
theorem lf_forms : (lfW.all fun q => decide (lk l_FORMS q.1 = some (q.2.map sg)) && decide (q.2.length ≤ 5) && decide (q.1.length ≤ 7) && q.2.all fun z => (decide (z ∈ sgN) == filledB (sg z)) && (decide (z ∈ sgN) || decide (sg z = z)) && decide (z.length ≤ 7)) = true := by decide +kernel
structure LfOk (w : Str) (ss : List Str) : Prop where
  lk : U.lk l_FORMS w = some (ss.map sg)
  len : ss.length ≤ 5
  w7 : w.length ≤ 7
  f : ∀ z ∈ ss, decide (z ∈ sgN) = filledB (sg z)
  s : ∀ z ∈ ss, z ∉ sgN → sg z = z
  z7 : ∀ z ∈ ss, z.length ≤ 7
theorem lf_at {i : Nat} {z : Str} (h : lfT[i]? = some z) : z.length ≤ 20 ∧ ∃ w ss, Txt.split z " " = w :: ss ∧ LfOk w ss := by
  refine ⟨lf_len z (List.mem_of_getElem? h), ?_⟩
  have e := congrArg (fun l : List (List Str) => l[i]?) lf_split
  simp only [List.getElem?_map, h, Option.map_some] at e
  obtain ⟨q, hq, e2⟩ := Option.map_eq_some_iff.mp e.symm
  have a := List.all_eq_true.mp lf_forms q (List.mem_of_getElem? hq)
  simp only [Bool.and_eq_true, decide_eq_true_eq, List.all_eq_true, Bool.or_eq_true, beq_iff_eq] at a
  exact ⟨q.1, q.2, e2.symm, a.1.1.1, a.1.1.2, a.1.2, fun z hz => (a.2 z hz).1.1, fun z hz hn => ((a.2 z hz).1.2).resolve_left hn, fun z hz => (a.2 z hz).2⟩
def sp_law_forms : Sp := fun vs H Q _ => vs = [] ∧ ∀ l H', H l = none → H' l = some (.lst (lfT.map V.str)) → Kp [] H H' → Q (.ref l) H'
theorem in_thing {d : Int} (h0 : 0 ≤ d) (h1 : d < 4) : ∃ z, z ∈ thingN ∧ atI (thingN.map V.str) d = some (.str z) := by
  obtain ⟨v, hv, ev⟩ := at_int (xs := thingN.map V.str) h0 (by simpa [thingN] using h1)
  rw [List.getElem?_map] at hv
  obtain ⟨z, hz, rfl⟩ := Option.map_eq_some_iff.mp hv
  exact ⟨z, List.mem_of_getElem? hz, ev⟩
theorem in_kind {d : Int} (h0 : 0 ≤ d) (h1 : d < 3) : ∃ z, z ∈ kindN ∧ atI (kindN.map V.str) d = some (.str z) := by
  obtain ⟨v, hv, ev⟩ := at_int (xs := kindN.map V.str) h0 (by simpa [kindN] using h1)
  rw [List.getElem?_map] at hv
  obtain ⟨z, hz, rfl⟩ := Option.map_eq_some_iff.mp hv
  exact ⟨z, List.mem_of_getElem? hz, ev⟩
def sp_law_part : Sp := sp2 fun x y H Q _ => ∃ (p : Addr) (n : Nat) (z : Str), x = .ref p ∧ y = .str z ∧ z ∈ sgN ∧ Box H p n ∧ n ≤ 900000 ∧ ∀ (v : V) (H' : Hp), isPart (sg z) v = true → Box H' p (n + 12) → Kp [p] H H' → Q v H'
set_option maxHeartbeats 16000000 in
theorem ok_law_part (T : Tx K mg w) : FnOk P w K mg base (L2.CX P w) 3 T.a_law_part T.d_law_part ["_law_box_here", "_law_sign"] (sp_law_part) := by
  have G_law_name := ok_law_name (P := P) (w := w) (base := base) T
  have G_law_number := ok_law_number (P := P) (w := w) (base := base) T
  have G_law_take := ok_law_take (P := P) (w := w) (base := base) T
  refine T.F_law_part.okX sc_law_part (fun vs H Q E h => ?_) (fun cd A o s H vs Q E hr h => ?_)
  · obtain ⟨v0, v1, rfl, h⟩ := h; rfl
  obtain ⟨v0, v1, rfl, h⟩ := h
  obtain ⟨p, n, z, rfl, rfl, hz, hB, hn, k⟩ := h
  refine ⟨_, (pss_cons (ps_if (pt_cmpR (o_eq (K := K) rfl hr) (pv 1) pe_str (nomark _))
    (pss_one (ps_ret (pe_co G_law_name (hr.mono (by decide)) rfl T.m_law_name T.F_law_name.kp T.B_law_name (takes_of (E := E) rfl rfl rfl rfl) (pa_cons (pv 0) pa_nil))))
    pss_nil)
    (pss_cons (ps_if (pt_cmpR (o_eq (K := K) rfl hr) (pv 1) pe_str (nomark _))
    (pss_one (ps_ret (pe_co G_law_number (hr.mono (by decide)) rfl T.m_law_number T.F_law_number.kp T.B_law_number (takes_of (E := E) rfl rfl rfl rfl) (pa_cons (pv 0) pa_nil))))
    pss_nil)
    (pss_cons (ps_if (pt_cmpR (o_eq (K := K) rfl hr) (pv 1) pe_str (nomark _))
    (pss_one (ps_ret (pe_ix (ix_u (K := K) rfl) (pe_lst (pa_cons pe_str (pa_cons pe_str (pa_cons pe_str (pa_cons pe_str pa_nil))))) (pe_co G_law_take (hr.mono (by decide)) rfl T.m_law_take T.F_law_take.kp T.B_law_take (takes_of (E := E) rfl rfl rfl rfl) (pa_cons (pv 0) (pa_cons pe_int pa_nil))) (fun _ _ => rfl))))
    pss_nil)
    (pss_one (ps_ret (pe_ix (ix_u (K := K) rfl) (pe_lst (pa_cons pe_str (pa_cons pe_str (pa_cons pe_str pa_nil)))) (pe_co G_law_take (hr.mono (by decide)) rfl T.m_law_take T.F_law_take.kp T.B_law_take (takes_of (E := E) rfl rfl rfl rfl) (pa_cons (pv 0) (pa_cons pe_int pa_nil))) (fun _ _ => rfl))))))), ?_⟩
  rw [st_law_part]
  have sgs : (sg "N" = "name" ∧ sg "K" = "number") ∧ sg "H" = "thing" ∧ sg "D" = "kind" := by decide +kernel
  have nes : ("thing" : Str) ≠ "name" ∧ ("thing" : Str) ≠ "number" ∧ ("kind" : Str) ≠ "name" ∧ ("kind" : Str) ≠ "number" ∧ ("kind" : Str) ≠ "thing" ∧ ("number" : Str) ≠ "name" := by decide +kernel
  walk_at "u"
  refine s_ite (fun h1 => ?_) (fun h1 => ?_)
  · walk_at "u"
    refine c_lname hB hn fun y H1 hy B1 k1 => ?_
    walk_at "u"
    exact k _ _ (by rw [h1, sgs.1.1]; unfold isPart; rw [if_pos rfl]; exact hy) (B1.more (by omega)) k1
  walk_at "u"
  refine s_ite (fun h2 => ?_) (fun h2 => ?_)
  · walk_at "u"
    refine c_lnum hB hn fun d H1 d0 d1 B1 k1 => ?_
    walk_at "u"
    exact k _ _ (by rw [h2, sgs.1.2]; unfold isPart; rw [if_neg nes.2.2.2.2.2, if_pos rfl]; simp [isWhole, d0, d1]) (B1.more (by omega)) k1
  walk_at "u"
  refine s_ite (fun h3 => ?_) (fun h3 => ?_)
  · walk_at "u"
    walk_at "na"
    intro l1 H1 f1 e1 k1
    walk_at "u"
    walk_at "tk"
    intro d H2 d0 d1 B2 k2
    obtain ⟨y, hy, ey⟩ := in_thing d0 d1
    refine s_ixl (xs := thingN.map V.str) (by walk_at "g") ey ?_
    walk_at "u"
    exact k _ _ (by rw [h3, sgs.2.1]; unfold isPart; rw [if_neg nes.1, if_neg nes.2.1]; simp [hy]) (B2.more (by omega)) (by walk_at "k")
  · walk_at "u"
    walk_at "na"
    intro l1 H1 f1 e1 k1
    walk_at "u"
    walk_at "tk"
    intro d H2 d0 d1 B2 k2
    obtain ⟨y, hy, ey⟩ := in_kind d0 d1
    refine s_ixl (xs := kindN.map V.str) (by walk_at "g") ey ?_
    walk_at "u"
    have h4 : z = "D" := by
      simp only [sgN, List.mem_cons, List.not_mem_nil, or_false] at hz
      rcases hz with h | h | h | h
      · exact (h1 h).elim
      · exact (h2 h).elim
      · exact (h3 h).elim
      · exact h
    exact k _ _ (by rw [h4, sgs.2.2]; unfold isPart; rw [if_neg nes.2.2.1, if_neg nes.2.2.2.1]; simp only; rw [if_neg nes.2.2.2.2.1]; simp [hy]) (B2.more (by omega)) (by walk_at "k")

set_option maxHeartbeats 16000000 in
theorem ok_law_forms (T : Tx K mg w) : FnOk P w K mg base (L2.CX P w) 1 T.a_law_forms T.d_law_forms [] (sp_law_forms) := by
  refine T.F_law_forms.okX sc_law_forms (fun vs H Q E h => ?_) (fun cd A o s H vs Q E hr h => ?_)
  · obtain ⟨rfl, h⟩ := h; rfl
  obtain ⟨rfl, h⟩ := h
  refine ⟨_, (pss_cons (ps_set (i := 0) sc_law_forms.nd rfl (Or.inl rfl) (pe_lst (pa_cons pe_str (pa_cons pe_str (pa_cons pe_str (pa_cons pe_str (pa_cons pe_str (pa_cons pe_str (pa_cons pe_str pa_nil)))))))))
    (pss_one (ps_ret (pe_op (o_add (K := K) rfl) (pv 0) (pe_lst (pa_cons pe_str (pa_cons pe_str (pa_cons pe_str (pa_cons pe_str (pa_cons pe_str (pa_cons pe_str (pa_cons pe_str pa_nil)))))))))))), ?_⟩
  rw [st_law_forms]
  walk_at "u"
  walk_at "na"
  intro l1 H1 f1 e1 k1
  walk_at "u"
  walk_at "na"
  intro l2 H2 f2 e2 k2
  refine s_addl (by walk_at "g") e2 (zle (by simp)) fun l3 H3 f3 e3 k3 => ?_
  walk_at "u"
  exact h l3 H3 (by walk_at "f") e3 (by walk_at "k")
theorem join_snoc (a : Str) : ∀ (ws : List Str) (x : Str), ws ≠ [] → Str.join a (ws ++ [x]) = Str.join a ws ++ a ++ x
  | [], _, h => (h rfl).elim
  | [w], x, _ => rfl
  | w :: v :: r, x, _ => by
    have ih := join_snoc a (v :: r) x (by simp)
    have e1 : Str.join a (w :: v :: r ++ [x]) = w ++ a ++ Str.join a (v :: r ++ [x]) := rfl
    have e2 : Str.join a (w :: v :: r) = w ++ a ++ Str.join a (v :: r) := rfl
    rw [e1, e2, ih]
    simp only [Str.append_assoc]
theorem fill_snoc {f : Str} : ∀ (fs : List Str) (qs : List V) (q : V), (fs.filter filledB).length = qs.length → filledB f = true → fill (fs ++ [f]) (qs ++ [q]) = fill fs qs ++ [strV q]
  | [], [], q, _, hf => by simp [fill, hf]
  | [], _ :: _, q, h, hf => by simp at h
  | g :: fs, qs, q, h, hf => by
    cases hg : filledB g with
    | true =>
      rw [List.filter_cons_of_pos hg] at h
      cases qs with
      | nil => simp at h
      | cons p qs =>
        have := fill_snoc fs qs q (by simpa using h) hf
        simp [fill, hg, this]
    | false =>
      rw [List.filter_cons_of_neg (by rw [hg]; simp)] at h
      have := fill_snoc fs qs q h hf
      simp [fill, hg, this]
theorem fill_snoc0 {f : Str} : ∀ (fs : List Str) (qs : List V), (fs.filter filledB).length = qs.length → filledB f = false → fill (fs ++ [f]) qs = fill fs qs ++ [f]
  | [], [], _, hf => by simp [fill, hf]
  | [], _ :: _, h, hf => by simp at h
  | g :: fs, qs, h, hf => by
    cases hg : filledB g with
    | true =>
      rw [List.filter_cons_of_pos hg] at h
      cases qs with
      | nil => simp at h
      | cons p qs =>
        have := fill_snoc0 fs qs (by simpa using h) hf
        simp [fill, hg, this]
    | false =>
      rw [List.filter_cons_of_neg (by rw [hg]; simp)] at h
      have := fill_snoc0 fs qs h hf
      simp [fill, hg, this]

/-- a deed that is good: its word, its parts, its form -/
structure Good (w : Str) (ps : List V) (fs : List Str) : Prop where
  lk : U.lk l_FORMS w = some fs
  len : (fs.filter filledB).length = ps.length
  all : ((fs.filter filledB).zip ps).all (fun p => isPart p.1 p.2) = true
def sp_law_deed : Sp := sp1 fun x H Q _ => ∃ (p : Addr) (n : Nat), x = .ref p ∧ Box H p n ∧ n ≤ 800000 ∧ ∀ (l d : Addr) (w : Str) (ps : List V) (fs : List Str) (H' : Hp), H l = none → H' l = some (.lst [.ref d, .str (Txt.join " " (w :: fill fs ps))]) → H' d = some (.tup (.str w :: ps)) → Good w ps fs → Box H' p (n + 100) → Kp [p] H H' → Q (.ref l) H'
theorem cut1s {x : Str} {xs : List Str} : cutV (((x :: xs)).map V.str) (some 1) none = xs.map V.str := cut1
theorem strV_len {f : Str} {x : V} (h : isPart f x = true) : (strV x).length ≤ 7 := by
  rcases part_ex h with ⟨z, rfl, hz⟩ | ⟨n, rfl, hn⟩
  · exact hz
  · exact Nat.le_trans (num_len hn) (by omega)
theorem zip_snoc1 {α β : Type} : ∀ {xs : List α} {ys : List β} {x : α} {y : β}, xs.length = ys.length → (xs ++ [x]).zip (ys ++ [y]) = xs.zip ys ++ [(x, y)]
  | [], [], _, _, _ => rfl
  | [], _ :: _, _, _, h => by simp at h
  | _ :: _, [], _, _, h => by simp at h
  | a :: xs, b :: ys, x, y, h => by
    have := zip_snoc1 (x := x) (y := y) (xs := xs) (ys := ys) (by simpa using h)
    simp [this]
set_option maxHeartbeats 16000000 in
theorem ok_law_deed (T : Tx K mg w) : FnOk P w K mg base (L2.CX P w) 4 T.a_law_deed T.d_law_deed ["_law_box_here"] (sp_law_deed) := by
  have G_law_forms := ok_law_forms (P := P) (w := w) (base := base) T
  have G_law_take := ok_law_take (P := P) (w := w) (base := base) T
  have G_law_part := ok_law_part (P := P) (w := w) (base := base) T
  refine T.F_law_deed.okX sc_law_deed (fun vs H Q E h => ?_) (fun cd A o s H vs Q E hr h => ?_)
  · obtain ⟨v0, rfl, h⟩ := h; rfl
  obtain ⟨v0, rfl, h⟩ := h
  obtain ⟨p, n, rfl, hB, hn, k⟩ := h
  refine ⟨_, (pss_cons (ps_set (i := 1) sc_law_deed.nd rfl (Or.inl rfl) (pe_split (pe_ix (ix_u (K := K) rfl) (pe_co0 G_law_forms (hr.mono (by decide)) rfl T.m_law_forms T.F_law_forms.kp T.B_law_forms (takes_of (E := E) rfl rfl rfl rfl)) (pe_co G_law_take (hr.mono (by decide)) rfl T.m_law_take T.F_law_take.kp T.B_law_take (takes_of (E := E) rfl rfl rfl rfl) (pa_cons (pv 0) (pa_cons pe_int pa_nil))) (fun _ _ => rfl)) pe_str))
    (pss_cons (ps_set (i := 2) sc_law_deed.nd rfl (Or.inl rfl) (pe_tup (pa_cons (pe_ix (ix_u (K := K) rfl) (pv 1) pe_int (fun _ _ => rfl)) pa_nil)))
    (pss_cons (ps_set (i := 3) sc_law_deed.nd rfl (Or.inl rfl) (pe_ix (ix_u (K := K) rfl) (pv 1) pe_int (fun _ _ => rfl)))
    (pss_cons (ps_for PassesOwn.leaving rfl (pi_lst (K := K) rfl (pe_slice (sl_u (K := K) rfl) (pv 1) (po_some pe_int) po_none)) (pg_name (i := 4) sc_law_deed.nd rfl (Or.inl rfl))
    (pss_one (ps_if (pt_cmpR (o_in (K := K) rfl) (pv 4) (pe_tup (pa_cons pe_str (pa_cons pe_str (pa_cons pe_str (pa_cons pe_str pa_nil))))) rfl)
    (pss_cons (ps_set (i := 2) sc_law_deed.nd rfl (Or.inl rfl) (pe_op (o_add (K := K) rfl) (pv 2) (pe_tup (pa_cons (pe_co G_law_part (hr.mono (by decide)) rfl T.m_law_part T.F_law_part.kp T.B_law_part (takes_of (E := E) rfl rfl rfl rfl) (pa_cons (pv 0) (pa_cons (pv 4) pa_nil))) pa_nil))))
    (pss_one (ps_set (i := 3) sc_law_deed.nd rfl (Or.inl rfl) (pe_op (o_add (K := K) rfl) (pe_op (o_add (K := K) rfl) (pv 3) pe_str) (pe_callTy c_strA rfl T.z_str bt_str (pa_cons (pe_ix (ix_u (K := K) rfl) (pv 2) (pe_un un_neg pe_int) (fun _ _ => rfl)) pa_nil))))))
    (pss_one (ps_set (i := 3) sc_law_deed.nd rfl (Or.inl rfl) (pe_op (o_add (K := K) rfl) (pe_op (o_add (K := K) rfl) (pv 3) pe_str) (pv 4)))))))
    (pss_one (ps_ret (pe_lst (pa_cons (pv 2) (pa_cons (pv 3) pa_nil))))))))), ?_⟩
  rw [st_law_deed]
  walk_at "u"
  refine ⟨rfl, fun l1 H1 f1 e1 k1 => ?_⟩
  walk_at "u"
  walk_at "tk"
  intro i0 H2 i00 i01 B2 k2
  obtain ⟨v, hv, ev⟩ := at_int (xs := lfT.map V.str) i00 (by simpa [lfT] using i01)
  rw [List.getElem?_map] at hv
  obtain ⟨z, hz, rfl⟩ := Option.map_eq_some_iff.mp hv
  obtain ⟨lz, w', ss, esp, hL⟩ := lf_at hz
  have l5 := hL.len
  refine s_ixl (xs := lfT.map V.str) (by walk_at "g") ev ?_
  walk_at "u"
  refine s_spl3 (sep := " ") (by decide +kernel) (Nat.le_trans (Nat.add_le_add_right lz 2) (by decide +kernel)) esp fun l3 H3 f3 e3 k3 => ?_
  have e3 : H3 l3 = some (.lst (.str w' :: ss.map V.str)) := e3
  walk_at "u"
  refine s_ixl e3 at0 ?_
  walk_at "u"
  walk_at "na"
  intro d4 H4 f4 e4 k4
  walk_at "u"
  refine s_ixl (xs := .str w' :: ss.map V.str) (by walk_at "g") at0 ?_
  walk_at "u"
  refine s_sll (xs := .str w' :: ss.map V.str) (SqL.of (by walk_at "g")) fun l5' H5 f5 e5 k5 => ?_
  rw [cut1] at e5
  walk_at "u"
  refine s_ilst (SqL.of e5) ?_
  have z5 : Kz [p] H H5 := ⟨by walk_at "k"⟩
  have B5 : Box H5 p (n + 1) := by walk_at "g"
  have np : l5' ≠ p := by walk_at "ne"
  have ed5 : H5 d4 = some (.tup [.str w']) := by walk_at "gt"
  refine for_L e5 (fun i σ H' => Kp [p] H5 H' ∧ Box H' p (n + 1 + 15 * i) ∧ (∃ (d : Addr) (qs : List V), H' d = some (.tup (.str w' :: qs)) ∧ qs.length ≤ i ∧ (((ss.take i).map sg).filter filledB).length = qs.length ∧ ((((ss.take i).map sg).filter filledB).zip qs).all (fun p => isPart p.1 p.2) = true ∧ (fill ((ss.take i).map sg) qs).length = i ∧ (∀ y ∈ fill ((ss.take i).map sg) qs, y.length ≤ 7) ∧ ∃ u4, σ = [some (.ref p), some (.ref l3), some (.ref d), some (.str (Txt.join " " (w' :: fill ((ss.take i).map sg) qs))), u4])) ⟨Kp.refl, B5, d4, [], ed5, Nat.le_refl _, by simp, by simp, by simp [fill], by simp [fill], none, by simp [fill, sj1]⟩ (fun i σ H' p o e => p.1.get1 e (by walk_at "ne")) ?_ ?_
  · rintro i x σ H6 ex ⟨k6, B6, d, qs, ed, lq, hl, ha, lf, lfz, u4, rfl⟩
    rw [List.getElem?_map] at ex
    obtain ⟨y, ey, rfl⟩ := Option.map_eq_some_iff.mp ex
    have hi := (List.getElem?_eq_some_iff.mp ey).1
    have my := List.mem_of_getElem? ey
    have hfy := hL.f y my
    have rl : (Txt.join " " (w' :: fill ((ss.take i).map sg) qs)).length ≤ 100 := by
      have := join_len (a := " ") (ws := w' :: fill ((ss.take i).map sg) qs) (n := 7) (fun z hz => by
        rcases List.mem_cons.mp hz with rfl | hz
        · exact hL.w7
        · exact lfz z hz)
      rw [show (" " : Str).length = 1 by decide +kernel, List.length_cons, lf] at this
      omega
    have l1' : (" " : Str).length = 1 := by decide +kernel
    have a1 : ∀ a b : Str, (a ++ b).length = a.length + b.length := fun a b => by simp [Str.length, Str.cps_append]
    have ta : (ss.take (i + 1)).map sg = (ss.take i).map sg ++ [sg y] := by rw [take_one ey, List.map_append]; rfl
    walk_at "u"
    walk_at "na"
    intro t7 H7 f7 e7 k7
    refine s_inT (zs := sgN) (SqT.of e7) ?_
    walk_at "u"
    by_cases hm : y ∈ sgN
    · rw [decide_eq_true hm] at hfy ⊢
      walk_at "u"
      refine ⟨_, _, rfl, p, n + 1 + 15 * i, y, rfl, rfl, hm, by walk_at "g", by omega, fun v H8 hv B8 k8 => ?_⟩
      walk_at "u"
      walk_at "na"
      intro t9 H9 f9 e9 k9
      refine s_cat (xs := .str w' :: qs) (ys := [v]) (by walk_at "gt") (by walk_at "gt") (by simp) (by simp) (zle (by simp; omega)) fun d10 H10 f10 e10 k10 => ?_
      walk_at "u"
      refine s_adds (zle (by omega)) ?_
      walk_at "u"
      refine s_ixt e10 atLast ?_
      have vl := strV_len hv
      have fin : ∀ Q' : VK, (∀ H', Kp [] H10 H' → Q' (.str (strV v)) H') → uStrA [v] H10 Q' := by
        intro Q' kq
        rcases part_ex hv with ⟨z, rfl, hz⟩ | ⟨m, rfl, hm⟩
        · exact s_strS (kq _ Kp.refl)
        · exact Or.inl (s_str (log2s (Nat.lt_of_le_of_lt (show ((m : Nat) : Int).natAbs ≤ 1000000 by omega) (by decide +kernel))) (kq _ Kp.refl))
      walk_at "u"
      refine fin _ fun H11 k11 => ?_
      walk_at "u"
      refine s_adds (zle (by rw [a1]; omega)) ?_
      walk_at "u"
      have hs : fill ((ss.take (i + 1)).map sg) (qs ++ [v]) = fill ((ss.take i).map sg) qs ++ [strV v] := by rw [ta]; exact fill_snoc _ _ _ hl hfy.symm
      refine ⟨by walk_at "k", Box.more (n := n + 1 + 15 * i + 12) (by walk_at "g") (by omega), d10, qs ++ [v], by walk_at "gt", by simp; omega, ?_, ?_, by rw [hs, List.length_append, lf]; rfl, ?_, some (.str y), ?_⟩
      · rw [ta, List.filter_append, List.filter_cons_of_pos hfy.symm, List.length_append, hl, List.length_append]
        rfl
      · rw [ta, List.filter_append, List.filter_cons_of_pos hfy.symm, List.filter_nil, zip_snoc1 hl, List.all_append, ha]
        simp [hv]
      · rw [hs]
        intro u hu
        rcases List.mem_append.mp hu with hu | hu
        · exact lfz u hu
        · rw [List.mem_singleton.mp hu]; exact vl
      · rw [hs, ← List.cons_append, tj, tj, join_snoc _ _ _ (by simp)]
    · rw [decide_eq_false hm] at hfy ⊢
      walk_at "u"
      refine s_adds (zle (by omega)) ?_
      walk_at "u"
      have y7 := hL.z7 y my
      refine s_adds (zle (by rw [a1]; omega)) ?_
      walk_at "u"
      have hs : fill ((ss.take (i + 1)).map sg) qs = fill ((ss.take i).map sg) qs ++ [y] := by
        rw [ta, fill_snoc0 _ _ hl hfy.symm, hL.s y my hm]
      have ne : ¬ filledB (sg y) = true := by rw [← hfy]; simp
      refine ⟨by walk_at "k", Box.more (n := n + 1 + 15 * i) (by walk_at "g") (by omega), d, qs, by walk_at "gt", by omega, ?_, ?_, by rw [hs, List.length_append, lf]; rfl, ?_, some (.str y), ?_⟩
      · rw [ta, List.filter_append, List.filter_cons_of_neg ne, List.length_append, hl]
        rfl
      · rw [ta, List.filter_append, List.filter_cons_of_neg ne, List.filter_nil, List.append_nil]
        exact ha
      · rw [hs]
        intro u hu
        rcases List.mem_append.mp hu with hu | hu
        · exact lfz u hu
        · rw [List.mem_singleton.mp hu]; exact y7
      · rw [hs, ← List.cons_append, tj, tj, join_snoc _ _ _ (by simp)]
  · rintro σ H6 ⟨k6, B6, d, qs, ed, lq, hl, ha, lf, lfz, u4, rfl⟩
    rw [List.length_map] at *
    rw [List.take_of_length_le (Nat.le_refl _)] at *
    walk_at "u"
    walk_at "na"
    intro l7 H7 f7 e7 k7
    walk_at "u"
    exact k l7 d w' qs _ H7 (by walk_at "f") e7 (by walk_at "gt") ⟨hL.lk, hl, ha⟩ (Box.more (n := n + 1 + 15 * ss.length) (by walk_at "g") (by omega)) (by walk_at "k")

/-! the plain law: what is written is read -/
theorem num_head (n : Nat) : 0 < n → (TL.numL n).head? ≠ some 48 := by
  induction n using Nat.strongRecOn with
  | _ n ih =>
    intro h
    by_cases h1 : n < 10
    · rw [TL.numL_lt h1]
      simp
      omega
    · rw [TL.numL_step (by omega)]
      have := ih (n / 10) (by omega) (by omega)
      have ne := TL.numL_ne (n / 10)
      cases e : TL.numL (n / 10) with
      | nil => exact (ne e).elim
      | cons c cs =>
        rw [e] at this
        simpa using this
theorem num_cps (n : Nat) : ((toString ((n : Nat) : Int) : Str)).cps.toList = TL.numL n := TL.tl_num n
theorem num_in {n : Nat} (h : n ≤ 999999) : numIn (toString ((n : Nat) : Int) : Str) = some (n : Int) := by
  have hl := num_len h
  have ne := TL.numL_ne n
  have hd := TL.numL_digits n
  have hlen : ((toString ((n : Nat) : Int) : Str)).length = (TL.numL n).length := by
    rw [TL.len_tl]
    exact congrArg List.length (TL.tl_num n)
  unfold numIn
  rw [num_cps, TL.numL_val]
  rw [if_pos]
  rw [Bool.and_eq_true, Bool.and_eq_true]
  refine ⟨⟨?_, decide_eq_true hl⟩, ?_⟩
  · unfold digB
    rw [num_cps, Bool.and_eq_true, List.all_eq_true]
    refine ⟨decide_eq_true ?_, fun c hc => decide_eq_true (hd c hc)⟩
    rw [hlen]
    exact List.length_pos_iff.mpr ne
  · unfold lead0
    rw [num_cps, hlen]
    by_cases h0 : n < 10
    · rw [TL.numL_lt h0]
      simp
    · rw [decide_eq_false (num_head n (by omega))]
      simp
theorem part_read {f : Str} {x : V} (h : isPart f x = true) : partV f (strV x) = x ∧ x ≠ .non := by
  have e : wordV f (strV x) = x := by
    unfold wordV
    unfold isPart at h
    have n1 : ("number" : Str) ≠ "name" := by decide +kernel
    by_cases h1 : f = "name"
    · rw [if_pos h1] at h
      rw [if_neg (by rw [h1]; exact n1.symm)]
      cases x <;> simp only [isName, Bool.false_eq_true] at h
      rfl
    · rw [if_neg h1] at h
      by_cases h2 : f = "number"
      · rw [if_pos h2] at h ⊢
        obtain ⟨n, rfl, a0, a1⟩ := whole_int h
        obtain ⟨m, rfl⟩ := Int.eq_ofNat_of_zero_le a0
        show numV (toString ((m : Nat) : Int) : Str) = _
        unfold numV
        rw [num_in (by omega)]
      · rw [if_neg h2] at h ⊢
        cases x <;> simp only [Bool.false_eq_true] at h
        rfl
  refine ⟨?_, ?_⟩
  · unfold partV
    rw [e, if_pos h]
  · rintro rfl
    rcases part_ex h with ⟨z, a, _⟩ | ⟨n, a, _⟩ <;> cases a
theorem read_fill : ∀ (fs : List Str) (ps : List V), (fs.filter filledB).length = ps.length → ((fs.filter filledB).zip ps).all (fun p => isPart p.1 p.2) = true → readF fs (fill fs ps) = some ps
  | [], [], _, _ => rfl
  | [], _ :: _, h, _ => by simp at h
  | f :: fs, ps, h, ha => by
    cases hf : filledB f with
    | true =>
      rw [List.filter_cons_of_pos hf] at h ha
      cases ps with
      | nil => simp at h
      | cons p ps =>
        rw [List.zip_cons_cons, List.all_cons, Bool.and_eq_true] at ha
        obtain ⟨h1, h2⟩ := part_read ha.1
        have ih := read_fill fs ps (by simpa using h) ha.2
        have e : fill (f :: fs) (p :: ps) = strV p :: fill fs ps := by simp [fill, hf]
        rw [e]
        simp only [readF, hf, if_true]
        rw [h1, if_neg h2, ih]
        rfl
    | false =>
      rw [List.filter_cons_of_neg (by rw [hf]; simp)] at h ha
      have ih := read_fill fs ps h ha
      have e : fill (f :: fs) ps = f :: fill fs ps := by simp [fill, hf]
      rw [e]
      simp only [readF, hf]
      rw [ih]
      simp
theorem fill_len : ∀ (fs : List Str) (ps : List V), (fs.filter filledB).length = ps.length → (fill fs ps).length = fs.length
  | [], _, _ => rfl
  | f :: fs, ps, h => by
    cases hf : filledB f with
    | true =>
      rw [List.filter_cons_of_pos hf] at h
      cases ps with
      | nil => simp at h
      | cons p ps =>
        have ih := fill_len fs ps (by simpa using h)
        simp [fill, hf, ih]
    | false =>
      rw [List.filter_cons_of_neg (by rw [hf]; simp)] at h
      have ih := fill_len fs ps h
      simp [fill, hf, ih]
theorem Good.deedOf {w : Str} {ps : List V} {fs : List Str} (g : Good w ps fs) : K75.deedOf (w :: fill fs ps) = some (.str w :: ps) := by
  unfold K75.deedOf
  simp only [g.lk]
  rw [if_pos (fill_len fs ps g.len), read_fill fs ps g.len g.all]
  rfl
theorem Good.isDeed {w : Str} {ps : List V} {fs : List Str} (g : Good w ps fs) : K75.isDeed (.str w :: ps) = true := by
  unfold K75.isDeed
  simp only [g.lk]
  rw [decide_eq_true g.len, g.all]
  rfl
theorem Good.row {w : Str} {ps : List V} {fs : List Str} (g : Good w ps fs) : rowOf (.str w :: ps) = Txt.join " " (w :: fill fs ps) := by
  unfold rowOf
  simp only [g.lk]
/-- the signs of words: no blank, below 128 -/
def Wd1 (z : Str) : Prop := ∀ c ∈ z.cps.toList, c ≠ 32 ∧ c ≠ 10 ∧ c < 128
theorem forms_wd : ∀ kx ∈ l_FORMS, (kx.1 :: kx.2).all (fun z => z.cps.toList.all fun c => decide (c ≠ 32 ∧ c ≠ 10 ∧ c < 128)) = true := by decide +kernel
theorem lets_wd : (letters.cps.toList.all fun c => decide (c ≠ 32 ∧ c ≠ 10 ∧ c < 128)) = true := by decide +kernel
theorem things_wd : ((thingN ++ kindN).all fun z => z.cps.toList.all fun c => decide (c ≠ 32 ∧ c ≠ 10 ∧ c < 128)) = true := by decide +kernel
theorem wd_of {z : Str} (h : z.cps.toList.all (fun c => decide (c ≠ 32 ∧ c ≠ 10 ∧ c < 128)) = true) : Wd1 z := fun c hc => of_decide_eq_true (List.all_eq_true.mp h c hc)
theorem part_wd {f : Str} {x : V} (h : isPart f x = true) : Wd1 (strV x) := by
  unfold isPart at h
  split at h
  · cases x <;> simp only [isName, Bool.false_eq_true] at h
    rename_i z
    rw [Bool.and_eq_true, List.all_eq_true] at h
    intro c hc
    exact of_decide_eq_true (List.all_eq_true.mp lets_wd c (of_decide_eq_true (h.2 c hc)))
  split at h
  · obtain ⟨n, rfl, a0, a1⟩ := whole_int h
    obtain ⟨m, rfl⟩ := Int.eq_ofNat_of_zero_le a0
    intro c hc
    have hc : c ∈ TL.numL m := by rw [← num_cps]; exact hc
    have := TL.numL_digits m c hc
    omega
  split at h
  · rename_i y
    have : y ∈ thingN ++ kindN := by
      split at h
      · exact List.mem_append_left _ (by simpa using h)
      · exact List.mem_append_right _ (by simpa using h)
    exact wd_of (List.all_eq_true.mp things_wd y this)
  · cases h
theorem fill_wd : ∀ (fs : List Str) (ps : List V), (∀ f ∈ fs, Wd1 f) → ((fs.filter filledB).zip ps).all (fun p => isPart p.1 p.2) = true → ∀ z ∈ fill fs ps, Wd1 z
  | [], _, _, _, z, hz => by simp [fill] at hz
  | f :: fs, ps, hf, ha, z, hz => by
    cases hb : filledB f with
    | true =>
      rw [List.filter_cons_of_pos hb] at ha
      cases ps with
      | nil => simp [fill, hb] at hz
      | cons p ps =>
        rw [List.zip_cons_cons, List.all_cons, Bool.and_eq_true] at ha
        have e : fill (f :: fs) (p :: ps) = strV p :: fill fs ps := by simp [fill, hb]
        rw [e] at hz
        rcases List.mem_cons.mp hz with rfl | hz
        · exact part_wd ha.1
        · exact fill_wd fs ps (fun g hg => hf g (List.mem_cons_of_mem _ hg)) ha.2 z hz
    | false =>
      rw [List.filter_cons_of_neg (by rw [hb]; simp)] at ha
      have e : fill (f :: fs) ps = f :: fill fs ps := by simp [fill, hb]
      rw [e] at hz
      rcases List.mem_cons.mp hz with rfl | hz
      · exact hf z List.mem_cons_self
      · exact fill_wd fs ps (fun g hg => hf g (List.mem_cons_of_mem _ hg)) ha z hz
theorem Good.wd {w : Str} {ps : List V} {fs : List Str} (g : Good w ps fs) : ∀ z ∈ w :: fill fs ps, Wd1 z := by
  have a := forms_wd _ (lk_key g.lk)
  have a := List.all_eq_true.mp a
  intro z hz
  rcases List.mem_cons.mp hz with rfl | hz
  · exact wd_of (a _ List.mem_cons_self)
  · exact fill_wd fs ps (fun f hf => wd_of (a f (List.mem_cons_of_mem _ hf))) g.all z hz
theorem Good.split {w : Str} {ps : List V} {fs : List Str} (g : Good w ps fs) : Txt.split (Txt.join " " (w :: fill fs ps)) " " = w :: fill fs ps := by
  rw [sp_eq]
  exact split_join (by simp) fun z hz hc => (g.wd z hz 32 hc).1 rfl
theorem Good.as {w : Str} {ps : List V} {fs : List Str} (g : Good w ps fs) : AS (Txt.join " " (w :: fill fs ps)) := by
  intro c hc
  rcases join_mem hc with h | ⟨z, hz, h⟩
  · rw [sp_eq] at h
    simp at h
    omega
  · exact (g.wd z hz c h).2.2
theorem fill_7 : ∀ (fs : List Str) (ps : List V), (∀ f ∈ fs, f.length ≤ 7) → ((fs.filter filledB).zip ps).all (fun p => isPart p.1 p.2) = true → ∀ z ∈ fill fs ps, z.length ≤ 7
  | [], _, _, _, z, hz => by simp [fill] at hz
  | f :: fs, ps, hf, ha, z, hz => by
    cases hb : filledB f with
    | true =>
      rw [List.filter_cons_of_pos hb] at ha
      cases ps with
      | nil => simp [fill, hb] at hz
      | cons p ps =>
        rw [List.zip_cons_cons, List.all_cons, Bool.and_eq_true] at ha
        have e : fill (f :: fs) (p :: ps) = strV p :: fill fs ps := by simp [fill, hb]
        rw [e] at hz
        rcases List.mem_cons.mp hz with rfl | hz
        · exact strV_len ha.1
        · exact fill_7 fs ps (fun g hg => hf g (List.mem_cons_of_mem _ hg)) ha.2 z hz
    | false =>
      rw [List.filter_cons_of_neg (by rw [hb]; simp)] at ha
      have e : fill (f :: fs) ps = f :: fill fs ps := by simp [fill, hb]
      rw [e] at hz
      rcases List.mem_cons.mp hz with rfl | hz
      · exact hf z List.mem_cons_self
      · exact fill_7 fs ps (fun g hg => hf g (List.mem_cons_of_mem _ hg)) ha z hz
theorem Good.len100 {w : Str} {ps : List V} {fs : List Str} (g : Good w ps fs) : (Txt.join " " (w :: fill fs ps)).length ≤ 100 := by
  have lw := forms_words _ (lk_key g.lk)
  have l5 := lk_len g.lk
  have := join_len (a := " ") (ws := w :: fill fs ps) (n := 7) (fun z hz => by
    rcases List.mem_cons.mp hz with rfl | hz
    · exact lw.1
    · exact fill_7 fs ps lw.2 g.all z hz)
  rw [show (" " : Str).length = 1 by decide +kernel, List.length_cons, fill_len fs ps g.len] at this
  omega

/-! flat things: texts and small numbers -/
def Fl (x : V) : Prop := (∃ z, x = .str z ∧ SS z 20) ∨ ∃ n : Int, x = .int n ∧ 0 ≤ n ∧ n ≤ 1000000
def dV (x : V) : PyData := match x with | .str z => .str z | .int n => .int n | _ => .none
theorem Fl.ty {H : Hp} {x : V} (h : Fl x) : ∃ t, TyN H x t ∧ Small x := by
  rcases h with ⟨z, rfl, hz⟩ | ⟨n, rfl, _⟩
  · exact ⟨_, .str, hz.mono (by omega)⟩
  · exact ⟨_, .int, trivial⟩
theorem fl_dn {H : Hp} : ∀ {xs : List V}, (∀ x ∈ xs, Fl x) → DnA K H xs (xs.map dV)
  | [], _ => .nil
  | x :: xs, h => by
    have t := fl_dn (H := H) (xs := xs) fun y hy => h y (List.mem_cons_of_mem _ hy)
    rcases h x List.mem_cons_self with ⟨z, rfl, _⟩ | ⟨n, rfl, _⟩
    · exact .cons (.str z) t
    · exact .cons (.int n) t
theorem fl_ok : ∀ {xs : List V}, (∀ x ∈ xs, Fl x) → goodA (xs.map dV) ∧ PyData.depthAll (xs.map dV) ≤ 2 ∧ szA (xs.map dV) ≤ 1000 * xs.length
  | [], _ => ⟨trivial, by simp [PyData.depthAll], by simp [szA]⟩
  | x :: xs, h => by
    obtain ⟨a1, a2, a3⟩ := fl_ok (xs := xs) fun y hy => h y (List.mem_cons_of_mem _ hy)
    rcases h x List.mem_cons_self with ⟨z, rfl, hz⟩ | ⟨n, rfl, n0, n1⟩
    · have := hz.len
      refine ⟨⟨fun c hc => Nat.lt_trans (hz.ok c hc) (by decide), a1⟩, ?_, ?_⟩
      · simp only [List.map_cons, dV, PyData.depthAll, PyData.depth]; omega
      · simp only [List.map_cons, dV, szA, sz, List.length_cons]; omega
    · refine ⟨⟨Nat.lt_of_le_of_lt (show n.natAbs ≤ 1000000 by omega) (by decide +kernel), a1⟩, ?_, ?_⟩
      · simp only [List.map_cons, dV, PyData.depthAll, PyData.depth]; omega
      · simp only [List.map_cons, dV, szA, sz, List.length_cons]; omega
theorem fl_sh {H : Hp} {t : Addr} {xs : List V} (e : H t = some (.tup xs)) (h : ∀ x ∈ xs, Fl x) (hl : xs.length ≤ 1000) : Sh K H (.ref t) (.tuple (xs.map dV)) := by
  obtain ⟨a1, a2, a3⟩ := fl_ok h
  exact ⟨.tup (SqT.of e) (fl_dn h), a1, by simp only [PyData.depth]; omega, by simp only [sz]; omega⟩
theorem zip_all {α β : Type} {P : α × β → Bool} : ∀ {xs : List α} {ys : List β}, xs.length = ys.length → (xs.zip ys).all P = true → ∀ y ∈ ys, ∃ x, P (x, y) = true
  | [], [], _, _, y, hy => by cases hy
  | [], _ :: _, h, _, _, _ => by simp at h
  | _ :: _, [], h, _, _, _ => by simp at h
  | x :: xs, b :: ys, h, ha, y, hy => by
    rw [List.zip_cons_cons, List.all_cons, Bool.and_eq_true] at ha
    rcases List.mem_cons.mp hy with rfl | hy
    · exact ⟨x, ha.1⟩
    · exact zip_all (by simpa using h) ha.2 y hy
theorem part_fl {f : Str} {x : V} (h : isPart f x = true) : Fl x := by
  rcases part_ex h with ⟨z, rfl, hz⟩ | ⟨n, rfl, hn⟩
  · exact Or.inl ⟨z, rfl, by omega, fun c hc => Nat.lt_trans (part_wd h c hc).2.2 (by omega)⟩
  · exact Or.inr ⟨_, rfl, by omega, by omega⟩
theorem Good.fl {w : Str} {ps : List V} {fs : List Str} (g : Good w ps fs) : ∀ x ∈ V.str w :: ps, Fl x := by
  intro x hx
  rcases List.mem_cons.mp hx with rfl | hx
  · have lw := forms_words _ (lk_key g.lk)
    refine Or.inl ⟨w, rfl, Nat.le_trans lw.1 (by omega), fun c hc => Nat.lt_trans (g.wd w List.mem_cons_self c hc).2.2 (by omega)⟩
  · obtain ⟨f, hf⟩ := zip_all g.len g.all x hx
    exact part_fl hf
theorem Good.lps {w : Str} {ps : List V} {fs : List Str} (g : Good w ps fs) : (V.str w :: ps).length ≤ 6 := by
  have l5 := lk_len g.lk
  have := List.length_filter_le filledB fs
  have := g.len
  simp only [List.length_cons]
  omega

/-! the law's own reading of forms -/
def sp_law_is_name : Sp := sp1 fun x H Q _ => ∃ t, TyN H x t ∧ Small x ∧ ∀ H', Kp [] H H' → Q (.bl (isName x)) H'
theorem filt_empty {α : Type} {p : α → Bool} : ∀ xs : List α, (xs.filter fun c => !p c).isEmpty = xs.all p
  | [] => rfl
  | x :: xs => by
    cases h : p x with
    | true => rw [List.filter_cons_of_neg (by simp [h]), List.all_cons, h, Bool.true_and]; exact filt_empty xs
    | false => rw [List.filter_cons_of_pos (by simp [h]), List.all_cons, h]; rfl
theorem not_dec {p : Prop} [Decidable p] (h : ¬ p) : (!decide p) = true := by rw [decide_eq_false h]; rfl
theorem not_dec2 {p : Prop} [Decidable p] (h : p) : ¬ (!decide p) = true := by rw [decide_eq_true h]; simp
set_option maxHeartbeats 16000000 in
theorem ok_law_is_name (T : Tx K mg w) : FnOk P w K mg base (L2.CX P w) 1 T.a_law_is_name T.d_law_is_name ["_law_thing"] (sp_law_is_name) := by
  refine T.F_law_is_name.okX sc_law_is_name (fun vs H Q E h => ?_) (fun cd A o s H vs Q E hr h => ?_)
  · obtain ⟨v0, rfl, h⟩ := h; rfl
  obtain ⟨v0, rfl, h⟩ := h
  obtain ⟨t, ht, hz, k⟩ := h
  refine ⟨_, (pss_cons (ps_set (i := 1) sc_law_is_name.nd rfl (Or.inr rfl) pe_str)
    (pss_cons (ps_if (PW.pt (pw_or (pt_not (pt_val (pe_callB (c_isi (K := K) rfl) rfl T.z_isinstance bt_isinstance (pa_cons (pv 0) (pa_cons (pe_ty rfl T.z_str bt_str) pa_nil))))) (pw_or1 (pt_not (pt_chain o_le o_le pe_int (pe_callB (c_len (K := K) rfl) rfl T.z_len bt_len (pa_cons (pv 0) pa_nil)) pe_int)))))
    (pss_one (ps_ret pe_bl))
    pss_nil)
    (pss_one (ps_ret (pe_cmpR (o_eq (K := K) rfl hr) (pe_lc (own := [("_law_sign", 2)]) rfl sc_law_is_name.nd (pi_str (pv 0)) (blkOk_by (own := [("_law_sign", 2)]) (N := N_law_is_name) (sc := defScope s_law_is_name) (by decide +kernel)) (fun _ _ _ _ _ => (pg_name (i := 2) sc_law_is_name.nd rfl (Or.inl rfl))) (fun _ _ _ _ _ => (pts_one (pt_cmpR (o_notin (K := K) rfl) (pv 2) (pv 1) rfl))) (fun _ _ _ _ _ => (pv 2))) (pe_lst pa_nil) (nomark _)))))), ?_⟩
  rw [st_law_is_name]
  cases ht <;> walk_at "u"
  all_goals try exact k _ Kp.refl
  rename_i z
  obtain ⟨hz, hz2⟩ : SS z 1000 := hz
  refine s_lens (zle (by omega)) ?_
  walk_at "u"
  have key : ∀ b : Bool, (decide (1 ≤ (z.length : Int)) && decide ((z.length : Int) ≤ 6)) = b → (b = true → ∀ H', Kp [] H H' → Q (.bl (z.cps.toList.all fun c => decide (c ∈ letters.cps.toList))) H') ∧ (b = false → ∀ H', Kp [] H H' → Q (.bl false) H') := by
    intro b hb
    refine ⟨fun e H' kp => ?_, fun e H' kp => ?_⟩
    · subst e
      have q := k H' kp
      have e2 : isName (V.str z) = (decide (1 ≤ z.length ∧ z.length ≤ 6) && z.cps.toList.all fun c => decide (c ∈ letters.cps.toList)) := rfl
      rw [Bool.and_eq_true, decide_eq_true_eq, decide_eq_true_eq] at hb
      rw [e2, decide_eq_true (by omega), Bool.true_and] at q
      exact q
    · subst e
      have q := k H' kp
      have e2 : isName (V.str z) = (decide (1 ≤ z.length ∧ z.length ≤ 6) && z.cps.toList.all fun c => decide (c ∈ letters.cps.toList)) := rfl
      have hb : ¬ (1 ≤ z.length ∧ z.length ≤ 6) := fun h => by
        rw [decide_eq_true (by omega), decide_eq_true (by omega)] at hb
        cases hb
      rw [e2, decide_eq_false hb, Bool.false_and] at q
      exact q
  refine s_ite (fun h1 => ?_) (fun h1 => ?_)
  · walk_at "u"
    refine s_itn (fun h2 => ?_) (fun h2 => ?_)
    · walk_at "u"
      exact (key false (by rw [decide_eq_true h1, decide_eq_false h2]; rfl)).2 rfl _ Kp.refl
    · walk_at "u"
      intro D hD
      refine lc_it walk_str (PvD D fun i acc H' => Kp [D] H H' ∧ acc = ((z.cps.toList.take i).filter fun c => !decide (c ∈ letters.cps.toList)).map fun c => V.str ⟨#[c]⟩) (PvD.begin hD fun H7 e7 k7 => ⟨by walk_at "k", rfl⟩) (fun _ _ _ _ => trivial) ?_ ?_
      · rintro i x H1 H2 hi ⟨acc, e, kp, rfl⟩ ⟨rfl, c, hc, rfl⟩
        have ec : (z.cps.toList)[i]? = some c := by simpa using hc
        walk_at "u"
        refine ⟨rfl, ?_⟩
        walk_at "u"
        refine s_itn (fun h3 => ?_) (fun h3 => ?_)
        · walk_at "u"
          refine PvD.add e ?_ fun H9 e9 k9 => ⟨by walk_at "k", ?_⟩
          · rw [List.length_map]
            have := List.length_filter_le (fun c => !decide (c ∈ letters.cps.toList)) (z.cps.toList.take i)
            rw [List.length_take] at this
            have : i < z.length := hi
            omega
          · rw [take_one ec, List.filter_append, List.map_append, List.filter_cons_of_pos (p := fun c => !decide (c ∈ letters.cps.toList)) (not_dec h3)]
            rfl
        · walk_at "u"
          refine ⟨_, e, by walk_at "k", ?_⟩
          rw [take_one ec, List.filter_append, List.filter_cons_of_neg (p := fun c => !decide (c ∈ letters.cps.toList)) (not_dec2 h3)]
          simp
      · rintro H2 ⟨acc, e, kp, rfl⟩
        rw [List.take_of_length_le (by simp)] at e
        have z2 : Kz [] H H2 := ⟨kp.drop hD⟩
        walk_at "u"
        walk_at "na"
        intro r H3 f3 e3 k3
        refine s_eqNil (zs := (z.cps.toList.filter fun c => !decide (c ∈ letters.cps.toList)).map fun c => ⟨#[c]⟩) (by rw [List.map_map]; walk_at "g") e3 ?_ ?_
        · intro y hy c hc
          obtain ⟨d, hd, rfl⟩ := List.mem_map.mp hy
          have : c = d := by simpa using hc
          subst this
          exact hz2 c (List.mem_filter.mp hd).1
        obtain ⟨z2⟩ := z2
        rw [List.isEmpty_map, filt_empty]
        walk_at "u"
        exact (key true (by rw [decide_eq_true h1, decide_eq_true h2]; rfl)).1 rfl _ (z2.trans k3)
  · walk_at "u"
    exact (key false (by rw [decide_eq_false h1]; rfl)).2 rfl _ Kp.refl
theorem c_lisname {x : V} {t : Kd} {H : Hp} {Q : VK} {E : XK} (ht : TyN H x t) (h : Small x) (q : ∀ H', Kp [] H H' → Q (.bl (isName x)) H') : sp_law_is_name [x] H Q E := ⟨_, rfl, t, ht, h, q⟩
theorem dig_cps : ("0123456789" : Str).cps.toList = [48, 49, 50, 51, 52, 53, 54, 55, 56, 57] := by decide +kernel
theorem dig_mem (c : Nat) : decide (c ∈ ("0123456789" : Str).cps.toList) = decide (48 ≤ c ∧ c ≤ 57) := by
  rw [dig_cps]
  apply decide_eq_decide.mpr
  simp only [List.mem_cons, List.not_mem_nil, or_false]
  omega
def sp_law_number_read : Sp := sp1 fun x H Q _ => ∃ w : Str, x = .str w ∧ SS w 1000 ∧ ∀ H', Kp [] H H' → Q (numV w) H'
set_option maxHeartbeats 16000000 in
theorem ok_law_number_read (T : Tx K mg w) : FnOk P w K mg base (L2.CX P w) 1 T.a_law_number_read T.d_law_number_read ["_law_word"] (sp_law_number_read) := by
  refine T.F_law_number_read.okX sc_law_number_read (fun vs H Q E h => ?_) (fun cd A o s H vs Q E hr h => ?_)
  · obtain ⟨v0, rfl, h⟩ := h; rfl
  obtain ⟨v0, rfl, h⟩ := h
  obtain ⟨w', rfl, ⟨hl, hs⟩, k⟩ := h
  refine ⟨_, (pss_cons (ps_if (PW.pt (pw_or (pt_not (pt_chain o_le o_le pe_int (pe_callB (c_len (K := K) rfl) rfl T.z_len bt_len (pa_cons (pv 0) pa_nil)) pe_int)) (pw_or1 (pt_cmpR (o_ne (K := K) rfl hr) (pe_lc (own := [("_law_sign", 1)]) rfl sc_law_number_read.nd (pi_str (pv 0)) (blkOk_by (own := [("_law_sign", 1)]) (N := N_law_number_read) (sc := defScope s_law_number_read) (by decide +kernel)) (fun _ _ _ _ _ => (pg_name (i := 1) sc_law_number_read.nd rfl (Or.inl rfl))) (fun _ _ _ _ _ => (pts_one (pt_cmpR (o_notin (K := K) rfl) (pv 1) pe_str rfl))) (fun _ _ _ _ _ => (pv 1))) (pe_lst pa_nil) (nomark _)))))
    (pss_one (ps_ret pe_non))
    pss_nil)
    (pss_cons (ps_if (PW.pt (pw_and (pt_cmpR o_gt (pe_callB (c_len (K := K) rfl) rfl T.z_len bt_len (pa_cons (pv 0) pa_nil)) pe_int (nomark _)) (pw_and1 (pt_cmpR (o_eq (K := K) rfl hr) (pe_ix (ix_u (K := K) rfl) (pv 0) pe_int (fun _ _ => rfl)) pe_str (nomark _)))))
    (pss_one (ps_ret pe_non))
    pss_nil)
    (pss_one (ps_ret (pe_callTy c_intS rfl T.z_int bt_int (pa_cons (pv 0) pa_nil)))))), ?_⟩
  rw [st_law_number_read]
  have key : ∀ b : Bool, (digB w' && decide (w'.length ≤ 6) && !lead0 w') = b → ∀ H', Kp [] H H' → (b = true → Q (.int ((NumText.digitsVal w'.cps.toList : Nat) : Int)) H') ∧ (b = false → Q .non H') := by
    intro b hb H' kp
    have k := k H' kp
    unfold numV numIn at k
    rw [hb] at k
    exact ⟨fun e => by subst e; exact k, fun e => by subst e; exact k⟩
  have fin1 : digB w' = true → w'.length ≤ 6 → PySem.intText? w' = some ((NumText.digitsVal w'.cps.toList : Nat) : Int) := by
    intro hd hz
    unfold digB at hd
    rw [Bool.and_eq_true, decide_eq_true_eq, List.all_eq_true] at hd
    refine intText_digits (fun c hc => by simpa using hd.2 c hc) (fun z => ?_) (by omega)
    have : w'.cps.toList.length = w'.length := Array.length_toList
    rw [z] at this
    simp at this
    omega
  walk_at "u"
  refine s_lens (zle (by omega)) ?_
  walk_at "u"
  refine s_ite (fun h1 => ?_) (fun h1 => ?_)
  rotate_left
  · walk_at "u"
    exact (key false (by unfold digB; rw [decide_eq_false (by omega)]; rfl) _ Kp.refl).2 rfl
  walk_at "u"
  refine s_itn (fun h2 => ?_) (fun h2 => ?_)
  · walk_at "u"
    exact (key false (by rw [decide_eq_false (by omega : ¬ w'.length ≤ 6)]; simp) _ Kp.refl).2 rfl
  walk_at "u"
  intro D hD
  refine lc_it walk_str (PvD D fun i acc H' => Kp [D] H H' ∧ acc = ((w'.cps.toList.take i).filter fun c => !decide (48 ≤ c ∧ c ≤ 57)).map fun c => V.str ⟨#[c]⟩) (PvD.begin hD fun H7 e7 k7 => ⟨by walk_at "k", rfl⟩) (fun _ _ _ _ => trivial) ?_ ?_
  · rintro i x H1 H2 hi ⟨acc, e, kp, rfl⟩ ⟨rfl, c, hc, rfl⟩
    have ec : (w'.cps.toList)[i]? = some c := by simpa using hc
    walk_at "u"
    refine ⟨rfl, ?_⟩
    walk_at "u"
    rw [dig_mem]
    refine s_itn (fun h3 => ?_) (fun h3 => ?_)
    · walk_at "u"
      refine PvD.add e ?_ fun H9 e9 k9 => ⟨by walk_at "k", ?_⟩
      · rw [List.length_map]
        have := List.length_filter_le (fun c => !decide (48 ≤ c ∧ c ≤ 57)) (w'.cps.toList.take i)
        rw [List.length_take] at this
        have : i < w'.length := hi
        omega
      · rw [take_one ec, List.filter_append, List.map_append, List.filter_cons_of_pos (p := fun c => !decide (48 ≤ c ∧ c ≤ 57)) (not_dec h3)]
        rfl
    · walk_at "u"
      refine ⟨_, e, by walk_at "k", ?_⟩
      rw [take_one ec, List.filter_append, List.filter_cons_of_neg (p := fun c => !decide (48 ≤ c ∧ c ≤ 57)) (not_dec2 h3)]
      simp
  · rintro H2 ⟨acc, e, kp, rfl⟩
    rw [List.take_of_length_le (by simp), map_one] at e
    have z2 : Kz [] H H2 := ⟨kp.drop hD⟩
    walk_at "u"
    walk_at "na"
    intro r H3 f3 e3 k3
    refine s_neN (ds := (((w'.cps.toList.filter fun c => !decide (48 ≤ c ∧ c ≤ 57)).map fun c => (⟨#[c]⟩ : Str)).map PyData.str)) (.lst (Or.inl (by walk_at "g")) (dna_strs _)) e3 (shp_strs ?_) ?_
    · intro y hy c hc
      obtain ⟨d, hd, rfl⟩ := List.mem_map.mp hy
      have : c = d := by simpa using hc
      subst this
      exact hs c (List.mem_filter.mp hd).1
    obtain ⟨z2⟩ := z2
    rw [List.isEmpty_map, List.isEmpty_map, filt_empty]
    have k3' := z2.trans k3
    have ed : digB w' = w'.cps.toList.all fun c => decide (48 ≤ c ∧ c ≤ 57) := by
      unfold digB
      rw [decide_eq_true (by omega), Bool.true_and]
    rw [← ed]
    cases hd : digB w' with
    | false =>
      walk_at "u"
      exact (key false (by rw [hd]; rfl) _ k3').2 rfl
    | true =>
      walk_at "u"
      refine s_lens (zle (by omega)) ?_
      walk_at "u"
      refine s_ite (fun h1 => ?_) (fun h1 => ?_)
      · walk_at "u"
        have l1 : w'.cps.toList.length = w'.length := Array.length_toList
        obtain ⟨c, cs, ec⟩ : ∃ c cs, w'.cps.toList = c :: cs := by
          cases e : w'.cps.toList with
          | nil => rw [e] at l1; simp at l1; omega
          | cons c cs => exact ⟨c, cs, rfl⟩
        refine s_ixs (c := c) (zle (by omega)) (by rw [ec]; simp [atI, ixN]) ?_
        walk_at "u"
        have e0 : ((⟨#[c]⟩ : Str) = "0") ↔ c = 48 := by
          constructor
          · intro e
            have := congrArg (fun z : Str => z.cps.toList) (e.trans zero_eq)
            simpa using this
          · rintro rfl
            decide +kernel
        have lz : lead0 w' = decide (c = 48) := by
          unfold lead0
          rw [decide_eq_true (by omega), Bool.true_and, ec]
          simp
        refine s_ite (fun h2 => ?_) (fun h2 => ?_)
        · walk_at "u"
          exact (key false (by rw [hd, lz, decide_eq_true (e0.mp h2)]; simp) _ k3').2 rfl
        · walk_at "u"
          refine s_intS (fin1 hd (by omega)) (by omega) ?_
          walk_at "u"
          exact (key true (by rw [hd, lz, decide_eq_true (by omega), decide_eq_false (fun z => h2 (e0.mpr z))]; rfl) _ k3').1 rfl
      · walk_at "u"
        refine s_intS (fin1 hd (by omega)) (by omega) ?_
        walk_at "u"
        exact (key true (by rw [hd, decide_eq_true (by omega)]; unfold lead0; rw [decide_eq_false (by omega)]; rfl) _ k3').1 rfl
def sp_law_is_part : Sp := sp2 fun y x H Q _ => ∃ z t, y = .str z ∧ z ∈ sgN ∧ TyN H x t ∧ Small x ∧ ∀ H', Kp [] H H' → Q (.bl (isPart (sg z) x)) H'
theorem sg_eqs : (sg "N" = "name" ∧ sg "K" = "number") ∧ sg "H" = "thing" ∧ sg "D" = "kind" := by decide +kernel
theorem sg_nes : ("thing" : Str) ≠ "name" ∧ ("thing" : Str) ≠ "number" ∧ ("kind" : Str) ≠ "name" ∧ ("kind" : Str) ≠ "number" ∧ ("kind" : Str) ≠ "thing" ∧ ("number" : Str) ≠ "name" := by decide +kernel
set_option maxHeartbeats 16000000 in
theorem ok_law_is_part (T : Tx K mg w) : FnOk P w K mg base (L2.CX P w) 2 T.a_law_is_part T.d_law_is_part ["_law_sign", "_law_thing"] (sp_law_is_part) := by
  have G_law_is_name := ok_law_is_name (P := P) (w := w) (base := base) T
  refine T.F_law_is_part.okX sc_law_is_part (fun vs H Q E h => ?_) (fun cd A o s H vs Q E hr h => ?_)
  · obtain ⟨v0, v1, rfl, h⟩ := h; rfl
  obtain ⟨v0, v1, rfl, h⟩ := h
  obtain ⟨z, t, rfl, hm, ht, hz, k⟩ := h
  refine ⟨_, (pss_cons (ps_if (pt_cmpR (o_eq (K := K) rfl hr) (pv 0) pe_str (nomark _))
    (pss_one (ps_ret (pe_co G_law_is_name (hr.mono (by decide)) rfl T.m_law_is_name T.F_law_is_name.kp T.B_law_is_name (takes_of (E := E) rfl rfl rfl rfl) (pa_cons (pv 1) pa_nil))))
    pss_nil)
    (pss_cons (ps_if (pt_cmpR (o_eq (K := K) rfl hr) (pv 0) pe_str (nomark _))
    (pss_one (ps_ret (pe_and (pe_callB (c_isi (K := K) rfl) rfl T.z_isinstance bt_isinstance (pa_cons (pv 1) (pa_cons (pe_ty rfl T.z_int bt_int) pa_nil))) (pe_and (pe_not (pe_callB (c_isi (K := K) rfl) rfl T.z_isinstance bt_isinstance (pa_cons (pv 1) (pa_cons (pe_ty rfl T.z_bool bt_bool) pa_nil)))) (pe_one (pe_chain o_le o_le pe_int (pv 1) pe_int))))))
    pss_nil)
    (pss_cons (ps_if (pt_not (pt_val (pe_callB (c_isi (K := K) rfl) rfl T.z_isinstance bt_isinstance (pa_cons (pv 1) (pa_cons (pe_ty rfl T.z_str bt_str) pa_nil)))))
    (pss_one (ps_ret pe_bl))
    pss_nil)
    (pss_one (ps_ret (pe_cmpR (o_in (K := K) rfl) (pv 1) (pe_ix (ix_u (K := K) rfl) (pe_lst (pa_cons (pe_lst (pa_cons pe_str (pa_cons pe_str (pa_cons pe_str pa_nil)))) (pa_cons (pe_lst (pa_cons pe_str (pa_cons pe_str (pa_cons pe_str (pa_cons pe_str pa_nil))))) pa_nil))) (pe_callTy c_int rfl T.z_int bt_int (pa_cons (pe_cmpR (o_eq (K := K) rfl hr) (pv 0) pe_str (nomark _)) pa_nil)) (fun _ _ => rfl)) rfl)))))), ?_⟩
  rw [st_law_is_part]
  walk_at "u"
  refine s_ite (fun h1 => ?_) (fun h1 => ?_)
  · walk_at "u"
    refine c_lisname ht hz fun H' k' => ?_
    walk_at "u"
    have q := k H' k'
    rw [h1, sg_eqs.1.1] at q
    unfold isPart at q
    rw [if_pos rfl] at q
    exact q
  walk_at "u"
  refine s_ite (fun h2 => ?_) (fun h2 => ?_)
  · have q := k _ Kp.refl
    rw [h2, sg_eqs.1.2] at q
    unfold isPart at q
    rw [if_neg sg_nes.2.2.2.2.2, if_pos rfl] at q
    cases ht <;> walk_at "u"
    all_goals try exact q
    rename_i i
    have e : isWhole (V.int i) 0 999999 = (decide (0 ≤ i) && decide (i ≤ 999999)) := rfl
    rw [e] at q
    refine s_ite (fun h3 => ?_) (fun h3 => ?_)
    · walk_at "u"
      rw [decide_eq_true h3, Bool.true_and] at q
      exact q
    · rw [decide_eq_false h3, Bool.false_and] at q
      exact q
  have hHD : z = "H" ∨ z = "D" := by
    simp only [sgN, List.mem_cons, List.not_mem_nil, or_false] at hm
    rcases hm with h | h | h | h
    · exact (h1 h).elim
    · exact (h2 h).elim
    · exact Or.inl h
    · exact Or.inr h
  have nHD : ("D" : Str) ≠ "H" := by decide +kernel
  have key : ∀ v, (∀ y, v ≠ .str y) → isPart (sg z) v = false := by
    intro v hv
    rcases hHD with rfl | rfl
    · rw [sg_eqs.2.1]
      unfold isPart
      rw [if_neg sg_nes.1, if_neg sg_nes.2.1]
      split
      · exact (hv _ rfl).elim
      · rfl
    · rw [sg_eqs.2.2]
      unfold isPart
      rw [if_neg sg_nes.2.2.1, if_neg sg_nes.2.2.2.1]
      split
      · exact (hv _ rfl).elim
      · rfl
  cases ht <;> walk_at "u"
  all_goals try (have q := k _ Kp.refl; rw [key _ (by intro y e; cases e)] at q; exact q)
  rename_i y
  walk_at "na"
  intro l1 H1 f1 e1 k1
  walk_at "u"
  walk_at "na"
  intro l2 H2 f2 e2 k2
  walk_at "u"
  walk_at "na"
  intro l3 H3 f3 e3 k3
  walk_at "u"
  refine s_intB ?_
  rcases hHD with rfl | rfl
  · rw [decide_eq_true rfl]
    walk_at "u"
    refine s_inS (zs := thingN) (SqL.of (by walk_at "g")) ?_
    walk_at "u"
    have q := k H3 (by walk_at "k")
    rw [sg_eqs.2.1] at q
    unfold isPart at q
    rw [if_neg sg_nes.1, if_neg sg_nes.2.1] at q
    simp only at q
    rw [if_pos trivial] at q
    exact q
  · rw [decide_eq_false nHD]
    walk_at "u"
    refine s_inS (zs := kindN) (SqL.of (by walk_at "g")) ?_
    walk_at "u"
    have q := k H3 (by walk_at "k")
    rw [sg_eqs.2.2] at q
    unfold isPart at q
    rw [if_neg sg_nes.2.2.1, if_neg sg_nes.2.2.2.1] at q
    simp only at q
    rw [if_neg sg_nes.2.2.2.2.1] at q
    exact q
theorem c_lispart {z : Str} {x : V} {t : Kd} {H : Hp} {Q : VK} {E : XK} (hm : z ∈ sgN) (ht : TyN H x t) (h : Small x) (q : ∀ H', Kp [] H H' → Q (.bl (isPart (sg z) x)) H') : sp_law_is_part [.str z, x] H Q E := ⟨_, _, rfl, z, t, rfl, hm, ht, h, q⟩

theorem atLastC {α : Type} {a x : α} {xs : List α} : atI (a :: (xs ++ [x])) (-1) = some x := atLast (xs := a :: xs)
theorem join_many {a : Str} (h : 1 ≤ a.length) : ∀ ws : List Str, ws.length ≤ (Str.join a ws).length + 1
  | [] => by simp
  | [v] => by simp
  | v :: v2 :: r => by
    have e : Str.join a (v :: v2 :: r) = v ++ a ++ Str.join a (v2 :: r) := rfl
    have e2 : (Str.join a (v :: v2 :: r)).length = v.length + a.length + (Str.join a (v2 :: r)).length := by rw [e]; simp [Str.length, Str.cps_append]; omega
    have := join_many h (v2 :: r)
    rw [e2]
    simp only [List.length_cons] at this ⊢
    omega
theorem split_many (z : Str) : (Txt.split z " ").length ≤ z.length + 1 := by
  have := join_many (a := " ") (by decide +kernel) (Txt.split z " ")
  rwa [StrLaws.join_split] at this
theorem forms_map : l_FORMS = lfW.map fun q => (q.1, q.2.map sg) := by decide +kernel
theorem lf_find {w : Str} {fs : List Str} (h : lk l_FORMS w = some fs) : ∃ (j : Nat) (ss : List Str), lfW[j]? = some (w, ss) ∧ fs = ss.map sg := by
  have m := lk_key h
  rw [forms_map] at m
  obtain ⟨q, hq, e⟩ := List.mem_map.mp m
  cases e
  obtain ⟨j, hj, e2⟩ := List.mem_iff_getElem.mp hq
  exact ⟨j, q.2, by rw [List.getElem?_eq_getElem hj, e2], rfl⟩
theorem lf_get {i : Nat} {z : Str} (h : lfT[i]? = some z) : z.length ≤ 20 ∧ ∃ w ss, lfW[i]? = some (w, ss) ∧ Txt.split z " " = w :: ss ∧ LfOk w ss := by
  refine ⟨lf_len z (List.mem_of_getElem? h), ?_⟩
  have e := congrArg (fun l : List (List Str) => l[i]?) lf_split
  simp only [List.getElem?_map, h, Option.map_some] at e
  obtain ⟨q, hq, e2⟩ := Option.map_eq_some_iff.mp e.symm
  have a := List.all_eq_true.mp lf_forms q (List.mem_of_getElem? hq)
  simp only [Bool.and_eq_true, decide_eq_true_eq, List.all_eq_true, Bool.or_eq_true, beq_iff_eq] at a
  exact ⟨q.1, q.2, hq, e2.symm, a.1.1.1, a.1.1.2, a.1.2, fun z hz => (a.2 z hz).1.1, fun z hz hn => ((a.2 z hz).1.2).resolve_left hn, fun z hz => (a.2 z hz).2⟩
theorem lf_many : lfT.length = 14 ∧ lfW.length = 14 := by decide +kernel
theorem not_deedOf {w : Str} {r : List Str} (h : ∀ (j : Nat) (ss : List Str), lfW[j]? = some (w, ss) → ss.length ≠ r.length) : deedOf (w :: r) = none := by
  unfold deedOf
  simp only
  cases e : lk l_FORMS w with
  | none => rfl
  | some fs =>
    obtain ⟨j, ss, ej, rfl⟩ := lf_find e
    simp only
    rw [if_neg]
    intro z
    rw [List.length_map] at z
    exact h j ss ej z.symm
theorem deedOf_len {ws : List Str} {xs : List V} (h : deedOf ws = some xs) : ws.length = 0 ∨ ∃ fs w r, ws = w :: r ∧ lk l_FORMS w = some fs ∧ r.length = fs.length ∧ ∃ qs, readF fs r = some qs ∧ xs = .str w :: qs := by
  cases ws with
  | nil => exact Or.inl rfl
  | cons w r =>
    refine Or.inr ?_
    unfold deedOf at h
    simp only at h
    cases e : lk l_FORMS w with
    | none => rw [e] at h; cases h
    | some fs =>
      rw [e] at h
      simp only at h
      split at h
      · rename_i hl
        obtain ⟨qs, eq, ex⟩ := Option.map_eq_some_iff.mp h
        exact ⟨fs, w, r, rfl, e, hl, qs, eq, ex.symm⟩
      · cases h
theorem sg_num : ∀ z ∈ sgN, (decide (sg z = "number") = decide (z = "K")) := by decide +kernel
theorem sg_fill : ∀ z ∈ sgN, filledB (sg z) = true := by decide +kernel
theorem wordV_ty {H : Hp} {f w : Str} : ∃ t, TyN H (wordV f w) t := by
  unfold wordV
  split
  · exact numV_ty
  · exact ⟨_, .str⟩
theorem wordV_small {f w : Str} (hs : SS w 1000) : Small (wordV f w) := by
  unfold wordV
  split
  · exact numV_small
  · exact hs
theorem partV_of {f w : Str} (h : isPart f (wordV f w) = true) : partV f w = wordV f w := by unfold partV; rw [if_pos h]
theorem partV_no {f w : Str} (h : isPart f (wordV f w) = false) : partV f w = .non := by unfold partV; rw [if_neg (by rw [h]; simp)]
theorem isPart_non {f : Str} : isPart f .non = false := by
  unfold isPart
  split
  · rfl
  split
  · rfl
  · rfl
def sp_law_deed_read : Sp := sp1 fun x H Q _ => ∃ z : Str, x = .str z ∧ AS z ∧ z.length ≤ 1000 ∧
  (∀ xs, deedOf (Txt.split z " ") = some xs → ∀ t H', H' t = some (.tup xs) → Kp [] H H' → Q (.ref t) H') ∧ (deedOf (Txt.split z " ") = none → ∀ H', Kp [] H H' → Q .non H')
set_option maxHeartbeats 16000000 in
theorem ok_law_deed_read (T : Tx K mg w) : FnOk P w K mg base (L2.CX P w) 3 T.a_law_deed_read T.d_law_deed_read ["_law_row"] (sp_law_deed_read) := by
  have G_law_forms := ok_law_forms (P := P) (w := w) (base := base) T
  have G_law_is_part := ok_law_is_part (P := P) (w := w) (base := base) T
  have G_law_number_read := ok_law_number_read (P := P) (w := w) (base := base) T
  refine T.F_law_deed_read.okX sc_law_deed_read (fun vs H Q E h => ?_) (fun cd A o s H vs Q E hr h => ?_)
  · obtain ⟨v0, rfl, h⟩ := h; rfl
  obtain ⟨v0, rfl, h⟩ := h
  obtain ⟨z, rfl, as, lz, k, kN⟩ := h
  refine ⟨_, (pss_cons (ps_set (i := 1) sc_law_deed_read.nd rfl (Or.inl rfl) (pe_split (pv 0) pe_str))
    (pss_cons (ps_for PassesOwn.leaving rfl (pi_lst (K := K) rfl (pe_co0 G_law_forms (hr.mono (by decide)) rfl T.m_law_forms T.F_law_forms.kp T.B_law_forms (takes_of (E := E) rfl rfl rfl rfl))) (pg_name (i := 2) sc_law_deed_read.nd rfl (Or.inl rfl))
    (pss_cons (ps_set (i := 3) sc_law_deed_read.nd rfl (Or.inl rfl) (pe_split (pv 2) pe_str))
    (pss_one (ps_if (PW.pt (pw_and (pt_cmpR (o_eq (K := K) rfl hr) (pe_ix (ix_u (K := K) rfl) (pv 3) pe_int (fun _ _ => rfl)) (pe_ix (ix_u (K := K) rfl) (pv 1) pe_int (fun _ _ => rfl)) (nomark _)) (pw_and1 (pt_cmpR (o_eq (K := K) rfl hr) (pe_callB (c_len (K := K) rfl) rfl T.z_len bt_len (pa_cons (pv 3) pa_nil)) (pe_callB (c_len (K := K) rfl) rfl T.z_len bt_len (pa_cons (pv 1) pa_nil)) (nomark _)))))
    (pss_cons (ps_set (i := 4) sc_law_deed_read.nd rfl (Or.inl rfl) (pe_tup (pa_cons (pe_ix (ix_u (K := K) rfl) (pv 1) pe_int (fun _ _ => rfl)) pa_nil)))
    (pss_cons (ps_for PassesOwn.leaving rfl (pi_zipB (K := K) rfl rfl T.z_zip (pa_cons (pe_slice (sl_u (K := K) rfl) (pv 3) (po_some pe_int) po_none) (pa_cons (pe_slice (sl_u (K := K) rfl) (pv 1) (po_some pe_int) po_none) pa_nil))) (pg_tupK (K := K) (n := 2) rfl rfl (pgs_cons (pg_name (i := 5) sc_law_deed_read.nd rfl (Or.inl rfl)) (pgs_cons (pg_name (i := 6) sc_law_deed_read.nd rfl (Or.inl rfl)) pgs_nil)))
    (pss_one (ps_if (pt_cmpR (o_in (K := K) rfl) (pv 5) (pe_tup (pa_cons pe_str (pa_cons pe_str (pa_cons pe_str (pa_cons pe_str pa_nil))))) rfl)
    (pss_cons (ps_set (i := 4) sc_law_deed_read.nd rfl (Or.inl rfl) (pe_op (o_add (K := K) rfl) (pv 4) (pe_tup (pa_cons (pe_ifExp (pt_cmpR (o_eq (K := K) rfl hr) (pv 5) pe_str (nomark _)) (pe_co G_law_number_read (hr.mono (by decide)) rfl T.m_law_number_read T.F_law_number_read.kp T.B_law_number_read (takes_of (E := E) rfl rfl rfl rfl) (pa_cons (pv 6) pa_nil)) (pv 6)) pa_nil))))
    (pss_one (ps_if (pt_not (pt_val (pe_co G_law_is_part (hr.mono (by decide)) rfl T.m_law_is_part T.F_law_is_part.kp T.B_law_is_part (takes_of (E := E) rfl rfl rfl rfl) (pa_cons (pv 5) (pa_cons (pe_ix (ix_u (K := K) rfl) (pv 4) (pe_un un_neg pe_int) (fun _ _ => rfl)) pa_nil)))))
    (pss_one (ps_ret pe_non))
    pss_nil)))
    (pss_one (ps_if (pt_cmpR (o_ne (K := K) rfl hr) (pv 5) (pv 6) (nomark _))
    (pss_one (ps_ret pe_non))
    pss_nil)))))
    (pss_one (ps_ret (pv 4)))))
    pss_nil))))
    (pss_one (ps_ret pe_non)))), ?_⟩
  rw [st_law_deed_read]
  walk_at "u"
  refine s_spl3 (sep := " ") (by decide +kernel) (Nat.le_trans (Nat.add_le_add_right lz 2) (by decide +kernel)) rfl fun l H1 f1 e1 k1 => ?_
  have hw : ∀ v ∈ Txt.split z " ", SS v 1000 := fun v hv => ⟨Nat.le_trans (split_le hv) lz, fun c hc => Nat.lt_trans (split_as as hv c hc) (by omega)⟩
  have hn := split_ne (z := z) (a := " ")
  have hlw : (Txt.split z " ").length ≤ 1001 := by
    have := split_many z
    omega
  generalize Txt.split z " " = ws at *
  cases ws with
  | nil => exact (hn rfl).elim
  | cons w' r =>
  have e1 : H1 l = some (.lst (.str w' :: r.map V.str)) := e1
  walk_at "u"
  refine ⟨rfl, fun l2 H2 f2 e2 k2 => ?_⟩
  walk_at "u"
  refine s_ilst (SqL.of e2) ?_
  have z2 : Kz [] H H2 := ⟨by walk_at "k"⟩
  have e12 : H2 l = some (.lst (.str w' :: r.map V.str)) := by walk_at "g"
  clear k1 k2 e1 f1
  obtain ⟨z2⟩ := z2
  refine for_L e2 (fun i σ H' => Kp [] H2 H' ∧ (∀ (j : Nat) (ss : List Str), j < i → lfW[j]? = some (w', ss) → ss.length ≠ r.length) ∧ ∃ u2 u3 u4 u5 u6, σ = [some (.str z), some (.ref l), u2, u3, u4, u5, u6]) ⟨Kp.refl, by intro j ss h; omega, _, _, _, _, _, rfl⟩ (fun i σ H' p o e => p.1.get0 e) ?_ ?_
  · rintro i x σ H3 ex ⟨k3, no, u2, u3, u4, u5, u6, rfl⟩
    rw [List.getElem?_map] at ex
    obtain ⟨y, ey, rfl⟩ := Option.map_eq_some_iff.mp ex
    obtain ⟨ly, w2, ss, el, esp, hL⟩ := lf_get ey
    have l5 := hL.len
    walk_at "u"
    refine s_spl3 (sep := " ") (by decide +kernel) (Nat.le_trans (Nat.add_le_add_right ly 2) (by decide +kernel)) esp fun l4 H4 f4 e4 k4 => ?_
    have e4 : H4 l4 = some (.lst (.str w2 :: ss.map V.str)) := e4
    walk_at "u"
    refine s_ixl e4 at0 ?_
    walk_at "u"
    refine s_ixl (xs := .str w' :: r.map V.str) (by walk_at "g") at0 ?_
    walk_at "u"
    have next : ¬ (w2 = w' ∧ ss.length = r.length) → ∀ j ss', j < i + 1 → lfW[j]? = some (w', ss') → ss'.length ≠ r.length := by
      intro hn j ss' hj ej
      by_cases hji : j < i
      · exact no j ss' hji ej
      · have : j = i := by omega
        subst this
        rw [el] at ej
        cases ej
        exact fun z => hn ⟨rfl, z⟩
    refine s_ite (fun hw2 => ?_) (fun hw2 => ?_)
    rotate_left
    · walk_at "u"
      exact ⟨by walk_at "k", next (fun z => hw2 z.1), _, _, _, _, _, rfl⟩
    subst hw2
    walk_at "u"
    refine s_lenl e4 ?_
    walk_at "u"
    refine s_lenl (xs := .str w2 :: r.map V.str) (by walk_at "g") ?_
    walk_at "u"
    rw [List.length_cons, List.length_cons, List.length_map, List.length_map]
    refine s_ite (fun hl2 => ?_) (fun hl2 => ?_)
    rotate_left
    · walk_at "u"
      exact ⟨by walk_at "k", next (fun z => hl2 (by omega)), _, _, _, _, _, rfl⟩
    have hl2 : ss.length = r.length := by omega
    have dO : ∀ qs, readF (ss.map sg) r = some qs → deedOf (w2 :: r) = some (.str w2 :: qs) := by
      intro qs h
      unfold deedOf
      simp only [hL.lk]
      rw [if_pos (by rw [List.length_map]; exact hl2.symm), h]
      rfl
    have dN : readF (ss.map sg) r = none → deedOf (w2 :: r) = none := by
      intro h
      unfold deedOf
      simp only [hL.lk]
      rw [if_pos (by rw [List.length_map]; exact hl2.symm), h]
      rfl
    walk_at "u"
    refine s_ixl (xs := .str w2 :: r.map V.str) (by walk_at "g") at0 ?_
    walk_at "u"
    walk_at "na"
    intro d5 H5 f5 e5 k5
    walk_at "u"
    refine s_sll (xs := .str w2 :: ss.map V.str) (SqL.of (by walk_at "g")) fun l6 H6 f6 e6 k6 => ?_
    rw [cut1] at e6
    walk_at "u"
    refine s_sll (xs := .str w2 :: r.map V.str) (SqL.of (by walk_at "g")) fun l7 H7 f7 e7 k7 => ?_
    rw [cut1] at e7
    walk_at "u"
    have e67 : H7 l6 = some (.lst (ss.map V.str)) := by walk_at "g"
    have z7 : Kz [] H2 H7 := ⟨by walk_at "k"⟩
    have ed7 : H7 d5 = some (.tup [.str w2]) := by walk_at "gt"
    refine s_zB false false _ _ (sqb_L e67) (sqb_L e7) ?_
    refine for_zB (n := ss.length) (by simp [hl2]) (fun i' σ H' => Kp [] H7 H' ∧ (∃ (d : Addr) (qs : List V), H' d = some (.tup (.str w2 :: qs)) ∧ qs.length ≤ i' ∧ readF (ss.map sg) r = (readF ((ss.map sg).drop i') (r.drop i')).map (qs ++ ·) ∧ ∃ u5 u6, σ = [some (.str z), some (.ref l), some (.str y), some (.ref l4), some (.ref d), u5, u6])) ⟨Kp.refl, d5, [], ed7, Nat.le_refl _, by simp, _, _, rfl⟩ (fun i σ H' p => ⟨sqb_L (p.1.get0 e67), sqb_L (p.1.get0 e7)⟩) ?_ ?_
    · rintro i' x y' σ H8 T8 H9 ex ey' ⟨k8, d, qs, ed, lq, hr', u5, u6, rfl⟩ f9 e9 k9
      rw [List.getElem?_map] at ex ey'
      obtain ⟨f, ef, rfl⟩ := Option.map_eq_some_iff.mp ex
      obtain ⟨wd, ew, rfl⟩ := Option.map_eq_some_iff.mp ey'
      obtain ⟨hi, rfl⟩ := List.getElem?_eq_some_iff.mp ef
      obtain ⟨hi2, rfl⟩ := List.getElem?_eq_some_iff.mp ew
      have sw := hw r[i'] (List.mem_cons_of_mem _ (List.getElem_mem hi2))
      have fm := hL.f ss[i'] (List.getElem_mem hi)
      rw [List.drop_eq_getElem_cons (by rw [List.length_map]; exact hi), List.drop_eq_getElem_cons hi2, List.getElem_map] at hr'
      simp only [readF] at hr'
      walk_at "u"
      walk_at "na"
      intro t10 H10 f10 e10 k10
      refine s_inT (zs := sgN) (SqT.of e10) ?_
      walk_at "u"
      by_cases hm : ss[i'] ∈ sgN
      · rw [decide_eq_true hm] at fm ⊢
        rw [← fm, if_pos rfl] at hr'
        obtain ⟨t, ht⟩ := wordV_ty (H := H10) (f := sg ss[i']) (w := r[i'])
        have hsm := wordV_small (f := sg ss[i']) sw
        have nK := sg_num _ hm
        have fin : ∀ v H11, v = wordV (sg ss[i']) r[i'] → Kp [] H10 H11 → ∀ (R : VK), (∀ d' H12, H12 d' = some (.tup (.str w2 :: (qs ++ [v]))) → Kp [] H11 H12 → R (.ref d') H12) → TupK (fun x H' => uAdd K (.ref d) x H' R) [v] H11 := by
          intro v H11 ev k11 R kr
          walk_at "na"
          intro t13 H13 f13 e13 k13
          refine s_catG (xs := .str w2 :: qs) (ys := [v]) (by walk_at "gt") (by walk_at "gt") (zle (by simp; omega)) fun d14 H14 e14 k14 => ?_
          exact kr d14 H14 e14 (by walk_at "k")
        have rest : ∀ d' H12, H12 d' = some (.tup (.str w2 :: (qs ++ [wordV (sg ss[i']) r[i']]))) → Kp [] H10 H12 → True := fun _ _ _ _ => trivial
        walk_at "u"
        refine s_ite (fun hK => ?_) (fun hK => ?_)
        · have ev : numV r[i'] = wordV (sg ss[i']) r[i'] := by unfold wordV; rw [if_pos (of_decide_eq_true (nK.trans (decide_eq_true hK)))]
          walk_at "u"
          refine ⟨_, rfl, r[i'], rfl, sw, fun H11 k11 => ?_⟩
          walk_at "u"
          refine fin _ _ ev k11 _ fun d' H12 e12 k12 => ?_
          rw [ev] at e12
          walk_at "u"
          refine s_ixt e12 atLastC ?_
          walk_at "u"
          refine c_lispart hm (ht.kp (k11.trans k12)) hsm fun H13 k13 => ?_
          walk_at "u"
          cases hb : isPart (sg ss[i']) (wordV (sg ss[i']) r[i']) with
          | false =>
            walk_at "u"
            rw [partV_no hb, if_pos rfl] at hr'
            exact kN (dN hr') _ (by walk_at "k")
          | true =>
            walk_at "u"
            have hne : wordV (sg ss[i']) r[i'] ≠ .non := fun z => by rw [z, isPart_non] at hb; cases hb
            rw [partV_of hb, if_neg hne] at hr'
            refine ⟨by walk_at "k", d', qs ++ [wordV (sg ss[i']) r[i']], by walk_at "gt", by simp; omega, ?_, _, _, rfl⟩
            rw [hr', Option.map_map]
            congr 1
            funext z
            simp
        · have ev : V.str r[i'] = wordV (sg ss[i']) r[i'] := by unfold wordV; rw [if_neg (of_decide_eq_false (nK.trans (decide_eq_false hK)))]
          walk_at "u"
          refine fin _ _ ev Kp.refl _ fun d' H12 e12 k12 => ?_
          rw [ev] at e12
          walk_at "u"
          refine s_ixt e12 atLastC ?_
          walk_at "u"
          refine c_lispart hm (ht.kp k12) hsm fun H13 k13 => ?_
          walk_at "u"
          cases hb : isPart (sg ss[i']) (wordV (sg ss[i']) r[i']) with
          | false =>
            walk_at "u"
            rw [partV_no hb, if_pos rfl] at hr'
            exact kN (dN hr') _ (by walk_at "k")
          | true =>
            walk_at "u"
            have hne : wordV (sg ss[i']) r[i'] ≠ .non := fun z => by rw [z, isPart_non] at hb; cases hb
            rw [partV_of hb, if_neg hne] at hr'
            refine ⟨by walk_at "k", d', qs ++ [wordV (sg ss[i']) r[i']], by walk_at "gt", by simp; omega, ?_, _, _, rfl⟩
            rw [hr', Option.map_map]
            congr 1
            funext z
            simp
      · rw [decide_eq_false hm] at fm ⊢
        have es := hL.s ss[i'] (List.getElem_mem hi) hm
        rw [← fm, if_neg (by simp), es] at hr'
        walk_at "u"
        refine s_itn (fun hne => ?_) (fun hne => ?_)
        · walk_at "u"
          rw [if_neg (fun z => hne z.symm)] at hr'
          exact kN (dN hr') _ (by walk_at "k")
        · walk_at "u"
          rw [if_pos hne.symm] at hr'
          exact ⟨by walk_at "k", d, qs, by walk_at "gt", by omega, hr', _, _, rfl⟩
    · rintro σ H8 ⟨k8, d, qs, ed, lq, hr', u5, u6, rfl⟩
      have m1 : min (ss.map V.str).length (r.map V.str).length = ss.length := by simp [hl2]
      rw [List.drop_of_length_le (by rw [List.length_map]; omega), List.drop_of_length_le (by omega)] at hr'
      simp only [readF, Option.map_some, List.append_nil] at hr'
      walk_at "u"
      exact k _ (dO _ hr') d H8 ed (by walk_at "k")
  · rintro σ H3 ⟨k3, no, u2, u3, u4, u5, u6, rfl⟩
    rw [List.length_map] at no
    walk_at "u"
    exact kN (not_deedOf fun j ss ej => no j ss (by rw [lf_many.1, ← lf_many.2]; exact (List.getElem?_eq_some_iff.mp ej).1) ej) _ (by walk_at "k")

/-! logs: their texts -/
inductive Dr (H : Hp) : V → Option Str → Prop
  | no {x : V} {t : Kd} : TyN H x t → t ≠ .tup → Dr H x none
  | yes {a : Addr} {xs : List V} : H a = some (.tup xs) → (∀ v ∈ xs, ∃ t, TyN H v t ∧ Small v) → isDeed xs = true → Dr H (.ref a) (some (rowOf xs))
  | bad {a : Addr} {xs : List V} : H a = some (.tup xs) → (∀ v ∈ xs, ∃ t, TyN H v t ∧ Small v) → isDeed xs = false → Dr H (.ref a) none
theorem Dr.kp {H H1 : Hp} {v : V} {o : Option Str} (h : Dr H v o) (k : Kp [] H H1) : Dr H1 v o := by
  have up : ∀ {xs : List V}, (∀ v ∈ xs, ∃ t, TyN H v t ∧ Small v) → ∀ v ∈ xs, ∃ t, TyN H1 v t ∧ Small v := fun h v hv => by
    obtain ⟨t, a, b⟩ := h v hv
    exact ⟨t, a.kp k, b⟩
  cases h with
  | no a b => exact .no (a.kp k) b
  | yes a b c => exact .yes (k.tgt a) (up b) c
  | bad a b c => exact .bad (k.tgt a) (up b) c
structure Drs (H : Hp) (vs : List V) (os : List (Option Str)) : Prop where
  len : os.length = vs.length
  at_ : ∀ {i : Nat} {v : V}, vs[i]? = some v → ∃ o, os[i]? = some o ∧ Dr H v o
theorem Drs.kp {H H1 : Hp} {vs : List V} {os : List (Option Str)} (h : Drs H vs os) (k : Kp [] H H1) : Drs H1 vs os := ⟨h.len, fun e => by
  obtain ⟨o, a, b⟩ := h.at_ e
  exact ⟨o, a, b.kp k⟩⟩
theorem c_dtr {T : Tx K mg w} {v : V} {o : Option Str} {H : Hp} {Q : VK} {E : XK} (d : Dr H v o) (k : ∀ r, o = some r → ∀ H', Kp [] H H' → Q (.str r) H') (kE : o = none → ErF "found" T.C_NoDeed v H E) : sp_deed_text T [v] H Q E := by
  cases d with
  | no a b => exact ⟨_, rfl, Or.inl ⟨_, a, b, kE rfl⟩⟩
  | yes a b c => exact ⟨_, rfl, Or.inr ⟨_, _, rfl, a, b, fun _ => k _ rfl, fun z => by rw [c] at z; cases z⟩⟩
  | bad a b c => exact ⟨_, rfl, Or.inr ⟨_, _, rfl, a, b, fun z => (by rw [c] at z; cases z), fun _ => kE rfl⟩⟩
theorem os_all {os : List (Option Str)} {n : Nat} {rs : List Str} (h : rs.map some = os.take n) (hn : os.length ≤ n) : os = rs.map some := by
  rw [h, List.take_of_length_le hn]
def sp_log_text (T : Tx K mg w) : Sp := sp1 fun x H Q E => (∃ t, TyN H x t ∧ t.isSeq = false ∧ ErF "found" T.C_NoDeed x H E) ∨
  ∃ a vs os, x = .ref a ∧ (H a = some (.lst vs) ∨ H a = some (.tup vs)) ∧ Drs H vs os ∧ vs.length ≤ 1000 ∧ (∀ r, some r ∈ os → r.length ≤ 100) ∧
    (∀ rs, os = rs.map some → ∀ H', Kp [] H H' → Q (.str (Txt.join "\n" rs)) H') ∧ (∀ (j : Nat) (v : V), vs[j]? = some v → os[j]? = some none → (∀ m : Nat, m < j → os[m]? ≠ some none) → ErF "found" T.C_NoDeed v H E)
set_option maxHeartbeats 16000000 in
theorem ok_log_text (T : Tx K mg w) : FnOk P w K mg base (L2.CX P w) 5 T.a_log_text T.d_log_text ["deeds"] (sp_log_text T) := by
  have G_NoDeed_init := ok_NoDeed_init (P := P) (w := w) (base := base) T
  have G_deed_text := ok_deed_text (P := P) (w := w) (base := base) T
  refine T.F_log_text.okX sc_log_text (fun vs H Q E h => ?_) (fun cd A o s H vs Q E hr h => ?_)
  · obtain ⟨v0, rfl, h⟩ := h; rfl
  obtain ⟨v0, rfl, h⟩ := h
  refine ⟨_, (pss_cons (ps_if (pt_not (pt_val (pe_callB (c_isiT (K := K) rfl) rfl T.z_isinstance bt_isinstance (pa_cons (pv 0) (pa_cons (pe_tup (pa_cons (pe_ty rfl T.z_list bt_list) (pa_cons (pe_ty rfl T.z_tuple bt_tuple) pa_nil))) pa_nil)))))
    (pss_one (ps_rz rfl T.er_NoDeed.oex T.er_NoDeed.iC T.er_NoDeed.tI G_NoDeed_init (hr.mono (by decide)) T.B_NoDeed_init rfl T.m_NoDeed (takes_of (E := E) rfl rfl rfl rfl) (pv 0)))
    pss_nil)
    (pss_one (ps_ret (pe_joinU (K := K) rfl pe_str (pe_lcX rfl rfl (takes_of (E := E) rfl rfl rfl rfl) (own := [("deed", 1)]) rfl sc_log_text.nd (pi_seq (K := K) rfl (pv 0)) (blkOk_by (own := [("deed", 1)]) (N := N_log_text) (sc := defScope s_log_text) (by decide +kernel)) (fun _ _ _ _ _ _ => (pg_name (i := 1) sc_log_text.nd rfl (Or.inl rfl))) (fun _ _ _ _ _ _ hx => pts_nil) (fun _ _ _ _ _ _ hx => (pe_coP G_deed_text (hr.mono (by decide)) rfl T.m_deed_text T.F_deed_text.kp T.B_deed_text hx (pa_cons (pv 1) pa_nil)))))))), ?_⟩
  rw [st_log_text]
  rcases h with ⟨t, ht, hn, k⟩ | ⟨a, vs, os, rfl, ea, hD, hl, hr, k, kE⟩
  · cases ht <;> first | (exact absurd hn (by decide)) | skip
    all_goals
      walk_at "u"
      walk_at "na"
      intro tp H1 f1 e1 k1
      walk_at "u"
      first
        | refine s_isSeq .non e1 ?_
        | refine s_isSeq .bl e1 ?_
        | refine s_isSeq .int e1 ?_
        | refine s_isSeq .str e1 ?_
        | refine s_isSeq (.dic (by walk_at "g")) e1 ?_
      walk_at "u"
      exact k.kp k1
  have nd : ∀ {i : Nat} {rs : List Str}, rs.map some = os.take i → ∀ m : Nat, m < i → os[m]? ≠ some none := fun {i rs} h m hm e => by
    have : (os.take i)[m]? = some none := by rw [List.getElem?_take, if_pos hm]; exact e
    rw [← h, List.getElem?_map] at this
    obtain ⟨y, _, z⟩ := Option.map_eq_some_iff.mp this
    cases z
  have lo := hD.len
  have fin : ∀ {D : Addr} {H1 H2 : Hp} {acc : List V}, Kp [] H H1 → H1 D = none → H2 D = some (.lst acc) → (Kp [D] H1 H2 ∧ ∃ rs : List Str, acc = rs.map V.str ∧ rs.map some = os.take vs.length) → ∀ R : VK, (∀ rs H3, os = rs.map some → Kp [] H H3 → R (.str (Txt.join "\n" rs)) H3) → uJoin K (.str "\n") [.ref D] H2 R := by
    rintro D H1 H2 acc k1 fD eD ⟨k2, rs, rfl, hrs⟩ R kr
    have e : os = rs.map some := os_all hrs (by omega)
    refine s_join (ys := rs) eD ?_ (kr rs H2 e (k1.trans (k2.drop fD)))
    have l1 : ("\n" : Str).length = 1 := by decide +kernel
    have lr : rs.length = vs.length := by rw [← lo, e, List.length_map]
    have := sum_le (n := 100) (ws := rs) fun z hz => hr z (by rw [e]; exact List.mem_map.mpr ⟨z, hz, rfl⟩)
    rw [l1]
    have h2 : rs.length * 100 ≤ 100000 := by omega
    omega
  rcases ea with ea | ea
  · walk_at "u"
    walk_at "na"
    intro tp H1 f1 e1 k1
    walk_at "u"
    refine s_isSeq (.lst (by walk_at "g")) e1 ?_
    have ea1 : H1 a = some (.lst vs) := by walk_at "g"
    have hD1 := hD.kp k1
    walk_at "u"
    refine s_isqL ea1 ?_
    intro D hDn
    refine lc_L ea1 hDn (fun i acc H' => Kp [D] H1 H' ∧ ∃ rs : List Str, acc = rs.map V.str ∧ rs.map some = os.take i) (fun H2 e2 k2 => ⟨by walk_at "k", [], rfl, by simp⟩) (fun i acc H' p o e => p.1.get1 e (by walk_at "ne")) ?_ ?_
    · rintro i x acc H2 ex ea2 ⟨k2, rs, rfl, hrs⟩
      have hi := (List.getElem?_eq_some_iff.mp ex).1
      obtain ⟨o, eo, dr⟩ := hD1.at_ ex
      have dr2 : Dr H2 x o := dr.kp (k2.drop hDn)
      walk_at "u"
      refine ⟨rfl, ?_⟩
      walk_at "u"
      refine c_dtr dr2 (fun r er H3 k3 => ?_) fun er => ?_
      · have lrs : rs.length = i := by
          have := congrArg List.length hrs
          rw [List.length_map, List.length_take] at this
          omega
        refine PvD.add (acc := rs.map V.str) (by walk_at "g") (by rw [List.length_map]; omega) fun H4 e4 k4 => ⟨by walk_at "k", rs ++ [r], by simp, ?_⟩
        rw [take_one eo, List.map_append, hrs, er]
        rfl
      · exact (kE i x ex (by rw [eo, er]) (nd hrs)).kp (k1.trans (k2.drop hDn))
    · rintro acc H2 eD q
      walk_at "u"
      exact fin k1 hDn eD q _ fun rs H3 e k3 => by walk_at "u"; exact k rs e H3 k3
  · walk_at "u"
    walk_at "na"
    intro tp H1 f1 e1 k1
    walk_at "u"
    refine s_isSeq (.tup (by walk_at "gt")) e1 ?_
    have ea1 : H1 a = some (.tup vs) := by walk_at "gt"
    have hD1 := hD.kp k1
    walk_at "u"
    refine s_isqT ea1 ?_
    intro D hDn
    refine lc_T ea1 hDn (fun i acc H' => Kp [D] H1 H' ∧ ∃ rs : List Str, acc = rs.map V.str ∧ rs.map some = os.take i) (fun H2 e2 k2 => ⟨by walk_at "k", [], rfl, by simp⟩) (fun i acc H' p xs e => p.1.tgt e) ?_ ?_
    · rintro i x acc H2 ex ea2 ⟨k2, rs, rfl, hrs⟩
      have hi := (List.getElem?_eq_some_iff.mp ex).1
      obtain ⟨o, eo, dr⟩ := hD1.at_ ex
      have dr2 : Dr H2 x o := dr.kp (k2.drop hDn)
      walk_at "u"
      refine ⟨rfl, ?_⟩
      walk_at "u"
      refine c_dtr dr2 (fun r er H3 k3 => ?_) fun er => ?_
      · have lrs : rs.length = i := by
          have := congrArg List.length hrs
          rw [List.length_map, List.length_take] at this
          omega
        refine PvD.add (acc := rs.map V.str) (by walk_at "g") (by rw [List.length_map]; omega) fun H4 e4 k4 => ⟨by walk_at "k", rs ++ [r], by simp, ?_⟩
        rw [take_one eo, List.map_append, hrs, er]
        rfl
      · exact (kE i x ex (by rw [eo, er]) (nd hrs)).kp (k1.trans (k2.drop hDn))
    · rintro acc H2 eD q
      walk_at "u"
      exact fin k1 hDn eD q _ fun rs H3 e k3 => by walk_at "u"; exact k rs e H3 k3
/-! .. and what they write -/
def rdD (r : Str) : Option (List V) := deedOf (Txt.split r " ")
def RowOk (r : Str) : Prop := AS r ∧ r.length ≤ 1000
theorem split_manyS {z a : Str} (h : 1 ≤ a.length) : (Txt.split z a).length ≤ z.length + 1 := by
  have := join_many (a := a) h (Txt.split z a)
  rwa [StrLaws.join_split] at this
def sp_rows_read (T : Tx K mg w) : Sp := sp2 fun x y H Q E => ∃ (a : Addr) (zs : List Str) (f : Int), x = .ref a ∧ y = .int f ∧ H a = some (.lst (zs.map V.str)) ∧ zs.length ≤ 100000 ∧ (∀ r ∈ zs, RowOk r) ∧
  (∀ xss : List (List V), zs.map rdD = xss.map some → ∀ l vs H', H l = none → H' l = some (.lst vs) → Rw H' vs xss → Kp [] H H' → Q (.ref l) H') ∧ (∀ (j : Nat) (r : Str), zs[j]? = some r → rdD r = none → (∀ (m : Nat) (r : Str), m < j → zs[m]? = some r → rdD r ≠ none) → ErF "row" T.C_NoText (.int (f + j)) H E)
set_option maxHeartbeats 16000000 in
theorem ok_rows_read (T : Tx K mg w) : FnOk P w K mg base (L2.CX P w) 5 T.a_rows_read T.d_rows_read ["rows", "first"] (sp_rows_read T) := by
  have G_deed_of := ok_deed_of (P := P) (w := w) (base := base) T
  have G_NoText_init := ok_NoText_init (P := P) (w := w) (base := base) T
  refine T.F_rows_read.okX sc_rows_read (fun vs H Q E h => ?_) (fun cd A o s H vs Q E hr h => ?_)
  · obtain ⟨v0, v1, rfl, h⟩ := h; rfl
  obtain ⟨v0, v1, rfl, h⟩ := h
  obtain ⟨a, zs, f, rfl, rfl, ea, hl, hz, k, kE⟩ := h
  refine ⟨_, (pss_cons (ps_set (i := 2) sc_rows_read.nd rfl (Or.inl rfl) (pe_lst pa_nil))
    (pss_cons (ps_for PassesOwn.leaving rfl (pi_enumL (K := K) rfl rfl T.z_enumerate (pa_cons (pv 0) pa_nil)) (pg_tupK (K := K) (n := 2) rfl rfl (pgs_cons (pg_name (i := 3) sc_rows_read.nd rfl (Or.inl rfl)) (pgs_cons (pg_name (i := 4) sc_rows_read.nd rfl (Or.inl rfl)) pgs_nil)))
    (pss_cons (ps_set (i := 5) sc_rows_read.nd rfl (Or.inl rfl) (pe_co G_deed_of (hr.mono (by decide)) rfl T.m_deed_of T.F_deed_of.kp T.B_deed_of (takes_of (E := E) rfl rfl rfl rfl) (pa_cons (pe_split (pv 4) pe_str) pa_nil)))
    (pss_cons (ps_if (pt_cmpR o_is (pv 5) pe_non (nomark _))
    (pss_one (ps_rz rfl T.er_NoText.oex T.er_NoText.iC T.er_NoText.tI G_NoText_init (hr.mono (by decide)) T.B_NoText_init rfl T.m_NoText (takes_of (E := E) rfl rfl rfl rfl) (pe_op (o_add (K := K) rfl) (pv 1) (pv 3))))
    pss_nil)
    (pss_one (ps_expr (pe_bm PySem.F.plainAttrs_list PySem.F.slot_list_append PySem.F.type_list_append mt_append (pv 2) (pa_cons (pv 5) pa_nil)))))))
    (pss_one (ps_ret (pv 2))))), ?_⟩
  rw [st_rows_read]
  walk_at "u"
  walk_at "na"
  intro l H1 f1 e1 k1
  have ea1 : H1 a = some (.lst (zs.map V.str)) := by walk_at "g"
  have na : a ≠ l := by walk_at "ne"
  have fz : Fz H l := ⟨by walk_at "f"⟩
  have z1 : Kz [] H H1 := ⟨k1⟩
  clear k1 f1
  walk_at "u"
  refine for_eL ea1 (fun i σ H' => Kp [] H H' ∧ Kp [l] H1 H' ∧ (∃ (vs : List V) (xss : List (List V)), H' l = some (.lst vs) ∧ Rw H' vs xss ∧ (zs.take i).map rdD = xss.map some ∧ vs.length ≤ i) ∧ ∃ u3 u4 u5, σ = [some (.ref a), some (.int f), some (.ref l), u3, u4, u5]) ⟨z1.k, Kp.refl, ⟨[], [], e1, .nil, by simp, by simp⟩, _, _, _, rfl⟩ (fun i σ' H' q o e => q.2.1.get1 e na) ?_ ?_
  · rintro i x σ H2 u H3 ex ⟨k02, k12, ⟨vs, xss, el, R, hx, lv⟩, u3, u4, u5, rfl⟩ fu eu k3
    rw [List.getElem?_map] at ex
    obtain ⟨r, er, rfl⟩ := Option.map_eq_some_iff.mp ex
    have hi := (List.getElem?_eq_some_iff.mp er).1
    obtain ⟨as, lr⟩ := hz r (List.mem_of_getElem? er)
    have z12 : Kz [l] H1 H2 := ⟨k12⟩
    clear k12
    walk_at "u"
    refine s_spl3 (z := r) (sep := " ") (by decide +kernel) (zle (by omega)) rfl fun l4 H4 f4 e4 k4 => ?_
    walk_at "u"
    refine ⟨_, rfl, l4, _, rfl, e4, split_ne, by have := split_manyS (z := r) (a := " ") (by decide +kernel); omega, fun w hw => ⟨split_as as hw, Nat.le_trans (split_le hw) lr, fun c hc => Nat.lt_trans (split_as as hw c hc) (by omega)⟩, fun xs exs t H5 f5 e5 k5 => ?_, fun exs H5 k5 => ?_⟩
    · walk_at "u"
      refine s_app (xs := vs) (by walk_at "g") (zlt (by omega)) fun H6 e6 k6 => ?_
      walk_at "u"
      have kk : Kp [l] H2 H6 := by walk_at "k"
      refine ⟨Kp.step k02 kk (by simp [fz.f]), z12.k.trans kk, ⟨_, xss ++ [xs], e6, ((((R.kp k3).kp k4).kp k5).kp k6).app (.one (k6.tgt e5)), ?_, by simp; omega⟩, _, _, _, rfl⟩
      rw [take_one er, List.map_append, hx, List.map_append]
      show _ ++ [rdD r] = _
      rw [show rdD r = some xs from exs]
      rfl
    · walk_at "u"
      refine (kE i r er exs fun m r' hm er' hn => ?_).kp (((k02.trans k3).trans k4).trans k5)
      have : ((zs.take i).map rdD)[m]? = some (rdD r') := by rw [List.getElem?_map, List.getElem?_take, if_pos hm, er']; rfl
      rw [hx, hn, List.getElem?_map] at this
      obtain ⟨y, _, z⟩ := Option.map_eq_some_iff.mp this
      cases z
  · rintro σ H2 ⟨k02, k12, ⟨vs, xss, el, R, hx, lv⟩, u3, u4, u5, rfl⟩
    rw [List.take_of_length_le (by simp)] at hx
    walk_at "u"
    exact k xss hx l vs H2 fz.f el R k02
def rwsD (z : Str) : List Str := if z = "" then [] else Txt.split z "\n"
def LogOk (z : Str) : Prop := z.length ≤ 90000 ∧ ∀ r ∈ rwsD z, RowOk r
def sp_read_log (T : Tx K mg w) : Sp := sp1 fun x H Q E => (∃ t, TyN H x t ∧ t ≠ .str ∧ ErF "row" T.C_NoText (.int 0) H E) ∨
  ∃ z, x = .str z ∧ LogOk z ∧ (∀ xss : List (List V), (rwsD z).map rdD = xss.map some → ∀ l vs H', H l = none → H' l = some (.lst vs) → Rw H' vs xss → Kp [] H H' → Q (.ref l) H') ∧
    (∀ (j : Nat) (r : Str), (rwsD z)[j]? = some r → rdD r = none → (∀ (m : Nat) (r : Str), m < j → (rwsD z)[m]? = some r → rdD r ≠ none) → ErF "row" T.C_NoText (.int (1 + (j : Int))) H E)
set_option maxHeartbeats 16000000 in
theorem ok_read_log (T : Tx K mg w) : FnOk P w K mg base (L2.CX P w) 6 T.a_read_log T.d_read_log ["text"] (sp_read_log T) := by
  have G_rows_read := ok_rows_read (P := P) (w := w) (base := base) T
  have G_NoText_init := ok_NoText_init (P := P) (w := w) (base := base) T
  refine T.F_read_log.okX sc_read_log (fun vs H Q E h => ?_) (fun cd A o s H vs Q E hr h => ?_)
  · obtain ⟨v0, rfl, h⟩ := h; rfl
  obtain ⟨v0, rfl, h⟩ := h
  refine ⟨_, (pss_cons (ps_if (pt_not (pt_val (pe_callB (c_isi (K := K) rfl) rfl T.z_isinstance bt_isinstance (pa_cons (pv 0) (pa_cons (pe_ty rfl T.z_str bt_str) pa_nil)))))
    (pss_one (ps_rz rfl T.er_NoText.oex T.er_NoText.iC T.er_NoText.tI G_NoText_init (hr.mono (by decide)) T.B_NoText_init rfl T.m_NoText (takes_of (E := E) rfl rfl rfl rfl) pe_int))
    pss_nil)
    (pss_cons (ps_if (pt_cmpR (o_eq (K := K) rfl hr) (pv 0) pe_str (nomark _))
    (pss_one (ps_ret (pe_lst pa_nil)))
    pss_nil)
    (pss_one (ps_ret (pe_co G_rows_read (hr.mono (by decide)) rfl T.m_rows_read T.F_rows_read.kp T.B_rows_read (takes_of (E := E) rfl rfl rfl rfl) (pa_cons (pe_split (pv 0) pe_str) (pa_cons pe_int pa_nil))))))), ?_⟩
  rw [st_read_log]
  rcases h with ⟨t, ht, hn, k⟩ | ⟨z, rfl, ⟨lz, hz⟩, k, kE⟩
  · cases ht <;> walk_at "u"
    all_goals first
      | exact k
      | exact (hn rfl).elim
  walk_at "u"
  refine s_ite (fun h => ?_) (fun h => ?_)
  · have e : rwsD z = [] := if_pos h
    walk_at "u"
    walk_at "na"
    intro l H1 f1 e1 k1
    walk_at "u"
    exact k [] (by rw [e]; rfl) l [] H1 f1 e1 .nil k1
  · have e : rwsD z = Txt.split z "\n" := if_neg h
    rw [e] at hz k kE
    walk_at "u"
    refine s_spl3 (z := z) (sep := "\n") (by decide +kernel) (zle (by omega)) rfl fun l H1 f1 e1 k1 => ?_
    walk_at "u"
    refine ⟨_, _, rfl, l, _, 1, rfl, rfl, e1, by have := split_manyS (z := z) (a := "\n") (by decide +kernel); omega, hz, fun xss hx l2 vs H2 f2 e2 R k2 => ?_, fun j r er hn hm => (kE j r er hn hm).kp k1⟩
    walk_at "u"
    exact k xss hx l2 vs H2 (k1.dom l2 f2) e2 R (k1.trans k2)

/-! rows and texts that may be read -/
def RowN (m : Nat) (y : Str) : Prop := (∀ c ∈ y.cps.toList, c < 128 ∧ c ≠ 10) ∧ y.length ≤ m
theorem RowN.mono {m n : Nat} {y : Str} (h : RowN m y) (e : m ≤ n) : RowN n y := ⟨h.1, Nat.le_trans h.2 e⟩
theorem RowN.ok {m : Nat} {y : Str} (h : RowN m y) (e : m ≤ 1000) : RowOk y := ⟨fun c hc => (h.1 c hc).1, Nat.le_trans h.2 e⟩
theorem app_lenD (a b : Str) : (a ++ b).length = a.length + b.length := by simp [Str.length, Str.cps_append]
def LogN (z : Str) : Prop := LogOk z ∧ (rwsD z).length ≤ 1000
theorem nl_1 : ("\n" : Str).length = 1 ∧ (" " : Str).length = 1 := by decide +kernel
/-- a text of rows writes these rows, or none where it is without signs -/
theorem rws_join {ys : List Str} (h : ∀ y ∈ ys, RowN 1000 y) : rwsD (Txt.join "\n" ys) = [] ∨ rwsD (Txt.join "\n" ys) = ys := by
  unfold rwsD
  split
  · exact Or.inl rfl
  · rename_i hn
    refine Or.inr ?_
    have hne : ys ≠ [] := by
      rintro rfl
      exact hn (by rw [tj]; rfl)
    rw [nl_eq]
    exact split_join hne fun w hw hc => ((h w hw).1 10 hc).2 rfl
theorem logN_of {ys : List Str} {m : Nat} (h : ∀ y ∈ ys, RowN m y) (hm : m ≤ 200) (hl : ys.length ≤ 400) : LogN (Txt.join "\n" ys) := by
  have l := join_len (a := "\n") (ws := ys) (n := 200) (fun w hw => Nat.le_trans (h w hw).2 hm)
  rw [nl_1.1] at l
  have l2 : ys.length * (200 + 1) ≤ 400 * 201 := Nat.mul_le_mul_right _ hl
  have hr := rws_join (ys := ys) fun y hy => (h y hy).mono (by omega)
  refine ⟨⟨by omega, fun r hr' => ?_⟩, ?_⟩
  · rcases hr with e | e
    · rw [e] at hr'; cases hr'
    · rw [e] at hr'; exact (h r hr').ok (by omega)
  · rcases hr with e | e <;> rw [e]
    · simp
    · omega
theorem Good.rowN {w : Str} {ps : List V} {fs : List Str} (g : Good w ps fs) : RowN 100 (Txt.join " " (w :: fill fs ps)) := by
  refine ⟨fun c hc => ?_, g.len100⟩
  rcases join_mem hc with h | ⟨z, hz, h⟩
  · rw [sp_eq] at h
    simp at h
    omega
  · have := g.wd z hz c h
    exact ⟨this.2.2, this.2.1⟩
/-- the parts of a good deed -/
def GdX (xs : List V) : Prop := ∃ w ps fs, xs = V.str w :: ps ∧ Good w ps fs
theorem GdX.row {xs : List V} (h : GdX xs) : RowN 100 (rowOf xs) ∧ rdD (rowOf xs) = some xs ∧ rowOf xs ≠ "" := by
  obtain ⟨w, ps, fs, rfl, g⟩ := h
  rw [g.row]
  have e : rdD (Txt.join " " (w :: fill fs ps)) = some (V.str w :: ps) := by
    unfold rdD
    rw [g.split]
    exact g.deedOf
  refine ⟨g.rowN, e, fun z => ?_⟩
  have l1 := congrArg Str.length z
  have l2 := join_ge (a := " ") (ws := w :: fill fs ps) List.mem_cons_self
  rw [← tj, l1] at l2
  have wl := forms_words _ (lk_key g.lk)
  have : w.length = 0 := by
    have : ("" : Str).length = 0 := by decide +kernel
    omega
  have hw : w = "" := by
    have e0 : w.cps.toList = [] := List.length_eq_zero_iff.mp (by rw [Array.length_toList]; exact this)
    exact Str.ext' (by rw [Array.toList_eq_nil_iff.mp e0]; rfl)
  have hl := g.lk
  rw [hw] at hl
  have : lk l_FORMS "" = none := by decide +kernel
  rw [this] at hl
  cases hl
theorem GdX.fl {xs : List V} (h : GdX xs) : (∀ x ∈ xs, Fl x) ∧ xs.length ≤ 6 := by
  obtain ⟨w, ps, fs, rfl, g⟩ := h
  exact ⟨g.fl, g.lps⟩
theorem GdX.isDeed {xs : List V} (h : GdX xs) : K75.isDeed xs = true := by
  obtain ⟨w, ps, fs, rfl, g⟩ := h
  exact g.isDeed
theorem readF_fl : ∀ {fs ws : List Str} {qs : List V}, readF fs ws = some qs → (∀ q ∈ qs, Fl q) ∧ qs.length ≤ fs.length
  | [], [], qs, h => by cases h; exact ⟨by simp, Nat.le_refl _⟩
  | [], _ :: _, qs, h => by cases h
  | _ :: _, [], qs, h => by cases h
  | f :: fs, w :: ws, qs, h => by
    simp only [readF] at h
    split at h
    · split at h
      · cases h
      · rename_i hn
        obtain ⟨rs, e, rfl⟩ := Option.map_eq_some_iff.mp h
        obtain ⟨a1, a2⟩ := readF_fl e
        refine ⟨fun q hq => ?_, by simp; omega⟩
        rcases List.mem_cons.mp hq with rfl | hq
        · cases hb : isPart f (wordV f w) with
          | true => rw [partV_of hb]; exact part_fl hb
          | false => exact (hn (partV_no hb)).elim
        · exact a1 q hq
    · split at h
      · obtain ⟨a1, a2⟩ := readF_fl h
        exact ⟨a1, by simp; omega⟩
      · cases h
theorem deedOf_fl {ws : List Str} {xs : List V} (h : deedOf ws = some xs) : (∀ x ∈ xs, Fl x) ∧ xs.length ≤ 6 := by
  rcases deedOf_len h with e | ⟨fs, w, r, rfl, e, hl, qs, er, rfl⟩
  · have : ws = [] := List.length_eq_zero_iff.mp e
    subst this
    cases h
  · obtain ⟨a1, a2⟩ := readF_fl er
    have l5 := lk_len e
    refine ⟨fun x hx => ?_, by simp; omega⟩
    rcases List.mem_cons.mp hx with rfl | hx
    · have lw := forms_words _ (lk_key e)
      have a := List.all_eq_true.mp (forms_wd _ (lk_key e))
      have := wd_of (a _ List.mem_cons_self)
      exact Or.inl ⟨w, rfl, Nat.le_trans lw.1 (by omega), fun c hc => Nat.lt_trans (this c hc).2.2 (by omega)⟩
    · exact a1 x hx
theorem rdD_fl {r : Str} {xs : List V} (h : rdD r = some xs) : (∀ x ∈ xs, Fl x) ∧ xs.length ≤ 6 := deedOf_fl h
/-! deeds as data -/
def dX (xs : List V) : PyData := .tuple (xs.map dV)
def FlX (xs : List V) : Prop := (∀ x ∈ xs, Fl x) ∧ xs.length ≤ 6
theorem fl_lay : ∀ {xs : List V}, (∀ x ∈ xs, Fl x) → PyData.canLayAll0 (xs.map dV) = true
  | [], _ => rfl
  | x :: xs, h => by
    have ih := fl_lay fun y hy => h y (List.mem_cons_of_mem _ hy)
    rcases h x List.mem_cons_self with ⟨z, rfl, hz⟩ | ⟨n, rfl, _⟩
    · have := (lay_strs (zs := [z]) fun y hy => by rw [List.mem_singleton.mp hy]; exact hz.ok).1
      simp only [List.map_cons, List.map_nil, PyData.canLayAll0, Bool.and_true] at this
      simp only [List.map_cons, dV, PyData.canLayAll0, this, ih, Bool.and_self]
    · simp only [List.map_cons, dV, PyData.canLayAll0, PyData.canLay0, ih, Bool.and_self]
theorem dX_dn {H : Hp} {t : Addr} {xs : List V} (e : H t = some (.tup xs)) (h : FlX xs) : Dn K H (.ref t) (dX xs) := .tup (SqT.of e) (fl_dn h.1)
theorem dX_ok {xs : List V} (h : FlX xs) : U.good (dX xs) ∧ (dX xs).depth ≤ 4 ∧ U.sz (dX xs) ≤ 6003 ∧ (dX xs).canLay0 = true := by
  obtain ⟨a1, a2, a3⟩ := fl_ok h.1
  have := h.2
  refine ⟨a1, ?_, ?_, fl_lay h.1⟩
  · unfold dX; simp only [PyData.depth]; omega
  · unfold dX; simp only [U.sz]; omega
/-- what stands in the place of a row: a deed or nothing -/
def dO : Option (List V) → PyData | some xs => dX xs | none => .none
inductive Ro (H : Hp) : List V → List (Option (List V)) → Prop
  | nil : Ro H [] []
  | non {vs : List V} {os : List (Option (List V))} : Ro H vs os → Ro H (.non :: vs) (none :: os)
  | som {t : Addr} {xs : List V} {vs : List V} {os : List (Option (List V))} : H t = some (.tup xs) → FlX xs → Ro H vs os → Ro H (.ref t :: vs) (some xs :: os)
theorem Ro.kp {H H1 : Hp} {ps : List Addr} {vs : List V} {os : List (Option (List V))} (h : Ro H vs os) (k : Kp ps H H1) : Ro H1 vs os := by
  induction h with
  | nil => exact .nil
  | non _ ih => exact .non ih
  | som e f _ ih => exact .som (k.tgt e) f ih
theorem Ro.app {H : Hp} {vs vs2 : List V} {os os2 : List (Option (List V))} (h : Ro H vs os) (g : Ro H vs2 os2) : Ro H (vs ++ vs2) (os ++ os2) := by
  induction h with
  | nil => exact g
  | non _ ih => exact .non ih
  | som e f _ ih => exact .som e f ih
theorem Ro.len {H : Hp} {vs : List V} {os : List (Option (List V))} (h : Ro H vs os) : vs.length = os.length := by
  induction h with
  | nil => rfl
  | non _ ih => simp [ih]
  | som _ _ _ ih => simp [ih]
theorem Ro.dn {H : Hp} {vs : List V} {os : List (Option (List V))} (h : Ro H vs os) : DnA K H vs (os.map dO) := by
  induction h with
  | nil => exact .nil
  | non _ ih => exact .cons .non ih
  | som e f _ ih => exact .cons (dX_dn e f) ih
theorem Ro.lay {H : Hp} {vs : List V} {os : List (Option (List V))} (h : Ro H vs os) : PyData.canLayAll0 (os.map dO) = true ∧ PyData.depthAll (os.map dO) ≤ 4 := by
  induction h with
  | nil => exact ⟨rfl, by simp [PyData.depthAll]⟩
  | non _ ih => exact ⟨by simp only [List.map_cons, dO, PyData.canLayAll0, PyData.canLay0, ih.1, Bool.and_self], by simp only [List.map_cons, dO, PyData.depthAll, PyData.depth]; omega⟩
  | som e f _ ih =>
    obtain ⟨a1, a2, a3, a4⟩ := dX_ok f
    exact ⟨by simp only [List.map_cons, dO, PyData.canLayAll0, a4, ih.1, Bool.and_self], by simp only [List.map_cons, dO, PyData.depthAll]; omega⟩
theorem Ro.shp {H : Hp} {vs : List V} {os : List (Option (List V))} (h : Ro H vs os) : SeqAt.shaped (.list (os.map dO)) = true := by
  obtain ⟨a, b⟩ := h.lay
  unfold SeqAt.shaped
  rw [Bool.and_eq_true]
  exact ⟨a, decide_eq_true (by simp only [PyData.depth]; omega)⟩
theorem Ro.rw {H : Hp} {vs : List V} : ∀ {xss : List (List V)}, Ro H vs (xss.map some) → Rw H vs xss ∧ ∀ xs ∈ xss, FlX xs := by
  intro xss
  induction xss generalizing vs with
  | nil => intro h; cases h; exact ⟨.nil, by simp⟩
  | cons x xss ih =>
    intro h
    cases h with
    | som e f h =>
      obtain ⟨a, b⟩ := ih h
      exact ⟨.cons e a, fun y hy => (List.mem_cons.mp hy).elim (fun z => z ▸ f) (b y)⟩
theorem rw_dX {H : Hp} {vs : List V} {xss : List (List V)} (h : Rw H vs xss) (f : ∀ xs ∈ xss, FlX xs) : DnA K H vs (xss.map dX) := by
  induction h with
  | nil => exact .nil
  | cons e _ ih => exact .cons (dX_dn e (f _ List.mem_cons_self)) (ih fun x hx => f x (List.mem_cons_of_mem _ hx))
theorem dXs_ok : ∀ {xss : List (List V)}, (∀ xs ∈ xss, FlX xs) → goodA (xss.map dX) ∧ PyData.depthAll (xss.map dX) ≤ 4 ∧ szA (xss.map dX) ≤ 6005 * xss.length ∧ PyData.canLayAll0 (xss.map dX) = true
  | [], _ => ⟨trivial, by simp [PyData.depthAll], by simp [szA], rfl⟩
  | xs :: xss, h => by
    obtain ⟨a1, a2, a3, a4⟩ := dXs_ok (xss := xss) fun y hy => h y (List.mem_cons_of_mem _ hy)
    obtain ⟨b1, b2, b3, b4⟩ := dX_ok (h xs List.mem_cons_self)
    refine ⟨⟨b1, a1⟩, ?_, ?_, ?_⟩
    · simp only [List.map_cons, PyData.depthAll]; omega
    · simp only [List.map_cons, szA, List.length_cons]; omega
    · simp only [List.map_cons, PyData.canLayAll0, a4, b4, Bool.and_self]
theorem dXs_shp {xss : List (List V)} (h : ∀ xs ∈ xss, FlX xs) : SeqAt.shaped (.list (xss.map dX)) = true := by
  obtain ⟨a1, a2, a3, a4⟩ := dXs_ok h
  unfold SeqAt.shaped
  rw [Bool.and_eq_true]
  exact ⟨a4, decide_eq_true (by simp only [PyData.depth]; omega)⟩
/-- a list of a word and a thing -/
theorem sh_told {H : Hp} {u l : Addr} {vs : List V} {xss : List (List V)} (e : H u = some (.lst [.str "told", .ref l])) (el : H l = some (.lst vs)) (R : Rw H vs xss) (f : ∀ xs ∈ xss, FlX xs) (hl : xss.length ≤ 1000) : Sh K H (.ref u) (.list [.str "told", .list (xss.map dX)]) := by
  obtain ⟨a1, a2, a3, a4⟩ := dXs_ok f
  have lt : ("told" : Str).length = 4 := by decide +kernel
  have ok : U.good (.str "told") := by
    have : ∀ c ∈ ("told" : Str).cps.toList, c < 4294967296 := by decide +kernel
    exact this
  refine ⟨.lst (Or.inl e) (.cons (.str _) (.cons (.lst (Or.inl el) (rw_dX R f)) .nil)), ⟨ok, a1, trivial⟩, ?_, ?_⟩
  · simp only [PyData.depth, PyData.depthAll]; omega
  · simp only [U.sz, szA, lt]; omega
theorem sh_row {H : Hp} {u : Addr} {i : Int} (e : H u = some (.lst [.str "row", .int i])) (h0 : 0 ≤ i) (h1 : i ≤ 100000) : Sh K H (.ref u) (.list [.str "row", .int i]) := by
  have lt : ("row" : Str).length = 3 := by decide +kernel
  have ok : U.good (.str "row") := by
    have : ∀ c ∈ ("row" : Str).cps.toList, c < 4294967296 := by decide +kernel
    exact this
  refine ⟨.lst (Or.inl e) (.cons (.str _) (.cons (.int _) .nil)), ⟨ok, Nat.lt_of_le_of_lt (show i.natAbs ≤ 1000000 by omega) (by decide +kernel), trivial⟩, ?_, ?_⟩
  · simp only [PyData.depth, PyData.depthAll]; omega
  · simp only [U.sz, szA, lt]; omega

/-! the law's own writing and reading -/
def TwK (H : Hp) (c : Str) (v : V) (Q : VK) : Prop := ∀ u H', H u = none → H' u = some (.lst [.str c, v]) → Kp [] H H' → Q (.ref u) H'
theorem TwK.kp {H H1 : Hp} {c : Str} {v : V} {Q : VK} (h : TwK H c v Q) (k : Kp [] H H1) : TwK H1 c v Q := fun u H' f e k' => h u H' (k.dom u f) e (k.trans k')
def sp_law_wrote (T : Tx K mg w) : Sp := sp1 fun x H Q _ => (∃ t, TyN H x t ∧ t.isSeq = false ∧ TwK H "none" x Q) ∨
  ∃ a vs os, x = .ref a ∧ (H a = some (.lst vs) ∨ H a = some (.tup vs)) ∧ Drs H vs os ∧ vs.length ≤ 1000 ∧ (∀ r, some r ∈ os → r.length ≤ 100) ∧
    (∀ rs, os = rs.map some → TwK H "told" (.str (Txt.join "\n" rs)) Q) ∧ (∀ (j : Nat) (v : V), vs[j]? = some v → os[j]? = some none → (∀ m : Nat, m < j → os[m]? ≠ some none) → TwK H "none" v Q)
set_option maxHeartbeats 16000000 in
theorem ok_law_wrote (T : Tx K mg w) : FnOk P w K mg base (L2.CX P w) 6 T.a_law_wrote T.d_law_wrote ["_law_deeds"] (sp_law_wrote T) := by
  have G_log_text := ok_log_text (P := P) (w := w) (base := base) T
  refine T.F_law_wrote.okX sc_law_wrote (fun vs H Q E h => ?_) (fun cd A o s H vs Q E hr h => ?_)
  · obtain ⟨v0, rfl, h⟩ := h; rfl
  obtain ⟨v0, rfl, h⟩ := h
  refine ⟨_, (pss_one (ps_try (K := K) rfl rfl rfl sc_law_wrote.nd (takes_of (E := E) rfl rfl rfl rfl) (fun W pn xe tk po => (pss_one (ps_ret (pe_lst (pa_cons pe_str (pa_cons (pe_co G_log_text (hr.mono (by decide)) rfl T.m_log_text T.F_log_text.kp T.B_log_text tk (pa_cons (pv 0) pa_nil)) pa_nil))))))
    (ClOk.as (i := 1) ⟨rfl, by decide, Or.inl T.m_NoDeed⟩ rfl rfl (fun a oe cls d pn hz hf => (pss_one (ps_ret (pe_lst (pa_cons pe_str (pa_cons (pe_xe T.er_NoDeed hz hf (pv 1)) pa_nil))))))
    (ClOk.only ⟨rfl, by decide, Or.inl T.m_StaffError⟩ (fun a oe cls d pn hz hf => (pss_one (ps_ret (pe_lst (pa_cons pe_str pa_nil)))))
    ClOk.nil)))), ?_⟩
  rw [st_law_wrote]
  walk_at "u"
  rcases h with ⟨t, ht, hn, k⟩ | ⟨a, vs, os, rfl, ea, hD, hl, hr, k, kE⟩
  · refine ⟨_, rfl, Or.inl ⟨t, ht, hn, ?_⟩⟩
    intro dd H2 f2 e2 k2
    refine ⟨true, T.ex_NoDeed_NoDeed, fun _ ea fa => ?_, fun z => (by cases z)⟩
    walk_at "u"
    refine s_xek e2 rfl ?_
    walk_at "u"
    walk_at "na"
    intro u H3 f3 e3 k3
    simp only [endS, dropS, putS]
    walk_at "u"
    exact k u H3 (k2.dom u f3) e3 (k2.trans k3)
  · refine ⟨_, rfl, Or.inr ⟨a, vs, os, rfl, ea, hD, hl, hr, fun rs e H1 k1 => ?_, fun j v e1 e2 e3 => ?_⟩⟩
    · walk_at "u"
      walk_at "na"
      intro u H3 f3 e3 k3
      walk_at "u"
      exact k rs e u H3 (k1.dom u f3) e3 (k1.trans k3)
    · have kB := kE j v e1 e2 e3
      clear e1 e2 e3
      intro dd H2 f2 e2 k2
      refine ⟨true, T.ex_NoDeed_NoDeed, fun _ ea fa => ?_, fun z => (by cases z)⟩
      walk_at "u"
      refine s_xek e2 rfl ?_
      walk_at "u"
      walk_at "na"
      intro u H3 f3 e3 k3
      simp only [endS, dropS, putS]
      walk_at "u"
      exact kB u H3 (k2.dom u f3) e3 (k2.trans k3)
/-- what is told of a text -/
def SpD (x : V) (H : Hp) (Q : VK) : Prop := (∃ t, TyN H x t ∧ t ≠ .str ∧ TwK H "row" (.int 0) Q) ∨
  ∃ z, x = .str z ∧ LogN z ∧ (∀ xss : List (List V), (rwsD z).map rdD = xss.map some → ∀ u l vs H', H u = none → H l = none → u ≠ l → H' u = some (.lst [.str "told", .ref l]) → H' l = some (.lst vs) → Rw H' vs xss → Kp [] H H' → Q (.ref u) H') ∧
    (∀ (j : Nat) (r : Str), (rwsD z)[j]? = some r → rdD r = none → (∀ (m : Nat) (r : Str), m < j → (rwsD z)[m]? = some r → rdD r ≠ none) → TwK H "row" (.int (1 + (j : Int))) Q)
def sp_law_read (T : Tx K mg w) : Sp := sp1 fun x H Q _ => SpD x H Q
set_option maxHeartbeats 16000000 in
theorem ok_law_read (T : Tx K mg w) : FnOk P w K mg base (L2.CX P w) 7 T.a_law_read T.d_law_read ["_law_text"] (sp_law_read T) := by
  have G_read_log := ok_read_log (P := P) (w := w) (base := base) T
  refine T.F_law_read.okX sc_law_read (fun vs H Q E h => ?_) (fun cd A o s H vs Q E hr h => ?_)
  · obtain ⟨v0, rfl, h⟩ := h; rfl
  obtain ⟨v0, rfl, h⟩ := h
  refine ⟨_, (pss_one (ps_try (K := K) rfl rfl rfl sc_law_read.nd (takes_of (E := E) rfl rfl rfl rfl) (fun W pn xe tk po => (pss_one (ps_ret (pe_lst (pa_cons pe_str (pa_cons (pe_co G_read_log (hr.mono (by decide)) rfl T.m_read_log T.F_read_log.kp T.B_read_log tk (pa_cons (pv 0) pa_nil)) pa_nil))))))
    (ClOk.as (i := 1) ⟨rfl, by decide, Or.inl T.m_NoText⟩ rfl rfl (fun a oe cls d pn hz hf => (pss_one (ps_ret (pe_lst (pa_cons pe_str (pa_cons (pe_xe T.er_NoText hz hf (pv 1)) pa_nil))))))
    (ClOk.only ⟨rfl, by decide, Or.inl T.m_StaffError⟩ (fun a oe cls d pn hz hf => (pss_one (ps_ret (pe_lst (pa_cons pe_str pa_nil)))))
    ClOk.nil)))), ?_⟩
  rw [st_law_read]
  walk_at "u"
  rcases h with ⟨t, ht, hn, k⟩ | ⟨z, rfl, hz, k, kE⟩
  · refine ⟨_, rfl, Or.inl ⟨t, ht, hn, ?_⟩⟩
    intro dd H2 f2 e2 k2
    refine ⟨true, T.ex_NoText_NoText, fun _ ea fa => ?_, fun z => (by cases z)⟩
    walk_at "u"
    refine s_xek e2 rfl ?_
    walk_at "u"
    walk_at "na"
    intro u H3 f3 e3 k3
    simp only [endS, dropS, putS]
    walk_at "u"
    exact k u H3 (k2.dom u f3) e3 (k2.trans k3)
  · refine ⟨_, rfl, Or.inr ⟨z, rfl, hz.1, fun xss hx l vs H1 f1 e1 R k1 => ?_, fun j r e1 e2 e3 => ?_⟩⟩
    · walk_at "u"
      walk_at "na"
      intro u H3 f3 e3 k3
      have nl : u ≠ l := fun z => by rw [z, e1] at f3; cases f3
      walk_at "u"
      exact k xss hx u l vs H3 (k1.dom u f3) f1 nl e3 (k3.get0 e1) (R.kp k3) (k1.trans k3)
    · have kB := kE j r e1 e2 e3
      clear e1 e2 e3
      intro dd H2 f2 e2 k2
      refine ⟨true, T.ex_NoText_NoText, fun _ ea fa => ?_, fun z => (by cases z)⟩
      walk_at "u"
      refine s_xek e2 rfl ?_
      walk_at "u"
      walk_at "na"
      intro u H3 f3 e3 k3
      simp only [endS, dropS, putS]
      walk_at "u"
      exact kB u H3 (k2.dom u f3) e3 (k2.trans k3)
/-- the rows' deeds: all, or the first row that is none -/
theorem some_injD {α : Type} : ∀ {xs ys : List α}, xs.map some = ys.map some → xs = ys
  | [], [], _ => rfl
  | [], _ :: _, h => by cases h
  | _ :: _, [], h => by cases h
  | x :: xs, y :: ys, h => by
    rw [List.map_cons, List.map_cons, List.cons.injEq] at h
    rw [Option.some.inj h.1, some_injD h.2]
theorem all_or_none : ∀ (os : List (Option (List V))), (∃ xss : List (List V), os = xss.map some) ∨ ∃ j : Nat, os[j]? = some none ∧ ∀ m : Nat, m < j → os[m]? ≠ some none
  | [] => Or.inl ⟨[], rfl⟩
  | none :: os => Or.inr ⟨0, rfl, by intro m h; omega⟩
  | some x :: os => by
    rcases all_or_none os with ⟨xss, e⟩ | ⟨j, e, h⟩
    · exact Or.inl ⟨x :: xss, by rw [e]; rfl⟩
    · refine Or.inr ⟨j + 1, e, fun m hm => ?_⟩
      cases m with
      | zero => simp
      | succ m => rw [List.getElem?_cons_succ]; exact h m (by omega)
theorem eqv_dO (o : Option (List V)) : PyData.eqv (dO o) .none = o.isNone := by cases o <;> rfl
theorem any_non (os : List (Option (List V))) : ((os.map dO).any fun z => PyData.eqv z .none) = os.any Option.isNone := by
  rw [List.any_map]
  congr 1
  funext o
  exact eqv_dO o
def sp_law_read_due (K : PySem.W.Frag) : Sp := sp1 fun x H Q _ => SpD x H Q
set_option maxHeartbeats 16000000 in
theorem ok_law_read_due (T : Tx K mg w) : FnOk P w K mg base (L2.CX P w) 4 T.a_law_read_due T.d_law_read_due ["_law_text"] (sp_law_read_due K) := by
  have G_law_deed_read := ok_law_deed_read (P := P) (w := w) (base := base) T
  refine T.F_law_read_due.okX sc_law_read_due (fun vs H Q E h => ?_) (fun cd A o s H vs Q E hr h => ?_)
  · obtain ⟨v0, rfl, h⟩ := h; rfl
  obtain ⟨v0, rfl, h⟩ := h
  refine ⟨_, (pss_cons (ps_if (pt_not (pt_val (pe_callB (c_isi (K := K) rfl) rfl T.z_isinstance bt_isinstance (pa_cons (pv 0) (pa_cons (pe_ty rfl T.z_str bt_str) pa_nil)))))
    (pss_one (ps_ret (pe_lst (pa_cons pe_str (pa_cons pe_int pa_nil)))))
    pss_nil)
    (pss_cons (ps_set (i := 1) sc_law_read_due.nd rfl (Or.inl rfl) (pe_ifExp (pt_cmpR (o_ne (K := K) rfl hr) (pv 0) pe_str (nomark _)) (pe_split (pv 0) pe_str) (pe_lst pa_nil)))
    (pss_cons (ps_setLc (i := 2) (own := [("_law_row", 3)]) rfl sc_law_read_due.nd rfl rfl (sw_true rfl rfl rfl (by decide +kernel)) (pi_lst (K := K) rfl (pv 1)) (blkOk_by (own := [("_law_row", 3)]) (N := N_law_read_due) (sc := defScope s_law_read_due) (by decide +kernel)) (fun _ _ _ _ _ => (pg_name (i := 3) sc_law_read_due.nd rfl (Or.inl rfl))) (fun _ _ _ _ _ => pts_nil) (fun _ _ _ _ _ => (pe_co G_law_deed_read (hr.mono (by decide)) rfl T.m_law_deed_read T.F_law_deed_read.kp T.B_law_deed_read takes0 (pa_cons (pv 3) pa_nil))))
    (pss_cons (ps_if (pt_cmpR (o_inX (K := K) rfl hr) pe_non (pv 2) rfl)
    (pss_one (ps_ret (pe_lst (pa_cons pe_str (pa_cons (pe_op (o_add (K := K) rfl) (pe_bm PySem.F.plainAttrs_list PySem.F.slot_list_index PySem.F.type_list_index (mt_ixD (K := K) rfl hr) (pv 2) (pa_cons pe_non pa_nil)) pe_int) pa_nil)))))
    pss_nil)
    (pss_one (ps_ret (pe_lst (pa_cons pe_str (pa_cons (pv 2) pa_nil))))))))), ?_⟩
  rw [st_law_read_due]
  rcases h with ⟨t, ht, hn, k⟩ | ⟨z, rfl, ⟨⟨lz, hz⟩, hm⟩, k, kE⟩
  · cases ht <;> walk_at "u"
    all_goals first
      | exact (hn rfl).elim
      | (walk_at "na"
         intro u H1 f1 e1 k1
         walk_at "u"
         exact k u H1 f1 e1 k1)
  walk_at "s"
  refine s_seq ?_
  refine s_ifS ?_
  walk_at "s"
  refine s_seq ?_
  refine s_asg ?_
  refine jE (fun v H1 => Kp [] H H1 ∧ ∃ l, v = .ref l ∧ H1 l = some (.lst ((rwsD z).map V.str)) ∧ H l = none) ?_ ?_
  rotate_left
  · intro Q' key
    walk_at "u"
    refine s_itn (fun h => ?_) (fun h => ?_)
    · walk_at "u"
      refine s_spl3 (z := z) (sep := "\n") (by decide +kernel) (zle (by omega)) (show _ = rwsD z by unfold rwsD; rw [if_neg h]) fun l2 H2 f2 e2 k2 => ?_
      exact key _ _ ⟨k2, l2, rfl, e2, f2⟩
    · walk_at "u"
      walk_at "na"
      intro l2 H2 f2 e2 k2
      exact key _ _ ⟨k2, l2, rfl, by rw [show rwsD z = [] by unfold rwsD; rw [if_pos h]]; exact e2, f2⟩
  rintro v H1 ⟨k1, l, rfl, e1, f1⟩
  generalize rwsD z = rows at *
  walk_at "u"
  refine s_ilst (SqL.of e1) ?_
  intro D hD
  refine lc_L e1 hD (fun i acc H' => Kp [D] H1 H' ∧ Ro H' acc ((rows.take i).map rdD)) (fun H2 e2 k2 => ⟨by walk_at "k", .nil⟩) (fun i acc H' p o e => p.1.get1 e (by walk_at "ne")) ?_ ?_
  · rintro i x acc H2 ex ea ⟨k2, R⟩
    rw [List.getElem?_map] at ex
    obtain ⟨r, er, rfl⟩ := Option.map_eq_some_iff.mp ex
    have hi := (List.getElem?_eq_some_iff.mp er).1
    obtain ⟨as, lr⟩ := hz r (List.mem_of_getElem? er)
    have la : acc.length = i := by rw [R.len, List.length_map, List.length_take]; omega
    walk_at "u"
    refine ⟨rfl, ?_⟩
    walk_at "u"
    refine ⟨_, rfl, r, rfl, as, lr, fun xs exs t H3 e3 k3 => ?_, fun exs H3 k3 => ?_⟩
    · refine PvD.add (acc := acc) (k3.get0 ea) (by omega) fun H4 e4 k4 => ⟨by walk_at "k", ?_⟩
      rw [take_one er, List.map_append]
      refine ((R.kp k3).kp k4).app ?_
      show Ro H4 [.ref t] [rdD r]
      rw [show rdD r = some xs from exs]
      exact .som (k4.tgt e3) (rdD_fl (r := r) exs) .nil
    · refine PvD.add (acc := acc) (k3.get0 ea) (by omega) fun H4 e4 k4 => ⟨by walk_at "k", ?_⟩
      rw [take_one er, List.map_append]
      refine ((R.kp k3).kp k4).app ?_
      show Ro H4 [.non] [rdD r]
      rw [show rdD r = none from exs]
      exact .non .nil
  rintro vs H2 e2 ⟨k2, R⟩
  rw [List.length_map, List.take_of_length_le (Nat.le_refl _)] at R
  have k12 := k2.drop hD
  have z2 : Kz [] H H2 := ⟨k1.trans k12⟩
  have fD : H D = none := k1.dom D hD
  have hDn : Dn K H2 (.ref D) (.list ((rows.map rdD).map dO)) := .lst (Or.inl e2) R.dn
  clear k1 k2 k12 e1 hD
  walk_at "u"
  refine s_inD hDn .non R.shp rfl ?_
  rw [any_non]
  rcases all_or_none (rows.map rdD) with ⟨xss, e⟩ | ⟨j, ej, hj⟩
  · have ha : (rows.map rdD).any Option.isNone = false := by
      rw [e, List.any_map]
      exact List.any_eq_false.mpr fun x _ => by simp
    rw [ha]
    walk_at "u"
    walk_at "na"
    intro u H3 f3 e3 k3
    walk_at "u"
    have R2 : Ro H2 vs (xss.map some) := by rw [← e]; exact R
    have nD : u ≠ D := fun z => by rw [z, e2] at f3; cases f3
    exact k xss e u D vs H3 (z2.k.dom u f3) fD nD e3 (k3.get0 e2) (R2.rw.1.kp k3) (z2.k.trans k3)
  · have ha : (rows.map rdD).any Option.isNone = true := by
      rw [List.any_eq_true]
      exact ⟨none, List.mem_of_getElem? ej, rfl⟩
    rw [ha]
    obtain ⟨r, er, en⟩ : ∃ r, rows[j]? = some r ∧ rdD r = none := by
      rw [List.getElem?_map] at ej
      obtain ⟨r, a, b⟩ := Option.map_eq_some_iff.mp ej
      exact ⟨r, a, b⟩
    walk_at "u"
    refine s_ixD hDn .non R.shp rfl (j := j) (z := .none) (by rw [List.getElem?_map, ej]; rfl) rfl (fun m z' hm hz' => ?_) ?_
    · rw [List.getElem?_map] at hz'
      obtain ⟨o, eo, rfl⟩ := Option.map_eq_some_iff.mp hz'
      rw [eqv_dO]
      cases o with
      | none => exact (hj m hm eo).elim
      | some x => rfl
    walk_at "u"
    walk_at "na"
    intro u H3 f3 e3 k3
    walk_at "u"
    refine kE j r er en (fun m r' hm er' hn => ?_) u H3 (z2.k.dom u f3) (by rw [e3, Int.add_comm]) (z2.k.trans k3)
    exact hj m hm (by rw [List.getElem?_map, er', Option.map_some, hn])

/-! good deeds -/
theorem Fl.small {H : Hp} {x : V} (h : Fl x) : ∃ t, TyN H x t ∧ Small x := h.ty
theorem good_drs {H : Hp} {vs : List V} {xss : List (List V)} (R : Rw H vs xss) (g : ∀ xs ∈ xss, GdX xs) : Drs H vs (xss.map fun xs => some (rowOf xs)) := by
  refine ⟨by rw [List.length_map, R.len], fun {i v} e => ?_⟩
  obtain ⟨u, r, rfl, er, eu⟩ := R.at e
  have gr := g r (List.mem_of_getElem? er)
  exact ⟨_, by rw [List.getElem?_map, er]; rfl, .yes eu (fun v hv => (gr.fl.1 v hv).ty) gr.isDeed⟩
theorem rowsN {xss : List (List V)} (g : ∀ xs ∈ xss, GdX xs) : ∀ y ∈ xss.map rowOf, RowN 100 y := fun y hy => by
  obtain ⟨xs, hx, rfl⟩ := List.mem_map.mp hy
  exact (g xs hx).row.1
theorem rws_good {xss : List (List V)} (g : ∀ xs ∈ xss, GdX xs) : rwsD (Txt.join "\n" (xss.map rowOf)) = xss.map rowOf := by
  rcases rws_join (ys := xss.map rowOf) fun y hy => (rowsN g y hy).mono (by omega) with e | e
  · cases xss with
    | nil => rw [e]; rfl
    | cons xs r =>
      exfalso
      unfold rwsD at e
      split at e
      · rename_i hn
        have l1 := congrArg Str.length hn
        have l2 := join_ge (a := "\n") (ws := (xs :: r).map rowOf) (List.mem_map.mpr ⟨xs, List.mem_cons_self, rfl⟩)
        rw [← tj, l1] at l2
        refine (g xs List.mem_cons_self).row.2.2 ?_
        have l0 : ("" : Str).length = 0 := by decide +kernel
        have e0 : (rowOf xs).cps.toList = [] := List.length_eq_zero_iff.mp (by rw [Array.length_toList]; show (rowOf xs).length = 0; omega)
        exact Str.ext' (by rw [Array.toList_eq_nil_iff.mp e0]; rfl)
      · exact split_ne e
  · exact e
theorem rd_good {xss : List (List V)} (g : ∀ xs ∈ xss, GdX xs) : (xss.map rowOf).map rdD = xss.map some := by
  rw [List.map_map]
  exact List.map_congr_left fun xs hx => (g xs hx).row.2.1
theorem nl_asc : ∀ c ∈ ("\n" : Str).cps.toList, c < 128 := by decide +kernel
theorem sh_wrote {H : Hp} {u : Addr} {c z : Str} (e : H u = some (.lst [.str c, .str z])) (hc : SS c 20) (hz : SS z 100000) : Sh K H (.ref u) (.list [.str c, .str z]) := by
  have := hc.len
  have := hz.len
  refine ⟨.lst (Or.inl e) (.cons (.str _) (.cons (.str _) .nil)), ⟨fun d hd => Nat.lt_trans (hc.ok d hd) (by decide), fun d hd => Nat.lt_trans (hz.ok d hd) (by decide), trivial⟩, ?_, ?_⟩
  · simp only [PyData.depth, PyData.depthAll]; omega
  · simp only [U.sz, szA]; omega
theorem told_ss : SS ("told" : Str) 20 ∧ SS ("none" : Str) 20 := ⟨SS.mk' (by decide +kernel), SS.mk' (by decide +kernel)⟩
theorem join_ssD {ys : List Str} {m : Nat} (h : ∀ y ∈ ys, RowN m y) (hm : m ≤ 200) (hl : ys.length ≤ 400) : SS (Txt.join "\n" ys) 100000 := by
  have l := join_len (a := "\n") (ws := ys) (n := 200) (fun w hw => Nat.le_trans (h w hw).2 hm)
  rw [nl_1.1] at l
  have l2 : ys.length * (200 + 1) ≤ 400 * 201 := Nat.mul_le_mul_right _ hl
  refine ⟨by omega, fun c hc => ?_⟩
  rcases join_mem hc with h1 | ⟨z, hz, h1⟩
  · have := nl_asc c h1; omega
  · have := ((h z hz).1 c h1).1; omega
theorem join_zD {ys : List Str} {m : Nat} (h : ∀ y ∈ ys, RowN m y) (hm : m ≤ 200) (hl : ys.length ≤ 400) : (ys.map (·.length)).sum + ys.length * ("\n" : Str).length ≤ 16777216 := by
  have := sum_le (n := 200) (ws := ys) fun z hz => Nat.le_trans (h z hz).2 hm
  have l2 : ys.length * 200 ≤ 400 * 200 := Nat.mul_le_mul_right _ hl
  rw [nl_1.1]
  omega
def sp_law_good_right (T : Tx K mg w) : Sp := sp2 fun x y H Q _ => ∃ (a b : Addr) (vs : List V) (xss : List (List V)), x = .ref a ∧ y = .ref b ∧ H a = some (.lst vs) ∧ Rw H vs xss ∧ (∀ xs ∈ xss, GdX xs) ∧ xss.length ≤ 300 ∧ H b = some (.lst ((xss.map rowOf).map V.str)) ∧ ∀ H', Kp [] H H' → Q (.bl true) H'
set_option maxHeartbeats 16000000 in
theorem ok_law_good_right (T : Tx K mg w) (hs : ∃ mm, base.Ns sysModules mm) : FnG P w K mg base (L2.CX P w) 8 T.a_law_good_right T.d_law_good_right ["_law_deeds", "_law_rows"] (sp_law_good_right T) := by
  have G_law_read := ok_law_read (P := P) (w := w) (base := base) T
  have G_law_wrote := ok_law_wrote (P := P) (w := w) (base := base) T
  refine okG T.F_law_good_right sc_law_good_right (fun vs H Q E h => ?_) (fun cd A o s H vs Q E hg hr h => ?_)
  · obtain ⟨v0, v1, rfl, h⟩ := h; rfl
  obtain ⟨v0, v1, rfl, h⟩ := h
  obtain ⟨a, b, vs, xss, rfl, rfl, ea, R, g, hl, eb, k⟩ := h
  refine ⟨_, (pss_cons (ps_set (i := 2) sc_law_good_right.nd rfl (Or.inl rfl) (pe_callTy (c_list (K := K) rfl) rfl T.z_list bt_list (pa_cons (pv 0) pa_nil)))
    (pss_cons (ps_for PassesOwn.leaving rfl (pi_lst (K := K) rfl (pe_lst (pa_cons (pe_callTy (c_list (K := K) rfl) rfl T.z_list bt_list (pa_cons (pv 0) pa_nil)) (pa_cons (pe_callTy (c_tuple (K := K) rfl) rfl T.z_tuple bt_tuple (pa_cons (pv 0) pa_nil)) pa_nil)))) (pg_name (i := 3) sc_law_good_right.nd rfl (Or.inl rfl))
    (pss_one (ps_if (PW.pt (pw_or (pt_cmpR (o_ne (K := K) rfl hr) (pe_callB (c_repr (K := K) rfl hg hr hs) rfl T.z_repr bt_repr (pa_cons (pe_co G_law_wrote (hr.mono (by decide)) rfl T.m_law_wrote T.F_law_wrote.kp T.B_law_wrote (takes_of (E := E) rfl rfl rfl rfl) (pa_cons (pv 3) pa_nil)) pa_nil)) (pe_callB (c_repr (K := K) rfl hg hr hs) rfl T.z_repr bt_repr (pa_cons (pe_lst (pa_cons pe_str (pa_cons (pe_joinU (K := K) rfl pe_str (pv 1)) pa_nil))) pa_nil)) (nomark _)) (pw_or1 (pt_cmpR (o_ne (K := K) rfl hr) (pe_callTy (c_list (K := K) rfl) rfl T.z_list bt_list (pa_cons (pv 3) pa_nil)) (pv 2) (nomark _)))))
    (pss_one (ps_ret pe_bl))
    pss_nil)))
    (pss_cons (ps_for PassesOwn.leaving rfl (pi_range1 rfl T.z_range (pa_cons pe_int pa_nil)) (pg_name (i := 4) sc_law_good_right.nd rfl (Or.inl rfl))
    (pss_cons (ps_set (i := 5) sc_law_good_right.nd rfl (Or.inl rfl) (pe_co G_law_read (hr.mono (by decide)) rfl T.m_law_read T.F_law_read.kp T.B_law_read (takes_of (E := E) rfl rfl rfl rfl) (pa_cons (pe_joinU (K := K) rfl pe_str (pv 1)) pa_nil)))
    (pss_cons (ps_if (pt_cmpR (o_ne (K := K) rfl hr) (pe_callB (c_repr (K := K) rfl hg hr hs) rfl T.z_repr bt_repr (pa_cons (pv 5) pa_nil)) (pe_callB (c_repr (K := K) rfl hg hr hs) rfl T.z_repr bt_repr (pa_cons (pe_lst (pa_cons pe_str (pa_cons (pv 2) pa_nil))) pa_nil)) (nomark _))
    (pss_one (ps_ret pe_bl))
    pss_nil)
    (pss_one (ps_if (pt_val (pe_callB (c_isi (K := K) rfl) rfl T.z_isinstance bt_isinstance (pa_cons (pe_ix (ix_u (K := K) rfl) (pv 5) pe_int (fun _ _ => rfl)) (pa_cons (pe_ty rfl T.z_list bt_list) pa_nil))))
    (pss_one (ps_expr (pe_bm PySem.F.plainAttrs_list PySem.F.slot_list_append PySem.F.type_list_append mt_append (pe_ix (ix_u (K := K) rfl) (pv 5) pe_int (fun _ _ => rfl)) (pa_cons (pe_tup (pa_cons pe_str (pa_cons pe_str pa_nil))) pa_nil))))
    pss_nil)))))
    (pss_one (ps_ret pe_bl))))), ?_⟩
  rw [st_law_good_right]
  have hN := rowsN g
  have hlr : (xss.map rowOf).length ≤ 400 := by rw [List.length_map]; omega
  have hjz := join_zD hN (by omega) hlr
  have hjs := join_ssD hN (by omega) hlr
  have hfl : ∀ xs ∈ xss, FlX xs := fun xs hx => (g xs hx).fl
  have hlv := R.len
  have hLN : LogN (Txt.join "\n" (xss.map rowOf)) := logN_of hN (by omega) hlr
  walk_at "u"
  refine s_list (SqL.of ea) fun l1 H1 f1 e1 k1 => ?_
  walk_at "u"
  refine s_list (ys := vs) (SqL.of (by walk_at "g")) fun l2 H2 f2 e2 k2 => ?_
  walk_at "u"
  refine s_tuple (xs := vs) (SqL.of (by walk_at "g")) fun t3 H3 f3 e3 k3 => ?_
  walk_at "u"
  walk_at "na"
  intro l4 H4 f4 e4 k4
  walk_at "u"
  refine s_ilst (SqL.of e4) ?_
  have c1 : H4 l1 = some (.lst vs) := by walk_at "g"
  have c2 : H4 l2 = some (.lst vs) := by walk_at "g"
  have c3 : H4 t3 = some (.tup vs) := by walk_at "gt"
  have cb : H4 b = some (.lst ((xss.map rowOf).map V.str)) := by walk_at "g"
  have z4 : Kz [] H H4 := ⟨by walk_at "k"⟩
  have R4 := R.kp z4.k
  clear k1 k2 k3 k4 e1 e2 e3 f1 f2 f3 f4
  obtain ⟨z4⟩ := z4
  refine for_L e4 (fun i σ H' => Kp [] H4 H' ∧ ∃ u3, σ = [some (.ref a), some (.ref b), some (.ref l1), u3, none, none]) ⟨Kp.refl, _, rfl⟩ (fun i σ' H' q o e => q.1.get0 e) ?_ ?_
  · rintro i x σ H5 ex ⟨k5, u3, rfl⟩
    have R5 := R4.kp k5
    have cb5 := k5.get0 cb
    have c15 := k5.get0 c1
    have hx : ∃ h, x = .ref h ∧ (H5 h = some (.lst vs) ∨ H5 h = some (.tup vs)) := by
      match i, ex with
      | 0, ex => cases ex; exact ⟨_, rfl, Or.inl (k5.get0 c2)⟩
      | 1, ex => cases ex; exact ⟨_, rfl, Or.inr (k5.get0 c3)⟩
      | (j + 2), ex => simp at ex
    obtain ⟨h, rfl, eh⟩ := hx
    have lst : ∀ {H6 : Hp}, Kp [] H5 H6 → ∀ Q : VK, (∀ l H', H' l = some (.lst vs) → Kp [] H6 H' → Q (.ref l) H') → uList K [.ref h] H6 Q := by
      intro H6 k6 Q q
      rcases eh with eh | eh
      · exact s_list (SqL.of (k6.get0 eh)) fun l H' _ e k => q l H' e k
      · exact s_listT (k6.get0 eh) fun l H' _ e k => q l H' e k
    walk_at "u"
    refine ⟨_, rfl, Or.inr ⟨h, vs, _, rfl, eh, good_drs R5 g, by omega, fun r hr => ?_, fun rs e u H6 f6 e6 k6 => ?_, fun j v e1 e2 => ?_⟩⟩
    · obtain ⟨xs, hx, e⟩ := List.mem_map.mp hr
      cases e
      exact (g xs hx).row.1.2
    · have e : xss.map rowOf = rs := some_injD (by rw [← e, List.map_map]; rfl)
      subst e
      walk_at "u"
      refine s_rep (sh_wrote e6 told_ss.1 hjs) ?_
      walk_at "u"
      refine s_join (ys := xss.map rowOf) (by walk_at "g") hjz ?_
      walk_at "u"
      walk_at "na"
      intro u7 H7 f7 e7 k7
      walk_at "u"
      refine s_rep (sh_wrote e7 told_ss.1 hjs) ?_
      walk_at "u"
      rw [decide_eq_true rfl]
      walk_at "u"
      refine lst (k6.trans k7) _ fun l8 H8 e8 k8 => ?_
      walk_at "u"
      have R8 := ((R5.kp k6).kp k7).kp k8
      refine s_neR (.lst (Or.inl e8) (rw_dX R8 hfl)) (.lst (Or.inl (k8.get0 (k7.get0 (k6.get0 c15)))) (rw_dX R8 hfl)) (dXs_shp hfl) ?_
      walk_at "u"
      exact ⟨((k5.trans k6).trans k7).trans k8, _, rfl⟩
    · rw [List.getElem?_map] at e2
      obtain ⟨xs, _, z⟩ := Option.map_eq_some_iff.mp e2
      cases z
  rintro σ H5 ⟨k5, u3, rfl⟩
  have R5 := R4.kp k5
  have cb5 := k5.get0 cb
  have c15 := k5.get0 c1
  have z5 : Kz [] H H5 := ⟨z4.trans k5⟩
  clear k5 z4 R4 cb c1 c2 c3 e4
  obtain ⟨z5⟩ := z5
  walk_at "u"
  refine s_rng (by omega) (by omega) ?_
  refine for_R (fun i σ H' => Kp [] H5 H' ∧ ∃ u4 u5, σ = [some (.ref a), some (.ref b), some (.ref l1), u3, u4, u5]) ⟨Kp.refl, _, _, rfl⟩ ?_ ?_
  · rintro i σ H6 hi ⟨k6, u4, u5, rfl⟩
    walk_at "u"
    refine s_join (ys := xss.map rowOf) (k6.get0 cb5) hjz ?_
    walk_at "u"
    refine ⟨_, rfl, Or.inr ⟨_, rfl, hLN, fun xss' hx u l vs' H7 f7 g7 nl e7 el R7 k7 => ?_, fun j r e1 e2 e3 => ?_⟩⟩
    · rw [rws_good g, rd_good g] at hx
      have := some_injD hx
      subst this
      walk_at "u"
      refine s_rep (sh_told e7 el R7 hfl (by omega)) ?_
      walk_at "u"
      walk_at "na"
      intro u8 H8 f8 e8 k8
      walk_at "u"
      have c18 : H8 l1 = some (.lst vs) := k8.get0 (k7.get0 (k6.get0 c15))
      refine s_rep (sh_told e8 c18 (((R5.kp k6).kp k7).kp k8) hfl (by omega)) ?_
      walk_at "u"
      rw [decide_eq_true rfl]
      have e78 := k8.get0 e7
      have el8 := k8.get0 el
      walk_at "u"
      walk_at "na"
      intro t9 H9 f9 e9 k9
      walk_at "u"
      refine s_app (xs := vs') (k9.get0 el8) (zlt (by rw [R7.len]; omega)) fun H10 e10 k10 => ?_
      walk_at "u"
      exact ⟨Kp.step (((k6.trans k7).trans k8).trans k9) k10 (by intro q hq; rw [List.mem_singleton.mp hq]; exact Or.inr (k6.dom l g7)), _, _, rfl⟩
    · rw [rws_good g] at e1
      rw [List.getElem?_map] at e1
      obtain ⟨xs, e4, rfl⟩ := Option.map_eq_some_iff.mp e1
      rw [(g xs (List.mem_of_getElem? e4)).row.2.1] at e2
      cases e2
  · rintro σ H6 ⟨k6, u4, u5, rfl⟩
    walk_at "u"
    exact k _ (z5.trans k6)

/-! odd things, and deeds that are none -/
def Fq (x : V) : Prop := (∃ z, x = .str z ∧ SS z 20) ∨ ∃ n : Int, x = .int n ∧ -1000000 ≤ n ∧ n ≤ 1000000
theorem Fl.q {x : V} (h : Fl x) : Fq x := by
  rcases h with h | ⟨n, e, h0, h1⟩
  · exact Or.inl h
  · exact Or.inr ⟨n, e, by omega, h1⟩
theorem Fq.ty {H : Hp} {x : V} (h : Fq x) : ∃ t, TyN H x t ∧ Small x := by
  rcases h with ⟨z, rfl, hz⟩ | ⟨n, rfl, _⟩
  · exact ⟨_, .str, hz.mono (by omega)⟩
  · exact ⟨_, .int, trivial⟩
theorem fq_dn {H : Hp} : ∀ {xs : List V}, (∀ x ∈ xs, Fq x) → DnA K H xs (xs.map dV)
  | [], _ => .nil
  | x :: xs, h => by
    have t := fq_dn (H := H) (xs := xs) fun y hy => h y (List.mem_cons_of_mem _ hy)
    rcases h x List.mem_cons_self with ⟨z, rfl, _⟩ | ⟨n, rfl, _⟩
    · exact .cons (.str z) t
    · exact .cons (.int n) t
theorem fq_ok : ∀ {xs : List V}, (∀ x ∈ xs, Fq x) → goodA (xs.map dV) ∧ PyData.depthAll (xs.map dV) ≤ 2 ∧ szA (xs.map dV) ≤ 1000 * xs.length ∧ PyData.canLayAll0 (xs.map dV) = true
  | [], _ => ⟨trivial, by simp [PyData.depthAll], by simp [szA], rfl⟩
  | x :: xs, h => by
    obtain ⟨a1, a2, a3, a4⟩ := fq_ok (xs := xs) fun y hy => h y (List.mem_cons_of_mem _ hy)
    rcases h x List.mem_cons_self with ⟨z, rfl, hz⟩ | ⟨n, rfl, n0, n1⟩
    · have := hz.len
      have hs := (lay_strs (zs := [z]) fun y hy => by rw [List.mem_singleton.mp hy]; exact hz.ok).1
      simp only [List.map_cons, List.map_nil, PyData.canLayAll0, Bool.and_true] at hs
      refine ⟨⟨fun c hc => Nat.lt_trans (hz.ok c hc) (by decide), a1⟩, ?_, ?_, ?_⟩
      · simp only [List.map_cons, dV, PyData.depthAll, PyData.depth]; omega
      · simp only [List.map_cons, dV, szA, sz, List.length_cons]; omega
      · simp only [List.map_cons, dV, PyData.canLayAll0, hs, a4, Bool.and_self]
    · refine ⟨⟨Nat.lt_of_le_of_lt (show n.natAbs ≤ 1000000 by omega) (by decide +kernel), a1⟩, ?_, ?_, ?_⟩
      · simp only [List.map_cons, dV, PyData.depthAll, PyData.depth]; omega
      · simp only [List.map_cons, dV, szA, sz, List.length_cons]; omega
      · simp only [List.map_cons, dV, PyData.canLayAll0, PyData.canLay0, a4, Bool.and_self]
/-- of flat lists the data are the same where they are -/
theorem eqv_flat : ∀ {xs ys : List V}, (∀ x ∈ xs, Fq x) → (∀ y ∈ ys, Fq y) → PyData.eqvAll (xs.map dV) (ys.map dV) = true → xs = ys
  | [], [], _, _, _ => rfl
  | [], _ :: _, _, _, h => by simp [PyData.eqvAll] at h
  | _ :: _, [], _, _, h => by simp [PyData.eqvAll] at h
  | x :: xs, y :: ys, hx, hy, h => by
    rw [List.map_cons, List.map_cons, PyData.eqvAll, Bool.and_eq_true] at h
    have ih := eqv_flat (fun z hz => hx z (List.mem_cons_of_mem _ hz)) (fun z hz => hy z (List.mem_cons_of_mem _ hz)) h.2
    rw [ih]
    congr 1
    rcases hx x List.mem_cons_self with ⟨a, rfl, _⟩ | ⟨a, rfl, _⟩ <;> rcases hy y List.mem_cons_self with ⟨b, rfl, _⟩ | ⟨b, rfl, _⟩
    · have := h.1
      simp only [dV, PyData.eqv, beq_iff_eq] at this
      rw [this]
    · have := h.1
      simp [dV, PyData.eqv] at this
    · have := h.1
      simp [dV, PyData.eqv] at this
    · have := h.1
      simp only [dV, PyData.eqv, beq_iff_eq] at this
      rw [this]
inductive OddD (H : Hp) : V → PyData → List Addr → Prop
  | non : OddD H .non .none []
  | bl {b : Bool} : OddD H (.bl b) (.bool b) []
  | int {n : Int} : 0 ≤ n → n ≤ 100 → OddD H (.int n) (.int n) []
  | str {z : Str} : SS z 20 → OddD H (.str z) (.str z) []
  | tup {a : Addr} {xs : List V} : H a = some (.tup xs) → (∀ x ∈ xs, Fq x) → xs.length ≤ 6 → isDeed xs = false → OddD H (.ref a) (.tuple (xs.map dV)) []
  | lst {a : Addr} {xs : List V} : H a = some (.lst xs) → (∀ x ∈ xs, Fq x) → xs.length ≤ 7 → OddD H (.ref a) (.list (xs.map dV)) [a]
  | dic {a : Addr} : H a = some (.dK []) → OddD H (.ref a) (.dict []) [a]
theorem OddD.kpn {H H1 : Hp} {ps : List Addr} {v : V} {d : PyData} {F : List Addr} (h : OddD H v d F) (k : Kp ps H H1) (n : ∀ a ∈ ps, a ∉ F) : OddD H1 v d F := by
  cases h with
  | non => exact .non
  | bl => exact .bl
  | int a b => exact .int a b
  | str a => exact .str a
  | tup e a b c => exact .tup (k.tgt e) a b c
  | lst e a b => exact .lst (k.get e fun m => n _ m (by simp)) a b
  | dic e => exact .dic (k.get e fun m => n _ m (by simp))
theorem OddD.sh {H : Hp} {v : V} {d : PyData} {F : List Addr} (h : OddD H v d F) : Sh K H v d := by
  cases h with
  | non => exact ⟨.non, by simp [good], by simp [PyData.depth], by simp [sz]⟩
  | bl => exact ⟨.bl _, by simp [good], by simp [PyData.depth], by simp [sz]⟩
  | int a b => exact int_shw a (by omega)
  | str a =>
    have := a.len
    exact ⟨.str _, fun c hc => Nat.lt_trans (a.ok c hc) (by decide), by simp [PyData.depth], by simp only [sz]; omega⟩
  | tup e a b c =>
    obtain ⟨a1, a2, a3, a4⟩ := fq_ok a
    exact ⟨.tup (SqT.of e) (fq_dn a), a1, by simp only [PyData.depth]; omega, by simp only [sz]; omega⟩
  | lst e a b =>
    obtain ⟨a1, a2, a3, a4⟩ := fq_ok a
    exact ⟨.lst (Or.inl e) (fq_dn a), a1, by simp only [PyData.depth]; omega, by simp only [sz]; omega⟩
  | dic e => exact ⟨.dic (Or.inl e) .nil, trivial, by simp [PyData.depth, PyData.depthKv], by simp [sz, szK]⟩
theorem OddD.dr {H : Hp} {v : V} {d : PyData} {F : List Addr} (h : OddD H v d F) : Dr H v none := by
  cases h with
  | non => exact .no .non (by intro z; cases z)
  | bl => exact .no .bl (by intro z; cases z)
  | int a b => exact .no .int (by intro z; cases z)
  | str a => exact .no .str (by intro z; cases z)
  | tup e a b c => exact .bad e (fun v hv => (a v hv).ty) c
  | lst e a b => exact .no (.lst e) (by intro z; cases z)
  | dic e => exact .no (.dic e) (by intro z; cases z)
theorem any_tup {xss : List (List V)} {d : PyData} (h : ∀ xs ∈ xss, PyData.eqv (dX xs) d = false) : ((xss.map dX).any fun z => PyData.eqv z d) = false := by
  rw [List.any_map]
  exact List.any_eq_false.mpr fun x hx => by rw [Function.comp_apply, h x hx]; simp
/-- it is none of the deeds -/
theorem OddD.nin {H : Hp} {v : V} {d : PyData} {F : List Addr} (h : OddD H v d F) {p : Addr} {vs : List V} {xss : List (List V)} (e : H p = some (.lst vs)) (R : Rw H vs xss) (g : ∀ xs ∈ xss, GdX xs) {Q : VK} (q : Q (.bl true) H) : uInT K true v (.ref p) H Q := by
  have hfl : ∀ xs ∈ xss, FlX xs := fun xs hx => (g xs hx).fl
  have hl : Dn K H (.ref p) (.list (xss.map dX)) := .lst (Or.inl e) (rw_dX R hfl)
  have fin : ∀ {d : PyData}, Dn K H v d → SeqAt.shaped d = true → (∀ xs ∈ xss, PyData.eqv (dX xs) d = false) → uInT K true v (.ref p) H Q := fun hd sd hn => by
    refine s_ninD hl hd (dXs_shp hfl) sd ?_
    rw [any_tup hn]
    exact q
  cases h with
  | non => exact fin .non rfl fun xs _ => rfl
  | bl => exact fin (.bl _) rfl fun xs _ => rfl
  | int a b => exact fin (.int _) rfl fun xs _ => rfl
  | str a =>
    have hs := (lay_strs (zs := [_]) fun y hy => by rw [List.mem_singleton.mp hy]; exact a.ok).1
    simp only [List.map_cons, List.map_nil, PyData.canLayAll0, Bool.and_true] at hs
    refine fin (.str _) ?_ fun xs _ => rfl
    unfold SeqAt.shaped
    rw [hs]
    rfl
  | tup e2 a b c =>
    obtain ⟨a1, a2, a3, a4⟩ := fq_ok a
    refine fin (.tup (SqT.of e2) (fq_dn a)) ?_ fun xs hx => ?_
    · unfold SeqAt.shaped
      rw [Bool.and_eq_true]
      exact ⟨a4, decide_eq_true (by simp only [PyData.depth]; omega)⟩
    · cases he : PyData.eqv (dX xs) (.tuple (List.map dV _)) with
      | false => rfl
      | true =>
        exfalso
        unfold dX at he
        rw [PyData.eqv] at he
        have := eqv_flat (fun z hz => ((g xs hx).fl.1 z hz).q) a he
        rw [← this, (g xs hx).isDeed] at c
        cases c
  | lst e2 a b =>
    obtain ⟨a1, a2, a3, a4⟩ := fq_ok a
    refine fin (.lst (Or.inl e2) (fq_dn a)) ?_ fun xs hx => rfl
    unfold SeqAt.shaped
    rw [Bool.and_eq_true]
    exact ⟨a4, decide_eq_true (by simp only [PyData.depth]; omega)⟩
  | dic e2 =>
    refine s_inTd e2 (SqL.of e) (fun v hv => ?_) q
    obtain ⟨i, hi⟩ := List.getElem?_of_mem hv
    obtain ⟨u, r, rfl, er, eu⟩ := R.at hi
    exact ⟨u, r, rfl, eu⟩
/-- a deed of them is one -/
theorem deed_in {H : Hp} {t p : Addr} {xs : List V} {vs : List V} {xss : List (List V)} (et : H t = some (.tup xs)) (m : xs ∈ xss) (e : H p = some (.lst vs)) (R : Rw H vs xss) (g : ∀ xs ∈ xss, GdX xs) {Q : VK} (q : Q (.bl false) H) : uInT K true (.ref t) (.ref p) H Q := by
  have hfl : ∀ xs ∈ xss, FlX xs := fun xs hx => (g xs hx).fl
  have hl : Dn K H (.ref p) (.list (xss.map dX)) := .lst (Or.inl e) (rw_dX R hfl)
  obtain ⟨b1, b2, b3, b4⟩ := dX_ok (hfl xs m)
  refine s_ninD hl (dX_dn et (hfl xs m)) (dXs_shp hfl) ?_ ?_
  · unfold SeqAt.shaped
    rw [Bool.and_eq_true]
    exact ⟨b4, decide_eq_true (by omega)⟩
  · have : ((xss.map dX).any fun z => PyData.eqv z (dX xs)) = true := by
      rw [List.any_eq_true]
      exact ⟨dX xs, List.mem_map.mpr ⟨xs, m, rfl⟩, PySem.SeqAt.eqv_refl _ b4⟩
    rw [this]
    exact q
theorem ix_memD {H : Hp} {p : Addr} {xs : List V} {i : Int} (e : H p = some (.lst xs)) (h0 : 0 ≤ i) (h1 : i < xs.length) : ∃ v, v ∈ xs ∧ atI xs i = some v := ix_mem h0 h1
theorem ltD {d : Int} {n m : Nat} (h : d < n) (e : n = m) : d < m := e ▸ h
def sp_law_odd (K : PySem.W.Frag) : Sp := sp1 fun x H Q _ => ∃ (p : Addr) (n : Nat), x = .ref p ∧ Box H p n ∧ n ≤ 900000 ∧ ∀ (v : V) (d : PyData) (F : List Addr) (H' : Hp), OddD H' v d F → (∀ x ∈ F, H x = none ∧ x ≠ p) → Box H' p (n + 1) → Kp [p] H H' → Q v H'
theorem fqs {zs : List Str} (h : (zs.all fun z => decide (z.length ≤ 20) && z.cps.toList.all fun c => decide (c < 128)) = true) : ∀ x ∈ zs.map V.str, Fq x := by
  intro x hx
  obtain ⟨z, hz, rfl⟩ := List.mem_map.mp hx
  have := List.all_eq_true.mp h z hz
  rw [Bool.and_eq_true, decide_eq_true_eq, List.all_eq_true] at this
  exact Or.inl ⟨z, rfl, this.1, fun c hc => Nat.lt_trans (of_decide_eq_true (this.2 c hc)) (by decide)⟩
set_option maxHeartbeats 16000000 in
theorem ok_law_odd (T : Tx K mg w) : FnOk P w K mg base (L2.CX P w) 2 T.a_law_odd T.d_law_odd ["_law_box_here"] (sp_law_odd K) := by
  have G_law_take := ok_law_take (P := P) (w := w) (base := base) T
  refine T.F_law_odd.okX sc_law_odd (fun vs H Q E h => ?_) (fun cd A o s H vs Q E hr h => ?_)
  · obtain ⟨v0, rfl, h⟩ := h; rfl
  obtain ⟨v0, rfl, h⟩ := h
  obtain ⟨p, n, rfl, hB, hn, k⟩ := h
  refine ⟨_, (pss_cons (ps_set (i := 1) sc_law_odd.nd rfl (Or.inl rfl) (pe_lst (pa_cons pe_non (pa_cons pe_bl (pa_cons pe_int (pa_cons pe_str (pa_cons pe_str (pa_cons (pe_tup (pa_cons pe_str pa_nil)) (pa_cons (pe_tup (pa_cons pe_str (pa_cons pe_str (pa_cons pe_str pa_nil)))) (pa_cons (pe_lst (pa_cons pe_str (pa_cons pe_str pa_nil))) (pa_cons (pe_tup (pa_cons pe_str (pa_cons (pe_un un_neg pe_int) pa_nil))) (pa_cons (pe_tup pa_nil) (pa_cons (pe_lst pa_nil) (pa_cons pe_dnewK pa_nil))))))))))))))
    (pss_one (ps_ret (pe_ix (ix_u (K := K) rfl) (pe_op (o_add (K := K) rfl) (pv 1) (pe_lst (pa_cons (pe_tup (pa_cons pe_str (pa_cons pe_str (pa_cons (pe_op o_pow pe_int pe_int) (pa_cons pe_str pa_nil))))) (pa_cons (pe_tup (pa_cons pe_str (pa_cons pe_str (pa_cons pe_str (pa_cons pe_str pa_nil))))) (pa_cons (pe_tup (pa_cons pe_str (pa_cons pe_str pa_nil))) pa_nil))))) (pe_co G_law_take (hr.mono (by decide)) rfl T.m_law_take T.F_law_take.kp T.B_law_take (takes_of (E := E) rfl rfl rfl rfl) (pa_cons (pv 0) (pa_cons pe_int pa_nil))) (fun _ _ => rfl))))), ?_⟩
  rw [st_law_odd]
  walk_at "u"
  walk_at "na"
  intro a1 H1 f1 e1 k1
  walk_at "u"
  walk_at "na"
  intro a2 H2 f2 e2 k2
  walk_at "u"
  walk_at "na"
  intro a3 H3 f3 e3 k3
  walk_at "u"
  walk_at "na"
  intro a4 H4 f4 e4 k4
  walk_at "u"
  walk_at "na"
  intro a5 H5 f5 e5 k5
  walk_at "u"
  walk_at "na"
  intro a6 H6 f6 e6 k6
  walk_at "u"
  refine s_dnew fun a7 H7 f7 e7 k7 => ?_
  walk_at "u"
  walk_at "na"
  intro l8 H8 f8 e8 k8
  walk_at "u"
  walk_at "na"
  intro a9 H9 f9 e9 k9
  walk_at "u"
  walk_at "na"
  intro a10 H10 f10 e10 k10
  walk_at "u"
  walk_at "na"
  intro a11 H11 f11 e11 k11
  walk_at "u"
  walk_at "na"
  intro l12 H12 f12 e12 k12
  refine s_addl (by walk_at "g") e12 (zle (by simp)) fun l13 H13 f13 e13 k13 => ?_
  walk_at "u"
  walk_at "tk"
  intro d H14 d0 d1 B14 k14
  have e1314 := k14.get1 e13 (by walk_at "ne")
  obtain ⟨v, hv, ev⟩ := ix_memD e1314 d0 (by simpa using d1)
  refine s_ixl e1314 ev ?_
  walk_at "u"
  have g3 : H a3 = none ∧ a3 ≠ p := ⟨by walk_at "f", by walk_at "ne"⟩
  have g6 : H a6 = none ∧ a6 ≠ p := ⟨by walk_at "f", by walk_at "ne"⟩
  have g7 : H a7 = none ∧ a7 ≠ p := ⟨by walk_at "f", by walk_at "ne"⟩
  have z14 : Kz [p] H H14 := ⟨by walk_at "k"⟩
  have i1 : H14 a1 = some (.tup (([("come" : Str)]).map V.str)) := by walk_at "gt"
  have i2 : H14 a2 = some (.tup ((["come", "a", "b"] : List Str).map V.str)) := by walk_at "gt"
  have i3 : H14 a3 = some (.lst ((["come", "a"] : List Str).map V.str)) := by walk_at "g"
  have i4 : H14 a4 = some (.tup [.str "get", .int (-1)]) := by walk_at "gt"
  have i5 : H14 a5 = some (.tup (([] : List Str).map V.str)) := by walk_at "gt"
  have i6 : H14 a6 = some (.lst (([] : List Str).map V.str)) := by walk_at "g"
  have i7 : H14 a7 = some (.dK []) := by walk_at "g"
  have i9 : H14 a9 = some (.tup [.str "lock", .str "a", .int 1000000, .str "b"]) := by walk_at "gt"
  have i10 : H14 a10 = some (.tup ((["leave", "a", "b", "train"] : List Str).map V.str)) := by walk_at "gt"
  have i11 : H14 a11 = some (.tup ((["go", "a"] : List Str).map V.str)) := by walk_at "gt"
  have q4 : ∀ x ∈ [V.str "get", V.int (-1)], Fq x := by
    intro x hx
    simp only [List.mem_cons, List.not_mem_nil, or_false] at hx
    rcases hx with rfl | rfl
    · exact fqs (zs := ["get"]) (by decide +kernel) _ (by simp)
    · exact Or.inr ⟨_, rfl, by omega, by omega⟩
  have q9 : ∀ x ∈ [V.str "lock", V.str "a", V.int 1000000, V.str "b"], Fq x := by
    intro x hx
    simp only [List.mem_cons, List.not_mem_nil, or_false] at hx
    rcases hx with rfl | rfl | rfl | rfl
    · exact fqs (zs := ["lock"]) (by decide +kernel) _ (by simp)
    · exact fqs (zs := ["a"]) (by decide +kernel) _ (by simp)
    · exact Or.inr ⟨_, rfl, by omega, by omega⟩
    · exact fqs (zs := ["b"]) (by decide +kernel) _ (by simp)
  have nF : ∀ x ∈ ([] : List Addr), H x = none ∧ x ≠ p := by simp
  have s1 : SS ("come a" : Str) 20 := SS.mk' (by decide +kernel)
  have s2 : SS ("" : Str) 20 := SS.mk' (by decide +kernel)
  simp only [List.cons_append, List.nil_append, List.mem_cons, List.not_mem_nil, or_false] at hv
  rcases hv with rfl | rfl | rfl | rfl | rfl | rfl | rfl | rfl | rfl | rfl | rfl | rfl | rfl | rfl | rfl
  · exact k _ _ _ _ .non nF B14 z14.k
  · exact k _ _ _ _ .bl nF B14 z14.k
  · exact k _ _ _ _ (.int (by omega) (by omega)) nF B14 z14.k
  · exact k _ _ _ _ (.str s1) nF B14 z14.k
  · exact k _ _ _ _ (.str s2) nF B14 z14.k
  · exact k _ _ _ _ (.tup i1 (fqs (by decide +kernel)) (by decide) (by decide +kernel)) nF B14 z14.k
  · exact k _ _ _ _ (.tup i2 (fqs (by decide +kernel)) (by decide) (by decide +kernel)) nF B14 z14.k
  · exact k _ _ _ _ (.lst i3 (fqs (by decide +kernel)) (by decide)) (by simpa using g3) B14 z14.k
  · exact k _ _ _ _ (.tup i4 q4 (by decide) (by decide +kernel)) nF B14 z14.k
  · exact k _ _ _ _ (.tup i5 (fqs (by decide +kernel)) (by decide) (by decide +kernel)) nF B14 z14.k
  · exact k _ _ _ _ (.lst i6 (fqs (by decide +kernel)) (by decide)) (by simpa using g6) B14 z14.k
  · exact k _ _ _ _ (.dic i7) (by simpa using g7) B14 z14.k
  · exact k _ _ _ _ (.tup i9 q9 (by decide) (by decide +kernel)) nF B14 z14.k
  · exact k _ _ _ _ (.tup i10 (fqs (by decide +kernel)) (by decide) (by decide +kernel)) nF B14 z14.k
  · exact k _ _ _ _ (.tup i11 (fqs (by decide +kernel)) (by decide) (by decide +kernel)) nF B14 z14.k

/-! deeds among which some are none -/
inductive Mi (H : Hp) (xss : List (List V)) (fr : Addr → Prop) : List V → List (Option Str) → Prop
  | nil : Mi H xss fr [] []
  | deed {t : Addr} {xs : List V} {vs : List V} {os : List (Option Str)} : H t = some (.tup xs) → xs ∈ xss → Mi H xss fr vs os → Mi H xss fr (.ref t :: vs) (some (rowOf xs) :: os)
  | odd {v : V} {d : PyData} {F : List Addr} {vs : List V} {os : List (Option Str)} : OddD H v d F → (∀ a ∈ F, fr a) → Mi H xss fr vs os → Mi H xss fr (v :: vs) (none :: os)
theorem Mi.kpn {H H1 : Hp} {xss : List (List V)} {fr : Addr → Prop} {ps : List Addr} {vs : List V} {os : List (Option Str)} (h : Mi H xss fr vs os) (k : Kp ps H H1) (n : ∀ a ∈ ps, ¬ fr a) : Mi H1 xss fr vs os := by
  induction h with
  | nil => exact .nil
  | deed e m _ ih => exact .deed (k.tgt e) m ih
  | odd o f _ ih => exact .odd (o.kpn k fun a ha m => n a ha (f a m)) f ih
theorem Mi.app {H : Hp} {xss : List (List V)} {fr : Addr → Prop} {vs vs2 : List V} {os os2 : List (Option Str)} (h : Mi H xss fr vs os) (g : Mi H xss fr vs2 os2) : Mi H xss fr (vs ++ vs2) (os ++ os2) := by
  induction h with
  | nil => exact g
  | deed e m _ ih => exact .deed e m ih
  | odd o f _ ih => exact .odd o f ih
theorem Mi.len {H : Hp} {xss : List (List V)} {fr : Addr → Prop} {vs : List V} {os : List (Option Str)} (h : Mi H xss fr vs os) : os.length = vs.length := by
  induction h with
  | nil => rfl
  | deed _ _ _ ih => simp [ih]
  | odd _ _ _ ih => simp [ih]
theorem Mi.td {H : Hp} {xss : List (List V)} {fr : Addr → Prop} {vs : List V} {os : List (Option Str)} (h : Mi H xss fr vs os) (n : Nat) : Mi H xss fr (vs.take n) (os.take n) ∧ Mi H xss fr (vs.drop n) (os.drop n) := by
  induction h generalizing n with
  | nil => simp only [List.take_nil, List.drop_nil]; exact ⟨.nil, .nil⟩
  | deed e m h ih =>
    cases n with
    | zero => exact ⟨.nil, .deed e m h⟩
    | succ n => exact ⟨.deed e m (ih n).1, (ih n).2⟩
  | odd o f h ih =>
    cases n with
    | zero => exact ⟨.nil, .odd o f h⟩
    | succ n => exact ⟨.odd o f (ih n).1, (ih n).2⟩
theorem Mi.at {H : Hp} {xss : List (List V)} {fr : Addr → Prop} {vs : List V} {os : List (Option Str)} (h : Mi H xss fr vs os) {i : Nat} {v : V} (e : vs[i]? = some v) : (∃ t xs, v = .ref t ∧ os[i]? = some (some (rowOf xs)) ∧ H t = some (.tup xs) ∧ xs ∈ xss) ∨ (∃ d F, os[i]? = some none ∧ OddD H v d F ∧ ∀ a ∈ F, fr a) := by
  induction h generalizing i with
  | nil => simp at e
  | @deed t xs vs os e1 m _ ih =>
    cases i with
    | zero => exact Or.inl ⟨t, xs, by simpa using e.symm, rfl, e1, m⟩
    | succ i => exact ih (by simpa using e)
  | @odd v2 d F vs os o f _ ih =>
    cases i with
    | zero =>
      have : v = v2 := by simpa using e.symm
      subst this
      exact Or.inr ⟨d, F, rfl, o, f⟩
    | succ i => exact ih (by simpa using e)
theorem Mi.drs {H : Hp} {xss : List (List V)} {fr : Addr → Prop} {vs : List V} {os : List (Option Str)} (h : Mi H xss fr vs os) (g : ∀ xs ∈ xss, GdX xs) : Drs H vs os := by
  refine ⟨h.len, fun {i v} e => ?_⟩
  rcases h.at e with ⟨t, xs, rfl, eo, et, m⟩ | ⟨d, F, eo, o, _⟩
  · have gx := g xs m
    exact ⟨_, eo, .yes et (fun v hv => (gx.fl.1 v hv).ty) gx.isDeed⟩
  · exact ⟨_, eo, o.dr⟩
theorem Mi.good {H : Hp} {vs : List V} {xss ys : List (List V)} {fr : Addr → Prop} (R : Rw H vs ys) (m : ∀ x ∈ ys, x ∈ xss) : Mi H xss fr vs (ys.map fun xs => some (rowOf xs)) := by
  induction R with
  | nil => exact .nil
  | cons e _ ih => exact .deed e (m _ List.mem_cons_self) (ih fun x hx => m x (List.mem_cons_of_mem _ hx))
theorem cut_td (vs : List V) {i : Int} (h0 : 0 ≤ i) : cutV vs none (some i) = vs.take i.toNat ∧ cutV vs (some i) none = vs.drop i.toNat := ⟨cut_pre vs h0, cut_tail vs h0⟩
theorem row_len100 {os : List (Option Str)} {H : Hp} {xss : List (List V)} {fr : Addr → Prop} {vs : List V} (h : Mi H xss fr vs os) (g : ∀ xs ∈ xss, GdX xs) : ∀ r, some r ∈ os → r.length ≤ 100 := by
  intro r hr
  obtain ⟨i, hi⟩ := List.getElem?_of_mem hr
  have hl := h.len
  have hi' := (List.getElem?_eq_some_iff.mp hi).1
  rcases h.at (i := i) (v := vs[i]'(by omega)) (List.getElem?_eq_getElem _) with ⟨t, xs, _, eo, _, m⟩ | ⟨d, F, eo, _, _⟩
  · rw [hi] at eo
    cases eo
    exact (g xs m).row.1.2
  · rw [hi] at eo
    cases eo
theorem shL {H : Hp} {a : Addr} {xs : List V} (e : H a = some (.lst xs)) (h : ∀ x ∈ xs, Fq x) (l : xs.length ≤ 20) : Sh K H (.ref a) (.list (xs.map dV)) := by
  obtain ⟨a1, a2, a3, a4⟩ := fq_ok h
  exact ⟨.lst (Or.inl e) (fq_dn h), a1, by simp only [PyData.depth]; omega, by simp only [sz]; omega⟩
theorem none_ne : ("none" : Str) ≠ "told" := by decide +kernel
def sp_law_bad_deeds_right (T : Tx K mg w) : Sp := sp2 fun x y H Q _ => ∃ (p : Addr) (n : Nat) (a : Addr) (vs : List V) (xss : List (List V)), x = .ref p ∧ y = .ref a ∧ Box H p n ∧ n ≤ 800000 ∧ a ≠ p ∧ H a = some (.lst vs) ∧ Rw H vs xss ∧ (∀ xs ∈ xss, GdX xs) ∧ xss.length ≤ 100 ∧ ∀ H', Box H' p (n + 40) → Kp [p] H H' → Q (.bl true) H'
set_option maxHeartbeats 16000000 in
theorem ok_law_bad_deeds_right (T : Tx K mg w) (hs : ∃ mm, base.Ns sysModules mm) : FnG P w K mg base (L2.CX P w) 7 T.a_law_bad_deeds_right T.d_law_bad_deeds_right ["_law_box_here", "_law_deeds"] (sp_law_bad_deeds_right T) := by
  have G_law_wrote := ok_law_wrote (P := P) (w := w) (base := base) T
  have G_law_take := ok_law_take (P := P) (w := w) (base := base) T
  have G_law_odd := ok_law_odd (P := P) (w := w) (base := base) T
  refine okG T.F_law_bad_deeds_right sc_law_bad_deeds_right (fun vs H Q E h => ?_) (fun cd A o s H vs Q E hg hr h => ?_)
  · obtain ⟨v0, v1, rfl, h⟩ := h; rfl
  obtain ⟨v0, v1, rfl, h⟩ := h
  obtain ⟨p, n, a, vs, xss, rfl, rfl, hB, hn, nap, ea, R, g, hl, k⟩ := h
  refine ⟨_, (pss_cons (ps_set (i := 2) sc_law_bad_deeds_right.nd rfl (Or.inl rfl) (pe_callTy (c_list (K := K) rfl) rfl T.z_list bt_list (pa_cons (pv 1) pa_nil)))
    (pss_cons (ps_for PassesOwn.leaving rfl (pi_range1 rfl T.z_range (pa_cons (pe_op (o_add (K := K) rfl) pe_int (pe_co G_law_take (hr.mono (by decide)) rfl T.m_law_take T.F_law_take.kp T.B_law_take (takes_of (E := E) rfl rfl rfl rfl) (pa_cons (pv 0) (pa_cons pe_int pa_nil)))) pa_nil)) (pg_name (i := 3) sc_law_bad_deeds_right.nd rfl (Or.inl rfl))
    (pss_cons (ps_set (i := 7) sc_law_bad_deeds_right.nd rfl (Or.inl rfl) (pe_co G_law_take (hr.mono (by decide)) rfl T.m_law_take T.F_law_take.kp T.B_law_take (takes_of (E := E) rfl rfl rfl rfl) (pa_cons (pv 0) (pa_cons (pe_op (o_add (K := K) rfl) (pe_callB (c_len (K := K) rfl) rfl T.z_len bt_len (pa_cons (pv 2) pa_nil)) pe_int) pa_nil))))
    (pss_one (ps_set (i := 2) sc_law_bad_deeds_right.nd rfl (Or.inl rfl) (pe_op (o_add (K := K) rfl) (pe_op (o_add (K := K) rfl) (pe_slice (sl_u (K := K) rfl) (pv 2) po_none (po_some (pv 7))) (pe_lst (pa_cons (pe_co G_law_odd (hr.mono (by decide)) rfl T.m_law_odd T.F_law_odd.kp T.B_law_odd (takes_of (E := E) rfl rfl rfl rfl) (pa_cons (pv 0) pa_nil)) pa_nil))) (pe_slice (sl_u (K := K) rfl) (pv 2) (po_some (pv 7)) po_none))))))
    (pss_cons (ps_set (i := 4) sc_law_bad_deeds_right.nd rfl (Or.inl rfl) (pe_ix (ix_u (K := K) rfl) (pe_lc (own := [("_law_one", 8)]) rfl sc_law_bad_deeds_right.nd (pi_lst (K := K) rfl (pv 2)) (blkOk_by (own := [("_law_one", 8)]) (N := N_law_bad_deeds_right) (sc := defScope s_law_bad_deeds_right) (by decide +kernel)) (fun _ _ _ _ _ => (pg_name (i := 8) sc_law_bad_deeds_right.nd rfl (Or.inl rfl))) (fun _ _ _ _ _ => (pts_one (pt_cmpR (o_notinT (K := K) rfl hr) (pv 8) (pv 1) rfl))) (fun _ _ _ _ _ => (pv 8))) pe_int (fun _ _ => rfl)))
    (pss_cons (ps_set (i := 5) sc_law_bad_deeds_right.nd rfl (Or.inl rfl) (pe_co G_law_wrote (hr.mono (by decide)) rfl T.m_law_wrote T.F_law_wrote.kp T.B_law_wrote (takes_of (E := E) rfl rfl rfl rfl) (pa_cons (pv 2) pa_nil)))
    (pss_cons (ps_if (pt_val (pe_callB (c_isi (K := K) rfl) rfl T.z_isinstance bt_isinstance (pa_cons (pv 4) (pa_cons (pe_ty rfl T.z_list bt_list) pa_nil))))
    (pss_one (ps_expr (pe_bm PySem.F.plainAttrs_list PySem.F.slot_list_append PySem.F.type_list_append mt_append (pv 4) (pa_cons pe_str pa_nil))))
    pss_nil)
    (pss_cons (ps_if (PW.pt (pw_or (pt_cmpR (o_ne (K := K) rfl hr) (pe_ix (ix_u (K := K) rfl) (pv 5) pe_int (fun _ _ => rfl)) pe_str (nomark _)) (pw_or1 (pt_cmpR (o_ne (K := K) rfl hr) (pe_callB (c_repr (K := K) rfl hg hr hs) rfl T.z_repr bt_repr (pa_cons (pe_ix (ix_u (K := K) rfl) (pv 5) pe_int (fun _ _ => rfl)) pa_nil)) (pe_callB (c_repr (K := K) rfl hg hr hs) rfl T.z_repr bt_repr (pa_cons (pv 4) pa_nil)) (nomark _)))))
    (pss_one (ps_ret pe_bl))
    pss_nil)
    (pss_cons (ps_set (i := 6) sc_law_bad_deeds_right.nd rfl (Or.inl rfl) (pe_ix (ix_u (K := K) rfl) (pe_lst (pa_cons pe_non (pa_cons pe_str (pa_cons pe_int (pa_cons pe_dnewK (pa_cons pe_bl pa_nil)))))) (pe_co G_law_take (hr.mono (by decide)) rfl T.m_law_take T.F_law_take.kp T.B_law_take (takes_of (E := E) rfl rfl rfl rfl) (pa_cons (pv 0) (pa_cons pe_int pa_nil))) (fun _ _ => rfl)))
    (pss_cons (ps_set (i := 5) sc_law_bad_deeds_right.nd rfl (Or.inl rfl) (pe_co G_law_wrote (hr.mono (by decide)) rfl T.m_law_wrote T.F_law_wrote.kp T.B_law_wrote (takes_of (E := E) rfl rfl rfl rfl) (pa_cons (pv 6) pa_nil)))
    (pss_one (ps_ret (pe_and (pe_cmpR (o_eq (K := K) rfl hr) (pe_ix (ix_u (K := K) rfl) (pv 5) pe_int (fun _ _ => rfl)) pe_str (nomark _)) (pe_one (pe_cmpR (o_eq (K := K) rfl hr) (pe_callB (c_repr (K := K) rfl hg hr hs) rfl T.z_repr bt_repr (pa_cons (pe_ix (ix_u (K := K) rfl) (pv 5) pe_int (fun _ _ => rfl)) pa_nil)) (pe_callB (c_repr (K := K) rfl hg hr hs) rfl T.z_repr bt_repr (pa_cons (pv 6) pa_nil)) (nomark _)))))))))))))), ?_⟩
  rw [st_law_bad_deeds_right]
  have hlv := R.len
  have hfl : ∀ xs ∈ xss, FlX xs := fun xs hx => (g xs hx).fl
  walk_at "u"
  refine s_list (SqL.of ea) fun l1 H1 f1 e1 k1 => ?_
  walk_at "u"
  walk_at "tk"
  intro q H2 q0 q1 B2 k2
  obtain ⟨q, rfl⟩ := Int.eq_ofNat_of_zero_le q0
  walk_at "u"
  refine s_rng (by omega) (by omega) ?_
  have e12 : H2 l1 = some (.lst vs) := by walk_at "g"
  have n1 : l1 ≠ p := by walk_at "ne"
  have ft : H l1 = none := by walk_at "f"
  have z2 : Kz [p] H H2 := ⟨by walk_at "k"⟩
  have M2 : Mi H2 xss (fun b => H b = none ∧ b ≠ p) vs (xss.map fun xs => some (rowOf xs)) := Mi.good ((R.kp k1).kp k2) fun _ h => h
  clear k1 k2 e1 f1
  obtain ⟨z2⟩ := z2
  refine for_R (fun i σ H' => Kp [p] H H' ∧ Box H' p (n + 1 + 10 * i) ∧ ∃ (l : Addr) (ms : List V) (os : List (Option Str)) (u3 u7 : Option V), H' l = some (.lst ms) ∧ l ≠ p ∧ Mi H' xss (fun b => H b = none ∧ b ≠ p) ms os ∧ ms.length ≤ 100 + i ∧ (1 ≤ i → none ∈ os) ∧ σ = [some (.ref p), some (.ref a), some (.ref l), u3, none, none, none, u7, none]) ⟨z2, B2, l1, vs, _, _, _, e12, n1, M2, by omega, by omega, rfl⟩ ?_ ?_
  · rintro i σ H3 hi ⟨k3, B3, l, ms, os, u3, u7, el, nl, M3, lm, ho, rfl⟩
    walk_at "u"
    refine s_lenl el ?_
    walk_at "u"
    walk_at "tk"
    intro d H4 d0 d1 B4 k4
    have el4 : H4 l = some (.lst ms) := by walk_at "g"
    have M4 := M3.kpn k4 (by intro b hb hf; rw [List.mem_singleton.mp hb] at hf; exact hf.2 rfl)
    have z4 : Kz [p] H H4 := ⟨k3.trans k4⟩
    clear k3 k4 el M3 B3
    obtain ⟨z4⟩ := z4
    walk_at "u"
    refine s_sll (SqL.of el4) fun l5 H5 f5 e5 k5 => ?_
    rw [(cut_td ms d0).1] at e5
    walk_at "u"
    refine ⟨_, rfl, p, n + 1 + 10 * i + 1, rfl, B4.kp k5, by omega, fun v dd F H6 hO hF B6 k6 => ?_⟩
    have z6 : Kz [p] H H6 := ⟨z4.trans (k5.nil.trans k6)⟩
    have n5 : l5 ≠ p := by walk_at "ne"
    have M6 := (M4.kpn k5 (by simp)).kpn k6 (by intro b hb hf; rw [List.mem_singleton.mp hb] at hf; exact hf.2 rfl)
    have hF' : ∀ b ∈ F, H b = none ∧ b ≠ p := fun b hb => ⟨z4.dom b (k5.dom b (hF b hb).1), (hF b hb).2⟩
    have e56 : H6 l5 = some (.lst (ms.take d.toNat)) := k6.get1 e5 n5
    have el6 : H6 l = some (.lst ms) := k6.get1 (k5.get0 el4) nl
    clear k5 k6 el4 e5 M4 B4 z4
    obtain ⟨z6⟩ := z6
    walk_at "u"
    walk_at "na"
    intro l7 H7 f7 e7 k7
    refine s_addl (xs := ms.take d.toNat) (by walk_at "g") e7 (zle (by simp; omega)) fun l8 H8 f8 e8 k8 => ?_
    walk_at "u"
    refine s_sll (xs := ms) (SqL.of (by walk_at "g")) fun l9 H9 f9 e9 k9 => ?_
    rw [(cut_td ms d0).2] at e9
    refine s_addl (by walk_at "g") e9 (zle (by simp; omega)) fun l10 H10 f10 e10 k10 => ?_
    walk_at "u"
    have kk : Kp [] H6 H10 := ((k7.trans k8).trans k9).trans k10
    have n10 : l10 ≠ p := by walk_at "ne"
    have M10 := M6.kpn kk (by simp)
    have O10 := hO.kpn kk (by simp)
    have dn : d.toNat ≤ ms.length := by omega
    exact ⟨z6.trans kk.nil, (B6.kp kk).more (by omega), l10, _, os.take d.toNat ++ [none] ++ os.drop d.toNat, _, _, e10, n10, ((M10.td _).1.app (.odd O10 hF' .nil)).app (M10.td _).2, by simp; omega, fun _ => by simp, rfl⟩
  · rintro σ H3 ⟨k3, B3, l, ms, os, u3, u7, el, nl, M3, lm, ho, rfl⟩
    have ho := ho (by omega)
    have lm2 : ms.length ≤ 110 := by omega
    have B3 : Box H3 p (n + 30) := B3.more (by omega)
    have hlo := M3.len
    have ea3 : H3 a = some (.lst vs) := k3.get1 ea nap
    have R3 := R.kp k3
    clear z2 e12 M2 B2 lm
    walk_at "u"
    refine s_ilst (SqL.of el) ?_
    intro D hD
    refine lc_L el hD (fun i acc H' => Kp [D] H3 H' ∧ acc.length ≤ i ∧ ((acc = [] ∧ ∀ m : Nat, m < i → os[m]? ≠ some none) ∨ ∃ (j : Nat) (v : V) (r : List V), acc = v :: r ∧ ms[j]? = some v ∧ os[j]? = some none ∧ ∀ m : Nat, m < j → os[m]? ≠ some none)) (fun H4 e4 k4 => ⟨by walk_at "k", by simp, Or.inl ⟨rfl, by intro m h; omega⟩⟩) (fun i acc H' p o e => p.1.get1 e (by walk_at "ne")) ?_ ?_
    · rintro i x acc H4 ex ea4 ⟨k4, la, c⟩
      have hi := (List.getElem?_eq_some_iff.mp ex).1
      have k34 := k4.drop hD
      walk_at "u"
      refine ⟨rfl, ?_⟩
      walk_at "u"
      rcases M3.at ex with ⟨t, xs, rfl, eo, et, m⟩ | ⟨d, F, eo, hO, _⟩
      · refine deed_in (k34.tgt et) m (k34.get0 ea3) (R3.kp k34) g ?_
        walk_at "u"
        refine ⟨_, ea4, k4, by omega, ?_⟩
        rcases c with ⟨rfl, c⟩ | c
        · refine Or.inl ⟨rfl, fun m hm => ?_⟩
          by_cases hmi : m = i
          · rw [hmi, eo]; simp
          · exact c m (by omega)
        · exact Or.inr c
      · refine (hO.kpn k34 (by simp)).nin (k34.get0 ea3) (R3.kp k34) g ?_
        walk_at "u"
        refine PvD.add (acc := acc) ea4 (by omega) fun H5 e5 k5 => ⟨by walk_at "k", by simp; omega, Or.inr ?_⟩
        rcases c with ⟨rfl, c⟩ | ⟨j, v, r, rfl, c1, c2, c3⟩
        · exact ⟨i, x, [], rfl, ex, eo, c⟩
        · exact ⟨j, v, r ++ [x], rfl, c1, c2, c3⟩
    rintro acc H4 e4 ⟨k4, la, c⟩
    have k34 := k4.drop hD
    have hc : ∃ (j : Nat) (v : V) (r : List V), acc = v :: r ∧ ms[j]? = some v ∧ os[j]? = some none ∧ ∀ m : Nat, m < j → os[m]? ≠ some none := by
      rcases c with ⟨_, c⟩ | c
      · obtain ⟨i, hi⟩ := List.getElem?_of_mem ho
        exact (c i (by have := (List.getElem?_eq_some_iff.mp hi).1; omega) hi).elim
      · exact c
    obtain ⟨j, v, r, rfl, c1, c2, c3⟩ := hc
    obtain ⟨t', xs', _, eo, _⟩ | ⟨d, F, eo, hO3, hF⟩ := M3.at c1
    · rw [c2] at eo
      cases eo
    have hO4 := hO3.kpn k34 (by simp)
    have M4 := M3.kpn k34 (by simp)
    have el4 := k34.get0 el
    have z4 : Kz [p] H H4 := ⟨k3.trans k34.nil⟩
    have B4 := B3.kp k34
    clear k3 k34 k4 M3 el B3 hO3 R3 ea3 hD
    obtain ⟨z4⟩ := z4
    walk_at "u"
    refine s_ixl e4 at0 ?_
    walk_at "u"
    refine ⟨_, rfl, Or.inr ⟨l, ms, os, rfl, Or.inl el4, M4.drs g, by omega, row_len100 M4 g, fun rs er => ?_, fun j' v' e1' e2' e3' => ?_⟩⟩
    · exfalso
      rw [er] at c2
      rw [List.getElem?_map] at c2
      obtain ⟨y, _, z⟩ := Option.map_eq_some_iff.mp c2
      cases z
    have hj : j' = j := by
      have h1 : ¬ j < j' := fun h => e3' j h c2
      have h2 : ¬ j' < j := fun h => c3 j' h e2'
      omega
    subst hj
    rw [c1] at e1'
    cases e1'
    intro u H5 f5 e5 k5
    have hO5 := hO4.kpn k5 (by simp)
    have B5 := B4.kp k5
    have z5 : Kz [p] H H5 := ⟨z4.trans k5.nil⟩
    have fu : H u = none := z4.dom u f5
    have hFu : ∀ b ∈ F, b ≠ u := by
      intro b hb z
      subst z
      cases hO4 with
      | lst e _ _ => rw [List.mem_singleton.mp hb] at f5; rw [e] at f5; cases f5
      | dic e => rw [List.mem_singleton.mp hb] at f5; rw [e] at f5; cases f5
      | _ => cases hb
    have up : u ≠ p := by walk_at "ne"
    clear k5 z4 hO4 M4 el4 e4 B4 f5 e2' e3' c1 c2 c3
    obtain ⟨z5⟩ := z5
    walk_at "s"
    refine jS (fun σ H6 => Kp [p] H H6 ∧ Box H6 p (n + 30) ∧ H6 u = some (.lst [.str "none", v]) ∧ (∃ d', Sh K H6 v d') ∧ σ = [some (.ref p), some (.ref a), some (.ref l), u3, some v, some (.ref u), none, u7, none]) ?_ ?_
    · rintro σ H6 ⟨k6, B6, eu, ⟨d', hs⟩, rfl⟩
      walk_at "u"
      refine s_rep hs ?_
      walk_at "u"
      refine s_rep hs ?_
      walk_at "u"
      rw [decide_eq_true rfl]
      walk_at "u"
      refine s_dnew fun a7 H7 f7 e7 k7 => ?_
      walk_at "u"
      walk_at "na"
      intro l8 H8 f8 e8 k8
      walk_at "u"
      walk_at "tk"
      intro q9 H9 q90 q91 B9 k9
      have e89 := k9.get1 e8 (by walk_at "ne")
      obtain ⟨w9, hw, ew⟩ := ix_memD e89 q90 (by simpa using q91)
      have a79 : H9 a7 = some (.dK []) := by walk_at "g"
      have z9 : Kz [p] H H9 := ⟨by walk_at "k"⟩
      have hO9 : ∃ d F, OddD H9 w9 d F ∧ ∀ a xs, w9 = .ref a → H9 a ≠ some (.lst xs) ∧ H9 a ≠ some (.tup xs) := by
        simp only [List.mem_cons, List.not_mem_nil, or_false] at hw
        rcases hw with rfl | rfl | rfl | rfl | rfl
        · exact ⟨_, _, .non, by intro a xs h; cases h⟩
        · exact ⟨_, _, .str (SS.mk' (by decide +kernel)), by intro a xs h; cases h⟩
        · exact ⟨_, _, .int (by omega) (by omega), by intro a xs h; cases h⟩
        · exact ⟨_, _, .dic a79, by intro a xs h; cases h; rw [a79]; exact ⟨by simp, by simp⟩⟩
        · exact ⟨_, _, .bl, by intro a xs h; cases h⟩
      obtain ⟨d9, F9, hO9, hno⟩ := hO9
      clear k6 k7 k8 k9 e7 f7 f8 e8 B6
      obtain ⟨z9⟩ := z9
      refine s_ixl e89 ew ?_
      walk_at "u"
      have ty9 : ∃ t, TyN H9 w9 t ∧ t.isSeq = false := by
        cases hO9 with
        | non => exact ⟨_, .non, rfl⟩
        | bl => exact ⟨_, .bl, rfl⟩
        | int _ _ => exact ⟨_, .int, rfl⟩
        | str _ => exact ⟨_, .str, rfl⟩
        | tup e _ _ _ => exact ((hno _ _ rfl).2 e).elim
        | lst e _ _ => exact ((hno _ _ rfl).1 e).elim
        | dic e => exact ⟨_, .dic e, rfl⟩
      obtain ⟨t9, ty9, ts9⟩ := ty9
      refine ⟨_, rfl, Or.inl ⟨t9, ty9, ts9, fun u10 H10 f10 e10 k10 => ?_⟩⟩
      have hs10 := (hO9.kpn k10 (by simp)).sh (K := K)
      walk_at "u"
      refine s_rep hs10 ?_
      walk_at "u"
      refine s_rep hs10 ?_
      walk_at "u"
      rw [decide_eq_true rfl]
      exact k _ ((B9.kp k10).more (by omega)) (z9.trans k10.nil)
    intro u' key
    walk_at "u"
    cases hO5 with
    | non =>
      walk_at "u"
      exact key _ _ ⟨z5, B5, e5, ⟨_, OddD.non.sh⟩, rfl⟩
    | bl =>
      walk_at "u"
      exact key _ _ ⟨z5, B5, e5, ⟨_, OddD.bl.sh⟩, rfl⟩
    | int h0 h1 =>
      walk_at "u"
      exact key _ _ ⟨z5, B5, e5, ⟨_, (OddD.int h0 h1).sh⟩, rfl⟩
    | str h0 =>
      walk_at "u"
      exact key _ _ ⟨z5, B5, e5, ⟨_, (OddD.str h0).sh⟩, rfl⟩
    | tup x1 x2 x3 x4 =>
      refine s_isList (.tup x1) ?_
      walk_at "u"
      exact key _ _ ⟨z5, B5, e5, ⟨_, (OddD.tup x1 x2 x3 x4).sh⟩, rfl⟩
    | dic x1 =>
      refine s_isList (.dic x1) ?_
      walk_at "u"
      exact key _ _ ⟨z5, B5, e5, ⟨_, (OddD.dic x1).sh⟩, rfl⟩
    | lst x1 x2 x3 =>
      rename_i b xs
      refine s_isList (.lst x1) ?_
      walk_at "u"
      refine s_app x1 (zlt (by omega)) fun H6 e6 k6 => ?_
      walk_at "u"
      obtain ⟨hb1, hb2⟩ := hF b (by simp)
      have hbu := hFu b (by simp)
      have q6 : ∀ y ∈ xs ++ [V.str "more"], Fq y := fun y hy => by
        rcases List.mem_append.mp hy with hy | hy
        · exact x2 y hy
        · rw [List.mem_singleton.mp hy]; exact fqs (zs := ["more"]) (by decide +kernel) _ (by simp)
      have o6 := shL (K := K) e6 q6 (by simp; omega)
      exact key _ _ ⟨Kp.step z5 k6 (by intro q hq; rw [List.mem_singleton.mp hq]; exact Or.inr hb1), B5.kpn k6 (by simp; exact fun z => hb2 z.symm), k6.get1 e5 hbu.symm, ⟨_, o6⟩, rfl⟩

/-! rows that are none -/
/-! texts otherwise -/
def tot (ys : List Str) : Nat := (ys.map fun y => y.length + 1).sum
theorem tot_app (xs ys : List Str) : tot (xs ++ ys) = tot xs + tot ys := by simp [tot]
theorem tot_cons (x : Str) (ys : List Str) : tot (x :: ys) = x.length + 1 + tot ys := by simp [tot]
theorem tot_nil : tot [] = 0 := rfl
theorem tot_td (ys : List Str) (n : Nat) : tot (ys.take n) + tot (ys.drop n) = tot ys := by
  rw [← tot_app, List.take_append_drop]
theorem tot_dd (ys : List Str) (n : Nat) : tot (ys.drop (n + 1)) ≤ tot (ys.drop n) := by
  by_cases h : n < ys.length
  · rw [List.drop_eq_getElem_cons h, tot_cons]; omega
  · rw [List.drop_of_length_le (by omega), tot_nil]; omega
theorem tot_mem {y : Str} : ∀ {ys : List Str}, y ∈ ys → y.length + 1 ≤ tot ys
  | x :: ys, h => by
    rw [tot_cons]
    rcases List.mem_cons.mp h with rfl | h
    · omega
    · have := tot_mem h; omega
theorem join_tot {a : Str} (h : a.length = 1) : ∀ ws : List Str, (Str.join a ws).length ≤ tot ws
  | [] => Nat.zero_le _
  | [v] => by show v.length ≤ _; rw [tot_cons]; omega
  | v :: v2 :: r => by
    have e : Str.join a (v :: v2 :: r) = v ++ a ++ Str.join a (v2 :: r) := rfl
    have e2 : (Str.join a (v :: v2 :: r)).length = v.length + a.length + (Str.join a (v2 :: r)).length := by rw [e]; simp [Str.length, Str.cps_append]; omega
    have := join_tot h (v2 :: r)
    rw [tot_cons, e2]
    omega
theorem tot_join {a : Str} (h : a.length = 1) : ∀ ws : List Str, tot ws ≤ (Str.join a ws).length + 1
  | [] => Nat.zero_le _
  | [v] => by show tot [v] ≤ v.length + 1; rw [tot_cons, tot_nil]; omega
  | v :: v2 :: r => by
    have e : Str.join a (v :: v2 :: r) = v ++ a ++ Str.join a (v2 :: r) := rfl
    have e2 : (Str.join a (v :: v2 :: r)).length = v.length + a.length + (Str.join a (v2 :: r)).length := by rw [e]; simp [Str.length, Str.cps_append]; omega
    have := tot_join h (v2 :: r)
    rw [tot_cons, e2]
    omega
theorem tot_split {z a : Str} (h : a.length = 1) : tot (Txt.split z a) ≤ z.length + 1 := by
  have := tot_join h (Txt.split z a)
  rwa [StrLaws.join_split] at this
theorem len_tot (ys : List Str) : ys.length ≤ tot ys := by
  induction ys with
  | nil => exact Nat.le_refl _
  | cons y ys ih => rw [tot_cons, List.length_cons]; omega
theorem sum_tot (ys : List Str) : (ys.map (·.length)).sum + ys.length = tot ys := by
  induction ys with
  | nil => rfl
  | cons y ys ih => rw [tot_cons, List.map_cons, List.sum_cons, List.length_cons]; omega
/-- signs that are signs -/
def Cp (z : Str) : Prop := ∀ c ∈ z.cps.toList, c < 1114112
def Cs (ys : List Str) : Prop := ∀ y ∈ ys, Cp y
theorem Cs.app {xs ys : List Str} (h : Cs xs) (g : Cs ys) : Cs (xs ++ ys) := fun y hy => (List.mem_append.mp hy).elim (h y) (g y)
theorem Cs.take {ys : List Str} {n : Nat} (h : Cs ys) : Cs (ys.take n) := fun y hy => h y (List.mem_of_mem_take hy)
theorem Cs.drop {ys : List Str} {n : Nat} (h : Cs ys) : Cs (ys.drop n) := fun y hy => h y (List.mem_of_mem_drop hy)
theorem Cs.split {z a : Str} (h : Cp z) : Cs (Txt.split z a) := fun w hw c hc => h c (by
  have := join_of_mem (a := a) hw hc
  rwa [StrLaws.join_split] at this)
theorem Cs.join {a : Str} {ys : List Str} (h : Cs ys) (ha : Cp a) : Cp (Txt.join a ys) := by
  intro c hc
  rcases join_mem hc with h1 | ⟨z, hz, h1⟩
  · exact ha c h1
  · exact h z hz c h1
theorem Cs.nil : Cs [] := fun y hy => by cases hy
theorem Cs.cons {y : Str} {ys : List Str} (h : Cp y) (g : Cs ys) : Cs (y :: ys) := fun z hz => (List.mem_cons.mp hz).elim (fun e => e ▸ h) (g z)
theorem Cp.app {y z : Str} (h : Cp y) (g : Cp z) : Cp (y ++ z) := by
  intro c hc
  rw [Str.cps_append, Array.toList_append] at hc
  exact (List.mem_append.mp hc).elim (h c) (g c)
theorem app_len (a b : Str) : (a ++ b).length = a.length + b.length := by simp [Str.length, Str.cps_append]
theorem str_at {ys : List Str} {i : Int} (h0 : 0 ≤ i) (h1 : i < ys.length) : ∃ y, y ∈ ys ∧ atI (ys.map V.str) i = some (.str y) := by
  obtain ⟨v, hv, ev⟩ := at_int (xs := ys.map V.str) h0 (by simpa using h1)
  rw [List.getElem?_map] at hv
  obtain ⟨z, hz, rfl⟩ := Option.map_eq_some_iff.mp hv
  exact ⟨z, List.mem_of_getElem? hz, ev⟩
def cpB (z : Str) : Bool := z.cps.toList.all fun c => decide (c < 1114112)
theorem cp_of {z : Str} (h : cpB z = true) : Cp z := fun c hc => of_decide_eq_true (List.all_eq_true.mp h c hc)
theorem sp_cp : Cp " " ∧ Cp "\n" ∧ Cp "" := ⟨cp_of (by decide +kernel), cp_of (by decide +kernel), cp_of (by decide +kernel)⟩
theorem sp_1 : (" " : Str).length = 1 ∧ ("\n" : Str).length = 1 ∧ ("" : Str).length = 0 := by decide +kernel

def Gn (y : Str) : Prop := ∀ c ∈ y.cps.toList, c < 128 ∧ c ≠ 10
def Gns (ys : List Str) : Prop := ∀ y ∈ ys, Gn y
theorem Gns.app {xs ys : List Str} (h : Gns xs) (g : Gns ys) : Gns (xs ++ ys) := fun y hy => (List.mem_append.mp hy).elim (h y) (g y)
theorem Gns.take {ys : List Str} {n : Nat} (h : Gns ys) : Gns (ys.take n) := fun y hy => h y (List.mem_of_mem_take hy)
theorem Gns.drop {ys : List Str} {n : Nat} (h : Gns ys) : Gns (ys.drop n) := fun y hy => h y (List.mem_of_mem_drop hy)
theorem Gns.one {y : Str} (h : Gn y) : Gns [y] := fun z hz => by rw [List.mem_singleton.mp hz]; exact h
theorem gn_of {z : Str} (h : (z.cps.toList.all fun c => decide (c < 128 ∧ c ≠ 10)) = true) : Gn z := fun c hc => of_decide_eq_true (List.all_eq_true.mp h c hc)
theorem zle2D {n : Nat} (h : n ≤ 100000) : n + 2 ≤ sizeLine := Nat.le_trans (show n + 2 ≤ 100002 by omega) (by decide)
def moreW : List Str := ["", "a", "to", "0", "07", "staff", "A"]
theorem moreW_ok : ∀ y ∈ moreW, y.length ≤ 5 ∧ (y.cps.toList.all fun c => decide (c < 128 ∧ c ≠ 10)) = true := by decide +kernel
def sp_law_bad_row : Sp := sp2 fun x y H Q _ => ∃ (p : Addr) (n : Nat) (z : Str) (m : Nat), x = .ref p ∧ y = .str z ∧ Box H p n ∧ n ≤ 800000 ∧ RowN m z ∧ m ≤ 300 ∧ ∀ (z2 : Str) (H' : Hp), RowN (m + 20) z2 → Box H' p (n + 5) → Kp [p] H H' → Q (.str z2) H'
set_option maxHeartbeats 16000000 in
theorem ok_law_bad_row (T : Tx K mg w) : FnOk P w K mg base (L2.CX P w) 2 T.a_law_bad_row T.d_law_bad_row ["_law_box_here", "_law_row"] (sp_law_bad_row) := by
  have G_law_take := ok_law_take (P := P) (w := w) (base := base) T
  refine T.F_law_bad_row.okX sc_law_bad_row (fun vs H Q E h => ?_) (fun cd A o s H vs Q E hr h => ?_)
  · obtain ⟨v0, v1, rfl, h⟩ := h; rfl
  obtain ⟨v0, v1, rfl, h⟩ := h
  obtain ⟨p, n, z, m, rfl, rfl, hB, hn, ⟨hg, hz⟩, hm, k⟩ := h
  refine ⟨_, (pss_cons (ps_set (i := 2) sc_law_bad_row.nd rfl (Or.inl rfl) (pe_split (pv 1) pe_str))
    (pss_cons (ps_set (i := 3) sc_law_bad_row.nd rfl (Or.inl rfl) (pe_co G_law_take (hr.mono (by decide)) rfl T.m_law_take T.F_law_take.kp T.B_law_take (takes_of (E := E) rfl rfl rfl rfl) (pa_cons (pv 0) (pa_cons pe_int pa_nil))))
    (pss_cons (ps_set (i := 4) sc_law_bad_row.nd rfl (Or.inl rfl) (pe_co G_law_take (hr.mono (by decide)) rfl T.m_law_take T.F_law_take.kp T.B_law_take (takes_of (E := E) rfl rfl rfl rfl) (pa_cons (pv 0) (pa_cons (pe_op (o_add (K := K) rfl) (pe_callB (c_len (K := K) rfl) rfl T.z_len bt_len (pa_cons (pv 2) pa_nil)) pe_int) pa_nil))))
    (pss_cons (ps_set (i := 5) sc_law_bad_row.nd rfl (Or.inl rfl) (pe_ix (ix_u (K := K) rfl) (pe_lst (pa_cons pe_str (pa_cons pe_str (pa_cons pe_str (pa_cons pe_str (pa_cons pe_str (pa_cons pe_str (pa_cons pe_str pa_nil)))))))) (pe_co G_law_take (hr.mono (by decide)) rfl T.m_law_take T.F_law_take.kp T.B_law_take (takes_of (E := E) rfl rfl rfl rfl) (pa_cons (pv 0) (pa_cons pe_int pa_nil))) (fun _ _ => rfl)))
    (pss_cons (ps_set (i := 6) sc_law_bad_row.nd rfl (Or.inl rfl) (pe_lst (pa_cons (pe_op (o_add (K := K) rfl) (pe_op (o_add (K := K) rfl) (pe_slice (sl_u (K := K) rfl) (pv 2) po_none (po_some (pv 4))) (pe_lst (pa_cons (pv 5) pa_nil))) (pe_slice (sl_u (K := K) rfl) (pv 2) (po_some (pv 4)) po_none)) (pa_cons (pe_op (o_add (K := K) rfl) (pe_slice (sl_u (K := K) rfl) (pv 2) po_none (po_some (pv 4))) (pe_slice (sl_u (K := K) rfl) (pv 2) (po_some (pe_op (o_add (K := K) rfl) (pv 4) pe_int)) po_none)) (pa_cons (pe_op (o_add (K := K) rfl) (pe_op (o_add (K := K) rfl) (pe_slice (sl_u (K := K) rfl) (pv 2) po_none (po_some (pv 4))) (pe_lst (pa_cons (pv 5) pa_nil))) (pe_slice (sl_u (K := K) rfl) (pv 2) (po_some (pe_op (o_add (K := K) rfl) (pv 4) pe_int)) po_none)) pa_nil)))))
    (pss_one (ps_ret (pe_joinU (K := K) rfl pe_str (pe_ix (ix_u (K := K) rfl) (pv 6) (pv 3) (fun _ _ => rfl)))))))))), ?_⟩
  rw [st_law_bad_row]
  have ht := tot_split (z := z) (a := " ") nl_1.2
  have hcw : Gns (Txt.split z " ") := fun w hw c hc => hg c (by
    have := join_of_mem (a := " ") hw hc
    rwa [StrLaws.join_split] at this)
  walk_at "u"
  refine s_spl3 (z := z) (sep := " ") (by decide +kernel) (zle2D (by omega)) rfl fun l1 H1 f1 e1 k1 => ?_
  generalize Txt.split z " " = ws at *
  have ltw := len_tot ws
  walk_at "u"
  walk_at "tk"
  intro way H2 w0 w1 B2 k2
  walk_at "u"
  refine s_lenl (xs := ws.map V.str) (by walk_at "g") ?_
  rw [List.length_map]
  walk_at "u"
  walk_at "tk"
  intro i H3 i0 i1 B3 k3
  walk_at "u"
  walk_at "na"
  intro l4 H4 f4 e4 k4
  have e4 : H4 l4 = some (.lst (moreW.map V.str)) := e4
  walk_at "u"
  walk_at "tk"
  intro q H5 q0 q1 B5 k5
  obtain ⟨o, mo, eo⟩ := str_at (ys := moreW) q0 (by simpa [moreW] using q1)
  obtain ⟨lo, go⟩ := moreW_ok o mo
  have go := gn_of go
  refine s_ixl (xs := moreW.map V.str) (by walk_at "g") eo ?_
  have z5 : Kz [p] H H5 := ⟨by walk_at "k"⟩
  have e15 : H5 l1 = some (.lst (ws.map V.str)) := by walk_at "g"
  have n1 : l1 ≠ p := by walk_at "ne"
  clear k1 k2 k3 k4 k5 e1 f1 e4 f4 B2 B3
  obtain ⟨z5⟩ := z5
  have t1 := tot_td ws i.toNat
  have t2 := tot_dd ws i.toNat
  walk_at "u"
  refine s_sll (SqL.of e15) fun l6 H6 f6 e6 k6 => ?_
  rw [cut_pre _ i0, ← List.map_take] at e6
  walk_at "u"
  walk_at "na"
  intro l7 H7 f7 e7 k7
  have e7 : H7 l7 = some (.lst (([o] : List Str).map V.str)) := e7
  refine s_addl (xs := (ws.take i.toNat).map V.str) (by walk_at "g") e7 (zle (by simp; omega)) fun l8 H8 f8 e8 k8 => ?_
  rw [← List.map_append] at e8
  walk_at "u"
  refine s_sll (xs := ws.map V.str) (SqL.of (by walk_at "g")) fun l9 H9 f9 e9 k9 => ?_
  rw [cut_tail _ i0, ← List.map_drop] at e9
  refine s_addl (by walk_at "g") e9 (zle (by simp; omega)) fun m1 H10 f10 e10 k10 => ?_
  rw [← List.map_append] at e10
  walk_at "u"
  refine s_sll (xs := ws.map V.str) (SqL.of (by walk_at "g")) fun l11 H11 f11 e11 k11 => ?_
  rw [cut_pre _ i0, ← List.map_take] at e11
  walk_at "u"
  refine s_sll (xs := ws.map V.str) (SqL.of (by walk_at "g")) fun l12 H12 f12 e12 k12 => ?_
  rw [cut_tail _ (by omega), ← List.map_drop] at e12
  refine s_addl (xs := (ws.take i.toNat).map V.str) (by walk_at "g") e12 (zle (by simp; omega)) fun m2 H13 f13 e13 k13 => ?_
  rw [← List.map_append] at e13
  walk_at "u"
  refine s_sll (xs := ws.map V.str) (SqL.of (by walk_at "g")) fun l14 H14 f14 e14 k14 => ?_
  rw [cut_pre _ i0, ← List.map_take] at e14
  walk_at "u"
  walk_at "na"
  intro l15 H15 f15 e15' k15
  have e15' : H15 l15 = some (.lst (([o] : List Str).map V.str)) := e15'
  refine s_addl (xs := (ws.take i.toNat).map V.str) (by walk_at "g") e15' (zle (by simp; omega)) fun l16 H16 f16 e16 k16 => ?_
  rw [← List.map_append] at e16
  walk_at "u"
  refine s_sll (xs := ws.map V.str) (SqL.of (by walk_at "g")) fun l17 H17 f17 e17 k17 => ?_
  rw [cut_tail _ (by omega), ← List.map_drop] at e17
  refine s_addl (by walk_at "g") e17 (zle (by simp; omega)) fun m3 H18 f18 e18 k18 => ?_
  rw [← List.map_append] at e18
  walk_at "u"
  walk_at "na"
  intro l19 H19 f19 e19 k19
  have i1' : H19 m1 = some (.lst ((ws.take i.toNat ++ [o] ++ ws.drop i.toNat).map V.str)) := by walk_at "g"
  have i2' : H19 m2 = some (.lst ((ws.take i.toNat ++ ws.drop (i + 1).toNat).map V.str)) := by walk_at "g"
  have i3' : H19 m3 = some (.lst ((ws.take i.toNat ++ [o] ++ ws.drop (i + 1).toNat).map V.str)) := by walk_at "g"
  have hd : (i + 1).toNat = i.toNat + 1 := by omega
  have fin : ∃ (mm : Addr) (xs : List Str), atI [V.ref m1, V.ref m2, V.ref m3] way = some (.ref mm) ∧ H19 mm = some (.lst (xs.map V.str)) ∧ Gns xs ∧ tot xs ≤ tot ws + 6 := by
    have hw : way = 0 ∨ way = 1 ∨ way = 2 := by omega
    rcases hw with rfl | rfl | rfl
    · exact ⟨m1, _, rfl, i1', (hcw.take.app (.one go)).app hcw.drop, by rw [tot_app, tot_app, tot_cons, tot_nil]; omega⟩
    · exact ⟨m2, _, rfl, i2', hcw.take.app hcw.drop, by rw [tot_app, hd]; omega⟩
    · exact ⟨m3, _, rfl, i3', (hcw.take.app (.one go)).app hcw.drop, by rw [tot_app, tot_app, tot_cons, tot_nil, hd]; omega⟩
  obtain ⟨mm, xs, em, exs, gx, tx⟩ := fin
  walk_at "u"
  refine s_ixl e19 em ?_
  walk_at "u"
  refine s_join exs ?_ ?_
  · have := sum_tot xs
    rw [nl_1.2]
    omega
  walk_at "u"
  have lj : (Txt.join " " xs).length ≤ tot xs := by
    rw [tj]
    exact join_tot nl_1.2 _
  refine k _ H19 ⟨fun c hc => ?_, by omega⟩ (Box.more (n := n + 3) (by walk_at "g") (by omega)) (by walk_at "k")
  rcases join_mem hc with h1 | ⟨y, hy, h1⟩
  · rw [sp_eq] at h1
    simp at h1
    omega
  · exact gx y hy c h1
/-- of a thing: what is told, whoever reads it -/
def AnD (K : PySem.W.Frag) (H : Hp) (x : V) : Prop := ∃ d : PyData, ∀ (H1 : Hp) (Q : VK), Kp [] H H1 → (∀ u H', Sh K H' u d → Kp [] H1 H' → Q u H') → SpD x H1 Q
theorem anD_no {H : Hp} {x : V} {t : Kd} (ty : TyN H x t) (hn : t ≠ .str) : AnD K H x :=
  ⟨.list [.str "row", .int 0], fun H1 Q k1 q => Or.inl ⟨t, ty.kp k1, hn, fun u H' _ e k => q _ H' (sh_row e (by omega) (by omega)) k⟩⟩
theorem anD_str {H : Hp} {z : Str} (h : LogN z) : AnD K H (.str z) := by
  have hr := h.2
  rcases all_or_none ((rwsD z).map rdD) with ⟨xss, e⟩ | ⟨j, ej, hj⟩
  · have hfl : ∀ xs ∈ xss, FlX xs := fun xs hx => by
      have : some xs ∈ (rwsD z).map rdD := by rw [e]; exact List.mem_map.mpr ⟨xs, hx, rfl⟩
      obtain ⟨r, _, er⟩ := List.mem_map.mp this
      exact rdD_fl er
    have hl : xss.length ≤ 1000 := by
      have := congrArg List.length e
      rw [List.length_map, List.length_map] at this
      omega
    refine ⟨.list [.str "told", .list (xss.map dX)], fun H1 Q k1 q => Or.inr ⟨z, rfl, h, fun ys hy u l vs H' fu fl ne eu el R k => ?_, fun j r e1 e2 e3 => ?_⟩⟩
    · have := some_injD (e.symm.trans hy)
      subst this
      exact q _ H' (sh_told eu el R hfl hl) k
    · exfalso
      have : ((rwsD z).map rdD)[j]? = some none := by rw [List.getElem?_map, e1, Option.map_some, e2]
      rw [e, List.getElem?_map] at this
      obtain ⟨y, _, z⟩ := Option.map_eq_some_iff.mp this
      cases z
  · obtain ⟨r, er, en⟩ : ∃ r, (rwsD z)[j]? = some r ∧ rdD r = none := by
      rw [List.getElem?_map] at ej
      obtain ⟨r, a, b⟩ := Option.map_eq_some_iff.mp ej
      exact ⟨r, a, b⟩
    have hi := (List.getElem?_eq_some_iff.mp er).1
    have hne : ∀ (m : Nat) (r : Str), m < j → (rwsD z)[m]? = some r → rdD r ≠ none := fun m r' hm er' hn => hj m hm (by rw [List.getElem?_map, er', Option.map_some, hn])
    refine ⟨.list [.str "row", .int (1 + (j : Int))], fun H1 Q k1 q => Or.inr ⟨z, rfl, h, fun ys hy u l vs H' fu fl ne eu el R k => ?_, fun j' r' e1 e2 e3 => ?_⟩⟩
    · exfalso
      rw [hy, List.getElem?_map] at ej
      obtain ⟨y, _, z⟩ := Option.map_eq_some_iff.mp ej
      cases z
    · have hjj : j' = j := by
        have h1 : ¬ j < j' := fun h => e3 j r h er en
        have h2 : ¬ j' < j := fun h => hne j' r' h e1 e2
        omega
      subst hjj
      exact fun u H' _ e k => q _ H' (sh_row e (by omega) (by omega)) k
theorem AnD.kp {H H1 : Hp} {x : V} (h : AnD K H x) (k : Kp [] H H1) : AnD K H1 x := by
  obtain ⟨d, h⟩ := h
  exact ⟨d, fun H2 Q k2 q => h H2 Q (k.trans k2) q⟩
theorem come_n : RowN 20 "come a" ∧ RowN 20 "" := ⟨⟨gn_of (by decide +kernel), by decide +kernel⟩, ⟨gn_of (by decide +kernel), by decide +kernel⟩⟩
theorem rows_app {m : Nat} {xs ys : List Str} (h : ∀ y ∈ xs, RowN m y) (g : ∀ y ∈ ys, RowN m y) : ∀ y ∈ xs ++ ys, RowN m y := fun y hy => (List.mem_append.mp hy).elim (h y) (g y)
def sp_law_bad_rows_right (T : Tx K mg w) : Sp := sp2 fun x y H Q _ => ∃ (p : Addr) (n : Nat) (b : Addr) (ys : List Str), x = .ref p ∧ y = .ref b ∧ Box H p n ∧ n ≤ 700000 ∧ H b = some (.lst (ys.map V.str)) ∧ b ≠ p ∧ (∀ y ∈ ys, RowN 100 y) ∧ ys.length ≤ 80 ∧ ∀ H', Box H' p (n + 60) → Kp [p] H H' → Q (.bl true) H'
set_option maxHeartbeats 16000000 in
theorem ok_law_bad_rows_right (T : Tx K mg w) (hs : ∃ mm, base.Ns sysModules mm) : FnG P w K mg base (L2.CX P w) 8 T.a_law_bad_rows_right T.d_law_bad_rows_right ["_law_box_here", "_law_rows"] (sp_law_bad_rows_right T) := by
  have G_law_take := ok_law_take (P := P) (w := w) (base := base) T
  have G_law_read := ok_law_read (P := P) (w := w) (base := base) T
  have G_law_read_due := ok_law_read_due (P := P) (w := w) (base := base) T
  have G_law_bad_row := ok_law_bad_row (P := P) (w := w) (base := base) T
  refine okG T.F_law_bad_rows_right sc_law_bad_rows_right (fun vs H Q E h => ?_) (fun cd A o s H vs Q E hg hr h => ?_)
  · obtain ⟨v0, v1, rfl, h⟩ := h; rfl
  obtain ⟨v0, v1, rfl, h⟩ := h
  obtain ⟨p, n, b, ys, rfl, rfl, hB, hn, eb, nbp, hy, hl, k⟩ := h
  refine ⟨_, (pss_cons (ps_set (i := 2) sc_law_bad_rows_right.nd rfl (Or.inl rfl) (pe_op (o_add (K := K) rfl) (pe_callTy (c_list (K := K) rfl) rfl T.z_list bt_list (pa_cons (pv 1) pa_nil)) (pe_op o_mul (pe_lst (pa_cons pe_str pa_nil)) (pe_callTy c_int rfl T.z_int bt_int (pa_cons (pe_cmpR (o_eq (K := K) rfl hr) (pe_co G_law_take (hr.mono (by decide)) rfl T.m_law_take T.F_law_take.kp T.B_law_take (takes_of (E := E) rfl rfl rfl rfl) (pa_cons (pv 0) (pa_cons pe_int pa_nil))) pe_int (nomark _)) pa_nil)))))
    (pss_cons (ps_for PassesOwn.leaving rfl (pi_range1 rfl T.z_range (pa_cons (pe_op (o_add (K := K) rfl) pe_int (pe_co G_law_take (hr.mono (by decide)) rfl T.m_law_take T.F_law_take.kp T.B_law_take (takes_of (E := E) rfl rfl rfl rfl) (pa_cons (pv 0) (pa_cons pe_int pa_nil)))) pa_nil)) (pg_name (i := 3) sc_law_bad_rows_right.nd rfl (Or.inl rfl))
    (pss_cons (ps_set (i := 6) sc_law_bad_rows_right.nd rfl (Or.inl rfl) (pe_co G_law_take (hr.mono (by decide)) rfl T.m_law_take T.F_law_take.kp T.B_law_take (takes_of (E := E) rfl rfl rfl rfl) (pa_cons (pv 0) (pa_cons (pe_op (o_add (K := K) rfl) (pe_callB (c_len (K := K) rfl) rfl T.z_len bt_len (pa_cons (pv 2) pa_nil)) pe_int) pa_nil))))
    (pss_cons (ps_set (i := 7) sc_law_bad_rows_right.nd rfl (Or.inl rfl) (pe_ix (ix_u (K := K) rfl) (pe_op (o_add (K := K) rfl) (pv 2) (pe_lst (pa_cons pe_str pa_nil))) (pv 6) (fun _ _ => rfl)))
    (pss_one (ps_set (i := 2) sc_law_bad_rows_right.nd rfl (Or.inl rfl) (pe_op (o_add (K := K) rfl) (pe_op (o_add (K := K) rfl) (pe_slice (sl_u (K := K) rfl) (pv 2) po_none (po_some (pv 6))) (pe_lst (pa_cons (pe_ix (ix_u (K := K) rfl) (pe_lst (pa_cons pe_str (pa_cons (pe_co G_law_bad_row (hr.mono (by decide)) rfl T.m_law_bad_row T.F_law_bad_row.kp T.B_law_bad_row (takes_of (E := E) rfl rfl rfl rfl) (pa_cons (pv 0) (pa_cons (pv 7) pa_nil))) pa_nil))) (pe_co G_law_take (hr.mono (by decide)) rfl T.m_law_take T.F_law_take.kp T.B_law_take (takes_of (E := E) rfl rfl rfl rfl) (pa_cons (pv 0) (pa_cons pe_int pa_nil))) (fun _ _ => rfl)) pa_nil))) (pe_slice (sl_u (K := K) rfl) (pv 2) (po_some (pe_op (o_add (K := K) rfl) (pv 6) (pe_co G_law_take (hr.mono (by decide)) rfl T.m_law_take T.F_law_take.kp T.B_law_take (takes_of (E := E) rfl rfl rfl rfl) (pa_cons (pv 0) (pa_cons pe_int pa_nil))))) po_none)))))))
    (pss_cons (ps_set (i := 4) sc_law_bad_rows_right.nd rfl (Or.inl rfl) (pe_joinU (K := K) rfl pe_str (pv 2)))
    (pss_cons (ps_for PassesOwn.leaving rfl (pi_lst (K := K) rfl (pe_lst (pa_cons (pv 4) (pa_cons (pe_ix (ix_u (K := K) rfl) (pe_lst (pa_cons (pv 4) (pa_cons pe_int (pa_cons pe_non (pa_cons (pe_lst (pa_cons pe_str pa_nil)) (pa_cons pe_bl pa_nil)))))) (pe_co G_law_take (hr.mono (by decide)) rfl T.m_law_take T.F_law_take.kp T.B_law_take (takes_of (E := E) rfl rfl rfl rfl) (pa_cons (pv 0) (pa_cons pe_int pa_nil))) (fun _ _ => rfl)) pa_nil)))) (pg_name (i := 5) sc_law_bad_rows_right.nd rfl (Or.inl rfl))
    (pss_one (ps_if (pt_cmpR (o_ne (K := K) rfl hr) (pe_callB (c_repr (K := K) rfl hg hr hs) rfl T.z_repr bt_repr (pa_cons (pe_co G_law_read (hr.mono (by decide)) rfl T.m_law_read T.F_law_read.kp T.B_law_read (takes_of (E := E) rfl rfl rfl rfl) (pa_cons (pv 5) pa_nil)) pa_nil)) (pe_callB (c_repr (K := K) rfl hg hr hs) rfl T.z_repr bt_repr (pa_cons (pe_co G_law_read_due (hr.mono (by decide)) rfl T.m_law_read_due T.F_law_read_due.kp T.B_law_read_due (takes_of (E := E) rfl rfl rfl rfl) (pa_cons (pv 5) pa_nil)) pa_nil)) (nomark _))
    (pss_one (ps_ret pe_bl))
    pss_nil)))
    (pss_one (ps_ret pe_bl)))))), ?_⟩
  rw [st_law_bad_rows_right]
  walk_at "u"
  refine s_list (SqL.of eb) fun l1 H1 f1 e1 k1 => ?_
  walk_at "u"
  walk_at "na"
  intro l2 H2 f2 e2 k2
  walk_at "u"
  walk_at "tk"
  intro d H3 d0 d1 B3 k3
  walk_at "u"
  refine s_intB ?_
  have g1 : H3 l1 = some (.lst (ys.map V.str)) := by walk_at "g"
  have g2 : H3 l2 = some (.lst (([""] : List Str).map V.str)) := by walk_at "g"
  have z3 : Kz [p] H H3 := ⟨by walk_at "k"⟩
  clear k1 k2 k3 e1 e2 f1 f2
  obtain ⟨z3⟩ := z3
  have hb : ∃ b : Bool, decide (d = 0) = b := ⟨_, rfl⟩
  obtain ⟨b0, hb⟩ := hb
  rw [hb]
  walk_at "u"
  refine s_repL (k := if b0 = true then 1 else 0) g2 (by split <;> omega) (by split <;> omega) (by cases b0 <;> simp) fun l4 H4 f4 e4 k4 => ?_
  have e4 : ∃ zs : List Str, H4 l4 = some (.lst (zs.map V.str)) ∧ (∀ y ∈ zs, RowN 100 y) ∧ zs.length ≤ 1 := by
    cases b0 with
    | true => exact ⟨[""], by rw [e4]; simp, fun y hy => by rw [List.mem_singleton.mp hy]; exact come_n.2.mono (by omega), by simp⟩
    | false => exact ⟨[], by rw [e4]; simp, by simp, by simp⟩
  obtain ⟨zs, e4, hzs, lzs⟩ := e4
  refine s_addl (k4.get0 g1) e4 (zle (by simp; omega)) fun l5 H5 f5 e5 k5 => ?_
  rw [← List.map_append] at e5
  have hy5 := rows_app hy hzs
  have l5' : (ys ++ zs).length ≤ 81 := by simp; omega
  generalize ys ++ zs = ys at *
  have B5 := (B3.kp k4).kp k5
  have z5 : Kp [p] H H5 := (z3.trans k4.nil).trans k5.nil
  have n5 : l5 ≠ p := by walk_at "ne"
  clear k4 k5 g1 g2 e4 f4 f5 B3 z3 hy hl
  walk_at "u"
  walk_at "tk"
  intro q H6 q0 q1 B6 k6
  obtain ⟨q, rfl⟩ := Int.eq_ofNat_of_zero_le q0
  walk_at "u"
  refine s_rng (by omega) (by omega) ?_
  have e56 : H6 l5 = some (.lst (ys.map V.str)) := by walk_at "g"
  have z6 : Kz [p] H H6 := ⟨z5.trans k6⟩
  clear k6 z5 B5 e5
  obtain ⟨z6⟩ := z6
  refine for_R (fun i σ H' => Kp [p] H H' ∧ Box H' p (n + 2 + 20 * i) ∧ ∃ (l : Addr) (ys : List Str) (u3 u6 u7 : Option V), H' l = some (.lst (ys.map V.str)) ∧ l ≠ p ∧ (∀ y ∈ ys, RowN (100 + 20 * i) y) ∧ ys.length ≤ 81 + i ∧ σ = [some (.ref p), some (.ref b), some (.ref l), u3, none, none, u6, u7]) ⟨z6, B6, l5, ys, _, _, _, e56, n5, hy5, by omega, rfl⟩ ?_ ?_
  · rintro i σ H7 hi ⟨k7, B7, l, ys, u3, u6, u7, el, nl, hy, ly, rfl⟩
    have hi : i ≤ 1 := by omega
    walk_at "u"
    refine s_lenl el ?_
    rw [List.length_map]
    walk_at "u"
    walk_at "tk"
    intro d H8 d0 d1 B8 k8
    walk_at "u"
    walk_at "na"
    intro l9 H9 f9 e9 k9
    have e9 : H9 l9 = some (.lst (([("come a" : Str)] : List Str).map V.str)) := e9
    refine s_addl (xs := ys.map V.str) (by walk_at "g") e9 (zle (by simp; omega)) fun l10 H10 f10 e10 k10 => ?_
    rw [← List.map_append] at e10
    obtain ⟨y, my, ey⟩ := str_at (ys := ys ++ ([("come a" : Str)] : List Str)) d0 (by simp; omega)
    have hyr : RowN (100 + 20 * i) y := by
      rcases List.mem_append.mp my with h | h
      · exact hy y h
      · rw [List.mem_singleton.mp h]; exact come_n.1.mono (by omega)
    walk_at "u"
    refine s_ixl e10 ey ?_
    have el10 : H10 l = some (.lst (ys.map V.str)) := by walk_at "g"
    have B10 : Box H10 p (n + 2 + 20 * i + 1) := by walk_at "g"
    have z10 : Kz [p] H H10 := ⟨by walk_at "k"⟩
    clear k7 k8 k9 k10 e9 e10 f9 f10 B7 B8 el
    obtain ⟨z10⟩ := z10
    walk_at "u"
    refine s_sll (SqL.of el10) fun l11 H11 f11 e11 k11 => ?_
    rw [cut_pre _ d0, ← List.map_take] at e11
    walk_at "u"
    refine ⟨_, _, rfl, p, n + 2 + 20 * i + 1, y, 100 + 20 * i, rfl, rfl, B10.kp k11, by omega, hyr, by omega, fun o H12 ho B12 k12 => ?_⟩
    walk_at "u"
    walk_at "na"
    intro l13 H13 f13 e13 k13
    have e13 : H13 l13 = some (.lst ((["", o] : List Str).map V.str)) := e13
    walk_at "u"
    walk_at "tk"
    intro g H14 g0 g1 B14 k14
    obtain ⟨o2, mo2, eo2⟩ := str_at (ys := ["", o]) g0 (by simpa using g1)
    have ho2 : RowN (100 + 20 * (i + 1)) o2 := by
      simp only [List.mem_cons, List.not_mem_nil, or_false] at mo2
      rcases mo2 with rfl | rfl
      · exact come_n.2.mono (by omega)
      · exact ho.mono (by omega)
    refine s_ixl (xs := (["", o] : List Str).map V.str) (by walk_at "g") eo2 ?_
    walk_at "u"
    walk_at "na"
    intro l15 H15 f15 e15 k15
    have e15 : H15 l15 = some (.lst (([o2] : List Str).map V.str)) := e15
    refine s_addl (xs := (ys.take d.toNat).map V.str) (by walk_at "g") e15 (zle (by simp; omega)) fun l16 H16 f16 e16 k16 => ?_
    rw [← List.map_append] at e16
    walk_at "u"
    walk_at "tk"
    intro h H17 h0 h1 B17 k17
    walk_at "u"
    refine s_sll (xs := ys.map V.str) (SqL.of (by walk_at "g")) fun l18 H18 f18 e18 k18 => ?_
    rw [cut_tail _ (by omega), ← List.map_drop] at e18
    refine s_addl (by walk_at "g") e18 (zle (by simp; omega)) fun l19 H19 f19 e19 k19 => ?_
    rw [← List.map_append] at e19
    walk_at "u"
    have n19 : l19 ≠ p := by walk_at "ne"
    refine ⟨by walk_at "k", Box.more (n := n + 2 + 20 * i + 1 + 5 + 1 + 1) (by walk_at "g") (by omega), l19, _, _, _, _, e19, n19, ?_, ?_, rfl⟩
    · refine rows_app (rows_app (fun y hy' => (hy y (List.mem_of_mem_take hy')).mono (by omega)) fun y hy' => ?_) fun y hy' => (hy y (List.mem_of_mem_drop hy')).mono (by omega)
      rw [List.mem_singleton.mp hy']
      exact ho2
    · simp only [List.length_append, List.length_take, List.length_drop, List.length_cons, List.length_nil]
      omega
  · rintro σ H7 ⟨k7, B7, l, ys, u3, u6, u7, el, nl, hy, ly, rfl⟩
    have hq : (1 + (q : Int)).toNat ≤ 2 := by omega
    have hyN : ∀ y ∈ ys, RowN 140 y := fun y h => (hy y h).mono (by omega)
    have lyN : ys.length ≤ 400 := by omega
    have B7 : Box H7 p (n + 50) := B7.more (by omega)
    walk_at "u"
    refine s_join el (join_zD hyN (by omega) lyN) ?_
    have hLN := logN_of hyN (by omega) lyN
    generalize Txt.join "\n" ys = z at *
    walk_at "u"
    walk_at "na"
    intro l8 H8 f8 e8 k8
    walk_at "u"
    walk_at "na"
    intro l9 H9 f9 e9 k9
    walk_at "u"
    walk_at "tk"
    intro d H10 d0 d1 B10 k10
    have e910 := k10.get1 e9 (by walk_at "ne")
    obtain ⟨v, hv, ev⟩ := ix_memD e910 d0 (by simpa using d1)
    have g8 : H10 l8 = some (.lst [.str "come a"]) := by walk_at "g"
    have z10 : Kz [p] H H10 := ⟨by walk_at "k"⟩
    have hA : AnD K H10 v := by
      simp only [List.mem_cons, List.not_mem_nil, or_false] at hv
      rcases hv with rfl | rfl | rfl | rfl | rfl
      · exact anD_str hLN
      · exact anD_no .int (by intro z; cases z)
      · exact anD_no .non (by intro z; cases z)
      · exact anD_no (.lst g8) (by intro z; cases z)
      · exact anD_no .bl (by intro z; cases z)
    clear k7 k8 k9 k10 e8 f8 f9 el B7
    obtain ⟨z10⟩ := z10
    refine s_ixl e910 ev ?_
    walk_at "u"
    walk_at "na"
    intro l11 H11 f11 e11 k11
    walk_at "u"
    refine s_ilst (SqL.of e11) ?_
    refine for_L e11 (fun i σ H' => Kp [] H11 H' ∧ ∃ u5, σ = [some (.ref p), some (.ref b), some (.ref l), u3, some (.str z), u5, u6, u7]) ⟨Kp.refl, _, rfl⟩ (fun i σ' H' q o e => q.1.get0 e) ?_ ?_
    · rintro i x σ H12 ex ⟨k12, u5, rfl⟩
      have hx : AnD K H12 x := by
        match i, ex with
        | 0, ex => cases ex; exact anD_str hLN
        | 1, ex => cases ex; exact hA.kp (k11.trans k12)
        | (j + 2), ex => simp at ex
      obtain ⟨dd, an⟩ := hx
      walk_at "u"
      refine ⟨_, rfl, an H12 _ Kp.refl fun u H13 s13 k13 => ?_⟩
      walk_at "u"
      refine s_rep s13 ?_
      walk_at "u"
      refine ⟨_, rfl, an H13 _ k13 fun u2 H14 s14 k14 => ?_⟩
      walk_at "u"
      refine s_rep s14 ?_
      walk_at "u"
      rw [decide_eq_true rfl]
      walk_at "u"
      exact ⟨(k12.trans k13).trans k14, _, rfl⟩
    · rintro σ H12 ⟨k12, u5, rfl⟩
      walk_at "u"
      exact k _ (((B10.kp k11).kp k12).more (by omega)) (z10.trans (k11.trans k12).nil)

/-! the law -/
def sp_law (K : PySem.W.Frag) : Sp := sp1 fun x H Q _ => ∃ (a : Addr) (ns : List Int), x = .ref a ∧ SqL K H a (ns.map V.int) ∧ ns.length ≤ 63 ∧ ∀ H', Q (.bl true) H'
/-- deeds with their rows, as the law draws them -/
inductive Pw (H : Hp) : List V → List (List V) → Prop
  | nil : Pw H [] []
  | cons {l d : Addr} {xs : List V} {vs : List V} {xss : List (List V)} : H l = some (.lst [.ref d, .str (rowOf xs)]) → H d = some (.tup xs) → GdX xs → Pw H vs xss → Pw H (.ref l :: vs) (xs :: xss)
theorem Pw.kp {H H1 : Hp} {vs : List V} {xss : List (List V)} (h : Pw H vs xss) (k : Kp [] H H1) : Pw H1 vs xss := by
  induction h with
  | nil => exact .nil
  | cons a b c _ ih => exact .cons (k.get0 a) (k.tgt b) c ih
theorem Pw.app {H : Hp} {vs : List V} {xss : List (List V)} {l d : Addr} {xs : List V} (h : Pw H vs xss) (e1 : H l = some (.lst [.ref d, .str (rowOf xs)])) (e2 : H d = some (.tup xs)) (g : GdX xs) : Pw H (vs ++ [.ref l]) (xss ++ [xs]) := by
  induction h with
  | nil => exact .cons e1 e2 g .nil
  | cons a b c _ ih => exact .cons a b c ih
theorem Pw.at {H : Hp} {vs : List V} {xss : List (List V)} (h : Pw H vs xss) {i : Nat} {v : V} (e : vs[i]? = some v) : ∃ l d xs, v = .ref l ∧ xss[i]? = some xs ∧ H l = some (.lst [.ref d, .str (rowOf xs)]) ∧ H d = some (.tup xs) ∧ GdX xs := by
  induction h generalizing i with
  | nil => simp at e
  | @cons l d xs vs xss a b c _ ih =>
    cases i with
    | zero => exact ⟨l, d, xs, by simpa using e.symm, rfl, a, b, c⟩
    | succ i => exact ih (by simpa using e)
theorem Pw.len {H : Hp} {vs : List V} {xss : List (List V)} (h : Pw H vs xss) : vs.length = xss.length := by
  induction h with
  | nil => rfl
  | cons _ _ _ _ ih => simp [ih]
theorem Pw.gd {H : Hp} {vs : List V} {xss : List (List V)} (h : Pw H vs xss) : ∀ xs ∈ xss, GdX xs := by
  induction h with
  | nil => simp
  | cons _ _ c _ ih => exact fun x hx => (List.mem_cons.mp hx).elim (fun z => z ▸ c) (ih x)
theorem rw_rep {H : Hp} {d : Addr} {xs : List V} (e : H d = some (.tup xs)) : ∀ n : Nat, Rw H (List.replicate n (.ref d)) (List.replicate n xs)
  | 0 => .nil
  | n + 1 => .cons e (rw_rep e n)
set_option maxHeartbeats 16000000 in
theorem ok_law (T : Tx K mg w) (hs : ∃ mm, base.Ns sysModules mm) : FnG P w K mg base (L2.CX P w) 9 T.a_law T.d_law ["_law_script"] (sp_law K) := by
  have G_law_box := ok_law_box (P := P) (w := w) (base := base) T
  have G_law_deed := ok_law_deed (P := P) (w := w) (base := base) T
  have G_law_cell := ok_law_cell (P := P) (w := w) (base := base) T
  have G_law_take := ok_law_take (P := P) (w := w) (base := base) T
  have G_law_bad_rows_right := ok_law_bad_rows_right (P := P) (w := w) (base := base) T hs
  have G_law_good_right := ok_law_good_right (P := P) (w := w) (base := base) T hs
  have G_law_bad_deeds_right := ok_law_bad_deeds_right (P := P) (w := w) (base := base) T hs
  refine okG T.F_law sc_law (fun vs H Q E h => ?_) (fun cd A o s H vs Q E hg hr h => ?_)
  · obtain ⟨v0, rfl, h⟩ := h; rfl
  obtain ⟨v0, rfl, h⟩ := h
  obtain ⟨a, ns, rfl, hS, hl63, k⟩ := h
  refine ⟨_, (pss_cons (ps_for PassesOwn.leaving rfl (pi_range1 rfl T.z_range (pa_cons (pe_callB (c_max rfl) rfl T.z_max bt_max (pa_cons pe_int (pa_cons (pe_callB (c_min rfl) rfl T.z_min bt_min (pa_cons pe_int (pa_cons (pe_callB (c_len (K := K) rfl) rfl T.z_len bt_len (pa_cons (pv 0) pa_nil)) pa_nil))) pa_nil))) pa_nil)) (pg_name (i := 1) sc_law.nd rfl (Or.inl rfl))
    (pss_cons (ps_set (i := 2) sc_law.nd rfl (Or.inr rfl) (pe_co G_law_box (hr.mono (by decide)) rfl T.m_law_box T.F_law_box.kp T.B_law_box (takes_of (E := E) rfl rfl rfl rfl) (pa_cons (pe_co G_law_cell (hr.mono (by decide)) rfl T.m_law_cell T.F_law_cell.kp T.B_law_cell (takes_of (E := E) rfl rfl rfl rfl) (pa_cons (pv 0) (pa_cons (pv 1) pa_nil))) pa_nil)))
    (pss_cons (ps_set (i := 3) sc_law.nd rfl (Or.inl rfl) (pe_ix (ix_u (K := K) rfl) (pe_lst (pa_cons pe_int (pa_cons pe_int (pa_cons pe_int (pa_cons pe_int (pa_cons pe_int (pa_cons pe_int (pa_cons pe_int (pa_cons pe_int pa_nil))))))))) (pe_co G_law_take (hr.mono (by decide)) rfl T.m_law_take T.F_law_take.kp T.B_law_take (takes_of (E := E) rfl rfl rfl rfl) (pa_cons (pv 2) (pa_cons pe_int pa_nil))) (fun _ _ => rfl)))
    (pss_cons (ps_setLc (i := 4) (own := [("_law_turn", 9)]) rfl sc_law.nd rfl rfl (sw_true rfl rfl rfl (by decide +kernel)) (pi_range1 rfl T.z_range (pa_cons (pv 3) pa_nil)) (blkOk_by (own := [("_law_turn", 9)]) (N := N_law) (sc := defScope s_law) (by decide +kernel)) (fun _ _ _ _ _ => (pg_name (i := 9) sc_law.nd rfl (Or.inl rfl))) (fun _ _ _ _ _ => pts_nil) (fun _ _ _ _ _ => (pe_co G_law_deed (hr.mono (by decide)) rfl T.m_law_deed T.F_law_deed.kp T.B_law_deed takes0 (pa_cons (pv 2) pa_nil))))
    (pss_cons (ps_setLc (i := 5) (own := [("_law_deed_here", 7), ("_law_row", 8)]) rfl sc_law.nd rfl rfl (sw_true rfl rfl rfl (by decide +kernel)) (pi_lst (K := K) rfl (pv 4)) (blkOk_by (own := [("_law_deed_here", 7), ("_law_row", 8)]) (N := N_law) (sc := defScope s_law) (by decide +kernel)) (fun _ _ _ _ _ => (pg_lstK (K := K) (n := 2) rfl rfl (pgs_cons (pg_name (i := 7) sc_law.nd rfl (Or.inl rfl)) (pgs_cons (pg_name (i := 8) sc_law.nd rfl (Or.inl rfl)) pgs_nil)))) (fun _ _ _ _ _ => pts_nil) (fun _ _ _ _ _ => (pv 7)))
    (pss_cons (ps_setLc (i := 6) (own := [("_law_deed_here", 7), ("_law_row", 8)]) rfl sc_law.nd rfl rfl (sw_true rfl rfl rfl (by decide +kernel)) (pi_lst (K := K) rfl (pv 4)) (blkOk_by (own := [("_law_deed_here", 7), ("_law_row", 8)]) (N := N_law) (sc := defScope s_law) (by decide +kernel)) (fun _ _ _ _ _ => (pg_lstK (K := K) (n := 2) rfl rfl (pgs_cons (pg_name (i := 7) sc_law.nd rfl (Or.inl rfl)) (pgs_cons (pg_name (i := 8) sc_law.nd rfl (Or.inl rfl)) pgs_nil)))) (fun _ _ _ _ _ => pts_nil) (fun _ _ _ _ _ => (pv 8)))
    (pss_cons (ps_if (PW.pt (pw_or (pt_not (pt_val (pe_cg G_law_good_right hg (hr.mono (by decide)) rfl T.m_law_good_right T.F_law_good_right.kp T.B_law_good_right (takes_of (E := E) rfl rfl rfl rfl) (pa_cons (pv 5) (pa_cons (pv 6) pa_nil))))) (pw_or1 (pt_not (pt_val (pe_cg G_law_bad_deeds_right hg (hr.mono (by decide)) rfl T.m_law_bad_deeds_right T.F_law_bad_deeds_right.kp T.B_law_bad_deeds_right (takes_of (E := E) rfl rfl rfl rfl) (pa_cons (pv 2) (pa_cons (pv 5) pa_nil))))))))
    (pss_one (ps_ret pe_bl))
    pss_nil)
    (pss_cons (ps_if (pt_not (pt_val (pe_cg G_law_bad_rows_right hg (hr.mono (by decide)) rfl T.m_law_bad_rows_right T.F_law_bad_rows_right.kp T.B_law_bad_rows_right (takes_of (E := E) rfl rfl rfl rfl) (pa_cons (pv 2) (pa_cons (pv 6) pa_nil)))))
    (pss_one (ps_ret pe_bl))
    pss_nil)
    (pss_cons (ps_asg (pe_co G_law_deed (hr.mono (by decide)) rfl T.m_law_deed T.F_law_deed.kp T.B_law_deed (takes_of (E := E) rfl rfl rfl rfl) (pa_cons (pv 2) pa_nil)) (pg_lstK (K := K) (n := 2) rfl rfl (pgs_cons (pg_name (i := 7) sc_law.nd rfl (Or.inl rfl)) (pgs_cons (pg_name (i := 8) sc_law.nd rfl (Or.inl rfl)) pgs_nil))))
    (pss_one (ps_if (PW.pt (pw_and (pt_cmpR (o_eq (K := K) rfl hr) (pv 1) pe_int (nomark _)) (pw_and1 (pt_not (pt_val (pe_cg G_law_good_right hg (hr.mono (by decide)) rfl T.m_law_good_right T.F_law_good_right.kp T.B_law_good_right (takes_of (E := E) rfl rfl rfl rfl) (pa_cons (pe_op o_mul (pe_lst (pa_cons (pv 7) pa_nil)) pe_int) (pa_cons (pe_op o_mul (pe_lst (pa_cons (pv 8) pa_nil)) pe_int) pa_nil))))))))
    (pss_one (ps_ret pe_bl))
    pss_nil)))))))))))
    (pss_one (ps_ret pe_bl))), ?_⟩
  rw [st_law]
  walk_at "u"
  refine s_lenL hS ?_
  walk_at "u"
  rw [List.length_map]
  obtain ⟨j, ej, hj2, hj⟩ := many_j ns.length 2 8 (by omega) (by omega)
  rw [ej]
  refine s_rng (by omega) (by omega) ?_
  refine for_R (fun i σ H' => Kp [] H H' ∧ ∃ u1 u2 u3 u4 u5 u6 u7 u8 u9, σ = [some (.ref a), u1, u2, u3, u4, u5, u6, u7, u8, u9]) ⟨Kp.refl, _, _, _, _, _, _, _, _, _, rfl⟩ ?_ ?_
  · rintro i σ H2 hi ⟨z2, u1, u2, u3, u4, u5, u6, u7, u8, u9, rfl⟩
    walk_at "u"
    walk_at "cl"
    intro q0
    walk_at "u"
    refine c_box fun p H3 f3 k3 B3 => ?_
    walk_at "u"
    walk_at "na"
    intro l4 H4 f4 e4 k4
    walk_at "u"
    walk_at "tk"
    intro d H5 d0 d1 B5 k5
    have e45 : H5 l4 = some (.lst (([0, 1, 2, 5, 12, 30, 80, 3] : List Int).map V.int)) := by walk_at "g"
    obtain ⟨m, m0, m1, em⟩ := at_ints (xs := [0, 1, 2, 5, 12, 30, 80, 3]) (lo := 0) (hi := 80) d0 (by simpa using d1) (by decide)
    obtain ⟨m, rfl⟩ := Int.eq_ofNat_of_zero_le m0
    refine s_ixl e45 em ?_
    have z5 : Kz [p] H2 H5 := ⟨(k3.nil.trans k4.nil).trans k5⟩
    clear k3 k4 k5 e4 f4 B3
    obtain ⟨z5⟩ := z5
    walk_at "u"
    refine s_rng (by omega) (by omega) ?_
    intro D hD
    refine lc_R hD (fun i acc H' => Kp [p, D] H5 H' ∧ Box H' p (1 + 100 * i) ∧ ∃ xss, Pw (hid [p, D] H') acc xss ∧ xss.length = i) (fun H6 e6 k6 => ⟨by walk_at "k", by walk_at "g", [], .nil, rfl⟩) ?_ ?_
    · rintro i' acc H6 hi' ea ⟨k6, B6, xss, P6, lx⟩
      have la : acc.length = i' := by rw [P6.len, lx]
      walk_at "u"
      refine ⟨rfl, ?_⟩
      walk_at "u"
      refine ⟨_, rfl, p, 1 + 100 * i', rfl, B6, by omega, fun l dd w' ps fs H7 fl el ed g B7 k7 => ?_⟩
      have nl1 : l ≠ p := by walk_at "ne"
      have nlD : l ≠ D := fun z => by rw [z, ea] at fl; cases fl
      have ea7 : H7 D = some (.lst acc) := k7.get1 ea (by walk_at "ne")
      refine PvD.add (acc := acc) ea7 (by omega) fun H8 e8 k8 => ⟨by walk_at "k", ?_, xss ++ [.str w' :: ps], ?_, by simp [lx]⟩
      · have : Box H8 p (1 + 100 * i' + 100) := B7.kpn k8 (by simp; walk_at "ne")
        exact this.more (by omega)
      · have q7 : Kp [] (hid [p, D] H6) (hid [p, D] H7) := hid_kp k7 (by simp)
        have q8 : Kp [] (hid [p, D] H7) (hid [p, D] H8) := hid_kp k8 (by simp)
        have gg : GdX (.str w' :: ps) := ⟨w', ps, fs, rfl, g⟩
        have er : rowOf (.str w' :: ps) = Txt.join " " (w' :: fill fs ps) := g.row
        refine ((P6.kp q7).kp q8).app (d := dd) ?_ ?_ gg
        · rw [er]
          exact hid_of (k8.get1 el nlD) (by simp [nl1, nlD])
        · refine hid_of (k8.tgt ed) ?_
          have h1 : dd ≠ p := fun z => by
            obtain ⟨a', b', c', e', _⟩ := B7.ex
            rw [z, e'] at ed; cases ed
          have h2 : dd ≠ D := fun z => by rw [z, ea7] at ed; cases ed
          simp [h1, h2]
    · rintro acc H6 e6 ⟨k6, B6, xss, P6, lx⟩
      have lx : xss.length ≤ 80 := by simp at lx; omega
      have B6 : Box H6 p 8100 := B6.more (by simp; omega)
      have P6 := P6.kp hid_le
      have g := P6.gd
      have z6 : Kz [p] H2 H6 := ⟨Kp.step z5 k6 (by
        intro q hq
        simp only [List.mem_cons, List.not_mem_nil, or_false] at hq
        rcases hq with rfl | rfl
        · exact Or.inl (by simp)
        · exact Or.inr (z5.dom _ hD))⟩
      have lacc := P6.len
      clear k6 z5 hD e45
      walk_at "u"
      refine s_ilst (SqL.of e6) ?_
      intro D2 hD2
      refine lc_L e6 hD2 (fun i acc2 H' => Kp [D2] H6 H' ∧ acc2.length ≤ i ∧ Rw H' acc2 (xss.take i)) (fun H7 e7 k7 => ⟨by walk_at "k", by simp, .nil⟩) (fun i acc H' p o e => p.1.get1 e (by walk_at "ne")) ?_ ?_
      · rintro i' x acc2 H7 ex ea ⟨k7, la, R7⟩
        have hi' := (List.getElem?_eq_some_iff.mp ex).1
        obtain ⟨l, dd, xs, rfl, eo, el, ed, gx⟩ := (P6.kp (k7.drop hD2)).at ex
        walk_at "u"
        refine ⟨rfl, ?_⟩
        walk_at "u"
        refine PvD.add (acc := acc2) ea (by omega) fun H8 e8 k8 => ⟨by walk_at "k", by simp; omega, ?_⟩
        rw [take_one eo]
        exact (R7.kp k8).app (.one (k8.tgt ed))
      rintro vs H7 e7 ⟨k7, _, R7⟩
      rw [lacc, List.take_of_length_le (Nat.le_refl _)] at R7
      have k67 := k7.drop hD2
      have P7 := P6.kp k67
      have e67 := k67.get0 e6
      have B7 := B6.kp k67
      have z7 : Kz [p] H2 H7 := ⟨z6.k.trans k67.nil⟩
      have nD2 : D2 ≠ p := by walk_at "ne"
      clear k7 k67 hD2 z6 P6 B6
      walk_at "u"
      refine s_ilst (SqL.of e67) ?_
      intro D3 hD3
      refine lc_L e67 hD3 (fun i acc2 H' => Kp [D3] H7 H' ∧ acc2 = ((xss.take i).map rowOf).map V.str) (fun H8 e8 k8 => ⟨by walk_at "k", rfl⟩) (fun i acc H' p o e => p.1.get1 e (by walk_at "ne")) ?_ ?_
      · rintro i' x acc2 H8 ex ea ⟨k8, rfl⟩
        have hi' := (List.getElem?_eq_some_iff.mp ex).1
        obtain ⟨l, dd, xs, rfl, eo, el, ed, gx⟩ := (P7.kp (k8.drop hD3)).at ex
        walk_at "u"
        refine ⟨rfl, ?_⟩
        walk_at "u"
        refine PvD.add ea (by simp; omega) fun H9 e9 k9 => ⟨by walk_at "k", ?_⟩
        rw [take_one eo, List.map_append, List.map_append]
        rfl
      rintro rs H8 e8 ⟨k8, rfl⟩
      rw [lacc, List.take_of_length_le (Nat.le_refl _)] at e8
      have k78 := k8.drop hD3
      have R8 := R7.kp k78
      have e78 := k78.get0 e7
      have B8 := B7.kp k78
      have z8 : Kz [p] H2 H8 := ⟨z7.k.trans k78.nil⟩
      have nD3 : D3 ≠ p := by walk_at "ne"
      clear k8 k78 hD3 z7 P7 B7 R7 e7 e67 e6
      walk_at "u"
      refine ⟨_, _, rfl, D2, D3, vs, xss, rfl, rfl, e78, R8, g, by omega, e8, fun H9 k9 => ?_⟩
      walk_at "u"
      refine ⟨_, _, rfl, p, 8100, D2, vs, xss, rfl, rfl, B8.kp k9, by omega, nD2, k9.get0 e78, R8.kp k9, g, by omega, fun H10 B10 k10 => ?_⟩
      walk_at "u"
      have e10 : H10 D3 = some (.lst ((xss.map rowOf).map V.str)) := k10.get1 (k9.get0 e8) nD3
      refine ⟨_, _, rfl, p, 8140, D3, xss.map rowOf, rfl, rfl, B10, by omega, e10, nD3, rowsN g, by rw [List.length_map]; omega, fun H11 B11 k11 => ?_⟩
      walk_at "u"
      refine ⟨_, rfl, p, 8200, rfl, B11, by omega, fun l dd w' ps fs H12 fl el ed gd B12 k12 => ?_⟩
      have z12 : Kz [p] H2 H12 := ⟨z8.k.trans (k9.nil.trans (k10.trans (k11.trans k12)))⟩
      clear k9 k10 k11 k12 z8 B8 B10 B11 e10 e8 e78 R8
      have gg : GdX (.str w' :: ps) := ⟨w', ps, fs, rfl, gd⟩
      have er : rowOf (.str w' :: ps) = Txt.join " " (w' :: fill fs ps) := gd.row
      walk_at "u"
      have done : ∀ H13, Kp [] H12 H13 → ∀ R : Prop, (Kp [] H H13 → R) → R := fun H13 k13 R r => r (z2.trans (Kp.step Kp.refl (z12.k.trans k13.nil) (by intro q hq; rw [List.mem_singleton.mp hq]; exact Or.inr f3)))
      refine s_ite (fun h0 => ?_) (fun h0 => ?_)
      · walk_at "u"
        walk_at "na"
        intro l13 H13 f13 e13 k13
        refine s_repL (k := 300) e13 (by omega) (by omega) (by simp) fun l14 H14 f14 e14 k14 => ?_
        walk_at "u"
        walk_at "na"
        intro l15 H15 f15 e15 k15
        refine s_repL (k := 300) e15 (by omega) (by omega) (by simp) fun l16 H16 f16 e16 k16 => ?_
        walk_at "u"
        have k1216 : Kp [] H12 H16 := ((k13.trans k14).trans k15).trans k16
        have ef : ∀ v : V, (List.replicate (300 : Int).toNat [v]).flatten = List.replicate 300 v := fun v => by
          rw [List.flatten_replicate_singleton]
          rfl
        rw [ef] at e14 e16
        refine ⟨_, _, rfl, l14, l16, List.replicate 300 (.ref dd), List.replicate 300 (.str w' :: ps), rfl, rfl, k16.get0 (k15.get0 e14), rw_rep (k1216.tgt ed) 300, fun xs hx => by rw [(List.mem_replicate.mp hx).2]; exact gg, by simp, by rw [e16, List.map_replicate, List.map_replicate, er], fun H17 k17 => ?_⟩
        walk_at "u"
        exact done H17 (k1216.trans k17) _ fun kk => ⟨kk, _, _, _, _, _, _, _, _, _, rfl⟩
      · walk_at "u"
        exact done H12 Kp.refl _ fun kk => ⟨kk, _, _, _, _, _, _, _, _, _, rfl⟩
  · rintro σ H2 ⟨z2, u1, u2, u3, u4, u5, u6, u7, u8, u9, rfl⟩
    walk_at "u"
    exact k _

theorem all_mk {l : PySem.W.OpenLaw} {w : World} {K : PySem.W.Frag} {h : Heap} {mg : Str → Option Value} {fa : Addr} (X : K.In h) (G : h.Ns mainGlobals mg) (hfa : mg "law" = some (.ref fa))
    {C_NoDeed : Addr} (n_NoDeed : PySem.W.nsIn K mainGlobals "NoDeed" = some (some (.ref C_NoDeed)))
    {C_NoText : Addr} (n_NoText : PySem.W.nsIn K mainGlobals "NoText" = some (some (.ref C_NoText)))
    {C_StaffError : Addr} (n_StaffError : PySem.W.nsIn K mainGlobals "StaffError" = some (some (.ref C_StaffError)))
    {f1 : Addr} {od1 an1 : Option Addr} {sl1 : Array (Option Value)} {oc1 kV1 dc1 pm1 cd1 ct1 : Value}
    (a1 : PySem.W.findIn K (.ref C_NoDeed) "__init__" = some (some (.ref f1)))
    (l1 : K.lookup f1 = some ⟨oc1, od1, .func (PySem.W.fnOf "__init__" "NoDeed.__init__" (defArgs s_NoDeed_init) (defBody s_NoDeed_init) (defScope s_NoDeed_init) .none kV1 dc1 pm1 an1 cd1 ct1), sl1⟩) (c1 : PySem.W.codeIn K cd1 "NoDeed.__init__" = true) (k1 : PySem.W.keepIn K (.ref f1) = true)
    {f2 : Addr} {od2 an2 : Option Addr} {sl2 : Array (Option Value)} {oc2 kV2 dc2 pm2 cd2 ct2 : Value}
    (a2 : PySem.W.findIn K (.ref C_NoText) "__init__" = some (some (.ref f2)))
    (l2 : K.lookup f2 = some ⟨oc2, od2, .func (PySem.W.fnOf "__init__" "NoText.__init__" (defArgs s_NoText_init) (defBody s_NoText_init) (defScope s_NoText_init) .none kV2 dc2 pm2 an2 cd2 ct2), sl2⟩) (c2 : PySem.W.codeIn K cd2 "NoText.__init__" = true) (k2 : PySem.W.keepIn K (.ref f2) = true)
    {f3 : Addr} {od3 an3 : Option Addr} {sl3 : Array (Option Value)} {oc3 kV3 dc3 pm3 cd3 ct3 : Value}
    (a3 : PySem.W.nsIn K mainGlobals "is_whole" = some (some (.ref f3)))
    (l3 : K.lookup f3 = some ⟨oc3, od3, .func (PySem.W.fnOf "is_whole" "is_whole" (defArgs s_is_whole) (defBody s_is_whole) (defScope s_is_whole) .none kV3 dc3 pm3 an3 cd3 ct3), sl3⟩) (c3 : PySem.W.codeIn K cd3 "is_whole" = true) (k3 : PySem.W.keepIn K (.ref f3) = true)
    {f4 : Addr} {od4 an4 : Option Addr} {sl4 : Array (Option Value)} {oc4 kV4 dc4 pm4 cd4 ct4 : Value}
    (a4 : PySem.W.nsIn K mainGlobals "is_name" = some (some (.ref f4)))
    (l4 : K.lookup f4 = some ⟨oc4, od4, .func (PySem.W.fnOf "is_name" "is_name" (defArgs s_is_name) (defBody s_is_name) (defScope s_is_name) .none kV4 dc4 pm4 an4 cd4 ct4), sl4⟩) (c4 : PySem.W.codeIn K cd4 "is_name" = true) (k4 : PySem.W.keepIn K (.ref f4) = true)
    {f5 : Addr} {od5 an5 : Option Addr} {sl5 : Array (Option Value)} {oc5 kV5 dc5 pm5 cd5 ct5 : Value}
    (a5 : PySem.W.nsIn K mainGlobals "is_filled" = some (some (.ref f5)))
    (l5 : K.lookup f5 = some ⟨oc5, od5, .func (PySem.W.fnOf "is_filled" "is_filled" (defArgs s_is_filled) (defBody s_is_filled) (defScope s_is_filled) .none kV5 dc5 pm5 an5 cd5 ct5), sl5⟩) (c5 : PySem.W.codeIn K cd5 "is_filled" = true) (k5 : PySem.W.keepIn K (.ref f5) = true)
    {f6 : Addr} {od6 an6 : Option Addr} {sl6 : Array (Option Value)} {oc6 kV6 dc6 pm6 cd6 ct6 : Value}
    (a6 : PySem.W.nsIn K mainGlobals "is_part" = some (some (.ref f6)))
    (l6 : K.lookup f6 = some ⟨oc6, od6, .func (PySem.W.fnOf "is_part" "is_part" (defArgs s_is_part) (defBody s_is_part) (defScope s_is_part) .none kV6 dc6 pm6 an6 cd6 ct6), sl6⟩) (c6 : PySem.W.codeIn K cd6 "is_part" = true) (k6 : PySem.W.keepIn K (.ref f6) = true)
    {f7 : Addr} {od7 an7 : Option Addr} {sl7 : Array (Option Value)} {oc7 kV7 dc7 pm7 cd7 ct7 : Value}
    (a7 : PySem.W.nsIn K mainGlobals "is_deed" = some (some (.ref f7)))
    (l7 : K.lookup f7 = some ⟨oc7, od7, .func (PySem.W.fnOf "is_deed" "is_deed" (defArgs s_is_deed) (defBody s_is_deed) (defScope s_is_deed) .none kV7 dc7 pm7 an7 cd7 ct7), sl7⟩) (c7 : PySem.W.codeIn K cd7 "is_deed" = true) (k7 : PySem.W.keepIn K (.ref f7) = true)
    {f8 : Addr} {od8 an8 : Option Addr} {sl8 : Array (Option Value)} {oc8 kV8 dc8 pm8 cd8 ct8 : Value}
    (a8 : PySem.W.nsIn K mainGlobals "deed_text" = some (some (.ref f8)))
    (l8 : K.lookup f8 = some ⟨oc8, od8, .func (PySem.W.fnOf "deed_text" "deed_text" (defArgs s_deed_text) (defBody s_deed_text) (defScope s_deed_text) .none kV8 dc8 pm8 an8 cd8 ct8), sl8⟩) (c8 : PySem.W.codeIn K cd8 "deed_text" = true) (k8 : PySem.W.keepIn K (.ref f8) = true)
    {f9 : Addr} {od9 an9 : Option Addr} {sl9 : Array (Option Value)} {oc9 kV9 dc9 pm9 cd9 ct9 : Value}
    (a9 : PySem.W.nsIn K mainGlobals "number_in" = some (some (.ref f9)))
    (l9 : K.lookup f9 = some ⟨oc9, od9, .func (PySem.W.fnOf "number_in" "number_in" (defArgs s_number_in) (defBody s_number_in) (defScope s_number_in) .none kV9 dc9 pm9 an9 cd9 ct9), sl9⟩) (c9 : PySem.W.codeIn K cd9 "number_in" = true) (k9 : PySem.W.keepIn K (.ref f9) = true)
    {f10 : Addr} {od10 an10 : Option Addr} {sl10 : Array (Option Value)} {oc10 kV10 dc10 pm10 cd10 ct10 : Value}
    (a10 : PySem.W.nsIn K mainGlobals "part_in" = some (some (.ref f10)))
    (l10 : K.lookup f10 = some ⟨oc10, od10, .func (PySem.W.fnOf "part_in" "part_in" (defArgs s_part_in) (defBody s_part_in) (defScope s_part_in) .none kV10 dc10 pm10 an10 cd10 ct10), sl10⟩) (c10 : PySem.W.codeIn K cd10 "part_in" = true) (k10 : PySem.W.keepIn K (.ref f10) = true)
    {f11 : Addr} {od11 an11 : Option Addr} {sl11 : Array (Option Value)} {oc11 kV11 dc11 pm11 cd11 ct11 : Value}
    (a11 : PySem.W.nsIn K mainGlobals "deed_of" = some (some (.ref f11)))
    (l11 : K.lookup f11 = some ⟨oc11, od11, .func (PySem.W.fnOf "deed_of" "deed_of" (defArgs s_deed_of) (defBody s_deed_of) (defScope s_deed_of) .none kV11 dc11 pm11 an11 cd11 ct11), sl11⟩) (c11 : PySem.W.codeIn K cd11 "deed_of" = true) (k11 : PySem.W.keepIn K (.ref f11) = true)
    {f12 : Addr} {od12 an12 : Option Addr} {sl12 : Array (Option Value)} {oc12 kV12 dc12 pm12 cd12 ct12 : Value}
    (a12 : PySem.W.nsIn K mainGlobals "log_text" = some (some (.ref f12)))
    (l12 : K.lookup f12 = some ⟨oc12, od12, .func (PySem.W.fnOf "log_text" "log_text" (defArgs s_log_text) (defBody s_log_text) (defScope s_log_text) .none kV12 dc12 pm12 an12 cd12 ct12), sl12⟩) (c12 : PySem.W.codeIn K cd12 "log_text" = true) (k12 : PySem.W.keepIn K (.ref f12) = true)
    {f13 : Addr} {od13 an13 : Option Addr} {sl13 : Array (Option Value)} {oc13 kV13 dc13 pm13 cd13 ct13 : Value}
    (a13 : PySem.W.nsIn K mainGlobals "rows_read" = some (some (.ref f13)))
    (l13 : K.lookup f13 = some ⟨oc13, od13, .func (PySem.W.fnOf "rows_read" "rows_read" (defArgs s_rows_read) (defBody s_rows_read) (defScope s_rows_read) .none kV13 dc13 pm13 an13 cd13 ct13), sl13⟩) (c13 : PySem.W.codeIn K cd13 "rows_read" = true) (k13 : PySem.W.keepIn K (.ref f13) = true)
    {f14 : Addr} {od14 an14 : Option Addr} {sl14 : Array (Option Value)} {oc14 kV14 dc14 pm14 cd14 ct14 : Value}
    (a14 : PySem.W.nsIn K mainGlobals "read_log" = some (some (.ref f14)))
    (l14 : K.lookup f14 = some ⟨oc14, od14, .func (PySem.W.fnOf "read_log" "read_log" (defArgs s_read_log) (defBody s_read_log) (defScope s_read_log) .none kV14 dc14 pm14 an14 cd14 ct14), sl14⟩) (c14 : PySem.W.codeIn K cd14 "read_log" = true) (k14 : PySem.W.keepIn K (.ref f14) = true)
    {f15 : Addr} {od15 an15 : Option Addr} {sl15 : Array (Option Value)} {oc15 kV15 dc15 pm15 cd15 ct15 : Value}
    (a15 : PySem.W.nsIn K mainGlobals "_law_cell" = some (some (.ref f15)))
    (l15 : K.lookup f15 = some ⟨oc15, od15, .func (PySem.W.fnOf "_law_cell" "_law_cell" (defArgs s_law_cell) (defBody s_law_cell) (defScope s_law_cell) .none kV15 dc15 pm15 an15 cd15 ct15), sl15⟩) (c15 : PySem.W.codeIn K cd15 "_law_cell" = true) (k15 : PySem.W.keepIn K (.ref f15) = true)
    {f16 : Addr} {od16 an16 : Option Addr} {sl16 : Array (Option Value)} {oc16 kV16 dc16 pm16 cd16 ct16 : Value}
    (a16 : PySem.W.nsIn K mainGlobals "_law_box" = some (some (.ref f16)))
    (l16 : K.lookup f16 = some ⟨oc16, od16, .func (PySem.W.fnOf "_law_box" "_law_box" (defArgs s_law_box) (defBody s_law_box) (defScope s_law_box) .none kV16 dc16 pm16 an16 cd16 ct16), sl16⟩) (c16 : PySem.W.codeIn K cd16 "_law_box" = true) (k16 : PySem.W.keepIn K (.ref f16) = true)
    {f17 : Addr} {od17 an17 : Option Addr} {sl17 : Array (Option Value)} {oc17 kV17 dc17 pm17 cd17 ct17 : Value}
    (a17 : PySem.W.nsIn K mainGlobals "_law_take" = some (some (.ref f17)))
    (l17 : K.lookup f17 = some ⟨oc17, od17, .func (PySem.W.fnOf "_law_take" "_law_take" (defArgs s_law_take) (defBody s_law_take) (defScope s_law_take) .none kV17 dc17 pm17 an17 cd17 ct17), sl17⟩) (c17 : PySem.W.codeIn K cd17 "_law_take" = true) (k17 : PySem.W.keepIn K (.ref f17) = true)
    {f18 : Addr} {od18 an18 : Option Addr} {sl18 : Array (Option Value)} {oc18 kV18 dc18 pm18 cd18 ct18 : Value}
    (a18 : PySem.W.nsIn K mainGlobals "_law_name" = some (some (.ref f18)))
    (l18 : K.lookup f18 = some ⟨oc18, od18, .func (PySem.W.fnOf "_law_name" "_law_name" (defArgs s_law_name) (defBody s_law_name) (defScope s_law_name) .none kV18 dc18 pm18 an18 cd18 ct18), sl18⟩) (c18 : PySem.W.codeIn K cd18 "_law_name" = true) (k18 : PySem.W.keepIn K (.ref f18) = true)
    {f19 : Addr} {od19 an19 : Option Addr} {sl19 : Array (Option Value)} {oc19 kV19 dc19 pm19 cd19 ct19 : Value}
    (a19 : PySem.W.nsIn K mainGlobals "_law_number" = some (some (.ref f19)))
    (l19 : K.lookup f19 = some ⟨oc19, od19, .func (PySem.W.fnOf "_law_number" "_law_number" (defArgs s_law_number) (defBody s_law_number) (defScope s_law_number) .none kV19 dc19 pm19 an19 cd19 ct19), sl19⟩) (c19 : PySem.W.codeIn K cd19 "_law_number" = true) (k19 : PySem.W.keepIn K (.ref f19) = true)
    {f20 : Addr} {od20 an20 : Option Addr} {sl20 : Array (Option Value)} {oc20 kV20 dc20 pm20 cd20 ct20 : Value}
    (a20 : PySem.W.nsIn K mainGlobals "_law_forms" = some (some (.ref f20)))
    (l20 : K.lookup f20 = some ⟨oc20, od20, .func (PySem.W.fnOf "_law_forms" "_law_forms" (defArgs s_law_forms) (defBody s_law_forms) (defScope s_law_forms) .none kV20 dc20 pm20 an20 cd20 ct20), sl20⟩) (c20 : PySem.W.codeIn K cd20 "_law_forms" = true) (k20 : PySem.W.keepIn K (.ref f20) = true)
    {f21 : Addr} {od21 an21 : Option Addr} {sl21 : Array (Option Value)} {oc21 kV21 dc21 pm21 cd21 ct21 : Value}
    (a21 : PySem.W.nsIn K mainGlobals "_law_part" = some (some (.ref f21)))
    (l21 : K.lookup f21 = some ⟨oc21, od21, .func (PySem.W.fnOf "_law_part" "_law_part" (defArgs s_law_part) (defBody s_law_part) (defScope s_law_part) .none kV21 dc21 pm21 an21 cd21 ct21), sl21⟩) (c21 : PySem.W.codeIn K cd21 "_law_part" = true) (k21 : PySem.W.keepIn K (.ref f21) = true)
    {f22 : Addr} {od22 an22 : Option Addr} {sl22 : Array (Option Value)} {oc22 kV22 dc22 pm22 cd22 ct22 : Value}
    (a22 : PySem.W.nsIn K mainGlobals "_law_deed" = some (some (.ref f22)))
    (l22 : K.lookup f22 = some ⟨oc22, od22, .func (PySem.W.fnOf "_law_deed" "_law_deed" (defArgs s_law_deed) (defBody s_law_deed) (defScope s_law_deed) .none kV22 dc22 pm22 an22 cd22 ct22), sl22⟩) (c22 : PySem.W.codeIn K cd22 "_law_deed" = true) (k22 : PySem.W.keepIn K (.ref f22) = true)
    {f23 : Addr} {od23 an23 : Option Addr} {sl23 : Array (Option Value)} {oc23 kV23 dc23 pm23 cd23 ct23 : Value}
    (a23 : PySem.W.nsIn K mainGlobals "_law_is_name" = some (some (.ref f23)))
    (l23 : K.lookup f23 = some ⟨oc23, od23, .func (PySem.W.fnOf "_law_is_name" "_law_is_name" (defArgs s_law_is_name) (defBody s_law_is_name) (defScope s_law_is_name) .none kV23 dc23 pm23 an23 cd23 ct23), sl23⟩) (c23 : PySem.W.codeIn K cd23 "_law_is_name" = true) (k23 : PySem.W.keepIn K (.ref f23) = true)
    {f24 : Addr} {od24 an24 : Option Addr} {sl24 : Array (Option Value)} {oc24 kV24 dc24 pm24 cd24 ct24 : Value}
    (a24 : PySem.W.nsIn K mainGlobals "_law_number_read" = some (some (.ref f24)))
    (l24 : K.lookup f24 = some ⟨oc24, od24, .func (PySem.W.fnOf "_law_number_read" "_law_number_read" (defArgs s_law_number_read) (defBody s_law_number_read) (defScope s_law_number_read) .none kV24 dc24 pm24 an24 cd24 ct24), sl24⟩) (c24 : PySem.W.codeIn K cd24 "_law_number_read" = true) (k24 : PySem.W.keepIn K (.ref f24) = true)
    {f25 : Addr} {od25 an25 : Option Addr} {sl25 : Array (Option Value)} {oc25 kV25 dc25 pm25 cd25 ct25 : Value}
    (a25 : PySem.W.nsIn K mainGlobals "_law_is_part" = some (some (.ref f25)))
    (l25 : K.lookup f25 = some ⟨oc25, od25, .func (PySem.W.fnOf "_law_is_part" "_law_is_part" (defArgs s_law_is_part) (defBody s_law_is_part) (defScope s_law_is_part) .none kV25 dc25 pm25 an25 cd25 ct25), sl25⟩) (c25 : PySem.W.codeIn K cd25 "_law_is_part" = true) (k25 : PySem.W.keepIn K (.ref f25) = true)
    {f26 : Addr} {od26 an26 : Option Addr} {sl26 : Array (Option Value)} {oc26 kV26 dc26 pm26 cd26 ct26 : Value}
    (a26 : PySem.W.nsIn K mainGlobals "_law_deed_read" = some (some (.ref f26)))
    (l26 : K.lookup f26 = some ⟨oc26, od26, .func (PySem.W.fnOf "_law_deed_read" "_law_deed_read" (defArgs s_law_deed_read) (defBody s_law_deed_read) (defScope s_law_deed_read) .none kV26 dc26 pm26 an26 cd26 ct26), sl26⟩) (c26 : PySem.W.codeIn K cd26 "_law_deed_read" = true) (k26 : PySem.W.keepIn K (.ref f26) = true)
    {f27 : Addr} {od27 an27 : Option Addr} {sl27 : Array (Option Value)} {oc27 kV27 dc27 pm27 cd27 ct27 : Value}
    (a27 : PySem.W.nsIn K mainGlobals "_law_odd" = some (some (.ref f27)))
    (l27 : K.lookup f27 = some ⟨oc27, od27, .func (PySem.W.fnOf "_law_odd" "_law_odd" (defArgs s_law_odd) (defBody s_law_odd) (defScope s_law_odd) .none kV27 dc27 pm27 an27 cd27 ct27), sl27⟩) (c27 : PySem.W.codeIn K cd27 "_law_odd" = true) (k27 : PySem.W.keepIn K (.ref f27) = true)
    {f28 : Addr} {od28 an28 : Option Addr} {sl28 : Array (Option Value)} {oc28 kV28 dc28 pm28 cd28 ct28 : Value}
    (a28 : PySem.W.nsIn K mainGlobals "_law_bad_row" = some (some (.ref f28)))
    (l28 : K.lookup f28 = some ⟨oc28, od28, .func (PySem.W.fnOf "_law_bad_row" "_law_bad_row" (defArgs s_law_bad_row) (defBody s_law_bad_row) (defScope s_law_bad_row) .none kV28 dc28 pm28 an28 cd28 ct28), sl28⟩) (c28 : PySem.W.codeIn K cd28 "_law_bad_row" = true) (k28 : PySem.W.keepIn K (.ref f28) = true)
    {f29 : Addr} {od29 an29 : Option Addr} {sl29 : Array (Option Value)} {oc29 kV29 dc29 pm29 cd29 ct29 : Value}
    (a29 : PySem.W.nsIn K mainGlobals "_law_wrote" = some (some (.ref f29)))
    (l29 : K.lookup f29 = some ⟨oc29, od29, .func (PySem.W.fnOf "_law_wrote" "_law_wrote" (defArgs s_law_wrote) (defBody s_law_wrote) (defScope s_law_wrote) .none kV29 dc29 pm29 an29 cd29 ct29), sl29⟩) (c29 : PySem.W.codeIn K cd29 "_law_wrote" = true) (k29 : PySem.W.keepIn K (.ref f29) = true)
    {f30 : Addr} {od30 an30 : Option Addr} {sl30 : Array (Option Value)} {oc30 kV30 dc30 pm30 cd30 ct30 : Value}
    (a30 : PySem.W.nsIn K mainGlobals "_law_read" = some (some (.ref f30)))
    (l30 : K.lookup f30 = some ⟨oc30, od30, .func (PySem.W.fnOf "_law_read" "_law_read" (defArgs s_law_read) (defBody s_law_read) (defScope s_law_read) .none kV30 dc30 pm30 an30 cd30 ct30), sl30⟩) (c30 : PySem.W.codeIn K cd30 "_law_read" = true) (k30 : PySem.W.keepIn K (.ref f30) = true)
    {f31 : Addr} {od31 an31 : Option Addr} {sl31 : Array (Option Value)} {oc31 kV31 dc31 pm31 cd31 ct31 : Value}
    (a31 : PySem.W.nsIn K mainGlobals "_law_read_due" = some (some (.ref f31)))
    (l31 : K.lookup f31 = some ⟨oc31, od31, .func (PySem.W.fnOf "_law_read_due" "_law_read_due" (defArgs s_law_read_due) (defBody s_law_read_due) (defScope s_law_read_due) .none kV31 dc31 pm31 an31 cd31 ct31), sl31⟩) (c31 : PySem.W.codeIn K cd31 "_law_read_due" = true) (k31 : PySem.W.keepIn K (.ref f31) = true)
    {f32 : Addr} {od32 an32 : Option Addr} {sl32 : Array (Option Value)} {oc32 kV32 dc32 pm32 cd32 ct32 : Value}
    (a32 : PySem.W.nsIn K mainGlobals "_law_good_right" = some (some (.ref f32)))
    (l32 : K.lookup f32 = some ⟨oc32, od32, .func (PySem.W.fnOf "_law_good_right" "_law_good_right" (defArgs s_law_good_right) (defBody s_law_good_right) (defScope s_law_good_right) .none kV32 dc32 pm32 an32 cd32 ct32), sl32⟩) (c32 : PySem.W.codeIn K cd32 "_law_good_right" = true) (k32 : PySem.W.keepIn K (.ref f32) = true)
    {f33 : Addr} {od33 an33 : Option Addr} {sl33 : Array (Option Value)} {oc33 kV33 dc33 pm33 cd33 ct33 : Value}
    (a33 : PySem.W.nsIn K mainGlobals "_law_bad_deeds_right" = some (some (.ref f33)))
    (l33 : K.lookup f33 = some ⟨oc33, od33, .func (PySem.W.fnOf "_law_bad_deeds_right" "_law_bad_deeds_right" (defArgs s_law_bad_deeds_right) (defBody s_law_bad_deeds_right) (defScope s_law_bad_deeds_right) .none kV33 dc33 pm33 an33 cd33 ct33), sl33⟩) (c33 : PySem.W.codeIn K cd33 "_law_bad_deeds_right" = true) (k33 : PySem.W.keepIn K (.ref f33) = true)
    {f34 : Addr} {od34 an34 : Option Addr} {sl34 : Array (Option Value)} {oc34 kV34 dc34 pm34 cd34 ct34 : Value}
    (a34 : PySem.W.nsIn K mainGlobals "_law_bad_rows_right" = some (some (.ref f34)))
    (l34 : K.lookup f34 = some ⟨oc34, od34, .func (PySem.W.fnOf "_law_bad_rows_right" "_law_bad_rows_right" (defArgs s_law_bad_rows_right) (defBody s_law_bad_rows_right) (defScope s_law_bad_rows_right) .none kV34 dc34 pm34 an34 cd34 ct34), sl34⟩) (c34 : PySem.W.codeIn K cd34 "_law_bad_rows_right" = true) (k34 : PySem.W.keepIn K (.ref f34) = true)
    {f35 : Addr} {od35 an35 : Option Addr} {sl35 : Array (Option Value)} {oc35 kV35 dc35 pm35 cd35 ct35 : Value}
    (a35 : PySem.W.nsIn K mainGlobals "law" = some (some (.ref f35)))
    (l35 : K.lookup f35 = some ⟨oc35, od35, .func (PySem.W.fnOf "law" "law" (defArgs s_law) (defBody s_law) (defScope s_law) .none kV35 dc35 pm35 an35 cd35 ct35), sl35⟩) (c35 : PySem.W.codeIn K cd35 "law" = true) (k35 : PySem.W.keepIn K (.ref f35) = true)
    {nm_NoDeed q_NoDeed : Str} {N_NoDeed : Addr} {bs_NoDeed bm_NoDeed sub_NoDeed : List Value} {sn_NoDeed : List Str} {ab_NoDeed : Bool} {col_NoDeed : Option Bool} {dd_NoDeed : Option Addr} {e0_NoDeed e1_NoDeed e2_NoDeed e3_NoDeed e5_NoDeed : Option Value}
    (xL_NoDeed : K.lookup C_NoDeed = some (excClassObj nm_NoDeed q_NoDeed C_NoDeed N_NoDeed bs_NoDeed bm_NoDeed true sn_NoDeed sub_NoDeed ab_NoDeed col_NoDeed dd_NoDeed e0_NoDeed e1_NoDeed e2_NoDeed e3_NoDeed e5_NoDeed "ValueError.__new__")) (ve_NoDeed : PySem.HandSPX.refsVE bm_NoDeed = true)
    (sa_NoDeed : PySem.W.findIn K (.ref C_NoDeed) "__setattr__" = some (some (.builtin "object.__setattr__")))
    (ga_NoDeed : PySem.W.findIn K (.ref C_NoDeed) "__getattribute__" = some (some (.builtin "BaseException.__getattribute__")))
    (gg_NoDeed : PySem.W.findIn K (.ref C_NoDeed) "__getattr__" = some none)
    (no_NoDeed : PySem.W.findIn K (.ref C_NoDeed) "found" = some none)
    (ex_NoDeed : PySem.W.subIn K (.ref C_NoDeed) (.type "BaseException") = some true)
    (ty_NoDeed : PySem.W.typeIn K (.ref C_NoDeed) = some (.type "type"))
    (kC_NoDeed : PySem.W.keepIn K (.ref C_NoDeed) = true)
    (hd_NoDeed : PySem.W.hasDictIn K C_NoDeed = true)
    (ha_NoDeed : PySem.W.findIn K (.ref C_NoDeed) "__class__" = some (some (.builtin "object.__class__")))
    (hm_NoDeed : PySem.W.mroIn K C_NoDeed (.type "object") = some true)
    (ti_NoDeed : PySem.W.typeIn K (.ref f1) = some (.type "function"))
    {nm_NoText q_NoText : Str} {N_NoText : Addr} {bs_NoText bm_NoText sub_NoText : List Value} {sn_NoText : List Str} {ab_NoText : Bool} {col_NoText : Option Bool} {dd_NoText : Option Addr} {e0_NoText e1_NoText e2_NoText e3_NoText e5_NoText : Option Value}
    (xL_NoText : K.lookup C_NoText = some (excClassObj nm_NoText q_NoText C_NoText N_NoText bs_NoText bm_NoText true sn_NoText sub_NoText ab_NoText col_NoText dd_NoText e0_NoText e1_NoText e2_NoText e3_NoText e5_NoText "ValueError.__new__")) (ve_NoText : PySem.HandSPX.refsVE bm_NoText = true)
    (sa_NoText : PySem.W.findIn K (.ref C_NoText) "__setattr__" = some (some (.builtin "object.__setattr__")))
    (ga_NoText : PySem.W.findIn K (.ref C_NoText) "__getattribute__" = some (some (.builtin "BaseException.__getattribute__")))
    (gg_NoText : PySem.W.findIn K (.ref C_NoText) "__getattr__" = some none)
    (no_NoText : PySem.W.findIn K (.ref C_NoText) "row" = some none)
    (ex_NoText : PySem.W.subIn K (.ref C_NoText) (.type "BaseException") = some true)
    (ty_NoText : PySem.W.typeIn K (.ref C_NoText) = some (.type "type"))
    (kC_NoText : PySem.W.keepIn K (.ref C_NoText) = true)
    (hd_NoText : PySem.W.hasDictIn K C_NoText = true)
    (ha_NoText : PySem.W.findIn K (.ref C_NoText) "__class__" = some (some (.builtin "object.__class__")))
    (hm_NoText : PySem.W.mroIn K C_NoText (.type "object") = some true)
    (ti_NoText : PySem.W.typeIn K (.ref f2) = some (.type "function"))
    (rd_StaffError : PySem.W.readsIn K C_StaffError (.type "type") = true) (rg_StaffError : PySem.W.specialIn K (.ref C_StaffError) "__getattribute__" = some (some (.builtin "type.__getattribute__"))) (vi_StaffError : PySem.W.findCls K (.ref C_StaffError) (.type "type") "__init__" = some (.val (.builtin "ValueError.__init__")))
    (oc_get : PySem.W.specialIn K (.builtin "object.__class__") "__get__" = some (some (.builtin "getset_descriptor.__get__"))) (oc_take : PySem.W.takesIn K (.builtin "object.__class__") = some true)
    (ex_NoDeed_NoDeed : PySem.W.exmOne K (.ref C_NoDeed) (.ref C_NoDeed) = some true)
    (ex_NoText_NoText : PySem.W.exmOne K (.ref C_NoText) (.ref C_NoText) = some true)
    {u_LONGEST : Value} (g_LONGEST : PySem.W.nsIn K mainGlobals "LONGEST" = some (some u_LONGEST)) (r_LONGEST : RelV (V.int 6) u_LONGEST)
    {u_LETTERS : Value} (g_LETTERS : PySem.W.nsIn K mainGlobals "LETTERS" = some (some u_LETTERS)) (r_LETTERS : RelV (V.str "abcdefghijklmnopqrstuvwxyz") u_LETTERS)
    {u_MOST_NUMBER : Value} (g_MOST_NUMBER : PySem.W.nsIn K mainGlobals "MOST_NUMBER" = some (some u_MOST_NUMBER)) (r_MOST_NUMBER : RelV (V.int 999999) u_MOST_NUMBER)
    {t_THINGS : Addr} {oT_THINGS : Obj} (gt_THINGS : PySem.W.nsIn K mainGlobals "THINGS" = some (some (.ref t_THINGS))) (lt_THINGS : K.lookup t_THINGS = some oT_THINGS) (kt_THINGS : (oT_THINGS.cls = .type "tuple" ∧ oT_THINGS.dict = none) ∧ ∃ (its : Array Value) (n : Nat), oT_THINGS.data = .seq its n ∧ its.size ≤ sizeLine ∧ Vals [V.str "staff", V.str "ticket", V.str "pilot", V.str "long"] its.toList)
    {t_KINDS : Addr} {oT_KINDS : Obj} (gt_KINDS : PySem.W.nsIn K mainGlobals "KINDS" = some (some (.ref t_KINDS))) (lt_KINDS : K.lookup t_KINDS = some oT_KINDS) (kt_KINDS : (oT_KINDS.cls = .type "tuple" ∧ oT_KINDS.dict = none) ∧ ∃ (its : Array Value) (n : Nat), oT_KINDS.data = .seq its n ∧ its.size ≤ sizeLine ∧ Vals [V.str "through", V.str "lock", V.str "open"] its.toList)
    {q_FORMS : Addr} {es_FORMS : Array DictEntry} {nq_FORMS : Nat} (gq_FORMS : PySem.W.nsIn K mainGlobals "FORMS" = some (some (.ref q_FORMS))) (lq_FORMS : K.lookup q_FORMS = some ⟨.type "dict", none, .dict es_FORMS nq_FORMS, #[]⟩) (wq_FORMS : (q_FORMS == sysModules) = false) (en_FORMS : Ents K w.params es_FORMS.toList l_FORMS)
    (z_all : PySem.W.nsIn K mainGlobals "all" = some none)
    (z_bool : PySem.W.nsIn K mainGlobals "bool" = some none)
    (z_enumerate : PySem.W.nsIn K mainGlobals "enumerate" = some none)
    (z_int : PySem.W.nsIn K mainGlobals "int" = some none)
    (z_isinstance : PySem.W.nsIn K mainGlobals "isinstance" = some none)
    (z_len : PySem.W.nsIn K mainGlobals "len" = some none)
    (z_list : PySem.W.nsIn K mainGlobals "list" = some none)
    (z_max : PySem.W.nsIn K mainGlobals "max" = some none)
    (z_min : PySem.W.nsIn K mainGlobals "min" = some none)
    (z_range : PySem.W.nsIn K mainGlobals "range" = some none)
    (z_repr : PySem.W.nsIn K mainGlobals "repr" = some none)
    (z_str : PySem.W.nsIn K mainGlobals "str" = some none)
    (z_tuple : PySem.W.nsIn K mainGlobals "tuple" = some none)
    (z_zip : PySem.W.nsIn K mainGlobals "zip" = some none) :
    ∃ fd : FuncData, (∀ (s : Shared) (v : Value), BindsTo s fd ⟨[v], []⟩ [("_law_script", v)]) ∧ ∀ base : Heap, K.In base → base.Ns mainGlobals mg → (∃ mm, base.Ns sysModules mm) → FnG l.prog w K mg base (L2.CX l.prog w) 9 fa fd ["_law_script"] (sp_law K) := by
  have e : fa = f35 := by
    have z := hfa.symm.trans (PySem.W.mg_of X G a35)
    injection z with z; injection z
  let T : Tx K mg w := {
    C_NoDeed := C_NoDeed, m_NoDeed := PySem.W.mg_of X G n_NoDeed,
    C_NoText := C_NoText, m_NoText := PySem.W.mg_of X G n_NoText,
    C_StaffError := C_StaffError, m_StaffError := PySem.W.mg_of X G n_StaffError,
    a_NoDeed_init := f1, d_NoDeed_init := _, F_NoDeed_init := fun_mk (st := s_NoDeed_init) l1 c1 k1, B_NoDeed_init := (fun_mk (st := s_NoDeed_init) l1 c1 k1).binds (ps := ["self", "found"]) (fun _ _ _ _ _ _ us hl => match us, hl with | [_, _], _ => rfl),
    a_NoText_init := f2, d_NoText_init := _, F_NoText_init := fun_mk (st := s_NoText_init) l2 c2 k2, B_NoText_init := (fun_mk (st := s_NoText_init) l2 c2 k2).binds (ps := ["self", "row"]) (fun _ _ _ _ _ _ us hl => match us, hl with | [_, _], _ => rfl),
    a_is_whole := f3, d_is_whole := _, F_is_whole := fun_mk (st := s_is_whole) l3 c3 k3, B_is_whole := (fun_mk (st := s_is_whole) l3 c3 k3).binds (ps := ["thing", "low", "high"]) (fun _ _ _ _ _ _ us hl => match us, hl with | [_, _, _], _ => rfl), m_is_whole := PySem.W.mg_of X G a3,
    a_is_name := f4, d_is_name := _, F_is_name := fun_mk (st := s_is_name) l4 c4 k4, B_is_name := (fun_mk (st := s_is_name) l4 c4 k4).binds (ps := ["thing"]) (fun _ _ _ _ _ _ us hl => match us, hl with | [_], _ => rfl), m_is_name := PySem.W.mg_of X G a4,
    a_is_filled := f5, d_is_filled := _, F_is_filled := fun_mk (st := s_is_filled) l5 c5 k5, B_is_filled := (fun_mk (st := s_is_filled) l5 c5 k5).binds (ps := ["part"]) (fun _ _ _ _ _ _ us hl => match us, hl with | [_], _ => rfl), m_is_filled := PySem.W.mg_of X G a5,
    a_is_part := f6, d_is_part := _, F_is_part := fun_mk (st := s_is_part) l6 c6 k6, B_is_part := (fun_mk (st := s_is_part) l6 c6 k6).binds (ps := ["part", "thing"]) (fun _ _ _ _ _ _ us hl => match us, hl with | [_, _], _ => rfl), m_is_part := PySem.W.mg_of X G a6,
    a_is_deed := f7, d_is_deed := _, F_is_deed := fun_mk (st := s_is_deed) l7 c7 k7, B_is_deed := (fun_mk (st := s_is_deed) l7 c7 k7).binds (ps := ["thing"]) (fun _ _ _ _ _ _ us hl => match us, hl with | [_], _ => rfl), m_is_deed := PySem.W.mg_of X G a7,
    a_deed_text := f8, d_deed_text := _, F_deed_text := fun_mk (st := s_deed_text) l8 c8 k8, B_deed_text := (fun_mk (st := s_deed_text) l8 c8 k8).binds (ps := ["deed"]) (fun _ _ _ _ _ _ us hl => match us, hl with | [_], _ => rfl), m_deed_text := PySem.W.mg_of X G a8,
    a_number_in := f9, d_number_in := _, F_number_in := fun_mk (st := s_number_in) l9 c9 k9, B_number_in := (fun_mk (st := s_number_in) l9 c9 k9).binds (ps := ["word"]) (fun _ _ _ _ _ _ us hl => match us, hl with | [_], _ => rfl), m_number_in := PySem.W.mg_of X G a9,
    a_part_in := f10, d_part_in := _, F_part_in := fun_mk (st := s_part_in) l10 c10 k10, B_part_in := (fun_mk (st := s_part_in) l10 c10 k10).binds (ps := ["part", "word"]) (fun _ _ _ _ _ _ us hl => match us, hl with | [_, _], _ => rfl), m_part_in := PySem.W.mg_of X G a10,
    a_deed_of := f11, d_deed_of := _, F_deed_of := fun_mk (st := s_deed_of) l11 c11 k11, B_deed_of := (fun_mk (st := s_deed_of) l11 c11 k11).binds (ps := ["words"]) (fun _ _ _ _ _ _ us hl => match us, hl with | [_], _ => rfl), m_deed_of := PySem.W.mg_of X G a11,
    a_log_text := f12, d_log_text := _, F_log_text := fun_mk (st := s_log_text) l12 c12 k12, B_log_text := (fun_mk (st := s_log_text) l12 c12 k12).binds (ps := ["deeds"]) (fun _ _ _ _ _ _ us hl => match us, hl with | [_], _ => rfl), m_log_text := PySem.W.mg_of X G a12,
    a_rows_read := f13, d_rows_read := _, F_rows_read := fun_mk (st := s_rows_read) l13 c13 k13, B_rows_read := (fun_mk (st := s_rows_read) l13 c13 k13).binds (ps := ["rows", "first"]) (fun _ _ _ _ _ _ us hl => match us, hl with | [_, _], _ => rfl), m_rows_read := PySem.W.mg_of X G a13,
    a_read_log := f14, d_read_log := _, F_read_log := fun_mk (st := s_read_log) l14 c14 k14, B_read_log := (fun_mk (st := s_read_log) l14 c14 k14).binds (ps := ["text"]) (fun _ _ _ _ _ _ us hl => match us, hl with | [_], _ => rfl), m_read_log := PySem.W.mg_of X G a14,
    a_law_cell := f15, d_law_cell := _, F_law_cell := fun_mk (st := s_law_cell) l15 c15 k15, B_law_cell := (fun_mk (st := s_law_cell) l15 c15 k15).binds (ps := ["_law_script", "_law_k"]) (fun _ _ _ _ _ _ us hl => match us, hl with | [_, _], _ => rfl), m_law_cell := PySem.W.mg_of X G a15,
    a_law_box := f16, d_law_box := _, F_law_box := fun_mk (st := s_law_box) l16 c16 k16, B_law_box := (fun_mk (st := s_law_box) l16 c16 k16).binds (ps := ["_law_cell_here"]) (fun _ _ _ _ _ _ us hl => match us, hl with | [_], _ => rfl), m_law_box := PySem.W.mg_of X G a16,
    a_law_take := f17, d_law_take := _, F_law_take := fun_mk (st := s_law_take) l17 c17 k17, B_law_take := (fun_mk (st := s_law_take) l17 c17 k17).binds (ps := ["_law_box_here", "_law_many"]) (fun _ _ _ _ _ _ us hl => match us, hl with | [_, _], _ => rfl), m_law_take := PySem.W.mg_of X G a17,
    a_law_name := f18, d_law_name := _, F_law_name := fun_mk (st := s_law_name) l18 c18 k18, B_law_name := (fun_mk (st := s_law_name) l18 c18 k18).binds (ps := ["_law_box_here"]) (fun _ _ _ _ _ _ us hl => match us, hl with | [_], _ => rfl), m_law_name := PySem.W.mg_of X G a18,
    a_law_number := f19, d_law_number := _, F_law_number := fun_mk (st := s_law_number) l19 c19 k19, B_law_number := (fun_mk (st := s_law_number) l19 c19 k19).binds (ps := ["_law_box_here"]) (fun _ _ _ _ _ _ us hl => match us, hl with | [_], _ => rfl), m_law_number := PySem.W.mg_of X G a19,
    a_law_forms := f20, d_law_forms := _, F_law_forms := fun_mk (st := s_law_forms) l20 c20 k20, B_law_forms := (fun_mk (st := s_law_forms) l20 c20 k20).binds (ps := []) (fun _ _ _ _ _ _ us hl => match us, hl with | [], _ => rfl), m_law_forms := PySem.W.mg_of X G a20,
    a_law_part := f21, d_law_part := _, F_law_part := fun_mk (st := s_law_part) l21 c21 k21, B_law_part := (fun_mk (st := s_law_part) l21 c21 k21).binds (ps := ["_law_box_here", "_law_sign"]) (fun _ _ _ _ _ _ us hl => match us, hl with | [_, _], _ => rfl), m_law_part := PySem.W.mg_of X G a21,
    a_law_deed := f22, d_law_deed := _, F_law_deed := fun_mk (st := s_law_deed) l22 c22 k22, B_law_deed := (fun_mk (st := s_law_deed) l22 c22 k22).binds (ps := ["_law_box_here"]) (fun _ _ _ _ _ _ us hl => match us, hl with | [_], _ => rfl), m_law_deed := PySem.W.mg_of X G a22,
    a_law_is_name := f23, d_law_is_name := _, F_law_is_name := fun_mk (st := s_law_is_name) l23 c23 k23, B_law_is_name := (fun_mk (st := s_law_is_name) l23 c23 k23).binds (ps := ["_law_thing"]) (fun _ _ _ _ _ _ us hl => match us, hl with | [_], _ => rfl), m_law_is_name := PySem.W.mg_of X G a23,
    a_law_number_read := f24, d_law_number_read := _, F_law_number_read := fun_mk (st := s_law_number_read) l24 c24 k24, B_law_number_read := (fun_mk (st := s_law_number_read) l24 c24 k24).binds (ps := ["_law_word"]) (fun _ _ _ _ _ _ us hl => match us, hl with | [_], _ => rfl), m_law_number_read := PySem.W.mg_of X G a24,
    a_law_is_part := f25, d_law_is_part := _, F_law_is_part := fun_mk (st := s_law_is_part) l25 c25 k25, B_law_is_part := (fun_mk (st := s_law_is_part) l25 c25 k25).binds (ps := ["_law_sign", "_law_thing"]) (fun _ _ _ _ _ _ us hl => match us, hl with | [_, _], _ => rfl), m_law_is_part := PySem.W.mg_of X G a25,
    a_law_deed_read := f26, d_law_deed_read := _, F_law_deed_read := fun_mk (st := s_law_deed_read) l26 c26 k26, B_law_deed_read := (fun_mk (st := s_law_deed_read) l26 c26 k26).binds (ps := ["_law_row"]) (fun _ _ _ _ _ _ us hl => match us, hl with | [_], _ => rfl), m_law_deed_read := PySem.W.mg_of X G a26,
    a_law_odd := f27, d_law_odd := _, F_law_odd := fun_mk (st := s_law_odd) l27 c27 k27, B_law_odd := (fun_mk (st := s_law_odd) l27 c27 k27).binds (ps := ["_law_box_here"]) (fun _ _ _ _ _ _ us hl => match us, hl with | [_], _ => rfl), m_law_odd := PySem.W.mg_of X G a27,
    a_law_bad_row := f28, d_law_bad_row := _, F_law_bad_row := fun_mk (st := s_law_bad_row) l28 c28 k28, B_law_bad_row := (fun_mk (st := s_law_bad_row) l28 c28 k28).binds (ps := ["_law_box_here", "_law_row"]) (fun _ _ _ _ _ _ us hl => match us, hl with | [_, _], _ => rfl), m_law_bad_row := PySem.W.mg_of X G a28,
    a_law_wrote := f29, d_law_wrote := _, F_law_wrote := fun_mk (st := s_law_wrote) l29 c29 k29, B_law_wrote := (fun_mk (st := s_law_wrote) l29 c29 k29).binds (ps := ["_law_deeds"]) (fun _ _ _ _ _ _ us hl => match us, hl with | [_], _ => rfl), m_law_wrote := PySem.W.mg_of X G a29,
    a_law_read := f30, d_law_read := _, F_law_read := fun_mk (st := s_law_read) l30 c30 k30, B_law_read := (fun_mk (st := s_law_read) l30 c30 k30).binds (ps := ["_law_text"]) (fun _ _ _ _ _ _ us hl => match us, hl with | [_], _ => rfl), m_law_read := PySem.W.mg_of X G a30,
    a_law_read_due := f31, d_law_read_due := _, F_law_read_due := fun_mk (st := s_law_read_due) l31 c31 k31, B_law_read_due := (fun_mk (st := s_law_read_due) l31 c31 k31).binds (ps := ["_law_text"]) (fun _ _ _ _ _ _ us hl => match us, hl with | [_], _ => rfl), m_law_read_due := PySem.W.mg_of X G a31,
    a_law_good_right := f32, d_law_good_right := _, F_law_good_right := fun_mk (st := s_law_good_right) l32 c32 k32, B_law_good_right := (fun_mk (st := s_law_good_right) l32 c32 k32).binds (ps := ["_law_deeds", "_law_rows"]) (fun _ _ _ _ _ _ us hl => match us, hl with | [_, _], _ => rfl), m_law_good_right := PySem.W.mg_of X G a32,
    a_law_bad_deeds_right := f33, d_law_bad_deeds_right := _, F_law_bad_deeds_right := fun_mk (st := s_law_bad_deeds_right) l33 c33 k33, B_law_bad_deeds_right := (fun_mk (st := s_law_bad_deeds_right) l33 c33 k33).binds (ps := ["_law_box_here", "_law_deeds"]) (fun _ _ _ _ _ _ us hl => match us, hl with | [_, _], _ => rfl), m_law_bad_deeds_right := PySem.W.mg_of X G a33,
    a_law_bad_rows_right := f34, d_law_bad_rows_right := _, F_law_bad_rows_right := fun_mk (st := s_law_bad_rows_right) l34 c34 k34, B_law_bad_rows_right := (fun_mk (st := s_law_bad_rows_right) l34 c34 k34).binds (ps := ["_law_box_here", "_law_rows"]) (fun _ _ _ _ _ _ us hl => match us, hl with | [_, _], _ => rfl), m_law_bad_rows_right := PySem.W.mg_of X G a34,
    a_law := f35, d_law := _, F_law := fun_mk (st := s_law) l35 c35 k35, B_law := (fun_mk (st := s_law) l35 c35 k35).binds (ps := ["_law_script"]) (fun _ _ _ _ _ _ us hl => match us, hl with | [_], _ => rfl), m_law := PySem.W.mg_of X G a35,
    er_NoDeed := ⟨⟨⟨_, _, _, _, _, _, _, _, _, _, _, _, _, _, _, xL_NoDeed, ve_NoDeed⟩, sa_NoDeed, ex_NoDeed, ty_NoDeed, kC_NoDeed⟩, ⟨ga_NoDeed, gg_NoDeed, ex_NoDeed, hd_NoDeed⟩, no_NoDeed, a1, ti_NoDeed, ha_NoDeed, hm_NoDeed⟩,
    er_NoText := ⟨⟨⟨_, _, _, _, _, _, _, _, _, _, _, _, _, _, _, xL_NoText, ve_NoText⟩, sa_NoText, ex_NoText, ty_NoText, kC_NoText⟩, ⟨ga_NoText, gg_NoText, ex_NoText, hd_NoText⟩, no_NoText, a2, ti_NoText, ha_NoText, hm_NoText⟩,
    rd_StaffError := ⟨rd_StaffError, rg_StaffError⟩, vi_StaffError := vi_StaffError,
    oc_get := oc_get, oc_take := oc_take,
    ex_NoDeed_NoDeed := ex_NoDeed_NoDeed,
    ex_NoText_NoText := ex_NoText_NoText,
    c_LONGEST := u_LONGEST, mc_LONGEST := PySem.W.mg_of X G g_LONGEST, rc_LONGEST := r_LONGEST,
    c_LETTERS := u_LETTERS, mc_LETTERS := PySem.W.mg_of X G g_LETTERS, rc_LETTERS := r_LETTERS,
    c_MOST_NUMBER := u_MOST_NUMBER, mc_MOST_NUMBER := PySem.W.mg_of X G g_MOST_NUMBER, rc_MOST_NUMBER := r_MOST_NUMBER,
    t_THINGS := t_THINGS, mt_THINGS := PySem.W.mg_of X G gt_THINGS, kt_THINGS := KT.mk' lt_THINGS kt_THINGS,
    t_KINDS := t_KINDS, mt_KINDS := PySem.W.mg_of X G gt_KINDS, kt_KINDS := KT.mk' lt_KINDS kt_KINDS,
    q_FORMS := q_FORMS, mq_FORMS := PySem.W.mg_of X G gq_FORMS, kq_FORMS := KF.mk' lq_FORMS wq_FORMS en_FORMS,
    z_all := PySem.W.mg_none_of X G z_all,
    z_bool := PySem.W.mg_none_of X G z_bool,
    z_enumerate := PySem.W.mg_none_of X G z_enumerate,
    z_int := PySem.W.mg_none_of X G z_int,
    z_isinstance := PySem.W.mg_none_of X G z_isinstance,
    z_len := PySem.W.mg_none_of X G z_len,
    z_list := PySem.W.mg_none_of X G z_list,
    z_max := PySem.W.mg_none_of X G z_max,
    z_min := PySem.W.mg_none_of X G z_min,
    z_range := PySem.W.mg_none_of X G z_range,
    z_repr := PySem.W.mg_none_of X G z_repr,
    z_str := PySem.W.mg_none_of X G z_str,
    z_tuple := PySem.W.mg_none_of X G z_tuple,
    z_zip := PySem.W.mg_none_of X G z_zip }
  rw [e]
  exact ⟨T.d_law, fun s v => .of_eq rfl, fun base _ _ hs => ok_law T hs⟩
theorem walk {l : PySem.W.OpenLaw} {q : Program} {lo : List Str} {XP : (Str → Option Value) → Heap → Prop} {YP : World → Heap → Prop} {d : DefRec} {K : Params → PySem.W.Frag} (hn : l.most = some 63) (hdf : d.params.defaults = []) (hi : PyProof.Rows.importsNone q = true)
    (hY : ∀ (w : World) (h : Heap), YP w h → (K w.params).In h)
    (F : ∀ (w : World) (mg : Str → Option Value) (fa : Addr) (h : Heap), (K w.params).In h → h.Ns mainGlobals mg → mg d.name = some (.ref fa) →
      ∃ fd : FuncData, (∀ (s : Shared) (u : Value), BindsTo s fd ⟨[u], []⟩ [("_law_script", u)]) ∧ ∀ base : Heap, (K w.params).In base → base.Ns mainGlobals mg → (∃ mm, base.Ns sysModules mm) → FnG l.prog w (K w.params) mg base (L2.CX l.prog w) 9 fa fd ["_law_script"] (sp_law (K w.params))) :
    PySem.W.WalkO q lo XP YP l.row.toRowW d [] (fun f vs => PySem.call f vs) :=
  walkG (n := 63) (k := 9) (x := "_law_script") (cx := fun w => L2.CX l.prog w) (sp := fun w => sp_law (K w.params)) hn (by decide) hdf ⟨rfl, by decide, by decide⟩ hi hY F (fun _ _ a ns hl _ hS => ⟨_, rfl, a, ns, rfl, hS, hl, fun _ => rfl⟩) fun _ _ _ _ _ z => by obtain ⟨_, _, _, _, _, _, _, _, _, _, _, _, y⟩ := z; exact y
end K75
open PySem PySem.W PyProof.Rows
set_option maxRecDepth 100000 in
set_option maxHeartbeats 0 in
theorem PySem.Challenge.cw_onestaff_k75_logs_holds : PySem.Challenge.rw_onestaff_k75_logs.Holds := by
  w_on; o_law; k_head; (case hw => w_witness2)
  k_fill
  refine K75.walk (l := PySem.Challenge.rw_onestaff_k75_logs) rfl rfl rfl (fun w h Y => PySem.W.kIn_of Y) ?F
  case F =>
    intro w mg fa h KX G hmg
    refine' K75.all_mk KX G hmg ?n_NoDeed ?n_NoText ?n_StaffError ?a1 ?l1 ?c1 ?k1 ?a2 ?l2 ?c2 ?k2 ?a3 ?l3 ?c3 ?k3 ?a4 ?l4 ?c4 ?k4 ?a5 ?l5 ?c5 ?k5 ?a6 ?l6 ?c6 ?k6 ?a7 ?l7 ?c7 ?k7 ?a8 ?l8 ?c8 ?k8 ?a9 ?l9 ?c9 ?k9 ?a10 ?l10 ?c10 ?k10 ?a11 ?l11 ?c11 ?k11 ?a12 ?l12 ?c12 ?k12 ?a13 ?l13 ?c13 ?k13 ?a14 ?l14 ?c14 ?k14 ?a15 ?l15 ?c15 ?k15 ?a16 ?l16 ?c16 ?k16 ?a17 ?l17 ?c17 ?k17 ?a18 ?l18 ?c18 ?k18 ?a19 ?l19 ?c19 ?k19 ?a20 ?l20 ?c20 ?k20 ?a21 ?l21 ?c21 ?k21 ?a22 ?l22 ?c22 ?k22 ?a23 ?l23 ?c23 ?k23 ?a24 ?l24 ?c24 ?k24 ?a25 ?l25 ?c25 ?k25 ?a26 ?l26 ?c26 ?k26 ?a27 ?l27 ?c27 ?k27 ?a28 ?l28 ?c28 ?k28 ?a29 ?l29 ?c29 ?k29 ?a30 ?l30 ?c30 ?k30 ?a31 ?l31 ?c31 ?k31 ?a32 ?l32 ?c32 ?k32 ?a33 ?l33 ?c33 ?k33 ?a34 ?l34 ?c34 ?k34 ?a35 ?l35 ?c35 ?k35 ?xL_NoDeed ?ve_NoDeed ?sa_NoDeed ?ga_NoDeed ?gg_NoDeed ?no_NoDeed ?ex_NoDeed ?ty_NoDeed ?kC_NoDeed ?hd_NoDeed ?ha_NoDeed ?hm_NoDeed ?ti_NoDeed ?xL_NoText ?ve_NoText ?sa_NoText ?ga_NoText ?gg_NoText ?no_NoText ?ex_NoText ?ty_NoText ?kC_NoText ?hd_NoText ?ha_NoText ?hm_NoText ?ti_NoText ?rd_StaffError ?rg_StaffError ?vi_StaffError ?oc_get ?oc_take ?ex_NoDeed_NoDeed ?ex_NoText_NoText ?g_LONGEST ?r_LONGEST ?g_LETTERS ?r_LETTERS ?g_MOST_NUMBER ?r_MOST_NUMBER ?gt_THINGS ?lt_THINGS ?kt_THINGS ?gt_KINDS ?lt_KINDS ?kt_KINDS ?gq_FORMS ?lq_FORMS ?wq_FORMS ?en_FORMS ?z_all ?z_bool ?z_enumerate ?z_int ?z_isinstance ?z_len ?z_list ?z_max ?z_min ?z_range ?z_repr ?z_str ?z_tuple ?z_zip
    (case n_NoDeed => k_is)
    (case n_NoText => k_is)
    (case n_StaffError => k_is)
    (case a1 => k_is)
    (case l1 => k_is)
    (case c1 => k_is)
    (case k1 => k_is)
    (case a2 => k_is)
    (case l2 => k_is)
    (case c2 => k_is)
    (case k2 => k_is)
    (case a3 => k_is)
    (case l3 => k_is)
    (case c3 => k_is)
    (case k3 => k_is)
    (case a4 => k_is)
    (case l4 => k_is)
    (case c4 => k_is)
    (case k4 => k_is)
    (case a5 => k_is)
    (case l5 => k_is)
    (case c5 => k_is)
    (case k5 => k_is)
    (case a6 => k_is)
    (case l6 => k_is)
    (case c6 => k_is)
    (case k6 => k_is)
    (case a7 => k_is)
    (case l7 => k_is)
    (case c7 => k_is)
    (case k7 => k_is)
    (case a8 => k_is)
    (case l8 => k_is)
    (case c8 => k_is)
    (case k8 => k_is)
    (case a9 => k_is)
    (case l9 => k_is)
    (case c9 => k_is)
    (case k9 => k_is)
    (case a10 => k_is)
    (case l10 => k_is)
    (case c10 => k_is)
    (case k10 => k_is)
    (case a11 => k_is)
    (case l11 => k_is)
    (case c11 => k_is)
    (case k11 => k_is)
    (case a12 => k_is)
    (case l12 => k_is)
    (case c12 => k_is)
    (case k12 => k_is)
    (case a13 => k_is)
    (case l13 => k_is)
    (case c13 => k_is)
    (case k13 => k_is)
    (case a14 => k_is)
    (case l14 => k_is)
    (case c14 => k_is)
    (case k14 => k_is)
    (case a15 => k_is)
    (case l15 => k_is)
    (case c15 => k_is)
    (case k15 => k_is)
    (case a16 => k_is)
    (case l16 => k_is)
    (case c16 => k_is)
    (case k16 => k_is)
    (case a17 => k_is)
    (case l17 => k_is)
    (case c17 => k_is)
    (case k17 => k_is)
    (case a18 => k_is)
    (case l18 => k_is)
    (case c18 => k_is)
    (case k18 => k_is)
    (case a19 => k_is)
    (case l19 => k_is)
    (case c19 => k_is)
    (case k19 => k_is)
    (case a20 => k_is)
    (case l20 => k_is)
    (case c20 => k_is)
    (case k20 => k_is)
    (case a21 => k_is)
    (case l21 => k_is)
    (case c21 => k_is)
    (case k21 => k_is)
    (case a22 => k_is)
    (case l22 => k_is)
    (case c22 => k_is)
    (case k22 => k_is)
    (case a23 => k_is)
    (case l23 => k_is)
    (case c23 => k_is)
    (case k23 => k_is)
    (case a24 => k_is)
    (case l24 => k_is)
    (case c24 => k_is)
    (case k24 => k_is)
    (case a25 => k_is)
    (case l25 => k_is)
    (case c25 => k_is)
    (case k25 => k_is)
    (case a26 => k_is)
    (case l26 => k_is)
    (case c26 => k_is)
    (case k26 => k_is)
    (case a27 => k_is)
    (case l27 => k_is)
    (case c27 => k_is)
    (case k27 => k_is)
    (case a28 => k_is)
    (case l28 => k_is)
    (case c28 => k_is)
    (case k28 => k_is)
    (case a29 => k_is)
    (case l29 => k_is)
    (case c29 => k_is)
    (case k29 => k_is)
    (case a30 => k_is)
    (case l30 => k_is)
    (case c30 => k_is)
    (case k30 => k_is)
    (case a31 => k_is)
    (case l31 => k_is)
    (case c31 => k_is)
    (case k31 => k_is)
    (case a32 => k_is)
    (case l32 => k_is)
    (case c32 => k_is)
    (case k32 => k_is)
    (case a33 => k_is)
    (case l33 => k_is)
    (case c33 => k_is)
    (case k33 => k_is)
    (case a34 => k_is)
    (case l34 => k_is)
    (case c34 => k_is)
    (case k34 => k_is)
    (case a35 => k_is)
    (case l35 => k_is)
    (case c35 => k_is)
    (case k35 => k_is)
    (case xL_NoDeed => k_is)
    (case ve_NoDeed => rfl)
    (case sa_NoDeed => k_is)
    (case ga_NoDeed => k_is)
    (case gg_NoDeed => k_is)
    (case no_NoDeed => k_is)
    (case ex_NoDeed => k_is)
    (case ty_NoDeed => k_is)
    (case kC_NoDeed => k_is)
    (case hd_NoDeed => k_is)
    (case ha_NoDeed => k_is)
    (case hm_NoDeed => k_is)
    (case ti_NoDeed => k_is)
    (case xL_NoText => k_is)
    (case ve_NoText => rfl)
    (case sa_NoText => k_is)
    (case ga_NoText => k_is)
    (case gg_NoText => k_is)
    (case no_NoText => k_is)
    (case ex_NoText => k_is)
    (case ty_NoText => k_is)
    (case kC_NoText => k_is)
    (case hd_NoText => k_is)
    (case ha_NoText => k_is)
    (case hm_NoText => k_is)
    (case ti_NoText => k_is)
    (case rd_StaffError => k_is)
    (case rg_StaffError => k_is)
    (case vi_StaffError => k_is)
    (case oc_get => k_is)
    (case oc_take => k_is)
    (case ex_NoDeed_NoDeed => kts_exm)
    (case ex_NoText_NoText => kts_exm)
    (case g_LONGEST => k_is)
    (case r_LONGEST => exact ⟨_, rfl⟩)
    (case g_LETTERS => k_is)
    (case r_LETTERS => exact ⟨_, rfl⟩)
    (case g_MOST_NUMBER => k_is)
    (case r_MOST_NUMBER => exact ⟨_, rfl⟩)
    (case gt_THINGS => k_is)
    (case lt_THINGS => k_is)
    (case kt_THINGS => exact ⟨⟨rfl, rfl⟩, _, _, rfl, by decide, (.cons ⟨_, rfl⟩ (.cons ⟨_, rfl⟩ (.cons ⟨_, rfl⟩ (.cons ⟨_, rfl⟩ .nil))))⟩)
    (case gt_KINDS => k_is)
    (case lt_KINDS => k_is)
    (case kt_KINDS => exact ⟨⟨rfl, rfl⟩, _, _, rfl, by decide, (.cons ⟨_, rfl⟩ (.cons ⟨_, rfl⟩ (.cons ⟨_, rfl⟩ .nil)))⟩)
    (case gq_FORMS => k_is)
    (case lq_FORMS => k_is)
    (case wq_FORMS => rfl)
    (case en_FORMS =>
      refine' U.Ents.cons ⟨_, rfl⟩ rfl rfl (U.KT.mk' ?el0 ?eh0) ?er0
      (case el0 => k_is)
      (case eh0 => exact ⟨⟨rfl, rfl⟩, _, _, rfl, by decide, (.cons ⟨_, rfl⟩ (.cons ⟨_, rfl⟩ (.cons ⟨_, rfl⟩ (.cons ⟨_, rfl⟩ (.cons ⟨_, rfl⟩ .nil)))))⟩)
      refine' U.Ents.cons ⟨_, rfl⟩ rfl rfl (U.KT.mk' ?el1 ?eh1) ?er1
      (case el1 => k_is)
      (case eh1 => exact ⟨⟨rfl, rfl⟩, _, _, rfl, by decide, (.cons ⟨_, rfl⟩ .nil)⟩)
      refine' U.Ents.cons ⟨_, rfl⟩ rfl rfl (U.KT.mk' ?el2 ?eh2) ?er2
      (case el2 => k_is)
      (case eh2 => exact ⟨⟨rfl, rfl⟩, _, _, rfl, by decide, (.cons ⟨_, rfl⟩ (.cons ⟨_, rfl⟩ (.cons ⟨_, rfl⟩ (.cons ⟨_, rfl⟩ .nil))))⟩)
      refine' U.Ents.cons ⟨_, rfl⟩ rfl rfl (U.KT.mk' ?el3 ?eh3) ?er3
      (case el3 => k_is)
      (case eh3 => exact ⟨⟨rfl, rfl⟩, _, _, rfl, by decide, (.cons ⟨_, rfl⟩ (.cons ⟨_, rfl⟩ .nil))⟩)
      refine' U.Ents.cons ⟨_, rfl⟩ rfl rfl (U.KT.mk' ?el4 ?eh4) ?er4
      (case el4 => k_is)
      (case eh4 => exact ⟨⟨rfl, rfl⟩, _, _, rfl, by decide, (.cons ⟨_, rfl⟩ (.cons ⟨_, rfl⟩ .nil))⟩)
      refine' U.Ents.cons ⟨_, rfl⟩ rfl rfl (U.KT.mk' ?el5 ?eh5) ?er5
      (case el5 => k_is)
      (case eh5 => exact ⟨⟨rfl, rfl⟩, _, _, rfl, by decide, (.cons ⟨_, rfl⟩ (.cons ⟨_, rfl⟩ .nil))⟩)
      refine' U.Ents.cons ⟨_, rfl⟩ rfl rfl (U.KT.mk' ?el6 ?eh6) ?er6
      (case el6 => k_is)
      (case eh6 => exact ⟨⟨rfl, rfl⟩, _, _, rfl, by decide, (.cons ⟨_, rfl⟩ (.cons ⟨_, rfl⟩ .nil))⟩)
      refine' U.Ents.cons ⟨_, rfl⟩ rfl rfl (U.KT.mk' ?el7 ?eh7) ?er7
      (case el7 => k_is)
      (case eh7 => exact ⟨⟨rfl, rfl⟩, _, _, rfl, by decide, (.cons ⟨_, rfl⟩ (.cons ⟨_, rfl⟩ .nil))⟩)
      refine' U.Ents.cons ⟨_, rfl⟩ rfl rfl (U.KT.mk' ?el8 ?eh8) ?er8
      (case el8 => k_is)
      (case eh8 => exact ⟨⟨rfl, rfl⟩, _, _, rfl, by decide, (.cons ⟨_, rfl⟩ (.cons ⟨_, rfl⟩ (.cons ⟨_, rfl⟩ .nil)))⟩)
      refine' U.Ents.cons ⟨_, rfl⟩ rfl rfl (U.KT.mk' ?el9 ?eh9) ?er9
      (case el9 => k_is)
      (case eh9 => exact ⟨⟨rfl, rfl⟩, _, _, rfl, by decide, (.cons ⟨_, rfl⟩ (.cons ⟨_, rfl⟩ .nil))⟩)
      refine' U.Ents.cons ⟨_, rfl⟩ rfl rfl (U.KT.mk' ?el10 ?eh10) ?er10
      (case el10 => k_is)
      (case eh10 => exact ⟨⟨rfl, rfl⟩, _, _, rfl, by decide, (.cons ⟨_, rfl⟩ (.cons ⟨_, rfl⟩ (.cons ⟨_, rfl⟩ .nil)))⟩)
      refine' U.Ents.cons ⟨_, rfl⟩ rfl rfl (U.KT.mk' ?el11 ?eh11) ?er11
      (case el11 => k_is)
      (case eh11 => exact ⟨⟨rfl, rfl⟩, _, _, rfl, by decide, (.cons ⟨_, rfl⟩ (.cons ⟨_, rfl⟩ (.cons ⟨_, rfl⟩ .nil)))⟩)
      refine' U.Ents.cons ⟨_, rfl⟩ rfl rfl (U.KT.mk' ?el12 ?eh12) ?er12
      (case el12 => k_is)
      (case eh12 => exact ⟨⟨rfl, rfl⟩, _, _, rfl, by decide, (.cons ⟨_, rfl⟩ .nil)⟩)
      refine' U.Ents.cons ⟨_, rfl⟩ rfl rfl (U.KT.mk' ?el13 ?eh13) ?er13
      (case el13 => k_is)
      (case eh13 => exact ⟨⟨rfl, rfl⟩, _, _, rfl, by decide, (.cons ⟨_, rfl⟩ .nil)⟩)
      exact U.Ents.nil)
    (case z_all => k_is)
    (case z_bool => k_is)
    (case z_enumerate => k_is)
    (case z_int => k_is)
    (case z_isinstance => k_is)
    (case z_len => k_is)
    (case z_list => k_is)
    (case z_max => k_is)
    (case z_min => k_is)
    (case z_range => k_is)
    (case z_repr => k_is)
    (case z_str => k_is)
    (case z_tuple => k_is)
    (case z_zip => k_is)
#print axioms PySem.Challenge.cw_onestaff_k75_logs_holds

