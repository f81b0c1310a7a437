import PyProof.Rows.All
import Wide.All
import OpenK.AllK
import Wide.FinOn
import HandS.ForMost
import KE.RegKTryMore
import KE.RegKIsAll
import PyProof.ReprRoads
import HandS.EndBits
import PyProof.ReprBulk
import PyProof.StrLaws
import HandS.Wide
import HandS.IsInst
import HandS.TupAny
import HandS.Walk
import HandS.Small
import HandS.ForExc
import HandS.ExcInit
import HandS.ExcField
import HandS.ClsMeth
import HandS.Codes
import KE.KExcIs
import HandS.SortInts
import PyProof.P3Eq
import HandS.TupLe
import HandS.Defaults
import HandS.Iter
import KE.GoesEnum
import HandS.TryOnly
import HandS.Conv
import HandS.Sort
import PyProof.RangeFor
import PyProof.EqKinds
import HandS.Deep
import HandS.Text
import HandS.FStr
import HandS.Strs
import PyProof.StrLawsTight
import HandS.Zip
import HandS.RaiseMore
import HandS.HeadHook3
import KE.GoesZip
import KE.GoesMore
import HandS.Replace
import PyProof.StrBlock2
import PyProof.ListStr
import PySem.Challenge.RW_onestaff_k08_whole_line_texts
set_option Elab.async false
set_option linter.all false
set_option maxRecDepth 100000
set_option maxHeartbeats 4000000

namespace U
open PySem L2 PySem.Spec PyProof.Rows

/-! a def's promise where no repr is under way around it -/
section
variable (P : Program) (w : World) (K : PySem.W.Frag) (mg : Str → Option Value) (base : Heap)
structure FnG (cx : CXT) (k : Nat) (f : Addr) (fd : FuncData) (ps : List Str) (sp : Sp) : Prop where
  len : ∀ vs H Q E, sp vs H Q E → vs.length = ps.length
  run : ∀ (A : Around) (o : List Env) (s : Shared) (H : Hp) (ar : Args) (us : List Value) (vs : List V) (Q : VK) (E : XK),
    A.guards = some [] → Room k A → Env0 P w K mg base A o s H → BindsTo s fd ar (ps.zip us) → Vals vs us → sp vs H Q E →
    codeAny (model P w) A (.call (.ref f) ar) (CR cx o P w H s Q E) s
end
section
variable {P : Program} {w : World} {K : PySem.W.Frag} {mg : Str → Option Value} {base : Heap} {cx : CXT} {k : Nat} {f : Addr} {fd : FuncData} {ps : List Str} {sp : Sp}
theorem FnG.of (F : FnOk P w K mg base cx k f fd ps sp) : FnG P w K mg base cx k f fd ps sp :=
  ⟨F.len, fun A o s H ar us vs Q E _ => F.run A o s H ar us vs Q E⟩
theorem FnG.mono {j : Nat} (F : FnG P w K mg base cx j f fd ps sp) (h : j ≤ k) : FnG P w K mg base cx k f fd ps sp :=
  ⟨F.len, fun A o s H ar us vs Q E g r => F.run A o s H ar us vs Q E g (r.mono h)⟩

theorem fnG_of {nm ql : Str} {pr : Arguments} {bd : List Stmt} {sc : Scope} {dV kV dc pm cd ct oc : Value} {an od : Option Addr} {os : Array (Option Value)} {N : List Str}
    (lk : K.lookup f = some ⟨oc, od, .func (PySem.W.fnOf nm ql pr bd sc dV kV dc pm an cd ct), os⟩) (hc : PySem.W.codeIn K cd ql = true) (S : FnScope N ps sc)
    (len : ∀ vs H Q E, sp vs H Q E → vs.length = ps.length)
    (hb : ∀ (A : Around) (o : List Env) (s : Shared) (H : Hp) (vs : List V) (Q : VK) (E : XK), A.guards = some [] → Room k (A.deeper (envOfC ql sc s.heap.objs.size f cd)) → sp vs H Q E →
      ∃ t, PSs (cxOf cx P w K mg base N ql sc f cd A o s H E) bd t ∧ t { nx := fun _ H' => Q .non H', rt := Q } (start N vs) H) :
    FnG P w K mg base cx (k + 1) f (PySem.W.fnOf nm ql pr bd sc dV kV dc pm an cd ct) ps sp where
  len := len
  run := by
    intro A o s H ar us vs Q E hg hr e0 bi vv q
    have hl := len vs H Q E q
    have kp : ∀ b ob, base.get? b = some ob → s.heap.get? b = some ob := fun b ob e => (e0.bs b ob e).1
    have KX : K.In s.heap := e0.mod.kin.keeps kp
    have nl : s.heap.NoLimit := e0.mod.nolimit.keeps kp
    refine codeAny_call_function hr.depth (KX f _ lk) rfl S.co S.gen rfl (PySem.W.codeRec_of KX hc) (bi _ _ _ _ ?_)
    refine wpAny_newFunctionEnv_cells S.kind (fun y hy => ?_) fun ev he s1 x => ?_
    · obtain ⟨n, v⟩ := y
      rcases S.par n (List.of_mem_zip hy).1 with e | e
      · exact Or.inl e
      · exact Or.inr ⟨e, PySem.W.cellsFrom_some _ _ _ (Or.inl e)⟩
    · subst he
      obtain ⟨t, ht, z⟩ := hb A o s H vs Q E hg (hr.deeper _) q
      have J0 : Inv (cxOf cx P w K mg base N ql sc f cd A o s H E) [] (start N vs) H s1 := inv_start S hr.hd e0 hl vv x
      refine ⟨nl.keeps x.toInCall.keep, codeAny_func (wpAny_mono (ht.run [] s1 (start N vs) H _ J0 z) (fun fl s2 h2 => ?_) fun _ _ h2 => h2)⟩
      cases fl with
      | brk => obtain ⟨_, _, _, z⟩ := h2; exact z.elim
      | cont => obtain ⟨_, _, _, z⟩ := h2; exact z.elim
      | next =>
        obtain ⟨σ2, H2, J, z⟩ := h2
        exact ⟨V.non, H2, J.os, J.bare, J.base, J.hok, rfl, z⟩
      | ret u =>
        obtain ⟨v, σ2, H2, J, rv, z⟩ := h2
        exact ⟨v, H2, J.os, J.bare, J.base, J.hok, rv, z⟩
theorem okG {nm ql : Str} {st : Stmt} {N : List Str} (F : Fun K nm ql st f fd) (S : FnScope N ps (defScope st)) (len : ∀ vs H Q E, sp vs H Q E → vs.length = ps.length)
    (hb : ∀ (cd : Value) (A : Around) (o : List Env) (s : Shared) (H : Hp) (vs : List V) (Q : VK) (E : XK), A.guards = some [] → Room k (A.deeper (envOfC ql (defScope st) s.heap.objs.size f cd)) → sp vs H Q E →
      ∃ t, PSs (cxOf cx P w K mg base N ql (defScope st) f cd A o s H E) (defBody st) t ∧ t { nx := fun _ H' => Q .non H', rt := Q } (start N vs) H) :
    FnG P w K mg base cx (k + 1) f fd ps sp := by
  obtain ⟨_, _, _, _, _, _, cd, _, _, rfl, lk, hc⟩ := F.ex
  exact fnG_of lk hc S len fun A o s H vs Q E g r q => hb cd A o s H vs Q E g r q
theorem okG0 {nm ql : Str} {st : Stmt} {N : List Str} (F : Fun K nm ql st f fd) (S : FnScope N ps (defScope st)) (len : ∀ vs H Q E, sp vs H Q E → vs.length = ps.length)
    (hb : ∀ (cd : Value) (A : Around) (o : List Env) (s : Shared) (H : Hp) (vs : List V) (Q : VK) (E : XK), A.guards = some [] → Room k (A.deeper (envOfC ql (defScope st) s.heap.objs.size f cd)) → sp vs H Q E →
      ∃ t, PSs (cxOf CX0 P w K mg base N ql (defScope st) f cd A o s H E).nox (defBody st) t ∧ t { nx := fun _ H' => Q .non H', rt := Q } (start N vs) H) :
    FnG P w K mg base CX0 (k + 1) f fd ps sp :=
  okG F S len fun cd A o s H vs Q E g r q => by
    obtain ⟨t, h, z⟩ := hb cd A o s H vs Q E g r q
    exact ⟨t, h.nox, z⟩
end

section
variable {X : Cx} {cx : CXT} {k : Nat} {f : Addr} {fd : FuncData} {ps : List Str} {sp : Sp} {E : XK} {x : Str} {p pos : Pos} {e : Expr} {es : List Expr} {t : TA}
theorem run_fnG {pins : List (Addr × Obj)} {σ : L2.St} {H : Hp} {s : Shared} {Q : VK} {us : List Value} {vs : List V} (F : FnG X.prog X.w X.K X.mg X.base cx k f fd ps sp) (hg : X.A.guards = some []) (hr : Room k X.A) (hb : Binds X.K fd ps [])
    (hx : Passes cx X E) (I : Inv X pins σ H s) (r : Vals vs us) (h : sp vs H Q E) : wpAny (model X.prog X.w) X.A (call (.ref f) us) (EP X pins σ Q) X.xe s := by
  have e1 : us ++ [] = us := List.append_nil us
  have hl : (us ++ []).length = ps.length := by rw [e1, ← r.length]; exact F.len _ _ _ _ h
  have b1 := hb s us I.kIn hl
  rw [e1] at b1
  refine wpAny_call (codeAny_mono (F.run X.A X.stack s H ⟨us, []⟩ us vs Q E hg hr I.env0 b1 r h) fun rr s' hq => ?_)
  match rr, hq with
  | .error er, hq => exact hx pins σ H s er s' I hq
  | .ok (.ret u), hq => exact I.after hq
  | .ok .next, hq => exact False.elim hq
  | .ok .brk, hq => exact False.elim hq
  | .ok .cont, hq => exact False.elim hq
def tGo (sp : Sp) (E : XK) (t : TA) : TE := fun σ H Q => t σ H fun vs H1 => sp vs H1 Q E
/-- f(e, ..) -/
theorem pe_go (F : FnG X.prog X.w X.K X.mg X.base cx k f fd ps sp) (hg : X.A.guards = some []) (hr : Room k X.A) (gl : Gl X x) (hm : X.mg x = some (.ref f)) (hk : PySem.W.keepIn X.K (.ref f) = true) (hb : Binds X.K fd ps []) (hx : Passes cx X E)
    (ha : PA X (e :: es) t) (h1 : (x == ("__debug__" : Str)) = false := by decide) (h2 : starEach (e :: es) X.env = (false, eval e X.env) :: starEach es X.env := by rfl) (h3 : (backTo pos (starEach es X.env)).any (·.1) = false := by rfl) :
    PE X (.Call (.Name x p) (e :: es) [] pos) (tGo sp E t) := by
  refine ⟨fun pi s σ H Q I h => wpAny_Call_Name_kw (ld_glob I gl hm ?_ h1)⟩
  refine PySem.W.callWith_K (h₀ := X.base) I.ok.mod.kin hk (thn (ha.run pos pi s σ H _ I h) ?_) h2 h3
  rintro us s1 ⟨vs, H1, I1, r, q⟩
  exact ⟨I1.kIn, run_fnG F hg hr hb hx I1 r q⟩
theorem pe_go0 (F : FnG X.prog X.w X.K X.mg X.base cx k f fd ps sp) (hg : X.A.guards = some []) (hr : Room k X.A) (gl : Gl X x) (hm : X.mg x = some (.ref f)) (hk : PySem.W.keepIn X.K (.ref f) = true) (hb : Binds X.K fd ps []) (hx : Passes cx X E)
    (h1 : (x == ("__debug__" : Str)) = false := by decide) : PE X (.Call (.Name x p) [] [] pos) (tGo sp E tNil) := by
  refine ⟨fun pi s σ H Q I h => wpAny_Call_Name_kw (ld_glob I gl hm ?_ h1)⟩
  exact PySem.W.callWith_K0 I.kIn hk (run_fnG (us := []) F hg hr hb hx I .nil h)
end

/-! the law's own call -/
section
variable {P : Program} {w : World} {K : PySem.W.Frag} {mg mb : Str → Option Value} {cx : CXT} {k : Nat} {fa a : Addr} {fd : FuncData} {x : Str} {sp : Sp} {s1 : Shared} {vs : List Value} {ns : List Int}
/-- the heap at the entry: the script alone is tracked, as it stands -/
def Hin (K : PySem.W.Frag) (a : Addr) (o : Obj) (ns : List Int) : Hp := fun b => if b = a ∧ K.lookup a = none then some (.frz o (.lst (ns.map V.int))) else none
theorem law_callG (KX : K.In s1.heap) (hns : s1.heap.Ns mainGlobals mg) (hb : s1.heap.Ns builtinsNs mb) (hbb : ∀ x : Str, x ≠ "__name__" → mb x = bootBuiltins x) (hlim : s1.heap.NoLimit) (hsy : ∃ mm, s1.heap.Ns sysModules mm) (hg : s1.gens = #[])
    (ha : s1.heap.get? a = some { cls := .type "list", data := .seq vs.toArray }) (hi : IntsAre vs ns) (hl : ns.length ≤ sizeLine) (hr : Room k callerA)
    (F : ∀ base : Heap, K.In base → base.Ns mainGlobals mg → (∃ mm, base.Ns sysModules mm) → FnG P w K mg base cx k fa fd [x] sp)
    (hbind : ∀ (s : Shared) (u : Value), BindsTo s fd ⟨[u], []⟩ [(x, u)])
    (hsp : ∀ H : Hp, SqL K H a (ns.map V.int) → sp [.ref a] H (fun v _ => v = .bl true) fun _ _ _ => False)
    (hcx : ∀ H e s', cx [] H s1 (fun _ _ _ => False) e s' → False) :
    codeAny (model P w) callerA (.call (.ref fa) ⟨[.ref a], []⟩) (fun r s' => r = .ok (.ret (.bool true)) ∧ OldK s1.heap s'.heap ∧ s'.os = s1.os ∧ AllBare s'.gens) s1 := by
  generalize ho : ({ cls := .type "list", data := .seq vs.toArray } : Obj) = o at ha
  have rv := vals_ints hi
  have hlen := hi.length
  have hH : ∀ b u, Hin K a o ns b = some u → b = a ∧ K.lookup a = none ∧ u = .frz o (.lst (ns.map V.int)) := fun b u e => by
    unfold Hin at e
    by_cases c : b = a ∧ K.lookup a = none
    · rw [if_pos c] at e; exact ⟨c.1, c.2, (Option.some.inj e).symm⟩
    · rw [if_neg c] at e; cases e
  have hok : HOk P w (Hin K a o ns) s1.heap := fun b u e => by
    obtain ⟨rfl, _, rfl⟩ := hH b u e
    exact ⟨ha, by rw [List.length_map]; exact hl, vs, _, rv, by rw [ha, ← ho]⟩
  have hS : SqL K (Hin K a o ns) a (ns.map V.int) := by
    cases hk : K.lookup a with
    | none => exact Or.inl (Or.inr ⟨o, if_pos ⟨rfl, hk⟩⟩)
    | some o2 =>
      have e := KX a o2 hk
      rw [ha] at e
      cases e
      exact Or.inr ⟨_, vs.toArray, 0, hk, by rw [← ho], by rw [← ho], by rw [← ho], by rw [List.size_toArray, hlen]; exact hl, rv⟩
  have toB : ∀ {b : Addr} {ob : Obj}, s1.heap.get? b = some ob → Hin K a o ns b = none → (hidT s1.heap (Hin K a o ns)).get? b = some ob := fun e n => hidT_get e n
  have dictN : ∀ {b : Addr} {ob : Obj}, s1.heap.get? b = some ob → (∀ it n, ob.data ≠ .seq it n) → Hin K a o ns b = none := fun {b ob} e d => by
    cases q : Hin K a o ns b with
    | none => rfl
    | some u =>
      obtain ⟨rfl, _, _⟩ := hH b u q
      rw [ha] at e
      cases e
      exact (d vs.toArray 0 (by rw [← ho])).elim
  have nsB : ∀ {b : Addr} {m : Str → Option Value}, s1.heap.Ns b m → (hidT s1.heap (Hin K a o ns)).Ns b m := fun {b m} h => by
    obtain ⟨ob, es, ep, e, d, r⟩ := h
    exact ⟨ob, es, ep, toB e (dictN e fun it n z => by rw [d] at z; cases z), d, r⟩
  have KB : K.In (hidT s1.heap (Hin K a o ns)) := fun b ob e => toB (KX b ob e) (by
    cases q : Hin K a o ns b with
    | none => rfl
    | some u =>
      obtain ⟨rfl, z, _⟩ := hH b u q
      rw [z] at e; cases e)
  have lim : (hidT s1.heap (Hin K a o ns)).NoLimit := by
    obtain ⟨mc, h1, h2⟩ := hlim
    exact ⟨mc, nsB h1, h2⟩
  have M : Mod K mg (hidT s1.heap (Hin K a o ns)) := ⟨KB, nsB hns, ⟨mb, nsB hb, hbb⟩, lim⟩
  have e0 : Env0 P w K mg (hidT s1.heap (Hin K a o ns)) callerA [] s1 (Hin K a o ns) :=
    ⟨rfl, M, fun b ob e => of_hidT e, Nat.le_of_eq (hidT_size _ _), trivial, fun b z => (nomatch z), hok, .of_eq hg⟩
  have G := F _ KB (nsB hns) (by obtain ⟨mm, z⟩ := hsy; exact ⟨mm, nsB z⟩)
  refine codeAny_mono (G.run callerA [] s1 _ ⟨[.ref a], []⟩ [.ref a] [.ref a] _ _ rfl hr e0 (hbind s1 (.ref a)) (.cons rfl .nil) (hsp _ hS)) fun r s2 h => ?_
  match r, h with
  | .error er, h => exact (hcx _ er s2 h).elim
  | .ok .next, h => exact False.elim h
  | .ok .brk, h => exact False.elim h
  | .ok .cont, h => exact False.elim h
  | .ok (.ret u), h =>
    obtain ⟨v, H2, os, br, un, hok2, r2, q⟩ := h
    have q2 : v = .bl true := q
    subst q2
    obtain rfl : u = Value.bool true := r2
    refine ⟨rfl, OldK.of_keep fun b ob e => ?_, os, br⟩
    cases z : Hin K a o ns b with
    | none => exact un.keep b ob e z (fun m => nomatch m) (fun m => nomatch m)
    | some u =>
      obtain ⟨rfl, _, rfl⟩ := hH b u z
      obtain ⟨y, _⟩ := hok2 b _ (un.frzs b _ _ z)
      rw [ha] at e
      cases e
      exact y
end
/-- the end of a law: what k_head leaves, from the law's promise -/
theorem walkG {l : PySem.W.OpenLaw} {n k : Nat} {q : Program} {lo : List Str} {XP : (Str → Option Value) → Heap → Prop} {YP : World → Heap → Prop} {d : DefRec} {K : Params → PySem.W.Frag} {cx : World → CXT} {sp : World → Sp} {x : Str}
    (hn : l.most = some n) (hn2 : n ≤ sizeLine) (hdf : d.params.defaults = []) (hr : Room k callerA) (him : importsNone q = true)
    (hY : ∀ (w : World) (h : Heap), YP w h → (K w.params).In h)
    (F : ∀ (w : World) (mg : Str → Option Value) (fa : Addr) (h : Heap), (K w.params).In h → h.Ns mainGlobals mg → mg d.name = some (.ref fa) →
      ∃ fd : FuncData, (∀ (s : Shared) (u : Value), BindsTo s fd ⟨[u], []⟩ [(x, u)]) ∧
        ∀ base : Heap, (K w.params).In base → base.Ns mainGlobals mg → (∃ mm, base.Ns sysModules mm) → FnG l.prog w (K w.params) mg base (cx w) k fa fd [x] (sp w))
    (hsp : ∀ (w : World) (H : Hp) (a : Addr) (ns : List Int), ns.length ≤ n → (∀ z ∈ ns, Builtin.Int.intBits z ≤ 1048576) → SqL (K w.params) H a (ns.map V.int) → sp w [.ref a] H (fun v _ => v = .bl true) fun _ _ _ => False)
    (hcx : ∀ (w : World) (H : Hp) (s : Shared) (e : Value) (s' : Shared), cx w [] H s (fun _ _ _ => False) e s' → False) :
    PySem.W.WalkO q lo XP YP l.row.toRowW d [] (fun f vs => PySem.call f vs) := by
  refine Att.attach_callB hn hdf ?_
  intro w s0 s1 mg mb fa o pm cd doc a vs ns G Y ho hd hcd hmg hob hin hle hbi hge
  obtain ⟨fd, hb, hF⟩ := F w mg fa _ (hY w _ Y) G.T.g hmg
  have hsy : ∃ mm, s1.heap.Ns sysModules mm := by
    obtain ⟨mm, z, _⟩ := (G.T.seer him).mods
    exact ⟨mm, z⟩
  exact law_callG (hY w _ Y) G.T.g G.T.b G.T.builtins G.T.nolimit hsy hge hob hin (Nat.le_trans hle hn2) hr hF hb (fun H hS => hsp w H a ns hle hbi hS) fun H e s' => hcx w H s1 e s'

/-! data, by what repr shows -/
def keyD (k : Key) : PyData := match k with | .inl i => PyData.int i | .inr x => PyData.str x
mutual
inductive Dn (K : PySem.W.Frag) (H : Hp) : V → PyData → Prop
  | non : Dn K H .non .none
  | bl (b : Bool) : Dn K H (.bl b) (.bool b)
  | int (i : Int) : Dn K H (.int i) (.int i)
  | str (x : Str) : Dn K H (.str x) (.str x)
  | lst {a : Addr} {xs : List V} {ds : List PyData} : Rd H a (.lst xs) → DnA K H xs ds → Dn K H (.ref a) (.list ds)
  | tup {a : Addr} {xs : List V} {ds : List PyData} : SqT K H a xs → DnA K H xs ds → Dn K H (.ref a) (.tuple ds)
  | dic {a : Addr} {kvs : List (Key × V)} {ds : List PyData} : Rd H a (.dK kvs) → DnA K H (kvs.map (·.2)) ds → Dn K H (.ref a) (.dict ((kvs.map fun p => keyD p.1).zip ds))
inductive DnA (K : PySem.W.Frag) (H : Hp) : List V → List PyData → Prop
  | nil : DnA K H [] []
  | cons {v : V} {vs : List V} {d : PyData} {ds : List PyData} : Dn K H v d → DnA K H vs ds → DnA K H (v :: vs) (d :: ds)
end
end U

namespace U
open PySem L2 PySem.Spec PyProof.Rows

section
variable {X : Cx} {pins : List (Addr × Obj)} {σ : L2.St} {H : Hp} {s : Shared}
theorem rd_low (I : Inv X pins σ H s) (hs : ∃ mm, X.base.Ns sysModules mm) {a : Addr} {u : HO} (r : Rd H a u) : a ≠ sysModules := by
  rintro rfl
  obtain ⟨mm, ob, es, ep, e, _⟩ := hs
  have n := (I.bs _ ob e).2
  rcases r with r | ⟨o, r⟩ <;> (rw [n] at r; cases r)
theorem pairs_reads {P : Program} {w : World} {h : Heap} : ∀ {es : List DictEntry} {kvs : List (Key × V)} {vs : List (Key × Value)}, Pairs (mixKind P w) es vs → KV kvs vs →
    ReadsAll h (es.map (·.key)) (kvs.map fun p => keyD p.1) [] ∧ Vals (kvs.map (·.2)) (es.map (·.val))
  | _, _, _, .nil, .nil => ⟨.nil, .nil⟩
  | e :: es, (k, v) :: kvs, (k2, u) :: vs, .cons h1 h2 h3, .cons ⟨q1, q2⟩ h4 => by
    obtain ⟨r1, r2⟩ := pairs_reads (h := h) h3 h4
    have q1 : k = k2 := q1
    subst q1
    refine ⟨?_, .cons (show RelV v e.val by rw [h2]; exact q2) r2⟩
    show ReadsAll h (e.key :: _) (keyD k :: _) ([] ++ [])
    refine .cons ?_ r1
    rcases keyIs_shape h1 with ⟨i, t, z, y⟩ | ⟨x, t, z, y⟩
    · have z : k = Sum.inl i := z
      rw [y, z]; exact Reads.int i t
    · have z : k = Sum.inr x := z
      rw [y, z]; exact Reads.str x t
mutual
theorem Dn.reads (I : Inv X pins σ H s) (hs : ∃ mm, X.base.Ns sysModules mm) : ∀ {v : V} {d : PyData} {u : Value}, Dn X.K H v d → RelV v u → ∃ as, Reads s.heap u d as ∧ sysModules ∉ as
  | _, _, _, .non, r => by cases r; exact ⟨[], Reads.none, by simp⟩
  | _, _, _, .bl b, r => by cases r; exact ⟨[], Reads.bool b, by simp⟩
  | _, _, _, .int i, r => by obtain ⟨t, rfl⟩ := r; exact ⟨[], Reads.int i t, by simp⟩
  | _, _, _, .str x, r => by obtain ⟨t, rfl⟩ := r; exact ⟨[], Reads.str x t, by simp⟩
  | _, _, _, .lst h1 h2, r => by
    cases r
    obtain ⟨its, rv, ⟨o, n, ho, hc, _, hd⟩, _⟩ := I.list (Or.inl h1)
    obtain ⟨as, q1, q2⟩ := DnA.reads I hs h2 rv
    exact ⟨_, Reads.list ho hc hd q1, fun m => (List.mem_cons.mp m).elim (fun e => rd_low I hs h1 e.symm) q2⟩
  | _, _, _, .tup h1 h2, r => by
    cases r
    obtain ⟨its, rv, ⟨o, ho, hc, n, hd⟩, _⟩ := I.tuple h1
    obtain ⟨as, q1, q2⟩ := DnA.reads I hs h2 rv
    exact ⟨_, Reads.tuple ho hc hd q1, q2⟩
  | _, _, _, .dic (kvs := kvs) (ds := ds) h1 h2, r => by
    cases r
    obtain ⟨_, low, vs, kv, o, es, ep, ho, hc, hd, _, hp, _⟩ := h1.ok I.hok
    obtain ⟨q1, q2⟩ := pairs_reads (h := s.heap) hp kv
    obtain ⟨as, q3, q4⟩ := DnA.reads I hs h2 q2
    have el : ds.length = kvs.length := by
      have e1 := DnA.len h2
      rw [List.length_map] at e1
      exact e1.symm
    have z1 : ((kvs.map fun p => keyD p.1).zip ds).map (·.1) = kvs.map fun p => keyD p.1 := by
      rw [List.map_fst_zip]; rw [List.length_map]; omega
    have z2 : ((kvs.map fun p => keyD p.1).zip ds).map (·.2) = ds := by
      rw [List.map_snd_zip]; rw [List.length_map]; omega
    refine ⟨_, Reads.dict ho hc.1 hd (kvs := (kvs.map fun p => keyD p.1).zip ds) (as := []) (bs := as) ?_ ?_, ?_⟩
    · rw [z1]; exact q1
    · rw [z2]; exact q3
    · intro m
      rcases List.mem_cons.mp m with e | e
      · exact rd_low I hs h1 e.symm
      · exact q4 (by simpa using e)
theorem DnA.reads (I : Inv X pins σ H s) (hs : ∃ mm, X.base.Ns sysModules mm) : ∀ {vs : List V} {ds : List PyData} {us : List Value}, DnA X.K H vs ds → Vals vs us → ∃ as, ReadsAll s.heap us ds as ∧ sysModules ∉ as
  | _, _, _, .nil, r => by cases r; exact ⟨[], ReadsAll.nil, by simp⟩
  | _, _, _, .cons h1 h2, r => by
    cases r with
    | cons r1 r2 =>
      obtain ⟨as, q1, q2⟩ := Dn.reads I hs h1 r1
      obtain ⟨bs, q3, q4⟩ := DnA.reads I hs h2 r2
      exact ⟨_, ReadsAll.cons q1 q3, fun m => (List.mem_append.mp m).elim q2 q4⟩
theorem DnA.len {K : PySem.W.Frag} : ∀ {vs : List V} {ds : List PyData}, DnA K H vs ds → vs.length = ds.length
  | _, _, .nil => rfl
  | _, _, .cons _ h => by rw [List.length_cons, List.length_cons, DnA.len h]
end
end
/-! what may be shown, and how long it is -/
mutual
def good : PyData → Prop
  | .none => True
  | .bool _ => True
  | .int i => i.natAbs < 10 ^ 100
  | .str x => ∀ c ∈ x.cps.toList, c < 4294967296
  | .list xs => goodA xs
  | .tuple xs => goodA xs
  | .dict kvs => goodK kvs
def goodA : List PyData → Prop
  | [] => True
  | x :: xs => good x ∧ goodA xs
def goodK : List (PyData × PyData) → Prop
  | [] => True
  | (k, v) :: r => good k ∧ good v ∧ goodK r
end
mutual
def sz : PyData → Nat
  | .none => 4
  | .bool _ => 5
  | .int _ => 102
  | .str x => 10 * x.length + 2
  | .list xs => szA xs + 3
  | .tuple xs => szA xs + 3
  | .dict kvs => szK kvs + 3
def szA : List PyData → Nat
  | [] => 0
  | x :: xs => sz x + 2 + szA xs
def szK : List (PyData × PyData) → Nat
  | [] => 0
  | (k, v) :: r => sz k + sz v + 4 + szK r
end
theorem int_len {i : Int} (h : i.natAbs < 10 ^ 100) : (Str.ofString (toString i)).length ≤ 102 := by
  have e := int_text_length_le10 (k := 100) (by decide) h
  rw [PySem.ofString_length]
  omega
mutual
theorem good_show : ∀ {d : PyData}, good d → d.showable = true ∧ d.shown.length ≤ sz d
  | .none, _ => ⟨rfl, by decide +kernel⟩
  | .bool b, _ => ⟨rfl, by cases b <;> decide +kernel⟩
  | .int i, h => by
    refine ⟨?_, ?_⟩
    · simp only [PyData.showable, decide_eq_true_eq]
      have h : i.natAbs < 10 ^ 100 := by simpa only [good] using h
      refine log2_small (Nat.lt_of_lt_of_le h ?_)
      decide +kernel
    · have h : i.natAbs < 10 ^ 100 := by simpa only [good] using h
      exact int_len h
  | .str x, h => by
    refine ⟨rfl, ?_⟩
    have h : ∀ c ∈ x.cps.toList, c < 4294967296 := by simpa only [good] using h
    simp only [PyData.shown, sz]
    exact StrLaws.reprText_len x h
  | .list xs, h => by
    have q := goodA_show (ds := xs) (by simpa only [good] using h)
    refine ⟨by simpa only [PyData.showable] using q.1, ?_⟩
    simp only [PyData.shown, sz]
    have := listText_len_le (PyData.shownAll xs)
    have e : (PyData.shownAll xs).length = xs.length := q.2.2
    omega
  | .tuple xs, h => by
    have q := goodA_show (ds := xs) (by simpa only [good] using h)
    refine ⟨by simpa only [PyData.showable] using q.1, ?_⟩
    simp only [PyData.shown, sz]
    have := tupleText_len_le (PyData.shownAll xs)
    have e : (PyData.shownAll xs).length = xs.length := q.2.2
    omega
  | .dict kvs, h => by
    have q := goodK_show (ds := kvs) (by simpa only [good] using h)
    refine ⟨by simpa only [PyData.showable] using q.1, ?_⟩
    simp only [PyData.shown, sz]
    have := dictText_len_le (PyData.shownKv kvs)
    have e : (PyData.shownKv kvs).length = kvs.length := q.2.2
    omega
theorem goodA_show : ∀ {ds : List PyData}, goodA ds → PyData.showableAll ds = true ∧ ((PyData.shownAll ds).map (·.length)).sum + 2 * ds.length ≤ szA ds ∧ (PyData.shownAll ds).length = ds.length
  | [], _ => ⟨rfl, by simp [PyData.shownAll, szA], rfl⟩
  | x :: xs, h => by
    obtain ⟨h1, h2⟩ : good x ∧ goodA xs := by simpa only [goodA] using h
    obtain ⟨a1, a2⟩ := good_show h1
    obtain ⟨b1, b2, b3⟩ := goodA_show h2
    refine ⟨by simp only [PyData.showableAll, a1, b1, Bool.and_self], ?_, by simp only [PyData.shownAll, List.length_cons, b3]⟩
    simp only [PyData.shownAll, szA, List.map_cons, List.sum_cons, List.length_cons]
    omega
theorem goodK_show : ∀ {ds : List (PyData × PyData)}, goodK ds → PyData.showableKv ds = true ∧ ((PyData.shownKv ds).map (·.length)).sum + 2 * ds.length ≤ szK ds ∧ (PyData.shownKv ds).length = ds.length
  | [], _ => ⟨rfl, by simp [PyData.shownKv, szK], rfl⟩
  | (k, v) :: r, h => by
    obtain ⟨h1, h2, h3⟩ : good k ∧ good v ∧ goodK r := by simpa only [goodK] using h
    obtain ⟨a1, a2⟩ := good_show h1
    obtain ⟨c1, c2⟩ := good_show h2
    obtain ⟨b1, b2, b3⟩ := goodK_show h3
    refine ⟨by simp only [PyData.showableKv, a1, c1, b1, Bool.and_self], ?_, by simp only [PyData.shownKv, List.length_cons, b3]⟩
    have e : (": " : Str).length = 2 := by decide +kernel
    simp only [PyData.shownKv, szK, List.map_cons, List.sum_cons, List.length_cons, Str.length_append]
    have e : (Str.ofString ": ").length = 2 := by decide +kernel
    omega
end
/-- repr -/
def rRepr (K : PySem.W.Frag) : List V → Hp → VK → Prop := fun xs H Q => ∃ v d, xs = [v] ∧ Dn K H v d ∧ good d ∧ d.depth ≤ 100 ∧ sz d ≤ 16000000 ∧ Q (.str d.shown) H
theorem call_repr {X : Cx} {k : Nat} (hg : X.A.guards = some []) (hr : Room k X.A) (hs : ∃ mm, X.base.Ns sysModules mm) : CallR X (.builtin "repr") (rRepr X.K) := by
  rintro pi s σ H xs us Q I vv ⟨v, d, rfl, hd, g, dp, zz, q⟩
  obtain ⟨u, rfl, rv⟩ := Vals.one vv
  obtain ⟨sh, le⟩ := good_show g
  have le2 : d.shown.length ≤ sizeLine := Nat.le_trans (Nat.le_trans le zz) (by decide)
  have hu := hr.un
  cases hd with
  | non => cases rv; exact PySem.P.repr_of_none ⟨.str _, H, I.tok _, ⟨_, rfl⟩, q⟩
  | bl b => cases rv; exact PySem.P.repr_of_bool ⟨.str _, H, I.tok _, ⟨_, rfl⟩, q⟩
  | int i =>
    obtain ⟨t, rfl⟩ := rv
    simp only [PyData.showable, decide_eq_true_eq] at sh
    exact PySem.P.repr_of_int sh ⟨.str _, H, I.tok _, ⟨_, rfl⟩, q⟩
  | str x =>
    obtain ⟨t, rfl⟩ := rv
    exact PySem.P.repr_of_str ⟨.str _, H, I.tok _, ⟨_, rfl⟩, q⟩ le2
  | lst h1 h2 =>
    obtain ⟨as, r1, r2⟩ := Dn.reads I hs (.lst h1 h2) rv
    cases rv
    exact repr_of_reads' r1 sh (fun _ => r2) hg (by omega) (fun _ _ e => e) (fun h' u tk hk => ⟨.str _, H, I.kept hk, ⟨_, rfl⟩, q⟩) le2
  | tup h1 h2 =>
    obtain ⟨as, r1, r2⟩ := Dn.reads I hs (.tup h1 h2) rv
    cases rv
    exact repr_of_reads' r1 sh (fun _ => r2) hg (by omega) (fun _ _ e => e) (fun h' u tk hk => ⟨.str _, H, I.kept hk, ⟨_, rfl⟩, q⟩) le2
  | dic h1 h2 =>
    obtain ⟨as, r1, r2⟩ := Dn.reads I hs (.dic h1 h2) rv
    cases rv
    exact repr_of_reads' r1 sh (fun _ => r2) hg (by omega) (fun _ _ e => e) (fun h' u tk hk => ⟨.str _, H, I.kept hk, ⟨_, rfl⟩, q⟩) le2
end U

namespace U
open PySem L2 PySem.Spec PyProof.Rows

/-! operators, whatever the values -/
def rStrCat : R2 := fun x y H Q => ∃ i j, x = .str i ∧ y = .str j ∧ i.length + j.length ≤ sizeLine ∧ Q (.str (i ++ j)) H
def uAdd (K : PySem.W.Frag) : R2 := fun x y H Q => (rI0 fun i j => .int (i + j)) x y H Q ∨ rStrCat x y H Q ∨ rCat x y H Q ∨ rCatA K x y H Q
def uSub : R2 := rI0 fun i j => .int (i - j)
def uMul : R2 := fun x y H Q => (rI CMul fun i j => .int (i * j)) x y H Q ∨ rRep x y H Q
def uMod : R2 := rI (fun _ j => 0 < j) fun i j => .int (i % j)
def uDiv : R2 := rI CDivW fun i j => .int (i / j)
def uPow : R2 := rI CPow fun i j => .int (i ^ j.toNat)
def uLt : R2 := rI0 fun i j => .bl (decide (i < j))
def uLe : R2 := rI0 fun i j => .bl (decide (i ≤ j))
def uGt : R2 := rI0 fun i j => .bl (decide (j < i))
def uGe : R2 := rI0 fun i j => .bl (decide (j ≤ i))
def uEq (K : PySem.W.Frag) : R2 := fun x y H Q => rEq x y H Q ∨ rEqD K x y H Q
def uNe (K : PySem.W.Frag) : R2 := fun x y H Q => rNe x y H Q ∨ rNeD K x y H Q
def rInSign (ng : Bool) : R2 := fun x y H Q => ∃ (c : Nat) (z : Str), x = .str ⟨#[c]⟩ ∧ y = .str z ∧ Q (.bl (if ng then !decide (c ∈ z.cps.toList) else decide (c ∈ z.cps.toList))) H
def uIn (K : PySem.W.Frag) (ng : Bool) : R2 := fun x y H Q => rInSign ng x y H Q ∨ rIn K ng x y H Q
def uIs : R2 := fun x y H Q => y = .non ∧ Q (.bl (decide (x = .non))) H
def uIsNot : R2 := fun x y H Q => y = .non ∧ Q (.bl (!decide (x = .non))) H
section
variable {X : Cx} {k : Nat} {K : PySem.W.Frag}
theorem o_add (hK : X.K = K) : OpR X (binaryOp .Add) (uAdd K) := hK ▸ op_add.or (op_add_str.or (op_cat.or op_catA))
theorem o_sub : OpR X (binaryOp .Sub) uSub := op_sub
theorem o_mul : OpR X (binaryOp .Mult) uMul := op_mul.or op_rep
theorem o_mod : OpR X (binaryOp .Mod) uMod := op_mod
theorem o_div : OpR X (binaryOp .FloorDiv) uDiv := op_fdivW
theorem o_pow : OpR X (binaryOp .Pow) uPow := op_pow
theorem o_lt : OpR X (compareOp .Lt) uLt := op_lt
theorem o_le : OpR X (compareOp .LtE) uLe := op_le
theorem o_gt : OpR X (compareOp .Gt) uGt := op_gt
theorem o_ge : OpR X (compareOp .GtE) uGe := op_ge
theorem o_eq (hK : X.K = K) (hr : Room k X.A) : OpR X (compareOp .Eq) (uEq K) := hK ▸ op_eq.or (op_eqD hr.units)
theorem o_ne (hK : X.K = K) (hr : Room k X.A) : OpR X (compareOp .NotEq) (uNe K) := hK ▸ op_ne.or (op_neD hr.units)
theorem o_in (hK : X.K = K) : OpR X (compareOp .In) (uIn K false) := hK ▸ op_in_sign.or op_in_seq
theorem o_notin (hK : X.K = K) : OpR X (compareOp .NotIn) (uIn K true) := hK ▸ op_notIn_sign.or op_notIn_seq
theorem o_is : OpR X (compareOp .Is) uIs := op_isN
theorem o_isnot : OpR X (compareOp .IsNot) uIsNot := op_notN
/-- a built-in type's name as a value -/
theorem pe_ty {x : Str} {n : String} {pos : Pos} (hg : Gl X x) (hm : X.mg x = none) (hv : bootBuiltins x = some (.type n)) (hn : x ≠ "__name__" := by decide) (hd : (x == ("__debug__" : Str)) = false := by decide) : PE X (.Name x pos) (tC (.ty n)) :=
  pe_bltn hg hm hv rfl hn hd
def uSl (K : PySem.W.Frag) : V → Option Int → Option Int → Hp → VK → Prop := fun x lo hi H Q => rSlL K x lo hi H Q ∨ rSlS x lo hi H Q ∨ rSlA K x lo hi H Q
theorem ix_u (hK : X.K = K) : IxR X (rIx K) := hK ▸ ix_seq
theorem sl_u (hK : X.K = K) : SlR X (uSl K) := hK ▸ sl_list.or (sl_str.or sl_tupA)
end

/-! steps -/
section
variable {K : PySem.W.Frag} {σ : L2.St} {H : Hp} {Q : VK} {D : Ends} {t u : TS} {ta tb tc te : TE} {tA tB' : TT} {r r' : R2} {x y v : V} {i : Nat} {n m : Int} {a b : Str}
theorem s_seq (h : t { D with nx := u D } σ H) : tSeq t u D σ H := h
theorem s_next (h : D.nx σ H) : tNext D σ H := h
theorem s_brk (h : D.bk σ H) : tBreak D σ H := h
theorem s_cnt (h : D.ct σ H) : tCont D σ H := h
theorem s_retN (h : D.rt .non H) : tRetN D σ H := h
theorem s_var (h : σ[i]? = some (some v)) (q : Q v H) : tVar i σ H Q := ⟨v, h, q⟩
theorem s_c (q : Q v H) : tC v σ H Q := q
theorem s_op (h : ta σ H fun x H1 => tb σ H1 fun y H2 => r x y H2 Q) : tOp r ta tb σ H Q := h
theorem s_un {r : V → Hp → VK → Prop} (h : ta σ H fun x H1 => r x H1 Q) : tUn r ta σ H Q := h
theorem s_neg (q : Q (.int (-n)) H) : (rU fun i => .int (-i)) (.int n) H Q := ⟨n, rfl, q⟩
theorem s_test {Q : Bool → Hp → Prop} (h : te σ H fun x H' => ∃ k, x = .bl k ∧ Q k H') : tTest te σ H Q := h
theorem s_B {Q : Bool → Hp → Prop} (h : te σ H fun x H' => ∃ k, x = .bl k ∧ Q k H') : tB te σ H Q := h
theorem s_bl {P : Bool → Prop} {k : Bool} (q : P k) : ∃ c, V.bl k = .bl c ∧ P c := ⟨k, rfl, q⟩
theorem s_chain (h : ta σ H fun x H1 => tb σ H1 fun y H2 => r x y H2 fun z H3 => ∃ k, z = .bl k ∧ (if k = true then tc σ H3 fun w' H4 => r' y w' H4 Q else Q (.bl false) H3)) : tChain r r' ta tb tc σ H Q := h
theorem s_asg {g : TG} (h : te σ H fun x H1 => g x σ H1 D.nx) : tAsg te g D σ H := h
theorem s_name {R : L2.St → Hp → Prop} (h : R (σ.set i (some v)) H) : gName i v σ H R := h
theorem s_ret (h : te σ H D.rt) : tRet te D σ H := h
theorem s_drop (h : te σ H fun _ H1 => D.nx σ H1) : tDrop te D σ H := h
theorem s_ifS (h : tA σ H fun b H1 => if b = true then t D σ H1 else u D σ H1) : tIfS tA t u D σ H := h
theorem s_and {Q : Bool → Hp → Prop} (h : tA σ H fun c H1 => if c = true then tB' σ H1 Q else Q false H1) : tAnd tA tB' σ H Q := h
theorem s_or {Q : Bool → Hp → Prop} (h : tA σ H fun c H1 => if c = true then Q true H1 else tB' σ H1 Q) : tOr tA tB' σ H Q := h
theorem s_not {Q : Bool → Hp → Prop} (h : tA σ H fun c H1 => Q (!c) H1) : tNot tA σ H Q := h
theorem s_andV (h : ta σ H fun x H1 => ∃ c, x = .bl c ∧ if c = true then tb σ H1 Q else Q (.bl false) H1) : tAndV ta tb σ H Q := h
theorem s_orV (h : ta σ H fun x H1 => ∃ c, x = .bl c ∧ if c = true then Q (.bl true) H1 else tb σ H1 Q) : tOrV ta tb σ H Q := h
theorem s_notV (h : ta σ H fun x H1 => ∃ c, x = .bl c ∧ Q (.bl (!c)) H1) : tNotV ta σ H Q := h
theorem s_if (h : tA σ H fun c H1 => if c = true then ta σ H1 Q else tb σ H1 Q) : tIf tA ta tb σ H Q := h
theorem s_add (q : Q (.int (n + m)) H) : uAdd K (.int n) (.int m) H Q := Or.inl ⟨n, m, rfl, rfl, q⟩
theorem s_adds (h : a.length + b.length ≤ sizeLine) (q : Q (.str (a ++ b)) H) : uAdd K (.str a) (.str b) H Q := Or.inr (Or.inl ⟨a, b, rfl, rfl, h, q⟩)
theorem s_sub (q : Q (.int (n - m)) H) : uSub (.int n) (.int m) H Q := ⟨n, m, rfl, rfl, q⟩
theorem s_mul (h : CMul n m) (q : Q (.int (n * m)) H) : uMul (.int n) (.int m) H Q := Or.inl ⟨n, m, rfl, rfl, h, q⟩
theorem s_mod (h : 0 < m) (q : Q (.int (n % m)) H) : uMod (.int n) (.int m) H Q := ⟨n, m, rfl, rfl, h, q⟩
theorem s_div (h : CDivW n m) (q : Q (.int (n / m)) H) : uDiv (.int n) (.int m) H Q := ⟨n, m, rfl, rfl, h, q⟩
theorem s_pow {r : Int} (h : CPow n m) (e : n ^ m.toNat = r) (q : Q (.int r) H) : uPow (.int n) (.int m) H Q := ⟨n, m, rfl, rfl, h, (show Q (.int (n ^ m.toNat)) H by rw [e]; exact q)⟩
theorem cpow {i j : Int} (h0 : 0 ≤ i) (h1 : i < 9223372036854775808) (h2 : 0 ≤ j) (h3 : j ≤ 1000000) : CPow i j := ⟨h2, h3, by omega⟩
theorem cdiv {i j : Int} (h0 : 0 < j) (h1 : j < 100000000000000000000000000000000000000000) : CDivW i j := wide_div (b := 200) h0 (by
  have e : ((j.natAbs : Nat) : Int) < ((2 ^ 200 : Nat) : Int) := by
    rw [Int.natAbs_of_nonneg (by omega)]
    exact Int.lt_trans h1 (by decide)
  exact Int.ofNat_lt.mp e) (by decide) (by decide)
theorem cmulL {i j : Int} (h1 : -9223372036854775808 < i) (h2 : i < 9223372036854775808) : CMul i j := Or.inl ⟨by omega, by omega⟩
theorem cmulR {i j : Int} (h1 : -9223372036854775808 < j) (h2 : j < 9223372036854775808) : CMul i j := Or.inr ⟨by omega, by omega⟩
theorem s_lt (q : Q (.bl (decide (n < m))) H) : uLt (.int n) (.int m) H Q := ⟨n, m, rfl, rfl, q⟩
theorem s_le (q : Q (.bl (decide (n ≤ m))) H) : uLe (.int n) (.int m) H Q := ⟨n, m, rfl, rfl, q⟩
theorem s_gt (q : Q (.bl (decide (m < n))) H) : uGt (.int n) (.int m) H Q := ⟨n, m, rfl, rfl, q⟩
theorem s_ge (q : Q (.bl (decide (m ≤ n))) H) : uGe (.int n) (.int m) H Q := ⟨n, m, rfl, rfl, q⟩
theorem dec_int {n m : Int} : decide (V.int n = V.int m) = decide (n = m) := by
  by_cases h : n = m
  · subst h; simp
  · rw [decide_eq_false h]; exact decide_eq_false fun q => h (V.int.inj q)
theorem dec_str {n m : Str} : decide (V.str n = V.str m) = decide (n = m) := by
  by_cases h : n = m
  · subst h; simp
  · rw [decide_eq_false h]; exact decide_eq_false fun q => h (V.str.inj q)
theorem s_eqi (q : Q (.bl (decide (n = m))) H) : uEq K (.int n) (.int m) H Q := Or.inl ⟨rfl, by rw [dec_int]; exact q⟩
theorem s_nei (q : Q (.bl (!decide (n = m))) H) : uNe K (.int n) (.int m) H Q := Or.inl ⟨rfl, by rw [dec_int]; exact q⟩
theorem s_eqs (q : Q (.bl (decide (a = b))) H) : uEq K (.str a) (.str b) H Q := Or.inl ⟨rfl, by rw [dec_str]; exact q⟩
theorem s_nes (q : Q (.bl (!decide (a = b))) H) : uNe K (.str a) (.str b) H Q := Or.inl ⟨rfl, by rw [dec_str]; exact q⟩
theorem s_in1 {c : Nat} {z : Str} (q : Q (.bl (decide (c ∈ z.cps.toList))) H) : uIn K false (.str ⟨#[c]⟩) (.str z) H Q := Or.inl ⟨c, z, rfl, rfl, q⟩
theorem s_notin1 {c : Nat} {z : Str} (q : Q (.bl (!decide (c ∈ z.cps.toList))) H) : uIn K true (.str ⟨#[c]⟩) (.str z) H Q := Or.inl ⟨c, z, rfl, rfl, q⟩
theorem s_is (q : Q (.bl (decide (x = .non))) H) : uIs x .non H Q := ⟨rfl, q⟩
theorem s_isnot (q : Q (.bl (!decide (x = .non))) H) : uIsNot x .non H Q := ⟨rfl, q⟩
/-- items of lists -/
theorem s_nil {Q : List V → Hp → Prop} (q : Q [] H) : tNil σ H Q := q
theorem s_cons {Q : List V → Hp → Prop} {tr : TA} (h : te σ H fun x H1 => tr σ H1 fun xs H2 => Q (x :: xs) H2) : tCons te tr σ H Q := h
def LstK (Q : VK) (xs : List V) (H : Hp) : Prop := xs.length ≤ sizeLine ∧ ∀ p, H p = none → Q (.ref p) (upd H p (.lst xs))
def TupK (Q : VK) (xs : List V) (H : Hp) : Prop := xs.length ≤ sizeLine ∧ ∀ p, H p = none → Q (.ref p) (upd H p (.tup xs))
theorem s_lst {t : TA} (h : t σ H (LstK Q)) : tLst t σ H Q := h
theorem s_tup {t : TA} (h : t σ H (TupK Q)) : tTup t σ H Q := h
theorem s_cb {r : List V → Hp → VK → Prop} {t : TA} (h : t σ H fun vs H1 => r vs H1 Q) : tCB r t σ H Q := h
theorem s_go {sp : Sp} {E : XK} {t : TA} (h : t σ H fun vs H1 => sp vs H1 Q E) : tGo sp E t σ H Q := h
theorem s_max (q : Q (.int (if m > n then m else n)) H) : (fun xs H Q => ∃ i j, xs = [V.int i, V.int j] ∧ Q (.int (if j > i then j else i)) H : List V → Hp → VK → Prop) [.int n, .int m] H Q := ⟨n, m, rfl, q⟩
theorem at_nat {α : Type} {xs : List α} {j : Nat} {z : α} (h : xs[j]? = some z) : atI xs (j : Int) = some z := by
  have hj : j < xs.length := (List.getElem?_eq_some_iff.mp h).1
  unfold atI ixN
  rw [if_pos (by omega), if_pos (by omega)]
  simpa using h
theorem at_int {α : Type} {xs : List α} {j : Int} (h0 : 0 ≤ j) (h1 : j < xs.length) : ∃ z, xs[j.toNat]? = some z ∧ atI xs j = some z := by
  refine ⟨xs[j.toNat]'(by omega), by simp, ?_⟩
  have := at_nat (xs := xs) (j := j.toNat) (z := xs[j.toNat]'(by omega)) (by simp)
  rwa [Int.toNat_of_nonneg h0] at this
theorem s_ixL {p : Addr} {xs : List V} (h : SqL K H p xs) (ha : atI xs n = some v) (q : Q v H) : rIx K (.ref p) (.int n) H Q := Or.inl ⟨p, xs, n, v, rfl, rfl, h, ha, q⟩
theorem s_ixl {p : Addr} {xs : List V} (h : H p = some (.lst xs)) (ha : atI xs n = some v) (q : Q v H) : rIx K (.ref p) (.int n) H Q := Or.inl ⟨p, xs, n, v, rfl, rfl, SqL.of h, ha, q⟩
theorem s_ixt {p : Addr} {xs : List V} (h : H p = some (.tup xs)) (ha : atI xs n = some v) (q : Q v H) : rIx K (.ref p) (.int n) H Q := Or.inr (Or.inl ⟨p, xs, n, v, rfl, rfl, SqT.of h, ha, q⟩)
theorem s_ixs {z : Str} {c : Nat} (hz : z.length ≤ sizeLine) (ha : atI z.cps.toList n = some c) (q : Q (.str ⟨#[c]⟩) H) : rIx K (.str z) (.int n) H Q := Or.inr (Or.inr ⟨z, n, c, rfl, rfl, hz, ha, q⟩)
theorem s_sub2 {to ti : TE} {t : V → V → V → Hp → (Hp → Prop) → Prop} {R : L2.St → Hp → Prop} (h : to σ H fun o H1 => ti σ H1 fun i H2 => t o i v H2 fun H3 => R σ H3) : gSub to ti t v σ H R := h
theorem s_setl {p : Addr} {xs ys : List V} {j : Nat} {R : Hp → Prop} (h : H p = some (.lst xs)) (hj : ixN xs.length n = some j) (e : xs.set j v = ys) (q : R (upd H p (.lst ys))) : rSetL (.ref p) (.int n) v H R := ⟨p, xs, n, j, rfl, rfl, h, hj, by rw [e]; exact q⟩
theorem s_ite {p : Prop} [Decidable p] {A B : Prop} (h1 : p → A) (h2 : ¬p → B) : if decide p = true then A else B := by
  by_cases h : p
  · rw [decide_eq_true h, if_pos rfl]; exact h1 h
  · rw [decide_eq_false h, if_neg Bool.false_ne_true]; exact h2 h
theorem s_itn {p : Prop} [Decidable p] {A B : Prop} (h1 : ¬p → A) (h2 : p → B) : if (!decide p) = true then A else B := by
  by_cases h : p
  · rw [decide_eq_true h]; exact h2 h
  · rw [decide_eq_false h]; exact h1 h
theorem s_itt {A B : Prop} (h : A) : if true = true then A else B := h
theorem s_itf {A B : Prop} (h : B) : if false = true then A else B := h
theorem s_itb {k : Bool} {A B : Prop} (h1 : k = true → A) (h2 : k = false → B) : if k = true then A else B := by
  cases k with
  | true => exact h1 rfl
  | false => exact h2 rfl
end

/-! heaps: what stands still stands -/
section
variable {K : PySem.W.Frag} {H H1 H2 : Hp} {ps qs : List Addr} {a b p : Addr} {o u : HO}
/-- the kind of what stands -/
def ko : HO → Nat
  | .lst _ => 0 | .tup _ => 1 | .dK _ => 2 | .dT _ => 3 | .set _ _ => 4 | .ins _ _ _ => 5 | .own _ => 6 | .xd _ => 7 | .met _ _ => 8 | .rng _ _ => 9 | .frz _ _ => 10 | .tbl _ => 11
  | _ => 12
def Th (H : Hp) (a : Addr) (i : Nat) : Prop := ∃ o, H a = some o ∧ ko o = i
theorem Th.of (h : H a = some o) : Th H a (ko o) := ⟨o, h, rfl⟩
theorem Th.lst {xs : List V} (h : H a = some (.lst xs)) : Th H a 0 := ⟨_, h, rfl⟩
theorem Th.tup {xs : List V} (h : H a = some (.tup xs)) : Th H a 1 := ⟨_, h, rfl⟩
theorem Th.dK {xs : List (Key × V)} (h : H a = some (.dK xs)) : Th H a 2 := ⟨_, h, rfl⟩
theorem Th.ins {C dx : Addr} {xs : List (Str × V)} (h : H a = some (.ins C dx xs)) : Th H a 5 := ⟨_, h, rfl⟩
theorem Th.xd {xs : List (Str × V)} (h : H a = some (.xd xs)) : Th H a 7 := ⟨_, h, rfl⟩
/-- all that stood, but at the places ps, stands as it stood; and what stood stands, of its kind -/
structure Kp (ps : List Addr) (H H' : Hp) : Prop where
  keep : ∀ b o, H b = some o → b ∉ ps → H' b = some o
  kd : ∀ b i, Th H b i → Th H' b i
  tp : ∀ b xs, H b = some (.tup xs) → H' b = some (.tup xs)
theorem Kp.dom (h : Kp ps H H1) (b : Addr) (n : H1 b = none) : H b = none := by
  cases e : H b with
  | none => rfl
  | some o =>
    obtain ⟨o', e', _⟩ := h.kd b _ (Th.of e)
    rw [e'] at n; cases n
theorem Kp.refl : Kp ps H H := ⟨fun _ _ e _ => e, fun _ _ e => e, fun _ _ e => e⟩
theorem Kp.trans (h : Kp ps H H1) (g : Kp ps H1 H2) : Kp ps H H2 := ⟨fun b o e n => g.keep b o (h.keep b o e n) n, fun b i e => g.kd b i (h.kd b i e), fun b xs e => g.tp b xs (h.tp b xs e)⟩
theorem Kp.mono (h : Kp ps H H1) (g : ∀ a ∈ ps, a ∈ qs) : Kp qs H H1 := ⟨fun b o e n => h.keep b o e fun m => n (g b m), h.kd, h.tp⟩
theorem Kp.nil (h : Kp [] H H1) : Kp ps H H1 := h.mono fun _ m => nomatch m
theorem Kp.get (h : Kp ps H H1) (e : H b = some o) (n : b ∉ ps) : H1 b = some o := h.keep b o e n
theorem Kp.get0 (h : Kp [] H H1) (e : H b = some o) : H1 b = some o := h.keep b o e (by simp)
theorem Kp.get1 (h : Kp [p] H H1) (e : H b = some o) (n : b ≠ p) : H1 b = some o := h.keep b o e (by simpa using n)
theorem Kp.new (h : Kp ps H H1) (n : H1 p = none) : Kp ps H (upd H1 p u) := ⟨fun b o e m => by
  have e1 := h.keep b o e m
  rw [upd_ne (ne_of_none e1 n)]
  exact e1, fun b i e => by
  obtain ⟨o, e1, r⟩ := h.kd b i e
  exact ⟨o, by rw [upd_ne (ne_of_none e1 n)]; exact e1, r⟩, fun b xs e => by
  have e1 := h.tp b xs e
  rw [upd_ne (ne_of_none e1 n)]
  exact e1⟩
theorem Kp.put (h : Kp ps H H1) (m : p ∈ ps) (z : Th H1 p (ko u)) (y : Nat.beq (ko u) 1 = false := by rfl) : Kp ps H (upd H1 p u) := ⟨fun b o e n => by
  rw [upd_ne (fun z => n (by rw [z]; exact m))]
  exact h.keep b o e n, fun b i e => by
  by_cases y : b = p
  · subst y
    obtain ⟨o1, e1, r1⟩ := z
    obtain ⟨o2, e2, r2⟩ := h.kd b i e
    rw [e1] at e2
    cases e2
    exact ⟨u, upd_same, by rw [← r1, r2]⟩
  · obtain ⟨o2, e2, r2⟩ := h.kd b i e
    exact ⟨o2, by rw [upd_ne y]; exact e2, r2⟩, fun b xs e => by
  have e1 := h.tp b xs e
  have n : b ≠ p := fun x => by
    subst x
    obtain ⟨o1, e2, r1⟩ := z
    rw [e1] at e2
    cases e2
    rw [← r1] at y
    cases y
  rw [upd_ne n]
  exact e1⟩
theorem Kp.tgt {xs : List V} (h : Kp ps H H1) (e : H b = some (.tup xs)) : H1 b = some (.tup xs) := h.tp b xs e
theorem Kp.fresh (h : Kp ps H H1) (n : H1 p = none) : H p = none := h.dom p n
theorem Kp.fresh0 (h : Kp [] H H1) (n : H1 p = none) : H p = none := h.dom p n
/-- a place that did not stand may have changed -/
theorem Kp.drop (h : Kp (p :: ps) H H1) (n : H p = none) : Kp ps H H1 := ⟨fun b o e m => h.keep b o e (by
  intro z
  rcases List.mem_cons.mp z with z | z
  · subst z; rw [n] at e; cases e
  · exact m z), h.kd, h.tp⟩
/-- a new object, the heap behind it as a letter -/
theorem new_abs {o : HO} {R : Addr → Hp → Prop} (h : ∀ p H', H p = none → H' p = some o → Kp [] H H' → R p H') : ∀ p, H p = none → R p (upd H p o) :=
  fun p f => h p _ f upd_same (Kp.refl.new f)
theorem s_newl {Q : VK} {xs : List V} (hz : xs.length ≤ sizeLine) (h : ∀ p H', H p = none → H' p = some (.lst xs) → Kp [] H H' → Q (.ref p) H') : LstK Q xs H := ⟨hz, new_abs h⟩
theorem s_newt {Q : VK} {xs : List V} (hz : xs.length ≤ sizeLine) (h : ∀ p H', H p = none → H' p = some (.tup xs) → Kp [] H H' → Q (.ref p) H') : TupK Q xs H := ⟨hz, new_abs h⟩
theorem s_addl {Q : VK} {p q : Addr} {xs ys : List V} (h1 : H p = some (.lst xs)) (h2 : H q = some (.lst ys)) (h : xs.length + ys.length ≤ sizeLine)
    (z : ∀ p' H', H p' = none → H' p' = some (.lst (xs ++ ys)) → Kp [] H H' → Q (.ref p') H') : uAdd K (.ref p) (.ref q) H Q :=
  Or.inr (Or.inr (Or.inl ⟨p, q, xs, ys, rfl, rfl, h1, h2, h, new_abs z⟩))
theorem Kp.rd (h : Kp [] H H1) (e : Rd H a u) : Rd H1 a u := by
  rcases e with e | ⟨o, e⟩
  · exact Or.inl (h.get0 e)
  · exact Or.inr ⟨o, h.get0 e⟩
theorem Kp.sql {xs : List V} (h : Kp [] H H1) (e : SqL K H a xs) : SqL K H1 a xs := by
  rcases e with e | e
  · exact Or.inl (h.rd e)
  · exact Or.inr e
theorem Kp.sqt {xs : List V} (h : Kp [] H H1) (e : SqT K H a xs) : SqT K H1 a xs := by
  rcases e with e | e
  · exact Or.inl (h.rd e)
  · exact Or.inr e
end
end U

namespace U
open PySem L2 PySem.Spec PyProof.Rows

/-! promises by the number of arguments -/
abbrev P0 := Hp → VK → XK → Prop
def sp0 (F : P0) : Sp := fun vs H Q E => vs = [] ∧ F H Q E
def sp1 (F : V → P0) : Sp := fun vs H Q E => ∃ a, vs = [a] ∧ F a H Q E
def sp2 (F : V → V → P0) : Sp := fun vs H Q E => ∃ a b, vs = [a, b] ∧ F a b H Q E
def sp3 (F : V → V → V → P0) : Sp := fun vs H Q E => ∃ a b c, vs = [a, b, c] ∧ F a b c H Q E
def sp4 (F : V → V → V → V → P0) : Sp := fun vs H Q E => ∃ a b c d, vs = [a, b, c, d] ∧ F a b c d H Q E
def sp5 (F : V → V → V → V → V → P0) : Sp := fun vs H Q E => ∃ a b c d e, vs = [a, b, c, d, e] ∧ F a b c d e H Q E
def sp6 (F : V → V → V → V → V → V → P0) : Sp := fun vs H Q E => ∃ a b c d e f, vs = [a, b, c, d, e, f] ∧ F a b c d e f H Q E
section
variable {H : Hp} {Q : VK} {E : XK} {a b c d e f : V}
theorem s_sp0 {F : P0} (h : F H Q E) : sp0 F [] H Q E := ⟨rfl, h⟩
theorem s_sp1 {F : V → P0} (h : F a H Q E) : sp1 F [a] H Q E := ⟨a, rfl, h⟩
theorem s_sp2 {F : V → V → P0} (h : F a b H Q E) : sp2 F [a, b] H Q E := ⟨a, b, rfl, h⟩
theorem s_sp3 {F : V → V → V → P0} (h : F a b c H Q E) : sp3 F [a, b, c] H Q E := ⟨a, b, c, rfl, h⟩
theorem s_sp4 {F : V → V → V → V → P0} (h : F a b c d H Q E) : sp4 F [a, b, c, d] H Q E := ⟨a, b, c, d, rfl, h⟩
theorem s_sp5 {F : V → V → V → V → V → P0} (h : F a b c d e H Q E) : sp5 F [a, b, c, d, e] H Q E := ⟨a, b, c, d, e, rfl, h⟩
theorem s_sp6 {F : V → V → V → V → V → V → P0} (h : F a b c d e f H Q E) : sp6 F [a, b, c, d, e, f] H Q E := ⟨a, b, c, d, e, f, rfl, h⟩
end

/-! built-in names -/
theorem bt_len : bootBuiltins "len" = some (.builtin "len") := by decide +kernel
theorem bt_max : bootBuiltins "max" = some (.builtin "max") := by decide +kernel
theorem bt_min : bootBuiltins "min" = some (.builtin "min") := by decide +kernel
theorem bt_all : bootBuiltins "all" = some (.builtin "all") := by decide +kernel
theorem bt_any : bootBuiltins "any" = some (.builtin "any") := by decide +kernel
theorem bt_repr : bootBuiltins "repr" = some (.builtin "repr") := by decide +kernel
theorem bt_sorted : bootBuiltins "sorted" = some (.builtin "sorted") := by decide +kernel
theorem bt_sum : bootBuiltins "sum" = some (.builtin "sum") := by decide +kernel
theorem bt_isinstance : bootBuiltins "isinstance" = some (.builtin "isinstance") := by decide +kernel
theorem bt_int : bootBuiltins "int" = some (.type "int") := by decide +kernel
theorem bt_bool : bootBuiltins "bool" = some (.type "bool") := by decide +kernel
theorem bt_str : bootBuiltins "str" = some (.type "str") := by decide +kernel
theorem bt_list : bootBuiltins "list" = some (.type "list") := by decide +kernel
theorem bt_tuple : bootBuiltins "tuple" = some (.type "tuple") := by decide +kernel
theorem bt_dict : bootBuiltins "dict" = some (.type "dict") := by decide +kernel
theorem bt_set : bootBuiltins "set" = some (.type "set") := by decide +kernel
theorem bt_range : bootBuiltins "range" = some (.type "range") := by decide +kernel

section
variable {X : Cx} {K : PySem.W.Frag}
def uLen (K : PySem.W.Frag) : List V → Hp → VK → Prop := fun xs H Q => (∃ x n, xs = [x] ∧ LenV K x H n ∧ Q (.int n) H) ∨ ∃ a kvs, xs = [V.ref a] ∧ H a = some (.dK kvs) ∧ Q (.int kvs.length) H
theorem c_len (hK : X.K = K) : CallR X (.builtin "len") (uLen K) := hK ▸ call_len.or call_lenD
def uMax : List V → Hp → VK → Prop := fun xs H Q => ∃ i j, xs = [.int i, .int j] ∧ Q (.int (if j > i then j else i)) H
def uMin : List V → Hp → VK → Prop := fun xs H Q => ∃ i j, xs = [.int i, .int j] ∧ Q (.int (if j < i then j else i)) H
theorem c_max (hc : X.calm = true) : CallR X (.builtin "max") uMax := call_max2 hc
theorem c_min (hc : X.calm = true) : CallR X (.builtin "min") uMin := call_min2 hc
def uStr : List V → Hp → VK → Prop := fun xs H Q => ∃ i, xs = [.int i] ∧ i.natAbs.log2 < 1920 ∧ Q (.str (toString i)) H
theorem c_isi (hK : X.K = K) : CallR X (.builtin "isinstance") (rIsi K) := hK ▸ call_isi
theorem c_all (hK : X.K = K) (hc : X.calm = true) : CallR X (.builtin "all") (rAll K) := hK ▸ cr_all hc
theorem c_any (hK : X.K = K) (hc : X.calm = true) : CallR X (.builtin "any") (rAny K) := hK ▸ cr_any hc
theorem c_repr {k : Nat} (hK : X.K = K) (hg : X.A.guards = some []) (hr : Room k X.A) (hs : ∃ mm, X.base.Ns sysModules mm) : CallR X (.builtin "repr") (rRepr K) := hK ▸ call_repr hg hr hs
theorem c_str : CallR X (.type "str") uStr := call_str_int
end

def uJoin (K : PySem.W.Frag) : V → List V → Hp → VK → Prop := fun x xs H Q => ∃ a p, ∃ ys : List Str, x = .str a ∧ xs = [.ref p] ∧ (SqL K H p (ys.map V.str) ∨ SqT K H p (ys.map V.str)) ∧
  (ys.map (·.length)).sum + ys.length * a.length ≤ 16777216 ∧ Q (.str (Txt.join a ys)) H
theorem pe_joinU {X : Cx} {K : PySem.W.Frag} {o e : Expr} {to te : TE} {ap pos : Pos} (hK : X.K = K) (ho : PE X o to) (he : PE X e te) (h1 : starEach [e] X.env = [(false, eval e X.env)] := by rfl) (h2 : attributeBase o "join" X.env (eval o X.env) = eval o X.env := by rfl)
    (h3 : (ap.endLine == pos.line) = true := by rfl) : PE X (.Call (.Attribute o "join" ap) [e] [] pos) (tM1 (uJoin K) to te) := hK ▸ pe_join ho he h1 h2 h3

theorem pi_lst {X : Cx} {K : PySem.W.Frag} {tg l : Expr} {tl : TE} (hK : X.K = K) (hl : PE X l tl) : PI X tg l (iList K tl) := hK ▸ pi_list hl
theorem pi_tpl {X : Cx} {K : PySem.W.Frag} {tg l : Expr} {tl : TE} (hK : X.K = K) (hl : PE X l tl) : PI X tg l (iTup K tl) := hK ▸ pi_tup hl

/-! more steps -/
theorem zle {n : Nat} (h : n ≤ 1000000) : n ≤ sizeLine := Nat.le_trans h (by decide)
/-- what kind of thing a value is -/
inductive Kd | non | bl | int | str | lst | tup | dic
def Kd.nm : Kd → String
  | .non => "NoneType" | .bl => "bool" | .int => "int" | .str => "str" | .lst => "list" | .tup => "tuple" | .dic => "dict"
inductive TyN (H : Hp) : V → Kd → Prop
  | non : TyN H .non .non
  | bl {b : Bool} : TyN H (.bl b) .bl
  | int {i : Int} : TyN H (.int i) .int
  | str {z : Str} : TyN H (.str z) .str
  | lst {a : Addr} {xs : List V} : H a = some (.lst xs) → TyN H (.ref a) .lst
  | tup {a : Addr} {xs : List V} : H a = some (.tup xs) → TyN H (.ref a) .tup
  | dic {a : Addr} {kvs : List (Key × V)} : H a = some (.dK kvs) → TyN H (.ref a) .dic
theorem TyN.ty {K : PySem.W.Frag} {H : Hp} {v : V} {n : Kd} (h : TyN H v n) : TyX K H v (.type n.nm) := by
  cases h with
  | non => exact .base .non
  | bl => exact .base (.bl _)
  | int => exact .base (.int _)
  | str => exact .base (.str _)
  | lst e => exact .base (.lst e)
  | tup e => exact .base (.tup e)
  | dic e => exact .base (.dK e)
theorem TyN.kp {H H' : Hp} {v : V} {n : Kd} (h : TyN H v n) (k : Kp [] H H') : TyN H' v n := by
  cases h with
  | non => exact .non
  | bl => exact .bl
  | int => exact .int
  | str => exact .str
  | lst e => exact .lst (k.get0 e)
  | tup e => exact .tup (k.get0 e)
  | dic e => exact .dic (k.get0 e)
def Kd.isInt : Kd → Bool | .int => true | .bl => true | _ => false
def Kd.isBool : Kd → Bool | .bl => true | _ => false
def Kd.isStr : Kd → Bool | .str => true | _ => false
def Kd.isList : Kd → Bool | .lst => true | _ => false
def Kd.isTup : Kd → Bool | .tup => true | _ => false
def Kd.isDict : Kd → Bool | .dic => true | _ => false
theorem kb_int (t : Kd) : kitB t.nm "int" = some t.isInt := by cases t <;> decide +kernel
theorem kb_bool (t : Kd) : kitB t.nm "bool" = some t.isBool := by cases t <;> decide +kernel
theorem kb_str (t : Kd) : kitB t.nm "str" = some t.isStr := by cases t <;> decide +kernel
theorem kb_list (t : Kd) : kitB t.nm "list" = some t.isList := by cases t <;> decide +kernel
theorem kb_tup (t : Kd) : kitB t.nm "tuple" = some t.isTup := by cases t <;> decide +kernel
theorem kb_dict (t : Kd) : kitB t.nm "dict" = some t.isDict := by cases t <;> decide +kernel
section
variable {K : PySem.W.Frag} {σ : L2.St} {H : Hp} {Q : VK} {D : Ends} {x y v : V} {i : Nat} {n m : Int} {a b : Str}
theorem s_max2 (q : Q (.int (if m > n then m else n)) H) : uMax [.int n, .int m] H Q := ⟨n, m, rfl, q⟩
theorem s_min2 (q : Q (.int (if m < n then m else n)) H) : uMin [.int n, .int m] H Q := ⟨n, m, rfl, q⟩
theorem s_lens (h : a.length ≤ sizeLine) (q : Q (.int a.length) H) : uLen K [.str a] H Q := Or.inl ⟨_, a.length, rfl, ⟨h, rfl⟩, q⟩
theorem s_lenL {p : Addr} {xs : List V} (h : SqL K H p xs) (q : Q (.int xs.length) H) : uLen K [.ref p] H Q := Or.inl ⟨_, xs.length, rfl, Or.inl ⟨xs, h, rfl⟩, q⟩
theorem s_lenl {p : Addr} {xs : List V} (h : H p = some (.lst xs)) (q : Q (.int xs.length) H) : uLen K [.ref p] H Q := s_lenL (SqL.of h) q
theorem s_lent {p : Addr} {xs : List V} (h : H p = some (.tup xs)) (q : Q (.int xs.length) H) : uLen K [.ref p] H Q := Or.inl ⟨_, xs.length, rfl, Or.inr ⟨xs, SqT.of h, rfl⟩, q⟩
theorem s_lend {p : Addr} {xs : List (Key × V)} (h : H p = some (.dK xs)) (q : Q (.int xs.length) H) : uLen K [.ref p] H Q := Or.inr ⟨p, xs, rfl, h, q⟩
theorem s_str (h : n.natAbs.log2 < 1920) (q : Q (.str (toString n)) H) : uStr [.int n] H Q := ⟨n, rfl, h, q⟩
theorem s_isi0 {s t : String} {k : Bool} (h : TyX K H v (.type s)) (hk : kitB s t = some k) (q : Q (.bl k) H) : rIsi K [v, .ty t] H Q := ⟨v, .ty t, .type s, .type t, k, rfl, .ty t, h, kit_ty hk, q⟩
theorem s_isInt {t : Kd} (h : TyN H v t) (q : Q (.bl t.isInt) H) : rIsi K [v, .ty "int"] H Q := s_isi0 h.ty (kb_int t) q
theorem s_isBool {t : Kd} (h : TyN H v t) (q : Q (.bl t.isBool) H) : rIsi K [v, .ty "bool"] H Q := s_isi0 h.ty (kb_bool t) q
theorem s_isStr {t : Kd} (h : TyN H v t) (q : Q (.bl t.isStr) H) : rIsi K [v, .ty "str"] H Q := s_isi0 h.ty (kb_str t) q
theorem s_isList {t : Kd} (h : TyN H v t) (q : Q (.bl t.isList) H) : rIsi K [v, .ty "list"] H Q := s_isi0 h.ty (kb_list t) q
theorem s_isTup {t : Kd} (h : TyN H v t) (q : Q (.bl t.isTup) H) : rIsi K [v, .ty "tuple"] H Q := s_isi0 h.ty (kb_tup t) q
theorem s_isDict {t : Kd} (h : TyN H v t) (q : Q (.bl t.isDict) H) : rIsi K [v, .ty "dict"] H Q := s_isi0 h.ty (kb_dict t) q
theorem s_itT {k : Bool} {A B : Prop} (e : k = true) (h : A) : if k = true then A else B := by subst e; exact h
theorem s_itF {k : Bool} {A B : Prop} (e : k = false) (h : B) : if k = true then A else B := by subst e; exact h
theorem s_sl {r : V → Option Int → Option Int → Hp → VK → Prop} {te : TE} {tl th : TO} (h : te σ H fun x H1 => tl σ H1 fun l H2 => th σ H2 fun u H3 => r x l u H3 Q) : tSl r te tl th σ H Q := h
theorem s_nopart {Q : Option Int → Hp → Prop} (q : Q none H) : tNoPart σ H Q := q
theorem s_part {Q : Option Int → Hp → Prop} {t : TE} (h : t σ H fun x H1 => ∃ i, x = .int i ∧ Q (some i) H1) : tPart t σ H Q := h
theorem s_int {P : Int → Prop} (q : P n) : ∃ i, V.int n = .int i ∧ P i := ⟨n, rfl, q⟩
theorem s_sls {lo hi : Option Int} (h : a.length ≤ sizeLine) (q : Q (.str (cutS a lo hi)) H) : uSl K (.str a) lo hi H Q := Or.inr (Or.inl ⟨a, rfl, h, q⟩)
theorem s_sll {lo hi : Option Int} {p : Addr} {xs : List V} (h : SqL K H p xs) (q : ∀ p' H', H p' = none → H' p' = some (.lst (cutV xs lo hi)) → Kp [] H H' → Q (.ref p') H') : uSl K (.ref p) lo hi H Q := Or.inl ⟨p, xs, rfl, h, new_abs q⟩
theorem s_m1 {r : V → List V → Hp → VK → Prop} {to te : TE} (h : to σ H fun x H1 => (∃ a, x = .str a) ∧ te σ H1 fun y H2 => r x [y] H2 Q) : tM1 r to te σ H Q := h
theorem s_isstr {R : Prop} (h : R) : (∃ b, V.str a = .str b) ∧ R := ⟨⟨a, rfl⟩, h⟩
theorem s_join {p : Addr} {ys : List Str} (h : H p = some (.lst (ys.map V.str))) (hz : (ys.map (·.length)).sum + ys.length * a.length ≤ 16777216) (q : Q (.str (Txt.join a ys)) H) : uJoin K (.str a) [.ref p] H Q :=
  ⟨a, p, ys, rfl, rfl, Or.inl (SqL.of h), hz, q⟩
theorem s_rng1 {ta : TA} {R : It → Hp → Prop} (h : ta σ H fun vs H1 => ∃ j : Int, vs = [.int j] ∧ -(2 ^ 62) ≤ j ∧ j < 2 ^ 62 ∧ R (Itr 0 j.toNat) H1) : iRng1 ta σ H R := h
theorem s_rng {R : Int → Prop} (h1 : -(2 ^ 62) ≤ n) (h2 : n < 2 ^ 62) (q : R n) : ∃ j : Int, [V.int n] = [.int j] ∧ -(2 ^ 62) ≤ j ∧ j < 2 ^ 62 ∧ R j := ⟨n, rfl, h1, h2, q⟩
theorem s_ilist {tl : TE} {R : It → Hp → Prop} (h : tl σ H fun x H1 => ∃ a, x = .ref a ∧ (∃ xs, SqL K H1 a xs) ∧ R (Itl K a) H1) : iList K tl σ H R := h
theorem s_ilst {p : Addr} {xs : List V} {R : Addr → Prop} (h : SqL K H p xs) (q : R p) : ∃ a, V.ref p = .ref a ∧ (∃ xs, SqL K H a xs) ∧ R a := ⟨p, rfl, ⟨xs, h⟩, q⟩
theorem s_istr {te : TE} {R : It → Hp → Prop} (h : te σ H fun v H1 => ∃ x, v = .str x ∧ R (Its x) H1) : iStr te σ H R := h
theorem s_istr1 {R : Str → Prop} (q : R a) : ∃ x, V.str a = .str x ∧ R x := ⟨a, rfl, q⟩
theorem s_dnew (h : ∀ d H', H d = none → H' d = some (.dK []) → Kp [] H H' → Q (.ref d) H') : tDNewK σ H Q := new_abs (R := fun d H' => Q (.ref d) H') h
theorem s_all {p : Addr} {bs : List Bool} (h : H p = some (.lst (bs.map V.bl))) (q : Q (.bl (bs.all id)) H) : rAll K [.ref p] H Q := ⟨p, bs, rfl, SqL.of h, q⟩
theorem s_yes {Q : Bool → Hp → Prop} (q : Q true H) : tYes σ H Q := q
theorem dpa_strs : ∀ zs : List Str, DpAll K H (zs.map V.str) (zs.map PyData.str)
  | [] => .nil
  | z :: zs => .cons (.str z) (dpa_strs zs)
theorem lay_strs : ∀ {zs : List Str}, (∀ z ∈ zs, ∀ c ∈ z.cps.toList, c < 1114112) → PyData.canLayAll0 (zs.map PyData.str) = true ∧ PyData.depthAll (zs.map PyData.str) ≤ 1
  | [], _ => ⟨rfl, by simp [PyData.depthAll]⟩
  | z :: zs, h => by
    obtain ⟨h1, h2⟩ := lay_strs (zs := zs) fun y hy => h y (List.mem_cons_of_mem _ hy)
    refine ⟨?_, ?_⟩
    · simp only [List.map_cons, PyData.canLayAll0, PyData.canLay0, h1, Bool.and_true, PyData.strOk, Array.all_eq_true', decide_eq_true_eq]
      intro c hc
      exact h z List.mem_cons_self c (by simpa using hc)
    · simp only [List.map_cons, PyData.depthAll, PyData.depth]
      omega
theorem shp_strs {zs : List Str} (h : ∀ z ∈ zs, ∀ c ∈ z.cps.toList, c < 1114112) : SeqAt.shaped (.list (zs.map PyData.str)) = true := by
  obtain ⟨h1, h2⟩ := lay_strs h
  unfold SeqAt.shaped
  rw [Bool.and_eq_true]
  refine ⟨by simpa only [PyData.canLay0] using h1, decide_eq_true ?_⟩
  simp only [PyData.depth]
  omega
theorem s_eqNil {p q : Addr} {zs : List Str} (h1 : H p = some (.lst (zs.map V.str))) (h2 : H q = some (.lst [])) (ok : ∀ z ∈ zs, ∀ c ∈ z.cps.toList, c < 1114112) (k : Q (.bl zs.isEmpty) H) : uEq K (.ref p) (.ref q) H Q := by
  refine Or.inr ⟨_, _, .lst (SqL.of h1) (dpa_strs zs), .lst (SqL.of h2) .nil, shp_strs ok, by decide +kernel, ?_⟩
  have e : PyData.eqv (.list (zs.map PyData.str)) (.list []) = zs.isEmpty := by
    cases zs <;> simp [PyData.eqv, PyData.eqvAll]
  rw [e]
  exact k
/-- a comprehension -/
theorem s_lc {wi : TI} {g : TG} {tt : TT} {te : TE} {vs : List Nat} (h : wi σ H fun J H1 => ∀ D, H1 D = none → ∃ W : Nat → Nat → Hp → Prop, (∃ m, W 0 m (upd H1 D (.lst []))) ∧ ∀ i m H, W i m H →
    (J.stop i H ∧ Q (.ref D) H) ∨ (J.go i H ∧ ∃ Nx : Hp → Prop, (∀ H', Nx H' → ∃ m', m' < m ∧ W (i + 1) m' H') ∧ ∀ x H', J.yld i H x H' → g x (wipe σ vs) H' fun σ2 H2 => wipe σ2 vs = wipe σ vs ∧ tt σ2 H2 fun b H3 =>
      if b = true then te σ2 H3 fun y H4 => ∃ acc, H4 D = some (.lst acc) ∧ acc.length < sizeLine ∧ Nx (upd H4 D (.lst (acc ++ [y]))) else Nx H3)) : tLc wi g tt te vs σ H Q := h
/-- a loop -/
theorem s_for {wi : TI} {g : TG} {tb : TS} (h : wi σ H fun J H1 => ∃ W : Nat → Nat → L2.St → Hp → Prop, (∃ m, W 0 m σ H1) ∧ ∀ i m σ H, W i m σ H →
    (J.stop i H ∧ D.nx σ H) ∨ (J.go i H ∧ ∃ N : L2.St → Hp → Prop, (∀ σ' H', N σ' H' → ∃ m', m' < m ∧ W (i + 1) m' σ' H') ∧ ∀ x H', J.yld i H x H' → g x σ H' fun σ2 H2 => tb { D with nx := N, ct := N, bk := D.nx } σ2 H2)) : tFor wi g tb D σ H := h
/-- a comprehension's invariant, by the items made so far -/
def PvD (D : Addr) (Pv : Nat → List V → Hp → Prop) (i : Nat) (H : Hp) : Prop := ∃ acc, H D = some (.lst acc) ∧ Pv i acc H
theorem PvD.start {D : Addr} {Pv : Nat → List V → Hp → Prop} (h : Pv 0 [] (upd H D (.lst []))) : PvD D Pv 0 (upd H D (.lst [])) := ⟨[], upd_same, h⟩
theorem PvD.more {D : Addr} {Pv : Nat → List V → Hp → Prop} {acc : List V} (e : H D = some (.lst acc)) (hz : acc.length < sizeLine) (h : Pv i (acc ++ [y]) (upd H D (.lst (acc ++ [y])))) :
    ∃ acc, H D = some (.lst acc) ∧ acc.length < sizeLine ∧ PvD D Pv i (upd H D (.lst (acc ++ [y]))) := ⟨acc, e, hz, acc ++ [y], upd_same, h⟩
theorem PvD.skip {D : Addr} {Pv : Nat → List V → Hp → Prop} {acc : List V} (e : H D = some (.lst acc)) (h : Pv i acc H) : PvD D Pv i H := ⟨acc, e, h⟩
end
end U

namespace U
open PySem L2 PySem.Spec PyProof.Rows
theorem log2s {m : Nat} (h : m < 10 ^ 100) : m.log2 < 1920 := log2_small (Nat.lt_of_lt_of_le h (by decide +kernel))
/-- a text of at most n signs -/
structure SS (z : Str) (n : Nat) : Prop where
  len : z.length ≤ n
  ok : ∀ c ∈ z.cps.toList, c < 1114112
theorem SS.mono {z : Str} {n m : Nat} (h : SS z n) (e : n ≤ m) : SS z m := ⟨Nat.le_trans h.len e, h.ok⟩
theorem SS.app {a b : Str} {n m : Nat} (h : SS a n) (g : SS b m) : SS (a ++ b) (n + m) := by
  refine ⟨by rw [Str.length_append]; have := h.len; have := g.len; omega, fun c hc => ?_⟩
  rw [Str.cps_append, Array.toList_append, List.mem_append] at hc
  rcases hc with hc | hc
  · exact h.ok c hc
  · exact g.ok c hc
theorem SS.cut {a : Str} {n : Nat} {lo hi : Option Int} (h : SS a n) : SS (cutS a lo hi) n := by
  refine ⟨?_, fun c hc => ?_⟩
  · show (List.toArray _).size ≤ n
    rw [List.size_toArray, List.length_take, List.length_drop, Array.length_toList]
    have : a.cps.size ≤ n := h.len
    omega
  · have hc : c ∈ (List.take (HT.sIx a.length a.length hi - HT.sIx a.length 0 lo) (List.drop (HT.sIx a.length 0 lo) a.cps.toList)) := by simpa [cutS] using hc
    exact h.ok c (List.mem_of_mem_drop (List.mem_of_mem_take hc))
theorem SS.one {c : Nat} (h : c < 1114112) : SS ⟨#[c]⟩ 1 := ⟨by simp [Str.length], fun d hd => by
  have : d = c := by simpa using hd
  subst this; exact h⟩
theorem SS.mk' {z : Str} {n : Nat} (h : z.length ≤ n ∧ ∀ c ∈ z.cps.toList, c < 1114112) : SS z n := ⟨h.1, h.2⟩
theorem join_ones : ∀ cs : List Nat, Txt.join (Str.ofString "") (cs.map fun c => ⟨#[c]⟩) = ⟨cs.toArray⟩ := fun cs => by
  rw [show ∀ y l, Txt.join y l = Str.join y l from fun y l => StrLaws.glued_eq_join y l]
  have e0 : Str.ofString "" = Str.empty := by decide +kernel
  rw [e0]
  induction cs with
  | nil => rfl
  | cons c cs ih =>
    cases cs with
    | nil => rfl
    | cons d cs =>
      show (⟨#[c]⟩ : Str) ++ Str.empty ++ Str.join Str.empty ((d :: cs).map fun c => ⟨#[c]⟩) = _
      rw [ih]
      refine Str.ext' ?_
      simp [Str.cps_append, Str.empty]
theorem SS.ones {cs : List Nat} (h : ∀ c ∈ cs, c < 1114112) : SS (Txt.join (Str.ofString "") (cs.map fun c => ⟨#[c]⟩)) cs.length := by
  rw [join_ones]
  exact ⟨by simp [Str.length], by simpa using h⟩
theorem SS.num {i : Int} (h : i.natAbs < 10 ^ 100) : SS (Str.ofString (toString i)) 102 := by
  refine ⟨int_len h, fun c hc => ?_⟩
  rw [Str.ofString_eq_toList] at hc
  have hc : c ∈ (toString i).toList.map Char.toNat := by simpa using hc
  obtain ⟨d, _, rfl⟩ := List.mem_map.mp hc
  have h2 : d.toNat.isValidChar := d.valid
  unfold Nat.isValidChar at h2
  omega
theorem SS.at {z : Str} {n : Nat} {i : Int} (h : SS z n) (h0 : 0 ≤ i) (h1 : i < z.length) : ∃ c, atI z.cps.toList i = some c ∧ c < 1114112 ∧ c ∈ z.cps.toList := by
  obtain ⟨c, e1, e2⟩ := at_int (xs := z.cps.toList) h0 (by rw [Array.length_toList]; exact h1)
  have m := List.mem_of_getElem? e1
  exact ⟨c, e2, h.ok c m, m⟩
theorem ones_len (cs : List Nat) : ((cs.map fun c => (⟨#[c]⟩ : Str)).map (·.length)).sum = cs.length := by
  induction cs with
  | nil => rfl
  | cons c cs ih =>
    rw [List.map_cons, List.map_cons, List.sum_cons, ih, List.length_cons]
    simp [Str.length]
    omega
end U

namespace U
open PySem L2 PySem.Spec PyProof.Rows

theorem peImp {X : Cx} {e : Expr} {t u : TE} (h : PE X e t) (w : ∀ σ H (Q : VK), u σ H Q → ∃ Q0 : VK, t σ H Q0 ∧ ∀ x H1, Q0 x H1 → Q x H1) : PE X e u :=
  ⟨fun pi s σ H Q I q => by
    obtain ⟨Q0, q0, z⟩ := w σ H Q q
    exact thn (h.run pi s σ H Q0 I q0) fun a s1 ⟨x, H1, I1, r1, q1⟩ => ⟨x, H1, I1, r1, z x H1 q1⟩⟩
def tMo (t : TE) : TE := fun σ H Q => ∃ Q0 : VK, t σ H Q0 ∧ ∀ x H1, Q0 x H1 → Q x H1
theorem peMo {X : Cx} {e : Expr} {t : TE} (h : PE X e t) : PE X e (tMo t) := peImp h fun _ _ _ q => q
def tMa (t : TA) : TA := fun σ H Q => ∃ Q0 : List V → Hp → Prop, t σ H Q0 ∧ ∀ x H1, Q0 x H1 → Q x H1
theorem paMo {X : Cx} {es : List Expr} {t : TA} (h : PA X es t) : PA X es (tMa t) :=
  ⟨fun pos pi s σ H Q I ⟨Q0, q0, z⟩ => thn (h.run pos pi s σ H Q0 I q0) fun a s1 ⟨x, H1, I1, r1, q1⟩ => ⟨x, H1, I1, r1, z x H1 q1⟩⟩
theorem psImp {X : Cx} {st : Stmt} {t u : TS} (h : PS X st t) (w : ∀ D σ H, u D σ H → t D σ H) : PS X st u :=
  ⟨fun pi s σ H D I q => h.run pi s σ H D I (w D σ H q)⟩

/-! what is raised passes -/
section
variable {X : Cx} {E : XK}
theorem passF : Passes (L2.CX X.prog X.w) X (fun _ _ _ => False) := fun _ _ _ _ _ _ _ c => by
  obtain ⟨_, _, _, _, _, _, _, _, _, _, _, _, z⟩ := c
  exact z.elim
/-- the wish of a def's body -/
abbrev wE (E : XK) : WX := fun cls d _ H => E cls d H
abbrev wNo : WX := fun _ _ _ _ => False
end

/-! calls -/
section
variable {X : Cx} {k : Nat} {f C : Addr} {fd : FuncData} {ps : List Str} {sp : Sp} {W : WX} {x m : Str} {p ap pos : Pos} {e o : Expr} {es : List Expr} {t : TA} {ta : TE} {K : PySem.W.Frag}
variable {pi : List (Addr × Obj)} {σ : L2.St} {H : Hp} {s : Shared} {Q : VK} {us : List Value} {vs : List V}
theorem bind0 (hb : Binds X.K fd ps []) (I : Inv X pi σ H s) (r : Vals vs us) (l : vs.length = ps.length) : BindsTo s fd ⟨us, []⟩ (ps.zip us) := by
  have e1 : us ++ [] = us := List.append_nil us
  have b1 := hb s us I.kIn (by rw [e1, ← r.length]; exact l)
  rw [e1] at b1
  exact b1
theorem run_o (F : FnOk X.prog X.w X.K X.mg X.base (L2.CX X.prog X.w) k f fd ps sp) (hr : Room k X.A) (hb : Binds X.K fd ps []) (tk : Takes X W) (I : Inv X pi σ H s) (r : Vals vs us) (h : sp vs H Q (fun cls d H' => W cls d σ H')) :
    wpAny (model X.prog X.w) X.A (call (.ref f) us) (EP X pi σ Q) X.xe s := by
  refine wpAny_call (codeAny_mono (F.run X.A X.stack s H ⟨us, []⟩ us vs Q _ hr I.env0 (bind0 hb I r (F.len _ _ _ _ h)) r h) fun rr s' hq => ?_)
  match rr, hq with
  | .error er, z => exact tk er s' (XE.of_call I (fun _ _ _ y => y) z)
  | .ok (.ret u), z => exact I.after z
  | .ok .next, z => exact z.elim
  | .ok .brk, z => exact z.elim
  | .ok .cont, z => exact z.elim
theorem run_g (F : FnG X.prog X.w X.K X.mg X.base (L2.CX X.prog X.w) k f fd ps sp) (hg : X.A.guards = some []) (hr : Room k X.A) (hb : Binds X.K fd ps []) (tk : Takes X W) (I : Inv X pi σ H s) (r : Vals vs us) (h : sp vs H Q (fun cls d H' => W cls d σ H')) :
    wpAny (model X.prog X.w) X.A (call (.ref f) us) (EP X pi σ Q) X.xe s := by
  refine wpAny_call (codeAny_mono (F.run X.A X.stack s H ⟨us, []⟩ us vs Q _ hg hr I.env0 (bind0 hb I r (F.len _ _ _ _ h)) r h) fun rr s' hq => ?_)
  match rr, hq with
  | .error er, z => exact tk er s' (XE.of_call I (fun _ _ _ y => y) z)
  | .ok (.ret u), z => exact I.after z
  | .ok .next, z => exact z.elim
  | .ok .brk, z => exact z.elim
  | .ok .cont, z => exact z.elim
def tCo (sp : Sp) (W : WX) (t : TA) : TE := fun σ H Q => t σ H fun vs H1 => sp vs H1 Q fun cls d H' => W cls d σ H'
/-- f(e, ..), f of a promise that asks nothing of what is around -/
theorem pe_co (F : FnOk X.prog X.w X.K X.mg X.base (L2.CX X.prog X.w) k f fd ps sp) (hr : Room k X.A) (gl : Gl X x) (hm : X.mg x = some (.ref f)) (hk : PySem.W.keepIn X.K (.ref f) = true) (hb : Binds X.K fd ps []) (tk : Takes X W)
    (ha : PA X (e :: es) t) (h1 : (x == ("__debug__" : Str)) = false := by decide) (h2 : starEach (e :: es) X.env = (false, eval e X.env) :: starEach es X.env := by rfl) (h3 : (backTo pos (starEach es X.env)).any (·.1) = false := by rfl) :
    PE X (.Call (.Name x p) (e :: es) [] pos) (tCo sp W t) := by
  refine ⟨fun pi s σ H Q I h => wpAny_Call_Name_kw (ld_glob I gl hm ?_ h1)⟩
  refine PySem.W.callWith_K (h₀ := X.base) I.ok.mod.kin hk (thn (ha.run pos pi s σ H _ I h) ?_) h2 h3
  rintro us s1 ⟨vs, H1, I1, r, q⟩
  exact ⟨I1.kIn, run_o F hr hb tk I1 r q⟩
theorem pe_co0 (F : FnOk X.prog X.w X.K X.mg X.base (L2.CX X.prog X.w) k f fd ps sp) (hr : Room k X.A) (gl : Gl X x) (hm : X.mg x = some (.ref f)) (hk : PySem.W.keepIn X.K (.ref f) = true) (hb : Binds X.K fd ps []) (tk : Takes X W)
    (h1 : (x == ("__debug__" : Str)) = false := by decide) : PE X (.Call (.Name x p) [] [] pos) (tCo sp W tNil) :=
  ⟨fun pi s σ H Q I h => wpAny_Call_Name_kw (ld_glob I gl hm (PySem.W.callWith_K0 I.kIn hk (run_o (us := []) F hr hb tk I .nil h)) h1)⟩
/-- .. where no repr is under way -/
theorem pe_cg (F : FnG X.prog X.w X.K X.mg X.base (L2.CX X.prog X.w) k f fd ps sp) (hg : X.A.guards = some []) (hr : Room k X.A) (gl : Gl X x) (hm : X.mg x = some (.ref f)) (hk : PySem.W.keepIn X.K (.ref f) = true) (hb : Binds X.K fd ps []) (tk : Takes X W)
    (ha : PA X (e :: es) t) (h1 : (x == ("__debug__" : Str)) = false := by decide) (h2 : starEach (e :: es) X.env = (false, eval e X.env) :: starEach es X.env := by rfl) (h3 : (backTo pos (starEach es X.env)).any (·.1) = false := by rfl) :
    PE X (.Call (.Name x p) (e :: es) [] pos) (tCo sp W t) := by
  refine ⟨fun pi s σ H Q I h => wpAny_Call_Name_kw (ld_glob I gl hm ?_ h1)⟩
  refine PySem.W.callWith_K (h₀ := X.base) I.ok.mod.kin hk (thn (ha.run pos pi s σ H _ I h) ?_) h2 h3
  rintro us s1 ⟨vs, H1, I1, r, q⟩
  exact ⟨I1.kIn, run_g F hg hr hb tk I1 r q⟩
theorem pe_cg0 (F : FnG X.prog X.w X.K X.mg X.base (L2.CX X.prog X.w) k f fd ps sp) (hg : X.A.guards = some []) (hr : Room k X.A) (gl : Gl X x) (hm : X.mg x = some (.ref f)) (hk : PySem.W.keepIn X.K (.ref f) = true) (hb : Binds X.K fd ps []) (tk : Takes X W)
    (h1 : (x == ("__debug__" : Str)) = false := by decide) : PE X (.Call (.Name x p) [] [] pos) (tCo sp W tNil) :=
  ⟨fun pi s σ H Q I h => wpAny_Call_Name_kw (ld_glob I gl hm (PySem.W.callWith_K0 I.kIn hk (run_g (us := []) F hg hr hb tk I .nil h)) h1)⟩
/-- o.m(e, ..) -/
def MtK (C : Addr) (m : Str) (R : V → Hp → Prop) (x : V) (H : Hp) : Prop := ∃ a dx fs, x = .ref a ∧ H a = some (.ins C dx fs) ∧ fs.lookup m = none ∧ R x H
def tMt (C : Addr) (m : Str) (sp : Sp) (W : WX) (ta : TE) (t : TA) : TE := fun σ H Q => ta σ H (MtK C m fun x H1 => t σ H1 fun vs H2 => sp (x :: vs) H2 Q fun cls d H' => W cls d σ H')
theorem pe_mo {pl : Sem Bool} (c : Cls X.K C) (hm : Meth X.K C m f) (F : FnOk X.prog X.w X.K X.mg X.base (L2.CX X.prog X.w) k f fd ps sp) (hr : Room k X.A) (hb : Binds X.K fd ps []) (tk : Takes X W) (he : PE X o ta) (ha : PA X (e :: es) t)
    (h2 : starEach (e :: es) X.env = (false, eval e X.env) :: starEach es X.env := by rfl) (h3 : (backTo pos (starEach es X.env)).any (·.1) = false := by rfl)
    (h4 : eval (.Call (.Attribute o m ap) (e :: es) [] pos) X.env = (do
      let ov ← eval o X.env
      standAt ap.atName
      let (f, first) ← holding [ov] (getMethod ov m pl)
      callWith pos f first (backTo pos (starEach (e :: es) X.env)) (backToKw pos (keywordEach [] X.env))) := by rfl) :
    PE X (.Call (.Attribute o m ap) (e :: es) [] pos) (tMt C m sp W ta t) := by
  refine ⟨fun pi s σ H Q I h => PySem.W.methodCall_KW (pl := pl) (thn (he.run pi s σ H _ I h) ?_) h4⟩
  rintro u s1 ⟨x, H1, I1, rx, a, dx, fs, rfl, ea, l, q⟩
  obtain rfl : u = Value.ref a := rx
  refine getmeth_ok I1 ea c hm l (PySem.W.callWith_K (first := [.ref a]) (h₀ := X.base) I.ok.mod.kin hm.kp (thn (ha.run pos pi s1 σ H1 _ I1 q) ?_) h2 h3)
  rintro us s2 ⟨vs, H2, I2, r, q2⟩
  exact ⟨I2.kIn, run_o (us := .ref a :: us) (vs := .ref a :: vs) F hr hb tk I2 (.cons rfl r) q2⟩
theorem pe_mo0 {pl : Sem Bool} (c : Cls X.K C) (hm : Meth X.K C m f) (F : FnOk X.prog X.w X.K X.mg X.base (L2.CX X.prog X.w) k f fd ps sp) (hr : Room k X.A) (hb : Binds X.K fd ps []) (tk : Takes X W) (he : PE X o ta)
    (h4 : eval (.Call (.Attribute o m ap) [] [] pos) X.env = (do
      let ov ← eval o X.env
      standAt ap.atName
      let (f, first) ← holding [ov] (getMethod ov m pl)
      callWith pos f first (backTo pos (starEach [] X.env)) (backToKw pos (keywordEach [] X.env))) := by rfl) :
    PE X (.Call (.Attribute o m ap) [] [] pos) (tMt C m sp W ta tNil) := by
  refine ⟨fun pi s σ H Q I h => PySem.W.methodCall_KW (pl := pl) (thn (he.run pi s σ H _ I h) ?_) h4⟩
  rintro u s1 ⟨x, H1, I1, rx, a, dx, fs, rfl, ea, l, q⟩
  obtain rfl : u = Value.ref a := rx
  exact getmeth_ok I1 ea c hm l (PySem.W.callWith_K0 (first := [.ref a]) I1.kIn hm.kp (run_o (us := [.ref a]) (vs := [.ref a]) F hr hb tk I1 (.cons rfl .nil) q))
/-- C(e, ..) -/
def NewK (C : Addr) (sp : Sp) (E : XK) (Q : VK) (vs : List V) (H : Hp) : Prop := ∀ x dx H', H x = none → H' x = some (.ins C dx []) → Kp [] H H' → sp (.ref x :: vs) H' (fun v H2 => v = .non ∧ Q (.ref x) H2) E
def tNw (C : Addr) (sp : Sp) (W : WX) (t : TA) : TE := fun σ H Q => t σ H (NewK C sp (fun cls d H' => W cls d σ H') Q)
theorem run_nw (M : Mk X.K C f) (F : FnOk X.prog X.w X.K X.mg X.base (L2.CX X.prog X.w) k f fd ps sp) (hr : Room (k + 1) X.A) (hb : Binds X.K fd ps []) (tk : Takes X W) (I : Inv X pi σ H s) (r : Vals vs us)
    (h : NewK C sp (fun cls d H' => W cls d σ H') Q vs H) : wpAny (model X.prog X.w) X.A (call (.ref C) us) (EP X pi σ Q) X.xe s := by
  have n1 : H (s.heap.objs.size + 1) = none := I.hok.fresh (Nat.le_succ _)
  have n0 : H s.heap.objs.size = none := I.hok.fresh (Nat.le_refl _)
  have hq := h (s.heap.objs.size + 1) s.heap.objs.size _ n1 upd_same ((Kp.refl.new (u := .own (s.heap.objs.size + 1)) n0).new (by rw [upd_ne (Nat.succ_ne_self _)]; exact n1))
  have I2 := Inv.made (C := C) I
  have r2 : Vals (V.ref (s.heap.objs.size + 1) :: vs) (Value.ref (s.heap.objs.size + 1) :: us) := .cons rfl r
  refine wpAny_call (make_map (f := f) I.kIn M.makes M.init (beq_iff_eq.mp M.fn) (codeAny_mono (F.run _ X.stack _ _ ⟨Value.ref (s.heap.objs.size + 1) :: us, []⟩ (Value.ref (s.heap.objs.size + 1) :: us) _ _ _ (hr.make C us [])
    (I2.env0.make C us []) (bind0 hb I2 r2 (F.len _ _ _ _ hq)) r2 hq) fun rr s' z => ?_))
  match rr, z with
  | .error er, z => exact tk er s' (XE.of_call I2 (fun _ _ _ y => y) z)
  | .ok (.ret u), z =>
    obtain ⟨v, H', I3, rv, ev, q3⟩ := I2.after z
    subst ev
    exact ⟨rv, ⟨V.ref (s.heap.objs.size + 1), H', I3, rfl, q3⟩⟩
  | .ok .next, z => exact z.elim
  | .ok .brk, z => exact z.elim
  | .ok .cont, z => exact z.elim
theorem pe_nw (M : Mk X.K C f) (F : FnOk X.prog X.w X.K X.mg X.base (L2.CX X.prog X.w) k f fd ps sp) (hr : Room (k + 1) X.A) (gl : Gl X x) (hm : X.mg x = some (.ref C)) (hb : Binds X.K fd ps []) (tk : Takes X W)
    (ha : PA X (e :: es) t) (h1 : (x == ("__debug__" : Str)) = false := by decide) (h2 : starEach (e :: es) X.env = (false, eval e X.env) :: starEach es X.env := by rfl) (h3 : (backTo pos (starEach es X.env)).any (·.1) = false := by rfl) :
    PE X (.Call (.Name x p) (e :: es) [] pos) (tNw C sp W t) := by
  refine ⟨fun pi s σ H Q I h => wpAny_Call_Name_kw (ld_glob I gl hm ?_ h1)⟩
  refine PySem.W.callWith_K (h₀ := X.base) I.ok.mod.kin M.kp (thn (ha.run pos pi s σ H _ I h) ?_) h2 h3
  rintro us s1 ⟨vs, H1, I1, r, q⟩
  exact ⟨I1.kIn, run_nw M F hr hb tk I1 r q⟩
theorem pe_nw0 (M : Mk X.K C f) (F : FnOk X.prog X.w X.K X.mg X.base (L2.CX X.prog X.w) k f fd ps sp) (hr : Room (k + 1) X.A) (gl : Gl X x) (hm : X.mg x = some (.ref C)) (hb : Binds X.K fd ps []) (tk : Takes X W)
    (h1 : (x == ("__debug__" : Str)) = false := by decide) : PE X (.Call (.Name x p) [] [] pos) (tNw C sp W tNil) :=
  ⟨fun pi s σ H Q I h => wpAny_Call_Name_kw (ld_glob I gl hm (PySem.W.callWith_K0 I.kIn M.kp (run_nw (us := []) M F hr hb tk I .nil h)) h1)⟩
/-- e.f -/
def FldK (K : PySem.W.Frag) (f : Str) (Q : VK) (x : V) (H : Hp) : Prop := ∃ a C dx fs v, x = .ref a ∧ H a = some (.ins C dx fs) ∧ Cls K C ∧ NoAttr K C f ∧ fs.lookup f = some v ∧ Q v H
def tFd (K : PySem.W.Frag) (ta : TE) (f : Str) : TE := fun σ H Q => ta σ H (FldK K f Q)
theorem pe_fd {f : Str} (hK : X.K = K) (he : PE X e ta) (hb : attributeBase e f X.env (eval e X.env) = eval e X.env) : PE X (.Attribute e f pos) (tFd K ta f) := hK ▸ pe_fld he hb
/-- e.f = v -/
def SetK (K : PySem.W.Frag) (f : Str) (y : V) (R : Hp → Prop) (x : V) (H : Hp) : Prop := ∃ a C dx fs, x = .ref a ∧ H a = some (.ins C dx fs) ∧ Cls K C ∧ NoAttr K C f ∧ fs.length < 1000 ∧ R (upd H a (.ins C dx (putF f y fs)))
def tSd (K : PySem.W.Frag) (ta tv : TE) (f : Str) : TS := fun D σ H => tv σ H fun y H1 => ta σ H1 (SetK K f y (D.nx σ))
theorem ps_fd {f : Str} {value : Expr} {tv : TE} {pos' : Pos} (hK : X.K = K) (he : PE X o ta) (hv : PE X value tv) (hs : swapsWith value (some (.Attribute o f pos')) pos.line X.env = pure false) : PS X (.Assign [.Attribute o f pos'] value pos) (tSd K ta tv f) :=
  hK ▸ ps_fld he hv hs
end

/-! steps -/
section
variable {K : PySem.W.Frag} {σ : L2.St} {H : Hp} {Q : VK} {D : Ends} {x y v : V} {C p : Addr} {m f : Str} {ta tv : TE} {t : TA} {sp : Sp} {W : WX}
theorem s_co (h : t σ H fun vs H1 => sp vs H1 Q fun cls d H' => W cls d σ H') : tCo sp W t σ H Q := h
theorem s_mt (h : ta σ H (MtK C m fun x H1 => t σ H1 fun vs H2 => sp (x :: vs) H2 Q fun cls d H' => W cls d σ H')) : tMt C m sp W ta t σ H Q := h
theorem s_mtk {R : V → Hp → Prop} {dx : Addr} {fs : List (Str × V)} (h : H p = some (.ins C dx fs)) (l : fs.lookup m = none) (q : R (.ref p) H) : MtK C m R (.ref p) H := ⟨p, dx, fs, rfl, h, l, q⟩
theorem s_nw (h : t σ H (NewK C sp (fun cls d H' => W cls d σ H') Q)) : tNw C sp W t σ H Q := h
theorem s_fd (h : ta σ H (FldK K f Q)) : tFd K ta f σ H Q := h
theorem s_fdk {dx : Addr} {fs : List (Str × V)} (h : H p = some (.ins C dx fs)) (c : Cls K C) (n : NoAttr K C f) (l : fs.lookup f = some v) (q : Q v H) : FldK K f Q (.ref p) H := ⟨p, C, dx, fs, v, rfl, h, c, n, l, q⟩
theorem s_sd (h : tv σ H fun y H1 => ta σ H1 (SetK K f y (D.nx σ))) : tSd K ta tv f D σ H := h
/-- an object is changed, the heap behind it as a letter -/
theorem put_abs {o o0 : HO} {R : Hp → Prop} (e : H p = some o0) (z : ko o0 = ko o) (h : ∀ H', H' p = some o → Kp [p] H H' → R H') (y : Nat.beq (ko o) 1 = false := by rfl) : R (upd H p o) := h _ upd_same (Kp.refl.put (by simp) ⟨o0, e, z⟩ y)
theorem s_sdk {dx : Addr} {fs gs : List (Str × V)} {R : Hp → Prop} (h : H p = some (.ins C dx fs)) (c : Cls K C) (n : NoAttr K C f) (z : fs.length < 1000) (e : putF f y fs = gs) (q : ∀ H', H' p = some (.ins C dx gs) → Kp [p] H H' → R H') : SetK K f y R (.ref p) H :=
  ⟨p, C, dx, fs, rfl, h, c, n, z, by rw [e]; exact put_abs h rfl q⟩
end

/-! an error with one field -/
/-- __init__ of an error: its field, the class's -/
def spE (C : Addr) (f : Str) : Sp := sp2 fun x y H Q _ => ∃ a, x = .ref a ∧ H a = some (exo a C none) ∧ ∀ dx, H dx = none → dx ≠ a → Q .non (upd (upd H dx (exd dx [(f, y)])) a (exo a C (some dx)))
section
variable {X : Cx} {C S fI : Addr} {f x : Str} {e : Expr} {es : List Expr} {ta : TA} {te to : TE} {p p1 p2 pos pos' : Pos} {K : PySem.W.Frag}
/-- a class that is read -/
structure RdC (K : PySem.W.Frag) (C : Addr) : Prop where
  rd : PySem.W.readsIn K C (.type "type") = true
  ga : PySem.W.specialIn K (.ref C) "__getattribute__" = some (some (.builtin "type.__getattribute__"))
/-- S.__init__(self, ..), S a class over ValueError without an __init__ of its own -/
def SeK (K : PySem.W.Frag) (Q : VK) (vs : List V) (H : Hp) : Prop := ∃ (a C : Addr) (ws : List V), vs = .ref a :: ws ∧ ws.length ≤ 1000 ∧ OexC K C ∧ H a = some (exo a C none) ∧ Q .non H
def tSe (K : PySem.W.Frag) (ta : TA) : TE := fun σ H Q => ta σ H (SeK K Q)
theorem pe_se {pl : Sem Bool} (hK : X.K = K) (gl : Gl X x) (hm : X.mg x = some (.ref S)) (r : RdC X.K S) (vV : PySem.W.findCls X.K (.ref S) (.type "type") "__init__" = some (.val (.builtin "ValueError.__init__"))) (ha : PA X (e :: es) ta)
    (h1 : (x == ("__debug__" : Str)) = false := by decide)
    (hc : eval (.Call (.Attribute (.Name x p1) "__init__" p2) (e :: es) [] pos) X.env = (do
      let ov ← eval (.Name x p1) X.env
      standAt p2.atName
      let (f, first) ← holding [ov] (getMethod ov "__init__" pl)
      callWith pos f first (backTo pos (starEach (e :: es) X.env)) (backToKw pos (keywordEach [] X.env))) := by rfl)
    (h2 : starEach (e :: es) X.env = (false, eval e X.env) :: starEach es X.env := by rfl) (h3 : (backTo pos (starEach es X.env)).any (·.1) = false := by rfl) :
    PE X (.Call (.Attribute (.Name x p1) "__init__" p2) (e :: es) [] pos) (tSe K ta) := by
  subst hK
  refine ⟨fun pi s σ H Q I h => PySem.W.methodCall_KW (ld_glob I gl hm ?_ h1) hc⟩
  refine PySem.W.method_cls I.kIn r.ga (PySem.W.cls_value I.kIn r.rd vV (by decide +kernel) ?_)
  refine PyProof.Rows.callWith_method1 (thn (ha.run pos pi _ σ H _ (I.tok _) h) ?_) h2 h3
  rintro us s1 ⟨vs, H1, I1, r1, a, D, ws, rfl, hl, T, ea, q⟩
  cases r1 with
  | @cons _ u0 _ ur ra rw' =>
    obtain rfl : u0 = Value.ref a := ra
    have z := Paired.length rw'
    exact oinit_ok T I1 ea (by rw [sizeLine_eq]; omega) fun s' J => ⟨.non, H1, J, rfl, q⟩
/-- self.f = e in such an __init__ -/
def OsK (K : PySem.W.Frag) (f : Str) (y : V) (R : Hp → Prop) (x : V) (H : Hp) : Prop := ∃ a C : Addr, x = .ref a ∧ OexC K C ∧ PySem.W.findIn K (.ref C) f = some none ∧ H a = some (exo a C none) ∧ ∀ dx, H dx = none → dx ≠ a → R (upd (upd H dx (exd dx [(f, y)])) a (exo a C (some dx)))
def tOs (K : PySem.W.Frag) (f : Str) (to te : TE) : TS := fun D σ H => te σ H fun y H1 => to σ H1 (OsK K f y (D.nx σ))
theorem ps_os {o : Expr} (hK : X.K = K) (ho : PE X o to) (he : PE X e te) (hs : swapsWith e (some (.Attribute o f p')) pos.line X.env = pure false := by rfl) : PS X (.Assign [.Attribute o f p'] e pos) (tOs K f to te) := by
  subst hK
  refine psImp (ps_ost (f := f) (peMo ho) (peMo he) hs) fun D σ H q => ⟨_, q, fun y H1 z => ⟨_, z, fun x H2 w => ?_⟩⟩
  obtain ⟨a, C, rfl, h1, h2, h3, h4⟩ := w
  exact ⟨a, C, rfl, h1, h2, Or.inl ⟨h3, h4⟩⟩
/-- raise C(e) -/
def RzK (C : Addr) (f : Str) (R : Value → Option Addr → Hp → Prop) (v : V) (H : Hp) : Prop := ∀ d H', H d = none → H' d = some (.xd [(f, v)]) → Kp [] H H' → R (.ref C) (some d) H'
def tRz (C : Addr) (f : Str) (W : WX) (te : TE) : TS := fun _ σ H => te σ H (RzK C f fun cls d H' => W cls d σ H')
theorem ps_rz {k : Nat} {fd : FuncData} {ps : List Str} {W : WX} (hc : X.calm = true) (T : OexC X.K C) (iC : PySem.W.findIn X.K (.ref C) "__init__" = some (some (.ref fI))) (tI : PySem.W.typeIn X.K (.ref fI) = some (.type "function"))
    (F : FnOk X.prog X.w X.K X.mg X.base (L2.CX X.prog X.w) k fI fd ps (spE C f)) (hr : Room (k + 1) X.A) (hb : Binds X.K fd ps []) (gl : Gl X x) (hm : X.mg x = some (.ref C)) (tk : Takes X W) (he : PE X e te)
    (h1 : (x == ("__debug__" : Str)) = false := by decide) (h2 : starEach [e] X.env = [(false, eval e X.env)] := by rfl) :
    PS X (.Raise (some (.Call (.Name x p) [e] [] pos)) none pos') (tRz C f W te) := by
  refine psImp (ps_raise hc tk (pmk_oex T iC tI F hr hb .nil passF gl hm (pa_cons (peMo he) pa_nil h2) h1 h2 rfl)) fun D σ H q => ?_
  refine ⟨_, q, fun v H1 z => ⟨by simp, fun a na => ⟨_, _, rfl, a, rfl, upd_same, fun dx nd ne => ⟨rfl, dx, [(f, v)], upd_same, ?_, ?_, ?_⟩⟩⟩⟩
  · rw [upd_ne ne, upd_same]
  · rw [upd_ne ne] at nd; exact nd
  · rw [upd_ne ne] at nd
    refine z dx _ nd upd_same ⟨fun b o eb _ => ?_, fun b i eb => ?_, fun b xs eb => ?_⟩
    · have nb : b ≠ dx := ne_of_none eb nd
      have nb2 : b ≠ a := ne_of_none eb na
      rw [upd_ne nb, del_ne nb2, upd_ne nb2, upd_ne nb, upd_ne nb2]
      exact eb
    · obtain ⟨o1, e1, r1⟩ := eb
      have nb : b ≠ dx := ne_of_none e1 nd
      have nb2 : b ≠ a := ne_of_none e1 na
      refine ⟨o1, ?_, r1⟩
      rw [upd_ne nb, del_ne nb2, upd_ne nb2, upd_ne nb, upd_ne nb2]
      exact e1
    · have nb : b ≠ dx := ne_of_none eb nd
      have nb2 : b ≠ a := ne_of_none eb na
      rw [upd_ne nb, del_ne nb2, upd_ne nb2, upd_ne nb, upd_ne nb2]
      exact eb
end
end U

namespace U
open PySem L2 PySem.Spec PyProof.Rows
/-! try with clauses of any number, with names or without -/
/-- a clause: its class, the slot of its name, its suite's reading -/
abbrev Clause := Value × Option Nat × (Addr → Value → Option Addr → TS)
def dropS (i : Option Nat) (σ : L2.St) : L2.St := match i with | none => σ | some i => σ.set i none
def putS (i : Option Nat) (a : Addr) (σ : L2.St) : L2.St := match i with | none => σ | some i => σ.set i (some (.ref a))
def endS (i : Option Nat) (D : Ends) : Ends := { nx := fun σ H => D.nx (dropS i σ) H, rt := D.rt, bk := fun σ H => D.bk (dropS i σ) H, ct := fun σ H => D.ct (dropS i σ) H }
def wCl (K : PySem.W.Frag) (Wout : WX) (D : Ends) : List Clause → WX
  | [] => Wout
  | (c, i, ts) :: r => fun cls d σ H => ∃ b, PySem.W.exmOne K cls c = some b ∧ (b = true → ∀ a, H a = none → ts a cls d (endS i D) (putS i a σ) H) ∧ (b = false → wCl K Wout D r cls d σ H)
inductive ClOk (X : Cx) : List ExceptHandler → List Clause → Prop
  | nil : ClOk X [] []
  | only {x : Str} {c : Value} {ts : Addr → Value → Option Addr → TS} {b0 : Stmt} {su : List Stmt} {np p' : Pos} {hds : List ExceptHandler} {l : List Clause} (hc : Names X x c)
      (hsu : ∀ (a : Addr) (oe : Obj) (cls : Value) (d : Option Addr) (pn : List (Addr × Obj)), Zc cls d oe → (∃ vs, oe.data = .fields vs) → PSs (X.suite a ((a, oe) :: pn)) (b0 :: su) (ts a cls d)) (r : ClOk X hds l) :
      ClOk X (.ExceptHandler (some (.Name x np)) none (b0 :: su) p' :: hds) ((c, none, ts) :: l)
  | as {x n : Str} {i : Nat} {c : Value} {ts : Addr → Value → Option Addr → TS} {b0 : Stmt} {su : List Stmt} {np p' : Pos} {hds : List ExceptHandler} {l : List Clause} (hc : Names X x c) (hi : X.N[i]? = some n) (hln : X.env.kindOf n = some .local)
      (hsu : ∀ (a : Addr) (oe : Obj) (cls : Value) (d : Option Addr) (pn : List (Addr × Obj)), Zc cls d oe → (∃ vs, oe.data = .fields vs) → PSs (X.suite a ((a, oe) :: pn)) (b0 :: su) (ts a cls d)) (r : ClOk X hds l) :
      ClOk X (.ExceptHandler (some (.Name x np)) (some n) (b0 :: su) p' :: hds) ((c, some i, ts) :: l)
section
variable {X : Cx} {body : List Stmt} {h0 : ExceptHandler} {hds : List ExceptHandler} {l : List Clause} {pos : Pos} {tb : WX → TS} {Wout : WX} {K : PySem.W.Frag}
def tTry (K : PySem.W.Frag) (Wout : WX) (l : List Clause) (tb : WX → TS) : TS := fun D σ H => tb (wCl K Wout D l) D σ H
theorem ps_try (hK : X.K = K) (hs : X.stack = X.env :: X.outer) (hf : X.env.frame = some X.env.locals) (hN : X.N.Nodup) (tk : Takes X Wout)
    (hb : ∀ (W : WX) (pn : List (Addr × Obj)) (xe : Value → Shared → Prop), Takes (X.tr pn xe) W → PassesOwn (model X.prog X.w) X.A X.env xe → PSs (X.tr pn xe) body (tb W))
    (hh : ClOk X (h0 :: hds) l) : PS X (.Try body (h0 :: hds) [] [] pos) (tTry K Wout l tb) := by
  subst hK
  refine ⟨fun pi s σ H D I h => wpAny_Try_except ?_⟩
  have ok := I.ok
  have hfr : X.A.frames = some (X.env :: X.outer) := by rw [ok.frames, hs]
  let xe : Value → Shared → Prop := fun e s1 => wpAny (model X.prog X.w) X.A (noteFrame e X.env) (fun _ s2 => wpAny (model X.prog X.w) X.A (setFlight e none)
    (fun _ s3 => wpAny (model X.prog X.w) X.A (handleBy e X.env (h0 :: hds)) (SP X pi D) X.xe s3) X.xe s2) X.xe s1
  have tkx : Takes (X.tr (X.pn ++ pi) xe) (wCl X.K Wout D l) := by
    rintro u s1 ⟨a, B, sI, pins1, σ1, H1, cls, d, rfl, J1, nb, up, sky, na, os, ag, w⟩
    have J : Inv X pi σ1 H1 sI := J1.ofTry ok
    have sky1 : Sky B (X.env :: X.outer) a (Zc cls d) X.env.locals s1.heap := hs ▸ sky
    show wpAny (model X.prog X.w) X.A (noteFrame (.ref a) X.env) _ _ _
    refine Sky.land Zc.steady hfr hf sky1 fun h3 f3 u3 => ?_
    have J3 : Inv X pi σ1 H1 { s1 with heap := h3 } := J.landed nb f3.1 (up.trans u3) os ag
    obtain ⟨oe3, vs3, he3, hz3, hd3⟩ := f3.there
    have nfr : a ∉ frs (X.env :: X.outer) := fun hm => by
      obtain ⟨_, o', e', hnf⟩ := f3.2.2.1.mem hm
      rw [he3] at e'; cases e'
      exact hnf _ hd3
    have nL : a ≠ X.env.locals := fun z => nfr (List.mem_filterMap.mpr ⟨X.env, List.mem_cons_self, by rw [hf, z]⟩)
    have nF : a ∉ X.fs := fun hm => by
      obtain ⟨e, he, q⟩ := List.mem_filterMap.mp hm
      exact nfr (List.mem_filterMap.mpr ⟨e, List.mem_cons_of_mem _ he, q⟩)
    have S3 := J3.suite he3 hd3 na nL nF
    have LT : PySem.W.Looks (model X.prog X.w) h3 (typeOf (.ref a)) cls := fun A Q E s k q => wpAny_typeOf_ref (k _ _ he3) (by rw [hz3.1]; exact q)
    have test : ∀ {x : Str} {c : Value} {np : Pos} {Q : Value → Shared → Prop} {E : Value → Shared → Prop}, Names X x c → Q c { s1 with heap := h3 } →
        wpAny (model X.prog X.w) (X.A.mark (some (.ref a))) (eval (.Name x np) X.env) Q E { s1 with heap := h3 } := fun {x c np Q E} hc q => by
      obtain ⟨hg, hdb, hm | ⟨hm, hv, hnn⟩⟩ := hc
      · exact ld_glob (X := X.suite a ((a, oe3) :: (X.pn ++ pi))) S3 hg hm q hdb
      · exact ld_blt (X := X.suite a ((a, oe3) :: (X.pn ++ pi))) S3 hg hm hv q hnn hdb
    have go : ∀ {hds' : List ExceptHandler} {l' : List Clause}, ClOk X hds' l' → wCl X.K Wout D l' cls d σ1 H1 →
        wpAny (model X.prog X.w) X.A (handleBy (.ref a) X.env hds') (SP X pi D) X.xe { s1 with heap := h3 } := by
      intro hds' l' hk
      induction hk with
      | nil =>
        intro w
        refine wpAny_handleBy_nil ?_
        obtain ⟨_, _, _, oe, vs, T, oT, ts', he, hz, hd, h1, hr⟩ := id f3
        unfold PySem.passOn
        refine wpAny_bind (wpAny_field he hd h1 ?_)
        rw [if_neg (show ¬ ((Value.ref T == Value.none) = true) from by simp)]
        have fin : wpAny (model X.prog X.w) X.A (setFlight (.ref a) X.env.frame) (fun _ s4 => wpAny (model X.prog X.w) X.A (throw (.ref a) : Sem Flow) (SP X pi D) X.xe s4) X.xe { s1 with heap := h3 } := by
          rw [hf]
          refine HandSPX.setFlight_upZ f3 fun h4 hh4 up4 => wpAny_throw (tk _ _ ?_)
          exact ⟨a, B, sI, pi, σ1, H1, cls, d, rfl, J, nb, (up.trans u3).trans up4, Or.inr (Or.inr (by rw [hs]; exact hh4)), na, os, ag, w⟩
        first
          | exact wpAny_bind (wpAny_pure (wpAny_bind fin))
          | exact wpAny_bind fin
      | @only x c ts b0 su np p' hds2 l2 hc hsu r ih =>
        rintro ⟨b, hb1, yes, no⟩
        refine wpAny_handleBy_cons (codeAny_handlers_test (test hc ((PySem.W.exm_one (M := model X.prog X.w) J3.kIn LT hb1).here ?_))) (by intro q; cases q)
        cases b with
        | false => exact ih (no rfl)
        | true =>
          refine codeAny_handlers_suite (HandSPX.lands_againZ f3 fun h4 fl4 up4 => ?_)
          have J4 : Inv X pi σ1 H1 { s1 with heap := h4 } := J.landed nb fl4.1 ((up.trans u3).trans up4) os ag
          obtain ⟨oe4, vs4, he4, hz4, hd4⟩ := fl4.there
          refine wpAny_mono ((hsu a oe4 cls d (X.pn ++ pi) hz4 ⟨_, hd4⟩).run [] _ _ H1 _ (J4.suite he4 hd4 na nL nF) (yes rfl a na)) (fun f s6 hsp => ?_) (fun _ _ z => False.elim z)
          match f, hsp with
          | .next, ⟨_, _, S6, q6⟩ => exact ⟨_, _, S6.unsuite ok, q6⟩
          | .brk, ⟨_, _, S6, q6⟩ => exact ⟨_, _, S6.unsuite ok, q6⟩
          | .cont, ⟨_, _, S6, q6⟩ => exact ⟨_, _, S6.unsuite ok, q6⟩
          | .ret u, ⟨_, _, _, S6, r6, q6⟩ => exact ⟨_, _, _, S6.unsuite ok, r6, q6⟩
      | @as x n i c ts b0 su np p' hds2 l2 hc hi hln hsu r ih =>
        rintro ⟨b, hb1, yes, no⟩
        refine wpAny_handleBy_cons (codeAny_handlers_test (test hc ((PySem.W.exm_one (M := model X.prog X.w) J3.kIn LT hb1).here ?_))) (by intro q; cases q)
        cases b with
        | false => exact ih (no rfl)
        | true =>
          refine codeAny_handlers_suite_as (HandSPX.lands_againZ f3 fun h4 fl4 up4 => ?_)
          have J4 : Inv X pi σ1 H1 { s1 with heap := h4 } := J.landed nb fl4.1 ((up.trans u3).trans up4) os ag
          obtain ⟨oe4, vs4, he4, hz4, hd4⟩ := fl4.there
          refine store_ok (X := X.suite a ((a, oe4) :: (X.pn ++ pi))) (v := .ref a) (J4.suite he4 hd4 na nL nF) hN hi (Or.inl hln) rfl (fun s5 S5 => ?_) (Or.inr hln)
          refine wpAny_mono ((hsu a oe4 cls d (X.pn ++ pi) hz4 ⟨_, hd4⟩).run [] s5 _ H1 _ S5 (yes rfl a na)) (fun f s6 hsp => ?_) (fun _ _ z => False.elim z)
          have gone : ∀ {σ6 : L2.St} {H6 : Hp} {Q : Shared → Prop}, Inv (X.suite a ((a, oe4) :: (X.pn ++ pi))) [] σ6 H6 s6 → (∀ s7, Inv X pi (σ6.set i none) H6 s7 → Q s7) →
              wpAny (model X.prog X.w) X.A (do bindName X.env n .none; unbindBehindTheSuite X.env n p') (fun _ s7 => Q s7) X.xe s6 := fun S6 hq => gone_ok (S6.unsuite ok) hN hi hln hq
          match f, hsp with
          | .next, ⟨_, _, S6, q6⟩ => exact gone S6 fun s7 J7 => ⟨_, _, J7, q6⟩
          | .brk, ⟨_, _, S6, q6⟩ => exact gone S6 fun s7 J7 => ⟨_, _, J7, q6⟩
          | .cont, ⟨_, _, S6, q6⟩ => exact gone S6 fun s7 J7 => ⟨_, _, J7, q6⟩
          | .ret u, ⟨_, _, _, S6, r6, q6⟩ => exact gone S6 fun s7 J7 => ⟨_, _, _, J7, r6, q6⟩
    exact go hh w
  refine wpAny_mono ((hb _ (X.pn ++ pi) xe tkx PassesOwn.looking).run [] s σ H D (I.toTry _) h) (fun f s1 hsp => ?_) (fun e s1 he => he)
  match f, hsp with
  | .next, ⟨σ1, H1, J1, q⟩ => exact wpAny_execs_nil ⟨σ1, H1, J1.ofTry ok, q⟩
  | .brk, ⟨σ1, H1, J1, q⟩ => exact ⟨σ1, H1, J1.ofTry ok, q⟩
  | .cont, ⟨σ1, H1, J1, q⟩ => exact ⟨σ1, H1, J1.ofTry ok, q⟩
  | .ret u, ⟨v, σ1, H1, J1, r, q⟩ => exact ⟨v, σ1, H1, J1.ofTry ok, r, q⟩
end
end U

namespace U
open PySem L2 PySem.Spec PyProof.Rows
/-- what the written part says of an error's class at C, its __init__ at fI, its field f -/
structure ErrC (K : PySem.W.Frag) (C fI : Addr) (f : Str) : Prop where
  oex : OexC K C
  xf : XfC K C
  no : PySem.W.findIn K (.ref C) f = some none
  iC : PySem.W.findIn K (.ref C) "__init__" = some (some (.ref fI))
  tI : PySem.W.typeIn K (.ref fI) = some (.type "function")
  ha : PySem.W.findIn K (.ref C) "__class__" = some (some (.builtin "object.__class__"))
  hm : PySem.W.mroIn K C (.type "object") = some true
section
variable {X : Cx} {a C fI : Addr} {oe : Obj} {cls : Value} {d : Option Addr} {pn : List (Addr × Obj)} {e : Expr} {te : TE} {pos : Pos} {f : Str} {K : PySem.W.Frag}
/-- e.f += v -/
def FaK (K : PySem.W.Frag) (f : Str) (R : Addr → Addr → V → Hp → Prop) (x : V) (H : Hp) : Prop := ∃ a C dx fs v, x = .ref a ∧ H a = some (.ins C dx fs) ∧ Cls K C ∧ NoAttr K C f ∧ fs.lookup f = some v ∧ R a C v H
def FbK (f : Str) (a C : Addr) (R : Hp → Prop) (z : V) (H : Hp) : Prop := ∃ dx fs, H a = some (.ins C dx fs) ∧ fs.length < 1000 ∧ R (upd H a (.ins C dx (putF f z fs)))
def tFa (K : PySem.W.Frag) (ta tv : TE) (rd : V → V → Hp → VK → Prop) (f : Str) : TS := fun D σ H => ta σ H (FaK K f fun a C v H1 => tv σ H1 fun y H2 => rd v y H2 (FbK f a C (D.nx σ)))
theorem ps_fa {o value : Expr} {op : Operator} {ta tv : TE} {rd : V → V → Hp → VK → Prop} {tp : Pos} (hK : X.K = K) (ha : PE X o ta) (hv : PE X value tv) (hop : InOp X op rd) : PS X (.AugAssign (.Attribute o f tp) op value pos) (tFa K ta tv rd f) :=
  hK ▸ ps_fldaug ha hv hop
/-- err.f in its suite -/
def XfK (a : Addr) (cls : Value) (d : Option Addr) (C : Addr) (f : Str) (Q : VK) (x : V) (H : Hp) : Prop := x = .ref a ∧ cls = .ref C ∧ ∃ (dd : Addr) (fs : List (Str × V)) (v : V), d = some dd ∧ H dd = some (.xd fs) ∧ fs.lookup f = some v ∧ Q v H
def tXe (a : Addr) (cls : Value) (d : Option Addr) (C : Addr) (f : Str) (te : TE) : TE := fun σ H Q => te σ H (XfK a cls d C f Q)
theorem pe_xe (T : ErrC X.K C fI f) (hz : Zc cls d oe) (hf : ∃ vs, oe.data = .fields vs) (he : PE (X.suite a ((a, oe) :: pn)) e te) (hb : attributeBase e f X.env (eval e X.env) = eval e X.env := by rfl) :
    PE (X.suite a ((a, oe) :: pn)) (.Attribute e f pos) (tXe a cls d C f te) := pe_xf T.xf T.no hz hf he hb
/-- isinstance(err, T) in its suite -/
def rIsX (K : PySem.W.Frag) (a : Addr) (cls : Value) (d : Option Addr) (C : Addr) : List V → Hp → VK → Prop := fun xs H Q => ∃ (c : V) (cv : Value) (b : Bool) (dd : Addr) (fs : List (Str × V)), xs = [.ref a, c] ∧ ClsV c cv ∧ cls = .ref C ∧ d = some dd ∧ H dd = some (.xd fs) ∧
  PySem.W.kitOne K (.ref C) cv = some b ∧ Q (.bl b) H
theorem c_isx (hK : X.K = K) (T : ErrC X.K C fI f) (hn : PySem.W.specialIn X.K (.builtin "object.__class__") "__get__" = some (some (.builtin "getset_descriptor.__get__"))) (ht : PySem.W.takesIn X.K (.builtin "object.__class__") = some true)
    (hz : Zc cls d oe) (hf : ∃ vs, oe.data = .fields vs) : CallR (X.suite a ((a, oe) :: pn)) (.builtin "isinstance") (rIsX K a cls d C) := by
  subst hK
  rintro pi s σ H xs us Q I vv ⟨c, cv, b, dd, fs, rfl, hc, rfl, rfl, hd, e, q⟩
  cases vv with
  | cons rx rr =>
    cases rr with
    | cons rt rr =>
      cases rr
      cases rx
      obtain rfl := hc.eq rt
      obtain ⟨hget, _⟩ := I.pin (a, oe) (List.mem_append.mpr (Or.inl List.mem_cons_self))
      obtain ⟨vs, hv⟩ := hf
      have hx : ObjOk X.prog X.w H s.heap dd (.xd fs) := I.hok dd _ hd
      obtain ⟨mA, hns, _⟩ := hx
      obtain ⟨od, ho, _⟩ := lookIn_ns hns
      have J : PySem.W.InstAt s.heap a oe C (some od) := ⟨hget, hz.1, by unfold PySem.W.notCls; rw [hv] <;> rfl, by rw [hz.2]; exact ho⟩
      have hcl : (PySem.W.clsIn X.K C).isSome = true := by
        have z := T.xf.hdC
        unfold PySem.W.hasDictIn at z
        cases y : PySem.W.clsIn X.K C with
        | none => rw [y] at z; simp at z
        | some _ => rfl
      exact PySem.W.kia_one (PySem.W.kitx_exc hcl T.xf.ga T.xf.gg T.xf.exC T.ha hn ht T.hm) I.kIn J e (fun z => nomatch z) fun tk => ⟨.bl b, H, I.kept (t' := tk) fun _ _ z => z, rfl, q⟩
end
section
variable {K : PySem.W.Frag} {σ : L2.St} {H : Hp} {Q : VK} {D : Ends} {a C dd : Addr} {f : Str} {v : V} {te to : TE} {t : TA}
theorem s_fa {tv : TE} {rd : V → V → Hp → VK → Prop} (h : te σ H (FaK K f fun a C v H1 => tv σ H1 fun y H2 => rd v y H2 (FbK f a C (D.nx σ)))) : tFa K te tv rd f D σ H := h
theorem s_fak {R : Addr → Addr → V → Hp → Prop} {dx : Addr} {fs : List (Str × V)} (h : H a = some (.ins C dx fs)) (c : Cls K C) (n : NoAttr K C f) (l : fs.lookup f = some v) (q : R a C v H) : FaK K f R (.ref a) H := ⟨a, C, dx, fs, v, rfl, h, c, n, l, q⟩
theorem s_fbk {R : Hp → Prop} {dx : Addr} {fs gs : List (Str × V)} (h : H a = some (.ins C dx fs)) (z : fs.length < 1000) (e : putF f v fs = gs) (q : ∀ H', H' a = some (.ins C dx gs) → Kp [a] H H' → R H') : FbK f a C R v H := ⟨dx, fs, h, z, by rw [e]; exact put_abs h rfl q⟩
theorem s_radd {n m : Int} (q : Q (.int (n + m)) H) : rAdd (.int n) (.int m) H Q := ⟨n, m, rfl, rfl, q⟩
theorem s_rsub {n m : Int} (q : Q (.int (n - m)) H) : rSub (.int n) (.int m) H Q := ⟨n, m, rfl, rfl, q⟩
theorem s_xe {cls : Value} {d : Option Addr} (h : te σ H (XfK a cls d C f Q)) : tXe a cls d C f te σ H Q := h
theorem s_xek {fs : List (Str × V)} (h : H dd = some (.xd fs)) (l : fs.lookup f = some v) (q : Q v H) : XfK a (.ref C) (some dd) C f Q (.ref a) H := ⟨rfl, rfl, dd, fs, v, rfl, h, l, q⟩
theorem s_isx {C2 : Addr} {b : Bool} {fs : List (Str × V)} (h : H dd = some (.xd fs)) (e : PySem.W.kitOne K (.ref C) (.ref C2) = some b) (q : Q (.bl b) H) : rIsX K a (.ref C) (some dd) C [.ref a, .ref C2] H Q := ⟨.ref C2, .ref C2, b, dd, fs, rfl, .own C2, rfl, rfl, h, e, q⟩
theorem s_se (h : t σ H (SeK K Q)) : tSe K t σ H Q := h
theorem s_sek {z : V} (T : OexC K C) (h : H a = some (exo a C none)) (q : Q .non H) : SeK K Q [.ref a, z] H := ⟨a, C, [z], rfl, by simp, T, h, q⟩
theorem s_os (h : te σ H fun y H1 => to σ H1 (OsK K f y (D.nx σ))) : tOs K f to te D σ H := h
theorem s_rz {W : WX} (h : te σ H (RzK C f fun cls d H' => W cls d σ H')) : tRz C f W te D σ H := h
theorem s_try {Wout : WX} {l : List Clause} {tb : WX → TS} (h : tb (wCl K Wout D l) D σ H) : tTry K Wout l tb D σ H := h
end
end U

namespace U
open PySem L2 PySem.Spec PyProof.Rows
/-! dicts -/
section
variable {X : Cx} {k : Nat} {K : PySem.W.Frag} {o i e value : Expr} {pos p' ap : Pos} {td ty tv : TE} {trs : List (TE × TE)} {keys : List (Option Expr)} {values : List Expr}
def DdK (Q : VK) (p : Addr) (ps : List (V × V)) (H : Hp) : Prop := H p = some (.dK []) ∧ ∃ kvs : List (Key × V), ps = kvs.map (fun kv => (kV kv.1, kv.2)) ∧ kvs.length ≤ 15 ∧ Q (.ref p) (upd H p (.dK (mergeK [] kvs)))
def tDd (trs : List (TE × TE)) : TE := fun σ H Q => ∀ p, H p = none → tPairs trs σ (upd H p (.dK [])) (DdK Q p)
theorem pe_dd (h : PPs X pos keys values trs) (h1 : keys.all (·.isSome) = true) (h2 : keys.length = values.length) (h3 : keys ≠ []) (h4 : keys.length ≤ 15) : PE X (.Dict keys values pos) (tDd trs) := pe_disp h h1 h2 h3 h4
def DgK (x : V) (Q : VK) (y : V) (H : Hp) : Prop := ∃ a v, x = .ref a ∧ DGet H a y (some v) ∧ Q v H
def tDg (td ty : TE) : TE := fun σ H Q => td σ H fun x H1 => ty σ H1 (DgK x Q)
theorem pe_dg (hr : Room k X.A) (ho : PE X o td) (hi : PE X i ty) (hs : NoSl i) : PE X (.Subscript o i pos) (tDg td ty) := pe_dget (hu_of hr) ho hi hs
def DnK (ng : Bool) (y : V) (Q : VK) (x : V) (H : Hp) : Prop := ∃ a r, x = .ref a ∧ DGet H a y r ∧ Q (.bl (if ng then !r.isSome else r.isSome)) H
def tDn (ng : Bool) (ty td : TE) : TE := fun σ H Q => ty σ H fun y H1 => td σ H1 (DnK ng y Q)
theorem pc_in (hr : Room k X.A) (hi : PE X i ty) (ho : PE X o td) : PC X .In i o (tDn false ty td) := pc_din (hu_of hr) hi ho
theorem pc_nin (hr : Room k X.A) (hi : PE X i ty) (ho : PE X o td) : PC X .NotIn i o (tDn true ty td) := pc_dnotin (hu_of hr) hi ho
/-- o[i] = v, of a list or a dict -/
def uSet : V → V → V → Hp → (Hp → Prop) → Prop := fun o i v H Q => rSetL o i v H Q ∨ rSetD o i v H Q
theorem set_u (hr : Room k X.A) : PSet X uSet := by
  intro pi s σ H o i v ov iv u Q I ro ri rv h
  rcases h with h | h
  · exact set_list pi s σ H o i v ov iv u Q I ro ri rv h
  · exact set_dict (hu_of hr) pi s σ H o i v ov iv u Q I ro ri rv h
def PopK (a : Addr) (Q : VK) (y : V) (H : Hp) : Prop := ∃ kvs k v, H a = some (.dK kvs) ∧ y = kV k ∧ valV kvs k = some v ∧ Q v (upd H a (.dK (dropK kvs k)))
def PopJ (ty : TE) (σ : L2.St) (Q : VK) (x : V) (H : Hp) : Prop := ∃ a, x = .ref a ∧ IsD H a ∧ ty σ H (PopK a Q)
def tPop (td ty : TE) : TE := fun σ H Q => td σ H (PopJ ty σ Q)
theorem pe_pop (ho : PE X o td) (he : PE X e ty) (m : M1 X o "pop" ap e pos) : PE X (.Call (.Attribute o "pop" ap) [e] [] pos) (tPop td ty) := pe_dpop1 ho he m
def uDict : List V → Hp → VK → Prop := fun xs H Q => ∃ (a : Addr) (kvs : List (Key × V)), xs = [.ref a] ∧ Rd H a (.dK kvs) ∧ ∀ p, H p = none → Q (.ref p) (upd H p (.dK kvs))
theorem c_dict : CallR X (.type "dict") uDict := call_dictD
def uList (K : PySem.W.Frag) : List V → Hp → VK → Prop := fun xs H Q => ∃ p ys, xs = [.ref p] ∧ (SqL K H p ys ∨ SqT K H p ys) ∧ ∀ l, H l = none → Q (.ref l) (upd H l (.lst ys))
end
section
variable {K : PySem.W.Frag} {σ : L2.St} {H : Hp} {Q : VK} {D : Ends} {x y v : V} {p : Addr} {n : Int} {z : Str} {kvs ks : List (Key × V)} {td ty : TE} {trs : List (TE × TE)}
theorem s_dd (h : ∀ p H', H p = none → H' p = some (.dK []) → Kp [] H H' → tPairs trs σ H' (DdK Q p)) : tDd trs σ H Q := fun p f => h p _ f upd_same (Kp.refl.new f)
theorem s_ddk {ps : List (V × V)} (h : H p = some (.dK [])) (e : ps = kvs.map (fun kv => (kV kv.1, kv.2))) (hl : kvs.length ≤ 15) (m : mergeK [] kvs = ks) (q : ∀ H', H' p = some (.dK ks) → Kp [p] H H' → Q (.ref p) H') : DdK Q p ps H :=
  ⟨h, kvs, e, hl, by rw [m]; exact put_abs h rfl (R := fun H' => Q (.ref p) H') q⟩
theorem s_dg (h : td σ H fun x H1 => ty σ H1 (DgK x Q)) : tDg td ty σ H Q := h
theorem s_dgi (h : H p = some (.dK kvs)) (e : valV kvs (Sum.inl n : Key) = some v) (q : Q v H) : DgK (.ref p) Q (.int n) H := ⟨p, v, rfl, by rw [← e]; exact DGet.k (k := Sum.inl n) h, q⟩
theorem s_dgs (h : H p = some (.dK kvs)) (e : valV kvs (Sum.inr z : Key) = some v) (q : Q v H) : DgK (.ref p) Q (.str z) H := ⟨p, v, rfl, by rw [← e]; exact DGet.k (k := Sum.inr z) h, q⟩
theorem s_dn {ng : Bool} (h : ty σ H fun y H1 => td σ H1 (DnK ng y Q)) : tDn ng ty td σ H Q := h
theorem s_dni {ng : Bool} (h : H p = some (.dK kvs)) (q : Q (.bl (if ng then !(valV kvs (Sum.inl n : Key)).isSome else (valV kvs (Sum.inl n : Key)).isSome)) H) : DnK ng (.int n) Q (.ref p) H := ⟨p, _, rfl, DGet.k (k := Sum.inl n) h, q⟩
theorem s_dns {ng : Bool} (h : H p = some (.dK kvs)) (q : Q (.bl (if ng then !(valV kvs (Sum.inr z : Key)).isSome else (valV kvs (Sum.inr z : Key)).isSome)) H) : DnK ng (.str z) Q (.ref p) H := ⟨p, _, rfl, DGet.k (k := Sum.inr z) h, q⟩
theorem s_ul {xs ys : List V} {j : Nat} {R : Hp → Prop} (h : H p = some (.lst xs)) (hj : ixN xs.length n = some j) (e : xs.set j v = ys) (q : ∀ H', H' p = some (.lst ys) → Kp [p] H H' → R H') : uSet (.ref p) (.int n) v H R := Or.inl ⟨p, xs, n, j, rfl, rfl, h, hj, by rw [e]; exact put_abs h rfl q⟩
theorem s_uds {R : Hp → Prop} (h : H p = some (.dK kvs)) (hl : kvs.length < sizeLine) (e : putK kvs (Sum.inr z : Key) v = ks) (q : ∀ H', H' p = some (.dK ks) → Kp [p] H H' → R H') : uSet (.ref p) (.str z) v H R :=
  Or.inr ⟨p, _, rfl, DPut.k (k := Sum.inr z) h hl, by rw [e]; exact put_abs h rfl q⟩
theorem s_udi {R : Hp → Prop} (h : H p = some (.dK kvs)) (hl : kvs.length < sizeLine) (e : putK kvs (Sum.inl n : Key) v = ks) (q : ∀ H', H' p = some (.dK ks) → Kp [p] H H' → R H') : uSet (.ref p) (.int n) v H R :=
  Or.inr ⟨p, _, rfl, DPut.k (k := Sum.inl n) h hl, by rw [e]; exact put_abs h rfl q⟩
theorem s_pop (h : td σ H (PopJ ty σ Q)) : tPop td ty σ H Q := h
theorem s_popj (h : H p = some (.dK kvs)) (q : ty σ H (PopK p Q)) : PopJ ty σ Q (.ref p) H := ⟨p, rfl, Or.inl ⟨kvs, Or.inl h⟩, q⟩
theorem s_popk (h : H p = some (.dK kvs)) (e : valV kvs (Sum.inl n : Key) = some v) (m : dropK kvs (Sum.inl n : Key) = ks) (q : ∀ H', H' p = some (.dK ks) → Kp [p] H H' → Q v H') : PopK p Q (.int n) H :=
  ⟨kvs, Sum.inl n, v, h, rfl, e, by rw [m]; exact put_abs h rfl (R := fun H' => Q v H') q⟩
theorem s_dict (h : H p = some (.dK kvs)) (q : ∀ l H', H l = none → H' l = some (.dK kvs) → Kp [] H H' → Q (.ref l) H') : uDict [.ref p] H Q := ⟨p, kvs, rfl, Or.inl h, fun l f => q l _ f upd_same (Kp.refl.new f)⟩
theorem s_list {ys : List V} (h : SqL K H p ys) (q : ∀ l H', H l = none → H' l = some (.lst ys) → Kp [] H H' → Q (.ref l) H') : uList K [.ref p] H Q := ⟨p, ys, rfl, Or.inl h, fun l f => q l _ f upd_same (Kp.refl.new f)⟩
end
theorem c_list {X : Cx} {K : PySem.W.Frag} (hK : X.K = K) : CallR X (.type "list") (uList K) := hK ▸ call_list_of
end U

namespace U
open PySem L2 PySem.Spec PyProof.Rows
/-- may be shown -/
structure Sh (K : PySem.W.Frag) (H : Hp) (v : V) (d : PyData) : Prop where
  dn : Dn K H v d
  good : U.good d
  depth : d.depth ≤ 100
  sz : U.sz d ≤ 16000000
section
variable {K : PySem.W.Frag} {σ : L2.St} {H : Hp} {Q : VK} {D : Ends} {x y v : V} {p : Addr} {n : Int} {z : Str} {to te : TE} {t : TA} {r : V → List V → Hp → VK → Prop} {T : String} {xs : List V}
theorem s_rep {d : PyData} (h : Sh K H v d) (q : Q (.str d.shown) H) : rRepr K [v] H Q := ⟨v, d, rfl, h.dn, h.good, h.depth, h.sz, q⟩
theorem s_bm (h : to σ H fun x H1 => tyV K T x H1 ∧ t σ H1 fun xs H2 => r x xs H2 Q) : tBM K T r to t σ H Q := h
theorem s_bm0 (h : to σ H fun x H1 => tyV K T x H1 ∧ r x [] H1 Q) : tBM0 K T r to σ H Q := h
theorem s_tyl {R : Prop} (h : H p = some (.lst xs)) (q : R) : tyV K "list" (.ref p) H ∧ R := ⟨Or.inl ⟨rfl, xs, SqL.of h⟩, q⟩
theorem s_tys {R : Prop} (q : R) : tyV K "str" (.str z) H ∧ R := ⟨rfl, q⟩
theorem s_tyd {R : Prop} {kvs : List (Key × V)} (h : H p = some (.dK kvs)) (q : R) : tyV K "dict" (.ref p) H ∧ R := ⟨Or.inr (Or.inr (Or.inl ⟨rfl, Or.inl ⟨kvs, h⟩⟩)), q⟩
theorem s_app (h : H p = some (.lst xs)) (hz : xs.length < sizeLine) (q : ∀ H', H' p = some (.lst (xs ++ [y])) → Kp [p] H H' → Q .non H') : rAppend (.ref p) [y] H Q :=
  ⟨p, xs, y, rfl, rfl, h, hz, put_abs h rfl (R := fun H' => Q .non H') q⟩
theorem s_pnil {Q : List (V × V) → Hp → Prop} (q : Q [] H) : tPairs [] σ H Q := q
theorem s_pcons {Q : List (V × V) → Hp → Prop} {tk tv : TE} {r : List (TE × TE)} (h : tk σ H fun x H1 => tv σ H1 fun y H2 => tPairs r σ H2 fun ps H3 => Q ((x, y) :: ps) H3) : tPairs ((tk, tv) :: r) σ H Q := h
/-! a meeting of ways -/
theorem meetT {tt : TT} {Q : Bool → Hp → Prop} (R : Bool → Hp → Prop) (key : ∀ b H1, R b H1 → Q b H1) (w : (∀ b H1, R b H1 → Q b H1) → tt σ H Q) : tt σ H Q := w key
theorem meetE (R : V → Hp → Prop) (key : ∀ b H1, R b H1 → Q b H1) (w : (∀ b H1, R b H1 → Q b H1) → te σ H Q) : te σ H Q := w key
theorem meetS {t u : TS} (R : L2.St → Hp → Prop) (key : ∀ σ1 H1, R σ1 H1 → u D σ1 H1) (w : (∀ σ1 H1, R σ1 H1 → u D σ1 H1) → t { D with nx := u D } σ H) : tSeq t u D σ H := w key
theorem zlt {n : Nat} (h : n ≤ 1000000) : n < sizeLine := Nat.lt_of_le_of_lt h (by decide)
end
section
variable {K : PySem.W.Frag} {H H' : Hp}
mutual
theorem Dn.kp (k : Kp [] H H') : ∀ {v : V} {d : PyData}, Dn K H v d → Dn K H' v d
  | _, _, .non => .non
  | _, _, .bl b => .bl b
  | _, _, .int i => .int i
  | _, _, .str x => .str x
  | _, _, .lst r a => .lst (k.rd r) (DnA.kp k a)
  | _, _, .tup r a => .tup (k.sqt r) (DnA.kp k a)
  | _, _, .dic r a => .dic (k.rd r) (DnA.kp k a)
theorem DnA.kp (k : Kp [] H H') : ∀ {vs : List V} {ds : List PyData}, DnA K H vs ds → DnA K H' vs ds
  | _, _, .nil => .nil
  | _, _, .cons a b => .cons (Dn.kp k a) (DnA.kp k b)
end
theorem Sh.kp (k : Kp [] H H') {v : V} {d : PyData} (h : Sh K H v d) : Sh K H' v d := ⟨h.dn.kp k, h.good, h.depth, h.sz⟩
end
end U

namespace U
open PySem L2 PySem.Spec PyProof.Rows
section
variable {K : PySem.W.Frag} {σ : L2.St} {H H' : Hp} {Q : VK} {D : Ends} {x y v : V} {p : Addr} {n : Int} {xs vs : List V} {ps : List Addr}
theorem s_gtu {R : L2.St → Hp → Prop} {t : TGs} {k : Nat} (h : H p = some (.tup xs)) (hl : xs.length = k) (q : t xs σ H R) : gTup K k t (.ref p) σ H R := ⟨p, xs, rfl, SqT.of h, hl, q⟩
theorem s_gn {R : L2.St → Hp → Prop} (q : R σ H) : gNil [] σ H R := ⟨rfl, q⟩
theorem s_gc {R : L2.St → Hp → Prop} {t : TG} {u : TGs} (q : t v σ H fun σ1 H1 => u vs σ1 H1 R) : gCons t u (v :: vs) σ H R := ⟨v, vs, rfl, q⟩
theorem s_rng2 {ta : TA} {R : It → Hp → Prop} (h : ta σ H fun vs H1 => ∃ i j : Int, vs = [.int i, .int j] ∧ (-(2 ^ 62) ≤ i ∧ i < 2 ^ 62 ∧ -(2 ^ 62) ≤ j ∧ j < 2 ^ 62) ∧ R (Itr i (j - i).toNat) H1) : iRng2 ta σ H R := h
theorem s_rn2 {i j : Int} {R : Int → Int → Prop} (h : -(2 ^ 62) ≤ i ∧ i < 2 ^ 62 ∧ -(2 ^ 62) ≤ j ∧ j < 2 ^ 62) (q : R i j) : ∃ i' j' : Int, [V.int i, V.int j] = [.int i', .int j'] ∧ (-(2 ^ 62) ≤ i' ∧ i' < 2 ^ 62 ∧ -(2 ^ 62) ≤ j' ∧ j' < 2 ^ 62) ∧ R i' j' := ⟨i, j, rfl, h, q⟩
/-! a meeting of ways, what is behind it a letter -/
theorem jT {tt : TT} {Q : Bool → Hp → Prop} (R : Bool → Hp → Prop) (key : ∀ b H1, R b H1 → Q b H1) (w : ∀ Q' : Bool → Hp → Prop, (∀ b H1, R b H1 → Q' b H1) → tt σ H Q') : tt σ H Q := w _ key
theorem jE {te : TE} (R : V → Hp → Prop) (key : ∀ b H1, R b H1 → Q b H1) (w : ∀ Q' : VK, (∀ b H1, R b H1 → Q' b H1) → te σ H Q') : te σ H Q := w _ key
theorem jS {t u : TS} (R : L2.St → Hp → Prop) (key : ∀ σ1 H1, R σ1 H1 → u D σ1 H1) (w : ∀ u' : L2.St → Hp → Prop, (∀ σ1 H1, R σ1 H1 → u' σ1 H1) → t { D with nx := u' } σ H) : tSeq t u D σ H := w _ key
/-- no tuple -/
def Nt (H : Hp) (p : Addr) : Prop := ∀ xs, H p ≠ some (.tup xs)
theorem Nt.lst (h : H p = some (.lst xs)) : Nt H p := fun ys e => by rw [h] at e; cases e
theorem Nt.ins {C dx : Addr} {fs : List (Str × V)} (h : H p = some (.ins C dx fs)) : Nt H p := fun ys e => by rw [h] at e; cases e
theorem Nt.none (h : H p = none) : Nt H p := fun ys e => by rw [h] at e; cases e
theorem Kp.tup (k : Kp ps H H') (n : ∀ q ∈ ps, Nt H q) (e : H p = some (.tup xs)) : H' p = some (.tup xs) := k.get e fun m => n p m xs e
/-- new since -/
theorem Kp.all (k : Kp ps H H') (f : ∀ q ∈ ps, H q = none) : Kp [] H H' := ⟨fun b o e _ => k.keep b o e fun m => (by rw [f b m] at e; cases e), k.kd, k.tp⟩
end
end U

namespace U
open PySem L2 PySem.Spec PyProof.Rows
/-! xs[a:] = ys -/
theorem bounds_tail {a n : Nat} (h : a ≤ n) : sliceBounds (some (a : Int)) none none n = ((a : Int), (n : Int), 1) := by
  simp only [sliceBounds, Option.getD_none]
  have h1 : ¬ ((a : Int) < 0) := by omega
  simp only [h1, if_false, show (1 : Int) > 0 by decide, if_true]
  congr 1
  omega
section
variable {prog : Program} {w : World} {A : Around} {s : Shared} {E : Value → Shared → Prop}
theorem setItem_tail {l b sl : Addr} {items new : Array Value} {n n2 : Nat} {vl : Value} {a : Nat} {Q : Unit → Shared → Prop}
    (e : s.heap.get? l = some { cls := .type "list", data := .seq items n }) (e2 : s.heap.get? b = some { cls := .type "list", data := .seq new n2 }) (hne : l ≠ b)
    (hs : s.heap.IsSliceOf sl vl .none .none) (pl : IsPart vl (some (a : Int))) (ha : a ≤ items.size) (hsz : items.size + new.size ≤ sizeLine)
    (h : Q () { s with heap := s.heap.update l (Obj.mapSeq fun xs => xs.extract 0 a ++ new ++ xs.extract items.size xs.size) }) :
    wpAny (model prog w) A (setItem (.ref l) (.ref sl) (.ref b)) Q E s := by
  have hl : s.heap.IsList l items := PySem.IsL.isList e
  have hb : s.heap.IsList b new := PySem.IsL.isList e2
  obtain ⟨os, hos, hcs, hds⟩ := id hs
  have hTs : s.TypeIs (.ref sl) "slice" := ⟨os, hos, hcs⟩
  have hsame : Builtin.List.listSameRef (.ref l) (.ref b) = false := by
    unfold Builtin.List.listSameRef
    exact beq_eq_false_iff_ne.mpr hne
  have hmax : (max (a : Int) (items.size : Int)).toNat = items.size := by omega
  have hz' : ((fun xs : Array Value => xs.extract 0 a ++ new ++ xs.extract items.size xs.size) items).size ≤ sizeLine + 1 := by
    simp only [Array.size_append, Array.size_extract]
    omega
  unfold setItem
  try with_reducible refine wpAny_holding ?_
  first | refine wpAny_bind (wpAny_pure ?_) | skip
  refine wpAny_bind (wpAny_sequenceKey hl.typeIs (by decide) ?_)
  refine wpAny_bind (wpAny_callSpecial?_slot (name := Str.ofString "__setitem__") hl.typeIs slot_list_setitem (wpAny_call_entry slot_list_setitem hl.typeIs entry_list_setitem ?_ (args_list_setitem _ _ _)))
  show wpAny _ _ (Builtin.List.listSubscript? (.ref sl) >>= _) _ _ s
  refine wpAny_bind ?_
  unfold Builtin.List.listSubscript?
  refine wpAny_bind (wpAny_specialOf hTs slice_no_index ?_)
  simp only [Option.isNone_none, if_true]
  refine wpAny_pure ?_
  show wpAny _ _ (typeOf (.ref sl) >>= _) _ _ s
  refine wpAny_bind (wpAny_typeOf hTs ?_)
  first
    | rw [if_neg (by decide)]
    | refine PySem.W.KFB.if_not (by decide) ?_
  rw [listSliceParts_eq]
  refine wpAny_bind (wpAny_bind (wpAny_field hos hds (x := .none) rfl (wpAny_bind (wpAny_listPart .none ?_))))
  rw [if_neg (show ¬ ((rawPart none == rawInt 0) = true) from Bool.false_ne_true)]
  refine wpAny_bind (wpAny_field hos hds (x := vl) rfl (wpAny_bind (wpAny_listPart pl ?_)))
  refine wpAny_bind (wpAny_field hos hds (x := .none) rfl (wpAny_bind (wpAny_listPart .none (wpAny_pure ?_))))
  first
    | simp only [hsame, Bool.false_eq_true, if_false]
    | refine PySem.W.KFB.if_not hsame ?_
    | (dsimp only
       rw [if_neg (by rw [hsame]; exact Bool.false_ne_true)])
  refine wpAny_bind (m := Builtin.List.listAllItems (.ref b) "must assign iterable to extended slice") ?_
  unfold Builtin.List.listAllItems
  refine wpAny_bind (wpAny_typeOf hb.typeIs ?_)
  first
    | refine PySem.W.KFB.if_so (by decide) ?_
    | rw [if_pos (by decide)]
    | simp only [beq_self_eq_true, Bool.true_or, if_true]
  unfold Builtin.List.listItems
  refine wpAny_bind (wpAny_seqItems e2 rfl (wpAny_pure ?_))
  refine wpAny_bind (wpAny_bind (wpAny_seqItems e rfl (wpAny_pure ?_)))
  refine wpAny_bind (wpAny_of_eq ((sliceIndices_raw (some (a : Int)) none none items.size (by simp)).trans (congrArg (pure : Int × Int × Int → Sem (Int × Int × Int)) (bounds_tail ha))) ?_)
  show wpAny _ _ (if ((1 : Int) == 1) = true then _ else _) _ _ s
  rw [if_pos (by decide)]
  refine wpAny_bind (wpAny_rule ?_)
  first
    | simp only [notLongL hsz, Bool.false_eq_true, if_false]
    | refine PySem.W.KFB.if_not (notLongL hsz) ?_
  first | refine wpAny_bind (wpAny_pure ?_) | skip
  show wpAny _ _ (updateSeq l (fun xs => xs.extract 0 ((a : Int)).toNat ++ new ++ xs.extract (max (a : Int) (items.size : Int)).toNat xs.size) >>= _) _ _ s
  rw [hmax, Int.toNat_natCast]
  refine wpAny_bind (wpAny_updateSeq (hz := Nat.le_trans (Nat.le_add_right _ _) hsz) (_hz' := hz') e rfl ?_)
  refine wpAny_bind (wpAny_letGo ?_)
  first
    | exact wpAny_bind (wpAny_pure (wpAny_pure ⟨.none, rfl, wpAny_pure h⟩))
    | exact wpAny_pure ⟨.none, rfl, wpAny_pure h⟩
end
section
variable {X : Cx} {o lo : Expr} {to tl : TE} {pos p2 : Pos}
def TlK (x v : V) (R : Hp → Prop) (y : V) (H : Hp) : Prop := ∃ (l b : Addr) (xs ys : List V) (a : Int), x = .ref l ∧ v = .ref b ∧ y = .int a ∧ H l = some (.lst xs) ∧ H b = some (.lst ys) ∧ l ≠ b ∧ 0 ≤ a ∧ a ≤ xs.length ∧ xs.length + ys.length ≤ sizeLine ∧ R (upd H l (.lst (xs.take a.toNat ++ ys)))
def gTl (to tl : TE) : TG := fun v σ H R => to σ H fun x H1 => tl σ H1 (TlK x v (R σ))
theorem pg_tail (ho : PE X o to) (hl : PE X lo tl)
    (ha : ∀ v, assign (.Subscript o (.Slice (some lo) none none p2) pos) X.env v = (do
      let ov ← holding [v] (eval o X.env)
      let iv ← holding [v, ov] (eval (.Slice (some lo) none none p2) X.env)
      standAt pos
      holding [v, ov, iv] (setItem ov iv v)
      release [iv, v, ov] []) := by intro _; rfl) : PG X (.Subscript o (.Slice (some lo) none none p2) pos) (gTl to tl) := by
  refine ⟨fun pins s σ H v u Q I r h => ?_⟩
  rw [ha]
  refine wpAny_bind (wpAny_holding (thn (ho.run pins s σ H _ I h) fun ov s1 ⟨x, H1, I1, r1, q1⟩ => ?_))
  have hpo := po_some (peMo hl)
  refine wpAny_bind (wpAny_holding (wpAny_Slice (thn (hpo.run pins s1 σ H1 (fun o H2 => ∃ a, o = some a ∧ TlK x v (Q σ) (.int a) H2) I1 ⟨_, q1, fun y H2 z => ?_⟩) fun vl s2 ⟨a0, H2, I2, pl, a, ea, q2⟩ => ?_)))
  · obtain ⟨l, b, xs, ys, a, e1, e2, rfl, z⟩ := z
    exact ⟨a, rfl, a, rfl, l, b, xs, ys, a, e1, e2, rfl, z⟩
  subst ea
  refine thn (po_none.run pins s2 σ H2 (fun o H3 => o = none ∧ H3 = H2) I2 ⟨rfl, rfl⟩) fun vu s3 ⟨u', H3, I3, pu, eu, e3⟩ => ?_
  subst eu
  subst e3
  cases pu
  rw [evalPart_none]
  refine wpAny_pure ?_
  have I4 : Inv X pins σ H3 { s3 with heap := s3.heap.push { cls := .type "slice", data := .fields #[vl, .none, .none] } } := I3.kept (t' := s3.toks) fun b ob q => Heap.get?_push_of_some _ q
  obtain ⟨l, b, xs, ys, a', rfl, rfl, ea, hH, hB, hne, h0, h1, hz, q⟩ := q2
  cases ea
  cases r1
  cases r
  obtain ⟨z, its, n, rr, hl', e⟩ := I4.lstM hH
  obtain ⟨z2, its2, n2, r2, hl2, e2⟩ := I4.lstM hB
  obtain ⟨a', rfl⟩ := Int.eq_ofNat_of_zero_le h0
  simp only [Int.toNat_natCast] at q
  refine wpAny_bind (wpAny_standAt (wpAny_bind (wpAny_holding (setItem_tail (a := a') e e2 hne (Heap.IsSliceOf.new ..) pl (by rw [List.size_toArray]; omega) (by rw [List.size_toArray, List.size_toArray]; omega) ?_))))
  refine wpAny_release ⟨σ, _, I4.lset (its' := its.take a' ++ its2) (t' := s3.toks) hH e ?_ ((rr.take _).append r2) ?_, q⟩
  · have := splice_eq its its2 a' its.length
    rw [List.drop_length, List.append_nil] at this
    rw [List.size_toArray]
    exact this
  · rw [List.length_append, List.length_take]
    omega
section
variable {σ : L2.St} {H : Hp} {v x y : V} {l b : Addr} {xs ys zs : List V} {a : Int}
theorem s_tl {R : L2.St → Hp → Prop} (h : to σ H fun x H1 => tl σ H1 (TlK x v (R σ))) : gTl to tl v σ H R := h
theorem s_tlk {R : Hp → Prop} (h1 : H l = some (.lst xs)) (h2 : H b = some (.lst ys)) (n : l ≠ b) (h0 : 0 ≤ a) (ha : a ≤ xs.length) (hz : xs.length + ys.length ≤ sizeLine) (e : xs.take a.toNat ++ ys = zs)
    (q : ∀ H', H' l = some (.lst zs) → Kp [l] H H' → R H') : TlK (.ref l) (.ref b) R (.int a) H := ⟨l, b, xs, ys, a, rfl, rfl, rfl, h1, h2, n, h0, ha, hz, by rw [e]; exact put_abs h1 rfl q⟩
end
end
end U

namespace U
open PySem L2 PySem.Spec PyProof.Rows
section
variable {X : Cx}
/-- sorted(d), a dict with int keys, any number of them -/
def uSortD : List V → Hp → VK → Prop := fun xs H Q => ∃ (a : Addr) (kvs : List (Key × V)) (ks : List Int), xs = [.ref a] ∧ Rd H a (.dK kvs) ∧ kvs.map (·.1) = ks.map Sum.inl ∧
    ∀ (ys : List Int) (p : Addr), ys.Perm ks → ys.Pairwise (· ≤ ·) → H p = none → Q (.ref p) (upd H p (.lst (ys.map V.int)))
theorem c_sortD (hcalm : X.calm = true) : CallR X (.builtin "sorted") uSortD := by
  intro pins s σ H xs us Q I r q
  obtain ⟨a, kvs, ks, ex, hd, hks, q⟩ := q
  subst ex
  obtain ⟨u, eu, rx⟩ := vals1 r
  subst eu
  cases rx
  obtain ⟨z, lo, vs, rel, dd⟩ := dk_rd I.hok hd
  obtain ⟨ep, hat⟩ := dd.dictAt
  have hkeys : vs.map (·.1) = ks.map Sum.inl := rel.keys.symm.trans hks
  have hl : vs.length = ks.length := by
    have e := congrArg List.length hkeys
    rwa [List.length_map, List.length_map] at e
  have h16 : vs.length ≤ sizeLine := by rw [← rel.length]; exact z
  refine Calls.call_function_entry PyProof.Rows.kind_sorted PyProof.Rows.plain_sorted PyProof.Rows.entry_sorted (PyProof.Rows.args_sorted1 _) ?_
  unfold Builtin.«sorted»
  refine wpAny_bind (m := checkCount "sorted" 1 1 _) (wpAny_pure ?_)
  refine wpAny_bind (PySem.W.kdu_collect (A := X.A.in1) (PySem.W.kdl_dict (knd := mixKind X.prog X.w) (kvs := vs) (ep := ep) lo) (I.ok.hd hcalm) hat h16 fun h' tk acc hk hacc => ?_)
  have hal : acc.toList.length = ks.length := by rw [Array.length_toList, hacc.1, hl]
  have hS : IntsAre acc.toList ks := ints_each hal fun j v e => by
    obtain ⟨k, x, e1, e2⟩ := hacc.2 j v (by rw [← Array.getElem?_toList]; exact e)
    have e3 : (vs.map (·.1))[j]? = some k := by rw [List.getElem?_map, e1]; rfl
    rw [hkeys, List.getElem?_map] at e3
    obtain ⟨y, e4, rfl⟩ := Option.map_eq_some_iff.mp e3
    rcases keyIs_shape (show keyIs (Sum.inl y) v = true from e2) with ⟨i, t, ek, ev⟩ | ⟨z, t, ek, ev⟩
    · cases ek
      exact ⟨_, t, e4, ev⟩
    · cases ek
  have I1 : Inv X pins σ H { s with heap := h', toks := tk } := I.kept hk
  refine wpAny_bind (wpAny_newList ?_ (by rw [hal, ← hl]; exact h16))
  have hoL : (h'.push (seqObj "list" acc.toList.toArray 0)).get? h'.objs.size = some (seqObj "list" acc.toList.toArray 0) := Heap.get?_push_size _ rfl
  show wpAny _ _ _ _ _ { s with heap := h'.push (seqObj "list" acc.toList.toArray 0), toks := tk }
  refine wpAny_bind (wpAny_holding (wpAny_call_entry PyProof.Rows.slot_list_sort ⟨_, hoL, rfl⟩ PyProof.Rows.entry_list_sort
    (SrtO.list_sort_ord (s := { s with heap := h'.push (seqObj "list" acc.toList.toArray 0), toks := tk }) SrtO.swo_int hoL (by rw [hal, ← hl]; exact h16) (fun h2 => SrtO.ints_sortable hS h2) fun out h1 h2 => ⟨_, rfl, ?_⟩) (PyProof.Rows.args_list_sort _)))
  obtain ⟨g1, g2, g3⟩ := SrtO.ints_out hS h1 h2
  obtain ⟨e', he'⟩ := PyProof.Rows.sortedHeap_at (vs := acc.toList) (out := out.toArray) hoL
  have hlen : ((out.map SrtO.iv).map V.int).length ≤ sizeLine := by
    rw [List.length_map, g2.length_eq, ← hl]
    exact h16
  refine wpAny_pure ⟨_, rfl, .ref h'.objs.size, upd H h'.objs.size (.lst ((out.map SrtO.iv).map V.int)), I1.laid (t' := tk) (fun b u e => ?_) (Nat.le_refl _)
    (show ObjOk X.prog X.w _ _ _ (.lst ((out.map SrtO.iv).map V.int)) from ⟨hlen, out, e', vals_of_ints g1, he'⟩), rfl, q _ _ g2 g3 (I1.hok.fresh (Nat.le_refl _))⟩
  have hb : b < h'.objs.size := Heap.lt_size e
  rw [PyProof.Rows.sortedHeap_old (Nat.ne_of_lt hb) (by rw [size_push']; exact Nat.lt_succ_of_lt hb)]
  exact Heap.get?_push_of_some _ e
end
/-! d.update(e), another dict -/
section
variable {X : Cx}
theorem merge_len : ∀ (more kvs : List (Key × V)), (mergeK kvs more).length ≤ kvs.length + more.length
  | [], kvs => by simp [mergeK]
  | p :: r, kvs => by
    have h1 := merge_len r (putK kvs p.1 p.2)
    have h2 := length_putK kvs p.1 p.2
    have e : mergeK kvs (p :: r) = mergeK (putK kvs p.1 p.2) r := rfl
    rw [e, List.length_cons]
    omega
def rUpd : V → List V → Hp → VK → Prop := fun x xs H Q => ∃ (a b : Addr) (kvs more : List (Key × V)), x = .ref a ∧ xs = [.ref b] ∧ H a = some (.dK kvs) ∧ H b = some (.dK more) ∧ a ≠ b ∧ kvs.length + more.length ≤ sizeLine ∧ Q .non (upd H a (.dK (mergeK kvs more)))
theorem mt_update : MtR X "dict.update" rUpd := by
  intro pins s σ H x xs v us Q I rx rxs h
  obtain ⟨a, b, kvs, more, rfl, rfl, ha, hb, hne, hz, q⟩ := h
  cases rx
  obtain rfl := Vals.ref1 rxs
  obtain ⟨z, hd, vs, rel, dd⟩ := dk_of I.hok ha
  obtain ⟨z2, hd2, rs, rel2, dd2⟩ := dk_of I.hok hb
  refine call_meetsIn PySem.F.slot_dict_update dd.typeIs PySem.F.entry_dict_update (PySem.F.args_dict_update_2 _ _) (meets_dict_update (mixKind X.prog X.w) a b hne hd2) ⟨vs, rs, dd, dd2, by rw [← rel.length, ← rel2.length]; exact hz, fun h' dd' _ hs => ?_⟩
  have he : ∃ q, h'.get? a = some q := let ⟨q, _, _, hq, _⟩ := dd'; ⟨q, hq⟩
  exact ⟨.non, _, d_write (t' := s.toks) I (by rw [ha]; exact True.intro) hs he (dk_new (Nat.le_trans (merge_len _ _) hz) hd (KV.merge rel2 rel) dd'), rfl, q⟩
end
section
variable {K : PySem.W.Frag} {σ : L2.St} {H : Hp} {Q : VK} {a b : Addr} {kvs more ks : List (Key × V)}
theorem s_upd (ha : H a = some (.dK kvs)) (hb : H b = some (.dK more)) (n : a ≠ b) (hz : kvs.length + more.length ≤ sizeLine) (e : mergeK kvs more = ks) (q : ∀ H', H' a = some (.dK ks) → Kp [a] H H' → Q .non H') : rUpd (.ref a) [.ref b] H Q :=
  ⟨a, b, kvs, more, rfl, rfl, ha, hb, n, hz, by rw [e]; exact put_abs ha rfl (R := fun H' => Q .non H') q⟩
end
section
variable {K : PySem.W.Frag} {σ : L2.St} {H : Hp} {Q : VK} {p : Addr} {kvs : List (Key × V)} {ks : List Int}
theorem s_sortD (h : H p = some (.dK kvs)) (e : kvs.map (·.1) = ks.map Sum.inl) (q : ∀ (ys : List Int) l H', ys.Perm ks → ys.Pairwise (· ≤ ·) → H l = none → H' l = some (.lst (ys.map V.int)) → Kp [] H H' → Q (.ref l) H') : uSortD [.ref p] H Q :=
  ⟨p, kvs, ks, rfl, Or.inl h, e, fun ys l hp hs f => q ys l _ hp hs f upd_same (Kp.refl.new f)⟩
end
end U

namespace U
open PySem L2 PySem.Spec PyProof.Rows
/-! what the stepping words lean on: where things stand, by search -/
section
variable {K : PySem.W.Frag} {H H1 H2 : Hp} {ps qs : List Addr} {a b p q : Addr} {o u : HO} {i j : Nat}
theorem Kp.step (h : Kp ps H H1) (k : Kp qs H1 H2) (n : ∀ q ∈ qs, q ∈ ps ∨ H q = none) : Kp ps H H2 := ⟨fun b o e m => by
  refine k.keep b o (h.keep b o e m) fun z => ?_
  rcases n b z with y | y
  · exact m y
  · (rw [y] at e; cases e), fun b i e => k.kd b i (h.kd b i e), fun b xs e => k.tp b xs (h.tp b xs e)⟩
/-- told of heaps that are further apart (no step of the search) -/
structure Kz (ps : List Addr) (H H' : Hp) : Prop where
  k : Kp ps H H'
/-- told for later: it did not stand -/
structure Fz (H : Hp) (p : Addr) : Prop where
  f : H p = none
theorem nt1 {H : Hp} {p : Addr} (h : Nt H p) : ∀ q ∈ [p], Nt H q := by simpa using h
theorem nm0 : a ∉ ([] : List Addr) := by simp
theorem nmc (h : a ≠ p) (g : a ∉ ps) : a ∉ p :: ps := by simp [h, g]
theorem al0 {P : Addr → Prop} : ∀ q ∈ ([] : List Addr), P q := by simp
theorem alc {P : Addr → Prop} (h : P p) (g : ∀ q ∈ ps, P q) : ∀ q ∈ p :: ps, P q := by simpa using ⟨h, g⟩
/-- what stands was none before -/
def Dm (H H1 : Hp) : Prop := ∀ b, H1 b = none → H b = none
theorem Dm.refl : Dm H H := fun _ e => e
theorem Dm.step (h : Dm H H1) (k : Kp ps H1 H2) : Dm H H2 := fun b e => h b (k.dom b e)
theorem Dm.fr (n : H1 p = none) (h : Dm H H1) : H p = none := h p n
theorem Th.kp (k : Kp ps H H1) (h : Th H a i) : Th H1 a i := k.kd a i h
theorem Th.ne (h : Th H a i) (f : H p = none) : a ≠ p := by obtain ⟨o, e, r⟩ := h; exact ne_of_none e f
theorem Th.nk (h : Th H a i) (g : Th H p j) (d : Nat.beq i j = false) : a ≠ p := fun z => by
  subst z
  obtain ⟨o, e, rfl⟩ := h
  obtain ⟨o', e', rfl⟩ := g
  rw [e] at e'
  cases e'
  exact Nat.ne_of_beq_eq_false d rfl
theorem Th.nt (h : Th H a i) (d : Nat.beq i 1 = false) : Nt H a := fun xs e => by
  obtain ⟨o, e2, rfl⟩ := h
  rw [e] at e2
  cases e2
  cases d
theorem SqL.kpn {xs : List V} (k : Kp ps H H1) (h : SqL K H a xs) (n : a ∉ ps) : SqL K H1 a xs := by
  rcases h with (e | ⟨o, e⟩) | e
  · exact Or.inl (Or.inl (k.get e n))
  · exact Or.inl (Or.inr ⟨o, k.get e n⟩)
  · exact Or.inr e
theorem TyN.kpn {v : V} {t : Kd} (h : TyN H v t) (k : Kp ps H H1) (n : ∀ q ∈ ps, v ≠ .ref q) : TyN H1 v t := by
  cases h with
  | non => exact .non
  | bl => exact .bl
  | int => exact .int
  | str => exact .str
  | lst e => exact .lst (k.get e fun m => n _ m rfl)
  | tup e => exact .tup (k.get e fun m => n _ m rfl)
  | dic e => exact .dic (k.get e fun m => n _ m rfl)
theorem kn {a b : Str} (h : decide (a = b) = false) : ¬ ((Sum.inr a : Key) = Sum.inr b) := fun z => by
  injection z with z
  exact absurd z (of_decide_eq_false h)
/-- the box: a list of three numbers, the last one at most n -/
structure Box (H : Hp) (p : Addr) (n : Nat) : Prop where
  ex : ∃ a b c : Int, H p = some (.lst [.int a, .int b, .int c]) ∧ 0 ≤ a ∧ 0 ≤ b ∧ b < 2147483629 ∧ 0 ≤ c ∧ c ≤ n
theorem Box.th {n : Nat} (h : Box H p n) : Th H p 0 := by obtain ⟨a, b, c, e, r⟩ := h.ex; exact .lst e
theorem Box.kp {n : Nat} (h : Box H p n) (k : Kp [] H H1) : Box H1 p n := by
  obtain ⟨a, b, c, e, r⟩ := h.ex
  exact ⟨a, b, c, k.get0 e, r⟩
theorem Box.kpn {n : Nat} (h : Box H p n) (k : Kp ps H H1) (z : p ∉ ps) : Box H1 p n := by
  obtain ⟨a, b, c, e, r⟩ := h.ex
  exact ⟨a, b, c, k.get e z, r⟩
theorem Box.ne {l : Addr} {n : Nat} (h : Box H p n) (hl : H l = none) : l ≠ p := (h.th.ne hl).symm
theorem Box.more {n m : Nat} (h : Box H p n) (e : n ≤ m) : Box H p m := by
  obtain ⟨a, b, c, e1, h1, h2, h3, h4, h5⟩ := h.ex
  exact ⟨a, b, c, e1, h1, h2, h3, h4, by omega⟩
theorem Box.nt {n : Nat} (h : Box H p n) : Nt H p := by
  obtain ⟨a, b, c, e, r⟩ := h.ex
  exact Nt.lst e
theorem PvD.begin {H : Hp} {D : Addr} {Pv : Nat → List V → Hp → Prop} (f : H D = none) (h : ∀ H', H' D = some (.lst []) → Kp [] H H' → Pv 0 [] H') : PvD D Pv 0 (upd H D (.lst [])) := ⟨[], upd_same, h _ upd_same (Kp.refl.new f)⟩
theorem PvD.add {H : Hp} {D : Addr} {Pv : Nat → List V → Hp → Prop} {acc : List V} {y : V} {i : Nat} (e : H D = some (.lst acc)) (hz : acc.length ≤ 1000000) (h : ∀ H', H' D = some (.lst (acc ++ [y])) → Kp [D] H H' → Pv i (acc ++ [y]) H') :
    ∃ acc, H D = some (.lst acc) ∧ acc.length < sizeLine ∧ PvD D Pv i (upd H D (.lst (acc ++ [y]))) := ⟨acc, e, zlt hz, acc ++ [y], upd_same, h _ upd_same (Kp.refl.put (by simp) (.lst e))⟩
theorem many_j (n : Nat) (lo hi : Int) (h0 : 0 ≤ lo) (h : lo ≤ hi) : ∃ j : Nat, (if (if (n : Int) < hi then (n : Int) else hi) > lo then (if (n : Int) < hi then (n : Int) else hi) else lo) = (j : Int) ∧ lo ≤ j ∧ j ≤ hi := by
  refine ⟨(if (if (n : Int) < hi then (n : Int) else hi) > lo then (if (n : Int) < hi then (n : Int) else hi) else lo).toNat, ?_, ?_, ?_⟩ <;> (split <;> split <;> omega)
end
end U

namespace U
open PySem L2 PySem.Spec PyProof.Rows
/-! == and != of data -/
section
variable {K : PySem.W.Frag} {H H1 : Hp} {Q : VK} {x y : V} {d e : PyData} {ps qs : List Addr}
mutual
theorem Dn.dp : ∀ {v : V} {d : PyData}, d.canLay0 = true → Dn K H v d → Dp K H v d
  | _, _, _, .non => .non
  | _, _, _, .bl b => .bl b
  | _, _, _, .int i => .int i
  | _, _, _, .str x => .str x
  | _, _, h, .lst r a => .lst (Or.inl r) (DnA.dp (by simpa only [PyData.canLay0] using h) a)
  | _, _, h, .tup r a => .tup r (DnA.dp (by simpa only [PyData.canLay0] using h) a)
  | _, _, h, .dic r a => by simp [PyData.canLay0] at h
theorem DnA.dp : ∀ {vs : List V} {ds : List PyData}, PyData.canLayAll0 ds = true → DnA K H vs ds → DpAll K H vs ds
  | _, _, _, .nil => .nil
  | _, _, h, .cons a b => by
    rw [PyData.canLayAll0, Bool.and_eq_true] at h
    exact .cons (Dn.dp h.1 a) (DnA.dp h.2 b)
end
theorem shp {d : PyData} (h : SeqAt.shaped d = true) : d.canLay0 = true := by
  unfold SeqAt.shaped at h
  rw [Bool.and_eq_true] at h
  exact h.1
theorem s_eqD (h1 : Dn K H x d) (h2 : Dn K H y e) (s1 : SeqAt.shaped d = true) (s2 : SeqAt.shaped e = true) (q : Q (.bl (PyData.eqv d e)) H) : uEq K x y H Q :=
  Or.inr ⟨d, e, h1.dp (shp s1), h2.dp (shp s2), s1, s2, q⟩
theorem s_neD (h1 : Dn K H x d) (h2 : Dn K H y e) (s1 : SeqAt.shaped d = true) (s2 : SeqAt.shaped e = true) (q : Q (.bl (!PyData.eqv d e)) H) : uNe K x y H Q :=
  Or.inr ⟨d, e, h1.dp (shp s1), h2.dp (shp s2), s1, s2, q⟩
theorem s_eqR (h1 : Dn K H x d) (h2 : Dn K H y d) (s1 : SeqAt.shaped d = true) (q : Q (.bl true) H) : uEq K x y H Q :=
  s_eqD h1 h2 s1 s1 (by rw [PySem.SeqAt.eqv_refl d (shp s1)]; exact q)
theorem s_neR (h1 : Dn K H x d) (h2 : Dn K H y d) (s1 : SeqAt.shaped d = true) (q : Q (.bl false) H) : uNe K x y H Q :=
  s_neD h1 h2 s1 s1 (by rw [PySem.SeqAt.eqv_refl d (shp s1)]; exact q)
/-- a list against [] -/
theorem s_neN {p r : Addr} {ds : List PyData} (h1 : Dn K H (.ref p) (.list ds)) (h2 : H r = some (.lst [])) (s1 : SeqAt.shaped (.list ds) = true) (q : Q (.bl (!ds.isEmpty)) H) : uNe K (.ref p) (.ref r) H Q := by
  refine s_neD h1 (.lst (Or.inl h2) .nil) s1 (by decide +kernel) ?_
  have e : PyData.eqv (.list ds) (.list []) = ds.isEmpty := by
    cases ds <;> simp [PyData.eqv, PyData.eqvAll]
  rw [e]
  exact q
theorem s_eqN {p r : Addr} {ds : List PyData} (h1 : Dn K H (.ref p) (.list ds)) (h2 : H r = some (.lst [])) (s1 : SeqAt.shaped (.list ds) = true) (q : Q (.bl ds.isEmpty) H) : uEq K (.ref p) (.ref r) H Q := by
  refine s_eqD h1 (.lst (Or.inl h2) .nil) s1 (by decide +kernel) ?_
  have e : PyData.eqv (.list ds) (.list []) = ds.isEmpty := by
    cases ds <;> simp [PyData.eqv, PyData.eqvAll]
  rw [e]
  exact q
/-! data of the part of the heap that is not at ps -/
def hid (ps : List Addr) (H : Hp) : Hp := fun a => if a ∈ ps then none else H a
theorem hid_some {a : Addr} {o : HO} (h : hid ps H a = some o) : H a = some o ∧ a ∉ ps := by
  unfold hid at h
  by_cases m : a ∈ ps
  · rw [if_pos m] at h; cases h
  · rw [if_neg m] at h; exact ⟨h, m⟩
theorem hid_of {a : Addr} {o : HO} (h : H a = some o) (m : a ∉ ps) : hid ps H a = some o := by
  unfold hid; rw [if_neg m]; exact h
theorem hid_kp (k : Kp qs H H1) (n : ∀ q ∈ qs, q ∈ ps ∨ H q = none) : Kp [] (hid ps H) (hid ps H1) := ⟨fun b o e _ => by
  obtain ⟨e1, m⟩ := hid_some e
  refine hid_of (k.get e1 fun z => ?_) m
  rcases n b z with y | y
  · exact m y
  · (rw [y] at e1; cases e1), fun b i e => by
  obtain ⟨o, e, r⟩ := e
  obtain ⟨e1, m⟩ := hid_some e
  obtain ⟨o', e', r'⟩ := k.kd b i ⟨o, e1, r⟩
  exact ⟨o', hid_of e' m, r'⟩, fun b xs e => by
  obtain ⟨e1, m⟩ := hid_some e
  exact hid_of (k.tp b xs e1) m⟩
/-- a thing that is data, no part of it at ps -/
def Dx (ps : List Addr) (K : PySem.W.Frag) (H : Hp) (v : V) (d : PyData) : Prop := Dn K (hid ps H) v d
theorem Dx.kpn (h : Dx ps K H x d) (k : Kp qs H H1) (n : ∀ q ∈ qs, q ∈ ps ∨ H q = none) : Dx ps K H1 x d := Dn.kp (hid_kp k n) h
theorem rdh {a : Addr} {u : HO} (r : Rd (hid ps H) a u) : Rd H a u := by
  rcases r with r | ⟨o, r⟩
  · exact Or.inl (hid_some r).1
  · exact Or.inr ⟨o, (hid_some r).1⟩
mutual
theorem Dn.unhid : ∀ {v : V} {d : PyData}, Dn K (hid ps H) v d → Dn K H v d
  | _, _, .non => .non
  | _, _, .bl b => .bl b
  | _, _, .int i => .int i
  | _, _, .str x => .str x
  | _, _, .lst r a => .lst (rdh r) (DnA.unhid a)
  | _, _, .tup r a => .tup (r.elim (fun z => Or.inl (rdh z)) Or.inr) (DnA.unhid a)
  | _, _, .dic r a => .dic (rdh r) (DnA.unhid a)
theorem DnA.unhid : ∀ {vs : List V} {ds : List PyData}, DnA K (hid ps H) vs ds → DnA K H vs ds
  | _, _, .nil => .nil
  | _, _, .cons a b => .cons (Dn.unhid a) (DnA.unhid b)
end
end
def uIsB : R2 := fun x y H Q => ∃ a b : Bool, x = .bl a ∧ y = .bl b ∧ Q (.bl (decide (a = b))) H
theorem o_isb {X : Cx} : OpR X (compareOp .Is) uIsB := op_is_bl
theorem s_isb {a b : Bool} {H : Hp} {Q : VK} (q : Q (.bl (decide (a = b))) H) : uIsB (.bl a) (.bl b) H Q := ⟨a, b, rfl, rfl, q⟩
section
variable {K : PySem.W.Frag} {σ : L2.St} {H : Hp} {Q : VK} {p : Addr} {xs : List V} {X : Cx}
def uTuple (K : PySem.W.Frag) : List V → Hp → VK → Prop := fun xs H Q => ∃ p ys, xs = [.ref p] ∧ ((SqL K H p ys ∧ ∀ l, H l = none → Q (.ref l) (upd H l (.tup ys))) ∨ (SqT K H p ys ∧ Q (.ref p) H))
theorem c_tuple (hK : X.K = K) : CallR X (.type "tuple") (uTuple K) := hK ▸ call_tuple_of
theorem s_tuple (h : SqL K H p xs) (q : ∀ l H', H l = none → H' l = some (.tup xs) → Kp [] H H' → Q (.ref l) H') : uTuple K [.ref p] H Q := ⟨p, xs, rfl, Or.inl ⟨h, new_abs (R := fun l H' => Q (.ref l) H') q⟩⟩
theorem s_tupleT (h : H p = some (.tup xs)) (q : Q (.ref p) H) : uTuple K [.ref p] H Q := ⟨p, xs, rfl, Or.inr ⟨SqT.of h, q⟩⟩
theorem s_rev (h : H p = some (.lst xs)) (q : ∀ H', H' p = some (.lst xs.reverse) → Kp [p] H H' → Q .non H') : rReverse (.ref p) [] H Q := ⟨p, xs, rfl, rfl, h, put_abs h rfl (R := fun H' => Q .non H') q⟩
end
theorem ix_mem {xs : List V} {i : Int} (h0 : 0 ≤ i) (h1 : i < xs.length) : ∃ v, v ∈ xs ∧ atI xs i = some v := by
  obtain ⟨v, e1, e2⟩ := at_int h0 h1
  exact ⟨v, List.mem_of_getElem? e1, e2⟩
theorem natAbs_lt {i : Int} {n : Nat} (h1 : -(n : Int) < i) (h2 : i < n) : i.natAbs < n := by omega
theorem s_par {i j : Nat} {ta : TA} {D : Ends} {σ : L2.St} {H : Hp} (h : ta σ H fun vs H1 => ∃ u v, vs = [u, v] ∧ D.nx ((σ.set i (some u)).set j (some v)) H1) : tPar i j ta D σ H := h
theorem s_two {u v : V} {R : V → V → Prop} (q : R u v) : ∃ u' v', [u, v] = [u', v'] ∧ R u' v' := ⟨u, v, rfl, q⟩
theorem at_last {α : Type} {xs : List α} (h : xs ≠ []) : ∃ v, v ∈ xs ∧ atI xs (-1) = some v := by
  have hp := List.length_pos_iff.mpr h
  refine ⟨xs[xs.length - 1]'(by omega), List.getElem_mem _, ?_⟩
  unfold atI ixN
  rw [if_neg (by omega), if_pos (by omega)]
  have e : (-1 + (xs.length : Int)).toNat = xs.length - 1 := by omega
  simp [e]
end U

namespace U
open PySem L2 PySem.Spec PyProof.Rows
/-! a def whose last parameter has the default None -/
section
variable {P : Program} {w : World} {K : PySem.W.Frag} {mg : Str → Option Value} {base : Heap} {x ql : Str} {st : Stmt} {f : Addr} {fd : FuncData} {N ps : List Str} {k : Nat} {sp : Sp}
abbrev FunN (K : PySem.W.Frag) (x ql : Str) (st : Stmt) (f : Addr) (fd : FuncData) : Prop := FunD K x ql (defArgs st) (defBody st) (defScope st) [.non] [] f fd
theorem funN_okX (F : FunN K x ql st f fd) (S : FnScope N ps (defScope st)) (len : ∀ vs H Q E, sp vs H Q E → vs.length = ps.length)
    (hb : ∀ (cdv : Value) (A : Around) (outer : List Env) (s : Shared) (H : Hp) (vs : List V) (Q : VK) (E : XK), Room k (A.deeper (envOfC ql (defScope st) s.heap.objs.size f cdv)) → sp vs H Q E →
      ∃ t, PSs (cxOf (L2.CX P w) P w K mg base N ql (defScope st) f cdv A outer s H E) (defBody st) t ∧ t { nx := fun _ H' => Q .non H', rt := Q } (start N vs) H) : FnOk P w K mg base (L2.CX P w) (k + 1) f fd ps sp :=
  F.ok S len hb
theorem funN_full (F : FunN K x ql st f fd) (n : Nat) (hn : n = ps.length)
    (h : ∀ (T : Addr) (kV doc pm : Value) (an : Option Addr) (cdv ct : Value) (us its : List Value), us.length = n → its.length = 1 →
      ∃ k, bindArgs (PySem.W.fnOf x ql (defArgs st) (defBody st) (defScope st) (.ref T) kV doc pm an cdv ct) ⟨us, []⟩ = seqItems? (.ref T) >>= k ∧ k (some its.toArray) = pure (ps.zip (us ++ its.drop 1))) : Binds K fd ps [] := by
  obtain ⟨ds, v, b⟩ := F.binds1 (ps := ps) n 1 (by simp) (by simp [hn]) h
  cases v
  exact b
theorem funN_part (F : FunN K x ql st f fd) (n : Nat) (hn : n + 1 = ps.length)
    (h : ∀ (T : Addr) (kV doc pm : Value) (an : Option Addr) (cdv ct : Value) (us its : List Value), us.length = n → its.length = 1 →
      ∃ k, bindArgs (PySem.W.fnOf x ql (defArgs st) (defBody st) (defScope st) (.ref T) kV doc pm an cdv ct) ⟨us, []⟩ = seqItems? (.ref T) >>= k ∧ k (some its.toArray) = pure (ps.zip (us ++ its.drop 0))) : Binds K fd ps [.none] := by
  obtain ⟨ds, v, b⟩ := F.binds1 (ps := ps) n 0 (by simp) (by simp [hn]) h
  cases v with
  | cons a r =>
    cases r
    cases a
    exact b
theorem funN_mk {oc : Value} {od an : Option Addr} {osl : Array (Option Value)} {kV doc pm cdv ct : Value} {T : Addr} {oT : Obj} {nT : Nat} (l : K.lookup f = some ⟨oc, od, .func (PySem.W.fnOf x ql (defArgs st) (defBody st) (defScope st) (.ref T) kV doc pm an cdv ct), osl⟩)
    (c : PySem.W.codeIn K cdv ql = true) (k : PySem.W.keepIn K (.ref f) = true) (lT : K.lookup T = some oT) (dT : oT.data = .seq #[Value.none] nT) : FunN K x ql st f (PySem.W.fnOf x ql (defArgs st) (defBody st) (defScope st) (.ref T) kV doc pm an cdv ct) :=
  ⟨⟨oc, od, _, kV, doc, pm, an, cdv, ct, osl, rfl, l, c, Or.inr ⟨by simp, T, oT, [.none], nT, rfl, lT, dT, .cons rfl .nil⟩, Or.inl rfl⟩, k⟩
end
/-! a walk over a list or a tuple -/
section
variable {X : Cx} {K : PySem.W.Frag} {tg l : Expr} {tl : TE}
def iSeq (K : PySem.W.Frag) (tl : TE) : TI := fun σ H R => tl σ H fun x H1 => ∃ a, x = .ref a ∧ (((∃ xs, SqL K H1 a xs) ∧ R (Itl K a) H1) ∨ ((∃ xs, SqT K H1 a xs) ∧ R (Itt K a) H1))
theorem pi_seq (hK : X.K = K) (hl : PE X l tl) : PI X tg l (iSeq K tl) := by
  subst hK
  refine ⟨fun pins s σ H R I h => ?_⟩
  refine thn (hl.run pins s σ H _ I h) fun v s1 ⟨x, H1, I1, r1, q1⟩ => ?_
  obtain ⟨a, e, q1⟩ := q1
  subst e
  cases r1
  rcases q1 with ⟨⟨xs, hq⟩, q⟩ | ⟨⟨xs, hq⟩, q⟩
  · obtain ⟨its, rv, p, hz⟩ := I1.list hq
    refine wpAny_pyIter_list p.isList ?_
    refine ⟨s1.heap.objs.size, [s1.heap.objs.size], _, _, H1, rfl, I1.kept (t' := s1.toks) fun b o e => Heap.get?_push_of_some _ e, turn_list a _, ⟨_, Heap.get?_push_size _ rfl, rfl, rfl⟩, fun b hb => ?_, q⟩
    have e : b = s1.heap.objs.size := by simpa using hb
    subst e
    exact I1.fpOk (Nat.le_refl _) (I1.hok.fresh (Nat.le_refl _))
  · obtain ⟨its, rv, p, hz⟩ := I1.tuple hq
    refine wpAny_pyIter_tuple (show s1.heap.IsTuple a its.toArray from p) ?_
    refine ⟨s1.heap.objs.size, [s1.heap.objs.size], _, _, H1, rfl, I1.kept (t' := s1.toks) fun b o e => Heap.get?_push_of_some _ e, turn_tuple a _, ⟨_, Heap.get?_push_size _ rfl, rfl, rfl⟩, fun b hb => ?_, q⟩
    have e : b = s1.heap.objs.size := by simpa using hb
    subst e
    exact I1.fpOk (Nat.le_refl _) (I1.hok.fresh (Nat.le_refl _))
variable {σ : L2.St} {H : Hp} {R : It → Hp → Prop}
theorem s_iseq (h : tl σ H fun x H1 => ∃ a, x = .ref a ∧ (((∃ xs, SqL K H1 a xs) ∧ R (Itl K a) H1) ∨ ((∃ xs, SqT K H1 a xs) ∧ R (Itt K a) H1))) : iSeq K tl σ H R := h
theorem s_isqT {p : Addr} {xs : List V} {S L : Addr → Prop} (h : H p = some (.tup xs)) (q : S p) : ∃ a, V.ref p = .ref a ∧ (((∃ xs, SqL K H a xs) ∧ L a) ∨ ((∃ xs, SqT K H a xs) ∧ S a)) := ⟨p, rfl, Or.inr ⟨⟨xs, SqT.of h⟩, q⟩⟩
theorem s_isqL {p : Addr} {xs : List V} {S L : Addr → Prop} (h : H p = some (.lst xs)) (q : L p) : ∃ a, V.ref p = .ref a ∧ (((∃ xs, SqL K H a xs) ∧ L a) ∨ ((∃ xs, SqT K H a xs) ∧ S a)) := ⟨p, rfl, Or.inl ⟨⟨xs, SqL.of h⟩, q⟩⟩
theorem s_itup (h : tl σ H fun x H1 => ∃ a, x = .ref a ∧ (∃ xs, SqT K H1 a xs) ∧ R (Itt K a) H1) : iTup K tl σ H R := h
theorem s_itp {p : Addr} {xs : List V} {S : Addr → Prop} (h : H p = some (.tup xs)) (q : S p) : ∃ a, V.ref p = .ref a ∧ (∃ xs, SqT K H a xs) ∧ S a := ⟨p, rfl, ⟨xs, SqT.of h⟩, q⟩
end
/-! isinstance(x, (list, tuple)) -/
section
variable {X : Cx} {K : PySem.W.Frag} {H : Hp} {Q : VK}
theorem c_isiT (hK : X.K = K) : CallR X (.builtin "isinstance") (rIsiT K) := hK ▸ call_isiT
def Kd.isSeq : Kd → Bool | .lst => true | .tup => true | _ => false
theorem kb_seq (t : Kd) : PySem.W.kitAny K (.type t.nm) [.type "list", .type "tuple"] = some t.isSeq := by cases t <;> rfl
theorem s_isSeq {v : V} {t : Kd} {tp : Addr} (h : TyN H v t) (e : H tp = some (.tup [.ty "list", .ty "tuple"])) (q : Q (.bl t.isSeq) H) : rIsiT K [v, .ref tp] H Q :=
  ⟨v, tp, _, _, _, _, rfl, e, .cons (.ty _) (.cons (.ty _) .nil), h.ty, kb_seq t, q⟩
def uAbs : List V → Hp → VK → Prop := fun xs H Q => ∃ i, xs = [.int i] ∧ Q (.int (if i < 0 then -i else i)) H
theorem c_abs : CallR X (.builtin "abs") uAbs := call_abs
theorem s_abs {i : Int} (q : Q (.int (if i < 0 then -i else i)) H) : uAbs [.int i] H Q := ⟨i, rfl, q⟩
theorem bt_abs : bootBuiltins "abs" = some (.builtin "abs") := by decide +kernel
theorem bt_enumerate : bootBuiltins "enumerate" = some (.type "enumerate") := by decide +kernel
end
end U

namespace U
open PySem L2 PySem.Spec PyProof.Rows
/-! enumerate(t), t a tuple -/
def IteT (K : PySem.W.Frag) (a : Addr) : It :=
  ⟨fun i H => ∃ (xs : List V) (x : V), SqT K H a xs ∧ xs[i]? = some x, fun i H v H' => ∃ T x, v = .ref T ∧ H T = none ∧ H' = upd H T (.tup [.int (i : Nat), x]) ∧ ∀ xs, SqT K H a xs → xs[i]? = some x, fun i H => ∃ xs : List V, SqT K H a xs ∧ xs.length ≤ i⟩
theorem turn_enumT {P : Program} {w : World} {K : PySem.W.Frag} {elts : List Expr} {kk : Nat} {tpos : Pos} (a e it : Addr) :
    Turn P w K (.Tuple elts kk tpos) (IteT K a) [e, it] e (fun i h => (∃ old, IsEnum h e it ((i : Nat) : Int) old) ∧ h.IsTupleIter it a i ∧ e ≠ it) where
  mem := by simp
  obj := fun i h st b hb => by
    obtain ⟨⟨old, he⟩, ⟨o, ho, hc, hd⟩, _⟩ := st
    have e' : b = e ∨ b = it := by simpa using hb
    rcases e' with z | z
    · rw [z]; exact ⟨_, he, fun v q => nomatch q⟩
    · rw [z]; exact ⟨o, ho, fun v q => by rw [hd] at q; cases q⟩
  keep := fun i h h' st k => let ⟨⟨old, he⟩, hi, hne⟩ := st; ⟨⟨old, k e (by simp) _ he⟩, hi.at fun o q => k it (by simp) o q, hne⟩
  item := by
    intro X hP hw hK hc i pins s σ H E I hf st hg
    subst hP hw hK
    obtain ⟨⟨old, he⟩, hit, hne⟩ := st
    obtain ⟨xs, x, hq, hx⟩ := hg
    obtain ⟨its, rv, p, hz⟩ := I.tuple hq
    obtain ⟨u, hu, ru⟩ := rv.get hx
    have p' : s.heap.IsTuple a its.toArray := p
    have nai : a ≠ it := fun z => by
      subst z
      obtain ⟨o1, e1, c1, _⟩ := p'
      obtain ⟨o2, e2, c2, _⟩ := hit
      rw [e1] at e2; cases e2
      rw [c1] at c2; exact absurd c2 (by simp)
    have nae : a ≠ e := fun z => by
      subst z
      obtain ⟨o1, e1, c1, _⟩ := p'
      have he' := he
      unfold IsEnum at he'
      rw [e1] at he'
      cases he'
      exact absurd c1 (by simp)
    have hel : e < s.heap.objs.size := Heap.lt_size he
    have hil : it < s.heap.objs.size := by obtain ⟨_, q, _⟩ := hit; exact Heap.lt_size q
    have hi : i < its.toArray.size := by
      rw [List.size_toArray]
      exact (List.getElem?_eq_some_iff.mp hu).1
    refine wpAny_pyNext_enum_itemD (Draws.tuple (A := X.A.in1) (show X.A.in1.handled = none from I.ok.hd hc) it a nai its.toArray) he ⟨hit, p'⟩ hi hne (by simp; exact ⟨hne, nae.symm⟩) fun x' h' tk hP ho hst' hT hsz hk => ?_
    obtain ⟨hit', _⟩ := hst'
    have ex : x' = u := by
      have hP' : its.toArray[i]? = some x' := hP
      rw [List.getElem?_toArray, hu] at hP'
      exact (Option.some.inj hP').symm
    subst ex
    refine ⟨_, rfl, wpAny_letOwnedTupleGo_enum (s := { s with heap := h', toks := tk + 1 }) ho fun h'' he' sb => ?_⟩
    have hT2 : h''.get? s.heap.objs.size = some { cls := .type "tuple", data := .seq #[.int i tk, x'] } := (sb.2 _ (Nat.ne_of_gt hel)).trans hT
    have new : ObjOk X.prog X.w (upd H s.heap.objs.size (.tup [.int (i : Nat), x])) h'' s.heap.objs.size (.tup [.int (i : Nat), x]) :=
      ⟨by show 2 ≤ sizeLine; decide, [.int i tk, x'], .cons ⟨_, rfl⟩ (.cons ru .nil), ⟨_, hT2, rfl, _, rfl⟩⟩
    have I1 : Inv X pins σ (upd H s.heap.objs.size (.tup [.int (i : Nat), x])) { s with heap := h'', toks := tk + 1 } :=
      I.turnedNew (ch := [e, it]) (fun b ob hb q => (sb.2 b (fun z => hb (by simp [z]))).trans (hk b ob (fun z => hb (by simp [z])) (fun z => hb (by simp [z])) q)) hf (Nat.le_refl _) new
    refine ⟨.ref s.heap.objs.size, _, I1, rfl, ⟨_, x, rfl, I.hok.fresh (Nat.le_refl _), rfl, fun ys hy => by rw [I.tuple_inj hy hq]; exact hx⟩, ⟨⟨x', ?_⟩, hit'.at fun o q => (sb.2 it (Ne.symm hne)).trans q, hne⟩, fun b hb => ?_⟩
    · have e1 : ((i + 1 : Nat) : Int) = (i : Int) + 1 := by omega
      rw [e1]; exact he'
    · have hb' : b < s.heap.objs.size := by
        have e' : b = e ∨ b = it := by simpa using hb
        rcases e' with z | z
        · rw [z]; exact hel
        · rw [z]; exact hil
      rw [upd_ne (Nat.ne_of_lt hb')]
      exact (hf b hb).1
  done := by
    intro X hP hw hK hc i pins s σ H E I hf st hg
    subst hP hw hK
    obtain ⟨⟨old, he⟩, hit, hne⟩ := st
    obtain ⟨xs, hq, hx⟩ := hg
    obtain ⟨its, rv, p, hz⟩ := I.tuple hq
    obtain ⟨f0, f1, f2, f3, f4, f5⟩ := hf it (by simp)
    have hl := rv.length
    have p' : s.heap.IsTuple a its.toArray := p
    refine (?_ : wpAny (model X.prog X.w) X.A (pyNext (.ref e)) _ _ s)
    have hT : s.TypeIs (.ref e) "enumerate" := ⟨_, he, rfl⟩
    unfold pyNext
    refine wpAny_bind (wpAny_attempt (wpAny_callSpecial?_slot (name := Str.ofString "__next__") hT F.slot_enumerate_next
      (wpAny_call_entry F.slot_enumerate_next hT F.entry_enumerate_next ?_ (F.args_enumerate_next_1 _))))
    show wpAny _ _ (field (.ref e) 2 >>= _) _ _ _
    refine wpAny_bind (wpAny_field he rfl (x := .ref it) rfl ?_)
    refine wpAny_bind (wpAny_nextOf_tuple_end (I.ok.hd hc) hit p' (by simp; omega) fun h' x he' hx' => ?_)
    obtain ⟨o, ho, hc'⟩ := hx'
    refine wpAny_bind (wpAny_isInstance (T := "StopIteration") (b := true) ⟨o, ho, hc'⟩ isSubtype_stop ?_)
    exact wpAny_pure ⟨rfl, I.turned (t' := s.toks) (fun b o hb q => he' b o hb q) f0 f1 f3 f4 f5⟩
  self := fun A i s Q E st h => let ⟨⟨_, he⟩, _⟩ := st; wpAny_pyIter_enum he h
theorem meets_enum1 {v : Value} {o : Obj} {H : Heap → Prop} (B : Begins v o H) :
    Meets (Builtin.«enumerate.__new__» ⟨[.type "enumerate", v], []⟩) (fun _ R s => H s.heap ∧
      R (.ok (.ret (.ref (s.heap.push o).objs.size))) { s with heap := (s.heap.push o).push { cls := .type "enumerate", data := .fields #[.none, .bool false, .ref s.heap.objs.size, rawInt 0, .none, .none] } }) :=
  .of_wp fun prog w A R s h => by
    obtain ⟨hp, g, d, tk, os⟩ := s; obtain ⟨h1, h⟩ := h
    have hsub := sub_enumerate
    have q1 : ∀ {A' : Around} {E : Value → Shared → Prop} {Q : Value → Shared → Prop}, Q (.ref hp.objs.size) ⟨hp.push o, g, d, tk, os⟩ → wpAny (model prog w) A' (pyIter v) Q E ⟨hp, g, d, tk, os⟩ :=
      fun q => B.iter prog w _ _ ⟨hp, g, d, tk, os⟩ _ h1 q
    wp_walk using q1
    refine wpAny_stack_any fun st => wpAny_pure ?_
    split
    · rename_i c _ _ _ _ _
      cases (c == Value.type "enumerate")
      · wp_walk using q1
        exact ⟨_, rfl, h⟩
      · wp_walk using q1
        exact ⟨_, rfl, h⟩
    · wp_walk using q1
      exact ⟨_, rfl, h⟩
section
variable {prog : Program} {w : World} {A : Around} {E : Value → Shared → Prop} {s : Shared}
theorem enum_begins1 {v : Value} {o : Obj} {H : Heap → Prop} {Q : Value → Shared → Prop} (B : Begins v o H) (h1 : H s.heap)
    (h : ∀ h', IsEnum h' (s.heap.objs.size + 1) s.heap.objs.size 0 .none → h'.get? s.heap.objs.size = some o → h'.objs.size = s.heap.objs.size + 2 →
      (∀ b o, s.heap.get? b = some o → h'.get? b = some o) → Q (.ref (s.heap.objs.size + 1)) { s with heap := h' }) :
    wpAny (model prog w) A (call (.type "enumerate") [v]) Q E s := by
  refine callType_new F.called_enumerate (by decide) (F.typeCall_enumerate_1 _) (F.newCall_enumerate_1 _) (fun obj => F.args_object_init_2 obj _) F.entry_enumerate_new
    (meets_enum1 B) ⟨h1, ?_⟩
  have hz : (s.heap.push o).objs.size = s.heap.objs.size + 1 := Heap.size_push ..
  show _ ∧ _
  rw [hz]
  have he : IsEnum ((s.heap.push o).push { cls := .type "enumerate", data := .fields #[.none, .bool false, .ref s.heap.objs.size, rawInt 0, .none, .none] }) (s.heap.objs.size + 1) s.heap.objs.size 0 .none := by
    have := Heap.get?_push_size (s.heap.push o) (o := { cls := .type "enumerate", data := .fields #[.none, .bool false, .ref s.heap.objs.size, rawInt 0, .none, .none] }) rfl
    rw [hz] at this; exact this
  refine ⟨⟨_, he, rfl⟩, h _ he (Heap.get?_push_of_some _ (Heap.get?_push_size _ B.free)) (by rw [Heap.size_push, hz]) fun b o x => Heap.get?_push_of_some _ (Heap.get?_push_of_some _ x)⟩
end
def iEnumT (K : PySem.W.Frag) (ta : TA) : TI := fun σ H R => ta σ H fun vs H1 => ∃ a xs, vs = [.ref a] ∧ SqT K H1 a xs ∧ R (IteT K a) H1
theorem pi_enumT {X : Cx} {K : PySem.W.Frag} {e : Expr} {ta : TA} {p pos tpos : Pos} {elts : List Expr} {kk : Nat} (hK : X.K = K) (hg : Gl X "enumerate") (hm : X.mg "enumerate" = none) (ha : PA X [e] ta) (hs : starEach [e] X.env = [(false, eval e X.env)] := by rfl) :
    PI X (.Tuple elts kk tpos) (.Call (.Name "enumerate" p) [e] [] pos) (iEnumT K ta) := by
  subst hK
  refine ⟨fun pins s σ H R I h => ?_⟩
  refine Call_ (ld_blt I hg hm boot_enumerate (PyProof.Rows.callWith_type1 (thn (ha.run pos pins s σ H _ I h) fun us s1 ⟨vs, H1, I1, r1, q1⟩ => ?_) hs rfl))
  obtain ⟨a, xs, ex, hq, q⟩ := q1
  subst ex
  cases r1 with
  | cons r rr =>
    cases rr
    cases r
    obtain ⟨its, rv, p', hz⟩ := I1.tuple hq
    refine enum_begins1 (begins_tuple a its.toArray) (show s1.heap.IsTuple a its.toArray from p') fun h' he hit hsz hk => wpAny_pyIter_enum he ?_
    have I2 : Inv X pins σ H1 { s1 with heap := h' } := I1.kept (t' := s1.toks) hk
    refine ⟨s1.heap.objs.size + 1, [s1.heap.objs.size + 1, s1.heap.objs.size], _, _, H1, rfl, I2, turn_enumT a (s1.heap.objs.size + 1) s1.heap.objs.size, ⟨⟨.none, he⟩, ⟨_, hit, rfl, rfl⟩, Nat.succ_ne_self _⟩, fun b hb => ?_, q⟩
    have e' : b = s1.heap.objs.size + 1 ∨ b = s1.heap.objs.size := by simpa using hb
    have hle : s1.heap.objs.size ≤ b := by
      rcases e' with z | z
      · rw [z]; exact Nat.le_add_right _ _
      · rw [z]; exact Nat.le_refl _
    exact I1.fpOk hle (I1.hok.fresh hle)
theorem walk_enumT {K : PySem.W.Frag} {a : Addr} {xs : List V} : Walk (IteT K a) xs.length (fun H => SqT K H a xs) (YPair (fun i => some (.int (i : Nat))) (fun i => xs[i]?)) := by
  refine ⟨fun i _ hi q => ⟨xs, xs[i], q, by simp [hi]⟩, fun _ q => ⟨xs, q, Nat.le_refl _⟩, fun i H v H' _ q y => ?_⟩
  obtain ⟨T, x, h1, h2, h3, h4⟩ := y
  exact ⟨T, .int (i : Nat), x, h1, h2, h3, rfl, h4 xs q⟩
theorem pi_enumL {X : Cx} {K : PySem.W.Frag} {e : Expr} {ta : TA} {p pos tpos : Pos} {elts : List Expr} {kk : Nat} (hK : X.K = K) (hg : Gl X "enumerate") (hm : X.mg "enumerate" = none) (ha : PA X [e] ta) (hs : starEach [e] X.env = [(false, eval e X.env)] := by rfl) :
    PI X (.Tuple elts kk tpos) (.Call (.Name "enumerate" p) [e] [] pos) (iEnum K ta) := hK ▸ pi_enum hg hm ha hs
section
variable {K : PySem.W.Frag} {σ : L2.St} {H : Hp} {R : It → Hp → Prop} {ta : TA} {a : Addr} {xs : List V}
theorem s_ienT (h : ta σ H fun vs H1 => ∃ a xs, vs = [.ref a] ∧ SqT K H1 a xs ∧ R (IteT K a) H1) : iEnumT K ta σ H R := h
theorem s_ienL (h : ta σ H fun vs H1 => ∃ a xs, vs = [.ref a] ∧ SqL K H1 a xs ∧ R (Ite K a) H1) : iEnum K ta σ H R := h
theorem s_eT {S : Addr → Prop} (h : H a = some (.tup xs)) (q : S a) : ∃ a' xs', [V.ref a] = [.ref a'] ∧ SqT K H a' xs' ∧ S a' := ⟨a, xs, rfl, SqT.of h, q⟩
theorem s_eL {S : Addr → Prop} (h : H a = some (.lst xs)) (q : S a) : ∃ a' xs', [V.ref a] = [.ref a'] ∧ SqL K H a' xs' ∧ S a' := ⟨a, xs, rfl, SqL.of h, q⟩
end
/-! lists of texts -/
section
variable {K : PySem.W.Frag} {H : Hp} {Q : VK} {p : Addr} {zs : List Str} {z : Str}
theorem flat_strs (zs : List Str) : (zs.map V.str).all flatV = true := by
  rw [List.all_eq_true]
  intro x hx
  obtain ⟨y, _, rfl⟩ := List.mem_map.mp hx
  rfl
theorem eqV_str {a b : Str} : eqV (.str a) (.str b) = decide (a = b) := by
  first
    | (show decide (V.str a = V.str b) = _; exact U.dec_str)
    | rfl
    | simp [eqV]
theorem inV_strs : inV (.str z) (zs.map V.str) = decide (z ∈ zs) := by
  induction zs with
  | nil => rfl
  | cons y zs ih =>
    unfold inV at ih ⊢
    rw [List.map_cons, List.any_cons, ih, eqV_str]
    by_cases h : y = z
    · subst h; simp
    · simp [h, Ne.symm h]
theorem s_inS (h : SqL K H p (zs.map V.str)) (q : Q (.bl (decide (z ∈ zs))) H) : uIn K false (.str z) (.ref p) H Q := Or.inr ⟨p, _, rfl, Or.inl h, rfl, flat_strs zs, by rw [inV_strs]; exact q⟩
theorem s_ninS (h : SqL K H p (zs.map V.str)) (q : Q (.bl (!decide (z ∈ zs))) H) : uIn K true (.str z) (.ref p) H Q := Or.inr ⟨p, _, rfl, Or.inl h, rfl, flat_strs zs, by rw [inV_strs]; exact q⟩
theorem s_inT (h : SqT K H p (zs.map V.str)) (q : Q (.bl (decide (z ∈ zs))) H) : uIn K false (.str z) (.ref p) H Q := Or.inr ⟨p, _, rfl, Or.inr h, rfl, flat_strs zs, by rw [inV_strs]; exact q⟩
theorem s_ninT (h : SqT K H p (zs.map V.str)) (q : Q (.bl (!decide (z ∈ zs))) H) : uIn K true (.str z) (.ref p) H Q := Or.inr ⟨p, _, rfl, Or.inr h, rfl, flat_strs zs, by rw [inV_strs]; exact q⟩
theorem mt_ix {X : Cx} (hK : X.K = K) : MtR X "list.index" (rIndex K) := hK ▸ mt_index
theorem s_indexS {j : Nat} (h : SqL K H p (zs.map V.str)) (e : zs[j]? = some z) (nd : zs.Nodup) (q : Q (.int j) H) : rIndex K (.ref p) [.str z] H Q := by
  refine ⟨p, _, .str z, j, .str z, rfl, rfl, h, rfl, flat_strs zs, by rw [List.getElem?_map, e]; rfl, by rw [eqV_str]; simp, fun m z' hm hz' => ?_, q⟩
  rw [List.getElem?_map] at hz'
  obtain ⟨y, ey, rfl⟩ := Option.map_eq_some_iff.mp hz'
  rw [eqV_str]
  refine decide_eq_false fun hy => ?_
  subst hy
  have := (List.getElem?_inj (List.getElem?_eq_some_iff.mp ey).1 nd).mp (ey.trans e.symm)
  omega
end
end U

namespace U
open PySem L2 PySem.Spec PyProof.Rows
section
variable {K : PySem.W.Frag} {σ : L2.St} {H : Hp} {a : Addr} {vs : List V} {g : TG} {tb : TS} {D : Ends}
/-- for x in a list or a tuple -/
theorem for_sq (e : H a = some (.lst vs) ∨ H a = some (.tup vs)) (Pv : Nat → L2.St → Hp → Prop) (h0 : Pv 0 σ H) (hG : ∀ i σ' H', Pv i σ' H' → ∀ o, H a = some o → H' a = some o)
    (hs : ∀ i x σ' H', vs[i]? = some x → Pv i σ' H' → g x σ' H' fun σ2 H2 => tb { D with nx := Pv (i + 1), ct := Pv (i + 1), bk := D.nx } σ2 H2) (hd : ∀ σ' H', Pv vs.length σ' H' → D.nx σ' H') :
    ∃ a', V.ref a = .ref a' ∧ (((∃ xs, SqL K H a' xs) ∧ ∃ W : Nat → Nat → L2.St → Hp → Prop, (∃ m, W 0 m σ H) ∧ ∀ i m σ H, W i m σ H →
      ((Itl K a').stop i H ∧ D.nx σ H) ∨ ((Itl K a').go i H ∧ ∃ N : L2.St → Hp → Prop, (∀ σ' H', N σ' H' → ∃ m', m' < m ∧ W (i + 1) m' σ' H') ∧ ∀ x H', (Itl K a').yld i H x H' → g x σ H' fun σ2 H2 => tb { D with nx := N, ct := N, bk := D.nx } σ2 H2)) ∨
      ((∃ xs, SqT K H a' xs) ∧ ∃ W : Nat → Nat → L2.St → Hp → Prop, (∃ m, W 0 m σ H) ∧ ∀ i m σ H, W i m σ H →
      ((Itt K a').stop i H ∧ D.nx σ H) ∨ ((Itt K a').go i H ∧ ∃ N : L2.St → Hp → Prop, (∀ σ' H', N σ' H' → ∃ m', m' < m ∧ W (i + 1) m' σ' H') ∧ ∀ x H', (Itt K a').yld i H x H' → g x σ H' fun σ2 H2 => tb { D with nx := N, ct := N, bk := D.nx } σ2 H2))) := by
  refine ⟨a, rfl, ?_⟩
  rcases e with e | e
  · refine Or.inl ⟨⟨vs, SqL.of e⟩, for_it (walk_list (xs := vs)) Pv h0 (fun i σ' H' _ p => SqL.of (hG i σ' H' p _ e)) (fun i x σ' H1 H2 hi p y => ?_) hd⟩
    obtain ⟨rfl, ex⟩ := y
    exact hs i x σ' H2 ex p
  · refine Or.inr ⟨⟨vs, SqT.of e⟩, for_it (walk_tup (xs := vs)) Pv h0 (fun i σ' H' _ p => SqT.of (hG i σ' H' p _ e)) (fun i x σ' H1 H2 hi p y => ?_) hd⟩
    obtain ⟨rfl, ex⟩ := y
    exact hs i x σ' H2 ex p
theorem for_L (e : H a = some (.lst vs)) (Pv : Nat → L2.St → Hp → Prop) (h0 : Pv 0 σ H) (hG : ∀ i σ' H', Pv i σ' H' → ∀ o, H a = some o → H' a = some o)
    (hs : ∀ i x σ' H', vs[i]? = some x → Pv i σ' H' → g x σ' H' fun σ2 H2 => tb { D with nx := Pv (i + 1), ct := Pv (i + 1), bk := D.nx } σ2 H2) (hd : ∀ σ' H', Pv vs.length σ' H' → D.nx σ' H') :
    ∃ W : Nat → Nat → L2.St → Hp → Prop, (∃ m, W 0 m σ H) ∧ ∀ i m σ H, W i m σ H →
      ((Itl K a).stop i H ∧ D.nx σ H) ∨ ((Itl K a).go i H ∧ ∃ N : L2.St → Hp → Prop, (∀ σ' H', N σ' H' → ∃ m', m' < m ∧ W (i + 1) m' σ' H') ∧ ∀ x H', (Itl K a).yld i H x H' → g x σ H' fun σ2 H2 => tb { D with nx := N, ct := N, bk := D.nx } σ2 H2) :=
  for_it (walk_list (xs := vs)) Pv h0 (fun i σ' H' _ p => SqL.of (hG i σ' H' p _ e)) (fun i x σ' H1 H2 hi p y => by
    obtain ⟨rfl, ex⟩ := y
    exact hs i x σ' H2 ex p) hd
/-- for j, x in enumerate(tuple): the pair T is new -/
theorem for_eT (e : H a = some (.tup vs)) (Pv : Nat → L2.St → Hp → Prop) (h0 : Pv 0 σ H) (hG : ∀ i σ' H', Pv i σ' H' → ∀ xs, H a = some (.tup xs) → H' a = some (.tup xs))
    (hs : ∀ i x σ' H' T H2, vs[i]? = some x → Pv i σ' H' → H' T = none → H2 T = some (.tup [.int (i : Nat), x]) → Kp [] H' H2 → g (.ref T) σ' H2 fun σ2 H3 => tb { D with nx := Pv (i + 1), ct := Pv (i + 1), bk := D.nx } σ2 H3) (hd : ∀ σ' H', Pv vs.length σ' H' → D.nx σ' H') :
    ∃ W : Nat → Nat → L2.St → Hp → Prop, (∃ m, W 0 m σ H) ∧ ∀ i m σ H, W i m σ H →
      ((IteT K a).stop i H ∧ D.nx σ H) ∨ ((IteT K a).go i H ∧ ∃ N : L2.St → Hp → Prop, (∀ σ' H', N σ' H' → ∃ m', m' < m ∧ W (i + 1) m' σ' H') ∧ ∀ x H', (IteT K a).yld i H x H' → g x σ H' fun σ2 H2 => tb { D with nx := N, ct := N, bk := D.nx } σ2 H2) :=
  for_it (walk_enumT (xs := vs)) Pv h0 (fun i σ' H' _ p => SqT.of (hG i σ' H' p _ e)) (fun i x σ' H1 H2 hi p y => by
    obtain ⟨T, x1, x2, rfl, f, rfl, e1, e2⟩ := y
    cases Option.some.inj e1
    exact hs i x2 σ' H1 T _ e2 p f upd_same (Kp.refl.new f)) hd
theorem for_eL (e : H a = some (.lst vs)) (Pv : Nat → L2.St → Hp → Prop) (h0 : Pv 0 σ H) (hG : ∀ i σ' H', Pv i σ' H' → ∀ o, H a = some o → H' a = some o)
    (hs : ∀ i x σ' H' T H2, vs[i]? = some x → Pv i σ' H' → H' T = none → H2 T = some (.tup [.int (i : Nat), x]) → Kp [] H' H2 → g (.ref T) σ' H2 fun σ2 H3 => tb { D with nx := Pv (i + 1), ct := Pv (i + 1), bk := D.nx } σ2 H3) (hd : ∀ σ' H', Pv vs.length σ' H' → D.nx σ' H') :
    ∃ W : Nat → Nat → L2.St → Hp → Prop, (∃ m, W 0 m σ H) ∧ ∀ i m σ H, W i m σ H →
      ((Ite K a).stop i H ∧ D.nx σ H) ∨ ((Ite K a).go i H ∧ ∃ N : L2.St → Hp → Prop, (∀ σ' H', N σ' H' → ∃ m', m' < m ∧ W (i + 1) m' σ' H') ∧ ∀ x H', (Ite K a).yld i H x H' → g x σ H' fun σ2 H2 => tb { D with nx := N, ct := N, bk := D.nx } σ2 H2) :=
  for_it (walk_enum (xs := vs)) Pv h0 (fun i σ' H' _ p => SqL.of (hG i σ' H' p _ e)) (fun i x σ' H1 H2 hi p y => by
    obtain ⟨T, x1, x2, rfl, f, rfl, e1, e2⟩ := y
    cases Option.some.inj e1
    exact hs i x2 σ' H1 T _ e2 p f upd_same (Kp.refl.new f)) hd
variable {tt : TT} {te : TE} {ns : List Nat} {A : Addr} {Qd : Hp → Prop} {Pv : Nat → List V → Hp → Prop}
/-- a comprehension over a tuple / a list -/
theorem lc_T (e : H a = some (.tup vs)) (hA : H A = none) (Pv : Nat → List V → Hp → Prop) (h0 : ∀ H', H' A = some (.lst []) → Kp [] H H' → Pv 0 [] H') (hG : ∀ i acc H', Pv i acc H' → ∀ xs, H a = some (.tup xs) → H' a = some (.tup xs))
    (hs : ∀ i x acc H', vs[i]? = some x → H' A = some (.lst acc) → Pv i acc H' → g x (wipe σ ns) H' fun σ2 H2 => wipe σ2 ns = wipe σ ns ∧ tt σ2 H2 fun b H3 =>
      if b = true then te σ2 H3 fun y H4 => ∃ acc, H4 A = some (.lst acc) ∧ acc.length < sizeLine ∧ PvD A Pv (i + 1) (upd H4 A (.lst (acc ++ [y]))) else PvD A Pv (i + 1) H3) (hd : ∀ acc H', H' A = some (.lst acc) → Pv vs.length acc H' → Qd H') :
    ∃ W : Nat → Nat → Hp → Prop, (∃ m, W 0 m (upd H A (.lst []))) ∧ ∀ i m H, W i m H →
      ((Itt K a).stop i H ∧ Qd H) ∨ ((Itt K a).go i H ∧ ∃ Nx : Hp → Prop, (∀ H', Nx H' → ∃ m', m' < m ∧ W (i + 1) m' H') ∧ ∀ x H', (Itt K a).yld i H x H' → g x (wipe σ ns) H' fun σ2 H2 => wipe σ2 ns = wipe σ ns ∧ tt σ2 H2 fun b H3 =>
        if b = true then te σ2 H3 fun y H4 => ∃ acc, H4 A = some (.lst acc) ∧ acc.length < sizeLine ∧ Nx (upd H4 A (.lst (acc ++ [y]))) else Nx H3) :=
  lc_it (walk_tup (xs := vs)) (PvD A Pv) (PvD.begin hA h0) (fun i H' _ p => by
    obtain ⟨acc, _, p⟩ := p
    exact SqT.of (hG i acc H' p _ e)) (fun i x H1 H2 hi p y => by
    obtain ⟨rfl, ex⟩ := y
    obtain ⟨acc, ea, p⟩ := p
    exact hs i x acc H2 ex ea p) (fun H' p => by
    obtain ⟨acc, ea, p⟩ := p
    exact hd acc H' ea p)
theorem lc_L (e : H a = some (.lst vs)) (hA : H A = none) (Pv : Nat → List V → Hp → Prop) (h0 : ∀ H', H' A = some (.lst []) → Kp [] H H' → Pv 0 [] H') (hG : ∀ i acc H', Pv i acc H' → ∀ o, H a = some o → H' a = some o)
    (hs : ∀ i x acc H', vs[i]? = some x → H' A = some (.lst acc) → Pv i acc H' → g x (wipe σ ns) H' fun σ2 H2 => wipe σ2 ns = wipe σ ns ∧ tt σ2 H2 fun b H3 =>
      if b = true then te σ2 H3 fun y H4 => ∃ acc, H4 A = some (.lst acc) ∧ acc.length < sizeLine ∧ PvD A Pv (i + 1) (upd H4 A (.lst (acc ++ [y]))) else PvD A Pv (i + 1) H3) (hd : ∀ acc H', H' A = some (.lst acc) → Pv vs.length acc H' → Qd H') :
    ∃ W : Nat → Nat → Hp → Prop, (∃ m, W 0 m (upd H A (.lst []))) ∧ ∀ i m H, W i m H →
      ((Itl K a).stop i H ∧ Qd H) ∨ ((Itl K a).go i H ∧ ∃ Nx : Hp → Prop, (∀ H', Nx H' → ∃ m', m' < m ∧ W (i + 1) m' H') ∧ ∀ x H', (Itl K a).yld i H x H' → g x (wipe σ ns) H' fun σ2 H2 => wipe σ2 ns = wipe σ ns ∧ tt σ2 H2 fun b H3 =>
        if b = true then te σ2 H3 fun y H4 => ∃ acc, H4 A = some (.lst acc) ∧ acc.length < sizeLine ∧ Nx (upd H4 A (.lst (acc ++ [y]))) else Nx H3) :=
  lc_it (walk_list (xs := vs)) (PvD A Pv) (PvD.begin hA h0) (fun i H' _ p => by
    obtain ⟨acc, _, p⟩ := p
    exact SqL.of (hG i acc H' p _ e)) (fun i x H1 H2 hi p y => by
    obtain ⟨rfl, ex⟩ := y
    obtain ⟨acc, ea, p⟩ := p
    exact hs i x acc H2 ex ea p) (fun H' p => by
    obtain ⟨acc, ea, p⟩ := p
    exact hd acc H' ea p)
theorem lc_eL (e : H a = some (.lst vs)) (hA : H A = none) (Pv : Nat → List V → Hp → Prop) (h0 : ∀ H', H' A = some (.lst []) → Kp [] H H' → Pv 0 [] H') (hG : ∀ i acc H', Pv i acc H' → ∀ o, H a = some o → H' a = some o)
    (hs : ∀ i x acc H' T H2, vs[i]? = some x → H' A = some (.lst acc) → Pv i acc H' → H' T = none → H2 T = some (.tup [.int (i : Nat), x]) → Kp [] H' H2 → g (.ref T) (wipe σ ns) H2 fun σ2 H2 => wipe σ2 ns = wipe σ ns ∧ tt σ2 H2 fun b H3 =>
      if b = true then te σ2 H3 fun y H4 => ∃ acc, H4 A = some (.lst acc) ∧ acc.length < sizeLine ∧ PvD A Pv (i + 1) (upd H4 A (.lst (acc ++ [y]))) else PvD A Pv (i + 1) H3) (hd : ∀ acc H', H' A = some (.lst acc) → Pv vs.length acc H' → Qd H') :
    ∃ W : Nat → Nat → Hp → Prop, (∃ m, W 0 m (upd H A (.lst []))) ∧ ∀ i m H, W i m H →
      ((Ite K a).stop i H ∧ Qd H) ∨ ((Ite K a).go i H ∧ ∃ Nx : Hp → Prop, (∀ H', Nx H' → ∃ m', m' < m ∧ W (i + 1) m' H') ∧ ∀ x H', (Ite K a).yld i H x H' → g x (wipe σ ns) H' fun σ2 H2 => wipe σ2 ns = wipe σ ns ∧ tt σ2 H2 fun b H3 =>
        if b = true then te σ2 H3 fun y H4 => ∃ acc, H4 A = some (.lst acc) ∧ acc.length < sizeLine ∧ Nx (upd H4 A (.lst (acc ++ [y]))) else Nx H3) :=
  lc_it (walk_enum (xs := vs)) (PvD A Pv) (PvD.begin hA h0) (fun i H' _ p => by
    obtain ⟨acc, _, p⟩ := p
    exact SqL.of (hG i acc H' p _ e)) (fun i x H1 H2 hi p y => by
    obtain ⟨T, x1, x2, rfl, f, rfl, e1, e2⟩ := y
    cases Option.some.inj e1
    obtain ⟨acc, ea, p⟩ := p
    exact hs i x2 acc H1 T _ e2 ea p f upd_same (Kp.refl.new f)) (fun H' p => by
    obtain ⟨acc, ea, p⟩ := p
    exact hd acc H' ea p)
/-- in range(n) -/
theorem lc_R {lo : Int} {n : Nat} (hA : H A = none) (Pv : Nat → List V → Hp → Prop) (h0 : ∀ H', H' A = some (.lst []) → Kp [] H H' → Pv 0 [] H')
    (hs : ∀ i acc H', i < n → H' A = some (.lst acc) → Pv i acc H' → g (.int (lo + i)) (wipe σ ns) H' fun σ2 H2 => wipe σ2 ns = wipe σ ns ∧ tt σ2 H2 fun b H3 =>
      if b = true then te σ2 H3 fun y H4 => ∃ acc, H4 A = some (.lst acc) ∧ acc.length < sizeLine ∧ PvD A Pv (i + 1) (upd H4 A (.lst (acc ++ [y]))) else PvD A Pv (i + 1) H3) (hd : ∀ acc H', H' A = some (.lst acc) → Pv n acc H' → Qd H') :
    ∃ W : Nat → Nat → Hp → Prop, (∃ m, W 0 m (upd H A (.lst []))) ∧ ∀ i m H, W i m H →
      ((Itr lo n).stop i H ∧ Qd H) ∨ ((Itr lo n).go i H ∧ ∃ Nx : Hp → Prop, (∀ H', Nx H' → ∃ m', m' < m ∧ W (i + 1) m' H') ∧ ∀ x H', (Itr lo n).yld i H x H' → g x (wipe σ ns) H' fun σ2 H2 => wipe σ2 ns = wipe σ ns ∧ tt σ2 H2 fun b H3 =>
        if b = true then te σ2 H3 fun y H4 => ∃ acc, H4 A = some (.lst acc) ∧ acc.length < sizeLine ∧ Nx (upd H4 A (.lst (acc ++ [y]))) else Nx H3) :=
  lc_it walk_range (PvD A Pv) (PvD.begin hA h0) (fun _ _ _ _ => trivial) (fun i x H1 H2 hi p y => by
    obtain ⟨rfl, rfl⟩ := y
    obtain ⟨acc, ea, p⟩ := p
    exact hs i acc H2 hi ea p) (fun H' p => by
    obtain ⟨acc, ea, p⟩ := p
    exact hd acc H' ea p)
theorem for_R {lo : Int} {n : Nat} (Pv : Nat → L2.St → Hp → Prop) (h0 : Pv 0 σ H)
    (hs : ∀ i σ' H', i < n → Pv i σ' H' → g (.int (lo + i)) σ' H' fun σ2 H2 => tb { D with nx := Pv (i + 1), ct := Pv (i + 1), bk := D.nx } σ2 H2) (hd : ∀ σ' H', Pv n σ' H' → D.nx σ' H') :
    ∃ W : Nat → Nat → L2.St → Hp → Prop, (∃ m, W 0 m σ H) ∧ ∀ i m σ H, W i m σ H →
      ((Itr lo n).stop i H ∧ D.nx σ H) ∨ ((Itr lo n).go i H ∧ ∃ N : L2.St → Hp → Prop, (∀ σ' H', N σ' H' → ∃ m', m' < m ∧ W (i + 1) m' σ' H') ∧ ∀ x H', (Itr lo n).yld i H x H' → g x σ H' fun σ2 H2 => tb { D with nx := N, ct := N, bk := D.nx } σ2 H2) :=
  for_it walk_range Pv h0 (fun _ _ _ _ _ => trivial) (fun i x σ' H1 H2 hi p y => by
    obtain ⟨rfl, rfl⟩ := y
    exact hs i σ' H2 hi p) hd
end
theorem pg_tupK {X : Cx} {K : PySem.W.Frag} {es : List Expr} {k n : Nat} {t : TGs} {pos : Pos} (hK : X.K = K) (hc : X.calm = true) (h : PGs X es t)
    (hn : (assignEach es X.env).length = n := by rfl) (hst : (assignEach es X.env).findIdx? (·.1) = none := by rfl) : PG X (.Tuple es k pos) (gTup K n t) := hK ▸ pg_tup hc h hn hst
theorem s_nameR {σ τ : L2.St} {H : Hp} {i : Nat} {v : V} {R : L2.St → Hp → Prop} (e : σ.set i (some v) = τ) (h : R τ H) : gName i v σ H R := by subst e; exact h
/-! rows: things that stand for tuples -/
inductive Rw (H : Hp) : List V → List (List V) → Prop
  | nil : Rw H [] []
  | cons {u : Addr} {r : List V} {vs : List V} {rs : List (List V)} : H u = some (.tup r) → Rw H vs rs → Rw H (.ref u :: vs) (r :: rs)
section
variable {H H1 : Hp} {vs ws : List V} {rs ss : List (List V)} {ps : List Addr}
theorem Rw.kp (h : Rw H vs rs) (k : Kp ps H H1) : Rw H1 vs rs := by
  induction h with
  | nil => exact .nil
  | cons e _ ih => exact .cons (k.tgt e) ih
theorem Rw.len (h : Rw H vs rs) : vs.length = rs.length := by
  induction h with
  | nil => rfl
  | cons e _ ih => simp [ih]
theorem Rw.app (h : Rw H vs rs) (g : Rw H ws ss) : Rw H (vs ++ ws) (rs ++ ss) := by
  induction h with
  | nil => exact g
  | cons e _ ih => exact .cons e ih
theorem Rw.one {u : Addr} {r : List V} (e : H u = some (.tup r)) : Rw H [.ref u] [r] := .cons e .nil
theorem Rw.at (h : Rw H vs rs) {i : Nat} {x : V} (e : vs[i]? = some x) : ∃ u r, x = .ref u ∧ rs[i]? = some r ∧ H u = some (.tup r) := by
  induction h generalizing i with
  | nil => simp at e
  | @cons u r vs rs e1 _ ih =>
    cases i with
    | zero => exact ⟨u, r, by simpa using e.symm, rfl, e1⟩
    | succ i => exact ih (by simpa using e)
theorem Rw.take (h : Rw H vs rs) (n : Nat) : Rw H (vs.take n) (rs.take n) := by
  induction h generalizing n with
  | nil => cases n <;> exact .nil
  | cons e _ ih => cases n with
    | zero => exact .nil
    | succ n => exact .cons e (ih n)
end
end U

namespace U
open PySem L2 PySem.Spec PyProof.Rows
theorem pg_lstK {X : Cx} {K : PySem.W.Frag} {es : List Expr} {k n : Nat} {t : TGs} {pos : Pos} (hK : X.K = K) (hc : X.calm = true) (h : PGs X es t)
    (hn : (assignEach es X.env).length = n := by rfl) (hst : (assignEach es X.env).findIdx? (·.1) = none := by rfl) : PG X (.Tuple es k pos) (gLst K n t) := hK ▸ pg_lst hc h hn hst
theorem s_glu {K : PySem.W.Frag} {σ : L2.St} {H : Hp} {p : Addr} {xs : List V} {R : L2.St → Hp → Prop} {t : TGs} {k : Nat} (h : H p = some (.lst xs)) (hl : xs.length = k) (q : t xs σ H R) : gLst K k t (.ref p) σ H R := ⟨p, xs, rfl, SqL.of h, hl, q⟩
theorem at_head {xs : List V} {v : V} : atI (xs ++ [v]) 0 = some (xs.head?.getD v) := by
  cases xs with
  | nil => rfl
  | cons x r =>
    unfold atI ixN
    rw [if_pos (by decide), if_pos (by simp; omega)]
    rfl
/-! texts by their signs -/
def S (cs : List Nat) : Str := ⟨cs.toArray⟩
theorem S_of (z : Str) : S z.cps.toList = z := by
  unfold S; simp
theorem S_len (cs : List Nat) : (S cs).length = cs.length := by simp [S, Str.length]
theorem S_app (a b : List Nat) : S a ++ S b = S (a ++ b) := Str.ext' (by simp [S, Str.cps_append])
theorem S_inj {a b : List Nat} (h : S a = S b) : a = b := by
  have := congrArg (fun z : Str => z.cps.toList) h
  simpa [S] using this
theorem S_cps (cs : List Nat) : (S cs).cps.toList = cs := by simp [S]
theorem S_cut (cs : List Nat) (lo hi : Option Int) : cutS (S cs) lo hi = S ((cs.drop (HT.sIx cs.length 0 lo)).take (HT.sIx cs.length cs.length hi - HT.sIx cs.length 0 lo)) := by
  unfold cutS
  rw [S_cps, S_len]
  rfl
theorem S_pre (cs : List Nat) {n : Int} (h0 : 0 ≤ n) : cutS (S cs) none (some n) = S (cs.take n.toNat) := by
  rw [S_cut]
  congr 1
  obtain ⟨k, rfl⟩ := Int.eq_ofNat_of_zero_le h0
  rw [HT.sIx_none, HT.sIx_nat, List.drop_zero]
  simp
theorem S_mid (cs : List Nat) {n m : Int} (h0 : 0 ≤ n) (h1 : 0 ≤ m) : cutS (S cs) (some n) (some m) = S ((cs.drop n.toNat).take (m.toNat - n.toNat)) := by
  rw [S_cut]
  congr 1
  obtain ⟨k, rfl⟩ := Int.eq_ofNat_of_zero_le h0
  obtain ⟨l, rfl⟩ := Int.eq_ofNat_of_zero_le h1
  rw [HT.sIx_nat, HT.sIx_nat]
  simp only [Int.toNat_natCast]
  apply List.ext_getElem?
  intro i
  simp only [List.getElem?_take, List.getElem?_drop]
  by_cases c : k + i < cs.length
  · have e1 : min k cs.length = k := by omega
    rw [e1]
    by_cases d : i < l - k
    · rw [if_pos (by omega), if_pos d]
    · rw [if_neg (by omega), if_neg d]
  · have e2 : cs[k + i]? = none := List.getElem?_eq_none (by omega)
    have e3 : cs[min k cs.length + i]? = none := List.getElem?_eq_none (by omega)
    rw [e2, e3]
    split <;> split <;> rfl
theorem S_join (cs : List Nat) : Txt.join (Str.ofString "") (cs.map fun c => ⟨#[c]⟩) = S cs := join_ones cs
theorem SS.S {cs : List Nat} {n : Nat} (h : cs.length ≤ n) (g : ∀ c ∈ cs, c < 1114112) : SS (S cs) n := ⟨by rw [S_len]; exact h, by rw [S_cps]; exact g⟩
theorem range_snoc {α : Type} (f : Nat → α) (i : Nat) : (List.range (i + 1)).map f = (List.range i).map f ++ [f i] := by
  rw [List.range_succ, List.map_append]
  rfl
theorem range_nodup {f : Nat → Str} {n : Nat} (h : ∀ i j, i < n → j < n → f i = f j → i = j) : ((List.range n).map f).Nodup := by
  rw [List.nodup_iff_pairwise_ne, List.pairwise_map]
  refine List.Pairwise.imp_of_mem ?_ (List.nodup_iff_pairwise_ne.mp List.nodup_range)
  intro a b ha hb hne e
  exact hne (h a b (List.mem_range.mp ha) (List.mem_range.mp hb) e)
section
variable {H : Hp} {ps : List Addr} {l : Addr} {vs : List V} {rs : List (List V)}
theorem hid_le : Kp [] (hid ps H) H := ⟨fun b o e _ => (hid_some e).1, fun b i ⟨o, e, r⟩ => ⟨o, (hid_some e).1, r⟩, fun b xs e => (hid_some e).1⟩
theorem hid_tup {b : Addr} {xs : List V} (e : H b = some (.tup xs)) (t : Th H l 0) : hid [l] H b = some (.tup xs) := hid_of e (by simpa using (Th.tup e).nk t rfl)
theorem Rw.hid (h : Rw H vs rs) (t : Th H l 0) : Rw (U.hid [l] H) vs rs := by
  induction h with
  | nil => exact .nil
  | cons e _ ih => exact .cons (hid_tup e t) ih
theorem cut_sub {lo hi : Option Int} {v : V} (h : v ∈ cutV vs lo hi) : v ∈ vs := List.mem_of_mem_drop (List.mem_of_mem_take h)
end
end U

namespace U
open PySem L2 PySem.Spec PyProof.Rows
/-! list(range(a, b)) -/
section
variable {X : Cx} {K : PySem.W.Frag} {H : Hp} {Q : VK} {p : Addr} {i j : Int}
def rngV (i : Int) (n : Nat) : List V := (List.range n).map fun k => V.int (i + (k : Nat))
def uRange : List V → Hp → VK → Prop := fun vs H Q => ∃ i j, vs = [V.int i, V.int j] ∧ ∀ p, H p = none → Q (.ref p) (upd H p (.rng i j))
theorem c_range2 : CallR X (.type "range") uRange := cr_range2
def uListR : List V → Hp → VK → Prop := fun xs H Q => ∃ p i j, xs = [.ref p] ∧ H p = some (.rng i j) ∧ -(2 ^ 30) ≤ i ∧ i < 2 ^ 30 ∧ -(2 ^ 30) ≤ j ∧ j < 2 ^ 30 ∧ (j - i).toNat ≤ 2 ^ 20 ∧ ∀ l, H l = none → Q (.ref l) (upd H l (.lst (rngV i (j - i).toNat)))
theorem c_listR (hc : X.calm = true) : CallR X (.type "list") uListR := by
  intro pins s σ H xs us Q I r h
  obtain ⟨p, i, j, rfl, hp, i0, i1, j0, j1, hn, q⟩ := h
  obtain ⟨u, eu, rx⟩ := vals1 r
  subst eu
  obtain rfl : u = Value.ref p := rx
  obtain ⟨t, u, v, e⟩ := (show ObjOk X.prog X.w H s.heap p (.rng i j) from I.hok p _ hp)
  have hsm : Builtin.Range.small i j 1 = true := small_one (by omega) (by omega) (by omega) (by omega)
  have hsz : Builtin.Range.rangeSize i j 1 = (j - i).toNat := by
    unfold Builtin.Range.rangeSize
    simp
    split <;> omega
  refine call_list_range (I.ok.hd hc) e hsm hsz (Nat.le_trans hn (by decide)) fun h' tk acc' c' hk hS hacc => ?_
  refine ⟨.ref s.heap.objs.size, upd H s.heap.objs.size (.lst (rngV i (j - i).toNat)), I.laid hk (Nat.le_refl _) (show ObjOk X.prog X.w _ _ _ (.lst (rngV i (j - i).toNat)) from ⟨?_, acc'.toList, c', ?_, ?_⟩), rfl, q _ (I.hok.fresh (Nat.le_refl _))⟩
  · rw [rngV, List.length_map, List.length_range]
    exact Nat.le_trans hn (by decide)
  · refine vals_of_at (by rw [rngV, List.length_map, List.length_range, Array.length_toList, hacc.1]) fun m x w h1 h2 => ?_
    obtain ⟨tk', ew⟩ := hacc.2 m w (by rw [← Array.getElem?_toList]; exact h2)
    rw [rngV, List.getElem?_map] at h1
    obtain ⟨m', e1, rfl⟩ := Option.map_eq_some_iff.mp h1
    have : m' = m := by
      have hm := (List.getElem?_eq_some_iff.mp e1)
      obtain ⟨h3, h4⟩ := hm
      rw [List.getElem_range] at h4
      exact h4.symm
    subst this
    refine ⟨tk', ?_⟩
    rw [ew]
    congr 1
    omega
  · simpa using hS
theorem s_rngN (q : ∀ p H', H p = none → H' p = some (.rng i j) → Kp [] H H' → Q (.ref p) H') : uRange [.int i, .int j] H Q := ⟨i, j, rfl, new_abs (R := fun p H' => Q (.ref p) H') q⟩
theorem s_listR (h : H p = some (.rng i j)) (b : -(2 ^ 30) ≤ i ∧ i < 2 ^ 30 ∧ -(2 ^ 30) ≤ j ∧ j < 2 ^ 30 ∧ (j - i).toNat ≤ 2 ^ 20) (q : ∀ l H', H l = none → H' l = some (.lst (rngV i (j - i).toNat)) → Kp [] H H' → Q (.ref l) H') : uListR [.ref p] H Q :=
  ⟨p, i, j, rfl, h, b.1, b.2.1, b.2.2.1, b.2.2.2.1, b.2.2.2.2, new_abs (R := fun p H' => Q (.ref p) H') q⟩
end
end U

namespace U
open PySem L2 PySem.Spec PyProof.Rows
/-! C(e, ..), the last one left out (its default is None) -/
section
variable {X : Cx} {k : Nat} {f C : Addr} {fd : FuncData} {ps : List Str} {sp : Sp} {W : WX} {x : Str} {p pos : Pos} {e : Expr} {es : List Expr} {t : TA}
variable {pi : List (Addr × Obj)} {σ : L2.St} {H : Hp} {s : Shared} {Q : VK} {us : List Value} {vs : List V}
def tNwD (C : Addr) (sp : Sp) (W : WX) (t : TA) : TE := fun σ H Q => t σ H fun vs H1 => NewK C sp (fun cls d H' => W cls d σ H') Q (vs ++ [.non]) H1
theorem run_nwD (M : Mk X.K C f) (F : FnOk X.prog X.w X.K X.mg X.base (L2.CX X.prog X.w) k f fd ps sp) (hr : Room (k + 1) X.A) (hb : Binds X.K fd ps [.none]) (tk : Takes X W) (I : Inv X pi σ H s) (r : Vals vs us)
    (h : NewK C sp (fun cls d H' => W cls d σ H') Q (vs ++ [.non]) H) : wpAny (model X.prog X.w) X.A (call (.ref C) us) (EP X pi σ Q) X.xe s := by
  have n1 : H (s.heap.objs.size + 1) = none := I.hok.fresh (Nat.le_succ _)
  have n0 : H s.heap.objs.size = none := I.hok.fresh (Nat.le_refl _)
  have hq := h (s.heap.objs.size + 1) s.heap.objs.size _ n1 upd_same ((Kp.refl.new (u := .own (s.heap.objs.size + 1)) n0).new (by rw [upd_ne (Nat.succ_ne_self _)]; exact n1))
  have I2 := Inv.made (C := C) I
  have r2 : Vals (V.ref (s.heap.objs.size + 1) :: (vs ++ [.non])) (Value.ref (s.heap.objs.size + 1) :: us ++ [.none]) := .cons rfl (r.append (.cons rfl .nil))
  have b : BindsTo _ fd ⟨Value.ref (s.heap.objs.size + 1) :: us, []⟩ (ps.zip (Value.ref (s.heap.objs.size + 1) :: us ++ [.none])) := hb _ (Value.ref (s.heap.objs.size + 1) :: us) I2.kIn (by rw [← r2.length]; exact F.len _ _ _ _ hq)
  refine wpAny_call (make_map (f := f) I.kIn M.makes M.init (beq_iff_eq.mp M.fn) (codeAny_mono (F.run _ X.stack _ _ ⟨Value.ref (s.heap.objs.size + 1) :: us, []⟩ (Value.ref (s.heap.objs.size + 1) :: us ++ [.none]) _ _ _ (hr.make C us [])
    (I2.env0.make C us []) b r2 hq) fun rr s' z => ?_))
  match rr, z with
  | .error er, z => exact tk er s' (XE.of_call I2 (fun _ _ _ y => y) z)
  | .ok (.ret u), z =>
    obtain ⟨v, H', I3, rv, ev, q3⟩ := I2.after z
    subst ev
    exact ⟨rv, ⟨V.ref (s.heap.objs.size + 1), H', I3, rfl, q3⟩⟩
  | .ok .next, z => exact z.elim
  | .ok .brk, z => exact z.elim
  | .ok .cont, z => exact z.elim
theorem pe_nwD (M : Mk X.K C f) (F : FnOk X.prog X.w X.K X.mg X.base (L2.CX X.prog X.w) k f fd ps sp) (hr : Room (k + 1) X.A) (gl : Gl X x) (hm : X.mg x = some (.ref C)) (hb : Binds X.K fd ps [.none]) (tk : Takes X W)
    (ha : PA X (e :: es) t) (h1 : (x == ("__debug__" : Str)) = false := by decide) (h2 : starEach (e :: es) X.env = (false, eval e X.env) :: starEach es X.env := by rfl) (h3 : (backTo pos (starEach es X.env)).any (·.1) = false := by rfl) :
    PE X (.Call (.Name x p) (e :: es) [] pos) (tNwD C sp W t) := by
  refine ⟨fun pi s σ H Q I h => wpAny_Call_Name_kw (ld_glob I gl hm ?_ h1)⟩
  refine PySem.W.callWith_K (h₀ := X.base) I.ok.mod.kin M.kp (thn (ha.run pos pi s σ H _ I h) ?_) h2 h3
  rintro us s1 ⟨vs, H1, I1, r, q⟩
  exact ⟨I1.kIn, run_nwD M F hr hb tk I1 r q⟩
theorem s_nwD {C : Addr} {sp : Sp} {W : WX} {t : TA} {σ : L2.St} {H : Hp} {Q : VK} (h : t σ H fun vs H1 => NewK C sp (fun cls d H' => W cls d σ H') Q (vs ++ [.non]) H1) : tNwD C sp W t σ H Q := h
end
theorem s_clear {H : Hp} {Q : VK} {p : Addr} {xs : List V} (h : H p = some (.lst xs)) (q : ∀ H', H' p = some (.lst []) → Kp [p] H H' → Q .non H') : rClear (.ref p) [] H Q := ⟨p, xs, rfl, rfl, h, put_abs h rfl (R := fun H' => Q .non H') q⟩
end U

namespace U
open PySem L2 PySem.Spec PyProof.Rows
/-! things that are data, by the places of their lists and dicts -/
section
variable {K : PySem.W.Frag} {H H1 H2 : Hp} {F G ps qs : List Addr} {a b p : Addr} {v y : V} {d e : PyData} {xs ys : List V} {ds : List PyData} {kvs : List (Key × V)}
def isTu : HO → Bool | .tup _ => true | _ => false
/-- the tuples, and what stands at F -/
def vis (F : List Addr) (H : Hp) : Hp := fun a => match H a with | none => none | some o => if isTu o = true ∨ a ∈ F then some o else none
theorem vis_some {o : HO} (h : vis F H a = some o) : H a = some o ∧ (isTu o = true ∨ a ∈ F) := by
  unfold vis at h
  cases e : H a with
  | none => rw [e] at h; cases h
  | some o' =>
    rw [e] at h
    simp only at h
    split at h
    · cases h; rename_i c; exact ⟨rfl, c⟩
    · cases h
theorem vis_of {o : HO} (h : H a = some o) (c : isTu o = true ∨ a ∈ F) : vis F H a = some o := by
  unfold vis
  rw [h]
  simp only
  rw [if_pos c]
theorem vis_tup (h : H a = some (.tup xs)) : vis F H a = some (.tup xs) := vis_of h (Or.inl rfl)
theorem ko_tu {o u : HO} (h : ko o = ko u) (c : isTu o = true) : isTu u = true := by
  cases o <;> simp [isTu] at c
  cases u <;> simp [ko, isTu] at h ⊢
theorem vis_kp (k : Kp ps H H1) (n : ∀ a ∈ ps, a ∉ F) : Kp [] (vis F H) (vis F H1) := ⟨fun b o e _ => by
  obtain ⟨e1, c⟩ := vis_some e
  rcases c with c | c
  · cases o <;> simp [isTu] at c
    exact vis_tup (k.tp b _ e1)
  · exact vis_of (k.get e1 fun m => n b m c) (Or.inr c), fun b i e => by
  obtain ⟨o, e, r⟩ := e
  obtain ⟨e1, c⟩ := vis_some e
  obtain ⟨o', e', r'⟩ := k.kd b i ⟨o, e1, r⟩
  exact ⟨o', vis_of e' (c.imp (fun z => ko_tu (r.trans r'.symm) z) id), r'⟩, fun b xs e => vis_tup (k.tp b xs (vis_some e).1)⟩
theorem vis_le : Kp [] (vis F H) H := ⟨fun b o e _ => (vis_some e).1, fun b i ⟨o, e, r⟩ => ⟨o, (vis_some e).1, r⟩, fun b xs e => (vis_some e).1⟩
theorem vis_mono (h : ∀ a ∈ F, a ∈ G) : Kp [] (vis F H) (vis G H) := ⟨fun b o e _ => by
  obtain ⟨e1, c⟩ := vis_some e
  exact vis_of e1 (c.imp id (h b)), fun b i ⟨o, e, r⟩ => by
  obtain ⟨e1, c⟩ := vis_some e
  exact ⟨o, vis_of e1 (c.imp id (h b)), r⟩, fun b xs e => vis_tup (vis_some e).1⟩
/-- a thing, its lists and dicts at F -/
inductive Od (K : PySem.W.Frag) (H : Hp) : V → PyData → List Addr → Prop
  | flat {v : V} {d : PyData} {F : List Addr} {kd : Kd} : Dn K (vis F H) v d → TyN H v kd → kd.isList = false → kd.isDict = false → Od K H v d F
  | lst {a : Addr} {xs : List V} {ds : List PyData} {F : List Addr} : H a = some (.lst xs) → a ∉ F → DnA K (vis F H) xs ds → Od K H (.ref a) (.list ds) (a :: F)
  | dic {a : Addr} {kvs : List (Key × V)} {ds : List PyData} {F : List Addr} : H a = some (.dK kvs) → a ∉ F → DnA K (vis F H) (kvs.map (·.2)) ds → Od K H (.ref a) (.dict ((kvs.map fun p => keyD p.1).zip ds)) (a :: F)
theorem TyN.kpt {kd : Kd} (h : TyN H v kd) (h1 : kd.isList = false) (h2 : kd.isDict = false) (k : Kp ps H H1) : TyN H1 v kd := by
  cases h with
  | non => exact .non
  | bl => exact .bl
  | int => exact .int
  | str => exact .str
  | lst e => cases h1
  | tup e => exact .tup (k.tp _ _ e)
  | dic e => cases h2
theorem Od.kpn (h : Od K H v d F) (k : Kp ps H H1) (n : ∀ a ∈ ps, a ∉ F) : Od K H1 v d F := by
  cases h with
  | flat a b c e => exact .flat (a.kp (vis_kp k n)) (b.kpt c e k) c e
  | lst a b c => exact .lst (k.get a fun m => n _ m List.mem_cons_self) b (c.kp (vis_kp k fun x m z => n x m (List.mem_cons_of_mem _ z)))
  | dic a b c => exact .dic (k.get a fun m => n _ m List.mem_cons_self) b (c.kp (vis_kp k fun x m z => n x m (List.mem_cons_of_mem _ z)))
theorem Od.kp (h : Od K H v d F) (k : Kp [] H H1) : Od K H1 v d F := h.kpn k (by simp)
theorem Od.dnv (h : Od K H v d F) : Dn K (vis F H) v d := by
  cases h with
  | flat a b c e => exact a
  | lst a b c => exact .lst (Or.inl (vis_of a (Or.inr List.mem_cons_self))) (c.kp (vis_mono fun x m => List.mem_cons_of_mem _ m))
  | dic a b c => exact .dic (Or.inl (vis_of a (Or.inr List.mem_cons_self))) (c.kp (vis_mono fun x m => List.mem_cons_of_mem _ m))
theorem Od.dn (h : Od K H v d F) : Dn K H v d := h.dnv.kp vis_le
theorem Od.ty (h : Od K H v d F) : ∃ kd, TyN H v kd := by
  cases h with
  | flat a b c e => exact ⟨_, b⟩
  | lst a b c => exact ⟨_, .lst a⟩
  | dic a b c => exact ⟨_, .dic a⟩
theorem Od.int {i : Int} : Od K H (.int i) (.int i) [] := .flat (.int _) .int rfl rfl
theorem Od.non : Od K H .non .none [] := .flat .non .non rfl rfl
theorem Od.bl {i : Bool} : Od K H (.bl i) (.bool i) [] := .flat (.bl _) .bl rfl rfl
theorem Od.str {i : Str} : Od K H (.str i) (.str i) [] := .flat (.str _) .str rfl rfl
theorem Od.tup (h : H a = some (.tup xs)) (g : DnA K (vis F H) xs ds) : Od K H (.ref a) (.tuple ds) F := .flat (.tup (SqT.of (vis_tup h)) g) (.tup h) rfl rfl
theorem DnA.app : ∀ {xs ys : List V} {ds es : List PyData}, DnA K H xs ds → DnA K H ys es → DnA K H (xs ++ ys) (ds ++ es)
  | _, _, _, _, .nil, h => h
  | _, _, _, _, .cons a b, h => .cons a (DnA.app b h)
theorem Od.more {dy : PyData} (e : H1 a = some (.lst (xs ++ [y]))) (n : a ∉ F) (c : DnA K (vis F H) xs ds) (k : Kp [a] H H1) (hy : ∀ H, Dn K H y dy) : Od K H1 (.ref a) (.list (ds ++ [dy])) (a :: F) :=
  .lst e n ((c.kp (vis_kp k (by simpa using n))).app (.cons (hy _) .nil))
/-- what repr may show -/
structure Bd (d : PyData) (n : Nat) : Prop where
  good : U.good d
  depth : d.depth ≤ 90
  sz : U.sz d ≤ n
theorem Bd.mono {n m : Nat} (h : Bd d n) (e : n ≤ m) : Bd d m := ⟨h.good, h.depth, Nat.le_trans h.sz e⟩
theorem Bd.sh {n : Nat} (h : Bd d n) (g : Dn K H v d) (e : n ≤ 16000000) : Sh K H v d := ⟨g, h.good, Nat.le_trans h.depth (by decide), Nat.le_trans h.sz e⟩
theorem good_app : ∀ {ds es : List PyData}, goodA ds → goodA es → goodA (ds ++ es)
  | [], _, _, h => h
  | _ :: _, _, ⟨a, b⟩, h => ⟨a, good_app b h⟩
theorem depth_app : ∀ (ds es : List PyData), PyData.depthAll (ds ++ es) = max (PyData.depthAll ds) (PyData.depthAll es)
  | [], es => by simp [PyData.depthAll]
  | d :: ds, es => by
    rw [List.cons_append, PyData.depthAll, PyData.depthAll, depth_app ds es]
    omega
theorem sz_app : ∀ (ds es : List PyData), szA (ds ++ es) = szA ds + szA es
  | [], es => by simp [szA]
  | d :: ds, es => by
    rw [List.cons_append, szA, szA, sz_app ds es]
    omega
theorem Bd.more {n m : Nat} (h : Bd (.list ds) n) (g : Bd e m) (z : e.depth ≤ 80) : Bd (.list (ds ++ [e])) (n + m + 2) := by
  obtain ⟨h1, h2, h3⟩ := h
  obtain ⟨g1, g2, g3⟩ := g
  refine ⟨good_app h1 ⟨g1, trivial⟩, ?_, ?_⟩
  · simp only [PyData.depth, depth_app, PyData.depthAll] at h2 ⊢
    omega
  · simp only [U.sz, sz_app, szA] at h3 ⊢
    omega
theorem Bd.int {i : Int} (h : i.natAbs < 10 ^ 100) : Bd (.int i) 102 := ⟨h, by simp [PyData.depth], by simp [U.sz]⟩
theorem Bd.non : Bd .none 4 := ⟨trivial, by simp [PyData.depth], by simp [U.sz]⟩
theorem Bd.bl {i : Bool} : Bd (.bool i) 5 := ⟨trivial, by simp [PyData.depth], by simp [U.sz]⟩
theorem Bd.str {z : Str} {n : Nat} (h : SS z n) : Bd (.str z) (10 * n + 2) := ⟨fun c hc => Nat.lt_trans (h.ok c hc) (by decide), by simp [PyData.depth], by have := h.len; simp only [U.sz]; omega⟩
end
end U

namespace U
open PySem L2 PySem.Spec PyProof.Rows
/-! range(n) as a value; whole numbers in lists -/
section
variable {X : Cx} {K : PySem.W.Frag} {H : Hp} {Q : VK} {p : Addr} {i j : Int} {ns : List Int}
def uRange1 : List V → Hp → VK → Prop := fun vs H Q => ∃ j, vs = [V.int j] ∧ ∀ p, H p = none → Q (.ref p) (upd H p (.rng 0 j))
theorem c_range1 : CallR X (.type "range") uRange1 := by
  intro pins s σ H vs us Q I r h
  obtain ⟨j, rfl, q⟩ := h
  obtain ⟨u1, rfl, rj⟩ := vals1 r
  obtain ⟨u, rfl⟩ := rj
  refine call_range_1 ⟨.ref s.heap.objs.size, upd H s.heap.objs.size (.rng 0 j), I.laid (t' := s.toks + 1 + 1) (fun b o e => Heap.get?_push_of_some _ e) (Nat.le_refl _) ?_, rfl, q _ (I.hok.fresh (Nat.le_refl _))⟩
  exact ⟨s.toks, u, s.toks + 1, Heap.get?_push_size _ rfl⟩
theorem s_rngN1 (q : ∀ p H', H p = none → H' p = some (.rng 0 j) → Kp [] H H' → Q (.ref p) H') : uRange1 [.int j] H Q := ⟨j, rfl, new_abs (R := fun p H' => Q (.ref p) H') q⟩
theorem flat_ints (ns : List Int) : (ns.map V.int).all flatV = true := by
  rw [List.all_eq_true]
  intro x hx
  obtain ⟨y, _, rfl⟩ := List.mem_map.mp hx
  rfl
theorem eqV_int {a b : Int} : eqV (.int a) (.int b) = decide (a = b) := by
  first
    | (show decide (V.int a = V.int b) = _; exact U.dec_int)
    | rfl
    | simp [eqV]
theorem inV_ints : inV (.int i) (ns.map V.int) = decide (i ∈ ns) := by
  induction ns with
  | nil => rfl
  | cons y zs ih =>
    unfold inV at ih ⊢
    rw [List.map_cons, List.any_cons, ih, eqV_int]
    by_cases h : y = i
    · subst h; simp
    · simp [h, Ne.symm h]
theorem s_inI (h : SqL K H p (ns.map V.int)) (q : Q (.bl (decide (i ∈ ns))) H) : uIn K false (.int i) (.ref p) H Q := Or.inr ⟨p, _, rfl, Or.inl h, rfl, flat_ints ns, by rw [inV_ints]; exact q⟩
theorem s_ninI (h : SqL K H p (ns.map V.int)) (q : Q (.bl (!decide (i ∈ ns))) H) : uIn K true (.int i) (.ref p) H Q := Or.inr ⟨p, _, rfl, Or.inl h, rfl, flat_ints ns, by rw [inV_ints]; exact q⟩
end
/-! a thing to which more may be added: an item to a list, an entry of one key to a dict -/
section
variable {K : PySem.W.Frag} {H H1 : Hp} {F ps : List Addr} {a : Addr} {kvs c : List (Key × V)} {ds es : List PyData} {key : Str} {v y : V} {d dv dy : PyData} {xs : List V} {n m : Nat}
def noKey (key : Str) (c : List (Key × V)) : Prop := (c.any fun kv => decide (kv.1 = (Sum.inr key : Key))) = false
theorem put_new (h : noKey key c) : putK c (Sum.inr key : Key) v = c ++ [(Sum.inr key, v)] := by
  unfold putK
  rw [if_neg (by rw [h]; exact Bool.false_ne_true)]
theorem put_old {w : V} (h : noKey key c) : putK (c ++ [((Sum.inr key : Key), w)]) (Sum.inr key : Key) v = c ++ [(Sum.inr key, v)] := by
  unfold putK
  rw [if_pos (by simp), List.map_append]
  congr 1
  · unfold noKey at h
    rw [List.any_eq_false] at h
    calc c.map _ = c.map id := List.map_congr_left fun kv hk => by
          have := h kv hk
          simp only [decide_eq_true_eq] at this
          rw [if_neg this]; rfl
      _ = c := List.map_id c
  · simp
inductive Ot (K : PySem.W.Frag) (H : Hp) (key : Str) : V → PyData → List Addr → Prop
  | od {v : V} {d : PyData} {F : List Addr} : Od K H v d F → (∀ a kvs, v = .ref a → H a = some (.dK kvs) → noKey key kvs) → Ot K H key v d F
  | put {a : Addr} {c : List (Key × V)} {ds : List PyData} {F : List Addr} {v : V} {dv : PyData} : H a = some (.dK (c ++ [(Sum.inr key, v)])) → noKey key c → a ∉ F → DnA K (vis F H) (c.map (·.2)) ds → (∀ H, Dn K H v dv) →
      Ot K H key (.ref a) (.dict (((c ++ [((Sum.inr key : Key), v)]).map fun p => keyD p.1).zip (ds ++ [dv]))) (a :: F)
theorem Ot.kpn (h : Ot K H key v d F) (k : Kp ps H H1) (n : ∀ a ∈ ps, a ∉ F) : Ot K H1 key v d F := by
  cases h with
  | od a b =>
    refine .od (a.kpn k n) fun x kvs e h1 => ?_
    subst e
    cases a with
    | flat z1 z2 z3 z4 =>
      cases z2 with
      | lst e => cases z3
      | dic e => cases z4
      | tup e => rw [k.tp _ _ e] at h1; cases h1
    | lst z1 z2 z3 => rw [k.get z1 fun m => n _ m List.mem_cons_self] at h1; cases h1
    | dic z1 z2 z3 =>
      rw [k.get z1 fun m => n _ m List.mem_cons_self] at h1
      cases h1
      exact b _ _ rfl z1
  | put a b c e f => exact .put (k.get a fun m => n _ m List.mem_cons_self) b c (e.kp (vis_kp k fun x m z => n x m (List.mem_cons_of_mem _ z))) f
theorem Ot.kp (h : Ot K H key v d F) (k : Kp [] H H1) : Ot K H1 key v d F := h.kpn k (by simp)
theorem Ot.dn (h : Ot K H key v d F) : Dn K H v d := by
  cases h with
  | od a b => exact a.dn
  | put a b c e f =>
    refine .dic (Or.inl a) ?_
    rw [List.map_append]
    exact (e.kp vis_le).app (.cons (f _) .nil)
theorem Ot.ty (h : Ot K H key v d F) : ∃ kd, TyN H v kd := by
  cases h with
  | od a b => exact a.ty
  | put a b c e f => exact ⟨_, .dic a⟩
theorem dna_len : ∀ {vs : List V} {ds : List PyData}, DnA K H vs ds → vs.length = ds.length
  | _, _, .nil => rfl
  | _, _, .cons _ b => by rw [List.length_cons, List.length_cons, dna_len b]
theorem sz_len : ∀ ds : List PyData, 2 * ds.length ≤ szA ds
  | [] => by simp [szA]
  | d :: ds => by
    have := sz_len ds
    rw [szA, List.length_cons]
    omega
theorem szK_len : ∀ ds : List (PyData × PyData), 4 * ds.length ≤ szK ds
  | [] => by simp [szK]
  | (k, d) :: ds => by
    have := szK_len ds
    rw [szK, List.length_cons]
    omega
theorem goodK_app : ∀ {ds es : List (PyData × PyData)}, goodK (ds ++ es) ↔ goodK ds ∧ goodK es
  | [], es => by simp [goodK]
  | (k, d) :: ds, es => by
    rw [List.cons_append, goodK, goodK, goodK_app (ds := ds) (es := es)]
    simp only [and_assoc]
theorem depthK_app : ∀ (ds es : List (PyData × PyData)), PyData.depthKv (ds ++ es) = max (PyData.depthKv ds) (PyData.depthKv es)
  | [], es => by simp [PyData.depthKv]
  | (k, d) :: ds, es => by
    rw [List.cons_append, PyData.depthKv, PyData.depthKv, depthK_app ds es]
    omega
theorem szK_app : ∀ (ds es : List (PyData × PyData)), szK (ds ++ es) = szK ds + szK es
  | [], es => by simp [szK]
  | (k, d) :: ds, es => by
    rw [List.cons_append, szK, szK, szK_app ds es]
    omega
theorem zip_snoc (hl : DnA K H (c.map (·.2)) ds) : ((c ++ [((Sum.inr key : Key), v)]).map fun p => keyD p.1).zip (ds ++ [dv]) = ((c.map fun p => keyD p.1).zip ds) ++ [(.str key, dv)] := by
  have e : ds.length = c.length := by
    have := dna_len hl
    rw [List.length_map] at this
    exact this.symm
  rw [List.map_append, List.zip_append (by rw [List.length_map, e])]
  rfl
theorem Bd.putK {l : List (PyData × PyData)} (h : Bd (.dict l) n) (g : Bd dy m) (z : dy.depth ≤ 80) (s : SS key 20) : Bd (.dict (l ++ [(.str key, dy)])) (n + m + 300) := by
  obtain ⟨h1, h2, h3⟩ := h
  obtain ⟨g1, g2, g3⟩ := g
  refine ⟨goodK_app.mpr ⟨h1, fun c hc => Nat.lt_trans (s.ok c hc) (by decide), g1, trivial⟩, ?_, ?_⟩
  · simp only [PyData.depth, depthK_app, PyData.depthKv] at h2 ⊢
    omega
  · have := s.len
    simp only [U.sz, szK_app, szK] at h3 ⊢
    omega
theorem Bd.dropK {l : List (PyData × PyData)} {x : PyData × PyData} (h : Bd (.dict (l ++ [x])) n) : Bd (.dict l) n := by
  obtain ⟨h1, h2, h3⟩ := h
  obtain ⟨x1, x2⟩ := x
  refine ⟨(goodK_app.mp h1).1, ?_, ?_⟩
  · simp only [PyData.depth, depthK_app, PyData.depthKv] at h2 ⊢
    omega
  · simp only [U.sz, szK_app, szK] at h3 ⊢
    omega
theorem Ot.cs (h : Ot K H key v d F) (s : SS key 20) : (∃ kd, TyN H v kd ∧ kd.isList = false ∧ kd.isDict = false) ∨
    (∃ a xs, v = .ref a ∧ a ∈ F ∧ H a = some (.lst xs) ∧ (∀ n, Bd d n → xs.length ≤ n) ∧ ∀ y dy H1, (∀ H, Dn K H y dy) → H1 a = some (.lst (xs ++ [y])) → Kp [a] H H1 → ∃ d', Ot K H1 key v d' F ∧ ∀ n m, Bd d n → Bd dy m → dy.depth ≤ 80 → Bd d' (n + m + 300)) ∨
    (∃ a kvs, v = .ref a ∧ a ∈ F ∧ H a = some (.dK kvs) ∧ (∀ n, Bd d n → kvs.length ≤ n) ∧ ∀ y dy H1, (∀ H, Dn K H y dy) → H1 a = some (.dK (L2.putK kvs (Sum.inr key : Key) y)) → Kp [a] H H1 → ∃ d', Ot K H1 key v d' F ∧ ∀ n m, Bd d n → Bd dy m → dy.depth ≤ 80 → Bd d' (n + m + 300)) := by
  cases h with
  | od a b =>
    cases a with
    | flat z1 z2 z3 z4 => exact Or.inl ⟨_, z2, z3, z4⟩
    | @lst a xs ds F z1 z2 z3 =>
      refine Or.inr (Or.inl ⟨a, xs, rfl, List.mem_cons_self, z1, fun n g => ?_, fun y dy H1 hy e k => ⟨_, .od (Od.more e z2 z3 k hy) (fun x kvs e1 e2 => ?_), fun n m g1 g2 g3 => (g1.more g2 g3).mono (by omega)⟩⟩)
      · have := sz_len ds
        have := g.sz
        simp only [U.sz] at this
        have := dna_len z3
        omega
      · cases e1
        rw [e] at e2
        cases e2
    | @dic a kvs ds F z1 z2 z3 =>
      refine Or.inr (Or.inr ⟨a, kvs, rfl, List.mem_cons_self, z1, fun n g => ?_, fun y dy H1 hy e k => ?_⟩)
      · have := szK_len ((kvs.map fun p => keyD p.1).zip ds)
        have := g.sz
        simp only [U.sz] at this
        have e := dna_len z3
        rw [List.length_map] at e
        have : ((kvs.map fun p => keyD p.1).zip ds).length = kvs.length := by rw [List.length_zip, List.length_map, ← e]; omega
        omega
      · have nk := b _ _ rfl z1
        rw [put_new nk] at e
        refine ⟨_, .put e nk z2 (z3.kp (vis_kp k (by simpa using z2))) hy, fun n m g1 g2 g3 => ?_⟩
        rw [zip_snoc z3]
        exact g1.putK g2 g3 s
  | @put a c ds F v dv z1 nk z2 z3 z4 =>
    refine Or.inr (Or.inr ⟨a, _, rfl, List.mem_cons_self, z1, fun n g => ?_, fun y dy H1 hy e k => ?_⟩)
    · rw [zip_snoc z3] at g
      have := szK_len ((c.map fun p => keyD p.1).zip ds ++ [(.str key, dv)])
      have := g.sz
      simp only [U.sz] at this
      have e := dna_len z3
      rw [List.length_map] at e
      have : ((c.map fun p => keyD p.1).zip ds).length = c.length := by rw [List.length_zip, List.length_map, ← e]; omega
      rw [List.length_append] at *
      simp only [List.length_cons, List.length_nil] at *
      omega
    · rw [put_old nk] at e
      refine ⟨_, .put e nk z2 (z3.kp (vis_kp k (by simpa using z2))) hy, fun n m g1 g2 g3 => ?_⟩
      rw [zip_snoc z3] at g1 ⊢
      exact g1.dropK.putK g2 g3 s
end
theorem s_slT {K : PySem.W.Frag} {H : Hp} {p : Addr} {xs ys : List V} {lo hi : Option Int} {Q : VK} (h : H p = some (.tup xs)) (ey : cutV xs lo hi = ys) (q : ∀ p' H', H' p' = some (.tup ys) → Kp [] H H' → Q (.ref p') H') : uSl K (.ref p) lo hi H Q := by
  subst ey
  refine Or.inr (Or.inr ⟨p, xs, rfl, SqT.of h, fun e => ?_, fun _ => new_abs (R := fun l H' => Q (.ref l) H') fun p' H' _ e k => q p' H' e k⟩)
  have : cutV xs lo hi = xs := by
    unfold cutV
    rw [e.1, e.2]
    simp
  exact q p H (by rw [this]; exact h) Kp.refl
theorem int_shw {K : PySem.W.Frag} {H : Hp} {i : Int} (h0 : 0 ≤ i) (h1 : i ≤ 1000000000) : Sh K H (.int i) (.int i) :=
  ⟨.int i, Nat.lt_of_le_of_lt (show i.natAbs ≤ 1000000000 by omega) (by decide +kernel), by simp [PyData.depth], by simp [sz]⟩
end U

namespace U
open PySem L2 PySem.Spec PyProof.Rows PySem.SeqAt
/-! a dict beside texts -/
theorem dict_eq_declines_str (l : Addr) (es : Array DictEntry) (n : Nat) (dd : Option Addr) (sl : Array (Option Value)) (b : Str) (u : Tok) :
    Meets (Builtin.«dict.__eq__» ⟨[.ref l, .str b u], []⟩) (fun _ R s => s.heap.get? l = some { cls := .type "dict", dict := dd, data := .dict es n, slots := sl } ∧ R (.ok (.ret .notImplemented)) s) :=
  .of_wp fun prog w A R s h => by obtain ⟨hp, g, d, tk, os⟩ := s; obtain ⟨hl, h⟩ := h; have f1 := F.sub_str_dict; wp_walk using wpAny_loadPart' hl; exact ⟨_, rfl, h⟩
theorem str_eq_declines_dict (b : Str) (u : Tok) (l : Addr) (c : Value) (es : Array DictEntry) (n : Nat) (dd : Option Addr) (sl : Array (Option Value)) :
    Meets (Builtin.«str.__eq__» ⟨[.str b u, .ref l], []⟩) (fun _ R s => s.heap.get? l = some { cls := c, dict := dd, data := .dict es n, slots := sl } ∧ R (.ok (.ret .notImplemented)) s) :=
  .of_wp fun prog w A R s h => by obtain ⟨hp, g, d, tk, os⟩ := s; obtain ⟨hl, h⟩ := h; wp_walk using wpAny_loadPart' hl, wpAny_load hl; exact ⟨_, rfl, h⟩
theorem eqAt_str_dict {A : Around} {s : Shared} {l : Addr} {o : Obj} {es : Array DictEntry} {n : Nat} (b : Str) (u : Tok) (ho : s.heap.get? l = some o) (hc : o.cls = .type "dict") (hd : o.data = .dict es n) (hu : A.units < cLine) : EqAt A s (.str b u) (.ref l) false := fun prog w E Q h => by
  obtain ⟨cls, dd, data, sl⟩ := o
  simp only at hc hd
  subst hc hd
  unfold eqBool
  refine wpAny_holding ?_
  refine wpAny_ite_split (fun hab => absurd (eq_of_beq hab) nofun) (fun _ => ?_)
  refine wpAny_bind (?_ : wpAny (model prog w) A (richCompare .Eq (.str b u) (.ref l)) _ E s)
  refine rc_eq_decline_or (k := false) (typeIs_str s b u) ⟨_, ho, rfl⟩ (by decide) F.sub_dict_str F.slot_str_eq F.slot_dict_eq_refl
    (fun _ hq => call_meets F.slot_str_eq (typeIs_str s b u) F.entry_str_eq (F.args_str_eq_2 _ _) (str_eq_declines_dict b u l (.type "dict") es n dd sl) ⟨ho, hq⟩)
    (fun _ hq => call_meets F.slot_dict_eq_refl ⟨_, ho, rfl⟩ F.entry_dict_eq (F.args_dict_eq_2 _ _) (dict_eq_declines_str l es n dd sl b u) ⟨ho, hq⟩)
    (fun _ hq => wpAny_of_eq (rfl : isSame (.str b u) (.ref l) = pure false) hq) (.inr hu) (wpAny_truthy_bool h)
/-! x in a list of texts, x any data -/
def rInX (K : PySem.W.Frag) (ng : Bool) : R2 := fun x y H Q => ∃ (p a : Addr) (zs : List Str) (kvs : List (Key × V)), x = .ref a ∧ H a = some (.dK kvs) ∧ y = .ref p ∧ SqL K H p (zs.map V.str) ∧ Q (.bl ng) H
def rInY (K : PySem.W.Frag) (ng : Bool) : R2 := fun x y H Q => ∃ d ds, Dp K H x d ∧ Dp K H y (.list ds) ∧ SeqAt.shaped d = true ∧ SeqAt.shaped (.list ds) = true ∧ Q (.bl (if ng then !ds.any fun z => PyData.eqv z d else ds.any fun z => PyData.eqv z d)) H
def uInX (K : PySem.W.Frag) (ng : Bool) : R2 := fun x y H Q => uIn K ng x y H Q ∨ rInX K ng x y H Q ∨ rInY K ng x y H Q
section
variable {X : Cx} {k : Nat} {K : PySem.W.Frag}
theorem strs_eqAt {A : Around} {s : Shared} {l : Addr} {o : Obj} {es : Array DictEntry} {n : Nat} (ho : s.heap.get? l = some o) (hc : o.cls = .type "dict") (hd : o.data = .dict es n) (hu : A.units < cLine) : ∀ {zs : List Str} {us : List Value}, Vals (zs.map V.str) us → ∀ u ∈ us, EqAt A s u (.ref l) false
  | [], _, .nil => fun u hu => by cases hu
  | z :: zs, _, .cons r t => fun u' hu' => by
    rcases List.mem_cons.mp hu' with rfl | hm
    · obtain ⟨tk, rfl⟩ := r
      exact eqAt_str_dict z tk ho hc hd hu
    · exact strs_eqAt ho hc hd hu t u' hm
theorem op_inX (hr : Room k X.A) : OpR X (compareOp .In) (rInX X.K false) := by
  intro pins s σ H x y v u Q I rx ry h
  obtain ⟨p, a, zs, kvs, rfl, ea, rfl, hq, q⟩ := h
  cases rx
  cases ry
  obtain ⟨z, hd, vs, rel, o, es, ep, h1, h2, h3, h4⟩ := dk_of I.hok ea
  obtain ⟨its, r, pl, hz⟩ := I.list hq
  refine SeqAt.in_listAt (fun _ => false) pl.isList (fun w hw => strs_eqAt h1 h2.1 h3 (hu_of hr) r w (by simpa using hw)) ⟨.bl _, H, I, rfl, ?_⟩
  rw [show its.toArray.any (fun _ => false) = false by simp]
  exact q
theorem op_notInX (hr : Room k X.A) : OpR X (compareOp .NotIn) (rInX X.K true) := by
  intro pins s σ H x y v u Q I rx ry h
  obtain ⟨p, a, zs, kvs, rfl, ea, rfl, hq, q⟩ := h
  cases rx
  cases ry
  obtain ⟨z, hd, vs, rel, o, es, ep, h1, h2, h3, h4⟩ := dk_of I.hok ea
  obtain ⟨its, r, pl, hz⟩ := I.list hq
  refine SeqAt.notIn_listAt (fun _ => false) pl.isList (fun w hw => strs_eqAt h1 h2.1 h3 (hu_of hr) r w (by simpa using hw)) ⟨.bl _, H, I, rfl, ?_⟩
  rw [show its.toArray.any (fun _ => false) = false by simp]
  exact q
theorem o_inX (hK : X.K = K) (hr : Room k X.A) : OpR X (compareOp .In) (uInX K false) := by
  subst hK
  exact (o_in rfl).or ((op_inX hr).or (op_inD (by have := hr.un; omega)))
theorem o_notinX (hK : X.K = K) (hr : Room k X.A) : OpR X (compareOp .NotIn) (uInX K true) := by
  subst hK
  exact (o_notin rfl).or ((op_notInX hr).or (op_notInD (by have := hr.un; omega)))
end
section
variable {K : PySem.W.Frag} {σ : L2.St} {H : Hp} {Q : VK} {p a : Addr} {zs : List Str} {ng : Bool} {x y : V} {d : PyData}
/-- a thing that is no text is in no list of texts -/
def noStr : PyData → Bool | .str _ => false | _ => true
theorem any_noStr (h : noStr d = true) : ∀ zs : List Str, ((zs.map PyData.str).any fun z => PyData.eqv z d) = false
  | [] => rfl
  | z :: zs => by
    rw [List.map_cons, List.any_cons, any_noStr h zs, Bool.or_false]
    cases d <;> first | rfl | (simp [noStr] at h) | simp [PyData.eqv]
theorem s_iX (h : uIn K ng x y H Q) : uInX K ng x y H Q := Or.inl h
theorem s_iXD {kvs : List (Key × V)} (h : H a = some (.dK kvs)) (g : SqL K H p (zs.map V.str)) (q : Q (.bl ng) H) : uInX K ng (.ref a) (.ref p) H Q := Or.inr (Or.inl ⟨p, a, zs, kvs, rfl, h, rfl, g, q⟩)
theorem s_iXY (h : Dn K H x d) (s : SeqAt.shaped d = true) (nd : noStr d = true) (g : SqL K H p (zs.map V.str)) (ok : ∀ z ∈ zs, ∀ c ∈ z.cps.toList, c < 1114112) (q : Q (.bl ng) H) : uInX K ng x (.ref p) H Q := by
  refine Or.inr (Or.inr ⟨d, zs.map PyData.str, h.dp (shp s), .lst g (dpa_strs zs), s, shp_strs ok, ?_⟩)
  rw [any_noStr nd zs]
  cases ng <;> exact q
theorem s_m0 {r : V → List V → Hp → VK → Prop} {to : TE} (h : to σ H fun x H1 => (∃ a, x = .str a) ∧ r x [] H1 Q) : tM0 r to σ H Q := h
theorem s_upper {z : Str} (h : z.length ≤ 5592405) (q : Q (.str (Txt.upper z)) H) : ∃ a, V.str z = .str a ∧ ([] : List V) = [] ∧ a.length ≤ 5592405 ∧ Q (.str (Txt.upper a)) H := ⟨z, rfl, rfl, h, q⟩
theorem up_let : ∀ c ∈ List.range' 97 26, Unicode.upperOf c = [c - 32] := by decide +kernel
theorem up_ss {z : Str} {n : Nat} (h : SS z n) (g : ∀ c ∈ z.cps.toList, 97 ≤ c ∧ c ≤ 122) : SS (Txt.upper z) (3 * n) := by
  refine ⟨Nat.le_trans (len_upper z) (by have := h.len; omega), fun c hc => ?_⟩
  have hc : c ∈ (PySem.placed z fun _ c => Unicode.upperOf c) := by simpa [Txt.upper] using hc
  unfold PySem.placed at hc
  obtain ⟨xs, hx, hc⟩ := Array.mem_flatten.mp hc
  obtain ⟨i, hi, rfl⟩ := Array.mem_mapIdx.mp hx
  have hm : z.cps[i] ∈ z.cps.toList := by simp
  have b := g _ hm
  simp only [] at hc
  rw [up_let _ (by rw [List.mem_range']; exact ⟨z.cps[i] - 97, by omega, by omega⟩)] at hc
  simp at hc
  omega
def uInt : List V → Hp → VK → Prop := fun xs H Q => (∃ i, xs = [.int i] ∧ Q (.int i) H) ∨ ∃ k : Bool, xs = [.bl k] ∧ Q (.int (if k then 1 else 0)) H
theorem c_int {X : Cx} : CallR X (.type "int") uInt := call_int1
theorem s_intB {k : Bool} (q : Q (.int (if k then 1 else 0)) H) : uInt [.bl k] H Q := Or.inr ⟨k, rfl, q⟩
end
end U

namespace U
open PySem L2 PySem.Spec PyProof.Rows
/-! enumerate(list, c) -/
def IteS (K : PySem.W.Frag) (a : Addr) (c : Int) : It :=
  ⟨fun i H => ∃ (xs : List V) (x : V), SqL K H a xs ∧ xs[i]? = some x, fun i H v H' => ∃ T x, v = .ref T ∧ H T = none ∧ H' = upd H T (.tup [.int (c + (i : Nat)), x]) ∧ ∀ xs, SqL K H a xs → xs[i]? = some x, fun i H => ∃ xs : List V, SqL K H a xs ∧ xs.length ≤ i⟩
theorem turn_enumS {P : Program} {w : World} {K : PySem.W.Frag} {elts : List Expr} {kk : Nat} {tpos : Pos} (a e it : Addr) (c : Int) :
    Turn P w K (.Tuple elts kk tpos) (IteS K a c) [e, it] e (fun i h => (∃ old, IsEnum h e it (c + ((i : Nat) : Int)) old) ∧ h.IsListIter it a i ∧ e ≠ it) where
  mem := by simp
  obj := fun i h st b hb => by
    obtain ⟨⟨old, he⟩, ⟨o, ho, hc, hd⟩, _⟩ := st
    have e' : b = e ∨ b = it := by simpa using hb
    rcases e' with z | z
    · rw [z]; exact ⟨_, he, fun v q => nomatch q⟩
    · rw [z]; exact ⟨o, ho, fun v q => by rw [hd] at q; cases q⟩
  keep := fun i h h' st k => let ⟨⟨old, he⟩, hi, hne⟩ := st; ⟨⟨old, k e (by simp) _ he⟩, hi.at fun o q => k it (by simp) o q, hne⟩
  item := by
    intro X hP hw hK hc i pins s σ H E I hf st hg
    subst hP hw hK
    obtain ⟨⟨old, he⟩, hit, hne⟩ := st
    obtain ⟨xs, x, hq, hx⟩ := hg
    obtain ⟨its, rv, p, hz⟩ := I.list hq
    obtain ⟨u, hu, ru⟩ := rv.get hx
    have p' : s.heap.IsList a its.toArray := p.isList
    have nai : a ≠ it := fun z => by
      subst z
      obtain ⟨o1, e1, c1, _⟩ := p'
      obtain ⟨o2, e2, c2, _⟩ := hit
      rw [e1] at e2; cases e2
      rw [c1] at c2; exact absurd c2 (by simp)
    have nae : a ≠ e := fun z => by
      subst z
      obtain ⟨o1, e1, c1, _⟩ := p'
      have he' := he
      unfold IsEnum at he'
      rw [e1] at he'
      cases he'
      exact absurd c1 (by simp)
    have hel : e < s.heap.objs.size := Heap.lt_size he
    have hil : it < s.heap.objs.size := by obtain ⟨_, q, _⟩ := hit; exact Heap.lt_size q
    have hi : i < its.toArray.size := by
      rw [List.size_toArray]
      exact (List.getElem?_eq_some_iff.mp hu).1
    refine wpAny_pyNext_enum_itemC (Draws.list (A := X.A.in1) (show X.A.in1.handled = none from I.ok.hd hc) it a nai its.toArray) he ⟨hit, p'⟩ hi hne (by simp; exact ⟨hne, nae.symm⟩) fun x' h' tk hP ho hst' hT hsz hk => ?_
    obtain ⟨hit', _⟩ := hst'
    have ex : x' = u := by
      have hP' : its.toArray[i]? = some x' := hP
      rw [List.getElem?_toArray, hu] at hP'
      exact (Option.some.inj hP').symm
    subst ex
    refine ⟨_, rfl, wpAny_letOwnedTupleGo_enum (s := { s with heap := h', toks := tk + 1 }) ho fun h'' he' sb => ?_⟩
    have hT2 : h''.get? s.heap.objs.size = some { cls := .type "tuple", data := .seq #[.int (c + i) tk, x'] } := (sb.2 _ (Nat.ne_of_gt hel)).trans hT
    have new : ObjOk X.prog X.w (upd H s.heap.objs.size (.tup [.int (c + (i : Nat)), x])) h'' s.heap.objs.size (.tup [.int (c + (i : Nat)), x]) :=
      ⟨by show 2 ≤ sizeLine; decide, [.int (c + i) tk, x'], .cons ⟨_, rfl⟩ (.cons ru .nil), ⟨_, hT2, rfl, _, rfl⟩⟩
    have I1 : Inv X pins σ (upd H s.heap.objs.size (.tup [.int (c + (i : Nat)), x])) { s with heap := h'', toks := tk + 1 } :=
      I.turnedNew (ch := [e, it]) (fun b ob hb q => (sb.2 b (fun z => hb (by simp [z]))).trans (hk b ob (fun z => hb (by simp [z])) (fun z => hb (by simp [z])) q)) hf (Nat.le_refl _) new
    refine ⟨.ref s.heap.objs.size, _, I1, rfl, ⟨_, x, rfl, I.hok.fresh (Nat.le_refl _), rfl, fun ys hy => by rw [I.list_inj hy hq]; exact hx⟩, ⟨⟨x', ?_⟩, hit'.at fun o q => (sb.2 it (Ne.symm hne)).trans q, hne⟩, fun b hb => ?_⟩
    · have e1 : c + ((i + 1 : Nat) : Int) = c + (i : Int) + 1 := by omega
      rw [e1]; exact he'
    · have hb' : b < s.heap.objs.size := by
        have e' : b = e ∨ b = it := by simpa using hb
        rcases e' with z | z
        · rw [z]; exact hel
        · rw [z]; exact hil
      rw [upd_ne (Nat.ne_of_lt hb')]
      exact (hf b hb).1
  done := by
    intro X hP hw hK hc i pins s σ H E I hf st hg
    subst hP hw hK
    obtain ⟨⟨old, he⟩, hit, hne⟩ := st
    obtain ⟨xs, hq, hx⟩ := hg
    obtain ⟨its, rv, p, hz⟩ := I.list hq
    obtain ⟨f0, f1, f2, f3, f4, f5⟩ := hf it (by simp)
    have hl := rv.length
    have p' : s.heap.IsList a its.toArray := p.isList
    refine (?_ : wpAny (model X.prog X.w) X.A (pyNext (.ref e)) _ _ s)
    have hT : s.TypeIs (.ref e) "enumerate" := ⟨_, he, rfl⟩
    unfold pyNext
    refine wpAny_bind (wpAny_attempt (wpAny_callSpecial?_slot (name := Str.ofString "__next__") hT F.slot_enumerate_next
      (wpAny_call_entry F.slot_enumerate_next hT F.entry_enumerate_next ?_ (F.args_enumerate_next_1 _))))
    show wpAny _ _ (field (.ref e) 2 >>= _) _ _ _
    refine wpAny_bind (wpAny_field he rfl (x := .ref it) rfl ?_)
    refine wpAny_bind (wpAny_nextOf_list_end (I.ok.hd hc) hit p' (by simp; omega) fun h' x he' hx' => ?_)
    obtain ⟨o, ho, hc'⟩ := hx'
    refine wpAny_bind (wpAny_isInstance (T := "StopIteration") (b := true) ⟨o, ho, hc'⟩ isSubtype_stop ?_)
    exact wpAny_pure ⟨rfl, I.turned (t' := s.toks) (fun b o hb q => he' b o hb q) f0 f1 f3 f4 f5⟩
  self := fun A i s Q E st h => let ⟨⟨_, he⟩, _⟩ := st; wpAny_pyIter_enum he h
def iEnumS (K : PySem.W.Frag) (ta : TA) : TI := fun σ H R => ta σ H fun vs H1 => ∃ a xs c, vs = [.ref a, .int c] ∧ SqL K H1 a xs ∧ (-(2 ^ 62) ≤ c ∧ c < 2 ^ 62) ∧ R (IteS K a c) H1
theorem pi_enumS {X : Cx} {K : PySem.W.Frag} {e e2 : Expr} {ta : TA} {p pos tpos : Pos} {elts : List Expr} {kk : Nat} (hK : X.K = K) (hg : Gl X "enumerate") (hm : X.mg "enumerate" = none) (ha : PA X [e, e2] ta) (hs : starEach [e, e2] X.env = (false, eval e X.env) :: starEach [e2] X.env := by rfl) (hs2 : (backTo pos (starEach [e2] X.env)).any (·.1) = false := by rfl) :
    PI X (.Tuple elts kk tpos) (.Call (.Name "enumerate" p) [e, e2] [] pos) (iEnumS K ta) := by
  subst hK
  refine ⟨fun pins s σ H R I h => ?_⟩
  refine Call_ (ld_blt I hg hm boot_enumerate (PyProof.Rows.callWith_type1 (thn (ha.run pos pins s σ H _ I h) fun us s1 ⟨vs, H1, I1, r1, q1⟩ => ?_) hs hs2))
  obtain ⟨a, xs, c, ex, hq, hc, q⟩ := q1
  subst ex
  cases r1 with
  | cons r rr =>
    cases rr with
    | cons r2 rr =>
      cases rr
      cases r
      obtain ⟨tk, rfl⟩ := r2
      obtain ⟨its, rv, p', hz⟩ := I1.list hq
      refine enum_begins (begins_list a its.toArray) (show s1.heap.IsList a its.toArray from p'.isList) (by omega) (by omega) fun h' he hit hsz hk => wpAny_pyIter_enum he ?_
      have I2 : Inv X pins σ H1 { s1 with heap := h' } := I1.kept (t' := s1.toks) hk
      refine ⟨s1.heap.objs.size + 1, [s1.heap.objs.size + 1, s1.heap.objs.size], _, _, H1, rfl, I2, turn_enumS a (s1.heap.objs.size + 1) s1.heap.objs.size c, ⟨⟨.none, by simpa using he⟩, ⟨_, hit, rfl, rfl⟩, Nat.succ_ne_self _⟩, fun b hb => ?_, q⟩
      have e' : b = s1.heap.objs.size + 1 ∨ b = s1.heap.objs.size := by simpa using hb
      have hle : s1.heap.objs.size ≤ b := by
        rcases e' with z | z
        · rw [z]; exact Nat.le_add_right _ _
        · rw [z]; exact Nat.le_refl _
      exact I1.fpOk hle (I1.hok.fresh hle)
theorem walk_enumS {K : PySem.W.Frag} {a : Addr} {xs : List V} {c : Int} : Walk (IteS K a c) xs.length (fun H => SqL K H a xs) (YPair (fun i => some (.int (c + (i : Nat)))) (fun i => xs[i]?)) := by
  refine ⟨fun i _ hi q => ⟨xs, xs[i], q, by simp [hi]⟩, fun _ q => ⟨xs, q, Nat.le_refl _⟩, fun i H v H' _ q y => ?_⟩
  obtain ⟨T, x, h1, h2, h3, h4⟩ := y
  exact ⟨T, .int (c + (i : Nat)), x, h1, h2, h3, rfl, h4 xs q⟩
section
variable {K : PySem.W.Frag} {σ : L2.St} {H : Hp} {a : Addr} {vs : List V} {g : TG} {tb : TS} {D : Ends} {c : Int} {R : It → Hp → Prop} {ta : TA} {xs : List V}
theorem for_eS (e : H a = some (.lst vs)) (Pv : Nat → L2.St → Hp → Prop) (h0 : Pv 0 σ H) (hG : ∀ i σ' H', Pv i σ' H' → ∀ o, H a = some o → H' a = some o)
    (hs : ∀ i x σ' H' T H2, vs[i]? = some x → Pv i σ' H' → H' T = none → H2 T = some (.tup [.int (c + (i : Nat)), x]) → Kp [] H' H2 → g (.ref T) σ' H2 fun σ2 H3 => tb { D with nx := Pv (i + 1), ct := Pv (i + 1), bk := D.nx } σ2 H3) (hd : ∀ σ' H', Pv vs.length σ' H' → D.nx σ' H') :
    ∃ W : Nat → Nat → L2.St → Hp → Prop, (∃ m, W 0 m σ H) ∧ ∀ i m σ H, W i m σ H →
      ((IteS K a c).stop i H ∧ D.nx σ H) ∨ ((IteS K a c).go i H ∧ ∃ N : L2.St → Hp → Prop, (∀ σ' H', N σ' H' → ∃ m', m' < m ∧ W (i + 1) m' σ' H') ∧ ∀ x H', (IteS K a c).yld i H x H' → g x σ H' fun σ2 H2 => tb { D with nx := N, ct := N, bk := D.nx } σ2 H2) :=
  for_it (walk_enumS (xs := vs)) Pv h0 (fun i σ' H' _ p => SqL.of (hG i σ' H' p _ e)) (fun i x σ' H1 H2 hi p y => by
    obtain ⟨T, x1, x2, rfl, f, rfl, e1, e2⟩ := y
    cases Option.some.inj e1
    exact hs i x2 σ' H1 T _ e2 p f upd_same (Kp.refl.new f)) hd
theorem s_ienS (h : ta σ H fun vs H1 => ∃ a xs c, vs = [.ref a, .int c] ∧ SqL K H1 a xs ∧ (-(2 ^ 62) ≤ c ∧ c < 2 ^ 62) ∧ R (IteS K a c) H1) : iEnumS K ta σ H R := h
theorem s_eS {S : Addr → Int → Prop} (h : H a = some (.lst xs)) (b : -(2 ^ 62) ≤ c ∧ c < 2 ^ 62) (q : S a c) : ∃ a' xs' c', [V.ref a, V.int c] = [.ref a', .int c'] ∧ SqL K H a' xs' ∧ (-(2 ^ 62) ≤ c' ∧ c' < 2 ^ 62) ∧ S a' c' := ⟨a, xs, c, rfl, SqL.of h, b, q⟩
end
end U

namespace U
open PySem L2 PySem.Spec PyProof.Rows
/-! texts that are joined, and split again -/
def jl (c : Nat) : List (List Nat) → List Nat
  | [] => []
  | [w] => w
  | w :: v :: r => w ++ c :: jl c (v :: r)
theorem app_inj {c : Nat} : ∀ {a b x y : List Nat}, c ∉ a → c ∉ b → a ++ c :: x = b ++ c :: y → a = b ∧ x = y
  | [], [], _, _, _, _, h => ⟨rfl, by simpa using h⟩
  | [], b :: bs, _, _, _, hb, h => by
    simp only [List.nil_append, List.cons_append, List.cons.injEq] at h
    exact (hb (by rw [h.1]; exact List.mem_cons_self)).elim
  | a :: as, [], _, _, ha, _, h => by
    simp only [List.nil_append, List.cons_append, List.cons.injEq] at h
    exact (ha (by rw [← h.1]; exact List.mem_cons_self)).elim
  | a :: as, b :: bs, x, y, ha, hb, h => by
    simp only [List.cons_append, List.cons.injEq] at h
    obtain ⟨h1, h2⟩ := app_inj (fun m => ha (List.mem_cons_of_mem _ m)) (fun m => hb (List.mem_cons_of_mem _ m)) h.2
    exact ⟨by rw [h.1, h1], h2⟩
theorem jl_inj {c : Nat} : ∀ {as bs : List (List Nat)}, as ≠ [] → bs ≠ [] → (∀ a ∈ as, c ∉ a) → (∀ b ∈ bs, c ∉ b) → jl c as = jl c bs → as = bs
  | [], _, h, _, _, _, _ => (h rfl).elim
  | _ :: _, [], _, h, _, _, _ => (h rfl).elim
  | [a], [b], _, _, _, _, h => by rw [show a = b from h]
  | [a], b :: b' :: r, _, _, ha, _, h => by
    have h : a = b ++ c :: jl c (b' :: r) := h
    exact (ha a List.mem_cons_self (by rw [h]; simp)).elim
  | a :: a' :: r, [b], _, _, _, hb, h => by
    have h : a ++ c :: jl c (a' :: r) = b := h
    exact (hb b List.mem_cons_self (by rw [← h]; simp)).elim
  | a :: a' :: r, b :: b' :: s, _, _, ha, hb, h => by
    have h : a ++ c :: jl c (a' :: r) = b ++ c :: jl c (b' :: s) := h
    obtain ⟨h1, h2⟩ := app_inj (ha a List.mem_cons_self) (hb b List.mem_cons_self) h
    rw [h1, jl_inj (by simp) (by simp) (fun x m => ha x (List.mem_cons_of_mem _ m)) (fun x m => hb x (List.mem_cons_of_mem _ m)) h2]
theorem join_jl (c : Nat) : ∀ ws : List Str, (Str.join ⟨#[c]⟩ ws).cps.toList = jl c (ws.map fun w => w.cps.toList)
  | [] => rfl
  | [w] => rfl
  | w :: v :: r => by
    have ih := join_jl c (v :: r)
    have e : Str.join ⟨#[c]⟩ (w :: v :: r) = w ++ ⟨#[c]⟩ ++ Str.join ⟨#[c]⟩ (v :: r) := rfl
    rw [e, Str.cps_append, Str.cps_append, Array.toList_append, Array.toList_append, ih]
    show (w.cps.toList ++ [c]) ++ _ = w.cps.toList ++ c :: _
    rw [List.append_assoc]
    rfl
theorem tj (y : Str) (l : List Str) : Txt.join y l = Str.join y l := StrLaws.glued_eq_join y l
theorem split_join {c : Nat} {ws : List Str} (hne : ws ≠ []) (h : ∀ w ∈ ws, c ∉ w.cps.toList) : Txt.split (Txt.join ⟨#[c]⟩ ws) ⟨#[c]⟩ = ws := by
  rw [tj]
  generalize hx : Str.join ⟨#[c]⟩ ws = x
  have h1 : Str.join ⟨#[c]⟩ (Txt.split x ⟨#[c]⟩) = Str.join ⟨#[c]⟩ ws := by rw [StrLaws.join_split, hx]
  have h2 := congrArg (fun z : Str => z.cps.toList) h1
  simp only [join_jl] at h2
  have h3 := jl_inj (by
    intro z
    have := PyProof.Rows.split_pos x ⟨#[c]⟩
    rw [List.map_eq_nil_iff] at z
    rw [z] at this
    simp at this) (by simpa using hne) (by
    intro a ha
    obtain ⟨p, hp, rfl⟩ := List.mem_map.mp ha
    exact StrLaws.split_free x c p hp) (by
    intro a ha
    obtain ⟨p, hp, rfl⟩ := List.mem_map.mp ha
    exact h p hp) h2
  exact (List.map_inj_right (fun a b (e : a.cps.toList = b.cps.toList) => Str.ext' (Array.toList_inj.mp e))).mp h3
theorem sp_eq : (" " : Str) = ⟨#[32]⟩ := by decide +kernel
theorem nl_eq : ("\n" : Str) = ⟨#[10]⟩ := by decide +kernel
section
variable {K : PySem.W.Frag} {σ : L2.St} {H : Hp} {Q : VK} {z sep acc y : Str} {ws : List Str} {p : Addr} {xs ys : List V} {n : Int} {v : V} {te : TE} {ts : List TE} {q : Str → Hp → Prop} {X : Cx}
theorem s_spl (h0 : (sep.length == 0) = false) (hz : z.length + 2 ≤ sizeLine) (e : Txt.split z sep = ws) (q : ∀ p H', H p = none → H' p = some (.lst (ws.map V.str)) → Kp [] H H' → Q (.ref p) H') :
    ∃ b, [V.str sep] = [V.str b] ∧ (b.length == 0) = false ∧ z.length + 2 ≤ sizeLine ∧ rNewStrs (Txt.split z b) H Q := by
  refine ⟨sep, rfl, h0, hz, ?_⟩
  rw [e]
  exact new_abs (R := fun l H' => Q (.ref l) H') q
/-! f-strings -/
def tJo (ts : List TE) : TE := fun σ H Q => tJs ts Str.empty σ H fun out H1 => Q (.str out) H1
theorem pe_jo {v1 v2 : Expr} {rest : List Expr} {pos : Pos} (h : PJ X (v1 :: v2 :: rest) ts) : PE X (.JoinedStr (v1 :: v2 :: rest) pos) (tJo ts) := pe_joined h
theorem s_jo (h : tJs ts Str.empty σ H fun out H1 => Q (.str out) H1) : tJo ts σ H Q := h
theorem s_js0 (h : q acc H) : tJs [] acc σ H q := h
theorem s_jsC (h : (acc ++ z).length ≤ sizeLine) (k : tJs ts (acc ++ z) σ H q) : tJs (tC (.str z) :: ts) acc σ H q := ⟨z, rfl, h, k⟩
def FmK (ts : List TE) (acc : Str) (σ : L2.St) (q : Str → Hp → Prop) : V → Hp → Prop := fun x H1 => (∃ y : Str, x = .str y ∧ y.length ≤ sizeLine ∧ ∃ y', V.str y = .str y' ∧ (acc ++ y').length ≤ sizeLine ∧ tJs ts (acc ++ y') σ H1 q) ∨
  ∃ i : Int, x = .int i ∧ i.natAbs.log2 < 1920 ∧ ∃ y', V.str (toString i) = .str y' ∧ (acc ++ y').length ≤ sizeLine ∧ tJs ts (acc ++ y') σ H1 q
theorem s_jsF (h : te σ H (FmK ts acc σ q)) : tJs (tFmt te :: ts) acc σ H q := h
theorem s_fmS (h : y.length ≤ sizeLine) (h2 : (acc ++ y).length ≤ sizeLine) (k : tJs ts (acc ++ y) σ H q) : FmK ts acc σ q (.str y) H := Or.inl ⟨y, rfl, h, y, rfl, h2, k⟩
theorem s_fmI (h : n.natAbs.log2 < 1920) (h2 : (acc ++ (toString n : Str)).length ≤ sizeLine) (k : tJs ts (acc ++ (toString n : Str)) σ H q) : FmK ts acc σ q (.int n) H := Or.inr ⟨n, rfl, h, _, rfl, h2, k⟩
/-! tuples of the module's top -/
structure KT (K : PySem.W.Frag) (a : Addr) (xs : List V) : Prop where
  ex : ∃ (o : Obj) (its : Array Value) (n : Nat), K.lookup a = some o ∧ (o.cls = .type "tuple" ∧ o.dict = none) ∧ o.data = .seq its n ∧ its.size ≤ sizeLine ∧ Vals xs its.toList
theorem KT.mk' {a : Addr} {o : Obj} (l : K.lookup a = some o) (h : (o.cls = .type "tuple" ∧ o.dict = none) ∧ ∃ (its : Array Value) (n : Nat), o.data = .seq its n ∧ its.size ≤ sizeLine ∧ Vals xs its.toList) : KT K a xs := by
  obtain ⟨h1, its, n, h2, h3, h4⟩ := h
  exact ⟨o, its, n, l, h1, h2, h3, h4⟩
theorem KT.sq (h : KT K p xs) : SqT K H p xs := by
  obtain ⟨o, its, n, l, h1, h2, h3, h4⟩ := h.ex
  exact Or.inr ⟨o, its, n, l, h1.1, h2, h3, h4⟩
theorem s_ixK (h : KT K p xs) (ha : atI xs n = some v) (q : Q v H) : rIx K (.ref p) (.int n) H Q := Or.inr (Or.inl ⟨p, xs, n, v, rfl, rfl, h.sq, ha, q⟩)
theorem s_tyK {R : Prop} (h : KT K p xs) (q : R) : tyV K "tuple" (.ref p) H ∧ R := by
  obtain ⟨o, its, n, l, h1, h2, h3, h4⟩ := h.ex
  exact ⟨Or.inr (Or.inl ⟨rfl, o, l, h1.1, h1.2⟩), q⟩
def rTIx (K : PySem.W.Frag) : V → List V → Hp → VK → Prop := fun x xs H Q => ∃ p, ∃ ys : List Str, ∃ z j, x = .ref p ∧ xs = [.str z] ∧ SqT K H p (ys.map V.str) ∧ ys[j]? = some z ∧ (∀ m, m < j → ys[m]? ≠ some z) ∧ Q (.int (j : Nat)) H
theorem mt_tix (hK : X.K = K) : MtR X "tuple.index" (rTIx K) := hK ▸ mt_tup_index
theorem s_tix {zs : List Str} {j : Nat} (h : KT K p (zs.map V.str)) (e : zs[j]? = some z) (nd : ∀ m, m < j → zs[m]? ≠ some z) (q : Q (.int (j : Nat)) H) : rTIx K (.ref p) [.str z] H Q := ⟨p, zs, z, j, rfl, rfl, h.sq, e, nd, q⟩
theorem s_ext {l b : Addr} (hl : H l = some (.lst xs)) (hb : H b = some (.lst ys)) (hz : xs.length + ys.length ≤ sizeLine) (q : ∀ H', H' l = some (.lst (xs ++ ys)) → Kp [l] H H' → Q .non H') : rExtend (.ref l) [.ref b] H Q :=
  ⟨l, b, xs, ys, rfl, rfl, hl, hb, hz, put_abs hl rfl (R := fun H' => Q .non H') q⟩
def uIntS : List V → Hp → VK → Prop := fun xs H Q => ∃ a n, xs = [.str a] ∧ PySem.intText? a = some n ∧ a.length ≤ 640 ∧ Q (.int n) H
theorem c_intS : CallR X (.type "int") uIntS := call_int_str
theorem s_intS (e : PySem.intText? z = some n) (h : z.length ≤ 640) (q : Q (.int n) H) : uIntS [.str z] H Q := ⟨z, n, rfl, e, h, q⟩
end
end U

namespace U
open PySem L2 PySem.Spec PyProof.Rows
section
variable {K : PySem.W.Frag} {H : Hp} {Q : VK} {p : Addr} {y : V} {d z : PyData} {ds : List PyData} {j : Nat} {X : Cx} {k : Nat} {ng : Bool}
/-- data in a list of data -/
theorem mt_ixD (hK : X.K = K) (hr : Room k X.A) : MtR X "list.index" (rIndexD K) := hK ▸ mt_indexD (by have := hr.un; omega)
theorem s_ixD (hl : Dn K H (.ref p) (.list ds)) (hy : Dn K H y d) (sl : SeqAt.shaped (.list ds) = true) (sd : SeqAt.shaped d = true) (e : ds[j]? = some z) (ez : PyData.eqv z d = true) (no : ∀ (m : Nat) (z' : PyData), m < j → ds[m]? = some z' → PyData.eqv z' d = false) (q : Q (.int (j : Nat)) H) : rIndexD K (.ref p) [y] H Q :=
  ⟨p, y, d, ds, j, z, rfl, rfl, hl.dp (shp sl), hy.dp (shp sd), sl, sd, e, ez, no, q⟩
theorem s_inD (hl : Dn K H (.ref p) (.list ds)) (hy : Dn K H y d) (sl : SeqAt.shaped (.list ds) = true) (sd : SeqAt.shaped d = true) (q : Q (.bl (ds.any fun z => PyData.eqv z d)) H) : uInX K false y (.ref p) H Q :=
  Or.inr (Or.inr ⟨d, ds, hy.dp (shp sd), hl.dp (shp sl), sd, sl, q⟩)
end
/-! texts are put together -/
theorem sa (a b c : Str) : a ++ b ++ c = a ++ (b ++ c) := Str.ext' (by simp [Str.cps_append])
theorem sj1 (a : Str) : Txt.join " " [a] = a := by rw [tj]; rfl
theorem sj2 (a b : Str) : Txt.join " " [a, b] = a ++ " " ++ b := by rw [tj]; rfl
theorem sj3 (a b c : Str) : Txt.join " " [a, b, c] = a ++ " " ++ (b ++ " " ++ c) := by rw [tj]; rfl
theorem sj4 (a b c d : Str) : Txt.join " " [a, b, c, d] = a ++ " " ++ (b ++ " " ++ (c ++ " " ++ d)) := by rw [tj]; rfl
theorem e_app (a : Str) : Str.empty ++ a = a := Str.ext' (by simp [Str.cps_append, Str.empty])
theorem join_len {a : Str} {ws : List Str} {n : Nat} (h : ∀ w ∈ ws, w.length ≤ n) : (Txt.join a ws).length ≤ ws.length * (n + a.length) := by
  rw [tj]
  refine Nat.le_trans (StrLaws.join_length_le a ws) ?_
  have : (ws.map (·.length)).sum ≤ ws.length * n := by
    induction ws with
    | nil => simp
    | cons w ws ih =>
      have h1 := h w List.mem_cons_self
      have h2 := ih fun x hx => h x (List.mem_cons_of_mem _ hx)
      rw [List.map_cons, List.sum_cons, List.length_cons, Nat.succ_mul]
      omega
  rw [Nat.mul_add]
  omega
theorem join_mem {c : Nat} {a : Str} : ∀ {ws : List Str}, c ∈ (Txt.join a ws).cps.toList → c ∈ a.cps.toList ∨ ∃ w ∈ ws, c ∈ w.cps.toList
  | [], h => by rw [tj] at h; simp [Str.join, Str.empty] at h
  | [w], h => by rw [tj] at h; exact Or.inr ⟨w, List.mem_cons_self, h⟩
  | w :: v :: r, h => by
    have e : Txt.join a (w :: v :: r) = w ++ a ++ Txt.join a (v :: r) := by rw [tj, tj]; rfl
    rw [e, Str.cps_append, Str.cps_append, Array.toList_append, Array.toList_append, List.mem_append, List.mem_append] at h
    rcases h with (h | h) | h
    · exact Or.inr ⟨w, List.mem_cons_self, h⟩
    · exact Or.inl h
    · rcases join_mem h with h | ⟨x, hx, h⟩
      · exact Or.inl h
      · exact Or.inr ⟨x, List.mem_cons_of_mem _ hx, h⟩
/-- what is said of a class whose instances isinstance is asked of -/
structure IsC (K : PySem.W.Frag) (C : Addr) : Prop where
  cl : Cls K C
  ha : PySem.W.findIn K (.ref C) "__class__" = some (some (.builtin "object.__class__"))
  hn : PySem.W.specialIn K (.builtin "object.__class__") "__get__" = some (some (.builtin "getset_descriptor.__get__"))
  tk : PySem.W.takesIn K (.builtin "object.__class__") = some true
  hm : PySem.W.mroIn K C (.type "object") = some true
theorem s_isO {K : PySem.W.Frag} {H : Hp} {Q : VK} {p C C2 dx : Addr} {fs : List (Str × V)} {b : Bool} (h : H p = some (.ins C dx fs)) (c : IsC K C) (ki : PySem.W.kitOne K (.ref C) (.ref C2) = some b) (q : Q (.bl b) H) : rIsi K [.ref p, .ref C2] H Q :=
  ⟨.ref p, .ref C2, .ref C, .ref C2, b, rfl, .own C2, .base (.ins h c.cl c.ha c.hn c.tk c.hm), ki, q⟩
section
variable {X : Cx} {K : PySem.W.Frag} {T id : String} {name : Str} {r : V → List V → Hp → VK → Prop} {o e : Expr} {es : List Expr} {to : TE} {t : TA} {apos cpos : Pos}
theorem pe_bmK (hK : X.K = K) (pa : PlainAttrs T) (slot : Slot T name id) (hty : typeOf (.builtin id) = pure (.type "method_descriptor")) (hm : MtR X id r) (ho : PE X o to) (ha : PA X (e :: es) t)
    (hbase : attributeBase o name X.env (eval o X.env) = eval o X.env := by rfl)
    (hfew : ((backTo cpos (starEach (e :: es) X.env)).all (fun x => !x.1) && (backToKw cpos (keywordEach [] X.env)).all (fun x => x.1.isSome)
      && decide ((e :: es).length + ([] : List Keyword).length + (if ([] : List Keyword).isEmpty then 0 else 1) < 30)) = true := by rfl)
    (hline : (apos.endLine == cpos.line) = true := by rfl) (hs : starEach (e :: es) X.env = (false, eval e X.env) :: starEach es X.env := by rfl) (hplain : (backTo cpos (starEach es X.env)).any (·.1) = false := by rfl) :
    PE X (.Call (.Attribute o name apos) (e :: es) [] cpos) (tBM K T r to t) := hK ▸ pe_bm pa slot hty hm ho ha hbase hfew hline hs hplain
theorem pe_bm0K (hK : X.K = K) (pa : PlainAttrs T) (slot : Slot T name id) (hty : typeOf (.builtin id) = pure (.type "method_descriptor")) (hm : MtR X id r) (ho : PE X o to)
    (hbase : attributeBase o name X.env (eval o X.env) = eval o X.env := by rfl) (hline : (apos.endLine == cpos.line) = true := by rfl) : PE X (.Call (.Attribute o name apos) [] [] cpos) (tBM0 K T r to) := hK ▸ pe_bm0 pa slot hty hm ho hbase hline
end
end U

namespace U
open PySem L2 PySem.Spec PyProof.Rows
/-! zip of lists and tuples in any mix (true: a tuple) -/
def SqB (K : PySem.W.Frag) (b : Bool) (H : Hp) (a : Addr) (xs : List V) : Prop := match b with
  | false => SqL K H a xs
  | true => SqT K H a xs
def IterB (b : Bool) (h : Heap) (i a : Addr) (n : Nat) : Prop := match b with
  | false => h.IsListIter i a n
  | true => h.IsTupleIter i a n
def IsB (b : Bool) (h : Heap) (a : Addr) (its : Array Value) : Prop := match b with
  | false => h.IsList a its
  | true => h.IsTuple a its
def oB (b : Bool) (a : Addr) : Obj := match b with
  | false => { cls := .type "list_iterator", data := .fields #[.ref a, .int 0 0] }
  | true => { cls := .type "tuple_iterator", data := .fields #[.ref a, .int 0 0] }
theorem beginsB (b : Bool) (a : Addr) (its : Array Value) : Begins (.ref a) (oB b a) fun h => IsB b h a its := by
  cases b
  · exact begins_list a its
  · exact begins_tuple a its
theorem iterB0 {b : Bool} {h : Heap} {i a : Addr} (e : h.get? i = some (oB b a)) : IterB b h i a 0 := by
  cases b
  · exact ⟨_, e, rfl, rfl⟩
  · exact ⟨_, e, rfl, rfl⟩
theorem drawsB {prog : Program} {w : World} {A : Around} (b : Bool) (hh : A.handled = none) (it l : Addr) (hne : l ≠ it) (its : Array Value) :
    Draws prog w A it [it, l] its.size (fun i v => its[i]? = some v) (fun i h => IterB b h it l i ∧ IsB b h l its) := by
  cases b
  · exact Draws.list hh it l hne its
  · exact Draws.tuple hh it l hne its
theorem IterB.obj {b : Bool} {h : Heap} {i a : Addr} {n : Nat} (x : IterB b h i a n) : ∃ o, h.get? i = some o ∧ o.data = .fields #[.ref a, .int n 0] := by
  cases b
  · obtain ⟨o, e, _, d⟩ := x; exact ⟨o, e, d⟩
  · obtain ⟨o, e, _, d⟩ := x; exact ⟨o, e, d⟩
theorem IterB.at {b : Bool} {h h' : Heap} {i a : Addr} {n : Nat} (x : IterB b h i a n) (k : ∀ o, h.get? i = some o → h'.get? i = some o) : IterB b h' i a n := by
  cases b
  · obtain ⟨o, e, c⟩ := x; exact ⟨o, k o e, c⟩
  · obtain ⟨o, e, c⟩ := x; exact ⟨o, k o e, c⟩
theorem IsB.lt {b : Bool} {h : Heap} {a : Addr} {its : Array Value} (x : IsB b h a its) : a < h.objs.size := by
  cases b
  · obtain ⟨o, e, _⟩ := x; exact Heap.lt_size e
  · obtain ⟨o, e, _⟩ := x; exact Heap.lt_size e
section
variable {X : Cx} {pins : List (Addr × Obj)} {σ : L2.St} {H : Hp} {s : Shared}
theorem seqB {b : Bool} {a : Addr} {xs : List V} (I : Inv X pins σ H s) (h : SqB X.K b H a xs) : ∃ its, Vals xs its ∧ IsB b s.heap a its.toArray := by
  cases b
  · obtain ⟨its, rv, p, _⟩ := I.list h; exact ⟨its, rv, p.isList⟩
  · obtain ⟨its, rv, p, _⟩ := I.tuple h; exact ⟨its, rv, p⟩
theorem seqB_inj {b : Bool} {a : Addr} {xs ys : List V} (I : Inv X pins σ H s) (h : SqB X.K b H a xs) (g : SqB X.K b H a ys) : xs = ys := by
  cases b
  · exact I.list_inj h g
  · exact I.tuple_inj h g
end
def ItzB (K : PySem.W.Frag) (b1 b2 : Bool) (a b : Addr) : It :=
  ⟨fun i H => ∃ (xs ys : List V) (x y : V), SqB K b1 H a xs ∧ SqB K b2 H b ys ∧ xs[i]? = some x ∧ ys[i]? = some y,
    fun i H v H' => ∃ T x y, v = .ref T ∧ H T = none ∧ H' = upd H T (.tup [x, y]) ∧ (∀ xs, SqB K b1 H a xs → xs[i]? = some x) ∧ ∀ ys, SqB K b2 H b ys → ys[i]? = some y,
    fun i H => ∃ xs ys : List V, SqB K b1 H a xs ∧ SqB K b2 H b ys ∧ i ≤ xs.length ∧ i ≤ ys.length ∧ (xs.length ≤ i ∨ ys.length ≤ i)⟩
theorem sep_of {z TI TO i1 i2 a b : Addr} (D : ZipApart z TI TO i1 i2 a b) : ZipSep2 z TI TO i1 i2 [i1, a] [i2, b] where
  TIz := D.TIz
  TOz := D.TOz
  TITO := D.TITO
  TIi1 := D.TIi1
  mem1 := by simp
  zf1 := by simp; exact ⟨D.i1z.symm, D.l1z.symm⟩
  Tf1 := by simp; exact ⟨D.TOi1, D.l1TO.symm⟩
  TIi2 := D.TIi2
  mem2 := by simp
  zf2 := by simp; exact ⟨D.i2z.symm, D.l2z.symm⟩
  Tf2 := by simp; exact ⟨D.TOi2, D.l2TO.symm⟩
  sep1_2 := by simp; exact ⟨D.i12, D.l2i1.symm⟩
  sep2_1 := by simp; exact ⟨D.i12.symm, D.l1i2.symm⟩
theorem turn_zipB {P : Program} {w : World} {K : PySem.W.Frag} {elts : List Expr} {kk : Nat} {tpos : Pos} {b1 b2 : Bool} {a b z TI TO i1 i2 : Addr} (D : ZipApart z TI TO i1 i2 a b) :
    Turn P w K (.Tuple elts kk tpos) (ItzB K b1 b2 a b) [z, TI, TO, i1, i2] z (fun i h => IsZip h z TI TO .none ∧ IsTupOf2 h TI (.ref i1) (.ref i2) ∧ (∃ x y, IsTupOf2 h TO x y) ∧ IterB b1 h i1 a i ∧ IterB b2 h i2 b i) where
  mem := by simp
  obj := fun i h st c hc => by
    obtain ⟨hz, hTI, ⟨x, y, hTO⟩, h1, h2⟩ := st
    obtain ⟨o1, e1, d1⟩ := h1.obj
    obtain ⟨o2, e2, d2⟩ := h2.obj
    have e' : c = z ∨ c = TI ∨ c = TO ∨ c = i1 ∨ c = i2 := by simpa using hc
    rcases e' with q | q | q | q | q
    · rw [q]; exact ⟨_, hz, fun v q => nomatch q⟩
    · rw [q]; exact ⟨_, hTI, fun v q => nomatch q⟩
    · rw [q]; exact ⟨_, hTO, fun v q => nomatch q⟩
    · rw [q]; exact ⟨o1, e1, fun v q => by rw [d1] at q; cases q⟩
    · rw [q]; exact ⟨o2, e2, fun v q => by rw [d2] at q; cases q⟩
  keep := fun i h h' st k => by
    obtain ⟨hz, hTI, ⟨x, y, hTO⟩, h1, h2⟩ := st
    exact ⟨k z (by simp) _ hz, k TI (by simp) _ hTI, ⟨x, y, k TO (by simp) _ hTO⟩, h1.at fun o q => k i1 (by simp) o q, h2.at fun o q => k i2 (by simp) o q⟩
  item := by
    intro X hP hw hK hc i pins s σ H E I hf st hg
    subst hP hw hK
    obtain ⟨hz, hTI, ⟨x0, y0, hTO⟩, h1, h2⟩ := st
    obtain ⟨xs, ys, x, y, hqx, hqy, hx, hy⟩ := hg
    obtain ⟨its, rv, p⟩ := seqB I hqx
    obtain ⟨its2, rv2, p2⟩ := seqB I hqy
    obtain ⟨u, hu, ru⟩ := rv.get hx
    obtain ⟨u2, hu2, ru2⟩ := rv2.get hy
    have hzl : z < s.heap.objs.size := Heap.lt_size hz
    have hh : X.A.in1.handled = none := I.ok.hd hc
    refine wpAny_pyNext_zipD2_item (sep_of D) (drawsB b1 hh i1 a D.l1i1 its.toArray) (drawsB b2 hh i2 b D.l2i2 its2.toArray) hz hTI hTO ⟨h1, p⟩ ⟨h2, p2⟩
      (by rw [List.size_toArray]; exact (List.getElem?_eq_some_iff.mp hu).1) (by rw [List.size_toArray]; exact (List.getElem?_eq_some_iff.mp hu2).1) fun x1 x2 h' tk hP1 hP2 z' TO' s1' s2' hT hsz hk => ?_
    have ex1 : x1 = u := by
      have hP' : its.toArray[i]? = some x1 := hP1
      rw [List.getElem?_toArray, hu] at hP'
      exact (Option.some.inj hP').symm
    have ex2 : x2 = u2 := by
      have hP' : its2.toArray[i]? = some x2 := hP2
      rw [List.getElem?_toArray, hu2] at hP'
      exact (Option.some.inj hP').symm
    subst ex1 ex2
    obtain ⟨h1', _⟩ := s1'
    obtain ⟨h2', _⟩ := s2'
    refine ⟨_, rfl, wpAny_letOwnedTupleGo_zip (s := { s with heap := h', toks := tk }) z' fun h'' z'' sb => ?_⟩
    have hT2 : h''.get? s.heap.objs.size = some { cls := .type "tuple", data := .seq #[x1, x2] } := (sb.2 _ (Nat.ne_of_gt hzl)).trans hT
    have new : ObjOk X.prog X.w (upd H s.heap.objs.size (.tup [x, y])) h'' s.heap.objs.size (.tup [x, y]) :=
      ⟨by show 2 ≤ sizeLine; decide, [x1, x2], .cons ru (.cons ru2 .nil), ⟨_, hT2, rfl, _, rfl⟩⟩
    have I1 : Inv X pins σ (upd H s.heap.objs.size (.tup [x, y])) { s with heap := h'', toks := tk } :=
      I.turnedNew (t' := tk) (ch := [z, TI, TO, i1, i2]) (fun c o hb q => (sb.2 c (fun q' => hb (by simp [q']))).trans (hk c o (fun q' => hb (by simp [q'])) (fun q' => hb (by simp [q'])) (fun q' => hb (by simp [q'])) (fun q' => hb (by simp [q'])) q)) hf (Nat.le_refl _) new
    refine ⟨.ref s.heap.objs.size, _, I1, rfl, ⟨_, x, y, rfl, I.hok.fresh (Nat.le_refl _), rfl, fun l hl => by rw [seqB_inj I hl hqx]; exact hx, fun l hl => by rw [seqB_inj I hl hqy]; exact hy⟩, ⟨z'', ?_, ⟨x1, x2, ?_⟩, ?_, ?_⟩, fun c hcm => ?_⟩
    · exact (sb.2 _ D.TIz).trans (hk _ _ D.TIz D.TITO D.TIi1 D.TIi2 hTI)
    · exact (sb.2 _ D.TOz).trans TO'
    · exact h1'.at fun o q => (sb.2 _ D.i1z).trans q
    · exact h2'.at fun o q => (sb.2 _ D.i2z).trans q
    · have hlt : c < s.heap.objs.size := by
        obtain ⟨o1, e1, _⟩ := h1.obj
        obtain ⟨o2, e2, _⟩ := h2.obj
        have e' : c = z ∨ c = TI ∨ c = TO ∨ c = i1 ∨ c = i2 := by simpa using hcm
        rcases e' with q | q | q | q | q
        · rw [q]; exact hzl
        · rw [q]; exact Heap.lt_size hTI
        · rw [q]; exact Heap.lt_size hTO
        · rw [q]; exact Heap.lt_size e1
        · rw [q]; exact Heap.lt_size e2
      rw [upd_ne (Nat.ne_of_lt hlt)]
      exact (hf c hcm).1
  done := by
    intro X hP hw hK hc i pins s σ H E I hf st hg
    subst hP hw hK
    obtain ⟨hz, hTI, ⟨x0, y0, hTO⟩, h1, h2⟩ := st
    obtain ⟨xs, ys, hqx, hqy, hle1, hle2, hend⟩ := hg
    obtain ⟨its, rv, p⟩ := seqB I hqx
    obtain ⟨its2, rv2, p2⟩ := seqB I hqy
    have l1 := rv.length
    have l2 := rv2.length
    have hh : X.A.in1.handled = none := I.ok.hd hc
    exact wpAny_pyNext_zipD2_end (sep_of D) (drawsB b1 hh i1 a D.l1i1 its.toArray) (drawsB b2 hh i2 b D.l2i2 its2.toArray) hz hTI hTO ⟨h1, p⟩ ⟨h2, p2⟩ (by simp; omega) (by simp; omega) (by simp; omega) fun h' tk hk =>
      ⟨rfl, I.turnedL (t' := tk) (ch := [z, TI, TO, i1, i2]) (fun c o hb q => hk c o (fun q' => hb (by simp [q'])) (fun q' => hb (by simp [q'])) (fun q' => hb (by simp [q'])) (fun q' => hb (by simp [q'])) q) hf⟩
  self := fun A i s Q E st h => wpAny_pyIter_zip st.1 h
def iZipB (K : PySem.W.Frag) (ta : TA) : TI := fun σ H R => ta σ H fun vs H1 => ∃ a b b1 b2 xs ys, vs = [.ref a, .ref b] ∧ SqB K b1 H1 a xs ∧ SqB K b2 H1 b ys ∧ R (ItzB K b1 b2 a b) H1
theorem pi_zipB {X : Cx} {K : PySem.W.Frag} {e e2 : Expr} {ta : TA} {p pos tpos : Pos} {elts : List Expr} {kk : Nat} (hK : X.K = K) (hg : Gl X "zip") (hm : X.mg "zip" = none) (ha : PA X [e, e2] ta)
    (hs : starEach [e, e2] X.env = (false, eval e X.env) :: starEach [e2] X.env := by rfl) (hpl : (backTo pos (starEach [e2] X.env)).any (·.1) = false := by rfl) :
    PI X (.Tuple elts kk tpos) (.Call (.Name "zip" p) [e, e2] [] pos) (iZipB K ta) := by
  subst hK
  refine ⟨fun pins s σ H R I h => ?_⟩
  refine Call_ (ld_blt I hg hm PyProof.Rows.boot_zip (PyProof.Rows.callWith_type1 (thn (ha.run pos pins s σ H _ I h) fun us s1 ⟨vs, H1, I1, r1, q1⟩ => ?_) hs hpl))
  obtain ⟨a, b, b1, b2, xs, ys, ex, hqx, hqy, q⟩ := q1
  subst ex
  cases r1 with
  | cons r rr =>
    cases rr with
    | cons r' rr =>
      cases rr
      cases r
      cases r'
      have fresh5 : ∀ c, c ∈ [s1.heap.objs.size + 4, s1.heap.objs.size + 2, s1.heap.objs.size + 3, s1.heap.objs.size, s1.heap.objs.size + 1] → FpOk X pins H1 c := fun c hcm => by
        have e' : c = s1.heap.objs.size + 4 ∨ c = s1.heap.objs.size + 2 ∨ c = s1.heap.objs.size + 3 ∨ c = s1.heap.objs.size ∨ c = s1.heap.objs.size + 1 := by simpa using hcm
        have hle : s1.heap.objs.size ≤ c := by
          rcases e' with z | z | z | z | z
          · rw [z]; exact Nat.le_add_right _ _
          · rw [z]; exact Nat.le_add_right _ _
          · rw [z]; exact Nat.le_add_right _ _
          · rw [z]; exact Nat.le_refl _
          · rw [z]; exact Nat.le_add_right _ _
        exact I1.fpOk hle (I1.hok.fresh hle)
      obtain ⟨its, rv, p1⟩ := seqB I1 hqx
      obtain ⟨its2, rv2, p2⟩ := seqB I1 hqy
      refine zip_begins2 (beginsB b1 a its.toArray) (beginsB b2 b its2.toArray) p1 p2 fun h' hz hTI hTO h1 h2 hsz hk => wpAny_pyIter_zip hz ?_
      have I2 : Inv X pins σ H1 { s1 with heap := h' } := I1.kept (t' := s1.toks) hk
      exact ⟨s1.heap.objs.size + 4, [s1.heap.objs.size + 4, s1.heap.objs.size + 2, s1.heap.objs.size + 3, s1.heap.objs.size, s1.heap.objs.size + 1], _, _, H1, rfl, I2, turn_zipB (PySem.W.ktu_apart s1.heap.objs.size a b p1.lt p2.lt), ⟨hz, hTI, ⟨_, _, hTO⟩, iterB0 h1, iterB0 h2⟩, fresh5, q⟩
theorem walk_zipB {K : PySem.W.Frag} {b1 b2 : Bool} {a b : Addr} {xs ys : List V} {n : Nat} (hn : n = min xs.length ys.length) : Walk (ItzB K b1 b2 a b) n (fun H => SqB K b1 H a xs ∧ SqB K b2 H b ys) (YPair (fun i => xs[i]?) (fun i => ys[i]?)) := by
  subst hn
  refine ⟨fun i _ hi q => ?_, fun _ q => ⟨xs, ys, q.1, q.2, by omega, by omega, by omega⟩, fun i H v H' _ q y => ?_⟩
  · have h1 : i < xs.length := by omega
    have h2 : i < ys.length := by omega
    exact ⟨xs, ys, xs[i], ys[i], q.1, q.2, by simp [h1], by simp [h2]⟩
  · obtain ⟨T, x, z, h1, h2, h3, h4, h5⟩ := y
    exact ⟨T, x, z, h1, h2, h3, h4 xs q.1, h5 ys q.2⟩
end U

namespace U
open PySem L2 PySem.Spec PyProof.Rows
section
variable {K : PySem.W.Frag} {σ : L2.St} {H : Hp} {a b A : Addr} {b1 b2 : Bool} {vs xs ys : List V} {g : TG} {tb : TS} {D : Ends} {R : It → Hp → Prop} {ta : TA} {tl : TE}
variable {tt : TT} {te : TE} {ns : List Nat} {Qd : Hp → Prop} {n : Nat}
/-! zip -/
theorem for_zB (hn : n = min xs.length ys.length) (Pv : Nat → L2.St → Hp → Prop) (h0 : Pv 0 σ H) (hG : ∀ i σ' H', Pv i σ' H' → SqB K b1 H' a xs ∧ SqB K b2 H' b ys)
    (hs : ∀ i x y σ' H' T H2, xs[i]? = some x → ys[i]? = some y → Pv i σ' H' → H' T = none → H2 T = some (.tup [x, y]) → Kp [] H' H2 → g (.ref T) σ' H2 fun σ2 H3 => tb { D with nx := Pv (i + 1), ct := Pv (i + 1), bk := D.nx } σ2 H3) (hd : ∀ σ' H', Pv n σ' H' → D.nx σ' H') :
    ∃ W : Nat → Nat → L2.St → Hp → Prop, (∃ m, W 0 m σ H) ∧ ∀ i m σ H, W i m σ H →
      ((ItzB K b1 b2 a b).stop i H ∧ D.nx σ H) ∨ ((ItzB K b1 b2 a b).go i H ∧ ∃ N : L2.St → Hp → Prop, (∀ σ' H', N σ' H' → ∃ m', m' < m ∧ W (i + 1) m' σ' H') ∧ ∀ x H', (ItzB K b1 b2 a b).yld i H x H' → g x σ H' fun σ2 H2 => tb { D with nx := N, ct := N, bk := D.nx } σ2 H2) :=
  for_it (walk_zipB hn) Pv h0 (fun i σ' H' _ p => hG i σ' H' p) (fun i x σ' H1 H2 hi p y => by
    obtain ⟨T, x1, x2, rfl, f, rfl, e1, e2⟩ := y
    exact hs i x1 x2 σ' H1 T _ e1 e2 p f upd_same (Kp.refl.new f)) hd
theorem lc_zB (hn : n = min xs.length ys.length) (hA : H A = none) (Pv : Nat → List V → Hp → Prop) (h0 : ∀ H', H' A = some (.lst []) → Kp [] H H' → Pv 0 [] H') (hG : ∀ i acc H', H' A = some (.lst acc) → Pv i acc H' → SqB K b1 H' a xs ∧ SqB K b2 H' b ys)
    (hs : ∀ i x y acc H' T H2, xs[i]? = some x → ys[i]? = some y → H' A = some (.lst acc) → Pv i acc H' → H' T = none → H2 T = some (.tup [x, y]) → Kp [] H' H2 → g (.ref T) (wipe σ ns) H2 fun σ2 H2 => wipe σ2 ns = wipe σ ns ∧ tt σ2 H2 fun b H3 =>
      if b = true then te σ2 H3 fun y H4 => ∃ acc, H4 A = some (.lst acc) ∧ acc.length < sizeLine ∧ PvD A Pv (i + 1) (upd H4 A (.lst (acc ++ [y]))) else PvD A Pv (i + 1) H3) (hd : ∀ acc H', H' A = some (.lst acc) → Pv n acc H' → Qd H') :
    ∃ W : Nat → Nat → Hp → Prop, (∃ m, W 0 m (upd H A (.lst []))) ∧ ∀ i m H, W i m H →
      ((ItzB K b1 b2 a b).stop i H ∧ Qd H) ∨ ((ItzB K b1 b2 a b).go i H ∧ ∃ Nx : Hp → Prop, (∀ H', Nx H' → ∃ m', m' < m ∧ W (i + 1) m' H') ∧ ∀ x H', (ItzB K b1 b2 a b).yld i H x H' → g x (wipe σ ns) H' fun σ2 H2 => wipe σ2 ns = wipe σ ns ∧ tt σ2 H2 fun b H3 =>
        if b = true then te σ2 H3 fun y H4 => ∃ acc, H4 A = some (.lst acc) ∧ acc.length < sizeLine ∧ Nx (upd H4 A (.lst (acc ++ [y]))) else Nx H3) :=
  lc_it (walk_zipB hn) (PvD A Pv) (PvD.begin hA h0) (fun i H' _ p => by
    obtain ⟨acc, ea, p⟩ := p
    exact hG i acc H' ea p) (fun i x H1 H2 hi p y => by
    obtain ⟨T, x1, x2, rfl, f, rfl, e1, e2⟩ := y
    obtain ⟨acc, ea, p⟩ := p
    exact hs i x1 x2 acc H1 T _ e1 e2 ea p f upd_same (Kp.refl.new f)) (fun H' p => by
    obtain ⟨acc, ea, p⟩ := p
    exact hd acc H' ea p)
theorem s_izB (h : ta σ H fun vs H1 => ∃ a b b1 b2 xs ys, vs = [.ref a, .ref b] ∧ SqB K b1 H1 a xs ∧ SqB K b2 H1 b ys ∧ R (ItzB K b1 b2 a b) H1) : iZipB K ta σ H R := h
theorem s_zB {S : Addr → Addr → Bool → Bool → Prop} (b1 b2 : Bool) (xs ys : List V) (h1 : SqB K b1 H a xs) (h2 : SqB K b2 H b ys) (q : S a b b1 b2) : ∃ a' b' b1 b2 xs ys, [V.ref a, V.ref b] = [.ref a', .ref b'] ∧ SqB K b1 H a' xs ∧ SqB K b2 H b' ys ∧ S a' b' b1 b2 := ⟨a, b, b1, b2, xs, ys, rfl, h1, h2, q⟩
theorem sqb_L (h : H a = some (.lst xs)) : SqB K false H a xs := SqL.of h
theorem sqb_T (h : H a = some (.tup xs)) : SqB K true H a xs := SqT.of h
theorem sqb_K (h : KT K a xs) : SqB K true H a xs := h.sq
/-! walks over tuples of the module -/
theorem s_itK {S : Addr → Prop} (h : KT K a xs) (q : S a) : ∃ a', V.ref a = .ref a' ∧ (∃ xs, SqT K H a' xs) ∧ S a' := ⟨a, rfl, ⟨xs, h.sq⟩, q⟩
theorem for_K (e : KT K a vs) (Pv : Nat → L2.St → Hp → Prop) (h0 : Pv 0 σ H)
    (hs : ∀ i x σ' H', vs[i]? = some x → Pv i σ' H' → g x σ' H' fun σ2 H2 => tb { D with nx := Pv (i + 1), ct := Pv (i + 1), bk := D.nx } σ2 H2) (hd : ∀ σ' H', Pv vs.length σ' H' → D.nx σ' H') :
    ∃ W : Nat → Nat → L2.St → Hp → Prop, (∃ m, W 0 m σ H) ∧ ∀ i m σ H, W i m σ H →
      ((Itt K a).stop i H ∧ D.nx σ H) ∨ ((Itt K a).go i H ∧ ∃ N : L2.St → Hp → Prop, (∀ σ' H', N σ' H' → ∃ m', m' < m ∧ W (i + 1) m' σ' H') ∧ ∀ x H', (Itt K a).yld i H x H' → g x σ H' fun σ2 H2 => tb { D with nx := N, ct := N, bk := D.nx } σ2 H2) :=
  for_it (walk_tup (xs := vs)) Pv h0 (fun i σ' H' _ p => e.sq) (fun i x σ' H1 H2 hi p y => by
    obtain ⟨rfl, ex⟩ := y
    exact hs i x σ' H2 ex p) hd
theorem lc_K (e : KT K a vs) (hA : H A = none) (Pv : Nat → List V → Hp → Prop) (h0 : ∀ H', H' A = some (.lst []) → Kp [] H H' → Pv 0 [] H')
    (hs : ∀ i x acc H', vs[i]? = some x → H' A = some (.lst acc) → Pv i acc H' → g x (wipe σ ns) H' fun σ2 H2 => wipe σ2 ns = wipe σ ns ∧ tt σ2 H2 fun b H3 =>
      if b = true then te σ2 H3 fun y H4 => ∃ acc, H4 A = some (.lst acc) ∧ acc.length < sizeLine ∧ PvD A Pv (i + 1) (upd H4 A (.lst (acc ++ [y]))) else PvD A Pv (i + 1) H3) (hd : ∀ acc H', H' A = some (.lst acc) → Pv vs.length acc H' → Qd H') :
    ∃ W : Nat → Nat → Hp → Prop, (∃ m, W 0 m (upd H A (.lst []))) ∧ ∀ i m H, W i m H →
      ((Itt K a).stop i H ∧ Qd H) ∨ ((Itt K a).go i H ∧ ∃ Nx : Hp → Prop, (∀ H', Nx H' → ∃ m', m' < m ∧ W (i + 1) m' H') ∧ ∀ x H', (Itt K a).yld i H x H' → g x (wipe σ ns) H' fun σ2 H2 => wipe σ2 ns = wipe σ ns ∧ tt σ2 H2 fun b H3 =>
        if b = true then te σ2 H3 fun y H4 => ∃ acc, H4 A = some (.lst acc) ∧ acc.length < sizeLine ∧ Nx (upd H4 A (.lst (acc ++ [y]))) else Nx H3) :=
  lc_it (walk_tup (xs := vs)) (PvD A Pv) (PvD.begin hA h0) (fun i H' _ p => e.sq) (fun i x H1 H2 hi p y => by
    obtain ⟨rfl, ex⟩ := y
    obtain ⟨acc, ea, p⟩ := p
    exact hs i x acc H2 ex ea p) (fun H' p => by
    obtain ⟨acc, ea, p⟩ := p
    exact hd acc H' ea p)
end
/-! written dicts of the module: texts to tuples of texts -/
structure KF (K : PySem.W.Frag) (w : World) (a : Addr) (f : Str → Option (List Str)) : Prop where
  ex : ∃ es n, KDict K w a es n
  hit : ∀ z xs, f z = some xs → ∃ t, PySem.W.nsIn K a z = some (some (.ref t)) ∧ KT K t (xs.map V.str)
  miss : ∀ z, f z = none → PySem.W.nsIn K a z = some none
def lk (l : List (Str × List Str)) (z : Str) : Option (List Str) := (l.find? fun p => p.1 == z).map Prod.snd
def Ents (K : PySem.W.Frag) (P : Params) : List DictEntry → List (Str × List Str) → Prop
  | [], [] => True
  | e :: r, kx :: s => ((∃ tk, e.key = .str kx.1 tk) ∧ e.hash = PyData.keyHash P kx.1 ∧ ∃ t, e.val = .ref t ∧ KT K t (kx.2.map V.str)) ∧ Ents K P r s
  | _, _ => False
theorem Ents.nil {K : PySem.W.Frag} {P : Params} : Ents K P [] [] := trivial
theorem Ents.cons {K : PySem.W.Frag} {P : Params} {e : DictEntry} {r : List DictEntry} {k : Str} {xs : List Str} {s : List (Str × List Str)} {t : Addr} (h1 : ∃ tk, e.key = .str k tk) (h2 : e.hash = PyData.keyHash P k) (h3 : e.val = .ref t) (h4 : KT K t (xs.map V.str)) (h5 : Ents K P r s) : Ents K P (e :: r) ((k, xs) :: s) :=
  ⟨⟨h1, h2, t, h3, h4⟩, h5⟩
theorem Ents.lit {K : PySem.W.Frag} {P : Params} : ∀ {es : List DictEntry} {l : List (Str × List Str)}, Ents K P es l → PySem.W.KeysLit P es
  | [], _, _ => trivial
  | _ :: _, [], h => h.elim
  | e :: r, kx :: s, ⟨⟨⟨tk, h1⟩, h2, _⟩, h3⟩ => ⟨⟨kx.1, tk, h1, h2⟩, Ents.lit h3⟩
theorem Ents.noref {K : PySem.W.Frag} {P : Params} : ∀ {es : List DictEntry} {l : List (Str × List Str)}, Ents K P es l → es.any (·.refKey) = false
  | [], _, _ => rfl
  | _ :: _, [], h => h.elim
  | e :: r, kx :: s, ⟨⟨⟨tk, h1⟩, h2, _⟩, h3⟩ => by
    rw [List.any_cons, Ents.noref h3, Bool.or_false]
    unfold DictEntry.refKey
    rw [h1]
theorem Ents.find {K : PySem.W.Frag} {P : Params} (z : Str) : ∀ {es : List DictEntry} {l : List (Str × List Str)}, Ents K P es l → match lk l z with
    | none => es.find? (·.key.isStr z) = none
    | some xs => ∃ e t, es.find? (·.key.isStr z) = some e ∧ e.val = .ref t ∧ KT K t (xs.map V.str)
  | [], [], _ => rfl
  | [], _ :: _, h => h.elim
  | _ :: _, [], h => h.elim
  | e :: r, kx :: s, ⟨⟨⟨tk, h1⟩, h2, t, h4, h5⟩, h3⟩ => by
    have hs : e.key.isStr z = (kx.1 == z) := by rw [h1]; rfl
    have ih := Ents.find z h3
    unfold lk at ih ⊢
    cases hb : (kx.1 == z) with
    | true =>
      rw [List.find?_cons_of_pos (by exact hb)]
      exact ⟨e, t, by rw [List.find?_cons_of_pos (by rw [hs]; exact hb)], h4, h5⟩
    | false =>
      rw [List.find?_cons_of_neg (by rw [hb]; simp), List.find?_cons_of_neg (by rw [hs, hb]; simp)]
      exact ih
theorem KF.mk' {K : PySem.W.Frag} {w : World} {a : Addr} {l : List (Str × List Str)} {es : Array DictEntry} {n : Nat} (hl : K.lookup a = some ⟨.type "dict", none, .dict es n, #[]⟩) (low : (a == sysModules) = false) (h : Ents K w.params es.toList l) : KF K w a (lk l) := by
  refine ⟨⟨es, n, hl, h.lit, low⟩, fun z xs e => ?_, fun z e => ?_⟩
  · have f := h.find z
    rw [e] at f
    obtain ⟨d, t, f1, f2, f3⟩ := f
    refine ⟨t, ?_, f3⟩
    unfold PySem.W.nsIn
    rw [hl]
    dsimp only
    rw [f1]
    dsimp only
    rw [f2]
  · have f := h.find z
    rw [e] at f
    unfold PySem.W.nsIn
    rw [hl]
    dsimp only
    rw [f]
    dsimp only
    rw [h.noref]
    rfl
def rInF (K : PySem.W.Frag) (w : World) (ng : Bool) : R2 := fun x y H Q => ∃ (d : Addr) (es : Array DictEntry) (n : Nat) (z : Str) (r : Option Value), x = .str z ∧ y = .ref d ∧ KDict K w d es n ∧ PySem.W.nsIn K d z = some r ∧ Q (.bl (xor ng r.isSome)) H
section
variable {X : Cx} {K : PySem.W.Frag} {w : World} {H : Hp} {Q : VK} {d : Addr} {f : Str → Option (List Str)} {z : Str} {xs : List Str}
theorem o_inF (hK : X.K = K) (hw : X.w = w) : OpR X (compareOp .In) (rInF K w false) := by
  subst hK hw
  intro pins s σ H x y v u Q I rx ry h
  obtain ⟨d, es, n, z, r, rfl, rfl, D, e, q⟩ := h
  exact op_in_kd D pins s σ H _ _ v u Q I rx ry ⟨z, r, rfl, rfl, e, by simpa using q⟩
theorem o_notinF (hK : X.K = K) (hw : X.w = w) : OpR X (compareOp .NotIn) (rInF K w true) := by
  subst hK hw
  intro pins s σ H x y v u Q I rx ry h
  obtain ⟨d, es, n, z, r, rfl, rfl, D, e, q⟩ := h
  exact op_notIn_kd D pins s σ H _ _ v u Q I rx ry ⟨z, r, rfl, rfl, e, by simpa using q⟩
theorem s_inF {ng : Bool} (h : KF K w d f) (q : Q (.bl (xor ng (f z).isSome)) H) : rInF K w ng (.str z) (.ref d) H Q := by
  obtain ⟨es, n, D⟩ := h.ex
  cases e : f z with
  | none => exact ⟨d, es, n, z, none, rfl, rfl, D, h.miss z e, by rw [e] at q; exact q⟩
  | some xs =>
    obtain ⟨t, e1, _⟩ := h.hit z xs e
    exact ⟨d, es, n, z, _, rfl, rfl, D, e1, by rw [e] at q; exact q⟩
theorem ix_F (hK : X.K = K) (hw : X.w = w) : IxR X (rIxD K w) := by
  subst hK hw
  exact ix_kdict
theorem s_ixF (h : KF K w d f) (e : f z = some xs) (q : ∀ t, KT K t (xs.map V.str) → Q (.ref t) H) : rIxD K w (.ref d) (.str z) H Q := by
  obtain ⟨es, n, D⟩ := h.ex
  obtain ⟨t, e1, e2⟩ := h.hit z xs e
  exact ⟨d, z, .ref t, rfl, rfl, ⟨es, n, _, D.at_, D.lit, e1, rfl⟩, q t e2⟩
end
/-! list.pop(0), str(x), tuple + tuple, isdigit, len of a tuple -/
section
variable {X : Cx} {K : PySem.W.Frag} {H : Hp} {Q : VK} {p a b : Addr} {xs ys : List V} {x : V} {z : Str} {n : Int} {o : Expr} {to : TE}
theorem s_pop0 (h : H p = some (.lst (x :: xs))) (q : ∀ H', H' p = some (.lst xs) → Kp [p] H H' → Q x H') : rPopAt (.ref p) [.int 0] H Q :=
  ⟨p, x :: xs, 0, 0, x, rfl, rfl, h, by decide, by decide, (by simp [seqIndex?]), rfl, put_abs h rfl (R := fun H' => Q x H') q⟩
def uStrA : List V → Hp → VK → Prop := fun xs H Q => uStr xs H Q ∨ ∃ a, xs = [.str a] ∧ Q (.str a) H
theorem c_strA : CallR X (.type "str") uStrA := by
  intro pins s σ H xs us Q I r h
  rcases h with h | h
  · exact c_str pins s σ H xs us Q I r h
  · exact SkE.call_str_str pins s σ H xs us Q I r h
theorem s_strS (q : Q (.str z) H) : uStrA [.str z] H Q := Or.inr ⟨z, rfl, q⟩
theorem s_cat (ha : H a = some (.tup xs)) (hb : H b = some (.tup ys)) (n1 : xs ≠ []) (n2 : ys ≠ []) (hz : xs.length + ys.length ≤ sizeLine) (q : ∀ p H', H p = none → H' p = some (.tup (xs ++ ys)) → Kp [] H H' → Q (.ref p) H') : uAdd K (.ref a) (.ref b) H Q :=
  Or.inr (Or.inr (Or.inr ⟨a, b, xs, ys, rfl, rfl, SqT.of ha, SqT.of hb, hz, fun e => (n1 e).elim, fun _ e => (n2 e).elim, fun _ _ => new_abs (R := fun p H' => Q (.ref p) H') q⟩))
theorem pe_isdg {apos pos : Pos} (ho : PE X o to) (hbase : attributeBase o "isdigit" X.env (eval o X.env) = eval o X.env := by rfl) (hline : (apos.endLine == pos.line) = true := by rfl) :
    PE X (.Call (.Attribute o "isdigit" apos) [] [] pos) (tM0 (fun x xs H Q => ∃ a, x = .str a ∧ xs = [] ∧ True ∧ Q (.bl (Txt.isdigit a)) H) to) :=
  pe_m0 F.slot_str_isdigit F.type_str_isdigit mt_isdigit ho hbase hline
theorem s_isdg (q : Q (.bl (Txt.isdigit z)) H) : ∃ a, V.str z = .str a ∧ ([] : List V) = [] ∧ True ∧ Q (.bl (Txt.isdigit a)) H := ⟨z, rfl, rfl, trivial, q⟩
end
/-! x == (), x a tuple of any things -/
def uEqE (K : PySem.W.Frag) : R2 := fun x y H Q => ∃ a b xs, x = .ref a ∧ y = .ref b ∧ SqT K H a xs ∧ SqT K H b [] ∧ Q (.bl xs.isEmpty) H
section
variable {X : Cx} {K : PySem.W.Frag} {H : Hp} {Q : VK} {a b : Addr} {xs : List V} {k : Nat}
theorem o_eqE (hK : X.K = K) (hr : Room k X.A) : OpR X (compareOp .Eq) (uEqE K) := by
  subst hK
  intro pins s σ H x y v u Q I rx ry h
  obtain ⟨a, b, xs, rfl, rfl, h1, h2, q⟩ := h
  cases rx
  cases ry
  obtain ⟨its, rv, p, _⟩ := I.tuple h1
  obtain ⟨its2, rv2, p2, _⟩ := I.tuple h2
  have e2 : its2 = [] := by cases rv2; rfl
  subst e2
  refine SeqAt.eq_tupleAt (e := fun _ => true) p p2 (Nat.lt_of_succ_lt (hu_of hr)) (fun j _ h => absurd h (by simp)) ⟨.bl xs.isEmpty, H, I, ?_, q⟩
  cases rv with
  | nil => rfl
  | cons r rr => exact congrArg Value.bool (by simp)
theorem s_eqE (h1 : H a = some (.tup xs)) (h2 : H b = some (.tup [])) (q : Q (.bl xs.isEmpty) H) : uEqE K (.ref a) (.ref b) H Q := ⟨a, b, xs, rfl, rfl, SqT.of h1, SqT.of h2, q⟩
end
end U

namespace U
open PySem L2 PySem.Spec PyProof.Rows
section
variable {K : PySem.W.Frag} {H H1 : Hp} {Q : VK} {p a b : Addr} {xs ys : List V} {z : Str}
/-- tuple + tuple, of any lengths -/
theorem s_catG (ha : H a = some (.tup xs)) (hb : H b = some (.tup ys)) (hz : xs.length + ys.length ≤ sizeLine) (q : ∀ p H', H' p = some (.tup (xs ++ ys)) → Kp [] H H' → Q (.ref p) H') : uAdd K (.ref a) (.ref b) H Q :=
  Or.inr (Or.inr (Or.inr ⟨a, b, xs, ys, rfl, rfl, SqT.of ha, SqT.of hb, hz, fun e => q b H (by rw [e]; exact hb) Kp.refl, fun _ e => q a H (by rw [e, List.append_nil]; exact ha) Kp.refl, fun _ _ => new_abs (R := fun p H' => Q (.ref p) H') fun p H' _ e k => q p H' e k⟩))
/-- list + list -/
theorem s_addL (h1 : H a = some (.lst xs)) (h2 : H b = some (.lst ys)) (h : xs.length + ys.length ≤ sizeLine)
    (z : ∀ p' H', H p' = none → H' p' = some (.lst (xs ++ ys)) → Kp [] H H' → Q (.ref p') H') : uAdd K (.ref a) (.ref b) H Q := s_addl h1 h2 h z
/-- list(tuple) -/
theorem s_listT (h : H p = some (.tup xs)) (q : ∀ l H', H l = none → H' l = some (.lst xs) → Kp [] H H' → Q (.ref l) H') : uList K [.ref p] H Q := ⟨p, xs, rfl, Or.inr (SqT.of h), fun l f => q l _ f upd_same (Kp.refl.new f)⟩
theorem dna_strs : ∀ zs : List Str, DnA K H (zs.map V.str) (zs.map PyData.str)
  | [] => .nil
  | z :: zs => .cons (.str z) (dna_strs zs)
theorem dna_rep {j : Int} : ∀ m : Nat, DnA K H (List.replicate m (V.int j)) (List.replicate m (.int j))
  | 0 => .nil
  | m + 1 => by rw [List.replicate_succ, List.replicate_succ]; exact .cons (.int j) (dna_rep m)
theorem lay_rep {j : Int} : ∀ m : Nat, PyData.canLayAll0 (List.replicate m (.int j)) = true ∧ PyData.depthAll (List.replicate m (.int j)) ≤ 1
  | 0 => ⟨rfl, by simp [PyData.depthAll]⟩
  | m + 1 => by
    obtain ⟨h1, h2⟩ := lay_rep (j := j) m
    rw [List.replicate_succ]
    refine ⟨by simp only [PyData.canLayAll0, PyData.canLay0, h1, Bool.and_self], ?_⟩
    simp only [PyData.depthAll, PyData.depth]
    omega
theorem shp_rep {j : Int} (m : Nat) : SeqAt.shaped (.list (List.replicate m (.int j))) = true := by
  obtain ⟨h1, h2⟩ := lay_rep (j := j) m
  unfold SeqAt.shaped
  rw [Bool.and_eq_true]
  refine ⟨by simpa only [PyData.canLay0] using h1, decide_eq_true ?_⟩
  simp only [PyData.depth]
  omega
theorem map_one (cs : List Nat) : cs.map (fun c => V.str ⟨#[c]⟩) = (cs.map fun c => (⟨#[c]⟩ : Str)).map V.str := by rw [List.map_map]; rfl
end
theorem cut_pre (xs : List V) {n : Int} (h0 : 0 ≤ n) : cutV xs none (some n) = xs.take n.toNat := by
  obtain ⟨k, rfl⟩ := Int.eq_ofNat_of_zero_le h0
  unfold cutV
  rw [HT.sIx_none, HT.sIx_nat, List.drop_zero]
  simp
theorem cut_tail (xs : List V) {n : Int} (h0 : 0 ≤ n) : cutV xs (some n) none = xs.drop n.toNat := by
  obtain ⟨k, rfl⟩ := Int.eq_ofNat_of_zero_le h0
  unfold cutV
  rw [HT.sIx_none, HT.sIx_nat]
  apply List.ext_getElem?
  intro i
  simp [List.getElem?_take, List.getElem?_drop]
  by_cases h : k ≤ xs.length
  · rw [Nat.min_eq_left h]
    by_cases h2 : i < xs.length - k
    · rw [if_pos h2]
    · rw [if_neg h2, List.getElem?_eq_none (by omega)]
  · rw [Nat.min_eq_right (by omega), if_neg (by omega), List.getElem?_eq_none (by omega)]
theorem S_tail (cs : List Nat) {n : Int} (h0 : 0 ≤ n) : cutS (S cs) (some n) none = S (cs.drop n.toNat) := by
  rw [S_cut]
  congr 1
  obtain ⟨k, rfl⟩ := Int.eq_ofNat_of_zero_le h0
  rw [HT.sIx_none, HT.sIx_nat]
  apply List.ext_getElem?
  intro i
  simp [List.getElem?_take, List.getElem?_drop]
  by_cases h : k ≤ cs.length
  · rw [Nat.min_eq_left h]
    by_cases h2 : i < cs.length - k
    · rw [if_pos h2]
    · rw [if_neg h2, List.getElem?_eq_none (by omega)]
  · rw [Nat.min_eq_right (by omega), if_neg (by omega), List.getElem?_eq_none (by omega)]
end U

namespace U
open PySem L2 PySem.Spec PyProof.Rows
/-! repr where an error is being handled -/
section
theorem call_reprU {X : Cx} (hg : X.A.guards = some []) (hu : X.A.units + 200 < cLine) (hs : ∃ mm, X.base.Ns sysModules mm) : CallR X (.builtin "repr") (rRepr X.K) := by
  rintro pi s σ H xs us Q I vv ⟨v, d, rfl, hd, g, dp, zz, q⟩
  obtain ⟨u, rfl, rv⟩ := Vals.one vv
  obtain ⟨sh, le⟩ := good_show g
  have le2 : d.shown.length ≤ sizeLine := Nat.le_trans (Nat.le_trans le zz) (by decide)
  cases hd with
  | non => cases rv; exact PySem.P.repr_of_none ⟨.str _, H, I.tok _, ⟨_, rfl⟩, q⟩
  | bl b => cases rv; exact PySem.P.repr_of_bool ⟨.str _, H, I.tok _, ⟨_, rfl⟩, q⟩
  | int i =>
    obtain ⟨t, rfl⟩ := rv
    simp only [PyData.showable, decide_eq_true_eq] at sh
    exact PySem.P.repr_of_int sh ⟨.str _, H, I.tok _, ⟨_, rfl⟩, q⟩
  | str x =>
    obtain ⟨t, rfl⟩ := rv
    exact PySem.P.repr_of_str ⟨.str _, H, I.tok _, ⟨_, rfl⟩, q⟩ le2
  | lst h1 h2 =>
    obtain ⟨as, r1, r2⟩ := Dn.reads I hs (.lst h1 h2) rv
    cases rv
    exact repr_of_reads' r1 sh (fun _ => r2) hg (by omega) (fun _ _ e => e) (fun h' u tk hk => ⟨.str _, H, I.kept hk, ⟨_, rfl⟩, q⟩) le2
  | tup h1 h2 =>
    obtain ⟨as, r1, r2⟩ := Dn.reads I hs (.tup h1 h2) rv
    cases rv
    exact repr_of_reads' r1 sh (fun _ => r2) hg (by omega) (fun _ _ e => e) (fun h' u tk hk => ⟨.str _, H, I.kept hk, ⟨_, rfl⟩, q⟩) le2
  | dic h1 h2 =>
    obtain ⟨as, r1, r2⟩ := Dn.reads I hs (.dic h1 h2) rv
    cases rv
    exact repr_of_reads' r1 sh (fun _ => r2) hg (by omega) (fun _ _ e => e) (fun h' u tk hk => ⟨.str _, H, I.kept hk, ⟨_, rfl⟩, q⟩) le2
theorem hu200 {k : Nat} {A : Around} {h : Option Value} (r : Room k A) : (A.mark h).units + 200 < cLine := by have := r.un; show A.units + 200 < cLine; omega
theorem o_eqU {X : Cx} {K : PySem.W.Frag} (hK : X.K = K) (hu : X.A.units + 200 < cLine) : OpR X (compareOp .Eq) (uEq K) := hK ▸ op_eq.or (op_eqD (by omega))
theorem o_neU {X : Cx} {K : PySem.W.Frag} (hK : X.K = K) (hu : X.A.units + 200 < cLine) : OpR X (compareOp .NotEq) (uNe K) := hK ▸ op_ne.or (op_neD (by omega))
theorem c_reprU {X : Cx} {K : PySem.W.Frag} (hK : X.K = K) (hg : X.A.guards = some []) (hu : X.A.units + 200 < cLine) (hs : ∃ mm, X.base.Ns sysModules mm) : CallR X (.builtin "repr") (rRepr K) := hK ▸ call_reprU hg hu hs
end
end U

namespace U
open PySem L2 PySem.Spec PyProof.Rows
/-! text * number; text.index(sign) -/
def rSmul : R2 := fun x y H Q => ∃ (a : Str) (n : Int), x = .str a ∧ y = .int n ∧ MulOk a n ∧ Q (.str (Txt.mul a n)) H
section
variable {X : Cx} {K : PySem.W.Frag} {H : Hp} {Q : VK} {z : Str}
theorem op_smul : OpR X (binaryOp .Mult) rSmul := by
  intro pins s σ H x y v u Q I rx ry h
  obtain ⟨a, n, rfl, rfl, hm, q⟩ := h
  obtain ⟨t, rfl⟩ := rx
  obtain ⟨u', rfl⟩ := ry
  exact SB.mul hm fun t' k => ⟨.str _, H, I.kept (h' := s.heap) (t' := k) fun _ _ e => e, ⟨_, rfl⟩, q⟩
def uMulS : R2 := fun x y H Q => uMul x y H Q ∨ rSmul x y H Q
theorem o_mulS : OpR X (binaryOp .Mult) uMulS := o_mul.or op_smul
theorem s_mulS0 (q : Q (.str Str.empty) H) : uMulS (.str z) (.int 0) H Q := Or.inr ⟨z, 0, rfl, rfl, ⟨by decide, fun h => absurd (by decide : (0 : Int) < 1) h, fun h => absurd (by decide : (0 : Int) < 1) h⟩, q⟩
theorem s_mulS1 (q : Q (.str z) H) : uMulS (.str z) (.int 1) H Q := Or.inr ⟨z, 1, rfl, rfl, ⟨by decide, fun _ h => by simp at h, fun _ h => by simp at h⟩, by
  have : Txt.mul z 1 = z := by unfold Txt.mul; simp
  rw [this]; exact q⟩
theorem s_mulI (h : uMul (.int i) (.int j) H Q) : uMulS (.int i) (.int j) H Q := Or.inl h
/-- list * number -/
theorem s_repL {l : Addr} {k : Int} {xs : List V} (h : H l = some (.lst xs)) (h0 : 0 ≤ k) (h1 : k ≤ 1000) (hz : xs.length * k.toNat ≤ 1000000) (q : ∀ p H', H p = none → H' p = some (.lst (List.replicate k.toNat xs).flatten) → Kp [] H H' → Q (.ref p) H') : uMul (.ref l) (.int k) H Q :=
  Or.inr ⟨l, k, xs, rfl, rfl, h, by omega, by omega, zle hz, new_abs (R := fun p H' => Q (.ref p) H') q⟩
theorem pe_sidx {o e : Expr} {to te : TE} {apos pos : Pos} (ho : PE X o to) (he : PE X e te) (h1 : starEach [e] X.env = [(false, eval e X.env)] := by rfl) (h2 : attributeBase o "index" X.env (eval o X.env) = eval o X.env := by rfl) (hline : (apos.endLine == pos.line) = true := by rfl) :
    PE X (.Call (.Attribute o "index" apos) [e] [] pos) (tM1 (fun x xs H Q => ∃ a b i rest, x = .str a ∧ xs = [.str b] ∧ Builtin.Str.occurrences a b 0 a.length 1 = i :: rest ∧ Q (.int (i : Nat)) H) to te) :=
  pe_m1 F.slot_str_index F.type_str_index mt_sindex ho he h1 h2 hline
theorem dig_occ : ∀ c ∈ List.range' 48 10, Builtin.Str.occurrences "0123456789" ⟨#[c]⟩ 0 ("0123456789" : Str).length 1 = [c - 48] := by decide +kernel
theorem s_digI {c : Nat} (h0 : 48 ≤ c) (h1 : c ≤ 57) (q : Q (.int ((c - 48 : Nat) : Int)) H) : ∃ a b i rest, V.str ("0123456789" : Str) = .str a ∧ [V.str (⟨#[c]⟩ : Str)] = [.str b] ∧ Builtin.Str.occurrences a b 0 a.length 1 = i :: rest ∧ Q (.int (i : Nat)) H :=
  ⟨_, _, c - 48, [], rfl, rfl, dig_occ c (by rw [List.mem_range']; exact ⟨c - 48, by omega, by omega⟩), q⟩
end
end U

namespace U
open PySem L2 PySem.Spec PyProof.Rows
/-! any list against [] -/
def uNeE (K : PySem.W.Frag) : R2 := fun x y H Q => ∃ a b xs, x = .ref a ∧ y = .ref b ∧ SqL K H a xs ∧ SqL K H b [] ∧ Q (.bl (!xs.isEmpty)) H
section
variable {X : Cx} {K : PySem.W.Frag} {H : Hp} {Q : VK} {a b : Addr} {xs : List V} {k : Nat}
theorem o_neE (hK : X.K = K) (hr : Room k X.A) : OpR X (compareOp .NotEq) (uNeE K) := by
  subst hK
  intro pins s σ H x y v u Q I rx ry h
  obtain ⟨a, b, xs, rfl, rfl, h1, h2, q⟩ := h
  cases rx
  cases ry
  obtain ⟨its, rv, p, _⟩ := I.list h1
  obtain ⟨its2, rv2, p2, _⟩ := I.list h2
  have e2 : its2 = [] := by cases rv2; rfl
  subst e2
  have p := p.isList
  have p2 := p2.isList
  have hu : X.A.units < cLine := Nat.lt_of_succ_lt (hu_of hr)
  cases rv with
  | nil => exact SeqAt.RcNeAt.lists (e := fun _ => false) p p2 rfl hu (fun j h _ => absurd h (by simp)) _ _ _ _ ⟨.bl false, H, I, rfl, q⟩
  | cons r rr => exact SeqAt.RcNeAt.lists_lengths p p2 (by simp) hu _ _ _ _ ⟨.bl true, H, I, rfl, q⟩
theorem s_neE (h1 : H a = some (.lst xs)) (h2 : H b = some (.lst [])) (q : Q (.bl (!xs.isEmpty)) H) : uNeE K (.ref a) (.ref b) H Q := ⟨a, b, xs, rfl, rfl, SqL.of h1, SqL.of h2, q⟩
end
/-! text * number, any small ones -/
theorem s_mulSn {H : Hp} {Q : VK} {z : Str} {n : Nat} (h1 : 1 < n) (h2 : n ≤ 1000) (hz : z.length ≤ 1000) (h0 : 0 < z.length) (q : ∀ r : Str, r.length = z.length * n → (∀ c ∈ r.cps.toList, c ∈ z.cps.toList) → Q (.str r) H) : uMulS (.str z) (.int (n : Int)) H Q := by
  have hp : z.length * n ≤ 1000 * 1000 := Nat.mul_le_mul hz h2
  refine Or.inr ⟨z, n, rfl, rfl, ⟨?_, fun _ _ => ?_, fun _ _ => ?_⟩, ?_⟩
  · simp only [Bool.or_eq_false_iff, decide_eq_false_iff_not]
    omega
  · have : (2 ^ 63 - 1) / 1000 ≤ (2 ^ 63 - 1) / (n : Int) := by
      apply Int.le_ediv_of_mul_le (by omega)
      have : ((2 ^ 63 - 1) / 1000 : Int) * (n : Int) ≤ ((2 ^ 63 - 1) / 1000 : Int) * 1000 := Int.mul_le_mul_of_nonneg_left (by omega) (by decide)
      omega
    have e : ((2 ^ 63 - 1) / 1000 : Int) = 9223372036854775 := by decide
    omega
  · unfold Builtin.Str.tooLong
    have : z.length * (n : Int).toNat ≤ sizeLine := zle (by rw [Int.toNat_natCast]; omega)
    simpa using this
  · have e : Txt.mul z n = ⟨(List.replicate n z.cps).foldl (· ++ ·) #[]⟩ := by
      unfold Txt.mul
      rw [if_neg (by omega), if_neg (by
        simp only [Bool.or_eq_true, beq_iff_eq]
        omega), Int.toNat_natCast]
    have key : ∀ (m : Nat) (acc : Array Nat), ((List.replicate m z.cps).foldl (· ++ ·) acc).toList = acc.toList ++ (List.replicate m z.cps.toList).flatten := by
      intro m
      induction m with
      | zero => intro acc; simp
      | succ m ih => intro acc; rw [List.replicate_succ, List.foldl_cons, ih, List.replicate_succ]; simp
    rw [e]
    refine q _ ?_ fun c hc => ?_
    · have := congrArg List.length (key n #[])
      rw [Array.length_toList] at this
      show Array.size _ = _
      rw [this]
      have e2 : z.cps.size = z.length := rfl
      simp [e2, Nat.mul_comm]
    · have hc : c ∈ ((List.replicate n z.cps).foldl (· ++ ·) #[]).toList := hc
      rw [key] at hc
      simp only [List.nil_append, List.mem_flatten, List.mem_replicate] at hc
      obtain ⟨l, ⟨_, rfl⟩, hc⟩ := hc
      exact hc
end U

namespace U
open PySem L2 PySem.Spec PyProof.Rows
/-! list(text) -/
def uListZ : List V → Hp → VK → Prop := fun xs H Q => ∃ z : Str, xs = [.str z] ∧ z.length ≤ sizeLine ∧ ∀ l, H l = none → Q (.ref l) (upd H l (.lst (z.cps.toList.map fun c => V.str ⟨#[c]⟩)))
section
variable {X : Cx} {K : PySem.W.Frag} {H : Hp} {Q : VK}
theorem c_listZ (hc : X.calm = true) : CallR X (.type "list") uListZ := by
  intro pins s σ H xs us Q I r h
  obtain ⟨z, rfl, hz, q⟩ := h
  obtain ⟨u, eu, rx⟩ := vals1 r
  subst eu
  obtain ⟨tz, rfl⟩ := rx
  refine call_list_str (I.ok.hd hc) z _ (hn := hz) fun h' tk acc' c' hk hS hacc => ?_
  refine ⟨.ref s.heap.objs.size, upd H s.heap.objs.size (.lst (z.cps.toList.map fun c => V.str ⟨#[c]⟩)), I.laid hk (Nat.le_refl _) (show ObjOk X.prog X.w _ _ _ (.lst (z.cps.toList.map fun c => V.str ⟨#[c]⟩)) from ⟨?_, acc'.toList, c', ?_, ?_⟩), rfl, q _ (I.hok.fresh (Nat.le_refl _))⟩
  · rw [List.length_map, Array.length_toList]
    exact hz
  · refine vals_of_at (by rw [List.length_map, Array.length_toList, Array.length_toList, hacc.1]) fun m x w h1 h2 => ?_
    obtain ⟨c, tk', ec, ew⟩ := hacc.2 m w (by rw [← Array.getElem?_toList]; exact h2)
    rw [List.getElem?_map, Array.getElem?_toList, ec] at h1
    cases h1
    subst ew
    exact ⟨tk', rfl⟩
  · simpa using hS
theorem s_listZ {z : Str} (h : z.length ≤ sizeLine) (q : ∀ l H', H l = none → H' l = some (.lst (z.cps.toList.map fun c => V.str ⟨#[c]⟩)) → Kp [] H H' → Q (.ref l) H') : uListZ [.str z] H Q :=
  ⟨z, rfl, h, new_abs (R := fun p H' => Q (.ref p) H') q⟩
end
end U

local macro_rules | `(tactic| walk_at "b1") => `(tactic| first
  | with_reducible refine' U.s_asg ?_
  | ((with_reducible refine' U.s_nameR ?une ?_); (case une => (dsimp only [List.set]; try exact rfl)))
  | with_reducible refine' U.s_name ?_
  | with_reducible refine' U.s_ret ?_
  | with_reducible refine' U.s_next ?_
  | ((with_reducible show L2.Ends.nx _ _ _); dsimp only)
  | ((with_reducible show L2.Ends.rt _ _ _); dsimp only)
  | ((with_reducible show L2.Ends.bk _ _ _); dsimp only)
  | ((with_reducible show L2.Ends.ct _ _ _); dsimp only)
  | with_reducible refine' U.s_brk ?_
  | with_reducible refine' U.s_cnt ?_
  | with_reducible refine' U.s_retN ?_
  | with_reducible refine' U.s_drop ?_
  | with_reducible refine' U.s_op ?_
  | with_reducible refine' U.s_c ?_
  | ((with_reducible refine' U.s_var ?uvh ?_); (case uvh => exact rfl))
  | with_reducible refine' U.s_un ?_
  | with_reducible refine' U.s_neg ?_
  | with_reducible refine' U.s_test ?_
  | with_reducible refine' U.s_B ?_
  | with_reducible refine' U.s_bl ?_
  | with_reducible refine' U.s_not ?_
  | with_reducible refine' U.s_notV ?_
  | with_reducible refine' U.s_if ?_
  | with_reducible refine' U.s_add ?_
  | with_reducible refine' U.s_sub ?_
  | with_reducible refine' U.s_lt ?_
  | with_reducible refine' U.s_le ?_
  | with_reducible refine' U.s_gt ?_
  | with_reducible refine' U.s_ge ?_
  | with_reducible refine' U.s_eqi ?_
  | with_reducible refine' U.s_nei ?_
  | with_reducible refine' U.s_eqs ?_
  | with_reducible refine' U.s_nes ?_
  | with_reducible refine' U.s_in1 ?_
  | with_reducible refine' U.s_notin1 ?_
  | with_reducible refine' U.s_is ?_
  | with_reducible refine' U.s_isb ?_
  | with_reducible refine' U.s_isnot ?_
  | with_reducible refine' U.s_nil ?_
  | with_reducible refine' U.s_cons ?_
  | with_reducible refine' U.s_lst ?_
  | with_reducible refine' U.s_tup ?_
  | with_reducible refine' U.s_cb ?_
  | with_reducible refine' U.s_go ?_
  | with_reducible refine' U.s_co ?_
  | with_reducible refine' U.s_mt ?_
  | with_reducible refine' U.s_nw ?_
  | with_reducible refine' U.s_nwD ?_
  | with_reducible refine' U.s_fd ?_
  | with_reducible refine' U.s_sd ?_
  | with_reducible refine' U.s_fa ?_
  | with_reducible refine' U.s_radd ?_
  | with_reducible refine' U.s_rsub ?_
  | with_reducible refine' U.s_xe ?_
  | with_reducible refine' U.s_se ?_
  | with_reducible refine' U.s_os ?_
  | with_reducible refine' U.s_rz ?_
  | with_reducible refine' U.s_try ?_
  | with_reducible refine' U.s_dg ?_
  | with_reducible refine' U.s_dn ?_
  | with_reducible refine' U.s_pop ?_
  | with_reducible refine' U.s_bm ?_
  | with_reducible refine' U.s_gn ?_
  | with_reducible refine' U.s_tl ?_
  | with_reducible refine' U.s_gc ?_
  | with_reducible refine' U.s_rng2 ?_
  | ((with_reducible refine' U.s_gtu ?uth ?utl ?_); (case uth => walk_at "gt"); (case utl => exact rfl))
  | ((with_reducible refine' U.s_glu ?uth ?utl ?_); (case uth => walk_at "g"); (case utl => exact rfl))
  | ((with_reducible refine' U.s_ixt ?uih ?uia ?_); (case uih => walk_at "gt"); (case uia => exact rfl))
  | with_reducible refine' U.s_bm0 ?_
  | with_reducible refine' U.s_tys ?_
  | with_reducible refine' U.s_pnil ?_
  | with_reducible refine' U.s_pcons ?_
  | ((with_reducible refine' U.s_tyl ?uth ?_); (case uth => walk_at "g"))
  | ((with_reducible refine' U.s_tyd ?uth ?_); (case uth => walk_at "g"))
  | with_reducible refine' U.s_max2 ?_
  | with_reducible refine' U.s_min2 ?_
  | with_reducible refine' U.s_sub2 ?_
  | with_reducible refine' U.s_sl ?_
  | with_reducible refine' U.s_nopart ?_
  | with_reducible refine' U.s_part ?_
  | with_reducible refine' U.s_int ?_
  | with_reducible refine' U.s_m1 ?_
  | with_reducible refine' U.s_m0 ?_
  | with_reducible refine' U.s_isstr ?_
  | with_reducible refine' U.s_rng1 ?_
  | with_reducible refine' U.s_ilist ?_
  | with_reducible refine' U.s_istr ?_
  | with_reducible refine' U.s_lc ?_
  | with_reducible refine' U.s_for ?_
  | with_reducible refine' U.s_istr1 ?_
  | with_reducible refine' U.s_yes ?_
  | with_reducible refine' U.s_itt ?_
  | with_reducible refine' U.s_itf ?_
  | ((with_reducible refine' U.s_ixl ?uih ?uia ?_); (case uih => walk_at "g"); (case uia => exact rfl))
  | ((with_reducible refine' U.s_ixl ?uih ?uia ?_); (case uih => exact L2.upd_same); (case uia => exact rfl))
  | ((with_reducible refine' U.s_mod ?umh ?_); (case umh => first | decide | assumption | omega))
  | ((with_reducible refine' U.s_isInt ?uty ?_); (case uty => first | assumption | exact U.TyN.int | exact U.TyN.str | exact U.TyN.non | exact U.TyN.bl | exact U.TyN.lst (by walk_at "g") | exact U.TyN.tup (by walk_at "gt") | exact U.TyN.dic (by walk_at "g")))
  | ((with_reducible refine' U.s_isBool ?uty ?_); (case uty => first | assumption | exact U.TyN.int | exact U.TyN.str | exact U.TyN.non | exact U.TyN.bl | exact U.TyN.lst (by walk_at "g") | exact U.TyN.tup (by walk_at "gt") | exact U.TyN.dic (by walk_at "g")))
  | ((with_reducible refine' U.s_isStr ?uty ?_); (case uty => first | assumption | exact U.TyN.int | exact U.TyN.str | exact U.TyN.non | exact U.TyN.bl | exact U.TyN.lst (by walk_at "g") | exact U.TyN.tup (by walk_at "gt") | exact U.TyN.dic (by walk_at "g")))
  | ((with_reducible refine' U.s_isList ?uty ?_); (case uty => first | assumption | exact U.TyN.int | exact U.TyN.str | exact U.TyN.non | exact U.TyN.bl | exact U.TyN.lst (by walk_at "g") | exact U.TyN.tup (by walk_at "gt") | exact U.TyN.dic (by walk_at "g")))
  | ((with_reducible refine' U.s_isTup ?uty ?_); (case uty => first | assumption | exact U.TyN.int | exact U.TyN.str | exact U.TyN.non | exact U.TyN.bl | exact U.TyN.lst (by walk_at "g") | exact U.TyN.tup (by walk_at "gt") | exact U.TyN.dic (by walk_at "g")))
  | ((with_reducible refine' U.s_isDict ?uty ?_); (case uty => first | assumption | exact U.TyN.int | exact U.TyN.str | exact U.TyN.non | exact U.TyN.bl | exact U.TyN.lst (by walk_at "g") | exact U.TyN.tup (by walk_at "gt") | exact U.TyN.dic (by walk_at "g")))
  | ((with_reducible refine' U.s_itT ?uit ?_); (case uit => exact rfl))
  | ((with_reducible refine' U.s_itF ?uit ?_); (case uit => exact rfl))
  | ((with_reducible refine' U.s_itT ?uit ?_); (case uit => decide +kernel))
  | ((with_reducible refine' U.s_itF ?uit ?_); (case uit => decide +kernel))
  | ((with_reducible refine' U.s_mul ?umh ?_); (case umh => first | exact U.cmulL (by omega) (by omega) | exact U.cmulR (by omega) (by omega)))
  | ((with_reducible refine' U.s_pow ?umh ?ume ?_); (case umh => exact U.cpow (by omega) (by omega) (by omega) (by omega)); (case ume => simp only [Int.reduceToNat, Int.reducePow]; exact rfl))
  | ((with_reducible refine' U.s_div ?umh ?_); (case umh => exact U.cdiv (by omega) (by omega)))
  | ((with_reducible refine' U.s_dgs ?uih ?uia ?_); (case uih => walk_at "g"); (case uia => exact rfl))
  | ((with_reducible refine' U.s_dgs ?uih ?uia ?_); (case uih => walk_at "g"); (case uia => decide +kernel))
  | with_reducible refine' U.s_par ?_
  | with_reducible refine' U.s_two ?_
  | with_reducible refine' U.s_iseq ?_
  | with_reducible refine' U.s_itup ?_
  | with_reducible refine' U.s_ienT ?_
  | with_reducible refine' U.s_ienL ?_
  | with_reducible refine' U.s_ienS ?_
  | with_reducible refine' U.s_izB ?_
  | with_reducible refine' U.s_jo ?_
  | with_reducible refine' U.s_jsF ?_
  | with_reducible refine' U.s_abs ?_
  | ((with_reducible refine' U.s_inS ?uih ?_); (case uih => walk_at "g"))
  | ((with_reducible refine' U.s_ninS ?uih ?_); (case uih => walk_at "g"))
  | ((with_reducible refine' U.s_itp ?uih ?_); (case uih => walk_at "gt"))
  | ((with_reducible refine' U.s_eT ?uih ?_); (case uih => walk_at "gt"))
  | ((with_reducible refine' U.s_eL ?uih ?_); (case uih => walk_at "g")))
local macro_rules | `(tactic| walk_at "u1") => `(tactic| first
  | walk_at "b1"
  | with_reducible refine' U.s_seq ?_
  | with_reducible refine' U.s_ifS ?_
  | with_reducible refine' U.s_and ?_
  | with_reducible refine' U.s_or ?_
  | with_reducible refine' U.s_andV ?_
  | with_reducible refine' U.s_orV ?_
  | with_reducible refine' U.s_chain ?_)
local macro_rules | `(tactic| walk_at "v1") => `(tactic| first
  | walk_at "b1"
  | with_reducible refine' U.s_seq ?_
  | with_reducible refine' U.s_ifS ?_)
local macro_rules | `(tactic| walk_at "w1") => `(tactic| first
  | walk_at "b1"
  | with_reducible refine' U.s_seq ?_)
local macro_rules | `(tactic| walk_at "s1") => `(tactic| first
  | walk_at "b1")
local macro_rules | `(tactic| walk_at "u") => `(tactic| repeat (first | walk_at "u1" | walk_at "u2"))
local macro_rules | `(tactic| walk_at "v") => `(tactic| repeat (first | walk_at "v1" | walk_at "u2"))
local macro_rules | `(tactic| walk_at "w") => `(tactic| repeat (first | walk_at "w1" | walk_at "u2"))
local macro_rules | `(tactic| walk_at "s") => `(tactic| repeat (first | walk_at "s1" | walk_at "u2"))
local macro_rules | `(tactic| walk_at "na") => `(tactic| first
  | ((with_reducible refine' U.s_newl (U.zle ?unz) ?_); (case unz => simp))
  | ((with_reducible refine' U.s_newt (U.zle ?unz) ?_); (case unz => simp)))
local macro_rules | `(tactic| walk_at "g") => `(tactic| first
  | assumption
  | ((refine' U.Kp.get ?ugk ?ugm ?ugn); (case ugk => assumption); (case ugm => walk_at "g"); (case ugn => walk_at "n"))
  | ((refine' U.Box.kpn ?ugm ?ugk ?ugn); (case ugk => assumption); (case ugm => walk_at "g"); (case ugn => walk_at "n"))
  | ((refine' U.SqL.kpn ?ugk ?ugm ?ugn); (case ugk => assumption); (case ugm => walk_at "g"); (case ugn => walk_at "n"))
  | ((refine' L2.SqL.of ?ugm); (case ugm => walk_at "g"))
  | ((refine' U.Dx.kpn ?ugm ?ugk ?ugn); (case ugk => assumption); (case ugm => walk_at "g"); (case ugn => walk_at "q"))
  | walk_at "g2")
local macro_rules | `(tactic| walk_at "gt") => `(tactic| first
  | assumption
  | ((refine' U.Kp.tgt ?ugk ?ugm); (case ugk => assumption); (case ugm => walk_at "gt"))
  | fail)
local macro_rules | `(tactic| walk_at "g2") => `(tactic| fail)
local macro_rules | `(tactic| walk_at "n") => `(tactic| first
  | exact U.nm0
  | ((refine' U.nmc ?unh ?unr); (case unh => walk_at "ne"); (case unr => walk_at "n"))
  | assumption
  | fail)
local macro_rules | `(tactic| walk_at "ne") => `(tactic| first
  | assumption
  | exact Ne.symm (by assumption)
  | ((refine' U.Th.ne ?una ?unf); (case unf => assumption); (case una => walk_at "t"))
  | ((refine' Ne.symm (U.Th.ne ?una ?unf)); (case unf => assumption); (case una => walk_at "t"))
  | ((refine' U.Th.nk ?una ?unb ?unc); (case una => walk_at "t0"); (case unb => walk_at "t"); (case unc => exact rfl))
  | ((refine' Ne.symm (U.Th.nk ?una ?unb ?unc)); (case una => walk_at "t0"); (case unb => walk_at "t"); (case unc => exact rfl))
  | fail)
local macro_rules | `(tactic| walk_at "t0") => `(tactic| first
  | exact U.Th.lst (by assumption)
  | exact U.Th.tup (by assumption)
  | exact U.Th.dK (by assumption)
  | exact U.Th.ins (by assumption)
  | exact U.Th.xd (by assumption)
  | exact U.Box.th (by assumption)
  | walk_at "t2")
local macro_rules | `(tactic| walk_at "t2") => `(tactic| fail)
local macro_rules | `(tactic| walk_at "t") => `(tactic| first
  | walk_at "t0"
  | ((refine' U.Th.kp ?ugk ?ugm); (case ugk => assumption); (case ugm => walk_at "t"))
  | fail)
local macro_rules | `(tactic| walk_at "k") => `(tactic| first
  | exact U.Kp.refl
  | assumption
  | ((refine' U.Kp.step ?ukm ?ukk ?ukq); (case ukk => assumption); (case ukm => walk_at "k"); (case ukq => walk_at "q"))
  | fail)
local macro_rules | `(tactic| walk_at "q") => `(tactic| first
  | exact U.al0
  | ((refine' U.alc ?uqh ?uqr); (case uqh => first | (apply Or.inl; simp; done) | (apply Or.inr; walk_at "f")); (case uqr => walk_at "q"))
  | fail)
local macro_rules | `(tactic| walk_at "f") => `(tactic| first
  | assumption
  | exact U.Fz.f (by assumption)
  | ((refine' U.Dm.fr ?ufa ?ufm); (case ufa => assumption); (case ufm => walk_at "m"))
  | fail)
local macro_rules | `(tactic| walk_at "m") => `(tactic| first
  | exact U.Dm.refl
  | ((refine' U.Dm.step ?umm ?umk); (case umk => assumption); (case umm => walk_at "m"))
  | fail)
local macro_rules | `(tactic| walk_at "ud") => `(tactic| first
  | refine U.s_uds (by walk_at "g") (U.zlt (by simp)) rfl ?_
  | refine U.s_udi (by walk_at "g") (U.zlt (by simp)) rfl ?_
  | refine U.s_ul (by walk_at "g") rfl rfl ?_)

namespace K08
open PySem L2 U
def top (i : Nat) : Stmt := PySem.Challenge.pw_onestaff_k08_whole_line_texts.main.body.getD i (.Pass ⟨0, 0, 0, 0⟩)
abbrev s_NoName_init : Stmt := inClass (top 3) 0
abbrev N_NoName_init : List Str := ["self", "found"]
theorem sc_NoName_init : FnScope N_NoName_init ["self", "found"] (defScope s_NoName_init) := ⟨rfl, rfl, rfl, by decide +kernel, rfl, by decide +kernel, by decide +kernel⟩
theorem st_NoName_init {v0 v1 : V} : L2.start N_NoName_init [v0, v1] = [some v0, some v1] := rfl
abbrev s_NoPlace_init : Stmt := inClass (top 4) 0
abbrev N_NoPlace_init : List Str := ["self", "found"]
theorem sc_NoPlace_init : FnScope N_NoPlace_init ["self", "found"] (defScope s_NoPlace_init) := ⟨rfl, rfl, rfl, by decide +kernel, rfl, by decide +kernel, by decide +kernel⟩
theorem st_NoPlace_init {v0 v1 : V} : L2.start N_NoPlace_init [v0, v1] = [some v0, some v1] := rfl
abbrev s_NoPlaces_init : Stmt := inClass (top 5) 0
abbrev N_NoPlaces_init : List Str := ["self", "found"]
theorem sc_NoPlaces_init : FnScope N_NoPlaces_init ["self", "found"] (defScope s_NoPlaces_init) := ⟨rfl, rfl, rfl, by decide +kernel, rfl, by decide +kernel, by decide +kernel⟩
theorem st_NoPlaces_init {v0 v1 : V} : L2.start N_NoPlaces_init [v0, v1] = [some v0, some v1] := rfl
abbrev s_NoStretches_init : Stmt := inClass (top 6) 0
abbrev N_NoStretches_init : List Str := ["self", "found"]
theorem sc_NoStretches_init : FnScope N_NoStretches_init ["self", "found"] (defScope s_NoStretches_init) := ⟨rfl, rfl, rfl, by decide +kernel, rfl, by decide +kernel, by decide +kernel⟩
theorem st_NoStretches_init {v0 v1 : V} : L2.start N_NoStretches_init [v0, v1] = [some v0, some v1] := rfl
abbrev s_NoLongs_init : Stmt := inClass (top 7) 0
abbrev N_NoLongs_init : List Str := ["self", "found"]
theorem sc_NoLongs_init : FnScope N_NoLongs_init ["self", "found"] (defScope s_NoLongs_init) := ⟨rfl, rfl, rfl, by decide +kernel, rfl, by decide +kernel, by decide +kernel⟩
theorem st_NoLongs_init {v0 v1 : V} : L2.start N_NoLongs_init [v0, v1] = [some v0, some v1] := rfl
abbrev s_NoNumber_init : Stmt := inClass (top 8) 0
abbrev N_NoNumber_init : List Str := ["self", "found"]
theorem sc_NoNumber_init : FnScope N_NoNumber_init ["self", "found"] (defScope s_NoNumber_init) := ⟨rfl, rfl, rfl, by decide +kernel, rfl, by decide +kernel, by decide +kernel⟩
theorem st_NoNumber_init {v0 v1 : V} : L2.start N_NoNumber_init [v0, v1] = [some v0, some v1] := rfl
abbrev s_Twice_init : Stmt := inClass (top 9) 0
abbrev N_Twice_init : List Str := ["self", "found"]
theorem sc_Twice_init : FnScope N_Twice_init ["self", "found"] (defScope s_Twice_init) := ⟨rfl, rfl, rfl, by decide +kernel, rfl, by decide +kernel, by decide +kernel⟩
theorem st_Twice_init {v0 v1 : V} : L2.start N_Twice_init [v0, v1] = [some v0, some v1] := rfl
abbrev s_NoText_init : Stmt := inClass (top 10) 0
abbrev N_NoText_init : List Str := ["self", "row"]
theorem sc_NoText_init : FnScope N_NoText_init ["self", "row"] (defScope s_NoText_init) := ⟨rfl, rfl, rfl, by decide +kernel, rfl, by decide +kernel, by decide +kernel⟩
theorem st_NoText_init {v0 v1 : V} : L2.start N_NoText_init [v0, v1] = [some v0, some v1] := rfl
abbrev s_is_whole : Stmt := top 14
abbrev N_is_whole : List Str := ["thing", "low", "high"]
theorem sc_is_whole : FnScope N_is_whole ["thing", "low", "high"] (defScope s_is_whole) := ⟨rfl, rfl, rfl, by decide +kernel, rfl, by decide +kernel, by decide +kernel⟩
theorem st_is_whole {v0 v1 v2 : V} : L2.start N_is_whole [v0, v1, v2] = [some v0, some v1, some v2] := rfl
abbrev s_is_name : Stmt := top 15
abbrev N_is_name : List Str := ["thing", "sign"]
theorem sc_is_name : FnScope N_is_name ["thing"] (defScope s_is_name) := ⟨rfl, rfl, rfl, by decide +kernel, rfl, by decide +kernel, by decide +kernel⟩
theorem st_is_name {v0 : V} : L2.start N_is_name [v0] = [some v0, none] := rfl
abbrev s_is_row : Stmt := top 21
abbrev N_is_row : List Str := ["thing", "size"]
theorem sc_is_row : FnScope N_is_row ["thing", "size"] (defScope s_is_row) := ⟨rfl, rfl, rfl, by decide +kernel, rfl, by decide +kernel, by decide +kernel⟩
theorem st_is_row {v0 v1 : V} : L2.start N_is_row [v0, v1] = [some v0, some v1] := rfl
abbrev s_good_places : Stmt := top 22
abbrev N_good_places : List Str := ["places", "names", "thing"]
theorem sc_good_places : FnScope N_good_places ["places"] (defScope s_good_places) := ⟨rfl, rfl, rfl, by decide +kernel, rfl, by decide +kernel, by decide +kernel⟩
theorem st_good_places {v0 : V} : L2.start N_good_places [v0] = [some v0, none, none] := rfl
abbrev s_is_stretch : Stmt := top 23
abbrev N_is_stretch : List Str := ["thing"]
theorem sc_is_stretch : FnScope N_is_stretch ["thing"] (defScope s_is_stretch) := ⟨rfl, rfl, rfl, by decide +kernel, rfl, by decide +kernel, by decide +kernel⟩
theorem st_is_stretch {v0 : V} : L2.start N_is_stretch [v0] = [some v0] := rfl
abbrev s_good_stretches : Stmt := top 24
abbrev N_good_stretches : List Str := ["stretches", "many", "thing"]
theorem sc_good_stretches : FnScope N_good_stretches ["stretches", "many"] (defScope s_good_stretches) := ⟨rfl, rfl, rfl, by decide +kernel, rfl, by decide +kernel, by decide +kernel⟩
theorem st_good_stretches {v0 v1 : V} : L2.start N_good_stretches [v0, v1] = [some v0, some v1, none] := rfl
abbrev s_is_long : Stmt := top 25
abbrev N_is_long : List Str := ["thing", "low", "high"]
theorem sc_is_long : FnScope N_is_long ["thing", "low", "high"] (defScope s_is_long) := ⟨rfl, rfl, rfl, by decide +kernel, rfl, by decide +kernel, by decide +kernel⟩
theorem st_is_long {v0 v1 v2 : V} : L2.start N_is_long [v0, v1, v2] = [some v0, some v1, some v2] := rfl
abbrev s_good_longs : Stmt := top 26
abbrev N_good_longs : List Str := ["longs", "many", "low", "thing"]
theorem sc_good_longs : FnScope N_good_longs ["longs", "many"] (defScope s_good_longs) := ⟨rfl, rfl, rfl, by decide +kernel, rfl, by decide +kernel, by decide +kernel⟩
theorem st_good_longs {v0 v1 : V} : L2.start N_good_longs [v0, v1] = [some v0, some v1, none, none] := rfl
abbrev s_Line_init : Stmt := inClass (top 27) 0
abbrev N_Line_init : List Str := ["self", "places", "stretches", "longs"]
theorem sc_Line_init : FnScope N_Line_init ["self", "places", "stretches", "longs"] (defScope s_Line_init) := ⟨rfl, rfl, rfl, by decide +kernel, rfl, by decide +kernel, by decide +kernel⟩
theorem st_Line_init {v0 v1 v2 v3 : V} : L2.start N_Line_init [v0, v1, v2, v3] = [some v0, some v1, some v2, some v3] := rfl
abbrev s_Line_names : Stmt := inClass (top 27) 1
abbrev N_Line_names : List Str := ["self", "name", "roads"]
theorem sc_Line_names : FnScope N_Line_names ["self"] (defScope s_Line_names) := ⟨rfl, rfl, rfl, by decide +kernel, rfl, by decide +kernel, by decide +kernel⟩
theorem st_Line_names {v0 : V} : L2.start N_Line_names [v0] = [some v0, none, none] := rfl
abbrev s_Line_number_of : Stmt := inClass (top 27) 2
abbrev N_Line_number_of : List Str := ["self", "name"]
theorem sc_Line_number_of : FnScope N_Line_number_of ["self", "name"] (defScope s_Line_number_of) := ⟨rfl, rfl, rfl, by decide +kernel, rfl, by decide +kernel, by decide +kernel⟩
theorem st_Line_number_of {v0 v1 : V} : L2.start N_Line_number_of [v0, v1] = [some v0, some v1] := rfl
abbrev s_Line_told : Stmt := inClass (top 27) 17
abbrev N_Line_told : List Str := ["self"]
theorem sc_Line_told : FnScope N_Line_told ["self"] (defScope s_Line_told) := ⟨rfl, rfl, rfl, by decide +kernel, rfl, by decide +kernel, by decide +kernel⟩
theorem st_Line_told {v0 : V} : L2.start N_Line_told [v0] = [some v0] := rfl
abbrev s_is_form : Stmt := top 31
abbrev N_is_form : List Str := ["words"]
theorem sc_is_form : FnScope N_is_form ["words"] (defScope s_is_form) := ⟨rfl, rfl, rfl, by decide +kernel, rfl, by decide +kernel, by decide +kernel⟩
theorem st_is_form {v0 : V} : L2.start N_is_form [v0] = [some v0] := rfl
abbrev s_rows_of : Stmt := top 32
abbrev N_rows_of : List Str := ["text", "found", "behind", "rows", "number", "row", "words"]
theorem sc_rows_of : FnScope N_rows_of ["text"] (defScope s_rows_of) := ⟨rfl, rfl, rfl, by decide +kernel, rfl, by decide +kernel, by decide +kernel⟩
theorem st_rows_of {v0 : V} : L2.start N_rows_of [v0] = [some v0, none, none, none, none, none, none] := rfl
abbrev s_read_line : Stmt := top 33
abbrev N_read_line : List Str := ["text", "rows", "places", "stretches", "line", "longs", "words"]
theorem sc_read_line : FnScope N_read_line ["text"] (defScope s_read_line) := ⟨rfl, rfl, rfl, by decide +kernel, rfl, by decide +kernel, by decide +kernel⟩
theorem st_read_line {v0 : V} : L2.start N_read_line [v0] = [some v0, none, none, none, none, none, none] := rfl
abbrev s_law_cell : Stmt := top 35
abbrev N_law_cell : List Str := ["_law_script", "_law_k"]
theorem sc_law_cell : FnScope N_law_cell ["_law_script", "_law_k"] (defScope s_law_cell) := ⟨rfl, rfl, rfl, by decide +kernel, rfl, by decide +kernel, by decide +kernel⟩
theorem st_law_cell {v0 v1 : V} : L2.start N_law_cell [v0, v1] = [some v0, some v1] := rfl
abbrev s_law_box : Stmt := top 36
abbrev N_law_box : List Str := ["_law_cell_here"]
theorem sc_law_box : FnScope N_law_box ["_law_cell_here"] (defScope s_law_box) := ⟨rfl, rfl, rfl, by decide +kernel, rfl, by decide +kernel, by decide +kernel⟩
theorem st_law_box {v0 : V} : L2.start N_law_box [v0] = [some v0] := rfl
abbrev s_law_take : Stmt := top 37
abbrev N_law_take : List Str := ["_law_box_here", "_law_many", "_law_number", "_law_digit"]
theorem sc_law_take : FnScope N_law_take ["_law_box_here", "_law_many"] (defScope s_law_take) := ⟨rfl, rfl, rfl, by decide +kernel, rfl, by decide +kernel, by decide +kernel⟩
theorem st_law_take {v0 v1 : V} : L2.start N_law_take [v0, v1] = [some v0, some v1, none, none] := rfl
abbrev s_law_names : Stmt := top 38
abbrev N_law_names : List Str := ["_law_box_here", "_law_many", "_law_letters", "_law_words", "_law_way", "_law_first", "_law_stem", "_law_at", "_law_k"]
theorem sc_law_names : FnScope N_law_names ["_law_box_here", "_law_many"] (defScope s_law_names) := ⟨rfl, rfl, rfl, by decide +kernel, rfl, by decide +kernel, by decide +kernel⟩
theorem st_law_names {v0 v1 : V} : L2.start N_law_names [v0, v1] = [some v0, some v1, none, none, none, none, none, none, none] := rfl
abbrev s_law_world : Stmt := top 39
abbrev N_law_world : List Str := ["_law_box_here", "_law_many", "_law_names_here", "_law_places", "_law_stretches", "_law_longs", "_law_low", "_law_turn", "_law_first", "_law_last", "_law_name", "_law_k"]
theorem sc_law_world : FnScope N_law_world ["_law_box_here"] (defScope s_law_world) := ⟨rfl, rfl, rfl, by decide +kernel, rfl, by decide +kernel, by decide +kernel⟩
theorem st_law_world {v0 : V} : L2.start N_law_world [v0] = [some v0, none, none, none, none, none, none, none, none, none, none, none] := rfl
abbrev s_law_is_name : Stmt := top 40
abbrev N_law_is_name : List Str := ["_law_thing", "_law_letters", "_law_sign"]
theorem sc_law_is_name : FnScope N_law_is_name ["_law_thing"] (defScope s_law_is_name) := ⟨rfl, rfl, rfl, by decide +kernel, rfl, by decide +kernel, by decide +kernel⟩
theorem st_law_is_name {v0 : V} : L2.start N_law_is_name [v0] = [some v0, none, none] := rfl
abbrev s_law_whole : Stmt := top 41
abbrev N_law_whole : List Str := ["_law_thing", "_law_low", "_law_high"]
theorem sc_law_whole : FnScope N_law_whole ["_law_thing", "_law_low", "_law_high"] (defScope s_law_whole) := ⟨rfl, rfl, rfl, by decide +kernel, rfl, by decide +kernel, by decide +kernel⟩
theorem st_law_whole {v0 v1 v2 : V} : L2.start N_law_whole [v0, v1, v2] = [some v0, some v1, some v2] := rfl
abbrev s_law_is_row : Stmt := top 42
abbrev N_law_is_row : List Str := ["_law_thing", "_law_size"]
theorem sc_law_is_row : FnScope N_law_is_row ["_law_thing", "_law_size"] (defScope s_law_is_row) := ⟨rfl, rfl, rfl, by decide +kernel, rfl, by decide +kernel, by decide +kernel⟩
theorem st_law_is_row {v0 v1 : V} : L2.start N_law_is_row [v0, v1] = [some v0, some v1] := rfl
abbrev s_law_places_due : Stmt := top 43
abbrev N_law_places_due : List Str := ["_law_places", "_law_names_here", "_law_thing"]
theorem sc_law_places_due : FnScope N_law_places_due ["_law_places"] (defScope s_law_places_due) := ⟨rfl, rfl, rfl, by decide +kernel, rfl, by decide +kernel, by decide +kernel⟩
theorem st_law_places_due {v0 : V} : L2.start N_law_places_due [v0] = [some v0, none, none] := rfl
abbrev s_law_due : Stmt := top 44
abbrev N_law_due : List Str := ["_law_places", "_law_stretches", "_law_longs", "_law_due_here", "_law_thing", "_law_low"]
theorem sc_law_due : FnScope N_law_due ["_law_places", "_law_stretches", "_law_longs"] (defScope s_law_due) := ⟨rfl, rfl, rfl, by decide +kernel, rfl, by decide +kernel, by decide +kernel⟩
theorem st_law_due {v0 v1 v2 : V} : L2.start N_law_due [v0, v1, v2] = [some v0, some v1, some v2, none, none, none] := rfl
abbrev s_law_rows : Stmt := top 45
abbrev N_law_rows : List Str := ["_law_world_here", "_law_places", "_law_stretches", "_law_longs", "_law_names_here", "_law_rows_here", "_law_name", "_law_roads", "_law_kind", "_law_home", "_law_low", "_law_high"]
theorem sc_law_rows : FnScope N_law_rows ["_law_world_here"] (defScope s_law_rows) := ⟨rfl, rfl, rfl, by decide +kernel, rfl, by decide +kernel, by decide +kernel⟩
theorem st_law_rows {v0 : V} : L2.start N_law_rows [v0] = [some v0, none, none, none, none, none, none, none, none, none, none, none] := rfl
abbrev s_law_signs : Stmt := top 46
abbrev N_law_signs : List Str := ["_law_some"]
theorem sc_law_signs : FnScope N_law_signs [] (defScope s_law_signs) := ⟨rfl, rfl, rfl, by decide +kernel, rfl, by decide +kernel, by decide +kernel⟩
theorem st_law_signs : L2.start N_law_signs [] = [none] := rfl
abbrev s_law_word : Stmt := top 47
abbrev N_law_word : List Str := ["_law_box_here", "_law_world_here", "_law_names_here", "_law_some", "_law_name", "_law_roads"]
theorem sc_law_word : FnScope N_law_word ["_law_box_here", "_law_world_here"] (defScope s_law_word) := ⟨rfl, rfl, rfl, by decide +kernel, rfl, by decide +kernel, by decide +kernel⟩
theorem st_law_word {v0 v1 : V} : L2.start N_law_word [v0, v1] = [some v0, some v1, none, none, none, none] := rfl
abbrev s_law_row_otherwise : Stmt := top 48
abbrev N_law_row_otherwise : List Str := ["_law_box_here", "_law_world_here", "_law_rows_here", "_law_at", "_law_to", "_law_way", "_law_words", "_law_place", "_law_names_here", "_law_more", "_law_name", "_law_roads"]
theorem sc_law_row_otherwise : FnScope N_law_row_otherwise ["_law_box_here", "_law_world_here", "_law_rows_here"] (defScope s_law_row_otherwise) := ⟨rfl, rfl, rfl, by decide +kernel, rfl, by decide +kernel, by decide +kernel⟩
theorem st_law_row_otherwise {v0 v1 v2 : V} : L2.start N_law_row_otherwise [v0, v1, v2] = [some v0, some v1, some v2, none, none, none, none, none, none, none, none, none] := rfl
abbrev s_law_text : Stmt := top 49
abbrev N_law_text : List Str := ["_law_box_here", "_law_world_here", "_law_rows_here", "_law_signs_here", "_law_more", "_law_turn", "_law_text_here", "_law_odd", "_law_at", "_law_sign"]
theorem sc_law_text : FnScope N_law_text ["_law_box_here", "_law_world_here"] (defScope s_law_text) := ⟨rfl, rfl, rfl, by decide +kernel, rfl, by decide +kernel, by decide +kernel⟩
theorem st_law_text {v0 v1 : V} : L2.start N_law_text [v0, v1] = [some v0, some v1, none, none, none, none, none, none, none, none] := rfl
abbrev s_law_has_form : Stmt := top 50
abbrev N_law_has_form : List Str := ["_law_words", "_law_homes"]
theorem sc_law_has_form : FnScope N_law_has_form ["_law_words"] (defScope s_law_has_form) := ⟨rfl, rfl, rfl, by decide +kernel, rfl, by decide +kernel, by decide +kernel⟩
theorem st_law_has_form {v0 : V} : L2.start N_law_has_form [v0] = [some v0, none] := rfl
abbrev s_law_read : Stmt := top 51
abbrev N_law_read : List Str := ["_law_text_here", "_law_parts", "_law_behind", "_law_number", "_law_row", "_law_places", "_law_stretches", "_law_due_here", "_law_names_here", "_law_words", "_law_longs", "_law_sorts", "_law_one", "_law_name", "_law_roads"]
theorem sc_law_read : FnScope N_law_read ["_law_text_here"] (defScope s_law_read) := ⟨rfl, rfl, rfl, by decide +kernel, rfl, by decide +kernel, by decide +kernel⟩
theorem st_law_read {v0 : V} : L2.start N_law_read [v0] = [some v0, none, none, none, none, none, none, none, none, none, none, none, none, none, none] := rfl
abbrev s_law_caught : Stmt := top 52
abbrev N_law_caught : List Str := ["_law_text_here", "e"]
theorem sc_law_caught : FnScope N_law_caught ["_law_text_here"] (defScope s_law_caught) := ⟨rfl, rfl, rfl, by decide +kernel, rfl, by decide +kernel, by decide +kernel⟩
theorem st_law_caught {v0 : V} : L2.start N_law_caught [v0] = [some v0, none] := rfl
abbrev s_law : Stmt := top 53
abbrev N_law : List Str := ["_law_script", "_law_k", "_law_box_here", "_law_world_here", "_law_turn", "_law_text_here", "_law_due_here"]
theorem sc_law : FnScope N_law ["_law_script"] (defScope s_law) := ⟨rfl, rfl, rfl, by decide +kernel, rfl, by decide +kernel, by decide +kernel⟩
theorem st_law {v0 : V} : L2.start N_law [v0] = [some v0, none, none, none, none, none, none] := rfl
structure Tx (K : PySem.W.Frag) (mg : Str → Option Value) where
  C_Line : Addr
  m_Line : mg "Line" = some (.ref C_Line)
  C_NoName : Addr
  m_NoName : mg "NoName" = some (.ref C_NoName)
  C_NoPlace : Addr
  m_NoPlace : mg "NoPlace" = some (.ref C_NoPlace)
  C_NoPlaces : Addr
  m_NoPlaces : mg "NoPlaces" = some (.ref C_NoPlaces)
  C_NoStretches : Addr
  m_NoStretches : mg "NoStretches" = some (.ref C_NoStretches)
  C_NoLongs : Addr
  m_NoLongs : mg "NoLongs" = some (.ref C_NoLongs)
  C_NoNumber : Addr
  m_NoNumber : mg "NoNumber" = some (.ref C_NoNumber)
  C_Twice : Addr
  m_Twice : mg "Twice" = some (.ref C_Twice)
  C_NoText : Addr
  m_NoText : mg "NoText" = some (.ref C_NoText)
  C_StaffError : Addr
  m_StaffError : mg "StaffError" = some (.ref C_StaffError)
  a_NoName_init : Addr
  d_NoName_init : FuncData
  F_NoName_init : Fun K "__init__" "NoName.__init__" s_NoName_init a_NoName_init d_NoName_init
  B_NoName_init : Binds K d_NoName_init ["self", "found"] []
  a_NoPlace_init : Addr
  d_NoPlace_init : FuncData
  F_NoPlace_init : Fun K "__init__" "NoPlace.__init__" s_NoPlace_init a_NoPlace_init d_NoPlace_init
  B_NoPlace_init : Binds K d_NoPlace_init ["self", "found"] []
  a_NoPlaces_init : Addr
  d_NoPlaces_init : FuncData
  F_NoPlaces_init : Fun K "__init__" "NoPlaces.__init__" s_NoPlaces_init a_NoPlaces_init d_NoPlaces_init
  B_NoPlaces_init : Binds K d_NoPlaces_init ["self", "found"] []
  a_NoStretches_init : Addr
  d_NoStretches_init : FuncData
  F_NoStretches_init : Fun K "__init__" "NoStretches.__init__" s_NoStretches_init a_NoStretches_init d_NoStretches_init
  B_NoStretches_init : Binds K d_NoStretches_init ["self", "found"] []
  a_NoLongs_init : Addr
  d_NoLongs_init : FuncData
  F_NoLongs_init : Fun K "__init__" "NoLongs.__init__" s_NoLongs_init a_NoLongs_init d_NoLongs_init
  B_NoLongs_init : Binds K d_NoLongs_init ["self", "found"] []
  a_NoNumber_init : Addr
  d_NoNumber_init : FuncData
  F_NoNumber_init : Fun K "__init__" "NoNumber.__init__" s_NoNumber_init a_NoNumber_init d_NoNumber_init
  B_NoNumber_init : Binds K d_NoNumber_init ["self", "found"] []
  a_Twice_init : Addr
  d_Twice_init : FuncData
  F_Twice_init : Fun K "__init__" "Twice.__init__" s_Twice_init a_Twice_init d_Twice_init
  B_Twice_init : Binds K d_Twice_init ["self", "found"] []
  a_NoText_init : Addr
  d_NoText_init : FuncData
  F_NoText_init : Fun K "__init__" "NoText.__init__" s_NoText_init a_NoText_init d_NoText_init
  B_NoText_init : Binds K d_NoText_init ["self", "row"] []
  a_is_whole : Addr
  d_is_whole : FuncData
  F_is_whole : Fun K "is_whole" "is_whole" s_is_whole a_is_whole d_is_whole
  B_is_whole : Binds K d_is_whole ["thing", "low", "high"] []
  m_is_whole : mg "is_whole" = some (.ref a_is_whole)
  a_is_name : Addr
  d_is_name : FuncData
  F_is_name : Fun K "is_name" "is_name" s_is_name a_is_name d_is_name
  B_is_name : Binds K d_is_name ["thing"] []
  m_is_name : mg "is_name" = some (.ref a_is_name)
  a_is_row : Addr
  d_is_row : FuncData
  F_is_row : Fun K "is_row" "is_row" s_is_row a_is_row d_is_row
  B_is_row : Binds K d_is_row ["thing", "size"] []
  m_is_row : mg "is_row" = some (.ref a_is_row)
  a_good_places : Addr
  d_good_places : FuncData
  F_good_places : Fun K "good_places" "good_places" s_good_places a_good_places d_good_places
  B_good_places : Binds K d_good_places ["places"] []
  m_good_places : mg "good_places" = some (.ref a_good_places)
  a_is_stretch : Addr
  d_is_stretch : FuncData
  F_is_stretch : Fun K "is_stretch" "is_stretch" s_is_stretch a_is_stretch d_is_stretch
  B_is_stretch : Binds K d_is_stretch ["thing"] []
  m_is_stretch : mg "is_stretch" = some (.ref a_is_stretch)
  a_good_stretches : Addr
  d_good_stretches : FuncData
  F_good_stretches : Fun K "good_stretches" "good_stretches" s_good_stretches a_good_stretches d_good_stretches
  B_good_stretches : Binds K d_good_stretches ["stretches", "many"] []
  m_good_stretches : mg "good_stretches" = some (.ref a_good_stretches)
  a_is_long : Addr
  d_is_long : FuncData
  F_is_long : Fun K "is_long" "is_long" s_is_long a_is_long d_is_long
  B_is_long : Binds K d_is_long ["thing", "low", "high"] []
  m_is_long : mg "is_long" = some (.ref a_is_long)
  a_good_longs : Addr
  d_good_longs : FuncData
  F_good_longs : Fun K "good_longs" "good_longs" s_good_longs a_good_longs d_good_longs
  B_good_longs : Binds K d_good_longs ["longs", "many"] []
  m_good_longs : mg "good_longs" = some (.ref a_good_longs)
  a_Line_init : Addr
  d_Line_init : FuncData
  F_Line_init : FunN K "__init__" "Line.__init__" s_Line_init a_Line_init d_Line_init
  B_Line_init : Binds K d_Line_init ["self", "places", "stretches", "longs"] []
  Bp_Line_init : Binds K d_Line_init ["self", "places", "stretches", "longs"] [.none]
  a_Line_names : Addr
  d_Line_names : FuncData
  F_Line_names : Fun K "names" "Line.names" s_Line_names a_Line_names d_Line_names
  B_Line_names : Binds K d_Line_names ["self"] []
  a_Line_number_of : Addr
  d_Line_number_of : FuncData
  F_Line_number_of : Fun K "number_of" "Line.number_of" s_Line_number_of a_Line_number_of d_Line_number_of
  B_Line_number_of : Binds K d_Line_number_of ["self", "name"] []
  a_Line_told : Addr
  d_Line_told : FuncData
  F_Line_told : Fun K "told" "Line.told" s_Line_told a_Line_told d_Line_told
  B_Line_told : Binds K d_Line_told ["self"] []
  a_is_form : Addr
  d_is_form : FuncData
  F_is_form : Fun K "is_form" "is_form" s_is_form a_is_form d_is_form
  B_is_form : Binds K d_is_form ["words"] []
  m_is_form : mg "is_form" = some (.ref a_is_form)
  a_rows_of : Addr
  d_rows_of : FuncData
  F_rows_of : Fun K "rows_of" "rows_of" s_rows_of a_rows_of d_rows_of
  B_rows_of : Binds K d_rows_of ["text"] []
  m_rows_of : mg "rows_of" = some (.ref a_rows_of)
  a_read_line : Addr
  d_read_line : FuncData
  F_read_line : Fun K "read_line" "read_line" s_read_line a_read_line d_read_line
  B_read_line : Binds K d_read_line ["text"] []
  m_read_line : mg "read_line" = some (.ref a_read_line)
  a_law_cell : Addr
  d_law_cell : FuncData
  F_law_cell : Fun K "_law_cell" "_law_cell" s_law_cell a_law_cell d_law_cell
  B_law_cell : Binds K d_law_cell ["_law_script", "_law_k"] []
  m_law_cell : mg "_law_cell" = some (.ref a_law_cell)
  a_law_box : Addr
  d_law_box : FuncData
  F_law_box : Fun K "_law_box" "_law_box" s_law_box a_law_box d_law_box
  B_law_box : Binds K d_law_box ["_law_cell_here"] []
  m_law_box : mg "_law_box" = some (.ref a_law_box)
  a_law_take : Addr
  d_law_take : FuncData
  F_law_take : Fun K "_law_take" "_law_take" s_law_take a_law_take d_law_take
  B_law_take : Binds K d_law_take ["_law_box_here", "_law_many"] []
  m_law_take : mg "_law_take" = some (.ref a_law_take)
  a_law_names : Addr
  d_law_names : FuncData
  F_law_names : Fun K "_law_names" "_law_names" s_law_names a_law_names d_law_names
  B_law_names : Binds K d_law_names ["_law_box_here", "_law_many"] []
  m_law_names : mg "_law_names" = some (.ref a_law_names)
  a_law_world : Addr
  d_law_world : FuncData
  F_law_world : Fun K "_law_world" "_law_world" s_law_world a_law_world d_law_world
  B_law_world : Binds K d_law_world ["_law_box_here"] []
  m_law_world : mg "_law_world" = some (.ref a_law_world)
  a_law_is_name : Addr
  d_law_is_name : FuncData
  F_law_is_name : Fun K "_law_is_name" "_law_is_name" s_law_is_name a_law_is_name d_law_is_name
  B_law_is_name : Binds K d_law_is_name ["_law_thing"] []
  m_law_is_name : mg "_law_is_name" = some (.ref a_law_is_name)
  a_law_whole : Addr
  d_law_whole : FuncData
  F_law_whole : Fun K "_law_whole" "_law_whole" s_law_whole a_law_whole d_law_whole
  B_law_whole : Binds K d_law_whole ["_law_thing", "_law_low", "_law_high"] []
  m_law_whole : mg "_law_whole" = some (.ref a_law_whole)
  a_law_is_row : Addr
  d_law_is_row : FuncData
  F_law_is_row : Fun K "_law_is_row" "_law_is_row" s_law_is_row a_law_is_row d_law_is_row
  B_law_is_row : Binds K d_law_is_row ["_law_thing", "_law_size"] []
  m_law_is_row : mg "_law_is_row" = some (.ref a_law_is_row)
  a_law_places_due : Addr
  d_law_places_due : FuncData
  F_law_places_due : Fun K "_law_places_due" "_law_places_due" s_law_places_due a_law_places_due d_law_places_due
  B_law_places_due : Binds K d_law_places_due ["_law_places"] []
  m_law_places_due : mg "_law_places_due" = some (.ref a_law_places_due)
  a_law_due : Addr
  d_law_due : FuncData
  F_law_due : Fun K "_law_due" "_law_due" s_law_due a_law_due d_law_due
  B_law_due : Binds K d_law_due ["_law_places", "_law_stretches", "_law_longs"] []
  m_law_due : mg "_law_due" = some (.ref a_law_due)
  a_law_rows : Addr
  d_law_rows : FuncData
  F_law_rows : Fun K "_law_rows" "_law_rows" s_law_rows a_law_rows d_law_rows
  B_law_rows : Binds K d_law_rows ["_law_world_here"] []
  m_law_rows : mg "_law_rows" = some (.ref a_law_rows)
  a_law_signs : Addr
  d_law_signs : FuncData
  F_law_signs : Fun K "_law_signs" "_law_signs" s_law_signs a_law_signs d_law_signs
  B_law_signs : Binds K d_law_signs [] []
  m_law_signs : mg "_law_signs" = some (.ref a_law_signs)
  a_law_word : Addr
  d_law_word : FuncData
  F_law_word : Fun K "_law_word" "_law_word" s_law_word a_law_word d_law_word
  B_law_word : Binds K d_law_word ["_law_box_here", "_law_world_here"] []
  m_law_word : mg "_law_word" = some (.ref a_law_word)
  a_law_row_otherwise : Addr
  d_law_row_otherwise : FuncData
  F_law_row_otherwise : Fun K "_law_row_otherwise" "_law_row_otherwise" s_law_row_otherwise a_law_row_otherwise d_law_row_otherwise
  B_law_row_otherwise : Binds K d_law_row_otherwise ["_law_box_here", "_law_world_here", "_law_rows_here"] []
  m_law_row_otherwise : mg "_law_row_otherwise" = some (.ref a_law_row_otherwise)
  a_law_text : Addr
  d_law_text : FuncData
  F_law_text : Fun K "_law_text" "_law_text" s_law_text a_law_text d_law_text
  B_law_text : Binds K d_law_text ["_law_box_here", "_law_world_here"] []
  m_law_text : mg "_law_text" = some (.ref a_law_text)
  a_law_has_form : Addr
  d_law_has_form : FuncData
  F_law_has_form : Fun K "_law_has_form" "_law_has_form" s_law_has_form a_law_has_form d_law_has_form
  B_law_has_form : Binds K d_law_has_form ["_law_words"] []
  m_law_has_form : mg "_law_has_form" = some (.ref a_law_has_form)
  a_law_read : Addr
  d_law_read : FuncData
  F_law_read : Fun K "_law_read" "_law_read" s_law_read a_law_read d_law_read
  B_law_read : Binds K d_law_read ["_law_text_here"] []
  m_law_read : mg "_law_read" = some (.ref a_law_read)
  a_law_caught : Addr
  d_law_caught : FuncData
  F_law_caught : Fun K "_law_caught" "_law_caught" s_law_caught a_law_caught d_law_caught
  B_law_caught : Binds K d_law_caught ["_law_text_here"] []
  m_law_caught : mg "_law_caught" = some (.ref a_law_caught)
  a_law : Addr
  d_law : FuncData
  F_law : Fun K "law" "law" s_law a_law d_law
  B_law : Binds K d_law ["_law_script"] []
  m_law : mg "law" = some (.ref a_law)
  cl_Line : Cls K C_Line
  mk_Line : Mk K C_Line a_Line_init
  na_Line_kept_places : NoAttr K C_Line "kept_places"
  na_Line_kept_stretches : NoAttr K C_Line "kept_stretches"
  na_Line_kept_longs : NoAttr K C_Line "kept_longs"
  M_Line_names : Meth K C_Line "names" a_Line_names
  M_Line_number_of : Meth K C_Line "number_of" a_Line_number_of
  M_Line_told : Meth K C_Line "told" a_Line_told
  er_NoName : ErrC K C_NoName a_NoName_init "found"
  er_NoPlace : ErrC K C_NoPlace a_NoPlace_init "found"
  er_NoPlaces : ErrC K C_NoPlaces a_NoPlaces_init "found"
  er_NoStretches : ErrC K C_NoStretches a_NoStretches_init "found"
  er_NoLongs : ErrC K C_NoLongs a_NoLongs_init "found"
  er_NoNumber : ErrC K C_NoNumber a_NoNumber_init "found"
  er_Twice : ErrC K C_Twice a_Twice_init "found"
  er_NoText : ErrC K C_NoText a_NoText_init "row"
  rd_StaffError : RdC K C_StaffError
  vi_StaffError : PySem.W.findCls K (.ref C_StaffError) (.type "type") "__init__" = some (.val (.builtin "ValueError.__init__"))
  oc_get : PySem.W.specialIn K (.builtin "object.__class__") "__get__" = some (some (.builtin "getset_descriptor.__get__"))
  oc_take : PySem.W.takesIn K (.builtin "object.__class__") = some true
  ex_NoText_NoText : PySem.W.exmOne K (.ref C_NoText) (.ref C_NoText) = some true
  ex_NoPlaces_NoText : PySem.W.exmOne K (.ref C_NoPlaces) (.ref C_NoText) = some false
  ex_NoPlaces_NoPlaces : PySem.W.exmOne K (.ref C_NoPlaces) (.ref C_NoPlaces) = some true
  ex_Twice_NoText : PySem.W.exmOne K (.ref C_Twice) (.ref C_NoText) = some false
  ex_Twice_NoPlaces : PySem.W.exmOne K (.ref C_Twice) (.ref C_NoPlaces) = some false
  ex_Twice_NoName : PySem.W.exmOne K (.ref C_Twice) (.ref C_NoName) = some false
  ex_Twice_Twice : PySem.W.exmOne K (.ref C_Twice) (.ref C_Twice) = some true
  ex_NoNumber_NoText : PySem.W.exmOne K (.ref C_NoNumber) (.ref C_NoText) = some false
  ex_NoNumber_NoPlaces : PySem.W.exmOne K (.ref C_NoNumber) (.ref C_NoPlaces) = some false
  ex_NoNumber_NoName : PySem.W.exmOne K (.ref C_NoNumber) (.ref C_NoName) = some false
  ex_NoNumber_Twice : PySem.W.exmOne K (.ref C_NoNumber) (.ref C_Twice) = some false
  ex_NoNumber_NoNumber : PySem.W.exmOne K (.ref C_NoNumber) (.ref C_NoNumber) = some true
  ex_NoStretches_NoText : PySem.W.exmOne K (.ref C_NoStretches) (.ref C_NoText) = some false
  ex_NoStretches_NoPlaces : PySem.W.exmOne K (.ref C_NoStretches) (.ref C_NoPlaces) = some false
  ex_NoStretches_NoName : PySem.W.exmOne K (.ref C_NoStretches) (.ref C_NoName) = some false
  ex_NoStretches_Twice : PySem.W.exmOne K (.ref C_NoStretches) (.ref C_Twice) = some false
  ex_NoStretches_NoNumber : PySem.W.exmOne K (.ref C_NoStretches) (.ref C_NoNumber) = some false
  ex_NoStretches_NoStretches : PySem.W.exmOne K (.ref C_NoStretches) (.ref C_NoStretches) = some true
  ex_NoPlace_NoText : PySem.W.exmOne K (.ref C_NoPlace) (.ref C_NoText) = some false
  ex_NoPlace_NoPlaces : PySem.W.exmOne K (.ref C_NoPlace) (.ref C_NoPlaces) = some false
  ex_NoPlace_NoName : PySem.W.exmOne K (.ref C_NoPlace) (.ref C_NoName) = some false
  ex_NoPlace_Twice : PySem.W.exmOne K (.ref C_NoPlace) (.ref C_Twice) = some false
  ex_NoPlace_NoNumber : PySem.W.exmOne K (.ref C_NoPlace) (.ref C_NoNumber) = some false
  ex_NoPlace_NoStretches : PySem.W.exmOne K (.ref C_NoPlace) (.ref C_NoStretches) = some false
  ex_NoPlace_NoPlace : PySem.W.exmOne K (.ref C_NoPlace) (.ref C_NoPlace) = some true
  ex_NoLongs_NoText : PySem.W.exmOne K (.ref C_NoLongs) (.ref C_NoText) = some false
  ex_NoLongs_NoPlaces : PySem.W.exmOne K (.ref C_NoLongs) (.ref C_NoPlaces) = some false
  ex_NoLongs_NoName : PySem.W.exmOne K (.ref C_NoLongs) (.ref C_NoName) = some false
  ex_NoLongs_Twice : PySem.W.exmOne K (.ref C_NoLongs) (.ref C_Twice) = some false
  ex_NoLongs_NoNumber : PySem.W.exmOne K (.ref C_NoLongs) (.ref C_NoNumber) = some false
  ex_NoLongs_NoStretches : PySem.W.exmOne K (.ref C_NoLongs) (.ref C_NoStretches) = some false
  ex_NoLongs_NoPlace : PySem.W.exmOne K (.ref C_NoLongs) (.ref C_NoPlace) = some false
  ex_NoLongs_NoLongs : PySem.W.exmOne K (.ref C_NoLongs) (.ref C_NoLongs) = some true
  c_LONGEST : Value
  mc_LONGEST : mg "LONGEST" = some c_LONGEST
  rc_LONGEST : RelV (V.int 6) c_LONGEST
  c_LETTERS : Value
  mc_LETTERS : mg "LETTERS" = some c_LETTERS
  rc_LETTERS : RelV (V.str "abcdefghijklmnopqrstuvwxyz") c_LETTERS
  c_FEWEST_PLACES : Value
  mc_FEWEST_PLACES : mg "FEWEST_PLACES" = some c_FEWEST_PLACES
  rc_FEWEST_PLACES : RelV (V.int 2) c_FEWEST_PLACES
  c_MOST_PLACES : Value
  mc_MOST_PLACES : mg "MOST_PLACES" = some c_MOST_PLACES
  rc_MOST_PLACES : RelV (V.int 6) c_MOST_PLACES
  c_MOST_ROADS : Value
  mc_MOST_ROADS : mg "MOST_ROADS" = some c_MOST_ROADS
  rc_MOST_ROADS : RelV (V.int 3) c_MOST_ROADS
  c_MOST_LONGS : Value
  mc_MOST_LONGS : mg "MOST_LONGS" = some c_MOST_LONGS
  rc_MOST_LONGS : RelV (V.int 2) c_MOST_LONGS
  t_HOMES : Addr
  mt_HOMES : mg "HOMES" = some (.ref t_HOMES)
  kt_HOMES : KT K t_HOMES [.str "low", .str "high"]
  t_SORTS : Addr
  mt_SORTS : mg "SORTS" = some (.ref t_SORTS)
  kt_SORTS : KT K t_SORTS [.str "place", .str "stretch", .str "long"]
  z_all : mg "all" = none
  z_bool : mg "bool" = none
  z_enumerate : mg "enumerate" = none
  z_int : mg "int" = none
  z_isinstance : mg "isinstance" = none
  z_len : mg "len" = none
  z_list : mg "list" = none
  z_max : mg "max" = none
  z_min : mg "min" = none
  z_range : mg "range" = none
  z_repr : mg "repr" = none
  z_str : mg "str" = none
  z_tuple : mg "tuple" = none
variable {P : Program} {w : World} {K : PySem.W.Frag} {mg : Str → Option Value} {base : Heap}
def fl_Line (x0 x1 x2 : V) : List (Str × V) := [("kept_places", x0), ("kept_stretches", x1), ("kept_longs", x2)]
def At_Line (T : Tx K mg) (H : Hp) (p : Addr) (x0 x1 x2 : V) : Prop := ∃ dx, H p = some (.ins T.C_Line dx (fl_Line x0 x1 x2))
theorem At_Line.kp {T : Tx K mg} {H H2 : Hp} {p : Addr} {x0 x1 x2 : V} (h : At_Line T H p x0 x1 x2) (k : Kp [] H H2) : At_Line T H2 p x0 x1 x2 := by obtain ⟨dx, e⟩ := h; exact ⟨dx, k.get0 e⟩
theorem At_Line.kpn {T : Tx K mg} {H H2 : Hp} {p : Addr} {ps : List Addr} {x0 x1 x2 : V} (h : At_Line T H p x0 x1 x2) (k : Kp ps H H2) (n : p ∉ ps) : At_Line T H2 p x0 x1 x2 := by obtain ⟨dx, e⟩ := h; exact ⟨dx, k.get e n⟩
theorem At_Line.th {T : Tx K mg} {H : Hp} {p : Addr} {x0 x1 x2 : V} (h : At_Line T H p x0 x1 x2) : Th H p 5 := by obtain ⟨dx, e⟩ := h; exact .ins e
theorem At_Line.ne {T : Tx K mg} {H : Hp} {p l : Addr} {x0 x1 x2 : V} (h : At_Line T H p x0 x1 x2) (n : H l = none) : l ≠ p := by obtain ⟨dx, e⟩ := h; exact (ne_of_none e n).symm
theorem At_Line.nel {T : Tx K mg} {H : Hp} {p l : Addr} {x0 x1 x2 : V} {xs : List V} (h : At_Line T H p x0 x1 x2) (n : H l = some (.lst xs)) : l ≠ p := by obtain ⟨dx, e⟩ := h; exact ne_of n e (by intro z; cases z)
theorem g_Line_kept_places {T : Tx K mg} {H : Hp} {p : Addr} {x0 x1 x2 : V} {Q : VK} (h : At_Line T H p x0 x1 x2) (q : Q x0 H) : FldK K "kept_places" Q (.ref p) H := by obtain ⟨dx, e⟩ := h; exact s_fdk e T.cl_Line T.na_Line_kept_places rfl q
theorem p_Line_kept_places {T : Tx K mg} {H : Hp} {p : Addr} {x0 x1 x2 y : V} {R : Hp → Prop} (h : At_Line T H p x0 x1 x2) (q : ∀ H2, At_Line T H2 p y x1 x2 → Kp [p] H H2 → R H2) : SetK K "kept_places" y R (.ref p) H := by obtain ⟨dx, e⟩ := h; exact s_sdk e T.cl_Line T.na_Line_kept_places (by simp [fl_Line]) (gs := fl_Line y x1 x2) rfl fun H2 e2 k => q H2 ⟨dx, e2⟩ k
theorem u_Line_kept_places {T : Tx K mg} {H : Hp} {p : Addr} {x0 x1 x2 : V} {R : Addr → Addr → V → Hp → Prop} (h : At_Line T H p x0 x1 x2) (q : R p T.C_Line x0 H) : FaK K "kept_places" R (.ref p) H := by obtain ⟨dx, e⟩ := h; exact s_fak e T.cl_Line T.na_Line_kept_places rfl q
theorem w_Line_kept_places {T : Tx K mg} {H : Hp} {p : Addr} {x0 x1 x2 y : V} {R : Hp → Prop} (h : At_Line T H p x0 x1 x2) (q : ∀ H2, At_Line T H2 p y x1 x2 → Kp [p] H H2 → R H2) : FbK "kept_places" p T.C_Line R y H := by obtain ⟨dx, e⟩ := h; exact s_fbk e (by simp [fl_Line]) (gs := fl_Line y x1 x2) rfl fun H2 e2 k => q H2 ⟨dx, e2⟩ k
theorem g_Line_kept_stretches {T : Tx K mg} {H : Hp} {p : Addr} {x0 x1 x2 : V} {Q : VK} (h : At_Line T H p x0 x1 x2) (q : Q x1 H) : FldK K "kept_stretches" Q (.ref p) H := by obtain ⟨dx, e⟩ := h; exact s_fdk e T.cl_Line T.na_Line_kept_stretches rfl q
theorem p_Line_kept_stretches {T : Tx K mg} {H : Hp} {p : Addr} {x0 x1 x2 y : V} {R : Hp → Prop} (h : At_Line T H p x0 x1 x2) (q : ∀ H2, At_Line T H2 p x0 y x2 → Kp [p] H H2 → R H2) : SetK K "kept_stretches" y R (.ref p) H := by obtain ⟨dx, e⟩ := h; exact s_sdk e T.cl_Line T.na_Line_kept_stretches (by simp [fl_Line]) (gs := fl_Line x0 y x2) rfl fun H2 e2 k => q H2 ⟨dx, e2⟩ k
theorem u_Line_kept_stretches {T : Tx K mg} {H : Hp} {p : Addr} {x0 x1 x2 : V} {R : Addr → Addr → V → Hp → Prop} (h : At_Line T H p x0 x1 x2) (q : R p T.C_Line x1 H) : FaK K "kept_stretches" R (.ref p) H := by obtain ⟨dx, e⟩ := h; exact s_fak e T.cl_Line T.na_Line_kept_stretches rfl q
theorem w_Line_kept_stretches {T : Tx K mg} {H : Hp} {p : Addr} {x0 x1 x2 y : V} {R : Hp → Prop} (h : At_Line T H p x0 x1 x2) (q : ∀ H2, At_Line T H2 p x0 y x2 → Kp [p] H H2 → R H2) : FbK "kept_stretches" p T.C_Line R y H := by obtain ⟨dx, e⟩ := h; exact s_fbk e (by simp [fl_Line]) (gs := fl_Line x0 y x2) rfl fun H2 e2 k => q H2 ⟨dx, e2⟩ k
theorem g_Line_kept_longs {T : Tx K mg} {H : Hp} {p : Addr} {x0 x1 x2 : V} {Q : VK} (h : At_Line T H p x0 x1 x2) (q : Q x2 H) : FldK K "kept_longs" Q (.ref p) H := by obtain ⟨dx, e⟩ := h; exact s_fdk e T.cl_Line T.na_Line_kept_longs rfl q
theorem p_Line_kept_longs {T : Tx K mg} {H : Hp} {p : Addr} {x0 x1 x2 y : V} {R : Hp → Prop} (h : At_Line T H p x0 x1 x2) (q : ∀ H2, At_Line T H2 p x0 x1 y → Kp [p] H H2 → R H2) : SetK K "kept_longs" y R (.ref p) H := by obtain ⟨dx, e⟩ := h; exact s_sdk e T.cl_Line T.na_Line_kept_longs (by simp [fl_Line]) (gs := fl_Line x0 x1 y) rfl fun H2 e2 k => q H2 ⟨dx, e2⟩ k
theorem u_Line_kept_longs {T : Tx K mg} {H : Hp} {p : Addr} {x0 x1 x2 : V} {R : Addr → Addr → V → Hp → Prop} (h : At_Line T H p x0 x1 x2) (q : R p T.C_Line x2 H) : FaK K "kept_longs" R (.ref p) H := by obtain ⟨dx, e⟩ := h; exact s_fak e T.cl_Line T.na_Line_kept_longs rfl q
theorem w_Line_kept_longs {T : Tx K mg} {H : Hp} {p : Addr} {x0 x1 x2 y : V} {R : Hp → Prop} (h : At_Line T H p x0 x1 x2) (q : ∀ H2, At_Line T H2 p x0 x1 y → Kp [p] H H2 → R H2) : FbK "kept_longs" p T.C_Line R y H := by obtain ⟨dx, e⟩ := h; exact s_fbk e (by simp [fl_Line]) (gs := fl_Line x0 x1 y) rfl fun H2 e2 k => q H2 ⟨dx, e2⟩ k
theorem k_Line_names {T : Tx K mg} {H : Hp} {p : Addr} {x0 x1 x2 : V} {R : V → Hp → Prop} (h : At_Line T H p x0 x1 x2) (q : R (.ref p) H) : MtK T.C_Line "names" R (.ref p) H := by obtain ⟨dx, e⟩ := h; exact s_mtk e rfl q
theorem k_Line_number_of {T : Tx K mg} {H : Hp} {p : Addr} {x0 x1 x2 : V} {R : V → Hp → Prop} (h : At_Line T H p x0 x1 x2) (q : R (.ref p) H) : MtK T.C_Line "number_of" R (.ref p) H := by obtain ⟨dx, e⟩ := h; exact s_mtk e rfl q
theorem k_Line_told {T : Tx K mg} {H : Hp} {p : Addr} {x0 x1 x2 : V} {R : V → Hp → Prop} (h : At_Line T H p x0 x1 x2) (q : R (.ref p) H) : MtK T.C_Line "told" R (.ref p) H := by obtain ⟨dx, e⟩ := h; exact s_mtk e rfl q
theorem i_Line_kept_places {T : Tx K mg} {H : Hp} {p dx : Addr} {x0 : V} {R : Hp → Prop} (h : H p = some (.ins T.C_Line dx [])) (q : ∀ H2, H2 p = some (.ins T.C_Line dx [("kept_places", x0)]) → Kp [p] H H2 → R H2) : SetK K "kept_places" x0 R (.ref p) H := s_sdk h T.cl_Line T.na_Line_kept_places (by simp) rfl q
theorem i_Line_kept_stretches {T : Tx K mg} {H : Hp} {p dx : Addr} {x0 x1 : V} {R : Hp → Prop} (h : H p = some (.ins T.C_Line dx [("kept_places", x0)])) (q : ∀ H2, H2 p = some (.ins T.C_Line dx [("kept_places", x0), ("kept_stretches", x1)]) → Kp [p] H H2 → R H2) : SetK K "kept_stretches" x1 R (.ref p) H := s_sdk h T.cl_Line T.na_Line_kept_stretches (by simp) rfl q
theorem i_Line_kept_longs {T : Tx K mg} {H : Hp} {p dx : Addr} {x0 x1 x2 : V} {R : Hp → Prop} (h : H p = some (.ins T.C_Line dx [("kept_places", x0), ("kept_stretches", x1)])) (q : ∀ H2, H2 p = some (.ins T.C_Line dx [("kept_places", x0), ("kept_stretches", x1), ("kept_longs", x2)]) → Kp [p] H H2 → R H2) : SetK K "kept_longs" x2 R (.ref p) H := s_sdk h T.cl_Line T.na_Line_kept_longs (by simp) rfl q
local macro_rules | `(tactic| walk_at "u2") => `(tactic| first
  | ((with_reducible refine' g_Line_kept_places ?uat ?_); (case uat => walk_at "g"))
  | ((with_reducible refine' u_Line_kept_places ?uat ?_); (case uat => walk_at "g"))
  | ((with_reducible refine' g_Line_kept_stretches ?uat ?_); (case uat => walk_at "g"))
  | ((with_reducible refine' u_Line_kept_stretches ?uat ?_); (case uat => walk_at "g"))
  | ((with_reducible refine' g_Line_kept_longs ?uat ?_); (case uat => walk_at "g"))
  | ((with_reducible refine' u_Line_kept_longs ?uat ?_); (case uat => walk_at "g"))
  | ((with_reducible refine' k_Line_names ?uat ?_); (case uat => walk_at "g"))
  | ((with_reducible refine' k_Line_number_of ?uat ?_); (case uat => walk_at "g"))
  | ((with_reducible refine' k_Line_told ?uat ?_); (case uat => walk_at "g")))
local macro_rules | `(tactic| walk_at "g2") => `(tactic| first
  | ((refine' At_Line.kpn ?ugm ?ugk ?ugn); (case ugk => assumption); (case ugm => walk_at "g"); (case ugn => walk_at "n")))
local macro_rules | `(tactic| walk_at "t2") => `(tactic| first
  | exact At_Line.th (by assumption))
theorem ok_NoName_init (T : Tx K mg) : FnOk P w K mg base (L2.CX P w) 1 T.a_NoName_init T.d_NoName_init ["self", "found"] (spE T.C_NoName "found") := by
  refine T.F_NoName_init.okX sc_NoName_init (fun vs H Q E h => ?_) (fun cd A o s H vs Q E hr h => ?_)
  · obtain ⟨v0, v1, rfl, h⟩ := h; rfl
  obtain ⟨v0, v1, rfl, a, rfl, ha, k⟩ := h
  refine ⟨_, (pss_cons (ps_expr (pe_se (K := K) rfl rfl T.m_StaffError T.rd_StaffError T.vi_StaffError (pa_cons (pv 0) (pa_cons pe_str pa_nil))))
    (pss_one (ps_os (K := K) rfl (pv 0) (pv 1)))), ?_⟩
  walk_at "u"
  refine s_sek T.er_NoName.oex ha ?_
  walk_at "u"
  exact ⟨a, T.C_NoName, rfl, T.er_NoName.oex, T.er_NoName.no, ha, k⟩
theorem ok_NoPlace_init (T : Tx K mg) : FnOk P w K mg base (L2.CX P w) 1 T.a_NoPlace_init T.d_NoPlace_init ["self", "found"] (spE T.C_NoPlace "found") := by
  refine T.F_NoPlace_init.okX sc_NoPlace_init (fun vs H Q E h => ?_) (fun cd A o s H vs Q E hr h => ?_)
  · obtain ⟨v0, v1, rfl, h⟩ := h; rfl
  obtain ⟨v0, v1, rfl, a, rfl, ha, k⟩ := h
  refine ⟨_, (pss_cons (ps_expr (pe_se (K := K) rfl rfl T.m_StaffError T.rd_StaffError T.vi_StaffError (pa_cons (pv 0) (pa_cons pe_str pa_nil))))
    (pss_one (ps_os (K := K) rfl (pv 0) (pv 1)))), ?_⟩
  walk_at "u"
  refine s_sek T.er_NoPlace.oex ha ?_
  walk_at "u"
  exact ⟨a, T.C_NoPlace, rfl, T.er_NoPlace.oex, T.er_NoPlace.no, ha, k⟩
theorem ok_NoPlaces_init (T : Tx K mg) : FnOk P w K mg base (L2.CX P w) 1 T.a_NoPlaces_init T.d_NoPlaces_init ["self", "found"] (spE T.C_NoPlaces "found") := by
  refine T.F_NoPlaces_init.okX sc_NoPlaces_init (fun vs H Q E h => ?_) (fun cd A o s H vs Q E hr h => ?_)
  · obtain ⟨v0, v1, rfl, h⟩ := h; rfl
  obtain ⟨v0, v1, rfl, a, rfl, ha, k⟩ := h
  refine ⟨_, (pss_cons (ps_expr (pe_se (K := K) rfl rfl T.m_StaffError T.rd_StaffError T.vi_StaffError (pa_cons (pv 0) (pa_cons pe_str pa_nil))))
    (pss_one (ps_os (K := K) rfl (pv 0) (pv 1)))), ?_⟩
  walk_at "u"
  refine s_sek T.er_NoPlaces.oex ha ?_
  walk_at "u"
  exact ⟨a, T.C_NoPlaces, rfl, T.er_NoPlaces.oex, T.er_NoPlaces.no, ha, k⟩
theorem ok_NoStretches_init (T : Tx K mg) : FnOk P w K mg base (L2.CX P w) 1 T.a_NoStretches_init T.d_NoStretches_init ["self", "found"] (spE T.C_NoStretches "found") := by
  refine T.F_NoStretches_init.okX sc_NoStretches_init (fun vs H Q E h => ?_) (fun cd A o s H vs Q E hr h => ?_)
  · obtain ⟨v0, v1, rfl, h⟩ := h; rfl
  obtain ⟨v0, v1, rfl, a, rfl, ha, k⟩ := h
  refine ⟨_, (pss_cons (ps_expr (pe_se (K := K) rfl rfl T.m_StaffError T.rd_StaffError T.vi_StaffError (pa_cons (pv 0) (pa_cons pe_str pa_nil))))
    (pss_one (ps_os (K := K) rfl (pv 0) (pv 1)))), ?_⟩
  walk_at "u"
  refine s_sek T.er_NoStretches.oex ha ?_
  walk_at "u"
  exact ⟨a, T.C_NoStretches, rfl, T.er_NoStretches.oex, T.er_NoStretches.no, ha, k⟩
theorem ok_NoLongs_init (T : Tx K mg) : FnOk P w K mg base (L2.CX P w) 1 T.a_NoLongs_init T.d_NoLongs_init ["self", "found"] (spE T.C_NoLongs "found") := by
  refine T.F_NoLongs_init.okX sc_NoLongs_init (fun vs H Q E h => ?_) (fun cd A o s H vs Q E hr h => ?_)
  · obtain ⟨v0, v1, rfl, h⟩ := h; rfl
  obtain ⟨v0, v1, rfl, a, rfl, ha, k⟩ := h
  refine ⟨_, (pss_cons (ps_expr (pe_se (K := K) rfl rfl T.m_StaffError T.rd_StaffError T.vi_StaffError (pa_cons (pv 0) (pa_cons pe_str pa_nil))))
    (pss_one (ps_os (K := K) rfl (pv 0) (pv 1)))), ?_⟩
  walk_at "u"
  refine s_sek T.er_NoLongs.oex ha ?_
  walk_at "u"
  exact ⟨a, T.C_NoLongs, rfl, T.er_NoLongs.oex, T.er_NoLongs.no, ha, k⟩
theorem ok_NoNumber_init (T : Tx K mg) : FnOk P w K mg base (L2.CX P w) 1 T.a_NoNumber_init T.d_NoNumber_init ["self", "found"] (spE T.C_NoNumber "found") := by
  refine T.F_NoNumber_init.okX sc_NoNumber_init (fun vs H Q E h => ?_) (fun cd A o s H vs Q E hr h => ?_)
  · obtain ⟨v0, v1, rfl, h⟩ := h; rfl
  obtain ⟨v0, v1, rfl, a, rfl, ha, k⟩ := h
  refine ⟨_, (pss_cons (ps_expr (pe_se (K := K) rfl rfl T.m_StaffError T.rd_StaffError T.vi_StaffError (pa_cons (pv 0) (pa_cons pe_str pa_nil))))
    (pss_one (ps_os (K := K) rfl (pv 0) (pv 1)))), ?_⟩
  walk_at "u"
  refine s_sek T.er_NoNumber.oex ha ?_
  walk_at "u"
  exact ⟨a, T.C_NoNumber, rfl, T.er_NoNumber.oex, T.er_NoNumber.no, ha, k⟩
theorem ok_Twice_init (T : Tx K mg) : FnOk P w K mg base (L2.CX P w) 1 T.a_Twice_init T.d_Twice_init ["self", "found"] (spE T.C_Twice "found") := by
  refine T.F_Twice_init.okX sc_Twice_init (fun vs H Q E h => ?_) (fun cd A o s H vs Q E hr h => ?_)
  · obtain ⟨v0, v1, rfl, h⟩ := h; rfl
  obtain ⟨v0, v1, rfl, a, rfl, ha, k⟩ := h
  refine ⟨_, (pss_cons (ps_expr (pe_se (K := K) rfl rfl T.m_StaffError T.rd_StaffError T.vi_StaffError (pa_cons (pv 0) (pa_cons pe_str pa_nil))))
    (pss_one (ps_os (K := K) rfl (pv 0) (pv 1)))), ?_⟩
  walk_at "u"
  refine s_sek T.er_Twice.oex ha ?_
  walk_at "u"
  exact ⟨a, T.C_Twice, rfl, T.er_Twice.oex, T.er_Twice.no, ha, k⟩
theorem ok_NoText_init (T : Tx K mg) : FnOk P w K mg base (L2.CX P w) 1 T.a_NoText_init T.d_NoText_init ["self", "row"] (spE T.C_NoText "row") := by
  refine T.F_NoText_init.okX sc_NoText_init (fun vs H Q E h => ?_) (fun cd A o s H vs Q E hr h => ?_)
  · obtain ⟨v0, v1, rfl, h⟩ := h; rfl
  obtain ⟨v0, v1, rfl, a, rfl, ha, k⟩ := h
  refine ⟨_, (pss_cons (ps_expr (pe_se (K := K) rfl rfl T.m_StaffError T.rd_StaffError T.vi_StaffError (pa_cons (pv 0) (pa_cons pe_str pa_nil))))
    (pss_one (ps_os (K := K) rfl (pv 0) (pv 1)))), ?_⟩
  walk_at "u"
  refine s_sek T.er_NoText.oex ha ?_
  walk_at "u"
  exact ⟨a, T.C_NoText, rfl, T.er_NoText.oex, T.er_NoText.no, ha, k⟩
/-- take: a number below many -/
def sp_law_take : Sp := sp2 fun x y H Q _ => ∃ (p : Addr) (m : Int) (n : Nat), x = .ref p ∧ y = .int m ∧ Box H p n ∧ n ≤ 1000000 ∧ 0 < m ∧ m < 10 ^ 40 ∧
  ∀ (d : Int) (H' : Hp), 0 ≤ d → d < m → Box H' p (n + 1) → Kp [p] H H' → Q (.int d) H'
set_option maxHeartbeats 16000000 in
theorem ok_law_take (T : Tx K mg) : FnOk P w K mg base (L2.CX P w) 1 T.a_law_take T.d_law_take ["_law_box_here", "_law_many"] (sp_law_take) := by
  refine T.F_law_take.okX sc_law_take (fun vs H Q E h => ?_) (fun cd A o s H vs Q E hr h => ?_)
  · obtain ⟨v0, v1, rfl, h⟩ := h; rfl
  obtain ⟨v0, v1, rfl, h⟩ := h
  obtain ⟨p, m, n, rfl, rfl, ⟨a, b, c, hp, ha, hb, hb2, hc, hc2⟩, hn, hm, hm2, k⟩ := h
  refine ⟨_, (pss_cons (ps_if (pt_cmpR o_gt (pe_ix (ix_u (K := K) rfl) (pv 0) pe_int (fun _ _ => rfl)) pe_int (nomark _))
    (pss_cons (ps_set (i := 3) sc_law_take.nd rfl (Or.inl rfl) (pe_op o_mod (pe_ix (ix_u (K := K) rfl) (pv 0) pe_int (fun _ _ => rfl)) (pv 1)))
    (pss_cons (ps_asg (pe_op o_div (pe_ix (ix_u (K := K) rfl) (pv 0) pe_int (fun _ _ => rfl)) (pv 1)) (pg_sub (pv 0) pe_int (set_u hr)))
    (pss_one (ps_ret (pv 3)))))
    pss_nil)
    (pss_cons (ps_asg (pe_op (o_add (K := K) rfl) (pe_ix (ix_u (K := K) rfl) (pv 0) pe_int (fun _ _ => rfl)) pe_int) (pg_sub (pv 0) pe_int (set_u hr)))
    (pss_cons (ps_set (i := 2) sc_law_take.nd rfl (Or.inl rfl) (pe_op o_mod (pe_op o_pow (pe_op (o_add (K := K) rfl) (pe_op (o_add (K := K) rfl) (pe_ix (ix_u (K := K) rfl) (pv 0) pe_int (fun _ _ => rfl)) (pe_op o_mul pe_int (pe_ix (ix_u (K := K) rfl) (pv 0) pe_int (fun _ _ => rfl)))) pe_int) pe_int) pe_int))
    (pss_cons (ps_set (i := 2) sc_law_take.nd rfl (Or.inl rfl) (pe_op o_mod (pe_op o_pow (pe_op (o_add (K := K) rfl) (pv 2) (pe_op o_mul pe_int (pe_ix (ix_u (K := K) rfl) (pv 0) pe_int (fun _ _ => rfl)))) pe_int) pe_int))
    (pss_one (ps_ret (pe_op o_mod (pe_op o_div (pv 2) pe_int) (pv 1)))))))), ?_⟩
  rw [st_law_take]
  walk_at "u"
  refine s_ite (fun h0 => ?_) (fun h0 => ?_)
  · walk_at "u"
    refine s_ul hp rfl rfl fun H1 e1 k1 => ?_
    walk_at "u"
    refine k _ _ (Int.emod_nonneg _ (by omega)) (Int.emod_lt_of_pos _ hm) ⟨_, _, _, e1, Int.ediv_nonneg ha (by omega), hb, hb2, hc, by omega⟩ k1
  · walk_at "u"
    refine s_ul hp rfl rfl fun H1 e1 k1 => ?_
    walk_at "u"
    have h1 : (0 : Int) ≤ (b + 7919 * (c + 1) + 37) ^ 5 % 2147483647 := Int.emod_nonneg _ (by omega)
    have h2 : (b + 7919 * (c + 1) + 37) ^ 5 % 2147483647 < 2147483647 := Int.emod_lt_of_pos _ (by omega)
    generalize (b + 7919 * (c + 1) + 37) ^ 5 % 2147483647 = y at h1 h2 ⊢
    walk_at "u"
    refine k _ _ (Int.emod_nonneg _ (by omega)) (Int.emod_lt_of_pos _ hm) ⟨_, _, _, e1, ha, hb, hb2, by omega, by omega⟩ k1
theorem c_take {p : Addr} {m : Int} {n : Nat} {H : Hp} {Q : VK} {E : XK} (hB : Box H p n) (hn : n ≤ 1000000) (h0 : 0 < m) (h1 : m < 10 ^ 40)
    (k : ∀ (d : Int) (H' : Hp), 0 ≤ d → d < m → Box H' p (n + 1) → Kp [p] H H' → Q (.int d) H') : sp_law_take [.ref p, .int m] H Q E := ⟨_, _, rfl, p, m, n, rfl, rfl, hB, hn, h0, h1, k⟩
def sp_law_cell (K : PySem.W.Frag) : Sp := sp2 fun x y H Q _ => ∃ (a : Addr) (ns : List Int) (k : Int), x = .ref a ∧ y = .int k ∧ SqL K H a (ns.map V.int) ∧ 0 ≤ k ∧ k < 1000 ∧ ∀ c : Int, Q (.int c) H
set_option maxHeartbeats 16000000 in
theorem ok_law_cell (T : Tx K mg) : FnOk P w K mg base (L2.CX P w) 1 T.a_law_cell T.d_law_cell ["_law_script", "_law_k"] (sp_law_cell K) := by
  refine T.F_law_cell.okX sc_law_cell (fun vs H Q E h => ?_) (fun cd A o s H vs Q E hr h => ?_)
  · obtain ⟨v0, v1, rfl, h⟩ := h; rfl
  obtain ⟨v0, v1, rfl, h⟩ := h
  obtain ⟨a, ns, k, rfl, rfl, hS, h0, h1, q⟩ := h
  refine ⟨_, (pss_cons (ps_if (pt_cmpR o_lt (pv 1) (pe_callB (c_len (K := K) rfl) rfl T.z_len bt_len (pa_cons (pv 0) pa_nil)) (nomark _))
    (pss_one (ps_ret (pe_ix (ix_u (K := K) rfl) (pv 0) (pv 1) (fun _ _ => rfl))))
    pss_nil)
    (pss_one (ps_ret (pe_op (o_add (K := K) rfl) (pe_op o_mul pe_int (pv 1)) pe_int)))), ?_⟩
  rw [st_law_cell]
  walk_at "u"
  refine s_lenL hS ?_
  walk_at "u"
  rw [List.length_map]
  refine s_ite (fun h2 => ?_) (fun h2 => ?_)
  · walk_at "u"
    obtain ⟨z, e1, e2⟩ := at_int (xs := ns.map V.int) h0 (by rw [List.length_map]; exact h2)
    rw [List.getElem?_map] at e1
    obtain ⟨c, _, rfl⟩ := Option.map_eq_some_iff.mp e1
    refine s_ixL hS e2 ?_
    walk_at "u"
    exact q c
  · walk_at "u"
    exact q _
theorem c_cell {K : PySem.W.Frag} {a : Addr} {ns : List Int} {k : Int} {H : Hp} {Q : VK} {E : XK} (hS : SqL K H a (ns.map V.int)) (h0 : 0 ≤ k) (h1 : k < 1000) (q : ∀ c : Int, Q (.int c) H) : sp_law_cell K [.ref a, .int k] H Q E := ⟨_, _, rfl, a, ns, k, rfl, rfl, hS, h0, h1, q⟩
def sp_law_box : Sp := sp1 fun x H Q _ => ∃ (c : Int), x = .int c ∧ ∀ p H', H p = none → Kp [] H H' → Box H' p 0 → Q (.ref p) H'
set_option maxHeartbeats 16000000 in
theorem ok_law_box (T : Tx K mg) : FnOk P w K mg base (L2.CX P w) 1 T.a_law_box T.d_law_box ["_law_cell_here"] (sp_law_box) := by
  refine T.F_law_box.okX sc_law_box (fun vs H Q E h => ?_) (fun cd A o s H vs Q E hr h => ?_)
  · obtain ⟨v0, rfl, h⟩ := h; rfl
  obtain ⟨v0, rfl, h⟩ := h
  obtain ⟨c, rfl, k⟩ := h
  refine ⟨_, (pss_one (ps_ret (pe_lst (pa_cons (pe_callB (c_max rfl) rfl T.z_max bt_max (pa_cons pe_int (pa_cons (pe_op o_sub (pv 0) (pe_op o_pow pe_int pe_int)) pa_nil))) (pa_cons (pe_op o_mod (pv 0) pe_int) (pa_cons pe_int pa_nil)))))), ?_⟩
  rw [st_law_box]
  walk_at "u"
  refine s_newl (zle (by simp)) fun p H1 hp e1 k1 => k p _ hp k1 ⟨_, _, _, e1, ?_, Int.emod_nonneg _ (by decide), Int.emod_lt_of_pos _ (by decide), Int.le_refl _, Int.le_refl _⟩
  split <;> omega
theorem c_box {c : Int} {H : Hp} {Q : VK} {E : XK} (q : ∀ p H', H p = none → Kp [] H H' → Box H' p 0 → Q (.ref p) H') : sp_law_box [.int c] H Q E := ⟨_, rfl, c, rfl, q⟩
local macro_rules | `(tactic| walk_at "tk") => `(tactic| (refine c_take (by walk_at "g") (by omega) (by first | decide | omega) (by first | decide | omega) ?_))
local macro_rules | `(tactic| walk_at "cl") => `(tactic| (refine c_cell (by walk_at "g") (by omega) (by omega) ?_))

def isWhole (v : V) (lo hi : Int) : Bool := match v with | .int i => decide (lo ≤ i) && decide (i ≤ hi) | _ => false
def sp_is_whole : Sp := sp3 fun x y z H Q _ => ∃ (lo hi : Int) (t : Kd), y = .int lo ∧ z = .int hi ∧ TyN H x t ∧ Q (.bl (isWhole x lo hi)) H
set_option maxHeartbeats 16000000 in
theorem ok_is_whole (T : Tx K mg) : FnOk P w K mg base (L2.CX P w) 1 T.a_is_whole T.d_is_whole ["thing", "low", "high"] (sp_is_whole) := by
  refine T.F_is_whole.okX sc_is_whole (fun vs H Q E h => ?_) (fun cd A o s H vs Q E hr h => ?_)
  · obtain ⟨v0, v1, v2, rfl, h⟩ := h; rfl
  obtain ⟨v0, v1, v2, rfl, h⟩ := h
  obtain ⟨lo, hi, t, rfl, rfl, ht, k⟩ := h
  refine ⟨_, (pss_one (ps_ret (pe_and (pe_callB (c_isi (K := K) rfl) rfl T.z_isinstance bt_isinstance (pa_cons (pv 0) (pa_cons (pe_ty rfl T.z_int bt_int) pa_nil))) (pe_and (pe_not (pe_callB (c_isi (K := K) rfl) rfl T.z_isinstance bt_isinstance (pa_cons (pv 0) (pa_cons (pe_ty rfl T.z_bool bt_bool) pa_nil)))) (pe_one (pe_chain o_le o_le (pv 1) (pv 0) (pv 2))))))), ?_⟩
  rw [st_is_whole]
  cases ht <;> walk_at "u"
  all_goals try exact k
  rename_i i
  refine s_ite (fun h1 => ?_) (fun h1 => ?_)
  · walk_at "u"
    have e : isWhole (V.int i) lo hi = (decide (lo ≤ i) && decide (i ≤ hi)) := rfl
    rw [e, decide_eq_true h1, Bool.true_and] at k
    exact k
  · have e : isWhole (V.int i) lo hi = (decide (lo ≤ i) && decide (i ≤ hi)) := rfl
    rw [e, decide_eq_false h1, Bool.false_and] at k
    exact k
theorem whole_int {v : V} {lo hi : Int} (h : isWhole v lo hi = true) : ∃ n, v = .int n ∧ lo ≤ n ∧ n ≤ hi := by
  cases v <;> simp_all [isWhole]

def letters : Str := "abcdefghijklmnopqrstuvwxyz"
def isName (v : V) : Bool := match v with | .str z => decide (1 ≤ z.length ∧ z.length ≤ 6) && z.cps.toList.all (fun c => decide (c ∈ letters.cps.toList)) | _ => false
def Small (v : V) : Prop := match v with | .str z => SS z 50000 | _ => True
def sp_is_name : Sp := sp1 fun x H Q _ => ∃ t, TyN H x t ∧ Small x ∧ ∀ H', Kp [] H H' → Q (.bl (isName x)) H'
theorem take_one {α : Type} {xs : List α} {i : Nat} {x : α} (h : xs[i]? = some x) : xs.take (i + 1) = xs.take i ++ [x] := by
  rw [List.take_add_one, h]; rfl
set_option maxHeartbeats 16000000 in
theorem ok_is_name (T : Tx K mg) : FnOk P w K mg base (L2.CX P w) 1 T.a_is_name T.d_is_name ["thing"] (sp_is_name) := by
  refine T.F_is_name.okX sc_is_name (fun vs H Q E h => ?_) (fun cd A o s H vs Q E hr h => ?_)
  · obtain ⟨v0, rfl, h⟩ := h; rfl
  obtain ⟨v0, rfl, h⟩ := h
  obtain ⟨t, ht, hz, k⟩ := h
  refine ⟨_, (pss_cons (ps_if (PW.pt (pw_or (pt_not (pt_val (pe_callB (c_isi (K := K) rfl) rfl T.z_isinstance bt_isinstance (pa_cons (pv 0) (pa_cons (pe_ty rfl T.z_str bt_str) pa_nil))))) (pw_or1 (pt_not (pt_chain o_le o_le pe_int (pe_callB (c_len (K := K) rfl) rfl T.z_len bt_len (pa_cons (pv 0) pa_nil)) (pe_glob rfl T.mc_LONGEST T.rc_LONGEST))))))
    (pss_one (ps_ret pe_bl))
    pss_nil)
    (pss_one (ps_ret (pe_callB (c_all (K := K) rfl rfl) rfl T.z_all bt_all (pa_cons (pe_lc (own := [("sign", 1)]) rfl sc_is_name.nd (pi_str (pv 0)) (blkOk_by (own := [("sign", 1)]) (N := N_is_name) (sc := defScope s_is_name) (by decide +kernel)) (fun _ _ _ _ _ => (pg_name (i := 1) sc_is_name.nd rfl (Or.inl rfl))) (fun _ _ _ _ _ => pts_nil) (fun _ _ _ _ _ => (pe_cmpR (o_in (K := K) rfl) (pv 1) (pe_glob rfl T.mc_LETTERS T.rc_LETTERS) rfl))) pa_nil))))), ?_⟩
  rw [st_is_name]
  cases ht <;> walk_at "u"
  all_goals try exact k _ Kp.refl
  rename_i z
  obtain ⟨hz, hz2⟩ : SS z 50000 := hz
  refine s_lens (zle (by omega)) ?_
  walk_at "u"
  have key : ∀ b : Bool, (decide (1 ≤ (z.length : Int)) && decide ((z.length : Int) ≤ 6)) = b → (b = true → ∀ H', Kp [] H H' → Q (.bl (z.cps.toList.all fun c => decide (c ∈ letters.cps.toList))) H') ∧ (b = false → ∀ H', Kp [] H H' → Q (.bl false) H') := by
    intro b hb
    refine ⟨fun e H' kp => ?_, fun e H' kp => ?_⟩
    · subst e
      have q := k H' kp
      have e2 : isName (V.str z) = (decide (1 ≤ z.length ∧ z.length ≤ 6) && z.cps.toList.all fun c => decide (c ∈ letters.cps.toList)) := rfl
      rw [Bool.and_eq_true, decide_eq_true_eq, decide_eq_true_eq] at hb
      rw [e2, decide_eq_true (by omega), Bool.true_and] at q
      exact q
    · subst e
      have q := k H' kp
      have e2 : isName (V.str z) = (decide (1 ≤ z.length ∧ z.length ≤ 6) && z.cps.toList.all fun c => decide (c ∈ letters.cps.toList)) := rfl
      have hb : ¬ (1 ≤ z.length ∧ z.length ≤ 6) := fun h => by
        rw [decide_eq_true (by omega), decide_eq_true (by omega)] at hb
        cases hb
      rw [e2, decide_eq_false hb, Bool.false_and] at q
      exact q
  refine s_ite (fun h1 => ?_) (fun h1 => ?_)
  · walk_at "u"
    refine s_itn (fun h2 => ?_) (fun h2 => ?_)
    · walk_at "u"
      exact (key false (by rw [decide_eq_true h1, decide_eq_false h2]; rfl)).2 rfl _ Kp.refl
    · walk_at "u"
      intro D hD
      refine lc_it walk_str (PvD D fun i acc H' => Kp [D] H H' ∧ acc = (z.cps.toList.take i).map fun c => V.bl (decide (c ∈ letters.cps.toList))) (PvD.begin hD fun H7 e7 k7 => ⟨by walk_at "k", rfl⟩) (fun _ _ _ _ => trivial) ?_ ?_
      · rintro i x H1 H2 hi ⟨acc, e, kp, rfl⟩ ⟨rfl, c, hc, rfl⟩
        walk_at "u"
        refine ⟨rfl, ?_⟩
        walk_at "u"
        refine PvD.add e ?_ fun H9 e9 k9 => ⟨by walk_at "k", ?_⟩
        · rw [List.length_map, List.length_take]
          have : i < z.length := hi
          omega
        · rw [take_one (x := c) (by simpa using hc), List.map_append]
          rfl
      · rintro H2 ⟨acc, e, kp, rfl⟩
        walk_at "u"
        rw [List.take_of_length_le (by simp)] at e
        refine s_all (bs := z.cps.toList.map fun c => decide (c ∈ letters.cps.toList)) (by rw [List.map_map]; exact e) ?_
        rw [List.all_map]
        exact (key true (by rw [decide_eq_true h1, decide_eq_true h2]; rfl)).1 rfl _ (kp.drop hD)
  · walk_at "u"
    exact (key false (by rw [decide_eq_false h1]; rfl)).2 rfl _ Kp.refl

theorem c_name {z : Str} {H : Hp} {Q : VK} {E : XK} (h : SS z 50000) (q : ∀ H', Kp [] H H' → Q (.bl (isName (.str z))) H') : sp_is_name [.str z] H Q E := ⟨_, rfl, _, .str, h, q⟩

/-! things of any kind: data; their lists and dicts at G -/
inductive Tg (K : PySem.W.Frag) (H : Hp) : List Addr → Nat → V → Prop
  | non {G : List Addr} {n : Nat} : Tg K H G n .non
  | bl {G : List Addr} {n : Nat} {b : Bool} : Tg K H G n (.bl b)
  | int {G : List Addr} {n : Nat} {i : Int} : i.natAbs < 10 ^ 40 → Tg K H G n (.int i)
  | str {G : List Addr} {n : Nat} {z : Str} : SS z 100 → Tg K H G n (.str z)
  | dic {G : List Addr} {n : Nat} {a : Addr} : H a = some (.dK []) → a ∈ G → Tg K H G n (.ref a)
  | tup {G : List Addr} {n : Nat} {a : Addr} {xs : List V} : H a = some (.tup xs) → xs.length ≤ 50000 → (∀ x ∈ xs, Tg K H G n x) → Tg K H G (n + 1) (.ref a)
  | lst {G F : List Addr} {n : Nat} {a : Addr} {xs : List V} : H a = some (.lst xs) → a ∈ G → a ∉ F → (∀ b ∈ F, b ∈ G) → xs.length ≤ 50000 → (∀ x ∈ xs, Tg K H F n x) → Tg K H G (n + 1) (.ref a)
section
variable {H H1 : Hp} {G G2 ps : List Addr} {n m : Nat} {v : V}
theorem Tg.mono (h : Tg K H G n v) : ∀ {G2 : List Addr} {m : Nat}, (∀ a ∈ G, a ∈ G2) → n ≤ m → Tg K H G2 m v := by
  induction h with
  | non => intros; exact .non
  | bl => intros; exact .bl
  | int h => intros; exact .int h
  | str h => intros; exact .str h
  | dic e ha => intro G2 m hg hm; exact .dic e (hg _ ha)
  | tup e l _ ih =>
    intro G2 m hg hm
    obtain ⟨m, rfl⟩ : ∃ k, m = k + 1 := ⟨m - 1, by omega⟩
    exact .tup e l fun x hx => ih x hx hg (by omega)
  | lst e ha nf hf l _ ih =>
    intro G2 m hg hm
    obtain ⟨m, rfl⟩ : ∃ k, m = k + 1 := ⟨m - 1, by omega⟩
    exact .lst e (hg _ ha) nf (fun b hb => hg b (hf b hb)) l fun x hx => ih x hx (fun _ z => z) (by omega)
theorem Tg.kpn (h : Tg K H G n v) (k : Kp ps H H1) (hn : ∀ a ∈ ps, a ∉ G) : Tg K H1 G n v := by
  induction h with
  | non => exact .non
  | bl => exact .bl
  | int h => exact .int h
  | str h => exact .str h
  | dic e ha => exact .dic (k.get e fun z => hn _ z ha) ha
  | tup e l _ ih => exact .tup (k.tgt e) l fun x hx => ih x hx hn
  | lst e ha nf hf l _ ih => exact .lst (k.get e fun z => hn _ z ha) ha nf hf l fun x hx => ih x hx fun a ha z => hn a ha (hf a z)
theorem Tg.kp (h : Tg K H G n v) (k : Kp [] H H1) : Tg K H1 G n v := h.kpn k (by simp)
theorem Tg.up (h : Tg K H G n v) : Tg K H G (n + 1) v := h.mono (fun _ z => z) (by omega)
theorem Tg.ty (h : Tg K H G n v) : (∃ t, TyN H v t) ∧ Small v := by
  cases h with
  | non => exact ⟨⟨_, .non⟩, trivial⟩
  | bl => exact ⟨⟨_, .bl⟩, trivial⟩
  | int h => exact ⟨⟨_, .int⟩, trivial⟩
  | str h => exact ⟨⟨_, .str⟩, h.mono (by omega)⟩
  | dic e ha => exact ⟨⟨_, .dic e⟩, trivial⟩
  | tup e l _ => exact ⟨⟨_, .tup e⟩, trivial⟩
  | lst e _ _ _ l _ => exact ⟨⟨_, .lst e⟩, trivial⟩
theorem Tg.flat0 {k : Nat} (h : Tg K H G 0 v) : Tg K H G k v := h.mono (fun _ z => z) (Nat.zero_le _)
end
/-! what stands in things -/
def rowH (H : Hp) (v : V) : Option (List V) := match v with | .ref a => (match H a with | some (.tup xs) => some xs | _ => none) | _ => none
def seqH (H : Hp) (v : V) : Option (List V) := match v with | .ref a => (match H a with | some (.tup xs) => some xs | some (.lst xs) => some xs | _ => none) | _ => none
section
variable {H H1 : Hp} {G ps : List Addr} {n : Nat} {v : V} {xs : List V} {t : Kd}
theorem rowH_tup {a : Addr} (e : H a = some (.tup xs)) : rowH H (.ref a) = some xs := by unfold rowH; simp only [e]
theorem seqH_tup {a : Addr} (e : H a = some (.tup xs)) : seqH H (.ref a) = some xs := by unfold seqH; simp only [e]
theorem seqH_lst {a : Addr} (e : H a = some (.lst xs)) : seqH H (.ref a) = some xs := by unfold seqH; simp only [e]
/-- of what kind, and what stands in it -/
theorem rowH_cases (ty : TyN H v t) : (t = .tup ∧ ∃ a xs, v = .ref a ∧ H a = some (.tup xs) ∧ rowH H v = some xs) ∨ (t ≠ .tup ∧ rowH H v = none) := by
  cases ty with
  | tup e => exact Or.inl ⟨rfl, _, _, rfl, e, rowH_tup e⟩
  | lst e => exact Or.inr ⟨by simp, by unfold rowH; simp only [e]⟩
  | dic e => exact Or.inr ⟨by simp, by unfold rowH; simp only [e]⟩
  | non => exact Or.inr ⟨by simp, rfl⟩
  | bl => exact Or.inr ⟨by simp, rfl⟩
  | int => exact Or.inr ⟨by simp, rfl⟩
  | str => exact Or.inr ⟨by simp, rfl⟩
theorem seqH_cases (ty : TyN H v t) : (t.isSeq = true ∧ ∃ a xs, v = .ref a ∧ (H a = some (.lst xs) ∨ H a = some (.tup xs)) ∧ seqH H v = some xs) ∨ (t.isSeq = false ∧ seqH H v = none) := by
  cases ty with
  | tup e => exact Or.inl ⟨rfl, _, _, rfl, Or.inr e, seqH_tup e⟩
  | lst e => exact Or.inl ⟨rfl, _, _, rfl, Or.inl e, seqH_lst e⟩
  | dic e => exact Or.inr ⟨rfl, by unfold seqH; simp only [e]⟩
  | non => exact Or.inr ⟨rfl, rfl⟩
  | bl => exact Or.inr ⟨rfl, rfl⟩
  | int => exact Or.inr ⟨rfl, rfl⟩
  | str => exact Or.inr ⟨rfl, rfl⟩
theorem rowH_kp (ty : TyN H v t) (k : Kp [] H H1) : rowH H1 v = rowH H v := by
  cases ty with
  | tup e => rw [rowH_tup e, rowH_tup (k.get0 e)]
  | lst e => unfold rowH; simp only [e, k.get0 e]
  | dic e => unfold rowH; simp only [e, k.get0 e]
  | _ => rfl
theorem seqH_kp (ty : TyN H v t) (k : Kp [] H H1) : seqH H1 v = seqH H v := by
  cases ty with
  | tup e => rw [seqH_tup e, seqH_tup (k.get0 e)]
  | lst e => rw [seqH_lst e, seqH_lst (k.get0 e)]
  | dic e => unfold seqH; simp only [e, k.get0 e]
  | _ => rfl
theorem Tg.row (h : Tg K H G (n + 1) v) (e : rowH H v = some xs) : xs.length ≤ 50000 ∧ ∀ x ∈ xs, Tg K H G n x := by
  cases h with
  | tup e1 l hx => rw [rowH_tup e1] at e; cases e; exact ⟨l, hx⟩
  | lst e1 _ _ hf l hx => unfold rowH at e; simp only [e1] at e; cases e
  | dic e1 _ => unfold rowH at e; simp only [e1] at e; cases e
  | _ => cases e
theorem Tg.seq (h : Tg K H G (n + 1) v) (e : seqH H v = some xs) : xs.length ≤ 50000 ∧ ∀ x ∈ xs, Tg K H G n x := by
  cases h with
  | tup e1 l hx => rw [seqH_tup e1] at e; cases e; exact ⟨l, hx⟩
  | lst e1 _ _ hf l hx => rw [seqH_lst e1] at e; cases e; exact ⟨l, fun x h => (hx x h).mono hf (Nat.le_refl _)⟩
  | dic e1 _ => unfold seqH at e; simp only [e1] at e; cases e
  | _ => cases e
end
theorem SqV.ty {H : Hp} {a : Addr} {vs : List V} (h : H a = some (.lst vs) ∨ H a = some (.tup vs)) : ∃ kd, TyN H (.ref a) kd ∧ kd.isSeq = true := by
  rcases h with h | h
  · exact ⟨_, .lst h, rfl⟩
  · exact ⟨_, .tup h, rfl⟩
theorem s_lenq {H : Hp} {a : Addr} {vs : List V} {Q : VK} (h : H a = some (.lst vs) ∨ H a = some (.tup vs)) (q : Q (.int vs.length) H) : uLen K [.ref a] H Q := by
  rcases h with h | h
  · exact s_lenl h q
  · exact s_lent h q
theorem sq_kp {H H2 : Hp} {a : Addr} {vs : List V} (h : H a = some (.lst vs) ∨ H a = some (.tup vs)) (k : Kp [] H H2) : H2 a = some (.lst vs) ∨ H2 a = some (.tup vs) := h.imp k.get0 k.get0
theorem s_tupq {H : Hp} {a : Addr} {vs : List V} {Q : VK} (h : H a = some (.lst vs) ∨ H a = some (.tup vs)) (q : ∀ t H', H' t = some (.tup vs) → Kp [] H H' → Q (.ref t) H') : uTuple K [.ref a] H Q := by
  rcases h with h | h
  · exact s_tuple (SqL.of h) fun t H' _ e k => q t H' e k
  · exact s_tupleT h (q _ _ h Kp.refl)
theorem s_isqq {H : Hp} {p : Addr} {xs : List V} {S L : Addr → Prop} (h : H p = some (.lst xs) ∨ H p = some (.tup xs)) (q1 : H p = some (.lst xs) → L p) (q2 : H p = some (.tup xs) → S p) : ∃ a, V.ref p = .ref a ∧ (((∃ xs, SqL K H a xs) ∧ L a) ∨ ((∃ xs, SqT K H a xs) ∧ S a)) := by
  rcases h with h | h
  · exact s_isqL h (q1 h)
  · exact s_isqT h (q2 h)
def ErF (f : Str) (C : Addr) (y : V) (H : Hp) (E : XK) : Prop := ∀ d H', H d = none → H' d = some (.xd [(f, y)]) → Kp [] H H' → E (.ref C) (some d) H'
theorem ErF.kp {f : Str} {C : Addr} {y : V} {H H1 : Hp} {E : XK} (h : ErF f C y H E) (k : Kp [] H H1) : ErF f C y H1 E := fun d H' fr e k' => h d H' (k.dom d fr) e (k.trans k')

/-! what is due of places, stretches, longs -/
def isRow (H : Hp) (v : V) (n : Int) : Bool := match rowH H v with | some xs => decide ((xs.length : Int) = n) | none => false
theorem isRow_kp {H H1 : Hp} {v : V} {t : Kd} {n : Int} (ty : TyN H v t) (k : Kp [] H H1) : isRow H1 v n = isRow H v n := by unfold isRow; rw [rowH_kp ty k]
theorem isRow_ex {H : Hp} {v : V} {n : Int} (h : isRow H v n = true) : ∃ a xs, v = .ref a ∧ H a = some (.tup xs) ∧ (xs.length : Int) = n ∧ rowH H v = some xs := by
  unfold isRow at h
  cases e : rowH H v with
  | none => rw [e] at h; cases h
  | some xs =>
    rw [e] at h
    have e' := e
    unfold rowH at e
    split at e
    · rename_i a
      split at e
      · rename_i ys ea
        cases e
        exact ⟨a, _, rfl, ea, by simpa using h, rfl⟩
      · cases e
    · cases e
def goP (H : Hp) : List Str → List V → Option (Str × V)
  | _, [] => none
  | ns, v :: r => match rowH H v with
    | some [n, m] => if isName n = false then some ("name", n) else (match n with
      | .str z => if z ∈ ns then some ("twice", n) else if isWhole m 1 3 = false then some ("number", m) else goP H (ns ++ [z]) r
      | _ => none)
    | _ => some ("places", v)
def placesDue (H : Hp) (x : V) : Option (Str × V) := match seqH H x with
  | some vs => if 2 ≤ vs.length ∧ vs.length ≤ 6 then goP H [] vs else some ("places", x)
  | none => some ("places", x)
theorem goP_no {H : Hp} {v : V} {ns : List Str} {r : List V} (h : isRow H v 2 = false) : goP H ns (v :: r) = some (("places" : Str), v) := by
  unfold isRow at h
  cases e : rowH H v with
  | none => simp only [goP, e]
  | some xs =>
    simp only [e] at h
    match xs, e, h with
    | [], e, _ => simp only [goP, e]
    | [a], e, _ => simp only [goP, e]
    | [a, b], _, h => simp at h
    | a :: b :: c :: r, e, _ => simp only [goP, e]
theorem goP_row {H : Hp} {v n m : V} {ns : List Str} {r : List V} (e : rowH H v = some [n, m]) : goP H ns (v :: r) = if isName n = false then some (("name" : Str), n) else (match n with
      | .str z => if z ∈ ns then some (("twice" : Str), n) else if isWhole m 1 3 = false then some (("number" : Str), m) else goP H (ns ++ [z]) r
      | _ => none) := by
  simp only [goP, e]
  split
  · rfl
  · cases n <;> rfl
theorem isName_str {v : V} (h : isName v = true) : ∃ z, v = .str z := by
  cases v <;> simp [isName] at h
  exact ⟨_, rfl⟩
def isSt (H : Hp) (v : V) : Bool := match rowH H v with
  | some [.str z, m] => decide (z ∈ (["staff", "ticket"] : List Str)) && isWhole m 0 1
  | _ => false
def goS (H : Hp) : List V → Option (Str × V)
  | [] => none
  | v :: r => if isSt H v then goS H r else some ("stretches", v)
def strDue (H : Hp) (x : V) (many : Int) : Option (Str × V) := match seqH H x with
  | some vs => if (vs.length : Int) = many then goS H vs else some ("stretches", x)
  | none => some ("stretches", x)
theorem isSt_no {H : Hp} {v : V} (h : isRow H v 2 = false) : isSt H v = false := by
  unfold isRow at h
  unfold isSt
  cases e : rowH H v with
  | none => rfl
  | some xs =>
    simp only [e] at h
    match xs, h with
    | [], _ => rfl
    | [a], _ => cases a <;> rfl
    | [a, b], h => simp at h
    | a :: b :: c :: r, _ => cases a <;> rfl
theorem isSt_row {H : Hp} {v m : V} {z : Str} (e : rowH H v = some [.str z, m]) : isSt H v = (decide (z ∈ (["staff", "ticket"] : List Str)) && isWhole m 0 1) := by unfold isSt; rw [e]
theorem isSt_row2 {H : Hp} {v n m : V} (e : rowH H v = some [n, m]) (h : ∀ z, n ≠ .str z) : isSt H v = false := by
  unfold isSt
  rw [e]
  cases n <;> first | rfl | exact (h _ rfl).elim
def le2 : V → V → Bool | .int a, .int b => decide (a + 2 ≤ b) | _, _ => false
def isLo (H : Hp) (v : V) (low high : Int) : Bool := match rowH H v with
  | some [a, b, c] => isWhole a low high && (isWhole b low high && (le2 a b && isWhole c 0 1))
  | _ => false
def lowOf (H : Hp) (v : V) : Int := match rowH H v with | some [_, .int b, _] => b | _ => 0
def goL (H : Hp) (high : Int) : Int → List V → Option (Str × V)
  | _, [] => none
  | low, v :: r => if isLo H v low high then goL H high (lowOf H v) r else some ("longs", v)
def longsDue (H : Hp) (x : V) (many : Int) : Option (Str × V) := if x = .non then none else match seqH H x with
  | some vs => if vs.length ≤ 2 then goL H (many - 1) 0 vs else some ("longs", x)
  | none => some ("longs", x)
theorem isLo_no {H : Hp} {v : V} {low high : Int} (h : isRow H v 3 = false) : isLo H v low high = false := by
  unfold isRow at h
  unfold isLo
  cases e : rowH H v with
  | none => rfl
  | some xs =>
    simp only [e] at h
    match xs, h with
    | [], _ => rfl
    | [a], _ => rfl
    | [a, b], _ => rfl
    | [a, b, c], h => simp at h
    | a :: b :: c :: d :: r, _ => rfl
theorem isLo_row {H : Hp} {v a b c : V} {low high : Int} (e : rowH H v = some [a, b, c]) : isLo H v low high = (isWhole a low high && (isWhole b low high && (le2 a b && isWhole c 0 1))) := by unfold isLo; rw [e]
theorem isWhole_ty {v : V} {lo hi : Int} (h : isWhole v lo hi = true) : ∃ n, v = .int n ∧ lo ≤ n ∧ n ≤ hi := whole_int h
def cl (T : Tx K mg) (c : Str) : Addr := if c = "places" then T.C_NoPlaces else if c = "name" then T.C_NoName else if c = "twice" then T.C_Twice else if c = "number" then T.C_NoNumber else if c = "stretches" then T.C_NoStretches else T.C_NoLongs
theorem cl_eqs (T : Tx K mg) : (cl T "places" = T.C_NoPlaces ∧ cl T "name" = T.C_NoName ∧ cl T "twice" = T.C_Twice) ∧ cl T "number" = T.C_NoNumber ∧ cl T "stretches" = T.C_NoStretches ∧ cl T "longs" = T.C_NoLongs := by
  have h : ("name" : Str) ≠ "places" ∧ ("twice" : Str) ≠ "places" ∧ ("twice" : Str) ≠ "name" ∧ ("number" : Str) ≠ "places" ∧ ("number" : Str) ≠ "name" ∧ ("number" : Str) ≠ "twice" ∧
    ("stretches" : Str) ≠ "places" ∧ ("stretches" : Str) ≠ "name" ∧ ("stretches" : Str) ≠ "twice" ∧ ("stretches" : Str) ≠ "number" ∧
    ("longs" : Str) ≠ "places" ∧ ("longs" : Str) ≠ "name" ∧ ("longs" : Str) ≠ "twice" ∧ ("longs" : Str) ≠ "number" ∧ ("longs" : Str) ≠ "stretches" := by decide +kernel
  obtain ⟨h1, h2, h3, h4, h5, h6, h7, h8, h9, h10, h11, h12, h13, h14, h15⟩ := h
  unfold cl
  refine ⟨⟨if_pos rfl, ?_, ?_⟩, ?_, ?_, ?_⟩
  · rw [if_neg h1, if_pos rfl]
  · rw [if_neg h2, if_neg h3, if_pos rfl]
  · rw [if_neg h4, if_neg h5, if_neg h6, if_pos rfl]
  · rw [if_neg h7, if_neg h8, if_neg h9, if_neg h10, if_pos rfl]
  · rw [if_neg h11, if_neg h12, if_neg h13, if_neg h14, if_neg h15]
def sp_is_row : Sp := sp2 fun x y H Q _ => ∃ (t : Kd) (n : Int), y = .int n ∧ TyN H x t ∧ Q (.bl (isRow H x n)) H
set_option maxHeartbeats 16000000 in
theorem ok_is_row (T : Tx K mg) : FnOk P w K mg base (L2.CX P w) 1 T.a_is_row T.d_is_row ["thing", "size"] (sp_is_row) := by
  refine T.F_is_row.okX sc_is_row (fun vs H Q E h => ?_) (fun cd A o s H vs Q E hr h => ?_)
  · obtain ⟨v0, v1, rfl, h⟩ := h; rfl
  obtain ⟨v0, v1, rfl, h⟩ := h
  obtain ⟨t, n, rfl, ty, k⟩ := h
  refine ⟨_, (pss_one (ps_ret (pe_and (pe_callB (c_isi (K := K) rfl) rfl T.z_isinstance bt_isinstance (pa_cons (pv 0) (pa_cons (pe_ty rfl T.z_tuple bt_tuple) pa_nil))) (pe_one (pe_cmpR (o_eq (K := K) rfl hr) (pe_callB (c_len (K := K) rfl) rfl T.z_len bt_len (pa_cons (pv 0) pa_nil)) (pv 1) (nomark _)))))), ?_⟩
  rw [st_is_row]
  rcases rowH_cases ty with ⟨rfl, a, xs, rfl, ea, er⟩ | ⟨hn, er⟩
  · walk_at "u"
    refine s_lent ea ?_
    walk_at "u"
    unfold isRow at k
    rw [er] at k
    exact k
  · unfold isRow at k
    rw [er] at k
    cases ty <;> walk_at "u"
    all_goals first
      | exact k
      | exact (hn rfl).elim
theorem c_row {x : V} {t : Kd} {n : Int} {H : Hp} {Q : VK} {E : XK} (ty : TyN H x t) (q : Q (.bl (isRow H x n)) H) : sp_is_row [x, .int n] H Q E := ⟨_, _, rfl, t, n, rfl, ty, q⟩
/-- of places, stretches or longs: refused with what is due, or a tuple of them -/
def Du (T : Tx K mg) (due : Option (Str × V)) (x : V) (H : Hp) (Q : VK) (E : XK) : Prop :=
  (∀ c y, due = some (c, y) → ErF "found" (cl T c) y H E) ∧ (due = none → ∀ vs, seqH H x = some vs → ∀ t H', H' t = some (.tup vs) → Kp [] H H' → Q (.ref t) H')
def sp_good_places (T : Tx K mg) : Sp := sp1 fun x H Q E => ∃ G, Tg K H G 3 x ∧ Du T (placesDue H x) x H Q E
set_option maxHeartbeats 16000000 in
theorem ok_good_places (T : Tx K mg) : FnOk P w K mg base (L2.CX P w) 3 T.a_good_places T.d_good_places ["places"] (sp_good_places T) := by
  have G_NoPlaces_init := ok_NoPlaces_init (P := P) (w := w) (base := base) T
  have G_is_row := ok_is_row (P := P) (w := w) (base := base) T
  have G_is_name := ok_is_name (P := P) (w := w) (base := base) T
  have G_NoName_init := ok_NoName_init (P := P) (w := w) (base := base) T
  have G_Twice_init := ok_Twice_init (P := P) (w := w) (base := base) T
  have G_is_whole := ok_is_whole (P := P) (w := w) (base := base) T
  have G_NoNumber_init := ok_NoNumber_init (P := P) (w := w) (base := base) T
  refine T.F_good_places.okX sc_good_places (fun vs H Q E h => ?_) (fun cd A o s H vs Q E hr h => ?_)
  · obtain ⟨v0, rfl, h⟩ := h; rfl
  obtain ⟨v0, rfl, h⟩ := h
  obtain ⟨G, hT, kE, k⟩ := h
  refine ⟨_, (pss_cons (ps_if (PW.pt (pw_or (pt_not (pt_val (pe_callB (c_isiT (K := K) rfl) rfl T.z_isinstance bt_isinstance (pa_cons (pv 0) (pa_cons (pe_tup (pa_cons (pe_ty rfl T.z_list bt_list) (pa_cons (pe_ty rfl T.z_tuple bt_tuple) pa_nil))) pa_nil))))) (pw_or1 (pt_not (pt_chain o_le o_le (pe_glob rfl T.mc_FEWEST_PLACES T.rc_FEWEST_PLACES) (pe_callB (c_len (K := K) rfl) rfl T.z_len bt_len (pa_cons (pv 0) pa_nil)) (pe_glob rfl T.mc_MOST_PLACES T.rc_MOST_PLACES))))))
    (pss_one (ps_rz rfl T.er_NoPlaces.oex T.er_NoPlaces.iC T.er_NoPlaces.tI G_NoPlaces_init (hr.mono (by decide)) T.B_NoPlaces_init rfl T.m_NoPlaces (takes_of (E := E) rfl rfl rfl rfl) (pv 0)))
    pss_nil)
    (pss_cons (ps_set (i := 1) sc_good_places.nd rfl (Or.inl rfl) (pe_lst pa_nil))
    (pss_cons (ps_for PassesOwn.leaving rfl (pi_seq (K := K) rfl (pv 0)) (pg_name (i := 2) sc_good_places.nd rfl (Or.inl rfl))
    (pss_cons (ps_if (pt_not (pt_val (pe_co G_is_row (hr.mono (by decide)) rfl T.m_is_row T.F_is_row.kp T.B_is_row (takes_of (E := E) rfl rfl rfl rfl) (pa_cons (pv 2) (pa_cons pe_int pa_nil)))))
    (pss_one (ps_rz rfl T.er_NoPlaces.oex T.er_NoPlaces.iC T.er_NoPlaces.tI G_NoPlaces_init (hr.mono (by decide)) T.B_NoPlaces_init rfl T.m_NoPlaces (takes_of (E := E) rfl rfl rfl rfl) (pv 2)))
    pss_nil)
    (pss_cons (ps_if (pt_not (pt_val (pe_co G_is_name (hr.mono (by decide)) rfl T.m_is_name T.F_is_name.kp T.B_is_name (takes_of (E := E) rfl rfl rfl rfl) (pa_cons (pe_ix (ix_u (K := K) rfl) (pv 2) pe_int (fun _ _ => rfl)) pa_nil))))
    (pss_one (ps_rz rfl T.er_NoName.oex T.er_NoName.iC T.er_NoName.tI G_NoName_init (hr.mono (by decide)) T.B_NoName_init rfl T.m_NoName (takes_of (E := E) rfl rfl rfl rfl) (pe_ix (ix_u (K := K) rfl) (pv 2) pe_int (fun _ _ => rfl))))
    pss_nil)
    (pss_cons (ps_if (pt_cmpR (o_in (K := K) rfl) (pe_ix (ix_u (K := K) rfl) (pv 2) pe_int (fun _ _ => rfl)) (pv 1) rfl)
    (pss_one (ps_rz rfl T.er_Twice.oex T.er_Twice.iC T.er_Twice.tI G_Twice_init (hr.mono (by decide)) T.B_Twice_init rfl T.m_Twice (takes_of (E := E) rfl rfl rfl rfl) (pe_ix (ix_u (K := K) rfl) (pv 2) pe_int (fun _ _ => rfl))))
    pss_nil)
    (pss_cons (ps_if (pt_not (pt_val (pe_co G_is_whole (hr.mono (by decide)) rfl T.m_is_whole T.F_is_whole.kp T.B_is_whole (takes_of (E := E) rfl rfl rfl rfl) (pa_cons (pe_ix (ix_u (K := K) rfl) (pv 2) pe_int (fun _ _ => rfl)) (pa_cons pe_int (pa_cons (pe_glob rfl T.mc_MOST_ROADS T.rc_MOST_ROADS) pa_nil))))))
    (pss_one (ps_rz rfl T.er_NoNumber.oex T.er_NoNumber.iC T.er_NoNumber.tI G_NoNumber_init (hr.mono (by decide)) T.B_NoNumber_init rfl T.m_NoNumber (takes_of (E := E) rfl rfl rfl rfl) (pe_ix (ix_u (K := K) rfl) (pv 2) pe_int (fun _ _ => rfl))))
    pss_nil)
    (pss_one (ps_expr (pe_bm PySem.F.plainAttrs_list PySem.F.slot_list_append PySem.F.type_list_append mt_append (pv 1) (pa_cons (pe_ix (ix_u (K := K) rfl) (pv 2) pe_int (fun _ _ => rfl)) pa_nil)))))))))
    (pss_one (ps_ret (pe_callTy (c_tuple (K := K) rfl) rfl T.z_tuple bt_tuple (pa_cons (pv 0) pa_nil))))))), ?_⟩
  rw [st_good_places]
  obtain ⟨⟨c1, c2, c3⟩, c4, _⟩ := cl_eqs T
  obtain ⟨⟨t, ty⟩, _⟩ := hT.ty
  walk_at "u"
  walk_at "na"
  intro l0 H0 f0 e0 k0
  walk_at "u"
  refine s_isSeq (ty.kp k0) e0 ?_
  walk_at "u"
  rcases seqH_cases ty with ⟨hs, a, vs, rfl, ea, es⟩ | ⟨hs, es⟩
  rotate_left
  · rw [hs]
    walk_at "u"
    have := kE "places" _ (by unfold placesDue; rw [es])
    rw [c1] at this
    exact this.kp k0
  rw [hs]
  obtain ⟨l12, hx⟩ := hT.seq es
  have ea0 := sq_kp ea k0
  walk_at "u"
  refine s_lenq ea0 ?_
  walk_at "u"
  have bad : ¬ (2 ≤ vs.length ∧ vs.length ≤ 6) → ErF "found" T.C_NoPlaces (.ref a) H0 E := fun h => by
    have := kE "places" _ (by unfold placesDue; rw [es]; simp only; rw [if_neg h])
    rw [c1] at this
    exact this.kp k0
  refine s_ite (fun h1 => ?_) (fun h1 => ?_)
  rotate_left
  · walk_at "u"
    exact bad (by omega)
  walk_at "u"
  refine s_itn (fun h2 => ?_) (fun h2 => ?_)
  · walk_at "u"
    exact bad (by omega)
  have eD : placesDue H (.ref a) = goP H [] vs := by
    unfold placesDue
    rw [es]
    simp only
    rw [if_pos (by omega)]
  rw [eD] at kE k
  walk_at "u"
  walk_at "na"
  intro l1 H1 f1 e1 k1
  have z1 : Kz [] H H1 := ⟨by walk_at "k"⟩
  have ea1 := sq_kp ea0 k1
  have f10 : H l1 = none := by walk_at "f"
  have nl : a ≠ l1 := by
    rcases ea0 with h | h <;> exact ne_of_none h f1
  clear k1 k0 ea0 f1 f0 e0
  obtain ⟨z1⟩ := z1
  have fz : Fz H l1 := ⟨f10⟩
  clear f10
  walk_at "u"
  refine for_sq ea1 (fun i σ H' => Kp [] H H' ∧ Kp [l1] H1 H' ∧ (∃ ns : List Str, H' l1 = some (.lst (ns.map V.str)) ∧ ns.length = i ∧ goP H [] vs = goP H ns (vs.drop i)) ∧ ∃ u2, σ = [some (.ref a), some (.ref l1), u2]) ⟨z1, Kp.refl, ⟨[], e1, rfl, by simp⟩, _, rfl⟩ (fun i σ' H' q o e => q.2.1.get1 e nl) ?_ ?_
  · rintro i x σ H2 ex ⟨k2, k12, ⟨ns, el, ln, hg⟩, u2, rfl⟩
    have z2 := k2
    have z12 : Kz [l1] H1 H2 := ⟨k12⟩
    clear k12 k2
    obtain ⟨hi, rfl⟩ := List.getElem?_eq_some_iff.mp ex
    have hv := hx _ (List.getElem_mem hi)
    rw [List.drop_eq_getElem_cons hi] at hg
    generalize vs[i] = v at *
    obtain ⟨⟨tv, tyv⟩, _⟩ := hv.ty
    have err : ∀ c y C, cl T c = C → goP H ns (v :: vs.drop (i + 1)) = some (c, y) → ∀ H3, Kp [] H H3 → ErF "found" C y H3 E := fun c y C e h H3 k3 => by
      have := kE c y (hg.trans h)
      rw [e] at this
      exact this.kp k3
    walk_at "u"
    refine c_row (tyv.kp z2) ?_
    rw [isRow_kp tyv z2]
    walk_at "u"
    cases hr2 : isRow H v 2 with
    | false =>
      walk_at "u"
      exact err _ _ _ c1 (goP_no hr2) _ z2
    | true =>
    obtain ⟨u, xs, rfl, eu, l2, er⟩ := isRow_ex hr2
    obtain ⟨n, m, rfl⟩ : ∃ n m, xs = [n, m] := by
      match xs, l2 with
      | [n, m], _ => exact ⟨n, m, rfl⟩
    have hxs := (hv.row er).2
    obtain ⟨⟨tn, tyn⟩, smn⟩ := (hxs n (by simp)).ty
    obtain ⟨⟨tm, tym⟩, smm⟩ := (hxs m (by simp)).ty
    have eG := goP_row (ns := ns) (r := vs.drop (i + 1)) er
    have eu2 := z2.tgt eu
    walk_at "u"
    refine ⟨_, rfl, tn, tyn.kp z2, smn, fun H3 k3 => ?_⟩
    walk_at "u"
    cases hn : isName n with
    | false =>
      rw [hn, if_pos rfl] at eG
      walk_at "u"
      exact err _ _ _ c2 eG _ (z2.trans k3)
    | true =>
    obtain ⟨z, rfl⟩ := isName_str hn
    rw [hn, if_neg (by simp)] at eG
    simp only at eG
    walk_at "u"
    refine s_ite (fun hz => ?_) (fun hz => ?_)
    · rw [if_pos hz] at eG
      walk_at "u"
      exact err _ _ _ c3 eG _ (z2.trans k3)
    rw [if_neg hz] at eG
    walk_at "u"
    refine ⟨_, _, _, rfl, 1, 3, tm, rfl, rfl, (tym.kp z2).kp k3, ?_⟩
    walk_at "u"
    cases hm : isWhole m 1 3 with
    | false =>
      rw [hm, if_pos rfl] at eG
      walk_at "u"
      exact err _ _ _ c4 eG _ (z2.trans k3)
    | true =>
    rw [hm, if_neg (by simp)] at eG
    walk_at "u"
    refine s_app (xs := ns.map V.str) (by walk_at "g") (zlt (by simp; omega)) fun H4 e4 k4 => ?_
    walk_at "u"
    exact ⟨Kp.step (z2.trans k3) k4 (by simpa using fz.f), (z12.k.trans k3.nil).trans k4, ⟨ns ++ [z], by rw [e4]; simp, by simp [ln], hg.trans eG⟩, _, rfl⟩
  · rintro σ H2 ⟨k2, k12, ⟨ns, el, ln, hg⟩, u2, rfl⟩
    rw [List.drop_of_length_le (Nat.le_refl _)] at hg
    walk_at "u"
    refine s_tupq (ea1.imp (fun e => k12.get1 e nl) (fun e => k12.tgt e)) fun t3 H3 e3 k3 => ?_
    walk_at "u"
    exact k (hg.trans rfl) vs es t3 H3 e3 (k2.trans k3)
def sp_is_stretch (K : PySem.W.Frag) : Sp := sp1 fun x H Q _ => ∃ G, Tg K H G 2 x ∧ ∀ H', Kp [] H H' → Q (.bl (isSt H x)) H'
set_option maxHeartbeats 16000000 in
theorem ok_is_stretch (T : Tx K mg) : FnOk P w K mg base (L2.CX P w) 2 T.a_is_stretch T.d_is_stretch ["thing"] (sp_is_stretch K) := by
  have G_is_whole := ok_is_whole (P := P) (w := w) (base := base) T
  have G_is_row := ok_is_row (P := P) (w := w) (base := base) T
  refine T.F_is_stretch.okX sc_is_stretch (fun vs H Q E h => ?_) (fun cd A o s H vs Q E hr h => ?_)
  · obtain ⟨v0, rfl, h⟩ := h; rfl
  obtain ⟨v0, rfl, h⟩ := h
  obtain ⟨G, hT, k⟩ := h
  refine ⟨_, (pss_cons (ps_if (PW.pt (pw_or (pt_not (pt_val (pe_co G_is_row (hr.mono (by decide)) rfl T.m_is_row T.F_is_row.kp T.B_is_row (takes_of (E := E) rfl rfl rfl rfl) (pa_cons (pv 0) (pa_cons pe_int pa_nil))))) (pw_or1 (pt_not (pt_val (pe_callB (c_isi (K := K) rfl) rfl T.z_isinstance bt_isinstance (pa_cons (pe_ix (ix_u (K := K) rfl) (pv 0) pe_int (fun _ _ => rfl)) (pa_cons (pe_ty rfl T.z_str bt_str) pa_nil))))))))
    (pss_one (ps_ret pe_bl))
    pss_nil)
    (pss_one (ps_ret (pe_and (pe_cmpR (o_in (K := K) rfl) (pe_ix (ix_u (K := K) rfl) (pv 0) pe_int (fun _ _ => rfl)) (pe_tup (pa_cons pe_str (pa_cons pe_str pa_nil))) rfl) (pe_one (pe_co G_is_whole (hr.mono (by decide)) rfl T.m_is_whole T.F_is_whole.kp T.B_is_whole (takes_of (E := E) rfl rfl rfl rfl) (pa_cons (pe_ix (ix_u (K := K) rfl) (pv 0) pe_int (fun _ _ => rfl)) (pa_cons pe_int (pa_cons pe_int pa_nil))))))))), ?_⟩
  rw [st_is_stretch]
  obtain ⟨⟨t, ty⟩, _⟩ := hT.ty
  walk_at "u"
  refine c_row ty ?_
  walk_at "u"
  cases hr2 : isRow H v0 2 with
  | false =>
    have k := k H Kp.refl
    rw [isSt_no hr2] at k
    walk_at "u"
    exact k
  | true =>
  obtain ⟨u, xs, rfl, eu, l2, er⟩ := isRow_ex hr2
  obtain ⟨n, m, rfl⟩ : ∃ n m, xs = [n, m] := by
    match xs, l2 with
    | [n, m], _ => exact ⟨n, m, rfl⟩
  have hxs := (hT.row er).2
  obtain ⟨⟨tn, tyn⟩, smn⟩ := (hxs n (by simp)).ty
  obtain ⟨⟨tm, tym⟩, smm⟩ := (hxs m (by simp)).ty
  walk_at "u"
  by_cases hz : ∃ z, n = .str z
  · obtain ⟨z, rfl⟩ := hz
    rw [isSt_row er] at k
    cases tyn
    walk_at "u"
    walk_at "na"
    intro t1 H1 f1 e1 k1
    refine s_inT (zs := ["staff", "ticket"]) (SqT.of e1) ?_
    have k := k H1 k1
    walk_at "u"
    cases hd : decide (z ∈ (["staff", "ticket"] : List Str)) with
    | false =>
      rw [hd, Bool.false_and] at k
      walk_at "u"
      exact k
    | true =>
      rw [hd, Bool.true_and] at k
      walk_at "u"
      exact ⟨_, _, _, rfl, 0, 1, tm, rfl, rfl, tym.kp k1, k⟩
  · have k := k H Kp.refl
    rw [isSt_row2 er fun z e => hz ⟨z, e⟩] at k
    cases tyn <;> walk_at "u"
    all_goals first
      | exact k
      | exact (hz ⟨_, rfl⟩).elim
theorem c_st {x : V} {G : List Addr} {H : Hp} {Q : VK} {E : XK} (hT : Tg K H G 2 x) (q : ∀ H', Kp [] H H' → Q (.bl (isSt H x)) H') : sp_is_stretch K [x] H Q E := ⟨_, rfl, G, hT, q⟩
def sp_good_stretches (T : Tx K mg) : Sp := sp2 fun x y H Q E => ∃ (G : List Addr) (many : Int), y = .int many ∧ Tg K H G 3 x ∧ Du T (strDue H x many) x H Q E
theorem isSt_kp {H H1 : Hp} {v : V} {t : Kd} (ty : TyN H v t) (k : Kp [] H H1) : isSt H1 v = isSt H v := by unfold isSt; rw [rowH_kp ty k]
theorem isLo_kp {H H1 : Hp} {v : V} {t : Kd} {low high : Int} (ty : TyN H v t) (k : Kp [] H H1) : isLo H1 v low high = isLo H v low high := by unfold isLo; rw [rowH_kp ty k]
set_option maxHeartbeats 16000000 in
theorem ok_good_stretches (T : Tx K mg) : FnOk P w K mg base (L2.CX P w) 3 T.a_good_stretches T.d_good_stretches ["stretches", "many"] (sp_good_stretches T) := by
  have G_NoStretches_init := ok_NoStretches_init (P := P) (w := w) (base := base) T
  have G_is_stretch := ok_is_stretch (P := P) (w := w) (base := base) T
  refine T.F_good_stretches.okX sc_good_stretches (fun vs H Q E h => ?_) (fun cd A o s H vs Q E hr h => ?_)
  · obtain ⟨v0, v1, rfl, h⟩ := h; rfl
  obtain ⟨v0, v1, rfl, h⟩ := h
  obtain ⟨G, many, rfl, hT, kE, k⟩ := h
  refine ⟨_, (pss_cons (ps_if (PW.pt (pw_or (pt_not (pt_val (pe_callB (c_isiT (K := K) rfl) rfl T.z_isinstance bt_isinstance (pa_cons (pv 0) (pa_cons (pe_tup (pa_cons (pe_ty rfl T.z_list bt_list) (pa_cons (pe_ty rfl T.z_tuple bt_tuple) pa_nil))) pa_nil))))) (pw_or1 (pt_cmpR (o_ne (K := K) rfl hr) (pe_callB (c_len (K := K) rfl) rfl T.z_len bt_len (pa_cons (pv 0) pa_nil)) (pv 1) (nomark _)))))
    (pss_one (ps_rz rfl T.er_NoStretches.oex T.er_NoStretches.iC T.er_NoStretches.tI G_NoStretches_init (hr.mono (by decide)) T.B_NoStretches_init rfl T.m_NoStretches (takes_of (E := E) rfl rfl rfl rfl) (pv 0)))
    pss_nil)
    (pss_cons (ps_for PassesOwn.leaving rfl (pi_seq (K := K) rfl (pv 0)) (pg_name (i := 2) sc_good_stretches.nd rfl (Or.inl rfl))
    (pss_one (ps_if (pt_not (pt_val (pe_co G_is_stretch (hr.mono (by decide)) rfl T.m_is_stretch T.F_is_stretch.kp T.B_is_stretch (takes_of (E := E) rfl rfl rfl rfl) (pa_cons (pv 2) pa_nil))))
    (pss_one (ps_rz rfl T.er_NoStretches.oex T.er_NoStretches.iC T.er_NoStretches.tI G_NoStretches_init (hr.mono (by decide)) T.B_NoStretches_init rfl T.m_NoStretches (takes_of (E := E) rfl rfl rfl rfl) (pv 2)))
    pss_nil)))
    (pss_one (ps_ret (pe_callTy (c_tuple (K := K) rfl) rfl T.z_tuple bt_tuple (pa_cons (pv 0) pa_nil)))))), ?_⟩
  rw [st_good_stretches]
  obtain ⟨_, _, c5, _⟩ := cl_eqs T
  obtain ⟨⟨t, ty⟩, _⟩ := hT.ty
  walk_at "u"
  walk_at "na"
  intro l0 H0 f0 e0 k0
  walk_at "u"
  refine s_isSeq (ty.kp k0) e0 ?_
  walk_at "u"
  rcases seqH_cases ty with ⟨hs, a, vs, rfl, ea, es⟩ | ⟨hs, es⟩
  rotate_left
  · rw [hs]
    walk_at "u"
    have := kE "stretches" _ (by unfold strDue; rw [es])
    rw [c5] at this
    exact this.kp k0
  rw [hs]
  obtain ⟨l12, hx⟩ := hT.seq es
  have ea0 := sq_kp ea k0
  walk_at "u"
  refine s_lenq ea0 ?_
  walk_at "u"
  refine s_itn (fun h2 => ?_) (fun h2 => ?_)
  · walk_at "u"
    have := kE "stretches" _ (by unfold strDue; rw [es]; simp only; rw [if_neg h2])
    rw [c5] at this
    exact this.kp k0
  have eD : strDue H (.ref a) many = goS H vs := by
    unfold strDue
    rw [es]
    simp only
    rw [if_pos h2]
  rw [eD] at kE k
  walk_at "u"
  refine for_sq ea0 (fun i σ H' => Kp [] H H' ∧ Kp [] H0 H' ∧ goS H vs = goS H (vs.drop i) ∧ ∃ u2, σ = [some (.ref a), some (.int many), u2]) ⟨k0, Kp.refl, by simp, _, rfl⟩ (fun i σ' H' q o e => q.2.1.get0 e) ?_ ?_
  · rintro i x σ H2 ex ⟨k2, k02, hg, u2, rfl⟩
    have z02 : Kz [] H0 H2 := ⟨k02⟩
    have z2 := k2
    clear k2 k02
    obtain ⟨hi, rfl⟩ := List.getElem?_eq_some_iff.mp ex
    have hv := hx _ (List.getElem_mem hi)
    rw [List.drop_eq_getElem_cons hi] at hg
    generalize vs[i] = v at *
    obtain ⟨⟨tv, tyv⟩, _⟩ := hv.ty
    walk_at "u"
    refine c_st (hv.kp z2) fun H3 k3 => ?_
    rw [isSt_kp tyv z2]
    walk_at "u"
    cases hb : isSt H v with
    | false =>
      walk_at "u"
      have := kE "stretches" v (by rw [hg]; unfold goS; rw [hb]; rfl)
      rw [c5] at this
      exact this.kp (z2.trans k3)
    | true =>
      walk_at "u"
      exact ⟨z2.trans k3, z02.k.trans k3, by rw [hg]; simp only [goS, hb, if_true], _, rfl⟩
  · rintro σ H2 ⟨k2, k02, hg, u2, rfl⟩
    rw [List.drop_of_length_le (Nat.le_refl _)] at hg
    walk_at "u"
    refine s_tupq (sq_kp ea0 k02) fun t3 H3 e3 k3 => ?_
    walk_at "u"
    exact k (hg.trans rfl) vs es t3 H3 e3 (k2.trans k3)
def sp_is_long (K : PySem.W.Frag) : Sp := sp3 fun x y z H Q _ => ∃ (G : List Addr) (low high : Int), y = .int low ∧ z = .int high ∧ Tg K H G 2 x ∧ Q (.bl (isLo H x low high)) H
set_option maxHeartbeats 16000000 in
theorem ok_is_long (T : Tx K mg) : FnOk P w K mg base (L2.CX P w) 2 T.a_is_long T.d_is_long ["thing", "low", "high"] (sp_is_long K) := by
  have G_is_whole := ok_is_whole (P := P) (w := w) (base := base) T
  have G_is_row := ok_is_row (P := P) (w := w) (base := base) T
  refine T.F_is_long.okX sc_is_long (fun vs H Q E h => ?_) (fun cd A o s H vs Q E hr h => ?_)
  · obtain ⟨v0, v1, v2, rfl, h⟩ := h; rfl
  obtain ⟨v0, v1, v2, rfl, h⟩ := h
  obtain ⟨G, low, high, rfl, rfl, hT, k⟩ := h
  refine ⟨_, (pss_cons (ps_if (PW.pt (pw_or (pt_not (pt_val (pe_co G_is_row (hr.mono (by decide)) rfl T.m_is_row T.F_is_row.kp T.B_is_row (takes_of (E := E) rfl rfl rfl rfl) (pa_cons (pv 0) (pa_cons pe_int pa_nil))))) (pw_or (pt_not (pt_val (pe_co G_is_whole (hr.mono (by decide)) rfl T.m_is_whole T.F_is_whole.kp T.B_is_whole (takes_of (E := E) rfl rfl rfl rfl) (pa_cons (pe_ix (ix_u (K := K) rfl) (pv 0) pe_int (fun _ _ => rfl)) (pa_cons (pv 1) (pa_cons (pv 2) pa_nil)))))) (pw_or1 (pt_not (pt_val (pe_co G_is_whole (hr.mono (by decide)) rfl T.m_is_whole T.F_is_whole.kp T.B_is_whole (takes_of (E := E) rfl rfl rfl rfl) (pa_cons (pe_ix (ix_u (K := K) rfl) (pv 0) pe_int (fun _ _ => rfl)) (pa_cons (pv 1) (pa_cons (pv 2) pa_nil))))))))))
    (pss_one (ps_ret pe_bl))
    pss_nil)
    (pss_one (ps_ret (pe_and (pe_cmpR o_le (pe_op (o_add (K := K) rfl) (pe_ix (ix_u (K := K) rfl) (pv 0) pe_int (fun _ _ => rfl)) pe_int) (pe_ix (ix_u (K := K) rfl) (pv 0) pe_int (fun _ _ => rfl)) (nomark _)) (pe_one (pe_co G_is_whole (hr.mono (by decide)) rfl T.m_is_whole T.F_is_whole.kp T.B_is_whole (takes_of (E := E) rfl rfl rfl rfl) (pa_cons (pe_ix (ix_u (K := K) rfl) (pv 0) pe_int (fun _ _ => rfl)) (pa_cons pe_int (pa_cons pe_int pa_nil))))))))), ?_⟩
  rw [st_is_long]
  obtain ⟨⟨t, ty⟩, _⟩ := hT.ty
  walk_at "u"
  refine c_row ty ?_
  walk_at "u"
  cases hr2 : isRow H v0 3 with
  | false =>
    rw [isLo_no hr2] at k
    walk_at "u"
    exact k
  | true =>
  obtain ⟨u, xs, rfl, eu, l2, er⟩ := isRow_ex hr2
  obtain ⟨a, b, c, rfl⟩ : ∃ a b c, xs = [a, b, c] := by
    match xs, l2 with
    | [a, b, c], _ => exact ⟨a, b, c, rfl⟩
  have hxs := (hT.row er).2
  obtain ⟨⟨ta, tya⟩, _⟩ := (hxs a (by simp)).ty
  obtain ⟨⟨tb, tyb⟩, _⟩ := (hxs b (by simp)).ty
  obtain ⟨⟨tc, tyc⟩, _⟩ := (hxs c (by simp)).ty
  rw [isLo_row er] at k
  walk_at "u"
  refine ⟨_, _, _, rfl, low, high, ta, rfl, rfl, tya, ?_⟩
  walk_at "u"
  cases ha : isWhole a low high with
  | false =>
    rw [ha, Bool.false_and] at k
    walk_at "u"
    exact k
  | true =>
  rw [ha, Bool.true_and] at k
  walk_at "u"
  refine ⟨_, _, _, rfl, low, high, tb, rfl, rfl, tyb, ?_⟩
  walk_at "u"
  cases hb : isWhole b low high with
  | false =>
    rw [hb, Bool.false_and] at k
    walk_at "u"
    exact k
  | true =>
  rw [hb, Bool.true_and] at k
  obtain ⟨ia, rfl, _, _⟩ := whole_int ha
  obtain ⟨ib, rfl, _, _⟩ := whole_int hb
  have el : le2 (.int ia) (.int ib) = decide (ia + 2 ≤ ib) := rfl
  rw [el] at k
  walk_at "u"
  refine s_ite (fun h => ?_) (fun h => ?_)
  · rw [decide_eq_true h, Bool.true_and] at k
    walk_at "u"
    exact ⟨_, _, _, rfl, 0, 1, tc, rfl, rfl, tyc, k⟩
  · rw [decide_eq_false h, Bool.false_and] at k
    exact k
def sp_good_longs (T : Tx K mg) : Sp := sp2 fun x y H Q E => ∃ (G : List Addr) (many : Int), y = .int many ∧ Tg K H G 3 x ∧ (x = .non → ∀ t H', H' t = some (.tup []) → Kp [] H H' → Q (.ref t) H') ∧ Du T (longsDue H x many) x H Q E
theorem lowOf_int {H : Hp} {v : V} {low high : Int} (h : isLo H v low high = true) : ∃ a xs, v = .ref a ∧ H a = some (.tup xs) ∧ atI xs 1 = some (.int (lowOf H v)) := by
  have hr : isRow H v 3 = true := by
    cases e : isRow H v 3 with
    | true => rfl
    | false => rw [isLo_no e] at h; cases h
  obtain ⟨u, xs, rfl, eu, l2, er⟩ := isRow_ex hr
  obtain ⟨a, b, c, rfl⟩ : ∃ a b c, xs = [a, b, c] := by
    match xs, l2 with
    | [a, b, c], _ => exact ⟨a, b, c, rfl⟩
  rw [isLo_row er] at h
  simp only [Bool.and_eq_true] at h
  obtain ⟨ib, rfl, _, _⟩ := whole_int h.2.1
  refine ⟨u, _, rfl, eu, ?_⟩
  unfold lowOf
  rw [er]
  rfl
set_option maxHeartbeats 16000000 in
theorem ok_good_longs (T : Tx K mg) : FnOk P w K mg base (L2.CX P w) 3 T.a_good_longs T.d_good_longs ["longs", "many"] (sp_good_longs T) := by
  have G_NoLongs_init := ok_NoLongs_init (P := P) (w := w) (base := base) T
  have G_is_long := ok_is_long (P := P) (w := w) (base := base) T
  refine T.F_good_longs.okX sc_good_longs (fun vs H Q E h => ?_) (fun cd A o s H vs Q E hr h => ?_)
  · obtain ⟨v0, v1, rfl, h⟩ := h; rfl
  obtain ⟨v0, v1, rfl, h⟩ := h
  obtain ⟨G, many, rfl, hT, kN, kE, k⟩ := h
  refine ⟨_, (pss_cons (ps_if (pt_cmpR o_is (pv 0) pe_non (nomark _))
    (pss_one (ps_ret (pe_tup pa_nil)))
    pss_nil)
    (pss_cons (ps_if (PW.pt (pw_or (pt_not (pt_val (pe_callB (c_isiT (K := K) rfl) rfl T.z_isinstance bt_isinstance (pa_cons (pv 0) (pa_cons (pe_tup (pa_cons (pe_ty rfl T.z_list bt_list) (pa_cons (pe_ty rfl T.z_tuple bt_tuple) pa_nil))) pa_nil))))) (pw_or1 (pt_cmpR o_gt (pe_callB (c_len (K := K) rfl) rfl T.z_len bt_len (pa_cons (pv 0) pa_nil)) (pe_glob rfl T.mc_MOST_LONGS T.rc_MOST_LONGS) (nomark _)))))
    (pss_one (ps_rz rfl T.er_NoLongs.oex T.er_NoLongs.iC T.er_NoLongs.tI G_NoLongs_init (hr.mono (by decide)) T.B_NoLongs_init rfl T.m_NoLongs (takes_of (E := E) rfl rfl rfl rfl) (pv 0)))
    pss_nil)
    (pss_cons (ps_set (i := 2) sc_good_longs.nd rfl (Or.inl rfl) pe_int)
    (pss_cons (ps_for PassesOwn.leaving rfl (pi_seq (K := K) rfl (pv 0)) (pg_name (i := 3) sc_good_longs.nd rfl (Or.inl rfl))
    (pss_cons (ps_if (pt_not (pt_val (pe_co G_is_long (hr.mono (by decide)) rfl T.m_is_long T.F_is_long.kp T.B_is_long (takes_of (E := E) rfl rfl rfl rfl) (pa_cons (pv 3) (pa_cons (pv 2) (pa_cons (pe_op o_sub (pv 1) pe_int) pa_nil))))))
    (pss_one (ps_rz rfl T.er_NoLongs.oex T.er_NoLongs.iC T.er_NoLongs.tI G_NoLongs_init (hr.mono (by decide)) T.B_NoLongs_init rfl T.m_NoLongs (takes_of (E := E) rfl rfl rfl rfl) (pv 3)))
    pss_nil)
    (pss_one (ps_set (i := 2) sc_good_longs.nd rfl (Or.inl rfl) (pe_ix (ix_u (K := K) rfl) (pv 3) pe_int (fun _ _ => rfl))))))
    (pss_one (ps_ret (pe_callTy (c_tuple (K := K) rfl) rfl T.z_tuple bt_tuple (pa_cons (pv 0) pa_nil)))))))), ?_⟩
  rw [st_good_longs]
  obtain ⟨_, _, _, c6⟩ := cl_eqs T
  obtain ⟨⟨t, ty⟩, _⟩ := hT.ty
  walk_at "u"
  refine s_ite (fun hn => ?_) (fun hn => ?_)
  · walk_at "u"
    walk_at "na"
    intro t1 H1 f1 e1 k1
    walk_at "u"
    exact kN hn t1 H1 e1 k1
  walk_at "u"
  walk_at "na"
  intro l0 H0 f0 e0 k0
  walk_at "u"
  refine s_isSeq (ty.kp k0) e0 ?_
  walk_at "u"
  rcases seqH_cases ty with ⟨hs, a, vs, rfl, ea, es⟩ | ⟨hs, es⟩
  rotate_left
  · rw [hs]
    walk_at "u"
    have := kE "longs" _ (by unfold longsDue; rw [if_neg hn, es])
    rw [c6] at this
    exact this.kp k0
  rw [hs]
  obtain ⟨l12, hx⟩ := hT.seq es
  have ea0 := sq_kp ea k0
  walk_at "u"
  refine s_lenq ea0 ?_
  walk_at "u"
  refine s_ite (fun h2 => ?_) (fun h2 => ?_)
  · walk_at "u"
    have := kE "longs" _ (by unfold longsDue; rw [if_neg hn, es]; simp only; rw [if_neg (by omega)])
    rw [c6] at this
    exact this.kp k0
  have eD : longsDue H (.ref a) many = goL H (many - 1) 0 vs := by
    unfold longsDue
    rw [if_neg hn, es]
    simp only
    rw [if_pos (by omega)]
  rw [eD] at kE k
  walk_at "u"
  refine for_sq ea0 (fun i σ H' => Kp [] H H' ∧ Kp [] H0 H' ∧ ∃ low, goL H (many - 1) 0 vs = goL H (many - 1) low (vs.drop i) ∧ ∃ u2, σ = [some (.ref a), some (.int many), some (.int low), u2]) ⟨k0, Kp.refl, 0, by simp, _, rfl⟩ (fun i σ' H' q o e => q.2.1.get0 e) ?_ ?_
  · rintro i x σ H2 ex ⟨k2, k02, low, hg, u2, rfl⟩
    have z02 : Kz [] H0 H2 := ⟨k02⟩
    have z2 := k2
    clear k2 k02
    obtain ⟨hi, rfl⟩ := List.getElem?_eq_some_iff.mp ex
    have hv := hx _ (List.getElem_mem hi)
    rw [List.drop_eq_getElem_cons hi] at hg
    generalize vs[i] = v at *
    obtain ⟨⟨tv, tyv⟩, _⟩ := hv.ty
    walk_at "u"
    refine ⟨_, _, _, rfl, G, low, many - 1, rfl, rfl, hv.kp z2, ?_⟩
    rw [isLo_kp tyv z2]
    walk_at "u"
    cases hb : isLo H v low (many - 1) with
    | false =>
      walk_at "u"
      have := kE "longs" v (by rw [hg]; unfold goL; rw [hb]; rfl)
      rw [c6] at this
      exact this.kp z2
    | true =>
      obtain ⟨u, xs, rfl, eu, e1⟩ := lowOf_int hb
      walk_at "u"
      refine s_ixt (z2.tgt eu) e1 ?_
      walk_at "u"
      exact ⟨z2, z02.k, _, by rw [hg]; simp only [goL, hb, if_true], _, rfl⟩
  · rintro σ H2 ⟨k2, k02, low, hg, u2, rfl⟩
    rw [List.drop_of_length_le (Nat.le_refl _)] at hg
    walk_at "u"
    refine s_tupq (sq_kp ea0 k02) fun t3 H3 e3 k3 => ?_
    walk_at "u"
    exact k (hg.trans rfl) vs es t3 H3 e3 (k2.trans k3)

/-! what is due stays due -/
section
variable {H H1 : Hp} {G ps : List Addr} {n : Nat} {v x y z : V} {xs vs : List V}
theorem Tg.rowE (h : Tg K H G n v) (k : Kp ps H H1) (hn : ∀ a ∈ ps, a ∉ G) : rowH H1 v = rowH H v := by
  cases h with
  | tup e _ _ => rw [rowH_tup e, rowH_tup (k.tgt e)]
  | lst e ha _ _ _ _ => unfold rowH; simp only [e, k.get e fun z => hn _ z ha]
  | dic e ha => unfold rowH; simp only [e, k.get e fun z => hn _ z ha]
  | _ => rfl
theorem Tg.seqE (h : Tg K H G n v) (k : Kp ps H H1) (hn : ∀ a ∈ ps, a ∉ G) : seqH H1 v = seqH H v := by
  cases h with
  | tup e _ _ => rw [seqH_tup e, seqH_tup (k.tgt e)]
  | lst e ha _ _ _ _ => rw [seqH_lst e, seqH_lst (k.get e fun z => hn _ z ha)]
  | dic e ha => unfold seqH; simp only [e, k.get e fun z => hn _ z ha]
  | _ => rfl
theorem goP_E (k : Kp ps H H1) (hn : ∀ a ∈ ps, a ∉ G) : ∀ {vs : List V} {ns : List Str}, (∀ v ∈ vs, Tg K H G 2 v) → goP H1 ns vs = goP H ns vs
  | [], _, _ => rfl
  | v :: r, ns, h => by
    have e := (h v List.mem_cons_self).rowE k hn
    have ih := fun ns => goP_E k hn (vs := r) (ns := ns) fun u hu => h u (List.mem_cons_of_mem _ hu)
    simp only [goP, e, ih]
theorem isSt_E (h : Tg K H G n v) (k : Kp ps H H1) (hn : ∀ a ∈ ps, a ∉ G) : isSt H1 v = isSt H v := by unfold isSt; rw [h.rowE k hn]
theorem goS_E (k : Kp ps H H1) (hn : ∀ a ∈ ps, a ∉ G) : ∀ {vs : List V}, (∀ v ∈ vs, Tg K H G 2 v) → goS H1 vs = goS H vs
  | [], _ => rfl
  | v :: r, h => by
    have e := isSt_E (h v List.mem_cons_self) k hn
    have ih := goS_E k hn (vs := r) fun u hu => h u (List.mem_cons_of_mem _ hu)
    simp only [goS, e, ih]
theorem goL_E (k : Kp ps H H1) (hn : ∀ a ∈ ps, a ∉ G) {high : Int} : ∀ {vs : List V} {low : Int}, (∀ v ∈ vs, Tg K H G 2 v) → goL H1 high low vs = goL H high low vs
  | [], _, _ => rfl
  | v :: r, low, h => by
    have e := (h v List.mem_cons_self).rowE k hn
    have e1 : isLo H1 v low high = isLo H v low high := by unfold isLo; rw [e]
    have e2 : lowOf H1 v = lowOf H v := by unfold lowOf; rw [e]
    have ih := fun low => goL_E k hn (vs := r) (low := low) (high := high) fun u hu => h u (List.mem_cons_of_mem _ hu)
    simp only [goL, e1, e2, ih]
theorem placesDue_E (h : Tg K H G 3 x) (k : Kp ps H H1) (hn : ∀ a ∈ ps, a ∉ G) : placesDue H1 x = placesDue H x := by
  unfold placesDue
  rw [h.seqE k hn]
  cases e : seqH H x with
  | none => rfl
  | some vs => simp only [goP_E k hn (ns := []) (h.seq e).2]
theorem strDue_E (h : Tg K H G 3 x) (k : Kp ps H H1) (hn : ∀ a ∈ ps, a ∉ G) {many : Int} : strDue H1 x many = strDue H x many := by
  unfold strDue
  rw [h.seqE k hn]
  cases e : seqH H x with
  | none => rfl
  | some vs => simp only [goS_E k hn (h.seq e).2]
theorem longsDue_E (h : Tg K H G 3 x) (k : Kp ps H H1) (hn : ∀ a ∈ ps, a ∉ G) {many : Int} : longsDue H1 x many = longsDue H x many := by
  unfold longsDue
  rw [h.seqE k hn]
  cases e : seqH H x with
  | none => rfl
  | some vs => simp only [goL_E k hn (h.seq e).2]
/-! of a whole line -/
def manyH (H : Hp) (x : V) : Int := match seqH H x with | some vs => (vs.length : Int) | none => 0
def lineDue (H : Hp) (x y z : V) : Option (Str × V) := match placesDue H x with
  | some e => some e
  | none => match strDue H y (manyH H x - 1) with
    | some e => some e
    | none => longsDue H z (manyH H x)
theorem placesDue_seq (h : placesDue H x = none) : ∃ vs, seqH H x = some vs ∧ 2 ≤ vs.length ∧ vs.length ≤ 6 := by
  unfold placesDue at h
  cases e : seqH H x with
  | none => rw [e] at h; cases h
  | some vs =>
    rw [e] at h
    simp only at h
    split at h
    · exact ⟨vs, rfl, by assumption⟩
    · cases h
theorem strDue_seq {many : Int} (h : strDue H x many = none) : ∃ vs, seqH H x = some vs ∧ (vs.length : Int) = many := by
  unfold strDue at h
  cases e : seqH H x with
  | none => rw [e] at h; cases h
  | some vs =>
    rw [e] at h
    simp only at h
    split at h
    · exact ⟨vs, rfl, by assumption⟩
    · cases h
theorem longsDue_seq {many : Int} (h : longsDue H x many = none) : x = .non ∨ ∃ vs, seqH H x = some vs ∧ vs.length ≤ 2 := by
  unfold longsDue at h
  split at h
  · exact Or.inl (by assumption)
  cases e : seqH H x with
  | none => rw [e] at h; cases h
  | some vs =>
    rw [e] at h
    simp only at h
    split at h
    · exact Or.inr ⟨vs, rfl, by assumption⟩
    · cases h
end
theorem cl_c {T : Tx K mg} {c c' : Str} {y y' : V} {H : Hp} {E : XK} (e : (some (c, y) : Option (Str × V)) = some (c', y')) (h : ErF "found" (cl T c) y H E) : ErF "found" (cl T c') y' H E := by cases e; exact h
/-- an error that leaves a new object's __init__ -/
def ErP (p : Addr) (C : Addr) (y : V) (H : Hp) (E : XK) : Prop := ∀ d H', H d = none → H' d = some (.xd [("found", y)]) → Kp [p] H H' → E (.ref C) (some d) H'
def sp_Line_init (T : Tx K mg) : Sp := sp4 fun s x y z H Q E => ∃ (p dx : Addr) (G : List Addr), s = .ref p ∧ H p = some (.ins T.C_Line dx []) ∧ p ∉ G ∧ Tg K H G 3 x ∧ Tg K H G 3 y ∧ Tg K H G 3 z ∧
  (∀ c w, lineDue H x y z = some (c, w) → ErP p (cl T c) w H E) ∧
  (lineDue H x y z = none → ∀ tp ts tl vp vs vl H', At_Line T H' p (.ref tp) (.ref ts) (.ref tl) → seqH H x = some vp → H' tp = some (.tup vp) → seqH H y = some vs → H' ts = some (.tup vs) → ((z = .non ∧ vl = []) ∨ (z ≠ .non ∧ seqH H z = some vl)) → H' tl = some (.tup vl) → Kp [p] H H' → Q .non H')
set_option maxHeartbeats 16000000 in
theorem ok_Line_init (T : Tx K mg) : FnOk P w K mg base (L2.CX P w) 4 T.a_Line_init T.d_Line_init ["self", "places", "stretches", "longs"] (sp_Line_init T) := by
  have G_good_places := ok_good_places (P := P) (w := w) (base := base) T
  have G_good_stretches := ok_good_stretches (P := P) (w := w) (base := base) T
  have G_good_longs := ok_good_longs (P := P) (w := w) (base := base) T
  refine funN_okX T.F_Line_init sc_Line_init (fun vs H Q E h => ?_) (fun cd A o s H vs Q E hr h => ?_)
  · obtain ⟨v0, v1, v2, v3, rfl, h⟩ := h; rfl
  obtain ⟨v0, v1, v2, v3, rfl, h⟩ := h
  obtain ⟨p, dx, G, rfl, hp, np, hx, hy, hz, kE, k⟩ := h
  refine ⟨_, (pss_cons (ps_fd (K := K) rfl (pv 0) (pe_co G_good_places (hr.mono (by decide)) rfl T.m_good_places T.F_good_places.kp T.B_good_places (takes_of (E := E) rfl rfl rfl rfl) (pa_cons (pv 1) pa_nil)) rfl)
    (pss_cons (ps_fd (K := K) rfl (pv 0) (pe_co G_good_stretches (hr.mono (by decide)) rfl T.m_good_stretches T.F_good_stretches.kp T.B_good_stretches (takes_of (E := E) rfl rfl rfl rfl) (pa_cons (pv 2) (pa_cons (pe_op o_sub (pe_callB (c_len (K := K) rfl) rfl T.z_len bt_len (pa_cons (pe_fd (K := K) rfl (pv 0) rfl) pa_nil)) pe_int) pa_nil))) rfl)
    (pss_one (ps_fd (K := K) rfl (pv 0) (pe_co G_good_longs (hr.mono (by decide)) rfl T.m_good_longs T.F_good_longs.kp T.B_good_longs (takes_of (E := E) rfl rfl rfl rfl) (pa_cons (pv 3) (pa_cons (pe_callB (c_len (K := K) rfl) rfl T.z_len bt_len (pa_cons (pe_fd (K := K) rfl (pv 0) rfl) pa_nil)) pa_nil))) rfl)))), ?_⟩
  rw [st_Line_init]
  have hn : ∀ a ∈ [p], a ∉ G := by simpa using np
  have toE : ∀ {C w H1}, (∀ d H', H d = none → H' d = some (.xd [("found", w)]) → Kp [p] H H' → E (.ref C) (some d) H') → Kp [p] H H1 → ErF "found" C w H1 E := fun h k1 d H' fd ed k' => h d H' (k1.dom d fd) ed (k1.trans k'.nil)
  walk_at "u"
  refine ⟨_, rfl, G, hx, fun c w e => ?_, fun eP vp es tp H1 etp k1 => ?_⟩
  · exact toE (kE c w (by unfold lineDue; rw [e])) Kp.refl
  walk_at "u"
  refine i_Line_kept_places (by walk_at "g") fun H2 e2 k2 => ?_
  have z02 : Kz [p] H H2 := ⟨by walk_at "k"⟩
  walk_at "u"
  refine s_fdk e2 T.cl_Line T.na_Line_kept_places rfl ?_
  walk_at "u"
  refine s_lent (by walk_at "gt") ?_
  walk_at "u"
  have eM : manyH H v1 = (vp.length : Int) := by unfold manyH; rw [es]
  refine ⟨_, _, rfl, G, _, rfl, hy.kpn z02.k hn, fun c w e => ?_, fun eS vs es2 ts H3 ets k3 => ?_⟩
  · rw [strDue_E hy z02.k hn] at e
    exact toE (kE c w (by unfold lineDue; rw [eP]; simp only; rw [eM, e])) z02.k
  rw [strDue_E hy z02.k hn] at eS
  rw [hy.seqE z02.k hn] at es2
  walk_at "u"
  refine i_Line_kept_stretches (by walk_at "g") fun H4 e4 k4 => ?_
  have z04 : Kz [p] H H4 := ⟨by walk_at "k"⟩
  walk_at "u"
  refine s_fdk e4 T.cl_Line T.na_Line_kept_places rfl ?_
  walk_at "u"
  refine s_lent (by walk_at "gt") ?_
  walk_at "u"
  have eL : lineDue H v1 v2 v3 = longsDue H v3 (vp.length : Int) := by
    unfold lineDue
    rw [eP]
    simp only
    rw [eM, eS]
  refine ⟨_, _, rfl, G, _, rfl, hz.kpn z04.k hn, fun en tl H5 etl k5 => ?_, fun c w e => ?_, fun eN vl es3 tl H5 etl k5 => ?_⟩
  · walk_at "u"
    refine i_Line_kept_longs (by walk_at "g") fun H6 e6 k6 => ?_
    walk_at "u"
    refine k (by rw [eL, en]; unfold longsDue; rw [if_pos rfl]) tp ts tl vp vs [] H6 ⟨_, e6⟩ es (by walk_at "gt") es2 (by walk_at "gt") (Or.inl ⟨en, rfl⟩) (by walk_at "gt") ?_
    walk_at "k"
  · rw [longsDue_E hz z04.k hn] at e
    exact toE (kE c w (eL.trans e)) z04.k
  · rw [longsDue_E hz z04.k hn] at eN
    rw [hz.seqE z04.k hn] at es3
    walk_at "u"
    refine i_Line_kept_longs (by walk_at "g") fun H6 e6 k6 => ?_
    walk_at "u"
    refine k (eL.trans eN) tp ts tl vp vs vl H6 ⟨_, e6⟩ es (by walk_at "gt") es2 (by walk_at "gt") (Or.inr ⟨fun z => ?_, es3⟩) (by walk_at "gt") ?_
    · subst z
      cases es3
    · walk_at "k"
theorem c_LineX {T : Tx K mg} {H : Hp} {x y z : V} {G : List Addr} {Q : VK} {E : XK} (hx : Tg K H G 3 x) (hy : Tg K H G 3 y) (hz : Tg K H G 3 z) (hG : ∀ a ∈ G, ∃ i, Th H a i)
    (kE : ∀ c w, lineDue H x y z = some (c, w) → ErF "found" (cl T c) w H E)
    (k : lineDue H x y z = none → ∀ p tp ts tl vp vs vl H', At_Line T H' p (.ref tp) (.ref ts) (.ref tl) → seqH H x = some vp → H' tp = some (.tup vp) → seqH H y = some vs → H' ts = some (.tup vs) → ((z = .non ∧ vl = []) ∨ (z ≠ .non ∧ seqH H z = some vl)) → H' tl = some (.tup vl) → Kp [] H H' → Q (.ref p) H') :
    NewK T.C_Line (sp_Line_init T) E Q [x, y, z] H := fun p dx H1 f e k1 => by
  have np : p ∉ G := fun m => by obtain ⟨i, hi⟩ := hG p m; exact hi.ne f rfl
  have n0 : ∀ a ∈ ([] : List Addr), a ∉ G := by simp
  have eD : lineDue H1 x y z = lineDue H x y z := by
    unfold lineDue manyH
    rw [placesDue_E hx k1 n0, hx.seqE k1 n0, strDue_E hy k1 n0, longsDue_E hz k1 n0]
  refine ⟨_, _, _, _, rfl, p, dx, G, rfl, e, np, hx.kp k1, hy.kp k1, hz.kp k1, fun c w ed => ?_, fun ed tp ts tl vp vs vl H2 hL s1 e1 s2 e2 s3 e3 k2 => ?_⟩
  · intro d H' fd ed' k'
    exact kE c w (eD.symm.trans ed) d H' (k1.dom d fd) ed' (Kp.step k1 k' (by simpa using f))
  · rw [hx.seqE k1 n0] at s1
    rw [hy.seqE k1 n0] at s2
    rw [hz.seqE k1 n0] at s3
    exact ⟨rfl, k (eD.symm.trans ed) p tp ts tl vp vs vl H2 hL s1 e1 s2 e2 s3 e3 (Kp.step k1 k2 (by simpa using f))⟩
def sp_Line_told (T : Tx K mg) : Sp := sp1 fun s H Q _ => ∃ (p : Addr) (a b c : V), s = .ref p ∧ At_Line T H p a b c ∧ ∀ t H', H' t = some (.tup [a, b, c]) → Kp [] H H' → Q (.ref t) H'
set_option maxHeartbeats 16000000 in
theorem ok_Line_told (T : Tx K mg) : FnOk P w K mg base (L2.CX P w) 1 T.a_Line_told T.d_Line_told ["self"] (sp_Line_told T) := by
  refine T.F_Line_told.okX sc_Line_told (fun vs H Q E h => ?_) (fun cd A o s H vs Q E hr h => ?_)
  · obtain ⟨v0, rfl, h⟩ := h; rfl
  obtain ⟨v0, rfl, h⟩ := h
  obtain ⟨p, a, b, c, rfl, hL, k⟩ := h
  refine ⟨_, (pss_one (ps_ret (pe_tup (pa_cons (pe_fd (K := K) rfl (pv 0) rfl) (pa_cons (pe_fd (K := K) rfl (pv 0) rfl) (pa_cons (pe_fd (K := K) rfl (pv 0) rfl) pa_nil)))))), ?_⟩
  rw [st_Line_told]
  walk_at "u"
  walk_at "na"
  intro t H1 f1 e1 k1
  walk_at "u"
  exact k t H1 e1 k1

/-! the law's own looking -/
theorem let_ssL : ∀ c ∈ letters.cps.toList, c < 1114112 := by decide +kernel
theorem filt_empty {α : Type} {p : α → Bool} : ∀ xs : List α, (xs.filter fun c => !p c).isEmpty = xs.all p
  | [] => rfl
  | x :: xs => by
    cases h : p x with
    | true => rw [List.filter_cons_of_neg (by simp [h]), List.all_cons, h, Bool.true_and]; exact filt_empty xs
    | false => rw [List.filter_cons_of_pos (by simp [h]), List.all_cons, h]; rfl
theorem not_dec {p : Prop} [Decidable p] (h : ¬ p) : (!decide p) = true := by rw [decide_eq_false h]; rfl
theorem not_dec2 {p : Prop} [Decidable p] (h : p) : ¬ (!decide p) = true := by rw [decide_eq_true h]; simp
def sp_law_is_name : Sp := sp1 fun x H Q _ => ∃ t, TyN H x t ∧ Small x ∧ ∀ H', Kp [] H H' → Q (.bl (isName x)) H'
set_option maxHeartbeats 16000000 in
theorem ok_law_is_name (T : Tx K mg) : FnOk P w K mg base (L2.CX P w) 1 T.a_law_is_name T.d_law_is_name ["_law_thing"] (sp_law_is_name) := by
  refine T.F_law_is_name.okX sc_law_is_name (fun vs H Q E h => ?_) (fun cd A o s H vs Q E hr h => ?_)
  · obtain ⟨v0, rfl, h⟩ := h; rfl
  obtain ⟨v0, rfl, h⟩ := h
  obtain ⟨t, ht, hz, k⟩ := h
  refine ⟨_, (pss_cons (ps_set (i := 1) sc_law_is_name.nd rfl (Or.inr rfl) pe_str)
    (pss_one (ps_ret (pe_and (pe_callB (c_isi (K := K) rfl) rfl T.z_isinstance bt_isinstance (pa_cons (pv 0) (pa_cons (pe_ty rfl T.z_str bt_str) pa_nil))) (pe_and (pe_chain o_lt o_lt pe_int (pe_callB (c_len (K := K) rfl) rfl T.z_len bt_len (pa_cons (pv 0) pa_nil)) pe_int) (pe_one (pe_cmpR (o_eq (K := K) rfl hr) (pe_lc (own := [("_law_sign", 2)]) rfl sc_law_is_name.nd (pi_str (pv 0)) (blkOk_by (own := [("_law_sign", 2)]) (N := N_law_is_name) (sc := defScope s_law_is_name) (by decide +kernel)) (fun _ _ _ _ _ => (pg_name (i := 2) sc_law_is_name.nd rfl (Or.inl rfl))) (fun _ _ _ _ _ => (pts_one (pt_cmpR (o_notin (K := K) rfl) (pv 2) (pv 1) rfl))) (fun _ _ _ _ _ => (pv 2))) (pe_lst pa_nil) (nomark _)))))))), ?_⟩
  rw [st_law_is_name]
  cases ht <;> walk_at "u"
  all_goals try exact k _ Kp.refl
  rename_i z
  obtain ⟨hl, hz2⟩ : SS z 50000 := hz
  have e2 : isName (V.str z) = (decide (1 ≤ z.length ∧ z.length ≤ 6) && z.cps.toList.all fun c => decide (c ∈ letters.cps.toList)) := rfl
  have no : ¬ (1 ≤ z.length ∧ z.length ≤ 6) → Q (.bl false) H := fun h => by
    have q := k H Kp.refl
    rw [e2, decide_eq_false h, Bool.false_and] at q
    exact q
  refine s_lens (zle (by omega)) ?_
  walk_at "u"
  refine s_ite (fun h1 => ?_) (fun h1 => ?_)
  rotate_left
  · walk_at "u"
    exact no (by omega)
  walk_at "u"
  refine s_ite (fun h2 => ?_) (fun h2 => ?_)
  rotate_left
  · exact no (by omega)
  walk_at "u"
  intro D hD
  refine lc_it walk_str (PvD D fun i acc H' => Kp [D] H H' ∧ acc = ((z.cps.toList.take i).filter fun c => !decide (c ∈ letters.cps.toList)).map fun c => V.str ⟨#[c]⟩) (PvD.begin hD fun H7 e7 k7 => ⟨by walk_at "k", rfl⟩) (fun _ _ _ _ => trivial) ?_ ?_
  · rintro i x H1 H2 hi ⟨acc, e, kp, rfl⟩ ⟨rfl, c, hc, rfl⟩
    have ec : (z.cps.toList)[i]? = some c := by simpa using hc
    walk_at "u"
    refine ⟨rfl, ?_⟩
    walk_at "u"
    refine s_itn (fun h3 => ?_) (fun h3 => ?_)
    · walk_at "u"
      refine PvD.add e ?_ fun H9 e9 k9 => ⟨by walk_at "k", ?_⟩
      · rw [List.length_map]
        have := List.length_filter_le (fun c => !decide (c ∈ letters.cps.toList)) (z.cps.toList.take i)
        rw [List.length_take] at this
        have : i < z.length := hi
        omega
      · rw [take_one ec, List.filter_append, List.map_append, List.filter_cons_of_pos (p := fun c => !decide (c ∈ letters.cps.toList)) (not_dec h3)]
        rfl
    · walk_at "u"
      refine ⟨_, e, by walk_at "k", ?_⟩
      rw [take_one ec, List.filter_append, List.filter_cons_of_neg (p := fun c => !decide (c ∈ letters.cps.toList)) (not_dec2 h3)]
      simp
  · rintro H2 ⟨acc, e, kp, rfl⟩
    rw [List.take_of_length_le (by simp)] at e
    have z2 : Kz [] H H2 := ⟨kp.drop hD⟩
    walk_at "u"
    walk_at "na"
    intro r H3 f3 e3 k3
    refine s_eqNil (zs := (z.cps.toList.filter fun c => !decide (c ∈ letters.cps.toList)).map fun c => ⟨#[c]⟩) (by rw [List.map_map]; walk_at "g") e3 ?_ ?_
    · intro y hy c hc
      obtain ⟨d, hd, rfl⟩ := List.mem_map.mp hy
      have : c = d := by simpa using hc
      subst this
      exact hz2 c (List.mem_filter.mp hd).1
    obtain ⟨z2⟩ := z2
    rw [List.isEmpty_map, filt_empty]
    have q := k _ (z2.trans k3)
    rw [e2, decide_eq_true (by omega), Bool.true_and] at q
    exact q
def sp_law_whole : Sp := sp3 fun x y z H Q _ => ∃ (lo hi : Int) (t : Kd), y = .int lo ∧ z = .int hi ∧ TyN H x t ∧ Q (.bl (isWhole x lo hi)) H
set_option maxHeartbeats 16000000 in
theorem ok_law_whole (T : Tx K mg) : FnOk P w K mg base (L2.CX P w) 1 T.a_law_whole T.d_law_whole ["_law_thing", "_law_low", "_law_high"] (sp_law_whole) := by
  refine T.F_law_whole.okX sc_law_whole (fun vs H Q E h => ?_) (fun cd A o s H vs Q E hr h => ?_)
  · obtain ⟨v0, v1, v2, rfl, h⟩ := h; rfl
  obtain ⟨v0, v1, v2, rfl, h⟩ := h
  obtain ⟨lo, hi, t, rfl, rfl, ht, k⟩ := h
  refine ⟨_, (pss_one (ps_ret (pe_and (pe_callB (c_isi (K := K) rfl) rfl T.z_isinstance bt_isinstance (pa_cons (pv 0) (pa_cons (pe_ty rfl T.z_int bt_int) pa_nil))) (pe_and (pe_not (pe_callB (c_isi (K := K) rfl) rfl T.z_isinstance bt_isinstance (pa_cons (pv 0) (pa_cons (pe_ty rfl T.z_bool bt_bool) pa_nil)))) (pe_one (pe_chain o_le o_le (pv 1) (pv 0) (pv 2))))))), ?_⟩
  rw [st_law_whole]
  cases ht <;> walk_at "u"
  all_goals try exact k
  rename_i i
  refine s_ite (fun h1 => ?_) (fun h1 => ?_)
  · walk_at "u"
    have e : isWhole (V.int i) lo hi = (decide (lo ≤ i) && decide (i ≤ hi)) := rfl
    rw [e, decide_eq_true h1, Bool.true_and] at k
    exact k
  · have e : isWhole (V.int i) lo hi = (decide (lo ≤ i) && decide (i ≤ hi)) := rfl
    rw [e, decide_eq_false h1, Bool.false_and] at k
    exact k
theorem c_lwhole {x : V} {t : Kd} {lo hi : Int} {H : Hp} {Q : VK} {E : XK} (ty : TyN H x t) (q : Q (.bl (isWhole x lo hi)) H) : sp_law_whole [x, .int lo, .int hi] H Q E := ⟨_, _, _, rfl, lo, hi, t, rfl, rfl, ty, q⟩
def sp_law_is_row : Sp := sp2 fun x y H Q _ => ∃ (t : Kd) (n : Int), y = .int n ∧ TyN H x t ∧ Q (.bl (isRow H x n)) H
set_option maxHeartbeats 16000000 in
theorem ok_law_is_row (T : Tx K mg) : FnOk P w K mg base (L2.CX P w) 1 T.a_law_is_row T.d_law_is_row ["_law_thing", "_law_size"] (sp_law_is_row) := by
  refine T.F_law_is_row.okX sc_law_is_row (fun vs H Q E h => ?_) (fun cd A o s H vs Q E hr h => ?_)
  · obtain ⟨v0, v1, rfl, h⟩ := h; rfl
  obtain ⟨v0, v1, rfl, h⟩ := h
  obtain ⟨t, n, rfl, ty, k⟩ := h
  refine ⟨_, (pss_one (ps_ret (pe_and (pe_callB (c_isi (K := K) rfl) rfl T.z_isinstance bt_isinstance (pa_cons (pv 0) (pa_cons (pe_ty rfl T.z_tuple bt_tuple) pa_nil))) (pe_one (pe_cmpR (o_eq (K := K) rfl hr) (pe_callB (c_len (K := K) rfl) rfl T.z_len bt_len (pa_cons (pv 0) pa_nil)) (pv 1) (nomark _)))))), ?_⟩
  rw [st_law_is_row]
  rcases rowH_cases ty with ⟨rfl, a, xs, rfl, ea, er⟩ | ⟨hn, er⟩
  · walk_at "u"
    refine s_lent ea ?_
    walk_at "u"
    unfold isRow at k
    rw [er] at k
    exact k
  · unfold isRow at k
    rw [er] at k
    cases ty <;> walk_at "u"
    all_goals first
      | exact k
      | exact (hn rfl).elim
theorem c_lrow {x : V} {t : Kd} {n : Int} {H : Hp} {Q : VK} {E : XK} (ty : TyN H x t) (q : Q (.bl (isRow H x n)) H) : sp_law_is_row [x, .int n] H Q E := ⟨_, _, rfl, t, n, rfl, ty, q⟩
def Dt (due : Option (Str × V)) (H : Hp) (Q : VK) : Prop := (∀ c w, due = some (c, w) → ∀ u H', H' u = some (.tup [.str c, w]) → Kp [] H H' → Q (.ref u) H') ∧ (due = none → ∀ H', Kp [] H H' → Q .non H')
def sp_law_places_due (K : PySem.W.Frag) : Sp := sp1 fun x H Q _ => ∃ G, Tg K H G 3 x ∧ Dt (placesDue H x) H Q
set_option maxHeartbeats 16000000 in
theorem ok_law_places_due (T : Tx K mg) : FnOk P w K mg base (L2.CX P w) 2 T.a_law_places_due T.d_law_places_due ["_law_places"] (sp_law_places_due K) := by
  have G_law_is_row := ok_law_is_row (P := P) (w := w) (base := base) T
  have G_law_is_name := ok_law_is_name (P := P) (w := w) (base := base) T
  have G_law_whole := ok_law_whole (P := P) (w := w) (base := base) T
  refine T.F_law_places_due.okX sc_law_places_due (fun vs H Q E h => ?_) (fun cd A o s H vs Q E hr h => ?_)
  · obtain ⟨v0, rfl, h⟩ := h; rfl
  obtain ⟨v0, rfl, h⟩ := h
  obtain ⟨G, hT, kE, k⟩ := h
  refine ⟨_, (pss_cons (ps_if (PW.pt (pw_or (pt_not (pt_val (pe_callB (c_isiT (K := K) rfl) rfl T.z_isinstance bt_isinstance (pa_cons (pv 0) (pa_cons (pe_tup (pa_cons (pe_ty rfl T.z_list bt_list) (pa_cons (pe_ty rfl T.z_tuple bt_tuple) pa_nil))) pa_nil))))) (pw_or1 (pt_not (pt_chain o_le o_le pe_int (pe_callB (c_len (K := K) rfl) rfl T.z_len bt_len (pa_cons (pv 0) pa_nil)) pe_int)))))
    (pss_one (ps_ret (pe_tup (pa_cons pe_str (pa_cons (pv 0) pa_nil)))))
    pss_nil)
    (pss_cons (ps_set (i := 1) sc_law_places_due.nd rfl (Or.inl rfl) (pe_lst pa_nil))
    (pss_cons (ps_for PassesOwn.leaving rfl (pi_seq (K := K) rfl (pv 0)) (pg_name (i := 2) sc_law_places_due.nd rfl (Or.inl rfl))
    (pss_cons (ps_if (pt_not (pt_val (pe_co G_law_is_row (hr.mono (by decide)) rfl T.m_law_is_row T.F_law_is_row.kp T.B_law_is_row (takes_of (E := E) rfl rfl rfl rfl) (pa_cons (pv 2) (pa_cons pe_int pa_nil)))))
    (pss_one (ps_ret (pe_tup (pa_cons pe_str (pa_cons (pv 2) pa_nil)))))
    pss_nil)
    (pss_cons (ps_if (pt_not (pt_val (pe_co G_law_is_name (hr.mono (by decide)) rfl T.m_law_is_name T.F_law_is_name.kp T.B_law_is_name (takes_of (E := E) rfl rfl rfl rfl) (pa_cons (pe_ix (ix_u (K := K) rfl) (pv 2) pe_int (fun _ _ => rfl)) pa_nil))))
    (pss_one (ps_ret (pe_tup (pa_cons pe_str (pa_cons (pe_ix (ix_u (K := K) rfl) (pv 2) pe_int (fun _ _ => rfl)) pa_nil)))))
    pss_nil)
    (pss_cons (ps_if (pt_cmpR (o_in (K := K) rfl) (pe_ix (ix_u (K := K) rfl) (pv 2) pe_int (fun _ _ => rfl)) (pv 1) rfl)
    (pss_one (ps_ret (pe_tup (pa_cons pe_str (pa_cons (pe_ix (ix_u (K := K) rfl) (pv 2) pe_int (fun _ _ => rfl)) pa_nil)))))
    pss_nil)
    (pss_cons (ps_if (pt_not (pt_val (pe_co G_law_whole (hr.mono (by decide)) rfl T.m_law_whole T.F_law_whole.kp T.B_law_whole (takes_of (E := E) rfl rfl rfl rfl) (pa_cons (pe_ix (ix_u (K := K) rfl) (pv 2) pe_int (fun _ _ => rfl)) (pa_cons pe_int (pa_cons pe_int pa_nil))))))
    (pss_one (ps_ret (pe_tup (pa_cons pe_str (pa_cons (pe_ix (ix_u (K := K) rfl) (pv 2) pe_int (fun _ _ => rfl)) pa_nil)))))
    pss_nil)
    (pss_one (ps_expr (pe_bm PySem.F.plainAttrs_list PySem.F.slot_list_append PySem.F.type_list_append mt_append (pv 1) (pa_cons (pe_ix (ix_u (K := K) rfl) (pv 2) pe_int (fun _ _ => rfl)) pa_nil)))))))))
    (pss_one (ps_ret pe_non))))), ?_⟩
  rw [st_law_places_due]
  obtain ⟨⟨t, ty⟩, _⟩ := hT.ty
  walk_at "u"
  walk_at "na"
  intro l0 H0 f0 e0 k0
  walk_at "u"
  refine s_isSeq (ty.kp k0) e0 ?_
  walk_at "u"
  rcases seqH_cases ty with ⟨hs, a, vs, rfl, ea, es⟩ | ⟨hs, es⟩
  rotate_left
  · rw [hs]
    walk_at "u"
    walk_at "na"
    intro u1 H1 f1 e1 k1
    walk_at "u"
    exact kE "places" _ (by unfold placesDue; rw [es]) u1 H1 e1 (by walk_at "k")
  rw [hs]
  obtain ⟨l12, hx⟩ := hT.seq es
  have ea0 := sq_kp ea k0
  walk_at "u"
  refine s_lenq ea0 ?_
  walk_at "u"
  have bad : ¬ (2 ≤ vs.length ∧ vs.length ≤ 6) → ∀ u H', H' u = some (.tup [.str "places", .ref a]) → Kp [] H H' → Q (.ref u) H' := fun h => kE "places" _ (by unfold placesDue; rw [es]; simp only; rw [if_neg h])
  refine s_ite (fun h1 => ?_) (fun h1 => ?_)
  rotate_left
  · walk_at "u"
    walk_at "na"
    intro u1 H1 f1 e1 k1
    walk_at "u"
    exact bad (by omega) u1 H1 e1 (by walk_at "k")
  walk_at "u"
  refine s_itn (fun h2 => ?_) (fun h2 => ?_)
  · walk_at "u"
    walk_at "na"
    intro u1 H1 f1 e1 k1
    walk_at "u"
    exact bad (by omega) u1 H1 e1 (by walk_at "k")
  have eD : placesDue H (.ref a) = goP H [] vs := by
    unfold placesDue
    rw [es]
    simp only
    rw [if_pos (by omega)]
  rw [eD] at kE k
  walk_at "u"
  walk_at "na"
  intro l1 H1 f1 e1 k1
  have z1 : Kz [] H H1 := ⟨by walk_at "k"⟩
  have ea1 := sq_kp ea0 k1
  have f10 : H l1 = none := by walk_at "f"
  have nl : a ≠ l1 := by
    rcases ea0 with h | h <;> exact ne_of_none h f1
  clear k1 k0 ea0 f1 f0 e0
  obtain ⟨z1⟩ := z1
  have fz : Fz H l1 := ⟨f10⟩
  clear f10
  walk_at "u"
  refine for_sq ea1 (fun i σ H' => Kp [] H H' ∧ Kp [l1] H1 H' ∧ (∃ ns : List Str, H' l1 = some (.lst (ns.map V.str)) ∧ ns.length = i ∧ goP H [] vs = goP H ns (vs.drop i)) ∧ ∃ u2, σ = [some (.ref a), some (.ref l1), u2]) ⟨z1, Kp.refl, ⟨[], e1, rfl, by simp⟩, _, rfl⟩ (fun i σ' H' q o e => q.2.1.get1 e nl) ?_ ?_
  · rintro i x σ H2 ex ⟨k2, k12, ⟨ns, el, ln, hg⟩, u2, rfl⟩
    have z2 := k2
    have z12 : Kz [l1] H1 H2 := ⟨k12⟩
    clear k12 k2
    obtain ⟨hi, rfl⟩ := List.getElem?_eq_some_iff.mp ex
    have hv := hx _ (List.getElem_mem hi)
    rw [List.drop_eq_getElem_cons hi] at hg
    generalize vs[i] = v at *
    obtain ⟨⟨tv, tyv⟩, _⟩ := hv.ty
    have err : ∀ c y, goP H ns (v :: vs.drop (i + 1)) = some (c, y) → ∀ u H', H' u = some (.tup [.str c, y]) → Kp [] H H' → Q (.ref u) H' := fun c y h => kE c y (hg.trans h)
    walk_at "u"
    refine c_lrow (tyv.kp z2) ?_
    rw [isRow_kp tyv z2]
    walk_at "u"
    cases hr2 : isRow H v 2 with
    | false =>
      walk_at "u"
      walk_at "na"
      intro u3 H3 f3 e3 k3
      walk_at "u"
      exact err _ _ (goP_no hr2) u3 H3 e3 (z2.trans k3)
    | true =>
    obtain ⟨u, xs, rfl, eu, l2, er⟩ := isRow_ex hr2
    obtain ⟨n, m, rfl⟩ : ∃ n m, xs = [n, m] := by
      match xs, l2 with
      | [n, m], _ => exact ⟨n, m, rfl⟩
    have hxs := (hv.row er).2
    obtain ⟨⟨tn, tyn⟩, smn⟩ := (hxs n (by simp)).ty
    obtain ⟨⟨tm, tym⟩, smm⟩ := (hxs m (by simp)).ty
    have eG := goP_row (ns := ns) (r := vs.drop (i + 1)) er
    have eu2 := z2.tgt eu
    walk_at "u"
    refine ⟨_, rfl, tn, tyn.kp z2, smn, fun H3 k3 => ?_⟩
    walk_at "u"
    cases hn : isName n with
    | false =>
      rw [hn, if_pos rfl] at eG
      walk_at "u"
      walk_at "na"
      intro u4 H4 f4 e4 k4
      walk_at "u"
      exact err _ _ eG u4 H4 e4 ((z2.trans k3).trans k4)
    | true =>
    obtain ⟨z, rfl⟩ := isName_str hn
    rw [hn, if_neg (by simp)] at eG
    simp only at eG
    walk_at "u"
    refine s_ite (fun hz => ?_) (fun hz => ?_)
    · rw [if_pos hz] at eG
      walk_at "u"
      walk_at "na"
      intro u4 H4 f4 e4 k4
      walk_at "u"
      exact err _ _ eG u4 H4 e4 ((z2.trans k3).trans k4)
    rw [if_neg hz] at eG
    walk_at "u"
    refine c_lwhole ((tym.kp z2).kp k3) ?_
    walk_at "u"
    cases hm : isWhole m 1 3 with
    | false =>
      rw [hm, if_pos rfl] at eG
      walk_at "u"
      walk_at "na"
      intro u4 H4 f4 e4 k4
      walk_at "u"
      exact err _ _ eG u4 H4 e4 ((z2.trans k3).trans k4)
    | true =>
    rw [hm, if_neg (by simp)] at eG
    walk_at "u"
    refine s_app (xs := ns.map V.str) (by walk_at "g") (zlt (by simp; omega)) fun H4 e4 k4 => ?_
    walk_at "u"
    exact ⟨Kp.step (z2.trans k3) k4 (by simpa using fz.f), (z12.k.trans k3.nil).trans k4, ⟨ns ++ [z], by rw [e4]; simp, by simp [ln], hg.trans eG⟩, _, rfl⟩
  · rintro σ H2 ⟨k2, k12, ⟨ns, el, ln, hg⟩, u2, rfl⟩
    rw [List.drop_of_length_le (Nat.le_refl _)] at hg
    walk_at "u"
    exact k (hg.trans rfl) H2 k2
theorem isLo_alt {H : Hp} {v b c : V} {a low high : Int} (e : rowH H v = some [.int a, b, c]) (h : isWhole (.int a) low high = true) : isLo H v low high = (isWhole b (a + 2) high && isWhole c 0 1) := by
  rw [isLo_row e, h, Bool.true_and]
  have h1 : low ≤ a := by
    obtain ⟨n, e, h1, _⟩ := whole_int h
    cases e
    exact h1
  cases b with
  | int b =>
    have e1 : isWhole (.int b) low high = (decide (low ≤ b) && decide (b ≤ high)) := rfl
    have e2 : isWhole (.int b) (a + 2) high = (decide (a + 2 ≤ b) && decide (b ≤ high)) := rfl
    have e3 : le2 (.int a) (.int b) = decide (a + 2 ≤ b) := rfl
    rw [e1, e2, e3]
    by_cases h2 : a + 2 ≤ b
    · rw [decide_eq_true h2, decide_eq_true (show low ≤ b by omega), Bool.true_and, Bool.true_and]
    · rw [decide_eq_false h2, Bool.false_and, Bool.false_and, Bool.false_and, Bool.and_false]
  | _ => rfl
def sp_law_due (K : PySem.W.Frag) : Sp := sp3 fun x y z H Q _ => ∃ G, Tg K H G 3 x ∧ Tg K H G 3 y ∧ Tg K H G 3 z ∧ Dt (lineDue H x y z) H Q
set_option maxHeartbeats 16000000 in
theorem ok_law_due (T : Tx K mg) : FnOk P w K mg base (L2.CX P w) 3 T.a_law_due T.d_law_due ["_law_places", "_law_stretches", "_law_longs"] (sp_law_due K) := by
  have G_law_places_due := ok_law_places_due (P := P) (w := w) (base := base) T
  have G_law_whole := ok_law_whole (P := P) (w := w) (base := base) T
  have G_law_is_row := ok_law_is_row (P := P) (w := w) (base := base) T
  refine T.F_law_due.okX sc_law_due (fun vs H Q E h => ?_) (fun cd A o s H vs Q E hr h => ?_)
  · obtain ⟨v0, v1, v2, rfl, h⟩ := h; rfl
  obtain ⟨v0, v1, v2, rfl, h⟩ := h
  obtain ⟨G, hx, hy, hz, kE, k⟩ := h
  refine ⟨_, (pss_cons (ps_set (i := 3) sc_law_due.nd rfl (Or.inl rfl) (pe_co G_law_places_due (hr.mono (by decide)) rfl T.m_law_places_due T.F_law_places_due.kp T.B_law_places_due (takes_of (E := E) rfl rfl rfl rfl) (pa_cons (pv 0) pa_nil)))
    (pss_cons (ps_if (pt_cmpR o_isnot (pv 3) pe_non (nomark _))
    (pss_one (ps_ret (pv 3)))
    pss_nil)
    (pss_cons (ps_if (PW.pt (pw_or (pt_not (pt_val (pe_callB (c_isiT (K := K) rfl) rfl T.z_isinstance bt_isinstance (pa_cons (pv 1) (pa_cons (pe_tup (pa_cons (pe_ty rfl T.z_list bt_list) (pa_cons (pe_ty rfl T.z_tuple bt_tuple) pa_nil))) pa_nil))))) (pw_or1 (pt_cmpR (o_ne (K := K) rfl hr) (pe_callB (c_len (K := K) rfl) rfl T.z_len bt_len (pa_cons (pv 1) pa_nil)) (pe_op o_sub (pe_callB (c_len (K := K) rfl) rfl T.z_len bt_len (pa_cons (pv 0) pa_nil)) pe_int) (nomark _)))))
    (pss_one (ps_ret (pe_tup (pa_cons pe_str (pa_cons (pv 1) pa_nil)))))
    pss_nil)
    (pss_cons (ps_for PassesOwn.leaving rfl (pi_seq (K := K) rfl (pv 1)) (pg_name (i := 4) sc_law_due.nd rfl (Or.inl rfl))
    (pss_cons (ps_if (PW.pt (pw_or (pt_not (pt_val (pe_co G_law_is_row (hr.mono (by decide)) rfl T.m_law_is_row T.F_law_is_row.kp T.B_law_is_row (takes_of (E := E) rfl rfl rfl rfl) (pa_cons (pv 4) (pa_cons pe_int pa_nil))))) (pw_or (pt_not (pt_val (pe_callB (c_isi (K := K) rfl) rfl T.z_isinstance bt_isinstance (pa_cons (pe_ix (ix_u (K := K) rfl) (pv 4) pe_int (fun _ _ => rfl)) (pa_cons (pe_ty rfl T.z_str bt_str) pa_nil))))) (pw_or1 (pt_cmpR (o_notin (K := K) rfl) (pe_ix (ix_u (K := K) rfl) (pv 4) pe_int (fun _ _ => rfl)) (pe_lst (pa_cons pe_str (pa_cons pe_str pa_nil))) rfl)))))
    (pss_one (ps_ret (pe_tup (pa_cons pe_str (pa_cons (pv 4) pa_nil)))))
    pss_nil)
    (pss_one (ps_if (pt_not (pt_val (pe_co G_law_whole (hr.mono (by decide)) rfl T.m_law_whole T.F_law_whole.kp T.B_law_whole (takes_of (E := E) rfl rfl rfl rfl) (pa_cons (pe_ix (ix_u (K := K) rfl) (pv 4) pe_int (fun _ _ => rfl)) (pa_cons pe_int (pa_cons pe_int pa_nil))))))
    (pss_one (ps_ret (pe_tup (pa_cons pe_str (pa_cons (pv 4) pa_nil)))))
    pss_nil))))
    (pss_cons (ps_if (PW.pt (pw_and (pt_cmpR o_isnot (pv 2) pe_non (nomark _)) (pw_and1 (PW.pt (pw_or (pt_not (pt_val (pe_callB (c_isiT (K := K) rfl) rfl T.z_isinstance bt_isinstance (pa_cons (pv 2) (pa_cons (pe_tup (pa_cons (pe_ty rfl T.z_list bt_list) (pa_cons (pe_ty rfl T.z_tuple bt_tuple) pa_nil))) pa_nil))))) (pw_or1 (pt_cmpR o_gt (pe_callB (c_len (K := K) rfl) rfl T.z_len bt_len (pa_cons (pv 2) pa_nil)) pe_int (nomark _))))))))
    (pss_one (ps_ret (pe_tup (pa_cons pe_str (pa_cons (pv 2) pa_nil)))))
    pss_nil)
    (pss_cons (ps_set (i := 5) sc_law_due.nd rfl (Or.inl rfl) pe_int)
    (pss_cons (ps_for PassesOwn.leaving rfl (pi_seq (K := K) rfl (pe_ifExp (pt_cmpR o_isnot (pv 2) pe_non (nomark _)) (pv 2) (pe_lst pa_nil))) (pg_name (i := 4) sc_law_due.nd rfl (Or.inl rfl))
    (pss_cons (ps_if (PW.pt (pw_or (pt_not (pt_val (pe_co G_law_is_row (hr.mono (by decide)) rfl T.m_law_is_row T.F_law_is_row.kp T.B_law_is_row (takes_of (E := E) rfl rfl rfl rfl) (pa_cons (pv 4) (pa_cons pe_int pa_nil))))) (pw_or1 (pt_not (pt_val (pe_co G_law_whole (hr.mono (by decide)) rfl T.m_law_whole T.F_law_whole.kp T.B_law_whole (takes_of (E := E) rfl rfl rfl rfl) (pa_cons (pe_ix (ix_u (K := K) rfl) (pv 4) pe_int (fun _ _ => rfl)) (pa_cons (pv 5) (pa_cons (pe_op o_sub (pe_callB (c_len (K := K) rfl) rfl T.z_len bt_len (pa_cons (pv 0) pa_nil)) pe_int) pa_nil)))))))))
    (pss_one (ps_ret (pe_tup (pa_cons pe_str (pa_cons (pv 4) pa_nil)))))
    pss_nil)
    (pss_cons (ps_if (PW.pt (pw_or (pt_not (pt_val (pe_co G_law_whole (hr.mono (by decide)) rfl T.m_law_whole T.F_law_whole.kp T.B_law_whole (takes_of (E := E) rfl rfl rfl rfl) (pa_cons (pe_ix (ix_u (K := K) rfl) (pv 4) pe_int (fun _ _ => rfl)) (pa_cons (pe_op (o_add (K := K) rfl) (pe_ix (ix_u (K := K) rfl) (pv 4) pe_int (fun _ _ => rfl)) pe_int) (pa_cons (pe_op o_sub (pe_callB (c_len (K := K) rfl) rfl T.z_len bt_len (pa_cons (pv 0) pa_nil)) pe_int) pa_nil)))))) (pw_or1 (pt_not (pt_val (pe_co G_law_whole (hr.mono (by decide)) rfl T.m_law_whole T.F_law_whole.kp T.B_law_whole (takes_of (E := E) rfl rfl rfl rfl) (pa_cons (pe_ix (ix_u (K := K) rfl) (pv 4) pe_int (fun _ _ => rfl)) (pa_cons pe_int (pa_cons pe_int pa_nil)))))))))
    (pss_one (ps_ret (pe_tup (pa_cons pe_str (pa_cons (pv 4) pa_nil)))))
    pss_nil)
    (pss_one (ps_set (i := 5) sc_law_due.nd rfl (Or.inl rfl) (pe_ix (ix_u (K := K) rfl) (pv 4) pe_int (fun _ _ => rfl)))))))
    (pss_one (ps_ret pe_non))))))))), ?_⟩
  rw [st_law_due]
  have n0 : ∀ a ∈ ([] : List Addr), a ∉ G := by simp
  walk_at "u"
  refine ⟨_, rfl, G, hx, fun c w e u H1 eu k1 => ?_, fun eP H1 k1 => ?_⟩
  · walk_at "u"
    exact kE c w (by unfold lineDue; rw [e]) u H1 eu k1
  obtain ⟨vp, es, l2, l6⟩ := placesDue_seq eP
  have eM : manyH H v0 = (vp.length : Int) := by unfold manyH; rw [es]
  obtain ⟨⟨t0, ty0⟩, _⟩ := hx.ty
  obtain ⟨_, a0, vp', rfl, ea0, es'⟩ : t0.isSeq = true ∧ ∃ a xs, v0 = .ref a ∧ (H a = some (.lst xs) ∨ H a = some (.tup xs)) ∧ seqH H v0 = some xs := by
    rcases seqH_cases ty0 with h | ⟨_, h⟩
    · exact h
    · rw [es] at h; cases h
  rw [es] at es'
  cases es'
  have hlen : ∀ {H1 : Hp}, Kp [] H H1 → ∀ Q : VK, Q (.int vp.length) H1 → uLen K [.ref a0] H1 Q := fun k1 Q q => s_lenq (sq_kp ea0 k1) q
  have eD : lineDue H (.ref a0) v1 v2 = match strDue H v1 ((vp.length : Int) - 1) with | some e => some e | none => longsDue H v2 (vp.length : Int) := by
    unfold lineDue
    rw [eP]
    simp only
    rw [eM]
    all_goals (cases strDue H v1 ((vp.length : Int) - 1) <;> rfl)
  obtain ⟨⟨t1, ty1⟩, _⟩ := hy.ty
  walk_at "u"
  walk_at "na"
  intro l2' H2 f2 e2 k2
  have k02 := k1.trans k2
  walk_at "u"
  refine s_isSeq (ty1.kp k02) e2 ?_
  walk_at "u"
  have badS : ∀ w, strDue H v1 ((vp.length : Int) - 1) = some (("stretches" : Str), w) → ∀ u H', H' u = some (.tup [.str "stretches", w]) → Kp [] H H' → Q (.ref u) H' := fun w e => kE "stretches" w (by rw [eD, e])
  rcases seqH_cases ty1 with ⟨hs, a, vs, rfl, ea, es1⟩ | ⟨hs, es1⟩
  rotate_left
  · rw [hs]
    walk_at "u"
    walk_at "na"
    intro u3 H3 f3 e3 k3
    walk_at "u"
    exact badS _ (by unfold strDue; rw [es1]) u3 H3 e3 (k02.trans k3)
  rw [hs]
  obtain ⟨l12, hvs⟩ := hy.seq es1
  walk_at "u"
  refine s_lenq (sq_kp ea k02) ?_
  walk_at "u"
  refine hlen k02 _ ?_
  walk_at "u"
  refine s_itn (fun h2 => ?_) (fun h2 => ?_)
  · walk_at "u"
    walk_at "na"
    intro u3 H3 f3 e3 k3
    walk_at "u"
    exact badS _ (by unfold strDue; rw [es1]; simp only; rw [if_neg h2]) u3 H3 e3 (k02.trans k3)
  have eS : strDue H (.ref a) ((vp.length : Int) - 1) = goS H vs := by
    unfold strDue
    rw [es1]
    simp only
    rw [if_pos h2]
  rw [eS] at badS eD
  clear k1 k2 e2 f2
  walk_at "u"
  refine for_sq (sq_kp ea k02) (fun i σ H' => Kp [] H H' ∧ Kp [] H2 H' ∧ goS H vs = goS H (vs.drop i) ∧ ∃ u4 u5, σ = [some (.ref a0), some (.ref a), some v2, some .non, u4, u5]) ⟨k02, Kp.refl, by simp, _, _, rfl⟩ (fun i σ' H' q o e => q.2.1.get0 e) ?_ ?_
  · rintro i x σ H3 ex ⟨k3, k23, hg, u4, u5, rfl⟩
    have z23 : Kz [] H2 H3 := ⟨k23⟩
    have z3 := k3
    clear k3 k23
    obtain ⟨hi, rfl⟩ := List.getElem?_eq_some_iff.mp ex
    have hv := hvs _ (List.getElem_mem hi)
    rw [List.drop_eq_getElem_cons hi] at hg
    generalize vs[i] = v at *
    obtain ⟨⟨tv, tyv⟩, _⟩ := hv.ty
    have err : isSt H v = false → ∀ u H', H' u = some (.tup [.str "stretches", v]) → Kp [] H H' → Q (.ref u) H' := fun h => badS v (by rw [hg]; unfold goS; rw [h]; rfl)
    walk_at "u"
    refine c_lrow (tyv.kp z3) ?_
    rw [isRow_kp tyv z3]
    walk_at "u"
    cases hr2 : isRow H v 2 with
    | false =>
      walk_at "u"
      walk_at "na"
      intro u6 H6 f6 e6 k6
      walk_at "u"
      exact err (isSt_no hr2) u6 H6 e6 (z3.trans k6)
    | true =>
    obtain ⟨u, xs, rfl, eu, l2, er⟩ := isRow_ex hr2
    obtain ⟨n, m, rfl⟩ : ∃ n m, xs = [n, m] := by
      match xs, l2 with
      | [n, m], _ => exact ⟨n, m, rfl⟩
    have hxs := (hv.row er).2
    obtain ⟨⟨tn, tyn⟩, smn⟩ := (hxs n (by simp)).ty
    obtain ⟨⟨tm, tym⟩, smm⟩ := (hxs m (by simp)).ty
    have eu3 := z3.tgt eu
    by_cases hz : ∃ z, n = .str z
    rotate_left
    · have hs := isSt_row2 er fun z e => hz ⟨z, e⟩
      have err := err hs
      cases tyn with
      | str => exact (hz ⟨_, rfl⟩).elim
      | non => walk_at "u"; walk_at "na"; intro u6 H6 f6 e6 k6; walk_at "u"; exact err u6 H6 e6 (z3.trans k6)
      | bl => walk_at "u"; walk_at "na"; intro u6 H6 f6 e6 k6; walk_at "u"; exact err u6 H6 e6 (z3.trans k6)
      | int => walk_at "u"; walk_at "na"; intro u6 H6 f6 e6 k6; walk_at "u"; exact err u6 H6 e6 (z3.trans k6)
      | lst e => have e := z3.get0 e; walk_at "u"; walk_at "na"; intro u6 H6 f6 e6 k6; walk_at "u"; exact err u6 H6 e6 (z3.trans k6)
      | tup e => have e := z3.get0 e; walk_at "u"; walk_at "na"; intro u6 H6 f6 e6 k6; walk_at "u"; exact err u6 H6 e6 (z3.trans k6)
      | dic e => have e := z3.get0 e; walk_at "u"; walk_at "na"; intro u6 H6 f6 e6 k6; walk_at "u"; exact err u6 H6 e6 (z3.trans k6)
    · obtain ⟨z, rfl⟩ := hz
      have hs := isSt_row er
      cases tyn
      walk_at "u"
      walk_at "na"
      intro l7 H7 f7 e7 k7
      refine s_ninS (zs := ["staff", "ticket"]) (SqL.of e7) ?_
      walk_at "u"
      refine s_itn (fun hd => ?_) (fun hd => ?_)
      · rw [decide_eq_false hd, Bool.false_and] at hs
        walk_at "u"
        walk_at "na"
        intro u8 H8 f8 e8 k8
        walk_at "u"
        exact err hs u8 H8 e8 ((z3.trans k7).trans k8)
      rw [decide_eq_true hd, Bool.true_and] at hs
      walk_at "u"
      refine c_lwhole ((tym.kp z3).kp k7) ?_
      walk_at "u"
      cases hm : isWhole m 0 1 with
      | false =>
        walk_at "u"
        walk_at "na"
        intro u8 H8 f8 e8 k8
        walk_at "u"
        exact err (hs.trans hm) u8 H8 e8 ((z3.trans k7).trans k8)
      | true =>
        walk_at "u"
        refine ⟨z3.trans k7, z23.k.trans k7, ?_, _, _, rfl⟩
        rw [hg]
        simp only [goS, hs.trans hm, if_true]
  · rintro σ H3 ⟨k3, k23, hg, u4, u5, rfl⟩
    rw [List.drop_of_length_le (Nat.le_refl _)] at hg
    have hg0 : goS H vs = none := hg
    rw [hg0] at eD
    simp only at eD
    rw [eD] at kE k
    clear k23
    have ea3 : ∀ {H1 : Hp}, Kp [] H3 H1 → ∀ Q : VK, Q (.int vp.length) H1 → uLen K [.ref a0] H1 Q := fun k1 Q q => hlen (k3.trans k1) Q q
    by_cases hn : v2 = .non
    · subst hn
      walk_at "u"
      walk_at "na"
      intro l4 H4 f4 e4 k4
      walk_at "u"
      refine s_isqL e4 ?_
      refine for_L e4 (fun i σ H' => i = 0 ∧ H' = H4 ∧ σ = [some (.ref a0), some (.ref a), some .non, some .non, u4, some (.int 0)]) ⟨rfl, rfl, rfl⟩ (fun i σ' H' q o e => by rw [q.2.1]; exact e) ?_ ?_
      · rintro i x σ H5 ex _
        simp at ex
      · rintro σ H5 ⟨_, rfl, rfl⟩
        walk_at "u"
        exact k (by unfold longsDue; rw [if_pos rfl]) _ (k3.trans k4)
    have bad : ∀ w, longsDue H v2 (vp.length : Int) = some (("longs" : Str), w) → ∀ u H', H' u = some (.tup [.str "longs", w]) → Kp [] H H' → Q (.ref u) H' := fun w e => kE "longs" w e
    obtain ⟨⟨t2, ty2⟩, _⟩ := hz.ty
    walk_at "u"
    rw [decide_eq_false hn]
    walk_at "u"
    walk_at "na"
    intro l4 H4 f4 e4 k4
    have k04 := k3.trans k4
    walk_at "u"
    refine s_isSeq (ty2.kp k04) e4 ?_
    walk_at "u"
    rcases seqH_cases ty2 with ⟨hs2, b, vl, rfl, eb, es2⟩ | ⟨hs2, es2⟩
    rotate_left
    · rw [hs2]
      walk_at "u"
      walk_at "na"
      intro u5' H5 f5 e5 k5
      walk_at "u"
      exact bad _ (by unfold longsDue; rw [if_neg hn, es2]) u5' H5 e5 (k04.trans k5)
    rw [hs2]
    obtain ⟨l12b, hvl⟩ := hz.seq es2
    have eb4 := sq_kp eb k04
    walk_at "u"
    refine s_lenq eb4 ?_
    walk_at "u"
    refine s_ite (fun h4 => ?_) (fun h4 => ?_)
    · walk_at "u"
      walk_at "na"
      intro u5' H5 f5 e5 k5
      walk_at "u"
      exact bad _ (by unfold longsDue; rw [if_neg hn, es2]; simp only; rw [if_neg (by omega)]) u5' H5 e5 (k04.trans k5)
    have eL : longsDue H (.ref b) (vp.length : Int) = goL H ((vp.length : Int) - 1) 0 vl := by
      unfold longsDue
      rw [if_neg hn, es2]
      simp only
      rw [if_pos (by omega)]
    rw [eL] at bad k
    clear k4 e4 f4
    walk_at "u"
    refine for_sq eb4 (fun i σ H' => Kp [] H H' ∧ Kp [] H4 H' ∧ ∃ low, goL H ((vp.length : Int) - 1) 0 vl = goL H ((vp.length : Int) - 1) low (vl.drop i) ∧ ∃ u4, σ = [some (.ref a0), some (.ref a), some (.ref b), some .non, u4, some (.int low)]) ⟨k04, Kp.refl, 0, by simp, _, rfl⟩ (fun i σ' H' q o e => q.2.1.get0 e) ?_ ?_
    · rintro i x σ H5 ex ⟨k5, k45, low, hg, u4, rfl⟩
      have z45 : Kz [] H4 H5 := ⟨k45⟩
      have z5 := k5
      clear k5 k45
      obtain ⟨hi, rfl⟩ := List.getElem?_eq_some_iff.mp ex
      have hv := hvl _ (List.getElem_mem hi)
      rw [List.drop_eq_getElem_cons hi] at hg
      generalize vl[i] = v at *
      obtain ⟨⟨tv, tyv⟩, _⟩ := hv.ty
      have err : isLo H v low ((vp.length : Int) - 1) = false → ∀ u H', H' u = some (.tup [.str "longs", v]) → Kp [] H H' → Q (.ref u) H' := fun h => bad v (by rw [hg]; unfold goL; rw [h]; rfl)
      walk_at "u"
      refine c_lrow (tyv.kp z5) ?_
      rw [isRow_kp tyv z5]
      walk_at "u"
      cases hr2 : isRow H v 3 with
      | false =>
        walk_at "u"
        walk_at "na"
        intro u6 H6 f6 e6 k6
        walk_at "u"
        exact err (isLo_no hr2) u6 H6 e6 (z5.trans k6)
      | true =>
      obtain ⟨u, xs, rfl, eu, l2, er⟩ := isRow_ex hr2
      obtain ⟨x1, x2, x3, rfl⟩ : ∃ x1 x2 x3, xs = [x1, x2, x3] := by
        match xs, l2 with
        | [x1, x2, x3], _ => exact ⟨x1, x2, x3, rfl⟩
      have hxs := (hv.row er).2
      obtain ⟨⟨ta, tya⟩, _⟩ := (hxs x1 (by simp)).ty
      obtain ⟨⟨tb, tyb⟩, _⟩ := (hxs x2 (by simp)).ty
      obtain ⟨⟨tc, tyc⟩, _⟩ := (hxs x3 (by simp)).ty
      have eu5 := z5.tgt eu
      walk_at "u"
      refine hlen z5 _ ?_
      walk_at "u"
      refine c_lwhole (tya.kp z5) ?_
      walk_at "u"
      cases ha : isWhole x1 low ((vp.length : Int) - 1) with
      | false =>
        walk_at "u"
        walk_at "na"
        intro u6 H6 f6 e6 k6
        walk_at "u"
        exact err (by rw [isLo_row er, ha, Bool.false_and]) u6 H6 e6 (z5.trans k6)
      | true =>
      obtain ⟨ia, rfl, _, _⟩ := whole_int ha
      have alt := isLo_alt er ha
      walk_at "u"
      refine hlen z5 _ ?_
      walk_at "u"
      refine c_lwhole (tyb.kp z5) ?_
      walk_at "u"
      cases hb : isWhole x2 (ia + 2) ((vp.length : Int) - 1) with
      | false =>
        walk_at "u"
        walk_at "na"
        intro u6 H6 f6 e6 k6
        walk_at "u"
        exact err (by rw [alt, hb, Bool.false_and]) u6 H6 e6 (z5.trans k6)
      | true =>
      obtain ⟨ib, rfl, _, _⟩ := whole_int hb
      rw [hb, Bool.true_and] at alt
      walk_at "u"
      refine c_lwhole (tyc.kp z5) ?_
      walk_at "u"
      cases hc : isWhole x3 0 1 with
      | false =>
        walk_at "u"
        walk_at "na"
        intro u6 H6 f6 e6 k6
        walk_at "u"
        exact err (alt.trans hc) u6 H6 e6 (z5.trans k6)
      | true =>
        walk_at "u"
        refine ⟨z5, z45.k, ib, ?_, _, rfl⟩
        rw [hg]
        have : lowOf H (.ref u) = ib := by unfold lowOf; rw [er]
        simp only [goL, alt.trans hc, if_true, this]
    · rintro σ H5 ⟨k5, k45, low, hg, u4, rfl⟩
      rw [List.drop_of_length_le (Nat.le_refl _)] at hg
      walk_at "u"
      exact k (hg.trans rfl) H5 k5

/-! texts: their words -/
theorem join_of_mem {c : Nat} {a : Str} : ∀ {ws : List Str} {w : Str}, w ∈ ws → c ∈ w.cps.toList → c ∈ (Str.join a ws).cps.toList
  | [], _, h, _ => by cases h
  | [v], w, h, hc => by rw [List.mem_singleton.mp h] at hc; exact hc
  | v :: v2 :: r, w, h, hc => by
    have e : Str.join a (v :: v2 :: r) = v ++ a ++ Str.join a (v2 :: r) := rfl
    rw [e, Str.cps_append, Str.cps_append, Array.toList_append, Array.toList_append]
    rcases List.mem_cons.mp h with rfl | h
    · exact List.mem_append_left _ (List.mem_append_left _ hc)
    · exact List.mem_append_right _ (join_of_mem h hc)
theorem join_ge {a : Str} : ∀ {ws : List Str} {w : Str}, w ∈ ws → w.length ≤ (Str.join a ws).length
  | [], _, h => by cases h
  | [v], w, h => by rw [List.mem_singleton.mp h]; exact Nat.le_refl _
  | v :: v2 :: r, w, h => by
    have e : Str.join a (v :: v2 :: r) = v ++ a ++ Str.join a (v2 :: r) := rfl
    have e2 : (Str.join a (v :: v2 :: r)).length = v.length + a.length + (Str.join a (v2 :: r)).length := by rw [e]; simp [Str.length, Str.cps_append]; omega
    rcases List.mem_cons.mp h with rfl | h
    · omega
    · have := join_ge (a := a) h; omega
theorem split_ss {z w a : Str} {n : Nat} (h : SS z n) (m : w ∈ Txt.split z a) : SS w n := ⟨by
    have := join_ge (a := a) m
    rw [StrLaws.join_split] at this
    exact Nat.le_trans this h.len, fun c hc => h.ok c (by
    have := join_of_mem (a := a) m hc
    rwa [StrLaws.join_split] at this)⟩
theorem split_ne {z a : Str} : Txt.split z a ≠ [] := fun h => by
  have := PyProof.Rows.split_pos z a
  rw [h] at this
  simp at this
theorem join_many {a : Str} (h : 1 ≤ a.length) : ∀ ws : List Str, ws.length ≤ (Str.join a ws).length + 1
  | [] => by simp
  | [v] => by simp
  | v :: v2 :: r => by
    have e : Str.join a (v :: v2 :: r) = v ++ a ++ Str.join a (v2 :: r) := rfl
    have e2 : (Str.join a (v :: v2 :: r)).length = v.length + a.length + (Str.join a (v2 :: r)).length := by rw [e]; simp [Str.length, Str.cps_append]; omega
    have := join_many h (v2 :: r)
    rw [e2]
    simp only [List.length_cons] at this ⊢
    omega
theorem split_many {z a : Str} (h : 1 ≤ a.length) : (Txt.split z a).length ≤ z.length + 1 := by
  have := join_many h (Txt.split z a)
  rwa [StrLaws.join_split] at this
theorem s_spl3 {H : Hp} {Q : VK} {z sep : Str} {ws : List Str} (h0 : (sep.length == 0) = false) (hz : z.length + 2 ≤ sizeLine) (e : Txt.split z sep = ws) (q : ∀ p H', H p = none → H' p = some (.lst (ws.map V.str)) → Kp [] H H' → Q (.ref p) H') :
    ∃ a b, V.str z = V.str a ∧ [V.str sep] = [V.str b] ∧ (b.length == 0) = false ∧ a.length + 2 ≤ sizeLine ∧ rNewStrs (Txt.split a b) H Q := by
  obtain ⟨b, h1, h2, h3, h4⟩ := s_spl (z := z) h0 hz e q
  exact ⟨z, b, rfl, h1, h2, h3, h4⟩
theorem zle2 {n : Nat} (h : n ≤ 1000000) : n + 2 ≤ sizeLine := Nat.le_trans (Nat.add_le_add_right h 2) (by decide +kernel)
theorem at0 {α : Type} {x : α} {xs : List α} : atI (x :: xs) 0 = some x := by simp [atI, ixN]
theorem dig_cps : ("0123456789" : Str).cps.toList = [48, 49, 50, 51, 52, 53, 54, 55, 56, 57] := by decide +kernel
theorem dig_mem (c : Nat) : decide (c ∈ ("0123456789" : Str).cps.toList) = decide (48 ≤ c ∧ c ≤ 57) := by
  rw [dig_cps]
  apply decide_eq_decide.mpr
  simp only [List.mem_cons, List.not_mem_nil, or_false]
  omega
theorem zero_eq : ("0" : Str) = ⟨#[48]⟩ := by decide +kernel
theorem one_eq {c d : Nat} : ((⟨#[c]⟩ : Str) = ⟨#[d]⟩) ↔ c = d := ⟨fun e => by
  have := congrArg (fun z : Str => z.cps.toList) e
  simpa using this, fun e => by rw [e]⟩
theorem cps_cons {w : Str} (h : 1 ≤ w.length) : ∃ c cs, w.cps.toList = c :: cs := by
  have l1 : w.cps.toList.length = w.length := Array.length_toList
  cases e : w.cps.toList with
  | nil => rw [e] at l1; simp at l1; omega
  | cons c cs => exact ⟨c, cs, rfl⟩

abbrev Pl := List (Str × Int)
abbrev Lo := List (Int × Int × Int)
def rP (pl : Pl) : List (List V) := pl.map fun q => [V.str q.1, V.int q.2]
def rL (lo : Lo) : List (List V) := lo.map fun q => [V.int q.1, V.int q.2.1, V.int q.2.2]
theorem rP_at {pl : Pl} {i : Nat} {r : List V} (h : (rP pl)[i]? = some r) : ∃ q, pl[i]? = some q ∧ r = [V.str q.1, V.int q.2] := by
  unfold rP at h
  rw [List.getElem?_map] at h
  obtain ⟨q, e, rfl⟩ := Option.map_eq_some_iff.mp h
  exact ⟨q, e, rfl⟩
theorem rL_at {lo : Lo} {i : Nat} {r : List V} (h : (rL lo)[i]? = some r) : ∃ q, lo[i]? = some q ∧ r = [V.int q.1, V.int q.2.1, V.int q.2.2] := by
  unfold rL at h
  rw [List.getElem?_map] at h
  obtain ⟨q, e, rfl⟩ := Option.map_eq_some_iff.mp h
  exact ⟨q, e, rfl⟩
structure GoodP (pl : Pl) : Prop where
  l2 : 2 ≤ pl.length
  l6 : pl.length ≤ 6
  nm : ∀ q ∈ pl, isName (.str q.1) = true ∧ SS q.1 20
  nd : (pl.map (·.1)).Nodup
  rd : ∀ q ∈ pl, 1 ≤ q.2 ∧ q.2 ≤ 3
structure GoodS (st : Pl) (many : Nat) : Prop where
  ln : st.length = many
  ok : ∀ q ∈ st, (q.1 = "staff" ∨ q.1 = "ticket") ∧ (q.2 = 0 ∨ q.2 = 1)
/-- each one begins where the one ahead ends, or behind it -/
def GoodL : Int → Int → Lo → Prop
  | _, _, [] => True
  | low, high, q :: r => low ≤ q.1 ∧ q.1 + 2 ≤ q.2.1 ∧ q.2.1 ≤ high ∧ (q.2.2 = 0 ∨ q.2.2 = 1) ∧ GoodL q.2.1 high r
def lowAt (low : Int) (lo : Lo) (i : Nat) : Int := match i with | 0 => low | j + 1 => match lo[j]? with | some q => q.2.1 | none => low
theorem GoodL.at {high : Int} : ∀ {low : Int} {lo : Lo} {i : Nat} {q : Int × Int × Int}, GoodL low high lo → lo[i]? = some q → lowAt low lo i ≤ q.1 ∧ q.1 + 2 ≤ q.2.1 ∧ q.2.1 ≤ high ∧ (q.2.2 = 0 ∨ q.2.2 = 1)
  | low, p :: r, 0, q, h, e => by
    cases Option.some.inj e
    exact ⟨h.1, h.2.1, h.2.2.1, h.2.2.2.1⟩
  | low, p :: r, i + 1, q, h, e => by
    have := GoodL.at (low := p.2.1) (lo := r) (i := i) (q := q) h.2.2.2.2 (by simpa using e)
    cases i with
    | zero => simpa [lowAt] using this
    | succ i =>
      simp only [lowAt, List.getElem?_cons_succ] at this ⊢
      have hi : i < r.length := by
        have := (List.getElem?_eq_some_iff.mp e).1
        simp at this
        omega
      rw [List.getElem?_eq_getElem hi] at this ⊢
      exact this
/-- a line, as it is told -/
structure Wo where
  pl : Pl
  st : Pl
  lo : Lo
structure GoodW (w : Wo) : Prop where
  p : GoodP w.pl
  s : GoodS w.st (w.pl.length - 1)
  l : GoodL 0 ((w.pl.length : Int) - 1) w.lo
  l2 : w.lo.length ≤ 2
def nms (w : Wo) : List Str := w.pl.map (·.1)

/-! rows of a line's text, and what they write -/
inductive R8
  | p (n d : Str)
  | s (k h : Str)
  | l (a b h : Str)
def w8 : R8 → List Str
  | .p n d => ["place", n, d]
  | .s k h => ["stretch", k, h]
  | .l a b h => ["long", a, b, h]
def dg (d : Str) : Bool := decide (d.length = 1) && d.cps.toList.all fun c => decide (48 ≤ c ∧ c ≤ 57)
def dgV (d : Str) : Int := match d.cps.toList with | [c] => ((c - 48 : Nat) : Int) | _ => 0
def inK (k : Str) : Bool := decide (k ∈ (["staff", "ticket"] : List Str))
def inH (h : Str) : Bool := decide (h ∈ (["low", "high"] : List Str))
def ok8 : R8 → Prop
  | .p n d => isName (.str n) = true ∧ dg d = true
  | .s k h => inK k = true ∧ inH h = true
  | .l a b h => isName (.str a) = true ∧ isName (.str b) = true ∧ inH h = true
def so8 : R8 → Nat | .p _ _ => 0 | .s _ _ => 1 | .l _ _ _ => 2
def pr : List Str → Option R8
  | [a, b, c] => if a = "place" then (if (isName (.str b) && dg c) = true then some (.p b c) else none) else if a = "stretch" then (if (inK b && inH c) = true then some (.s b c) else none) else none
  | [a, b, c, d] => if a = "long" then (if (isName (.str b) && (isName (.str c) && inH d)) = true then some (.l b c d) else none) else none
  | _ => none
theorem pr_ok {ws : List Str} {q : R8} (h : pr ws = some q) : ws = w8 q ∧ ok8 q := by
  match ws, h with
  | [a, b, c], h =>
    simp only [pr] at h
    split at h
    · subst_vars
      split at h
      · rename_i g
        cases h
        exact ⟨rfl, by simpa [ok8] using g⟩
      · cases h
    · split at h
      · subst_vars
        split at h
        · rename_i g
          cases h
          exact ⟨rfl, by simpa [ok8] using g⟩
        · cases h
      · cases h
  | [a, b, c, d], h =>
    simp only [pr] at h
    split at h
    · subst_vars
      split at h
      · rename_i g
        cases h
        exact ⟨rfl, by simpa [ok8] using g⟩
      · cases h
    · cases h
  | [], h => cases h
  | [a], h => cases h
  | [a, b], h => cases h
  | a :: b :: c :: d :: e :: r, h => cases h
theorem sort_ne : ("stretch" : Str) ≠ "place" ∧ ("long" : Str) ≠ "place" ∧ ("long" : Str) ≠ "stretch" ∧ ("place" : Str) ≠ "stretch" ∧ ("place" : Str) ≠ "long" ∧ ("stretch" : Str) ≠ "long" := by decide +kernel
theorem pr_p {b c : Str} : pr ["place", b, c] = if (isName (.str b) && dg c) = true then some (.p b c) else none := by simp only [pr, if_true]
theorem pr_s {b c : Str} : pr ["stretch", b, c] = if (inK b && inH c) = true then some (.s b c) else none := by simp only [pr, if_neg sort_ne.1, if_true]
theorem pr_l {b c d : Str} : pr ["long", b, c, d] = if (isName (.str b) && (isName (.str c) && inH d)) = true then some (.l b c d) else none := by simp only [pr, if_true]
theorem pr_3 {a : Str} {r : List Str} (h : a ≠ "long") (l : r.length ≠ 2) : pr (a :: r) = none := by
  match r, l with
  | [], _ => rfl
  | [b], _ => rfl
  | [b, c], l => exact (l rfl).elim
  | [b, c, d], _ => simp only [pr, if_neg h]
  | b :: c :: d :: e :: r, _ => rfl
theorem pr_4 {r : List Str} (l : r.length ≠ 3) : pr ("long" :: r) = none := by
  match r, l with
  | [], _ => rfl
  | [b], _ => rfl
  | [b, c], _ => simp only [pr, if_neg sort_ne.2.1, if_neg sort_ne.2.2.1]
  | [b, c, d], l => exact (l rfl).elim
  | b :: c :: d :: e :: r, _ => rfl
theorem pr_no {a : Str} {r : List Str} (h1 : a ≠ "place") (h2 : a ≠ "stretch") (h3 : a ≠ "long") : pr (a :: r) = none := by
  match r with
  | [] => rfl
  | [b] => rfl
  | [b, c] => simp only [pr, if_neg h1, if_neg h2]
  | [b, c, d] => simp only [pr, if_neg h3]
  | b :: c :: d :: e :: r => rfl
/-- the sort of the last one -/
def la8 (rs : List R8) : Nat := match rs.getLast? with | some r => so8 r | none => 0
theorem la8_app {rs : List R8} {r : R8} : la8 (rs ++ [r]) = so8 r := by simp [la8]
def wsp (r : Str) : List Str := Txt.split r " "
/-- the number of the first row that has no form or is out of its order, or all rows -/
def sc : List R8 → Nat → List Str → Sum Nat (List R8)
  | acc, _, [] => .inr acc
  | acc, i, r :: rows => match pr (wsp r) with | some q => if la8 acc ≤ so8 q then sc (acc ++ [q]) (i + 1) rows else .inl i | none => .inl i
theorem sc_no {acc : List R8} {i : Nat} {r : Str} {rows : List Str} (h : pr (wsp r) = none) : sc acc i (r :: rows) = .inl i := by simp only [sc, h]
theorem sc_lt {acc : List R8} {i : Nat} {r : Str} {rows : List Str} {q : R8} (h : pr (wsp r) = some q) (l : ¬ la8 acc ≤ so8 q) : sc acc i (r :: rows) = .inl i := by simp only [sc, h, if_neg l]
theorem sc_go {acc : List R8} {i : Nat} {r : Str} {rows : List Str} {q : R8} (h : pr (wsp r) = some q) (l : la8 acc ≤ so8 q) : sc acc i (r :: rows) = sc (acc ++ [q]) (i + 1) rows := by simp only [sc, h, if_pos l]
theorem sc_ok : ∀ {rows : List Str} {acc rs : List R8} {i : Nat}, sc acc i rows = .inr rs → (∀ r ∈ acc, ok8 r) → (∀ r ∈ rs, ok8 r) ∧ rs.length = acc.length + rows.length
  | [], acc, rs, i, h, ha => by
    simp only [sc] at h
    cases h
    exact ⟨ha, rfl⟩
  | r :: rows, acc, rs, i, h, ha => by
    cases e : pr (wsp r) with
    | none => rw [sc_no e] at h; cases h
    | some q =>
      by_cases l : la8 acc ≤ so8 q
      · rw [sc_go e l] at h
        obtain ⟨h1, h2⟩ := sc_ok (rows := rows) h fun x hx => by
          rcases List.mem_append.mp hx with hx | hx
          · exact ha x hx
          · rw [List.mem_singleton.mp hx]; exact (pr_ok e).2
        exact ⟨h1, by rw [h2, List.length_append, List.length_cons]; simp; omega⟩
      · rw [sc_lt e l] at h; cases h
/-! what they write -/
def fp : R8 → Option (Str × Int) | .p n d => some (n, dgV d) | _ => none
def hV (h : Str) : Int := if h = "high" then 1 else 0
def fs : R8 → Option (Str × Int) | .s k h => some (k, hV h) | _ => none
abbrev Ln8 := List (Str × Str × Int)
def fl : R8 → Option (Str × Str × Int) | .l a b h => some (a, b, hV h) | _ => none
def goPp : List Str → List (Str × Int) → Option (Str × PyData)
  | _, [] => none
  | ns, q :: r => if q.1 ∈ ns then some ("twice", .str q.1) else if 1 ≤ q.2 ∧ q.2 ≤ 3 then goPp (ns ++ [q.1]) r else some ("number", .int q.2)
def dP (pl : List (Str × Int)) : List PyData := pl.map fun q => .tuple [.str q.1, .int q.2]
def dL (lo : List (Int × Int × Int)) : List PyData := lo.map fun q => .tuple [.int q.1, .int q.2.1, .int q.2.2]
def pDue (pl : List (Str × Int)) : Option (Str × PyData) := if 2 ≤ pl.length ∧ pl.length ≤ 6 then goPp [] pl else some ("places", .list (dP pl))
def sDue (st : List (Str × Int)) (many : Int) : Option (Str × PyData) := if (st.length : Int) = many then none else some ("stretches", .list (dP st))
def goLp (high : Int) : Int → List (Int × Int × Int) → Option (Str × PyData)
  | _, [] => none
  | low, q :: r => if (low ≤ q.1 ∧ q.1 ≤ high) ∧ (low ≤ q.2.1 ∧ q.2.1 ≤ high) ∧ q.1 + 2 ≤ q.2.1 ∧ (0 ≤ q.2.2 ∧ q.2.2 ≤ 1) then goLp high q.2.1 r else some ("longs", .tuple [.int q.1, .int q.2.1, .int q.2.2])
def lDue (lo : List (Int × Int × Int)) (many : Int) : Option (Str × PyData) := if lo.length ≤ 2 then goLp (many - 1) 0 lo else some ("longs", .list (dL lo))
def due0 (pl st : List (Str × Int)) : Option (Str × PyData) := match pDue pl with | some e => some e | none => sDue st ((pl.length : Int) - 1)
def ix8 (ns : List Str) (z : Str) : Int := (ns.idxOf z : Nat)
def badN (ns : List Str) : Ln8 → Option Str
  | [] => none
  | q :: r => if q.1 ∈ ns then (if q.2.1 ∈ ns then badN ns r else some q.2.1) else some q.1
def lo8 (ns : List Str) (ln : Ln8) : List (Int × Int × Int) := ln.map fun q => (ix8 ns q.1, ix8 ns q.2.1, q.2.2)
def out8 (rs : List R8) : Str × PyData :=
  match due0 (rs.filterMap fp) (rs.filterMap fs) with
  | some e => e
  | none => match badN ((rs.filterMap fp).map (·.1)) (rs.filterMap fl) with
    | some z => ("place", .str z)
    | none => match lDue (lo8 ((rs.filterMap fp).map (·.1)) (rs.filterMap fl)) ((rs.filterMap fp).length : Int) with
      | some e => e
      | none => ("told", .tuple [.tuple (dP (rs.filterMap fp)), .tuple (dP (rs.filterMap fs)), .tuple (dL (lo8 ((rs.filterMap fp).map (·.1)) (rs.filterMap fl)))])
theorem fm_one {β : Type} (f : R8 → Option β) {l : List R8} {i : Nat} {r : R8} (e : l[i]? = some r) : (l.take (i + 1)).filterMap f = (l.take i).filterMap f ++ (f r).toList := by
  rw [take_one e, List.filterMap_append]
  cases h : f r <;> simp [h]
theorem fm_len {β : Type} (f : R8 → Option β) (l : List R8) (i : Nat) : ((l.take i).filterMap f).length ≤ i := by
  refine Nat.le_trans (List.length_filterMap_le f _) ?_
  rw [List.length_take]
  omega
/-! the due of a line, over the heap and by itself -/
def DR (H : Hp) (o : Option (Str × V)) (o' : Option (Str × PyData)) : Prop := match o, o' with
  | none, none => True
  | some (c, w), some (c', d) => c = c' ∧ Dn K H w d
  | _, _ => False

/-! the due of a line: over the heap, and by itself -/
theorem inStr {K : PySem.W.Frag} {H : Hp} (z : Str) : Dn K H (.str z) (.str z) := .str z
theorem dn_rowP {K : PySem.W.Frag} {H : Hp} {u : Addr} {q : Str × Int} (e : H u = some (.tup [.str q.1, .int q.2])) : Dn K H (.ref u) (.tuple [.str q.1, .int q.2]) := .tup (SqT.of e) (.cons (.str _) (.cons (.int _) .nil))
theorem dn_rowL {K : PySem.W.Frag} {H : Hp} {u : Addr} {q : Int × Int × Int} (e : H u = some (.tup [.int q.1, .int q.2.1, .int q.2.2])) : Dn K H (.ref u) (.tuple [.int q.1, .int q.2.1, .int q.2.2]) := .tup (SqT.of e) (.cons (.int _) (.cons (.int _) (.cons (.int _) .nil)))
theorem dn_P {K : PySem.W.Frag} {H : Hp} : ∀ {pl : List (Str × Int)} {vs : List V}, Rw H vs (rP pl) → DnA K H vs (dP pl)
  | [], vs, h => by
    cases h
    exact .nil
  | q :: pl, vs, h => by
    cases h with
    | cons e h => exact .cons (dn_rowP e) (dn_P h)
theorem dn_L {K : PySem.W.Frag} {H : Hp} : ∀ {lo : List (Int × Int × Int)} {vs : List V}, Rw H vs (rL lo) → DnA K H vs (dL lo)
  | [], vs, h => by
    cases h
    exact .nil
  | q :: pl, vs, h => by
    cases h with
    | cons e h => exact .cons (dn_rowL e) (dn_L h)
theorem goP_rel {H : Hp} : ∀ {pl : List (Str × Int)} {vs : List V} {ns : List Str}, Rw H vs (rP pl) → (∀ q ∈ pl, isName (.str q.1) = true) → DR (K := K) H (goP H ns vs) (goPp ns pl)
  | [], vs, ns, h, _ => by
    cases h
    exact trivial
  | q :: pl, vs, ns, h, hn => by
    cases h with
    | @cons u r vs rs e h =>
      have ih := fun ns => goP_rel (ns := ns) h fun x hx => hn x (List.mem_cons_of_mem _ hx)
      rw [goP_row (rowH_tup e), hn q List.mem_cons_self, if_neg (by simp)]
      simp only [goPp]
      by_cases m : q.1 ∈ ns
      · rw [if_pos m, if_pos m]
        exact ⟨rfl, .str _⟩
      · rw [if_neg m, if_neg m]
        have ew : isWhole (V.int q.2) 1 3 = (decide (1 ≤ q.2) && decide (q.2 ≤ 3)) := rfl
        by_cases m2 : 1 ≤ q.2 ∧ q.2 ≤ 3
        · rw [if_pos m2, ew, decide_eq_true m2.1, decide_eq_true m2.2, if_neg (by simp)]
          exact ih _
        · rw [if_neg m2, ew, if_pos]
          · exact ⟨rfl, .int _⟩
          · rw [← Bool.decide_and, decide_eq_false m2]
theorem goS_none {H : Hp} : ∀ {st : List (Str × Int)} {vs : List V}, Rw H vs (rP st) → (∀ q ∈ st, inK q.1 = true ∧ 0 ≤ q.2 ∧ q.2 ≤ 1) → goS H vs = none
  | [], vs, h, _ => by
    cases h
    rfl
  | q :: st, vs, h, hn => by
    cases h with
    | @cons u r vs rs e h =>
      have ih := goS_none h fun x hx => hn x (List.mem_cons_of_mem _ hx)
      obtain ⟨h1, h2, h3⟩ := hn q List.mem_cons_self
      have ew : isWhole (V.int q.2) 0 1 = (decide (0 ≤ q.2) && decide (q.2 ≤ 1)) := rfl
      have : isSt H (.ref u) = true := by
        rw [isSt_row (rowH_tup e), ew, decide_eq_true h2, decide_eq_true h3]
        exact (Bool.and_true _).trans h1
      unfold goS
      rw [this, if_pos rfl]
      exact ih
theorem goL_rel {H : Hp} {high : Int} : ∀ {lo : List (Int × Int × Int)} {vs : List V} {low : Int}, Rw H vs (rL lo) → DR (K := K) H (goL H high low vs) (goLp high low lo)
  | [], vs, ns, h => by
    cases h
    exact trivial
  | q :: lo, vs, low, h => by
    cases h with
    | @cons u r vs rs e h =>
      have ih := fun low => goL_rel (low := low) (high := high) h
      have er := rowH_tup e
      have el : lowOf H (.ref u) = q.2.1 := by unfold lowOf; rw [er]
      have ew : ∀ (n a b : Int), isWhole (V.int n) a b = (decide (a ≤ n) && decide (n ≤ b)) := fun _ _ _ => rfl
      have e2 : le2 (V.int q.1) (V.int q.2.1) = decide (q.1 + 2 ≤ q.2.1) := rfl
      have eb : isLo H (.ref u) low high = decide ((low ≤ q.1 ∧ q.1 ≤ high) ∧ (low ≤ q.2.1 ∧ q.2.1 ≤ high) ∧ q.1 + 2 ≤ q.2.1 ∧ (0 ≤ q.2.2 ∧ q.2.2 ≤ 1)) := by
        rw [isLo_row er, ew, ew, ew, e2]
        simp only [Bool.decide_and]
      simp only [goL, goLp, eb, el, decide_eq_true_eq]
      by_cases m : ((low ≤ q.1 ∧ q.1 ≤ high) ∧ (low ≤ q.2.1 ∧ q.2.1 ≤ high) ∧ q.1 + 2 ≤ q.2.1 ∧ (0 ≤ q.2.2 ∧ q.2.2 ≤ 1))
      · rw [if_pos m, if_pos m]
        exact ih _
      · rw [if_neg m, if_neg m]
        exact ⟨rfl, dn_rowL e⟩
/-- places and stretches that were read, as lists -/
structure PS (H : Hp) (a b : Addr) (pl st : List (Str × Int)) (vp vs : List V) : Prop where
  ea : H a = some (.lst vp)
  eb : H b = some (.lst vs)
  rp : Rw H vp (rP pl)
  rs : Rw H vs (rP st)
  np : ∀ q ∈ pl, isName (.str q.1) = true ∧ 0 ≤ q.2 ∧ q.2 ≤ 9
  ns : ∀ q ∈ st, inK q.1 = true ∧ 0 ≤ q.2 ∧ q.2 ≤ 1
  lp : pl.length ≤ 10001
  ls : st.length ≤ 10001
theorem PS.kp {H H1 : Hp} {a b : Addr} {pl st : List (Str × Int)} {vp vs : List V} (h : PS H a b pl st vp vs) (k : Kp [] H H1) : PS H1 a b pl st vp vs := ⟨k.get0 h.ea, k.get0 h.eb, h.rp.kp k, h.rs.kp k, h.np, h.ns, h.lp, h.ls⟩
theorem rP_len (pl : List (Str × Int)) : (rP pl).length = pl.length := by simp [rP]
theorem rL_len (lo : List (Int × Int × Int)) : (rL lo).length = lo.length := by simp [rL]
theorem PS.pd {H : Hp} {a b : Addr} {pl st : List (Str × Int)} {vp vs : List V} (h : PS H a b pl st vp vs) : DR (K := K) H (placesDue H (.ref a)) (pDue pl) := by
  unfold placesDue pDue
  rw [seqH_lst h.ea]
  simp only
  have := h.rp.len
  rw [rP_len] at this
  rw [this]
  split
  · exact goP_rel h.rp fun q hq => (h.np q hq).1
  · exact ⟨rfl, .lst (Or.inl h.ea) (dn_P h.rp)⟩
theorem PS.sd {H : Hp} {a b : Addr} {pl st : List (Str × Int)} {vp vs : List V} {many : Int} (h : PS H a b pl st vp vs) : DR (K := K) H (strDue H (.ref b) many) (sDue st many) := by
  unfold strDue sDue
  rw [seqH_lst h.eb]
  simp only
  have := h.rs.len
  rw [rP_len] at this
  rw [this]
  split
  · rw [goS_none h.rs h.ns]
    exact trivial
  · exact ⟨rfl, .lst (Or.inl h.eb) (dn_P h.rs)⟩
theorem PS.many {H : Hp} {a b : Addr} {pl st : List (Str × Int)} {vp vs : List V} (h : PS H a b pl st vp vs) : manyH H (.ref a) = (pl.length : Int) := by
  unfold manyH
  rw [seqH_lst h.ea]
  have := h.rp.len
  rw [rP_len] at this
  simp only [this]
theorem DR.non {H : Hp} {o' : Option (Str × PyData)} (h : DR (K := K) H none o') : o' = none := by cases o' with | none => rfl | some p => cases h
theorem DR.som {H : Hp} {c : Str} {w : V} {o' : Option (Str × PyData)} (h : DR (K := K) H (some (c, w)) o') : ∃ d, o' = some (c, d) ∧ Dn K H w d := by
  match o', h with
  | some (c', d), h => obtain ⟨rfl, h2⟩ := h; exact ⟨d, rfl, h2⟩
  | none, h => cases h
theorem PS.d0 {H : Hp} {a b : Addr} {pl st : List (Str × Int)} {vp vs : List V} (h : PS H a b pl st vp vs) : DR (K := K) H (lineDue H (.ref a) (.ref b) .non) (due0 pl st) := by
  unfold lineDue due0
  have h1 := h.pd (K := K)
  cases e1 : placesDue H (.ref a) with
  | some p =>
    rw [e1] at h1
    obtain ⟨d, ed, hd⟩ := DR.som (c := p.1) (w := p.2) h1
    rw [ed]
    exact ⟨rfl, hd⟩
  | none =>
    rw [e1] at h1
    rw [h1.non, h.many]
    have h2 := h.sd (K := K) (many := (pl.length : Int) - 1)
    cases e2 : strDue H (.ref b) ((pl.length : Int) - 1) with
    | some p =>
      rw [e2] at h2
      obtain ⟨d, ed, hd⟩ := DR.som (c := p.1) (w := p.2) h2
      simp only
      rw [ed]
      exact ⟨rfl, hd⟩
    | none =>
      rw [e2] at h2
      simp only
      rw [h2.non]
      exact trivial
/-- the same with long stretches, where there is nothing due without them -/
theorem PS.d1 {H : Hp} {a b c : Addr} {pl st : List (Str × Int)} {lo : List (Int × Int × Int)} {vp vs vl : List V} (h : PS H a b pl st vp vs) (e0 : due0 pl st = none) (ec : H c = some (.lst vl)) (rl : Rw H vl (rL lo)) : DR (K := K) H (lineDue H (.ref a) (.ref b) (.ref c)) (lDue lo (pl.length : Int)) := by
  unfold lineDue
  unfold due0 at e0
  have h1 := h.pd (K := K)
  have h2 := h.sd (K := K) (many := (pl.length : Int) - 1)
  cases e1 : pDue pl with
  | some p => rw [e1] at e0; cases e0
  | none =>
    rw [e1] at e0 h1
    simp only at e0
    rw [e0] at h2
    have f1 : placesDue H (.ref a) = none := by
      cases e : placesDue H (.ref a) with
      | none => rfl
      | some p => rw [e] at h1; cases h1
    have f2 : strDue H (.ref b) ((pl.length : Int) - 1) = none := by
      cases e : strDue H (.ref b) ((pl.length : Int) - 1) with
      | none => rfl
      | some p => rw [e] at h2; cases h2
    rw [f1, h.many]
    simp only
    rw [f2]
    simp only
    unfold longsDue lDue
    rw [if_neg (by simp), seqH_lst ec]
    have := rl.len
    rw [rL_len] at this
    simp only [this]
    split
    · exact goL_rel rl
    · exact ⟨rfl, .lst (Or.inl ec) (dn_L rl)⟩
theorem nd_of : ∀ {pl : List (Str × Int)} {ns : List Str}, goPp ns pl = none → ns.Nodup → (ns ++ pl.map (·.1)).Nodup
  | [], ns, _, h => by simpa using h
  | q :: pl, ns, e, h => by
    simp only [goPp] at e
    split at e
    · cases e
    rename_i m
    split at e
    · have := nd_of e (by
        rw [List.nodup_append]
        exact ⟨h, by simp, fun x hx y hy => by rw [List.mem_singleton.mp hy]; intro z; exact m (z ▸ hx)⟩)
      simpa [List.append_assoc] using this
    · cases e
theorem due0_ok {pl st : List (Str × Int)} (h : due0 pl st = none) : (pl.map (·.1)).Nodup ∧ 2 ≤ pl.length ∧ pl.length ≤ 6 := by
  unfold due0 at h
  cases e : pDue pl with
  | some p => rw [e] at h; cases h
  | none =>
    unfold pDue at e
    split at e
    · rename_i g
      have := nd_of e List.nodup_nil
      exact ⟨by simpa using this, g⟩
    · cases e
theorem due0_l {pl st : List (Str × Int)} (h : due0 pl st = none) : st.length ≤ 5 := by
  have hp := (due0_ok h).2
  unfold due0 at h
  cases e : pDue pl with
  | some p => rw [e] at h; cases h
  | none =>
    rw [e] at h
    unfold sDue at h
    simp only at h
    split at h
    · omega
    · cases h
theorem name_ss {z : Str} (h : isName (.str z) = true) : SS z 6 := by
  simp only [isName, Bool.and_eq_true, decide_eq_true_eq, List.all_eq_true] at h
  exact ⟨h.1.2, fun c hc => let_ssL c (h.2 c hc)⟩
theorem PS.tg {H : Hp} {a b : Addr} {pl st : List (Str × Int)} {vp vs : List V} (h : PS H a b pl st vp vs) : Tg K H [a] 3 (.ref a) ∧ Tg K H [b] 3 (.ref b) := by
  have key : ∀ {l : Addr} {pl : List (Str × Int)} {vp : List V}, H l = some (.lst vp) → Rw H vp (rP pl) → (∀ q ∈ pl, SS q.1 100 ∧ 0 ≤ q.2 ∧ q.2 ≤ 9) → pl.length ≤ 10001 → Tg K H [l] 3 (.ref l) := by
    intro l pl vp e r hq hl
    have := r.len
    rw [rP_len] at this
    refine .lst (F := []) e (by simp) (by simp) (by simp) (by omega) fun x hx => ?_
    obtain ⟨i, hi⟩ := List.getElem?_of_mem hx
    obtain ⟨u, r', rfl, er, eu⟩ := r.at hi
    obtain ⟨q, eq, rfl⟩ := rP_at er
    obtain ⟨s1, s2, s3⟩ := hq q (List.mem_of_getElem? eq)
    refine .tup eu (by simp) fun y hy => ?_
    simp only [List.mem_cons, List.not_mem_nil, or_false] at hy
    rcases hy with rfl | rfl
    · exact .str s1
    · exact .int (Nat.lt_of_le_of_lt (show q.2.natAbs ≤ 1000 by omega) (by decide +kernel))
  refine ⟨key h.ea h.rp (fun q hq => ?_) h.lp, key h.eb h.rs (fun q hq => ?_) h.ls⟩
  · obtain ⟨h1, h2⟩ := h.np q hq
    exact ⟨(name_ss h1).mono (by omega), h2⟩
  · obtain ⟨h1, h2, h3⟩ := h.ns q hq
    refine ⟨?_, h2, by omega⟩
    have h1 := of_decide_eq_true h1
    simp only [List.mem_cons, List.not_mem_nil, or_false] at h1
    rcases h1 with h1 | h1 <;> rw [h1] <;> exact SS.mk' (by decide +kernel)

/-! rows of a text -/
theorem list2 {α : Type} {r : List α} (h : r.length = 2) : ∃ b c, r = [b, c] := by
  match r, h with
  | [b, c], _ => exact ⟨b, c, rfl⟩
theorem list3' {α : Type} {r : List α} (h : r.length = 3) : ∃ b c d, r = [b, c, d] := by
  match r, h with
  | [b, c, d], _ => exact ⟨b, c, d, rfl⟩
theorem dg_one {d : Str} (h : d.length = 1) : ∃ c : Nat, d = ⟨#[c]⟩ ∧ dg d = decide (48 ≤ c ∧ c ≤ 57) := by
  have l1 : d.cps.toList.length = d.length := Array.length_toList
  obtain ⟨c, cs, ec⟩ := cps_cons (w := d) (by omega)
  have : cs = [] := by
    rw [ec, List.length_cons] at l1
    exact List.length_eq_zero_iff.mp (by omega)
  subst this
  have ed : d = ⟨#[c]⟩ := Str.ext' (by rw [← Array.toList_inj, ec])
  refine ⟨c, ed, ?_⟩
  subst ed
  unfold dg
  simp [Str.length]
theorem dg_no {d : Str} (h : ¬ d.length = 1) : dg d = false := by unfold dg; rw [decide_eq_false h, Bool.false_and]
def sp_is_form (T : Tx K mg) : Sp := sp1 fun x H Q _ => ∃ (l : Addr) (ws : List Str), x = .ref l ∧ H l = some (.lst (ws.map V.str)) ∧ ws ≠ [] ∧ (∀ w ∈ ws, SS w 10000) ∧ ∀ H', Kp [] H H' → Q (.bl (pr ws).isSome) H'
set_option maxHeartbeats 16000000 in
theorem ok_is_form (T : Tx K mg) : FnOk P w K mg base (L2.CX P w) 2 T.a_is_form T.d_is_form ["words"] (sp_is_form T) := by
  have G_is_name := ok_is_name (P := P) (w := w) (base := base) T
  refine T.F_is_form.okX sc_is_form (fun vs H Q E h => ?_) (fun cd A o s H vs Q E hr h => ?_)
  · obtain ⟨v0, rfl, h⟩ := h; rfl
  obtain ⟨v0, rfl, h⟩ := h
  obtain ⟨l, ws, rfl, el, hne, hw, k⟩ := h
  refine ⟨_, (pss_cons (ps_if (pt_cmpR (o_eq (K := K) rfl hr) (pe_ix (ix_u (K := K) rfl) (pv 0) pe_int (fun _ _ => rfl)) pe_str (nomark _))
    (pss_one (ps_ret (pe_and (pe_cmpR (o_eq (K := K) rfl hr) (pe_callB (c_len (K := K) rfl) rfl T.z_len bt_len (pa_cons (pv 0) pa_nil)) pe_int (nomark _)) (pe_and (pe_co G_is_name (hr.mono (by decide)) rfl T.m_is_name T.F_is_name.kp T.B_is_name (takes_of (E := E) rfl rfl rfl rfl) (pa_cons (pe_ix (ix_u (K := K) rfl) (pv 0) pe_int (fun _ _ => rfl)) pa_nil)) (pe_and (pe_cmpR (o_eq (K := K) rfl hr) (pe_callB (c_len (K := K) rfl) rfl T.z_len bt_len (pa_cons (pe_ix (ix_u (K := K) rfl) (pv 0) pe_int (fun _ _ => rfl)) pa_nil)) pe_int (nomark _)) (pe_one (pe_cmpR (o_in (K := K) rfl) (pe_ix (ix_u (K := K) rfl) (pv 0) pe_int (fun _ _ => rfl)) pe_str rfl)))))))
    pss_nil)
    (pss_cons (ps_if (pt_cmpR (o_eq (K := K) rfl hr) (pe_ix (ix_u (K := K) rfl) (pv 0) pe_int (fun _ _ => rfl)) pe_str (nomark _))
    (pss_one (ps_ret (pe_and (pe_cmpR (o_eq (K := K) rfl hr) (pe_callB (c_len (K := K) rfl) rfl T.z_len bt_len (pa_cons (pv 0) pa_nil)) pe_int (nomark _)) (pe_and (pe_cmpR (o_in (K := K) rfl) (pe_ix (ix_u (K := K) rfl) (pv 0) pe_int (fun _ _ => rfl)) (pe_tup (pa_cons pe_str (pa_cons pe_str pa_nil))) rfl) (pe_one (pe_cmpR (o_in (K := K) rfl) (pe_ix (ix_u (K := K) rfl) (pv 0) pe_int (fun _ _ => rfl)) (pe_glob rfl T.mt_HOMES (show RelV (V.ref T.t_HOMES) (Value.ref T.t_HOMES) from rfl)) rfl))))))
    pss_nil)
    (pss_cons (ps_if (pt_cmpR (o_eq (K := K) rfl hr) (pe_ix (ix_u (K := K) rfl) (pv 0) pe_int (fun _ _ => rfl)) pe_str (nomark _))
    (pss_one (ps_ret (pe_and (pe_cmpR (o_eq (K := K) rfl hr) (pe_callB (c_len (K := K) rfl) rfl T.z_len bt_len (pa_cons (pv 0) pa_nil)) pe_int (nomark _)) (pe_and (pe_co G_is_name (hr.mono (by decide)) rfl T.m_is_name T.F_is_name.kp T.B_is_name (takes_of (E := E) rfl rfl rfl rfl) (pa_cons (pe_ix (ix_u (K := K) rfl) (pv 0) pe_int (fun _ _ => rfl)) pa_nil)) (pe_and (pe_co G_is_name (hr.mono (by decide)) rfl T.m_is_name T.F_is_name.kp T.B_is_name (takes_of (E := E) rfl rfl rfl rfl) (pa_cons (pe_ix (ix_u (K := K) rfl) (pv 0) pe_int (fun _ _ => rfl)) pa_nil)) (pe_one (pe_cmpR (o_in (K := K) rfl) (pe_ix (ix_u (K := K) rfl) (pv 0) pe_int (fun _ _ => rfl)) (pe_glob rfl T.mt_HOMES (show RelV (V.ref T.t_HOMES) (Value.ref T.t_HOMES) from rfl)) rfl)))))))
    pss_nil)
    (pss_one (ps_ret pe_bl))))), ?_⟩
  rw [st_is_form]
  obtain ⟨a, r, rfl⟩ := List.exists_cons_of_ne_nil hne
  have el' : H l = some (.lst (.str a :: r.map V.str)) := el
  have no : pr (a :: r) = none → ∀ H', Kp [] H H' → Q (.bl false) H' := fun e H' k' => by
    have := k H' k'
    rw [e] at this
    exact this
  walk_at "u"
  refine s_ixl el' at0 ?_
  walk_at "u"
  refine s_ite (fun h1 => ?_) (fun h1 => ?_)
  · subst h1
    walk_at "u"
    refine s_lenl el ?_
    walk_at "u"
    refine s_ite (fun h2 => ?_) (fun h2 => ?_)
    rotate_left
    · exact no (pr_3 sort_ne.2.2.2.2.1 (by simp at h2; omega)) _ Kp.refl
    obtain ⟨n, d, rfl⟩ := list2 (r := r) (by simp at h2; omega)
    have el : H l = some (.lst [.str "place", .str n, .str d]) := el
    rw [pr_p] at k
    walk_at "u"
    refine c_name ((hw n (by simp)).mono (by omega)) fun H1 k1 => ?_
    cases hn : isName (.str n) with
    | false =>
      rw [hn, Bool.false_and] at k
      walk_at "u"
      exact k _ k1
    | true =>
    rw [hn, Bool.true_and] at k
    walk_at "u"
    refine s_lens (zle (by have := (hw d (by simp)).len; omega)) ?_
    walk_at "u"
    refine s_ite (fun h3 => ?_) (fun h3 => ?_)
    rotate_left
    · rw [dg_no (by omega)] at k
      exact k _ k1
    obtain ⟨c, rfl, ec⟩ := dg_one (d := d) (by omega)
    walk_at "u"
    rw [dig_mem, ← ec]
    have := k _ k1
    cases hd : dg ⟨#[c]⟩ <;> rw [hd] at this <;> exact this
  walk_at "u"
  refine s_ixl el' at0 ?_
  walk_at "u"
  refine s_ite (fun h2 => ?_) (fun h2 => ?_)
  · subst h2
    walk_at "u"
    refine s_lenl el ?_
    walk_at "u"
    refine s_ite (fun h3 => ?_) (fun h3 => ?_)
    rotate_left
    · exact no (pr_3 sort_ne.2.2.2.2.2 (by simp at h3; omega)) _ Kp.refl
    obtain ⟨n, d, rfl⟩ := list2 (r := r) (by simp at h3; omega)
    have el : H l = some (.lst [.str "stretch", .str n, .str d]) := el
    rw [pr_s] at k
    walk_at "u"
    walk_at "na"
    intro t1 H1 f1 e1 k1
    refine s_inT (zs := ["staff", "ticket"]) (SqT.of e1) ?_
    have eK : decide (n ∈ (["staff", "ticket"] : List Str)) = inK n := rfl
    rw [eK]
    cases hn : inK n with
    | false =>
      rw [hn, Bool.false_and] at k
      walk_at "u"
      exact k _ k1
    | true =>
    rw [hn, Bool.true_and] at k
    walk_at "u"
    refine s_inT (zs := ["low", "high"]) T.kt_HOMES.sq ?_
    have eH : decide (d ∈ (["low", "high"] : List Str)) = inH d := rfl
    rw [eH]
    have := k _ k1
    cases hd : inH d <;> rw [hd] at this <;> exact this
  walk_at "u"
  refine s_ixl el' at0 ?_
  walk_at "u"
  refine s_ite (fun h3 => ?_) (fun h3 => ?_)
  rotate_left
  · walk_at "u"
    exact no (pr_no h1 h2 h3) _ Kp.refl
  · subst h3
    walk_at "u"
    refine s_lenl el ?_
    walk_at "u"
    refine s_ite (fun h4 => ?_) (fun h4 => ?_)
    rotate_left
    · exact no (pr_4 (by simp at h4; omega)) _ Kp.refl
    obtain ⟨n, m, d, rfl⟩ := list3' (r := r) (by simp at h4; omega)
    have el : H l = some (.lst [.str "long", .str n, .str m, .str d]) := el
    rw [pr_l] at k
    walk_at "u"
    refine c_name ((hw n (by simp)).mono (by omega)) fun H1 k1 => ?_
    cases hn : isName (.str n) with
    | false =>
      rw [hn, Bool.false_and] at k
      walk_at "u"
      exact k _ k1
    | true =>
    rw [hn, Bool.true_and] at k
    walk_at "u"
    refine c_name ((hw m (by simp)).mono (by omega)) fun H2 k2 => ?_
    cases hm : isName (.str m) with
    | false =>
      rw [hm, Bool.false_and] at k
      walk_at "u"
      exact k _ (by walk_at "k")
    | true =>
    rw [hm, Bool.true_and] at k
    walk_at "u"
    refine s_inT (zs := ["low", "high"]) T.kt_HOMES.sq ?_
    have eH : decide (d ∈ (["low", "high"] : List Str)) = inH d := rfl
    rw [eH]
    have := k _ (show Kp [] H H2 by walk_at "k")
    cases hd : inH d <;> rw [hd] at this <;> exact this
theorem c_form {T : Tx K mg} {l : Addr} {ws : List Str} {H : Hp} {Q : VK} {E : XK} (e : H l = some (.lst (ws.map V.str))) (hne : ws ≠ []) (hw : ∀ w ∈ ws, SS w 10000) (k : ∀ H', Kp [] H H' → Q (.bl (pr ws).isSome) H') : sp_is_form T [.ref l] H Q E := ⟨_, rfl, l, ws, rfl, e, hne, hw, k⟩

/-- lists of words -/
inductive Lw (H : Hp) : List V → List (List Str) → Prop
  | nil : Lw H [] []
  | cons {a : Addr} {ws : List Str} {vs : List V} {rs : List (List Str)} : H a = some (.lst (ws.map V.str)) → Lw H vs rs → Lw H (.ref a :: vs) (ws :: rs)
theorem Lw.kp {H H1 : Hp} {vs : List V} {rs : List (List Str)} (h : Lw H vs rs) (k : Kp [] H H1) : Lw H1 vs rs := by
  induction h with
  | nil => exact .nil
  | cons e _ ih => exact .cons (k.get0 e) ih
theorem Lw.kpf {H H1 : Hp} {vs : List V} {rs : List (List Str)} {ps : List Addr} (h : Lw H vs rs) (k : Kp ps H H1) (n : ∀ p ∈ ps, H p = none) : Lw H1 vs rs := h.kp (k.all n)
theorem Lw.at {H : Hp} {vs : List V} {rs : List (List Str)} (h : Lw H vs rs) {i : Nat} {x : V} (e : vs[i]? = some x) : ∃ a ws, x = .ref a ∧ rs[i]? = some ws ∧ H a = some (.lst (ws.map V.str)) := by
  induction h generalizing i with
  | nil => simp at e
  | @cons a ws vs rs e1 _ ih =>
    cases i with
    | zero => exact ⟨a, ws, by simpa using e.symm, rfl, e1⟩
    | succ i => exact ih (by simpa using e)
theorem Lw.app {H : Hp} {vs : List V} {rs : List (List Str)} {a : Addr} {ws : List Str} (h : Lw H vs rs) (e : H a = some (.lst (ws.map V.str))) : Lw H (vs ++ [.ref a]) (rs ++ [ws]) := by
  induction h with
  | nil => exact .cons e .nil
  | cons e1 _ ih => exact .cons e1 ih
theorem Lw.len {H : Hp} {vs : List V} {rs : List (List Str)} (h : Lw H vs rs) : vs.length = rs.length := by
  induction h with
  | nil => rfl
  | cons e _ ih => simp [ih]

def rws (z : Str) : List Str := if z = "" then [] else Txt.split z "\n"
theorem rws_ss {z r : Str} (h : SS z 10000) (m : r ∈ rws z) : SS r 10000 := by
  unfold rws at m
  split at m
  · cases m
  · exact split_ss h m
theorem rws_len {z : Str} (h : SS z 10000) : (rws z).length ≤ 10001 := by
  unfold rws
  split
  · simp
  · have := split_many (z := z) (a := "\n") (by decide +kernel)
    have := h.len
    omega
theorem w8_head (q : R8) : ∃ z zs, w8 q = z :: zs ∧ (["place", "stretch", "long"] : List Str)[so8 q]? = some z ∧ (∀ m, m < so8 q → (["place", "stretch", "long"] : List Str)[m]? ≠ some z) := by
  cases q with
  | p n d => exact ⟨"place", _, rfl, rfl, fun m hm => by simp [so8] at hm⟩
  | s k h =>
    refine ⟨"stretch", _, rfl, rfl, fun m hm => ?_⟩
    have : m = 0 := by simp [so8] at hm; omega
    subst this
    decide +kernel
  | l a b h =>
    refine ⟨"long", _, rfl, rfl, fun m hm => ?_⟩
    have : m = 0 ∨ m = 1 := by simp [so8] at hm; omega
    rcases this with rfl | rfl <;> decide +kernel
def sp_rows_of (T : Tx K mg) : Sp := sp1 fun x H Q E => (∃ t, TyN H x t ∧ t ≠ .str ∧ ErF "row" T.C_NoText (.int 0) H E) ∨
  ∃ z, x = .str z ∧ SS z 10000 ∧ (∀ i, sc [] 0 (rws z) = .inl i → ErF "row" T.C_NoText (.int (1 + (i : Int))) H E) ∧ (∀ rs, sc [] 0 (rws z) = .inr rs → ∀ l vs H', H l = none → H' l = some (.lst vs) → Lw H' vs (rs.map w8) → Kp [] H H' → Q (.ref l) H')
set_option maxHeartbeats 16000000 in
theorem ok_rows_of (T : Tx K mg) : FnOk P w K mg base (L2.CX P w) 3 T.a_rows_of T.d_rows_of ["text"] (sp_rows_of T) := by
  have G_NoText_init := ok_NoText_init (P := P) (w := w) (base := base) T
  have G_is_form := ok_is_form (P := P) (w := w) (base := base) T
  refine T.F_rows_of.okX sc_rows_of (fun vs H Q E h => ?_) (fun cd A o s H vs Q E hr h => ?_)
  · obtain ⟨v0, rfl, h⟩ := h; rfl
  obtain ⟨v0, rfl, h⟩ := h
  refine ⟨_, (pss_cons (ps_if (pt_not (pt_val (pe_callB (c_isi (K := K) rfl) rfl T.z_isinstance bt_isinstance (pa_cons (pv 0) (pa_cons (pe_ty rfl T.z_str bt_str) pa_nil)))))
    (pss_one (ps_rz rfl T.er_NoText.oex T.er_NoText.iC T.er_NoText.tI G_NoText_init (hr.mono (by decide)) T.B_NoText_init rfl T.m_NoText (takes_of (E := E) rfl rfl rfl rfl) pe_int))
    pss_nil)
    (pss_cons (ps_set (i := 1) sc_rows_of.nd rfl (Or.inl rfl) (pe_lst pa_nil))
    (pss_cons (ps_set (i := 2) sc_rows_of.nd rfl (Or.inl rfl) pe_int)
    (pss_cons (ps_set (i := 3) sc_rows_of.nd rfl (Or.inl rfl) (pe_ifExp (pt_cmpR (o_ne (K := K) rfl hr) (pv 0) pe_str (nomark _)) (pe_split (pv 0) pe_str) (pe_lst pa_nil)))
    (pss_cons (ps_for PassesOwn.leaving rfl (pi_enumS (K := K) rfl rfl T.z_enumerate (pa_cons (pv 3) (pa_cons pe_int pa_nil))) (pg_tupK (K := K) (n := 2) rfl rfl (pgs_cons (pg_name (i := 4) sc_rows_of.nd rfl (Or.inl rfl)) (pgs_cons (pg_name (i := 5) sc_rows_of.nd rfl (Or.inl rfl)) pgs_nil)))
    (pss_cons (ps_set (i := 6) sc_rows_of.nd rfl (Or.inl rfl) (pe_split (pv 5) pe_str))
    (pss_cons (ps_if (PW.pt (pw_or (pt_not (pt_val (pe_co G_is_form (hr.mono (by decide)) rfl T.m_is_form T.F_is_form.kp T.B_is_form (takes_of (E := E) rfl rfl rfl rfl) (pa_cons (pv 6) pa_nil)))) (pw_or1 (pt_cmpR o_lt (pe_bmK (K := K) rfl PySem.F.plainAttrs_tuple PySem.F.slot_tuple_index PySem.F.type_tuple_index (mt_tix (K := K) rfl) (pe_glob rfl T.mt_SORTS (show RelV (V.ref T.t_SORTS) (Value.ref T.t_SORTS) from rfl)) (pa_cons (pe_ix (ix_u (K := K) rfl) (pv 6) pe_int (fun _ _ => rfl)) pa_nil)) (pv 2) (nomark _)))))
    (pss_one (ps_rz rfl T.er_NoText.oex T.er_NoText.iC T.er_NoText.tI G_NoText_init (hr.mono (by decide)) T.B_NoText_init rfl T.m_NoText (takes_of (E := E) rfl rfl rfl rfl) (pv 4)))
    pss_nil)
    (pss_cons (ps_set (i := 2) sc_rows_of.nd rfl (Or.inl rfl) (pe_bmK (K := K) rfl PySem.F.plainAttrs_tuple PySem.F.slot_tuple_index PySem.F.type_tuple_index (mt_tix (K := K) rfl) (pe_glob rfl T.mt_SORTS (show RelV (V.ref T.t_SORTS) (Value.ref T.t_SORTS) from rfl)) (pa_cons (pe_ix (ix_u (K := K) rfl) (pv 6) pe_int (fun _ _ => rfl)) pa_nil)))
    (pss_one (ps_expr (pe_bm PySem.F.plainAttrs_list PySem.F.slot_list_append PySem.F.type_list_append mt_append (pv 1) (pa_cons (pv 6) pa_nil))))))))
    (pss_one (ps_ret (pv 1)))))))), ?_⟩
  rw [st_rows_of]
  rcases h with ⟨t, ht, hn, k⟩ | ⟨z, rfl, hz, kE, k⟩
  · cases ht <;> walk_at "u"
    all_goals first
      | exact k
      | exact (hn rfl).elim
  have hrs := fun r => rws_ss (r := r) hz
  have hrm := rws_len hz
  walk_at "u"
  walk_at "na"
  intro l1 H1 f1 e1 k1
  walk_at "s"
  refine s_seq ?_
  walk_at "s"
  refine jS (fun σ H2 => Kp [] H H2 ∧ H2 l1 = some (.lst []) ∧ ∃ l2, H2 l2 = some (.lst ((rws z).map V.str)) ∧ H1 l2 = none ∧ σ = [some (.str z), some (.ref l1), some (.int 0), some (.ref l2), none, none, none]) ?_ ?_
  rotate_left
  · intro u' key
    walk_at "u"
    refine s_itn (fun h => ?_) (fun h => ?_)
    · walk_at "u"
      refine s_spl3 (z := z) (sep := "\n") (by decide +kernel) (zle2 (by have := hz.len; omega)) (show _ = rws z by unfold rws; rw [if_neg h]) fun l2 H2 f2 e2 k2 => ?_
      walk_at "u"
      exact key _ _ ⟨by walk_at "k", by walk_at "g", l2, e2, f2, rfl⟩
    · walk_at "u"
      walk_at "na"
      intro l2 H2 f2 e2 k2
      walk_at "u"
      exact key _ _ ⟨by walk_at "k", by walk_at "g", l2, by rw [show rws z = [] by unfold rws; rw [if_pos h]]; exact e2, f2, rfl⟩
  rintro σ H2 ⟨k2, e12, l2, e2, f2, rfl⟩
  have n12 : l2 ≠ l1 := by walk_at "ne"
  have f10 : H l1 = none := by walk_at "f"
  clear k1 e1
  generalize rws z = rows at *
  walk_at "u"
  refine s_eS e2 (by omega) ?_
  have fl1 : Fz H l1 := ⟨f10⟩
  clear f1 f2 f10
  refine for_eS e2 (fun i σ H' => Kp [] H H' ∧ Kp [l1] H2 H' ∧ (∃ (vs : List V) (rs : List R8), H' l1 = some (.lst vs) ∧ Lw (hid [l1] H') vs (rs.map w8) ∧ sc [] 0 rows = sc rs i (rows.drop i) ∧ vs.length = i ∧ ∃ u4 u5 u6, σ = [some (.str z), some (.ref l1), some (.int (la8 rs : Nat)), some (.ref l2), u4, u5, u6])) ⟨k2, Kp.refl, [], [], e12, .nil, by simp, rfl, _, _, _, rfl⟩ (fun i σ' H' q o e => q.2.1.get1 e n12) ?_ ?_
  · rintro i x σ H3 u H4 ex ⟨k3, k23, vs, rs, e3, hL, hg, lv, u4, u5, u6, rfl⟩ fu eu k4
    rw [List.getElem?_map] at ex
    obtain ⟨r, er, rfl⟩ := Option.map_eq_some_iff.mp ex
    obtain ⟨hi, eri⟩ := List.getElem?_eq_some_iff.mp er
    have hr' := hrs r (List.mem_of_getElem? er)
    rw [List.drop_eq_getElem_cons hi, eri] at hg
    have z23 : Kz [l1] H2 H3 := ⟨k23⟩
    clear k23
    have z2 := k2
    clear k2
    have bad : sc rs i (r :: rows.drop (i + 1)) = .inl i → ∀ H5, Kp [] H H5 → ErF "row" T.C_NoText (.int (1 + (i : Int))) H5 E := fun hb H5 k5 => (kE i (hg.trans hb)).kp k5
    walk_at "u"
    have hsw : ∀ w ∈ Txt.split r " ", SS w 10000 := fun w hw => split_ss hr' hw
    have hne := split_ne (z := r) (a := " ")
    refine s_spl3 (z := r) (sep := " ") (by decide +kernel) (zle2 (by have := hr'.len; omega)) (show _ = wsp r from rfl) fun l5 H5 f5 e5 k5 => ?_
    walk_at "u"
    refine c_form e5 hne hsw fun H6 k6 => ?_
    cases hp : pr (wsp r) with
    | none =>
      walk_at "u"
      exact bad (sc_no hp) _ (by walk_at "k")
    | some q =>
      obtain ⟨ew, _⟩ := pr_ok hp
      obtain ⟨z', zs, ez, iz, nz⟩ := w8_head q
      have e6 : H6 l5 = some (.lst (.str z' :: zs.map V.str)) := by
        have : H6 l5 = some (.lst ((wsp r).map V.str)) := by walk_at "g"
        rw [this, ew, ez]
        rfl
      walk_at "u"
      refine s_tyK T.kt_SORTS ?_
      walk_at "u"
      refine s_ixl e6 at0 ?_
      walk_at "u"
      refine s_tix (zs := ["place", "stretch", "long"]) T.kt_SORTS iz nz ?_
      walk_at "u"
      refine s_ite (fun h => ?_) (fun h => ?_)
      · walk_at "u"
        exact bad (sc_lt hp (by omega)) _ (by walk_at "k")
      walk_at "u"
      refine s_tyK T.kt_SORTS ?_
      walk_at "u"
      refine s_ixl e6 at0 ?_
      walk_at "u"
      refine s_tix (zs := ["place", "stretch", "long"]) T.kt_SORTS iz nz ?_
      walk_at "u"
      refine s_app (xs := vs) (by walk_at "g") (zlt (by omega)) fun H7 e7 k7 => ?_
      walk_at "u"
      have nw : l5 ≠ l1 := by walk_at "ne"
      have z37 : Kz [l1] H3 H7 := ⟨by walk_at "k"⟩
      have ew7 : H7 l5 = some (.lst ((w8 q).map V.str)) := by
        have : H7 l5 = some (.lst ((wsp r).map V.str)) := by walk_at "g"
        rw [this, ew]
      refine ⟨Kp.step k3 z37.k (by simpa using fl1.f), z23.k.trans z37.k, vs ++ [.ref l5], rs ++ [q], e7, ?_, hg.trans (sc_go hp (by omega)), by simp [lv], _, _, _, by rw [la8_app]⟩
      rw [List.map_append]
      exact (hL.kp (hid_kp z37.k (by simp))).app (hid_of ew7 (by simpa using nw))
  · rintro σ H3 ⟨k3, k23, vs, rs, e3, hL, hg, lv, u4, u5, u6, rfl⟩
    rw [List.length_map, List.drop_of_length_le (Nat.le_refl _)] at hg
    walk_at "u"
    exact k rs (hg.trans rfl) l1 vs H3 fl1.f e3 (hL.kp hid_le) k3

/-! a line's names -/
def L8 (T : Tx K mg) (H : Hp) (p : Addr) (pl : Pl) : Prop := ∃ (tp : Addr) (b c : V) (vp : List V), At_Line T H p (.ref tp) b c ∧ H tp = some (.tup vp) ∧ Rw H vp (rP pl)
def sp_Line_names (T : Tx K mg) : Sp := sp1 fun x H Q _ => ∃ (p : Addr) (pl : Pl), x = .ref p ∧ L8 T H p pl ∧ pl.length ≤ 10 ∧ ∀ l H', H l = none → H' l = some (.lst ((pl.map (·.1)).map V.str)) → Kp [] H H' → Q (.ref l) H'
set_option maxHeartbeats 16000000 in
theorem ok_Line_names (T : Tx K mg) : FnOk P w K mg base (L2.CX P w) 1 T.a_Line_names T.d_Line_names ["self"] (sp_Line_names T) := by
  refine T.F_Line_names.okX sc_Line_names (fun vs H Q E h => ?_) (fun cd A o s H vs Q E hr h => ?_)
  · obtain ⟨v0, rfl, h⟩ := h; rfl
  obtain ⟨v0, rfl, h⟩ := h
  obtain ⟨p, pl, rfl, ⟨tp, b, c, vp, hL, e1, r1⟩, l10, k⟩ := h
  refine ⟨_, (pss_one (ps_ret (pe_lc (own := [("name", 1), ("roads", 2)]) rfl sc_Line_names.nd (pi_tpl (K := K) rfl (pe_fd (K := K) rfl (pv 0) rfl)) (blkOk_by (own := [("name", 1), ("roads", 2)]) (N := N_Line_names) (sc := defScope s_Line_names) (by decide +kernel)) (fun _ _ _ _ _ => (pg_tupK (K := K) (n := 2) rfl rfl (pgs_cons (pg_name (i := 1) sc_Line_names.nd rfl (Or.inl rfl)) (pgs_cons (pg_name (i := 2) sc_Line_names.nd rfl (Or.inl rfl)) pgs_nil)))) (fun _ _ _ _ _ => pts_nil) (fun _ _ _ _ _ => (pv 1))))), ?_⟩
  rw [st_Line_names]
  have lp : vp.length = pl.length := by rw [r1.len]; simp [rP]
  walk_at "u"
  intro D hD
  refine lc_T e1 hD (fun i acc H' => Kp [D] H H' ∧ acc = ((pl.map (·.1)).take i).map V.str) (fun H1 e4 k1 => ⟨by walk_at "k", rfl⟩) (fun i acc H' p xs e => p.1.tgt e) ?_ ?_
  · rintro i x acc H' ex ea ⟨k1, rfl⟩
    obtain ⟨u, r, rfl, er, eu⟩ := r1.at ex
    obtain ⟨q, eq, rfl⟩ := rP_at er
    walk_at "u"
    refine ⟨rfl, ?_⟩
    walk_at "u"
    refine PvD.add ea (by simp; omega) fun H2 e2 k2 => ⟨by walk_at "k", ?_⟩
    rw [take_one (x := q.1) (by simp [eq]), List.map_append]
    rfl
  · rintro acc H' ea ⟨k1, rfl⟩
    walk_at "u"
    rw [List.take_of_length_le (by simp; omega)] at ea
    exact k D H' hD ea (k1.drop hD)
theorem c_names {T : Tx K mg} {p : Addr} {pl : Pl} {H : Hp} {Q : VK} {E : XK} (h : L8 T H p pl) (l : pl.length ≤ 10) (k : ∀ l H', H l = none → H' l = some (.lst ((pl.map (·.1)).map V.str)) → Kp [] H H' → Q (.ref l) H') : sp_Line_names T [.ref p] H Q E := ⟨_, rfl, p, pl, rfl, h, l, k⟩
theorem ix_at {ns : List Str} {z : Str} (h : z ∈ ns) : ns[ns.idxOf z]? = some z := by
  rw [List.getElem?_eq_getElem (List.idxOf_lt_length_of_mem h)]
  simp
theorem L8.kp {T : Tx K mg} {H H1 : Hp} {p : Addr} {pl : Pl} (h : L8 T H p pl) (k : Kp [] H H1) : L8 T H1 p pl := by
  obtain ⟨tp, b, c, vp, ⟨dx, e⟩, e1, r⟩ := h
  exact ⟨tp, b, c, vp, ⟨dx, k.get0 e⟩, k.get0 e1, r.kp k⟩
def sp_Line_number_of (T : Tx K mg) : Sp := sp2 fun x y H Q E => ∃ (p : Addr) (pl : Pl) (z : Str), x = .ref p ∧ y = .str z ∧ L8 T H p pl ∧ pl.length ≤ 10 ∧ isName (.str z) = true ∧ (pl.map (·.1)).Nodup ∧ (z ∈ pl.map (·.1) → ∀ H', Kp [] H H' → Q (.int (ix8 (pl.map (·.1)) z)) H') ∧ (z ∉ pl.map (·.1) → ErF "found" T.C_NoPlace (.str z) H E)
set_option maxHeartbeats 16000000 in
theorem ok_Line_number_of (T : Tx K mg) : FnOk P w K mg base (L2.CX P w) 3 T.a_Line_number_of T.d_Line_number_of ["self", "name"] (sp_Line_number_of T) := by
  have G_NoPlace_init := ok_NoPlace_init (P := P) (w := w) (base := base) T
  have G_is_name := ok_is_name (P := P) (w := w) (base := base) T
  have G_Line_names := ok_Line_names (P := P) (w := w) (base := base) T
  refine T.F_Line_number_of.okX sc_Line_number_of (fun vs H Q E h => ?_) (fun cd A o s H vs Q E hr h => ?_)
  · obtain ⟨v0, v1, rfl, h⟩ := h; rfl
  obtain ⟨v0, v1, rfl, h⟩ := h
  obtain ⟨p, pl, z, rfl, rfl, hL, l10, hz, nd, k, kE⟩ := h
  refine ⟨_, (pss_cons (ps_if (PW.pt (pw_or (pt_not (pt_val (pe_co G_is_name (hr.mono (by decide)) rfl T.m_is_name T.F_is_name.kp T.B_is_name (takes_of (E := E) rfl rfl rfl rfl) (pa_cons (pv 1) pa_nil)))) (pw_or1 (pt_cmpR (o_notin (K := K) rfl) (pv 1) (pe_mo0 T.cl_Line T.M_Line_names G_Line_names (hr.mono (by decide)) T.B_Line_names (takes_of (E := E) rfl rfl rfl rfl) (pv 0)) rfl))))
    (pss_one (ps_rz rfl T.er_NoPlace.oex T.er_NoPlace.iC T.er_NoPlace.tI G_NoPlace_init (hr.mono (by decide)) T.B_NoPlace_init rfl T.m_NoPlace (takes_of (E := E) rfl rfl rfl rfl) (pv 1)))
    pss_nil)
    (pss_one (ps_ret (pe_bm PySem.F.plainAttrs_list PySem.F.slot_list_index PySem.F.type_list_index (mt_ix (K := K) rfl) (pe_mo0 T.cl_Line T.M_Line_names G_Line_names (hr.mono (by decide)) T.B_Line_names (takes_of (E := E) rfl rfl rfl rfl) (pv 0)) (pa_cons (pv 1) pa_nil))))), ?_⟩
  rw [st_Line_number_of]
  have hL' := hL
  obtain ⟨tp, b, c, vp, hA, e1, r1⟩ := hL'
  walk_at "u"
  refine c_name ((name_ss hz).mono (by omega)) fun H1 k1 => ?_
  rw [hz]
  walk_at "u"
  refine c_names (hL.kp k1) l10 fun l H2 f2 e2 k2 => ?_
  walk_at "u"
  by_cases mz : z ∈ pl.map (·.1)
  · rw [decide_eq_true mz]
    walk_at "u"
    refine c_names ((hL.kp k1).kp k2) l10 fun l3 H3 f3 e3 k3 => ?_
    walk_at "u"
    refine s_indexS (SqL.of e3) (ix_at mz) nd ?_
    walk_at "u"
    exact k mz _ (by walk_at "k")
  · rw [decide_eq_false mz]
    walk_at "u"
    exact (kE mz).kp (k1.trans k2)
theorem c_num {T : Tx K mg} {p : Addr} {pl : Pl} {z : Str} {H : Hp} {Q : VK} {E : XK} (h : L8 T H p pl) (l : pl.length ≤ 10) (hz : isName (.str z) = true) (nd : (pl.map (·.1)).Nodup) (k : z ∈ pl.map (·.1) → ∀ H', Kp [] H H' → Q (.int (ix8 (pl.map (·.1)) z)) H') (kE : z ∉ pl.map (·.1) → ErF "found" T.C_NoPlace (.str z) H E) : sp_Line_number_of T [.ref p, .str z] H Q E := ⟨_, _, rfl, p, pl, z, rfl, rfl, h, l, hz, nd, k, kE⟩
/-! a line read -/
theorem dg_int {d : Str} (h : dg d = true) : PySem.intText? d = some (dgV d) ∧ d.length = 1 ∧ 0 ≤ dgV d ∧ dgV d ≤ 9 := by
  have h1 : d.length = 1 := by
    unfold dg at h
    rw [Bool.and_eq_true, decide_eq_true_eq] at h
    exact h.1
  obtain ⟨c, rfl, e⟩ := dg_one h1
  rw [e, decide_eq_true_eq] at h
  have ev : dgV ⟨#[c]⟩ = ((c - 48 : Nat) : Int) := rfl
  refine ⟨?_, h1, by rw [ev]; omega, by rw [ev]; omega⟩
  have hc : c = 48 ∨ c = 49 ∨ c = 50 ∨ c = 51 ∨ c = 52 ∨ c = 53 ∨ c = 54 ∨ c = 55 ∨ c = 56 ∨ c = 57 := by omega
  rcases hc with rfl | rfl | rfl | rfl | rfl | rfl | rfl | rfl | rfl | rfl <;> decide +kernel
theorem hm8 {h : Str} (e : inH h = true) : ∃ j : Nat, (["low", "high"] : List Str)[j]? = some h ∧ (∀ m, m < j → (["low", "high"] : List Str)[m]? ≠ some h) ∧ ((j : Nat) : Int) = hV h ∧ (h = "low" ∨ h = "high") := by
  have e := of_decide_eq_true e
  simp only [List.mem_cons, List.not_mem_nil, or_false] at e
  rcases e with rfl | rfl
  · exact ⟨0, rfl, fun m hm => by omega, by decide +kernel, Or.inl rfl⟩
  · refine ⟨1, rfl, fun m hm => ?_, by decide +kernel, Or.inr rfl⟩
    obtain rfl : m = 0 := by omega
    decide +kernel
theorem hV01 (h : Str) : 0 ≤ hV h ∧ hV h ≤ 1 := by unfold hV; split <;> omega
theorem fp_ok {rs : List R8} (h : ∀ r ∈ rs, ok8 r) : ∀ q ∈ rs.filterMap fp, isName (.str q.1) = true ∧ 0 ≤ q.2 ∧ q.2 ≤ 9 := by
  intro q hq
  obtain ⟨r, hr, e⟩ := List.mem_filterMap.mp hq
  cases r with
  | p n d => cases e; obtain ⟨h1, h2⟩ := h _ hr; exact ⟨h1, (dg_int h2).2.2⟩
  | s k h => cases e
  | l a b h => cases e
theorem fs_ok {rs : List R8} (h : ∀ r ∈ rs, ok8 r) : ∀ q ∈ rs.filterMap fs, inK q.1 = true ∧ 0 ≤ q.2 ∧ q.2 ≤ 1 := by
  intro q hq
  obtain ⟨r, hr, e⟩ := List.mem_filterMap.mp hq
  cases r with
  | p n d => cases e
  | s k g => cases e; exact ⟨(h _ hr).1, hV01 g⟩
  | l a b h => cases e
theorem f_le {β : Type} (f : R8 → Option β) {rs : List R8} (h : rs.length ≤ 10001) : (rs.filterMap f).length ≤ 10001 := Nat.le_trans (List.length_filterMap_le f _) h
abbrev pl8 (rs : List R8) : Pl := rs.filterMap fp
abbrev st8 (rs : List R8) : Pl := rs.filterMap fs
abbrev ln8 (rs : List R8) : Ln8 := rs.filterMap fl
abbrev nm8 (rs : List R8) : List Str := (pl8 rs).map (·.1)
/-- the three lists of a reading, of whatever kind the reader -/
def Rd8 (T : Tx K mg) (rs : List R8) (H : Hp) (Q : VK) (E : XK) : Prop :=
  (∀ c d, due0 (pl8 rs) (st8 rs) = some (c, d) → ∀ w H1, Kp [] H H1 → Dn K H1 w d → ErF "found" (cl T c) w H1 E) ∧
  (∀ z, due0 (pl8 rs) (st8 rs) = none → badN (nm8 rs) (ln8 rs) = some z → ErF "found" T.C_NoPlace (.str z) H E) ∧
  (∀ c d, due0 (pl8 rs) (st8 rs) = none → badN (nm8 rs) (ln8 rs) = none → lDue (lo8 (nm8 rs) (ln8 rs)) ((pl8 rs).length : Int) = some (c, d) → ∀ w H1, Kp [] H H1 → Dn K H1 w d → ErF "found" (cl T c) w H1 E) ∧
  (due0 (pl8 rs) (st8 rs) = none → badN (nm8 rs) (ln8 rs) = none → lDue (lo8 (nm8 rs) (ln8 rs)) ((pl8 rs).length : Int) = none → ∀ (p tp ts tl : Addr) (vp vs vl : List V) (H' : Hp), At_Line T H' p (.ref tp) (.ref ts) (.ref tl) → H' tp = some (.tup vp) → H' ts = some (.tup vs) → H' tl = some (.tup vl) → Rw H' vp (rP (pl8 rs)) → Rw H' vs (rP (st8 rs)) → Rw H' vl (rL (lo8 (nm8 rs) (ln8 rs))) → Kp [] H H' → Q (.ref p) H')
def sp_read_line (T : Tx K mg) : Sp := sp1 fun x H Q E => (∃ t, TyN H x t ∧ t ≠ .str ∧ ErF "row" T.C_NoText (.int 0) H E) ∨
  ∃ z, x = .str z ∧ SS z 10000 ∧ (∀ i, sc [] 0 (rws z) = .inl i → ErF "row" T.C_NoText (.int (1 + (i : Int))) H E) ∧ (∀ rs, sc [] 0 (rws z) = .inr rs → Rd8 T rs H Q E)
theorem badN_no1 {ns : List Str} {q : Str × Str × Int} {r : Ln8} (h : q.1 ∉ ns) : badN ns (q :: r) = some q.1 := by simp only [badN, if_neg h]
theorem badN_no2 {ns : List Str} {q : Str × Str × Int} {r : Ln8} (h1 : q.1 ∈ ns) (h : q.2.1 ∉ ns) : badN ns (q :: r) = some q.2.1 := by simp only [badN, if_pos h1, if_neg h]
theorem badN_go {ns : List Str} {q : Str × Str × Int} {r : Ln8} (h1 : q.1 ∈ ns) (h : q.2.1 ∈ ns) : badN ns (q :: r) = badN ns r := by simp only [badN, if_pos h1, if_pos h]
theorem tg_L {H : Hp} {l : Addr} {lo : Lo} {vl : List V} {n : Nat} (e : H l = some (.lst vl)) (r : Rw H vl (rL lo)) (hn : n ≤ 10) (hq : ∀ q ∈ lo, (0 ≤ q.1 ∧ q.1 ≤ n) ∧ (0 ≤ q.2.1 ∧ q.2.1 ≤ n) ∧ 0 ≤ q.2.2 ∧ q.2.2 ≤ 1) (hl : lo.length ≤ 10001) : Tg K H [l] 3 (.ref l) := by
  have := r.len
  rw [rL_len] at this
  refine .lst (F := []) e (by simp) (by simp) (by simp) (by omega) fun x hx => ?_
  obtain ⟨i, hi⟩ := List.getElem?_of_mem hx
  obtain ⟨u, r', rfl, er, eu⟩ := r.at hi
  obtain ⟨q, eq, rfl⟩ := rL_at er
  obtain ⟨s1, s2, s3⟩ := hq q (List.mem_of_getElem? eq)
  have b : ∀ i : Int, i.natAbs ≤ 1000 → i.natAbs < 10 ^ 40 := fun i h => Nat.lt_of_le_of_lt h (by decide +kernel)
  refine .tup eu (by simp) fun y hy => ?_
  simp only [List.mem_cons, List.not_mem_nil, or_false] at hy
  rcases hy with rfl | rfl | rfl
  · exact .int (b _ (by omega))
  · exact .int (b _ (by omega))
  · exact .int (b _ (by omega))
theorem lo8_ok {ns : List Str} {ln : Ln8} {n : Nat} (hn : ns.length ≤ n) (h : ∀ q ∈ ln, 0 ≤ q.2.2 ∧ q.2.2 ≤ 1) : ∀ q ∈ lo8 ns ln, (0 ≤ q.1 ∧ q.1 ≤ n) ∧ (0 ≤ q.2.1 ∧ q.2.1 ≤ n) ∧ 0 ≤ q.2.2 ∧ q.2.2 ≤ 1 := by
  intro q hq
  obtain ⟨x, hx, rfl⟩ := List.mem_map.mp hq
  have := h x hx
  have a : ∀ z, 0 ≤ ix8 ns z ∧ ix8 ns z ≤ n := fun z => by
    have : ns.idxOf z ≤ ns.length := List.idxOf_le_length
    unfold ix8
    omega
  exact ⟨a _, a _, this⟩
theorem fl_ok (rs : List R8) : ∀ q ∈ rs.filterMap fl, 0 ≤ q.2.2 ∧ q.2.2 ≤ 1 := by
  intro q hq
  obtain ⟨r, hr, e⟩ := List.mem_filterMap.mp hq
  cases r with
  | p n d => cases e
  | s k g => cases e
  | l a b h => cases e; exact hV01 h

set_option maxHeartbeats 16000000 in
theorem ok_read_line (T : Tx K mg) : FnOk P w K mg base (L2.CX P w) 6 T.a_read_line T.d_read_line ["text"] (sp_read_line T) := by
  have G_rows_of := ok_rows_of (P := P) (w := w) (base := base) T
  have G_Line_init := ok_Line_init (P := P) (w := w) (base := base) T
  have G_Line_number_of := ok_Line_number_of (P := P) (w := w) (base := base) T
  refine T.F_read_line.okX sc_read_line (fun vs H Q E h => ?_) (fun cd A o s H vs Q E hr h => ?_)
  · obtain ⟨v0, rfl, h⟩ := h; rfl
  obtain ⟨v0, rfl, h⟩ := h
  refine ⟨_, (pss_cons (ps_set (i := 1) sc_read_line.nd rfl (Or.inl rfl) (pe_co G_rows_of (hr.mono (by decide)) rfl T.m_rows_of T.F_rows_of.kp T.B_rows_of (takes_of (E := E) rfl rfl rfl rfl) (pa_cons (pv 0) pa_nil)))
    (pss_cons (ps_setLc (i := 2) (own := [("words", 6)]) rfl sc_read_line.nd rfl rfl (sw_true rfl rfl rfl (by decide +kernel)) (pi_lst (K := K) rfl (pv 1)) (blkOk_by (own := [("words", 6)]) (N := N_read_line) (sc := defScope s_read_line) (by decide +kernel)) (fun _ _ _ _ _ => (pg_name (i := 6) sc_read_line.nd rfl (Or.inl rfl))) (fun _ _ _ _ _ => (pts_one (pt_cmpR (o_eq (K := K) rfl hr) (pe_ix (ix_u (K := K) rfl) (pv 6) pe_int (fun _ _ => rfl)) pe_str (nomark _)))) (fun _ _ _ _ _ => (pe_tup (pa_cons (pe_ix (ix_u (K := K) rfl) (pv 6) pe_int (fun _ _ => rfl)) (pa_cons (pe_callTy c_intS rfl T.z_int bt_int (pa_cons (pe_ix (ix_u (K := K) rfl) (pv 6) pe_int (fun _ _ => rfl)) pa_nil)) pa_nil)))))
    (pss_cons (ps_setLc (i := 3) (own := [("words", 6)]) rfl sc_read_line.nd rfl rfl (sw_true rfl rfl rfl (by decide +kernel)) (pi_lst (K := K) rfl (pv 1)) (blkOk_by (own := [("words", 6)]) (N := N_read_line) (sc := defScope s_read_line) (by decide +kernel)) (fun _ _ _ _ _ => (pg_name (i := 6) sc_read_line.nd rfl (Or.inl rfl))) (fun _ _ _ _ _ => (pts_one (pt_cmpR (o_eq (K := K) rfl hr) (pe_ix (ix_u (K := K) rfl) (pv 6) pe_int (fun _ _ => rfl)) pe_str (nomark _)))) (fun _ _ _ _ _ => (pe_tup (pa_cons (pe_ix (ix_u (K := K) rfl) (pv 6) pe_int (fun _ _ => rfl)) (pa_cons (pe_bmK (K := K) rfl PySem.F.plainAttrs_tuple PySem.F.slot_tuple_index PySem.F.type_tuple_index (mt_tix (K := K) rfl) (pe_glob rfl T.mt_HOMES (show RelV (V.ref T.t_HOMES) (Value.ref T.t_HOMES) from rfl)) (pa_cons (pe_ix (ix_u (K := K) rfl) (pv 6) pe_int (fun _ _ => rfl)) pa_nil)) pa_nil)))))
    (pss_cons (ps_set (i := 4) sc_read_line.nd rfl (Or.inl rfl) (pe_nwD T.mk_Line G_Line_init (hr.mono (by decide)) rfl T.m_Line T.Bp_Line_init (takes_of (E := E) rfl rfl rfl rfl) (pa_cons (pv 2) (pa_cons (pv 3) pa_nil))))
    (pss_cons (ps_set (i := 5) sc_read_line.nd rfl (Or.inl rfl) (pe_lst pa_nil))
    (pss_cons (ps_for PassesOwn.leaving rfl (pi_lst (K := K) rfl (pv 1)) (pg_name (i := 6) sc_read_line.nd rfl (Or.inl rfl))
    (pss_one (ps_if (pt_cmpR (o_eq (K := K) rfl hr) (pe_ix (ix_u (K := K) rfl) (pv 6) pe_int (fun _ _ => rfl)) pe_str (nomark _))
    (pss_one (ps_expr (pe_bm PySem.F.plainAttrs_list PySem.F.slot_list_append PySem.F.type_list_append mt_append (pv 5) (pa_cons (pe_tup (pa_cons (pe_mo T.cl_Line T.M_Line_number_of G_Line_number_of (hr.mono (by decide)) T.B_Line_number_of (takes_of (E := E) rfl rfl rfl rfl) (pv 4) (pa_cons (pe_ix (ix_u (K := K) rfl) (pv 6) pe_int (fun _ _ => rfl)) pa_nil)) (pa_cons (pe_mo T.cl_Line T.M_Line_number_of G_Line_number_of (hr.mono (by decide)) T.B_Line_number_of (takes_of (E := E) rfl rfl rfl rfl) (pv 4) (pa_cons (pe_ix (ix_u (K := K) rfl) (pv 6) pe_int (fun _ _ => rfl)) pa_nil)) (pa_cons (pe_bmK (K := K) rfl PySem.F.plainAttrs_tuple PySem.F.slot_tuple_index PySem.F.type_tuple_index (mt_tix (K := K) rfl) (pe_glob rfl T.mt_HOMES (show RelV (V.ref T.t_HOMES) (Value.ref T.t_HOMES) from rfl)) (pa_cons (pe_ix (ix_u (K := K) rfl) (pv 6) pe_int (fun _ _ => rfl)) pa_nil)) pa_nil)))) pa_nil))))
    pss_nil)))
    (pss_one (ps_ret (pe_nw T.mk_Line G_Line_init (hr.mono (by decide)) rfl T.m_Line T.B_Line_init (takes_of (E := E) rfl rfl rfl rfl) (pa_cons (pv 2) (pa_cons (pv 3) (pa_cons (pv 5) pa_nil)))))))))))), ?_⟩
  rw [st_read_line]
  rcases h with ⟨t, ht, hn, k⟩ | ⟨z, rfl, hz, kE, k⟩
  · walk_at "u"
    exact ⟨_, rfl, Or.inl ⟨t, ht, hn, k⟩⟩
  have rl := rws_len hz
  walk_at "u"
  refine ⟨_, rfl, Or.inr ⟨z, rfl, hz, kE, fun rs er rw' vr H1 f1 e1 L1 k1 => ?_⟩⟩
  obtain ⟨hok, lrs⟩ := sc_ok er (by simp)
  have hk := k rs er
  clear k kE er
  have lr : vr.length = rs.length := by rw [L1.len, List.length_map]
  have lrs : rs.length ≤ 10001 := by simp at lrs; omega
  walk_at "u"
  refine s_ilst (SqL.of e1) ?_
  intro D hD
  refine lc_L e1 hD (fun i acc H' => Kp [D] H1 H' ∧ acc.length ≤ i ∧ Rw H' acc (rP ((rs.take i).filterMap fp))) (fun H2 e2 k2 => ⟨by walk_at "k", by simp, .nil⟩) (fun i acc H' p o e => p.1.get1 e (by walk_at "ne")) ?_ ?_
  · rintro i x acc H2 ex ea ⟨k2, la, R⟩
    have hi := (List.getElem?_eq_some_iff.mp ex).1
    obtain ⟨a, ws, rfl, ew, el⟩ := (L1.kpf k2 (by simpa using hD)).at ex
    rw [List.getElem?_map] at ew
    obtain ⟨r, er, rfl⟩ := Option.map_eq_some_iff.mp ew
    have hG := hok r (List.mem_of_getElem? er)
    have na : a ≠ D := by
      obtain ⟨a', ws', e', _, ee⟩ := L1.at ex
      cases e'
      exact (Th.lst ee).ne hD
    cases r with
    | p n d =>
      have el : H2 a = some (.lst [.str "place", .str n, .str d]) := el
      obtain ⟨i1, i2, _⟩ := dg_int hG.2
      walk_at "u"
      refine ⟨rfl, ?_⟩
      walk_at "u"
      refine s_intS i1 (by omega) ?_
      walk_at "u"
      walk_at "na"
      intro t3 H3 f3 e3 k3
      refine PvD.add (acc := acc) (by walk_at "g") (by omega) fun H4 e4 k4 => ⟨by walk_at "k", by simp; omega, ?_⟩
      rw [fm_one fp er]
      unfold rP
      rw [List.map_append]
      exact ((R.kp k3).kp k4).app (.one (k4.tgt e3))
    | s kd h =>
      have el : H2 a = some (.lst [.str "stretch", .str kd, .str h]) := el
      walk_at "u"
      refine ⟨rfl, ?_⟩
      walk_at "u"
      refine PvD.skip ea ⟨k2, by omega, ?_⟩
      rw [fm_one fp er]
      simpa [fp] using R
    | l a1 b1 h =>
      have el : H2 a = some (.lst [.str "long", .str a1, .str b1, .str h]) := el
      walk_at "u"
      refine ⟨rfl, ?_⟩
      walk_at "u"
      refine PvD.skip ea ⟨k2, by omega, ?_⟩
      rw [fm_one fp er]
      simpa [fp] using R
  rintro vp H2 ep ⟨k2, _, R1⟩
  rw [lr, List.take_of_length_le (Nat.le_refl _)] at R1
  have L2 := L1.kpf k2 (by simpa using hD)
  have e2 : H2 rw' = some (.lst vr) := by walk_at "g"
  walk_at "u"
  refine s_ilst (SqL.of e2) ?_
  intro D3 hD3
  refine lc_L e2 hD3 (fun i acc H' => Kp [D3] H2 H' ∧ acc.length ≤ i ∧ Rw H' acc (rP ((rs.take i).filterMap fs))) (fun H3 e3 k3 => ⟨by walk_at "k", by simp, .nil⟩) (fun i acc H' p o e => p.1.get1 e (by walk_at "ne")) ?_ ?_
  · rintro i x acc H3 ex ea ⟨k3, la, R⟩
    have hi := (List.getElem?_eq_some_iff.mp ex).1
    obtain ⟨a, ws, rfl, ew, el⟩ := (L2.kpf k3 (by simpa using hD3)).at ex
    rw [List.getElem?_map] at ew
    obtain ⟨r, er, rfl⟩ := Option.map_eq_some_iff.mp ew
    have hG := hok r (List.mem_of_getElem? er)
    have na : a ≠ D3 := by
      obtain ⟨a', ws', e', _, ee⟩ := L2.at ex
      cases e'
      exact (Th.lst ee).ne hD3
    cases r with
    | p n d =>
      have el : H3 a = some (.lst [.str "place", .str n, .str d]) := el
      walk_at "u"
      refine ⟨rfl, ?_⟩
      walk_at "u"
      refine PvD.skip ea ⟨k3, by omega, ?_⟩
      rw [fm_one fs er]
      simpa [fs] using R
    | s kd h =>
      have el : H3 a = some (.lst [.str "stretch", .str kd, .str h]) := el
      obtain ⟨j, j1, j2, j3, _⟩ := hm8 hG.2
      walk_at "u"
      refine ⟨rfl, ?_⟩
      walk_at "u"
      refine s_tyK T.kt_HOMES ?_
      walk_at "u"
      refine s_tix (zs := ["low", "high"]) T.kt_HOMES j1 j2 ?_
      rw [j3]
      walk_at "u"
      walk_at "na"
      intro t4 H4 f4 e4 k4
      refine PvD.add (acc := acc) (by walk_at "g") (by omega) fun H5 e5 k5 => ⟨by walk_at "k", by simp; omega, ?_⟩
      rw [fm_one fs er]
      unfold rP
      rw [List.map_append]
      exact ((R.kp k4).kp k5).app (.one (k5.tgt e4))
    | l a1 b1 h =>
      have el : H3 a = some (.lst [.str "long", .str a1, .str b1, .str h]) := el
      walk_at "u"
      refine ⟨rfl, ?_⟩
      walk_at "u"
      refine PvD.skip ea ⟨k3, by omega, ?_⟩
      rw [fm_one fs er]
      simpa [fs] using R
  rintro vs H3 es ⟨k3, _, R2⟩
  rw [lr, List.take_of_length_le (Nat.le_refl _)] at R2
  have L3 := L2.kpf k3 (by simpa using hD3)
  have ep3 : H3 D = some (.lst vp) := by walk_at "g"
  have hPS : PS H3 D D3 (pl8 rs) (st8 rs) vp vs := ⟨ep3, es, R1.kp k3, R2, fp_ok hok, fs_ok hok, f_le fp lrs, f_le fs lrs⟩
  have z3 : Kz [] H H3 := ⟨by walk_at "k"⟩
  have er3 : H3 rw' = some (.lst vr) := by walk_at "g"
  clear R1 R2 ep es ep3 k2 k3 L1 L2 e1 e2 hD hD3 f1 k1
  obtain ⟨q1, q2, q3, q4⟩ := hk
  have d0 := hPS.d0 (K := K)
  obtain ⟨tg1, tg2⟩ := hPS.tg
  have tg1' : Tg K H3 [D, D3] 3 (.ref D) := tg1.mono (by simp) (Nat.le_refl _)
  have tg2' : Tg K H3 [D, D3] 3 (.ref D3) := tg2.mono (by simp) (Nat.le_refl _)
  have hTh : ∀ a ∈ [D, D3], ∃ i, Th H3 a i := by
    intro a ha
    simp only [List.mem_cons, List.not_mem_nil, or_false] at ha
    rcases ha with rfl | rfl
    · exact ⟨_, .lst hPS.ea⟩
    · exact ⟨_, .lst hPS.eb⟩
  walk_at "u"
  refine c_LineX tg1' tg2' .non hTh (fun c w e => ?_) (fun e q tp ts tl vp' vs' vl' H4 hL s1 e1 s2 e2 _ _ k4 => ?_)
  · rw [e] at d0
    obtain ⟨d, ed, hd⟩ := d0.som
    exact q1 c d ed w H3 z3.k hd
  rw [e] at d0
  have d0 := d0.non
  obtain ⟨nd, p2, p6⟩ := due0_ok d0
  rw [seqH_lst hPS.ea] at s1
  cases s1
  have hL8 : L8 T H4 q (pl8 rs) := ⟨tp, _, _, vp, hL, e1, hPS.rp.kp k4⟩
  have q2 := fun z => q2 z d0
  have q3 := fun c d => q3 c d d0
  have q4 := q4 d0
  walk_at "u"
  walk_at "na"
  intro ll H5 f5 e5 k5
  have L5 := (L3.kp k4).kp k5
  have e5r : H5 rw' = some (.lst vr) := by walk_at "g"
  have z5 : Kz [] H H5 := ⟨(z3.k.trans k4).trans k5⟩
  walk_at "u"
  refine s_ilst (SqL.of e5r) ?_
  have nl : (pl8 rs).length ≤ 10 := by omega
  refine for_L e5r (fun i σ H' => (∃ acc : List V, H' ll = some (.lst acc) ∧ acc.length ≤ i ∧ Rw H' acc (rL (lo8 (nm8 rs) ((rs.take i).filterMap fl)))) ∧ badN (nm8 rs) (ln8 rs) = badN (nm8 rs) ((rs.drop i).filterMap fl) ∧ Kp [ll] H5 H' ∧ ∃ u6, σ = [some (.str z), some (.ref rw'), some (.ref D), some (.ref D3), some (.ref q), some (.ref ll), u6]) ⟨⟨[], e5, by simp, .nil⟩, by simp, Kp.refl, _, rfl⟩ (fun i σ' H' q o e => q.2.2.1.get1 e (by walk_at "ne")) ?_ ?_
  · rintro i x σ H6 ex ⟨⟨acc, ea, la, R⟩, hg, k6, u6, rfl⟩
    have hi := (List.getElem?_eq_some_iff.mp ex).1
    obtain ⟨a, ws, rfl, ew, el5⟩ := L5.at ex
    rw [List.getElem?_map] at ew
    obtain ⟨r, er, rfl⟩ := Option.map_eq_some_iff.mp ew
    obtain ⟨hi', eri⟩ := List.getElem?_eq_some_iff.mp er
    have hG := hok r (List.mem_of_getElem? er)
    rw [List.drop_eq_getElem_cons hi', eri] at hg
    have na : a ≠ ll := by
      have L4 := L3.kp k4
      obtain ⟨a', ws', e', _, ee⟩ := L4.at ex
      cases e'
      exact (Th.lst ee).ne f5
    have el : H6 a = some (.lst ((w8 r).map V.str)) := by walk_at "g"
    clear el5
    cases r with
    | p n d =>
      have el : H6 a = some (.lst [.str "place", .str n, .str d]) := el
      walk_at "u"
      refine ⟨⟨acc, ea, by omega, ?_⟩, hg, k6, _, rfl⟩
      rw [fm_one fl er]
      simpa [fl] using R
    | s kd h =>
      have el : H6 a = some (.lst [.str "stretch", .str kd, .str h]) := el
      walk_at "u"
      refine ⟨⟨acc, ea, by omega, ?_⟩, hg, k6, _, rfl⟩
      rw [fm_one fl er]
      simpa [fl] using R
    | l a1 b1 h =>
      have el : H6 a = some (.lst [.str "long", .str a1, .str b1, .str h]) := el
      obtain ⟨h1, h2, h3⟩ := hG
      obtain ⟨j, j1, j2, j3, _⟩ := hm8 h3
      have hg : badN (nm8 rs) (ln8 rs) = badN (nm8 rs) ((a1, b1, hV h) :: (rs.drop (i + 1)).filterMap fl) := hg
      have z6 : Kz [] H H6 := ⟨Kp.step z5.k k6 (by simp; exact (z3.k.trans k4).dom ll f5)⟩
      have hL6 : L8 T H6 q (pl8 rs) := by
        have nq : q ≠ ll := by
          obtain ⟨dx, eq⟩ := hL
          exact fun z => by rw [z, f5] at eq; cases eq
        obtain ⟨dx, eq⟩ := hL
        exact ⟨tp, _, _, vp, ⟨dx, k6.get1 (k5.get0 eq) nq⟩, k6.tgt (k5.tgt e1), ((hPS.rp.kp k4).kp k5).kp k6⟩
      have hL6' := hL6
      obtain ⟨tp6, b6, c6, vp6, hA6, _, _⟩ := hL6'
      walk_at "u"
      refine c_num hL6 nl h1 nd (fun m1 H7 k7 => ?_) (fun m1 => ?_)
      rotate_left
      · exact (q2 _ (hg.trans (badN_no1 m1))).kp z6.k
      walk_at "u"
      refine c_num (hL6.kp k7) nl h2 nd (fun m2 H8 k8 => ?_) (fun m2 => ?_)
      rotate_left
      · exact (q2 _ (hg.trans (badN_no2 m1 m2))).kp (z6.k.trans k7)
      walk_at "u"
      refine s_tyK T.kt_HOMES ?_
      walk_at "u"
      refine s_tix (zs := ["low", "high"]) T.kt_HOMES j1 j2 ?_
      rw [j3]
      walk_at "u"
      walk_at "na"
      intro t9 H9 f9 e9 k9
      walk_at "u"
      refine s_app (xs := acc) (by walk_at "g") (zlt (by omega)) fun H10 e10 k10 => ?_
      walk_at "u"
      have z10 : Kz [ll] H6 H10 := ⟨by walk_at "k"⟩
      refine ⟨⟨_, e10, by simp; omega, ?_⟩, hg.trans (badN_go m1 m2), k6.trans z10.k, _, rfl⟩
      rw [fm_one fl er]
      unfold rL lo8
      rw [List.map_append, List.map_append]
      exact (R.kp z10.k).app (.one (k10.tgt e9))
  · rintro σ H6 ⟨⟨acc, ea, _, R3⟩, hg, k6, u6, rfl⟩
    rw [lr, List.take_of_length_le (Nat.le_refl _)] at R3
    rw [lr, List.drop_of_length_le (Nat.le_refl _)] at hg
    have hg : badN (nm8 rs) (ln8 rs) = none := hg
    have z36 : Kz [] H3 H6 := ⟨Kp.step (k4.trans k5) k6 (by simp; exact (show H3 ll = none from k4.dom ll f5))⟩
    have hPS6 := hPS.kp z36.k
    have d1 := hPS6.d1 (K := K) d0 ea R3
    have llo : (ln8 rs).length ≤ 10001 := f_le fl lrs
    have tg3 := tg_L (K := K) (n := 10) ea R3 (Nat.le_refl _) (lo8_ok (by simp; omega) (fl_ok rs)) (by simp [lo8]; omega)
    have g1 : Tg K H6 [D, D3, ll] 3 (.ref D) := (tg1'.kp z36.k).mono (by simp) (Nat.le_refl _)
    have g2 : Tg K H6 [D, D3, ll] 3 (.ref D3) := (tg2'.kp z36.k).mono (by simp) (Nat.le_refl _)
    have g3 : Tg K H6 [D, D3, ll] 3 (.ref ll) := tg3.mono (by simp) (Nat.le_refl _)
    have hTh6 : ∀ a ∈ [D, D3, ll], ∃ i, Th H6 a i := by
      intro a ha
      simp only [List.mem_cons, List.not_mem_nil, or_false] at ha
      rcases ha with rfl | rfl | rfl
      · exact ⟨_, .lst hPS6.ea⟩
      · exact ⟨_, .lst hPS6.eb⟩
      · exact ⟨_, .lst ea⟩
    have z6 := z3.k.trans z36.k
    clear k4 k5 k6
    walk_at "u"
    refine c_LineX g1 g2 g3 hTh6 (fun c w e => ?_) (fun e q' tp' ts' tl' vp1 vs1 vl1 H7 hL7 s1 e1' s2 e2' s3 e3' k7 => ?_)
    · rw [e] at d1
      obtain ⟨d, ed, hd⟩ := d1.som
      exact q3 c d hg ed w H6 z6 hd
    rw [e] at d1
    rw [seqH_lst hPS6.ea] at s1
    rw [seqH_lst hPS6.eb] at s2
    cases s1
    cases s2
    rcases s3 with ⟨s3, _⟩ | ⟨_, s3⟩
    · cases s3
    rw [seqH_lst ea] at s3
    cases s3
    walk_at "u"
    exact q4 hg d1.non q' tp' ts' tl' vp vs acc H7 hL7 e1' e2' e3' (hPS6.rp.kp k7) (hPS6.rs.kp k7) (R3.kp k7) (z6.trans k7)

/-! what the law catches -/
theorem due0_c {pl st : Pl} {c : Str} {d : PyData} (h : due0 pl st = some (c, d)) : c = "places" ∨ c = "twice" ∨ c = "number" ∨ c = "stretches" := by
  have goP : ∀ {pl : Pl} {ns : List Str}, goPp ns pl = some (c, d) → c = "twice" ∨ c = "number" := by
    intro pl
    induction pl with
    | nil => intro ns h; cases h
    | cons q pl ih =>
      intro ns h
      simp only [goPp] at h
      split at h
      · cases h; exact Or.inl rfl
      · split at h
        · exact ih h
        · cases h; exact Or.inr rfl
  unfold due0 at h
  cases e : pDue pl with
  | some p =>
    rw [e] at h
    cases h
    unfold pDue at e
    split at e
    · rcases goP e with h | h
      · exact Or.inr (Or.inl h)
      · exact Or.inr (Or.inr (Or.inl h))
    · cases e; exact Or.inl rfl
  | none =>
    rw [e] at h
    simp only at h
    unfold sDue at h
    split at h
    · cases h
    · cases h; exact Or.inr (Or.inr (Or.inr rfl))
theorem lDue_c {lo : Lo} {many : Int} {c : Str} {d : PyData} (h : lDue lo many = some (c, d)) : c = "longs" := by
  have go : ∀ {lo : Lo} {low : Int}, goLp (many - 1) low lo = some (c, d) → c = "longs" := by
    intro lo
    induction lo with
    | nil => intro ns h; cases h
    | cons q lo ih =>
      intro low h
      simp only [goLp] at h
      split at h
      · exact ih h
      · cases h; rfl
  unfold lDue at h
  split at h
  · exact go h
  · cases h; rfl
theorem out_0 {rs : List R8} {e : Str × PyData} (h : due0 (pl8 rs) (st8 rs) = some e) : out8 rs = e := by unfold out8; rw [h]
theorem out_1 {rs : List R8} {z : Str} (h : due0 (pl8 rs) (st8 rs) = none) (h1 : badN (nm8 rs) (ln8 rs) = some z) : out8 rs = (("place" : Str), PyData.str z) := by unfold out8; rw [h]; simp only; rw [h1]
theorem out_2 {rs : List R8} {e : Str × PyData} (h : due0 (pl8 rs) (st8 rs) = none) (h1 : badN (nm8 rs) (ln8 rs) = none) (h2 : lDue (lo8 (nm8 rs) (ln8 rs)) ((pl8 rs).length : Int) = some e) : out8 rs = e := by unfold out8; rw [h]; simp only; rw [h1]; simp only; rw [h2]
theorem out_3 {rs : List R8} (h : due0 (pl8 rs) (st8 rs) = none) (h1 : badN (nm8 rs) (ln8 rs) = none) (h2 : lDue (lo8 (nm8 rs) (ln8 rs)) ((pl8 rs).length : Int) = none) : out8 rs = (("told" : Str), PyData.tuple [.tuple (dP (pl8 rs)), .tuple (dP (st8 rs)), .tuple (dL (lo8 (nm8 rs) (ln8 rs)))]) := by unfold out8; rw [h]; simp only; rw [h1]; simp only; rw [h2]
def SpR (K : PySem.W.Frag) (x : V) (H : Hp) (Q : VK) : Prop := (∃ t, TyN H x t ∧ t ≠ .str ∧ ∀ u H', H' u = some (.tup [.str "text", .int 0]) → Kp [] H H' → Q (.ref u) H') ∨
  ∃ z, x = .str z ∧ SS z 10000 ∧ (∀ i, sc [] 0 (rws z) = .inl i → ∀ u H', H' u = some (.tup [.str "text", .int (1 + (i : Int))]) → Kp [] H H' → Q (.ref u) H') ∧
    (∀ rs, sc [] 0 (rws z) = .inr rs → ∀ u c w d H', out8 rs = (c, d) → H' u = some (.tup [.str c, w]) → Dn K H' w d → Kp [] H H' → Q (.ref u) H')
def sp_law_caught (T : Tx K mg) : Sp := sp1 fun x H Q _ => SpR K x H Q
set_option maxHeartbeats 16000000 in
theorem ok_law_caught (T : Tx K mg) : FnOk P w K mg base (L2.CX P w) 7 T.a_law_caught T.d_law_caught ["_law_text_here"] (sp_law_caught T) := by
  have G_Line_told := ok_Line_told (P := P) (w := w) (base := base) T
  have G_read_line := ok_read_line (P := P) (w := w) (base := base) T
  refine T.F_law_caught.okX sc_law_caught (fun vs H Q E h => ?_) (fun cd A o s H vs Q E hr h => ?_)
  · obtain ⟨v0, rfl, h⟩ := h; rfl
  obtain ⟨v0, rfl, h⟩ := h
  refine ⟨_, (pss_one (ps_try (K := K) rfl rfl rfl sc_law_caught.nd (takes_of (E := E) rfl rfl rfl rfl) (fun W pn xe tk po => (pss_one (ps_ret (pe_tup (pa_cons pe_str (pa_cons (pe_mo0 T.cl_Line T.M_Line_told G_Line_told (hr.mono (by decide)) T.B_Line_told tk (pe_co G_read_line (hr.mono (by decide)) rfl T.m_read_line T.F_read_line.kp T.B_read_line tk (pa_cons (pv 0) pa_nil))) pa_nil))))))
    (ClOk.as (i := 1) ⟨rfl, by decide, Or.inl T.m_NoText⟩ rfl rfl (fun a oe cls d pn hz hf => (pss_one (ps_ret (pe_tup (pa_cons pe_str (pa_cons (pe_xe T.er_NoText hz hf (pv 1)) pa_nil))))))
    (ClOk.as (i := 1) ⟨rfl, by decide, Or.inl T.m_NoPlaces⟩ rfl rfl (fun a oe cls d pn hz hf => (pss_one (ps_ret (pe_tup (pa_cons pe_str (pa_cons (pe_xe T.er_NoPlaces hz hf (pv 1)) pa_nil))))))
    (ClOk.as (i := 1) ⟨rfl, by decide, Or.inl T.m_NoName⟩ rfl rfl (fun a oe cls d pn hz hf => (pss_one (ps_ret (pe_tup (pa_cons pe_str (pa_cons (pe_xe T.er_NoName hz hf (pv 1)) pa_nil))))))
    (ClOk.as (i := 1) ⟨rfl, by decide, Or.inl T.m_Twice⟩ rfl rfl (fun a oe cls d pn hz hf => (pss_one (ps_ret (pe_tup (pa_cons pe_str (pa_cons (pe_xe T.er_Twice hz hf (pv 1)) pa_nil))))))
    (ClOk.as (i := 1) ⟨rfl, by decide, Or.inl T.m_NoNumber⟩ rfl rfl (fun a oe cls d pn hz hf => (pss_one (ps_ret (pe_tup (pa_cons pe_str (pa_cons (pe_xe T.er_NoNumber hz hf (pv 1)) pa_nil))))))
    (ClOk.as (i := 1) ⟨rfl, by decide, Or.inl T.m_NoStretches⟩ rfl rfl (fun a oe cls d pn hz hf => (pss_one (ps_ret (pe_tup (pa_cons pe_str (pa_cons (pe_xe T.er_NoStretches hz hf (pv 1)) pa_nil))))))
    (ClOk.as (i := 1) ⟨rfl, by decide, Or.inl T.m_NoPlace⟩ rfl rfl (fun a oe cls d pn hz hf => (pss_one (ps_ret (pe_tup (pa_cons pe_str (pa_cons (pe_xe T.er_NoPlace hz hf (pv 1)) pa_nil))))))
    (ClOk.as (i := 1) ⟨rfl, by decide, Or.inl T.m_NoLongs⟩ rfl rfl (fun a oe cls d pn hz hf => (pss_one (ps_ret (pe_tup (pa_cons pe_str (pa_cons (pe_xe T.er_NoLongs hz hf (pv 1)) pa_nil))))))
    (ClOk.only ⟨rfl, by decide, Or.inl T.m_StaffError⟩ (fun a oe cls d pn hz hf => (pss_one (ps_ret (pe_tup (pa_cons pe_str (pa_cons pe_non pa_nil))))))
    ClOk.nil))))))))))), ?_⟩
  rw [st_law_caught]
  obtain ⟨⟨c1, c2, c3⟩, c4, c5, c6⟩ := cl_eqs T
  rcases h with ⟨t, ht, hn, k⟩ | ⟨z, rfl, hz, kB, kG⟩
  · walk_at "u"
    refine ⟨_, rfl, Or.inl ⟨t, ht, hn, ?_⟩⟩
    intro dd H2 f2 e2 k2
    refine ⟨true, T.ex_NoText_NoText, fun _ ea fa => ?_, fun z => (by cases z)⟩
    walk_at "u"
    refine s_xek e2 rfl ?_
    walk_at "u"
    walk_at "na"
    intro u H3 f3 e3 k3
    simp only [endS, dropS, putS]
    walk_at "u"
    exact k u H3 e3 (k2.trans k3)
  walk_at "u"
  refine ⟨_, rfl, Or.inr ⟨z, rfl, hz, fun i hb => ?_, fun rs er => ⟨fun c d e w H1 k1 hd => ?_, fun z e e1 => ?_, fun c d e e1 e2 w H1 k1 hd => ?_, fun e e1 e2 p tp ts tl vp vs vl H1 hL g1 g2 g3 r1 r2 r3 k1 => ?_⟩⟩⟩
  · intro dd H2 f2 e2 k2
    refine ⟨true, T.ex_NoText_NoText, fun _ ea fa => ?_, fun z => (by cases z)⟩
    walk_at "u"
    refine s_xek e2 rfl ?_
    walk_at "u"
    walk_at "na"
    intro u H3 f3 e3 k3
    simp only [endS, dropS, putS]
    walk_at "u"
    exact kB i hb u H3 e3 (k2.trans k3)
  · have kE := fun u H' => kG rs er u c w d H' (out_0 e)
    rcases due0_c e with rfl | rfl | rfl | rfl
    · rw [c1]
      intro dd H2 f2 e2 k2
      refine ⟨false, T.ex_NoPlaces_NoText, fun z => (by cases z), fun _ => ⟨true, T.ex_NoPlaces_NoPlaces, fun _ ea fa => ?_, fun z => (by cases z)⟩⟩
      walk_at "u"
      refine s_xek e2 rfl ?_
      walk_at "u"
      walk_at "na"
      intro u H3 f3 e3 k3
      simp only [endS, dropS, putS]
      walk_at "u"
      exact kE u H3 e3 ((hd.kp k2).kp k3) (k1.trans (k2.trans k3))
    · rw [c3]
      intro dd H2 f2 e2 k2
      refine ⟨false, T.ex_Twice_NoText, fun z => (by cases z), fun _ => ⟨false, T.ex_Twice_NoPlaces, fun z => (by cases z), fun _ => ⟨false, T.ex_Twice_NoName, fun z => (by cases z), fun _ => ⟨true, T.ex_Twice_Twice, fun _ ea fa => ?_, fun z => (by cases z)⟩⟩⟩⟩
      walk_at "u"
      refine s_xek e2 rfl ?_
      walk_at "u"
      walk_at "na"
      intro u H3 f3 e3 k3
      simp only [endS, dropS, putS]
      walk_at "u"
      exact kE u H3 e3 ((hd.kp k2).kp k3) (k1.trans (k2.trans k3))
    · rw [c4]
      intro dd H2 f2 e2 k2
      refine ⟨false, T.ex_NoNumber_NoText, fun z => (by cases z), fun _ => ⟨false, T.ex_NoNumber_NoPlaces, fun z => (by cases z), fun _ => ⟨false, T.ex_NoNumber_NoName, fun z => (by cases z), fun _ => ⟨false, T.ex_NoNumber_Twice, fun z => (by cases z), fun _ => ⟨true, T.ex_NoNumber_NoNumber, fun _ ea fa => ?_, fun z => (by cases z)⟩⟩⟩⟩⟩
      walk_at "u"
      refine s_xek e2 rfl ?_
      walk_at "u"
      walk_at "na"
      intro u H3 f3 e3 k3
      simp only [endS, dropS, putS]
      walk_at "u"
      exact kE u H3 e3 ((hd.kp k2).kp k3) (k1.trans (k2.trans k3))
    · rw [c5]
      intro dd H2 f2 e2 k2
      refine ⟨false, T.ex_NoStretches_NoText, fun z => (by cases z), fun _ => ⟨false, T.ex_NoStretches_NoPlaces, fun z => (by cases z), fun _ => ⟨false, T.ex_NoStretches_NoName, fun z => (by cases z), fun _ => ⟨false, T.ex_NoStretches_Twice, fun z => (by cases z), fun _ => ⟨false, T.ex_NoStretches_NoNumber, fun z => (by cases z), fun _ => ⟨true, T.ex_NoStretches_NoStretches, fun _ ea fa => ?_, fun z => (by cases z)⟩⟩⟩⟩⟩⟩
      walk_at "u"
      refine s_xek e2 rfl ?_
      walk_at "u"
      walk_at "na"
      intro u H3 f3 e3 k3
      simp only [endS, dropS, putS]
      walk_at "u"
      exact kE u H3 e3 ((hd.kp k2).kp k3) (k1.trans (k2.trans k3))
  · intro dd H2 f2 e2 k2
    refine ⟨false, T.ex_NoPlace_NoText, fun z => (by cases z), fun _ => ⟨false, T.ex_NoPlace_NoPlaces, fun z => (by cases z), fun _ => ⟨false, T.ex_NoPlace_NoName, fun z => (by cases z), fun _ => ⟨false, T.ex_NoPlace_Twice, fun z => (by cases z), fun _ => ⟨false, T.ex_NoPlace_NoNumber, fun z => (by cases z), fun _ => ⟨false, T.ex_NoPlace_NoStretches, fun z => (by cases z), fun _ => ⟨true, T.ex_NoPlace_NoPlace, fun _ ea fa => ?_, fun z => (by cases z)⟩⟩⟩⟩⟩⟩⟩
    walk_at "u"
    refine s_xek e2 rfl ?_
    walk_at "u"
    walk_at "na"
    intro u H3 f3 e3 k3
    simp only [endS, dropS, putS]
    walk_at "u"
    exact kG rs er u _ _ _ H3 (out_1 e e1) e3 (.str _) (k2.trans k3)
  · have kE := fun u H' => kG rs er u c w d H' (out_2 e e1 e2)
    have := lDue_c e2
    subst this
    rw [c6]
    intro dd H2 f2 e2 k2
    refine ⟨false, T.ex_NoLongs_NoText, fun z => (by cases z), fun _ => ⟨false, T.ex_NoLongs_NoPlaces, fun z => (by cases z), fun _ => ⟨false, T.ex_NoLongs_NoName, fun z => (by cases z), fun _ => ⟨false, T.ex_NoLongs_Twice, fun z => (by cases z), fun _ => ⟨false, T.ex_NoLongs_NoNumber, fun z => (by cases z), fun _ => ⟨false, T.ex_NoLongs_NoStretches, fun z => (by cases z), fun _ => ⟨false, T.ex_NoLongs_NoPlace, fun z => (by cases z), fun _ => ⟨true, T.ex_NoLongs_NoLongs, fun _ ea fa => ?_, fun z => (by cases z)⟩⟩⟩⟩⟩⟩⟩⟩
    walk_at "u"
    refine s_xek e2 rfl ?_
    walk_at "u"
    walk_at "na"
    intro u H3 f3 e3 k3
    simp only [endS, dropS, putS]
    walk_at "u"
    exact kE u H3 e3 ((hd.kp k2).kp k3) (k1.trans (k2.trans k3))
  · walk_at "u"
    refine ⟨_, rfl, p, _, _, _, rfl, hL, fun tt H2 e4 k2 => ?_⟩
    walk_at "u"
    walk_at "na"
    intro u H3 f3 e5 k3
    walk_at "u"
    have k23 := k2.trans k3
    refine kG rs er u _ _ _ H3 (out_3 e e1 e2) e5 ?_ (k1.trans k23)
    exact .tup (SqT.of (k3.tgt e4)) (.cons (.tup (SqT.of (k23.tgt g1)) (dn_P (r1.kp k23))) (.cons (.tup (SqT.of (k23.tgt g2)) (dn_P (r2.kp k23))) (.cons (.tup (SqT.of (k23.tgt g3)) (dn_L (r3.kp k23))) .nil)))

/-! the law's own reading: forms -/
theorem c_lname {z : Str} {H : Hp} {Q : VK} {E : XK} (h : SS z 50000) (q : ∀ H', Kp [] H H' → Q (.bl (isName (.str z))) H') : sp_law_is_name [.str z] H Q E := ⟨_, rfl, _, .str, h, q⟩
def digs : List Str := ("0123456789" : Str).cps.toList.map fun c => ⟨#[c]⟩
theorem digs_in (d : Str) : decide (d ∈ digs) = dg d := by
  by_cases h : d.length = 1
  · obtain ⟨c, rfl, e⟩ := dg_one h
    rw [e]
    apply decide_eq_decide.mpr
    unfold digs
    rw [dig_cps]
    simp only [List.mem_map]
    constructor
    · rintro ⟨c', hc, e'⟩
      have := one_eq.mp e'
      subst this
      simp only [List.mem_cons, List.not_mem_nil, or_false] at hc
      omega
    · intro hc
      refine ⟨c, ?_, rfl⟩
      simp only [List.mem_cons, List.not_mem_nil, or_false]
      omega
  · rw [dg_no h]
    refine decide_eq_false fun m => h ?_
    obtain ⟨c, _, rfl⟩ := List.mem_map.mp m
    rfl
def sp_law_has_form : Sp := sp1 fun x H Q _ => ∃ (l : Addr) (ws : List Str), x = .ref l ∧ H l = some (.lst (ws.map V.str)) ∧ ws ≠ [] ∧ (∀ w ∈ ws, SS w 10000) ∧ ∀ H', Kp [] H H' → Q (.bl (pr ws).isSome) H'
set_option maxHeartbeats 16000000 in
theorem ok_law_has_form (T : Tx K mg) : FnOk P w K mg base (L2.CX P w) 2 T.a_law_has_form T.d_law_has_form ["_law_words"] (sp_law_has_form) := by
  have G_law_is_name := ok_law_is_name (P := P) (w := w) (base := base) T
  refine T.F_law_has_form.okX sc_law_has_form (fun vs H Q E h => ?_) (fun cd A o s H vs Q E hr h => ?_)
  · obtain ⟨v0, rfl, h⟩ := h; rfl
  obtain ⟨v0, rfl, h⟩ := h
  obtain ⟨l, ws, rfl, el, hne, hw, k⟩ := h
  refine ⟨_, (pss_cons (ps_set (i := 1) sc_law_has_form.nd rfl (Or.inl rfl) (pe_lst (pa_cons pe_str (pa_cons pe_str pa_nil))))
    (pss_cons (ps_if (PW.pt (pw_and (pt_cmpR (o_eq (K := K) rfl hr) (pe_ix (ix_u (K := K) rfl) (pv 0) pe_int (fun _ _ => rfl)) pe_str (nomark _)) (pw_and1 (pt_cmpR (o_eq (K := K) rfl hr) (pe_callB (c_len (K := K) rfl) rfl T.z_len bt_len (pa_cons (pv 0) pa_nil)) pe_int (nomark _)))))
    (pss_one (ps_ret (pe_and (pe_co G_law_is_name (hr.mono (by decide)) rfl T.m_law_is_name T.F_law_is_name.kp T.B_law_is_name (takes_of (E := E) rfl rfl rfl rfl) (pa_cons (pe_ix (ix_u (K := K) rfl) (pv 0) pe_int (fun _ _ => rfl)) pa_nil)) (pe_one (pe_cmpR (o_in (K := K) rfl) (pe_ix (ix_u (K := K) rfl) (pv 0) pe_int (fun _ _ => rfl)) (pe_callTy (c_listZ rfl) rfl T.z_list bt_list (pa_cons pe_str pa_nil)) rfl)))))
    pss_nil)
    (pss_cons (ps_if (PW.pt (pw_and (pt_cmpR (o_eq (K := K) rfl hr) (pe_ix (ix_u (K := K) rfl) (pv 0) pe_int (fun _ _ => rfl)) pe_str (nomark _)) (pw_and1 (pt_cmpR (o_eq (K := K) rfl hr) (pe_callB (c_len (K := K) rfl) rfl T.z_len bt_len (pa_cons (pv 0) pa_nil)) pe_int (nomark _)))))
    (pss_one (ps_ret (pe_and (pe_cmpR (o_in (K := K) rfl) (pe_ix (ix_u (K := K) rfl) (pv 0) pe_int (fun _ _ => rfl)) (pe_lst (pa_cons pe_str (pa_cons pe_str pa_nil))) rfl) (pe_one (pe_cmpR (o_in (K := K) rfl) (pe_ix (ix_u (K := K) rfl) (pv 0) pe_int (fun _ _ => rfl)) (pv 1) rfl)))))
    pss_nil)
    (pss_cons (ps_if (PW.pt (pw_and (pt_cmpR (o_eq (K := K) rfl hr) (pe_ix (ix_u (K := K) rfl) (pv 0) pe_int (fun _ _ => rfl)) pe_str (nomark _)) (pw_and1 (pt_cmpR (o_eq (K := K) rfl hr) (pe_callB (c_len (K := K) rfl) rfl T.z_len bt_len (pa_cons (pv 0) pa_nil)) pe_int (nomark _)))))
    (pss_one (ps_ret (pe_and (pe_co G_law_is_name (hr.mono (by decide)) rfl T.m_law_is_name T.F_law_is_name.kp T.B_law_is_name (takes_of (E := E) rfl rfl rfl rfl) (pa_cons (pe_ix (ix_u (K := K) rfl) (pv 0) pe_int (fun _ _ => rfl)) pa_nil)) (pe_and (pe_co G_law_is_name (hr.mono (by decide)) rfl T.m_law_is_name T.F_law_is_name.kp T.B_law_is_name (takes_of (E := E) rfl rfl rfl rfl) (pa_cons (pe_ix (ix_u (K := K) rfl) (pv 0) pe_int (fun _ _ => rfl)) pa_nil)) (pe_one (pe_cmpR (o_in (K := K) rfl) (pe_ix (ix_u (K := K) rfl) (pv 0) pe_int (fun _ _ => rfl)) (pv 1) rfl))))))
    pss_nil)
    (pss_one (ps_ret pe_bl)))))), ?_⟩
  rw [st_law_has_form]
  obtain ⟨a, r, rfl⟩ := List.exists_cons_of_ne_nil hne
  have no : pr (a :: r) = none → ∀ H', Kp [] H H' → Q (.bl false) H' := fun e H' k' => by
    have := k H' k'
    rw [e] at this
    exact this
  walk_at "u"
  walk_at "na"
  intro lh H0 f0 e0 k0
  have e0 : H0 lh = some (.lst ((["low", "high"] : List Str).map V.str)) := e0
  have el0 : H0 l = some (.lst ((a :: r).map V.str)) := k0.get0 el
  have el' : H0 l = some (.lst (.str a :: r.map V.str)) := el0
  have z0 := k0
  clear el k0
  walk_at "u"
  refine s_ixl el' at0 ?_
  walk_at "u"
  by_cases h1 : a = "place"
  · subst h1
    rw [decide_eq_true rfl]
    walk_at "u"
    refine s_lenl el0 ?_
    walk_at "u"
    refine s_ite (fun h2 => ?_) (fun h2 => ?_)
    rotate_left
    · walk_at "u"
      refine s_ixl el' at0 ?_
      walk_at "u"
      refine s_ixl el' at0 ?_
      walk_at "u"
      exact no (pr_3 sort_ne.2.2.2.2.1 (by simp at h2; omega)) _ z0
    obtain ⟨n, d, rfl⟩ := list2 (r := r) (by simp at h2; omega)
    have el : H0 l = some (.lst [.str "place", .str n, .str d]) := el0
    rw [pr_p] at k
    walk_at "u"
    refine c_lname ((hw n (by simp)).mono (by omega)) fun H1 k1 => ?_
    cases hn : isName (.str n) with
    | false =>
      rw [hn, Bool.false_and] at k
      walk_at "u"
      exact k _ (z0.trans k1)
    | true =>
    rw [hn, Bool.true_and] at k
    walk_at "u"
    refine s_listZ (by decide +kernel) fun l4 H4 f4 e4 k4 => ?_
    have e4 : H4 l4 = some (.lst (digs.map V.str)) := by rw [e4, digs, List.map_map]; rfl
    refine s_inS (SqL.of e4) ?_
    rw [digs_in]
    have := k _ ((z0.trans k1).trans k4)
    cases hd : dg d <;> rw [hd] at this <;> exact this
  rw [decide_eq_false h1]
  walk_at "u"
  refine s_ixl el' at0 ?_
  walk_at "u"
  by_cases h2 : a = "stretch"
  · subst h2
    rw [decide_eq_true rfl]
    walk_at "u"
    refine s_lenl el0 ?_
    walk_at "u"
    refine s_ite (fun h2 => ?_) (fun h2 => ?_)
    rotate_left
    · walk_at "u"
      refine s_ixl el' at0 ?_
      walk_at "u"
      exact no (pr_3 sort_ne.2.2.2.2.2 (by simp at h2; omega)) _ z0
    obtain ⟨n, d, rfl⟩ := list2 (r := r) (by simp at h2; omega)
    have el : H0 l = some (.lst [.str "stretch", .str n, .str d]) := el0
    rw [pr_s] at k
    walk_at "u"
    walk_at "na"
    intro l1 H1 f1 e1 k1
    refine s_inS (zs := ["staff", "ticket"]) (SqL.of e1) ?_
    have eK : decide (n ∈ (["staff", "ticket"] : List Str)) = inK n := rfl
    rw [eK]
    cases hn : inK n with
    | false =>
      rw [hn, Bool.false_and] at k
      walk_at "u"
      exact k _ (z0.trans k1)
    | true =>
    rw [hn, Bool.true_and] at k
    walk_at "u"
    have eH : decide (d ∈ (["low", "high"] : List Str)) = inH d := rfl
    rw [eH]
    have := k _ (z0.trans k1)
    cases hd : inH d <;> rw [hd] at this <;> exact this
  rw [decide_eq_false h2]
  walk_at "u"
  refine s_ixl el' at0 ?_
  walk_at "u"
  by_cases h3 : a = "long"
  · subst h3
    rw [decide_eq_true rfl]
    walk_at "u"
    refine s_lenl el0 ?_
    walk_at "u"
    refine s_ite (fun h2 => ?_) (fun h2 => ?_)
    rotate_left
    · walk_at "u"
      exact no (pr_4 (by simp at h2; omega)) _ z0
    obtain ⟨n, m, d, rfl⟩ := list3' (r := r) (by simp at h2; omega)
    have el : H0 l = some (.lst [.str "long", .str n, .str m, .str d]) := el0
    rw [pr_l] at k
    walk_at "u"
    refine c_lname ((hw n (by simp)).mono (by omega)) fun H1 k1 => ?_
    cases hn : isName (.str n) with
    | false =>
      rw [hn, Bool.false_and] at k
      walk_at "u"
      exact k _ (z0.trans k1)
    | true =>
    rw [hn, Bool.true_and] at k
    walk_at "u"
    refine c_lname ((hw m (by simp)).mono (by omega)) fun H2 k2 => ?_
    cases hm : isName (.str m) with
    | false =>
      rw [hm, Bool.false_and] at k
      walk_at "u"
      exact k _ ((z0.trans k1).trans k2)
    | true =>
    rw [hm, Bool.true_and] at k
    walk_at "u"
    have eH : decide (d ∈ (["low", "high"] : List Str)) = inH d := rfl
    rw [eH]
    have := k _ ((z0.trans k1).trans k2)
    cases hd : inH d <;> rw [hd] at this <;> exact this
  rw [decide_eq_false h3]
  walk_at "u"
  exact no (pr_no h1 h2 h3) _ z0
theorem c_lform {l : Addr} {ws : List Str} {H : Hp} {Q : VK} {E : XK} (e : H l = some (.lst (ws.map V.str))) (hne : ws ≠ []) (hw : ∀ w ∈ ws, SS w 10000) (k : ∀ H', Kp [] H H' → Q (.bl (pr ws).isSome) H') : sp_law_has_form [.ref l] H Q E := ⟨_, rfl, l, ws, rfl, e, hne, hw, k⟩

/-! the law's own reading -/
def t0 : R8 → Option (List Str) | .p n d => some [n, d] | _ => none
def t1 : R8 → Option (List Str) | .s k h => some [k, h] | _ => none
def t2 : R8 → Option (List Str) | .l a b h => some [a, b, h] | _ => none
theorem t_app {β : Type} (f : R8 → Option β) (rs : List R8) (q : R8) : (rs ++ [q]).filterMap f = rs.filterMap f ++ (f q).toList := by
  rw [List.filterMap_append]
  cases h : f q <;> simp [h]
theorem t0_fp {rs : List R8} : ((rs.filterMap t0).map fun w => (w.headD "", dgV (w.getD 1 ""))) = pl8 rs := by
  induction rs with
  | nil => rfl
  | cons r rs ih => cases r <;> first | exact ih | exact congrArg (List.cons _) ih
theorem t1_fs {rs : List R8} : ((rs.filterMap t1).map fun w => (w.headD "", hV (w.getD 1 ""))) = st8 rs := by
  induction rs with
  | nil => rfl
  | cons r rs ih => cases r <;> first | exact ih | exact congrArg (List.cons _) ih
theorem t2_fl {rs : List R8} : ((rs.filterMap t2).map fun w => (w.headD "", w.getD 1 "", hV (w.getD 2 ""))) = ln8 rs := by
  induction rs with
  | nil => rfl
  | cons r rs ih => cases r <;> first | exact ih | exact congrArg (List.cons _) ih
theorem t0_at {rs : List R8} (h : ∀ r ∈ rs, ok8 r) {i : Nat} {ws : List Str} (e : (rs.filterMap t0)[i]? = some ws) : ∃ n d, ws = [n, d] ∧ isName (.str n) = true ∧ dg d = true := by
  obtain ⟨r, hr, e⟩ := List.mem_filterMap.mp (List.mem_of_getElem? e)
  cases r with
  | p n d => cases e; exact ⟨n, d, rfl, h _ hr⟩
  | s k h => cases e
  | l a b h => cases e
theorem t1_at {rs : List R8} (h : ∀ r ∈ rs, ok8 r) {i : Nat} {ws : List Str} (e : (rs.filterMap t1)[i]? = some ws) : ∃ k g, ws = [k, g] ∧ inK k = true ∧ inH g = true := by
  obtain ⟨r, hr, e⟩ := List.mem_filterMap.mp (List.mem_of_getElem? e)
  cases r with
  | p n d => cases e
  | s k g => cases e; exact ⟨k, g, rfl, h _ hr⟩
  | l a b h => cases e
theorem t2_at {rs : List R8} (h : ∀ r ∈ rs, ok8 r) {i : Nat} {ws : List Str} (e : (rs.filterMap t2)[i]? = some ws) : ∃ a b g, ws = [a, b, g] ∧ isName (.str a) = true ∧ isName (.str b) = true ∧ inH g = true := by
  obtain ⟨r, hr, e⟩ := List.mem_filterMap.mp (List.mem_of_getElem? e)
  cases r with
  | p n d => cases e
  | s k g => cases e
  | l a b g => cases e; exact ⟨a, b, g, rfl, h _ hr⟩
theorem dec_high (h : Str) : (if decide (h = "high") = true then (1 : Int) else 0) = hV h := by unfold hV; by_cases e : h = "high" <;> simp [e]
def Fin8 (K : PySem.W.Frag) (rs : List R8) (H : Hp) (Q : VK) : Prop := ∀ u c w d H', out8 rs = (c, d) → H' u = some (.tup [.str c, w]) → Dn K H' w d → Kp [] H H' → Q (.ref u) H'
def sp_law_read (K : PySem.W.Frag) : Sp := sp1 fun x H Q _ => SpR K x H Q
theorem t_len {β : Type} (f : R8 → Option β) (rs : List R8) : (rs.filterMap f).length ≤ rs.length := List.length_filterMap_le f rs
abbrev gw (w : List Str) : Str × Str × Int := (w.headD "", w.getD 1 "", hV (w.getD 2 ""))
theorem badN_all {ns : List Str} : ∀ {l : Ln8}, badN ns l = none → ∀ q ∈ l, q.1 ∈ ns ∧ q.2.1 ∈ ns
  | [], _, q, hq => by cases hq
  | p :: l, h, q, hq => by
    simp only [badN] at h
    split at h
    · rename_i m1
      split at h
      · rename_i m2
        rcases List.mem_cons.mp hq with rfl | hq
        · exact ⟨m1, m2⟩
        · exact badN_all h q hq
      · cases h
    · cases h
set_option maxHeartbeats 16000000 in
theorem ok_law_read (T : Tx K mg) : FnOk P w K mg base (L2.CX P w) 4 T.a_law_read T.d_law_read ["_law_text_here"] (sp_law_read K) := by
  have G_law_due := ok_law_due (P := P) (w := w) (base := base) T
  have G_law_has_form := ok_law_has_form (P := P) (w := w) (base := base) T
  refine T.F_law_read.okX sc_law_read (fun vs H Q E h => ?_) (fun cd A o s H vs Q E hr h => ?_)
  · obtain ⟨v0, rfl, h⟩ := h; rfl
  obtain ⟨v0, rfl, h⟩ := h
  refine ⟨_, (pss_cons (ps_if (pt_not (pt_val (pe_callB (c_isi (K := K) rfl) rfl T.z_isinstance bt_isinstance (pa_cons (pv 0) (pa_cons (pe_ty rfl T.z_str bt_str) pa_nil)))))
    (pss_one (ps_ret (pe_tup (pa_cons pe_str (pa_cons pe_int pa_nil)))))
    pss_nil)
    (pss_cons (ps_set (i := 1) sc_law_read.nd rfl (Or.inl rfl) (pe_lst (pa_cons (pe_lst pa_nil) (pa_cons (pe_lst pa_nil) (pa_cons (pe_lst pa_nil) pa_nil)))))
    (pss_cons (ps_set (i := 2) sc_law_read.nd rfl (Or.inl rfl) pe_int)
    (pss_cons (ps_for PassesOwn.leaving rfl (pi_enumL (K := K) rfl rfl T.z_enumerate (pa_cons (pe_ifExp (pt_cmpR (o_ne (K := K) rfl hr) (pv 0) pe_str (nomark _)) (pe_split (pv 0) pe_str) (pe_lst pa_nil)) pa_nil)) (pg_tupK (K := K) (n := 2) rfl rfl (pgs_cons (pg_name (i := 3) sc_law_read.nd rfl (Or.inl rfl)) (pgs_cons (pg_name (i := 4) sc_law_read.nd rfl (Or.inl rfl)) pgs_nil)))
    (pss_cons (ps_set (i := 9) sc_law_read.nd rfl (Or.inl rfl) (pe_split (pv 4) pe_str))
    (pss_cons (ps_set (i := 11) sc_law_read.nd rfl (Or.inl rfl) (pe_lst (pa_cons pe_str (pa_cons pe_str (pa_cons pe_str pa_nil)))))
    (pss_cons (ps_if (PW.pt (pw_or (pt_not (pt_val (pe_co G_law_has_form (hr.mono (by decide)) rfl T.m_law_has_form T.F_law_has_form.kp T.B_law_has_form (takes_of (E := E) rfl rfl rfl rfl) (pa_cons (pv 9) pa_nil)))) (pw_or1 (pt_cmpR o_lt (pe_bm PySem.F.plainAttrs_list PySem.F.slot_list_index PySem.F.type_list_index (mt_ix (K := K) rfl) (pv 11) (pa_cons (pe_ix (ix_u (K := K) rfl) (pv 9) pe_int (fun _ _ => rfl)) pa_nil)) (pv 2) (nomark _)))))
    (pss_one (ps_ret (pe_tup (pa_cons pe_str (pa_cons (pe_op (o_add (K := K) rfl) (pv 3) pe_int) pa_nil)))))
    pss_nil)
    (pss_cons (ps_set (i := 2) sc_law_read.nd rfl (Or.inl rfl) (pe_bm PySem.F.plainAttrs_list PySem.F.slot_list_index PySem.F.type_list_index (mt_ix (K := K) rfl) (pv 11) (pa_cons (pe_ix (ix_u (K := K) rfl) (pv 9) pe_int (fun _ _ => rfl)) pa_nil)))
    (pss_one (ps_expr (pe_bm PySem.F.plainAttrs_list PySem.F.slot_list_append PySem.F.type_list_append mt_append (pe_ix (ix_u (K := K) rfl) (pv 1) (pv 2) (fun _ _ => rfl)) (pa_cons (pe_slice (sl_u (K := K) rfl) (pv 9) (po_some pe_int) po_none) pa_nil)))))))))
    (pss_cons (ps_setLc (i := 5) (own := [("_law_words", 9)]) rfl sc_law_read.nd rfl rfl (sw_true rfl rfl rfl (by decide +kernel)) (pi_lst (K := K) rfl (pe_ix (ix_u (K := K) rfl) (pv 1) pe_int (fun _ _ => rfl))) (blkOk_by (own := [("_law_words", 9)]) (N := N_law_read) (sc := defScope s_law_read) (by decide +kernel)) (fun _ _ _ _ _ => (pg_name (i := 9) sc_law_read.nd rfl (Or.inl rfl))) (fun _ _ _ _ _ => pts_nil) (fun _ _ _ _ _ => (pe_tup (pa_cons (pe_ix (ix_u (K := K) rfl) (pv 9) pe_int (fun _ _ => rfl)) (pa_cons (pe_sidx pe_str (pe_ix (ix_u (K := K) rfl) (pv 9) pe_int (fun _ _ => rfl))) pa_nil)))))
    (pss_cons (ps_setLc (i := 6) (own := [("_law_words", 9)]) rfl sc_law_read.nd rfl rfl (sw_true rfl rfl rfl (by decide +kernel)) (pi_lst (K := K) rfl (pe_ix (ix_u (K := K) rfl) (pv 1) pe_int (fun _ _ => rfl))) (blkOk_by (own := [("_law_words", 9)]) (N := N_law_read) (sc := defScope s_law_read) (by decide +kernel)) (fun _ _ _ _ _ => (pg_name (i := 9) sc_law_read.nd rfl (Or.inl rfl))) (fun _ _ _ _ _ => pts_nil) (fun _ _ _ _ _ => (pe_tup (pa_cons (pe_ix (ix_u (K := K) rfl) (pv 9) pe_int (fun _ _ => rfl)) (pa_cons (pe_callTy c_int rfl T.z_int bt_int (pa_cons (pe_cmpR (o_eq (K := K) rfl hr) (pe_ix (ix_u (K := K) rfl) (pv 9) pe_int (fun _ _ => rfl)) pe_str (nomark _)) pa_nil)) pa_nil)))))
    (pss_cons (ps_set (i := 7) sc_law_read.nd rfl (Or.inl rfl) (pe_co G_law_due (hr.mono (by decide)) rfl T.m_law_due T.F_law_due.kp T.B_law_due (takes_of (E := E) rfl rfl rfl rfl) (pa_cons (pv 5) (pa_cons (pv 6) (pa_cons pe_non pa_nil)))))
    (pss_cons (ps_if (pt_cmpR o_isnot (pv 7) pe_non (nomark _))
    (pss_one (ps_ret (pv 7)))
    pss_nil)
    (pss_cons (ps_set (i := 8) sc_law_read.nd rfl (Or.inr rfl) (pe_lc (own := [("_law_name", 13), ("_law_roads", 14)]) rfl sc_law_read.nd (pi_lst (K := K) rfl (pv 5)) (blkOk_by (own := [("_law_name", 13), ("_law_roads", 14)]) (N := N_law_read) (sc := defScope s_law_read) (by decide +kernel)) (fun _ _ _ _ _ => (pg_tupK (K := K) (n := 2) rfl rfl (pgs_cons (pg_name (i := 13) sc_law_read.nd rfl (Or.inl rfl)) (pgs_cons (pg_name (i := 14) sc_law_read.nd rfl (Or.inl rfl)) pgs_nil)))) (fun _ _ _ _ _ => pts_nil) (fun _ _ _ _ _ => (pv 13))))
    (pss_cons (ps_for PassesOwn.leaving rfl (pi_lst (K := K) rfl (pe_ix (ix_u (K := K) rfl) (pv 1) pe_int (fun _ _ => rfl))) (pg_name (i := 9) sc_law_read.nd rfl (Or.inl rfl))
    (pss_one (ps_for PassesOwn.leaving rfl (pi_lst (K := K) rfl (pe_slice (sl_u (K := K) rfl) (pv 9) po_none (po_some pe_int))) (pg_name (i := 12) sc_law_read.nd rfl (Or.inl rfl))
    (pss_one (ps_if (pt_cmpR (o_notin (K := K) rfl) (pv 12) (pv 8) rfl)
    (pss_one (ps_ret (pe_tup (pa_cons pe_str (pa_cons (pv 12) pa_nil)))))
    pss_nil)))))
    (pss_cons (ps_setLc (i := 10) (own := [("_law_words", 9)]) rfl sc_law_read.nd rfl rfl (sw_true rfl rfl rfl (by decide +kernel)) (pi_lst (K := K) rfl (pe_ix (ix_u (K := K) rfl) (pv 1) pe_int (fun _ _ => rfl))) (blkOk_by (own := [("_law_words", 9)]) (N := N_law_read) (sc := defScope s_law_read) (by decide +kernel)) (fun _ _ _ _ _ => (pg_name (i := 9) sc_law_read.nd rfl (Or.inl rfl))) (fun _ _ _ _ _ => pts_nil) (fun _ _ _ _ _ => (pe_tup (pa_cons (pe_bmK (K := K) rfl PySem.F.plainAttrs_list PySem.F.slot_list_index PySem.F.type_list_index (mt_ix (K := K) rfl) (pv 8) (pa_cons (pe_ix (ix_u (K := K) rfl) (pv 9) pe_int (fun _ _ => rfl)) pa_nil)) (pa_cons (pe_bmK (K := K) rfl PySem.F.plainAttrs_list PySem.F.slot_list_index PySem.F.type_list_index (mt_ix (K := K) rfl) (pv 8) (pa_cons (pe_ix (ix_u (K := K) rfl) (pv 9) pe_int (fun _ _ => rfl)) pa_nil)) (pa_cons (pe_callTy c_int rfl T.z_int bt_int (pa_cons (pe_cmpR (o_eq (K := K) rfl hr) (pe_ix (ix_u (K := K) rfl) (pv 9) pe_int (fun _ _ => rfl)) pe_str (nomark _)) pa_nil)) pa_nil))))))
    (pss_cons (ps_set (i := 7) sc_law_read.nd rfl (Or.inl rfl) (pe_co G_law_due (hr.mono (by decide)) rfl T.m_law_due T.F_law_due.kp T.B_law_due (takes_of (E := E) rfl rfl rfl rfl) (pa_cons (pv 5) (pa_cons (pv 6) (pa_cons (pv 10) pa_nil)))))
    (pss_one (ps_ret (pe_ifExp (pt_cmpR o_is (pv 7) pe_non (nomark _)) (pe_tup (pa_cons pe_str (pa_cons (pe_tup (pa_cons (pe_callTy (c_tuple (K := K) rfl) rfl T.z_tuple bt_tuple (pa_cons (pv 5) pa_nil)) (pa_cons (pe_callTy (c_tuple (K := K) rfl) rfl T.z_tuple bt_tuple (pa_cons (pv 6) pa_nil)) (pa_cons (pe_callTy (c_tuple (K := K) rfl) rfl T.z_tuple bt_tuple (pa_cons (pv 10) pa_nil)) pa_nil)))) pa_nil))) (pv 7)))))))))))))))), ?_⟩
  rw [st_law_read]
  rcases h with ⟨t, ht, hn, k⟩ | ⟨z, rfl, hz, kB, kG⟩
  · cases ht <;> walk_at "u"
    all_goals first
      | exact (hn rfl).elim
      | (walk_at "na"
         intro u H1 f1 e1 k1
         walk_at "u"
         exact k u H1 e1 k1)
  have hrs := fun r => rws_ss (r := r) hz
  have hrm := rws_len hz
  walk_at "u"
  walk_at "na"
  intro p0 H1 f1 e1 k1
  walk_at "u"
  walk_at "na"
  intro p1 H2 f2 e2 k2
  walk_at "u"
  walk_at "na"
  intro p2 H3 f3 e3 k3
  walk_at "u"
  walk_at "na"
  intro lp H4 f4 e4 k4
  walk_at "s"
  refine s_seq ?_
  walk_at "s"
  refine s_seq ?_
  refine s_for ?_
  refine s_ienL ?_
  refine s_cons ?_
  refine jE (fun v H5 => Kp [] H4 H5 ∧ ∃ l2, v = .ref l2 ∧ H5 l2 = some (.lst ((rws z).map V.str)) ∧ H4 l2 = none) ?_ ?_
  rotate_left
  · intro u' key
    walk_at "u"
    refine s_itn (fun h => ?_) (fun h => ?_)
    · walk_at "u"
      refine s_spl3 (z := z) (sep := "\n") (by decide +kernel) (zle2 (by have := hz.len; omega)) (show _ = rws z by unfold rws; rw [if_neg h]) fun l2 H5 f5 e5 k5 => ?_
      exact key _ _ ⟨k5, l2, rfl, e5, f5⟩
    · walk_at "u"
      walk_at "na"
      intro l2 H5 f5 e5 k5
      exact key _ _ ⟨k5, l2, rfl, by rw [show rws z = [] by unfold rws; rw [if_pos h]]; exact e5, f5⟩
  rintro v H5 ⟨k5, l2, rfl, e5, f5⟩
  have z5 : Kz [] H H5 := ⟨by walk_at "k"⟩
  have g0 : H5 p0 = some (.lst []) := by walk_at "g"
  have g1 : H5 p1 = some (.lst []) := by walk_at "g"
  have g2 : H5 p2 = some (.lst []) := by walk_at "g"
  have gp : H5 lp = some (.lst [.ref p0, .ref p1, .ref p2]) := by walk_at "g"
  have n01 : p0 ≠ p1 := by walk_at "ne"
  have n02 : p0 ≠ p2 := by walk_at "ne"
  have n12 : p1 ≠ p2 := by walk_at "ne"
  have np0 : lp ≠ p0 := by walk_at "ne"
  have np1 : lp ≠ p1 := by walk_at "ne"
  have np2 : lp ≠ p2 := by walk_at "ne"
  have nl0 : l2 ≠ p0 := by walk_at "ne"
  have nl1 : l2 ≠ p1 := by walk_at "ne"
  have nl2 : l2 ≠ p2 := by walk_at "ne"
  have h0 : H p0 = none := by walk_at "f"
  have h1 : H p1 = none := by walk_at "f"
  have h2 : H p2 = none := by walk_at "f"
  clear k1 k2 k3 k4 k5 e1 e2 e3 e4 f1 f2 f3 f4 f5
  generalize rws z = rows at *
  have fz0 : Fz H p0 := ⟨h0⟩
  have fz1 : Fz H p1 := ⟨h1⟩
  have fz2 : Fz H p2 := ⟨h2⟩
  clear h0 h1 h2
  walk_at "u"
  refine for_eL e5 (fun i σ H' => Kp [] H H' ∧ Kp [p0, p1, p2] H5 H' ∧ ∃ (v0 v1 v2 : List V) (rs : List R8), (H' p0 = some (.lst v0) ∧ H' p1 = some (.lst v1) ∧ H' p2 = some (.lst v2)) ∧ (Lw (hid [p0, p1, p2] H') v0 (rs.filterMap t0) ∧ Lw (hid [p0, p1, p2] H') v1 (rs.filterMap t1) ∧ Lw (hid [p0, p1, p2] H') v2 (rs.filterMap t2)) ∧ sc [] 0 rows = sc rs i (rows.drop i) ∧ rs.length = i ∧ ∃ u3 u4 u9 u11, σ = [some (.str z), some (.ref lp), some (.int (la8 rs : Nat)), u3, u4, none, none, none, none, u9, none, u11, none, none, none]) ⟨z5.k, Kp.refl, [], [], [], [], ⟨g0, g1, g2⟩, ⟨.nil, .nil, .nil⟩, by simp, rfl, _, _, _, _, rfl⟩ (fun i σ' H' q o e => q.2.1.get e (by simp [nl0, nl1, nl2])) ?_ ?_
  · rintro i x σ H6 u H7 ex ⟨k6, k56, v0, v1, v2, rs, ⟨a0, a1, a2⟩, ⟨L0, L1, L2⟩, hg, lrs, u3, u4, u9, u11, rfl⟩ fu eu k7
    rw [List.getElem?_map] at ex
    obtain ⟨r, er, rfl⟩ := Option.map_eq_some_iff.mp ex
    obtain ⟨hi, eri⟩ := List.getElem?_eq_some_iff.mp er
    have hr' := hrs r (List.mem_of_getElem? er)
    rw [List.drop_eq_getElem_cons hi, eri] at hg
    have z56 : Kz [p0, p1, p2] H5 H6 := ⟨k56⟩
    have gp6 : H6 lp = some (.lst [.ref p0, .ref p1, .ref p2]) := k56.get gp (by simp [np0, np1, np2])
    clear k56
    have bad : sc rs i (r :: rows.drop (i + 1)) = .inl i → ∀ u H8, H8 u = some (.tup [.str "text", .int ((i : Int) + 1)]) → Kp [] H H8 → Q (.ref u) H8 := fun hb u H8 e k8 => kB i (hg.trans hb) u H8 (by rw [e, Int.add_comm]) k8
    have hsw : ∀ w ∈ Txt.split r " ", SS w 10000 := fun w hw => split_ss hr' hw
    have hne := split_ne (z := r) (a := " ")
    walk_at "u"
    refine s_spl3 (z := r) (sep := " ") (by decide +kernel) (zle2 (by have := hr'.len; omega)) (show _ = wsp r from rfl) fun l8 H8 f8 e8 k8 => ?_
    walk_at "u"
    walk_at "na"
    intro lS H9 f9 e9 k9
    walk_at "u"
    refine c_lform (ws := wsp r) (by walk_at "g") hne hsw fun H10 k10 => ?_
    cases hp : pr (wsp r) with
    | none =>
      walk_at "u"
      walk_at "na"
      intro u6 H11 f11 e11 k11
      walk_at "u"
      exact bad (sc_no hp) u6 H11 e11 (by walk_at "k")
    | some q =>
      obtain ⟨ew, hok⟩ := pr_ok hp
      obtain ⟨z', zs, ez, iz, nz⟩ := w8_head q
      have e10 : H10 l8 = some (.lst ((w8 q).map V.str)) := by
        have : H10 l8 = some (.lst ((wsp r).map V.str)) := by walk_at "g"
        rw [this, ew]
      have e10' : H10 l8 = some (.lst (.str z' :: zs.map V.str)) := by rw [e10, ez]; rfl
      have eS : H10 lS = some (.lst ((["place", "stretch", "long"] : List Str).map V.str)) := by walk_at "g"
      have nd3 : (["place", "stretch", "long"] : List Str).Nodup := by decide +kernel
      walk_at "u"
      refine s_ixl e10' at0 ?_
      walk_at "u"
      refine s_indexS (SqL.of eS) iz nd3 ?_
      walk_at "u"
      refine s_ite (fun h => ?_) (fun h => ?_)
      · walk_at "u"
        walk_at "na"
        intro u6 H11 f11 e11 k11
        walk_at "u"
        exact bad (sc_lt hp (by omega)) u6 H11 e11 (by walk_at "k")
      walk_at "u"
      refine s_ixl e10' at0 ?_
      walk_at "u"
      refine s_indexS (SqL.of eS) iz nd3 ?_
      have gp10 : H10 lp = some (.lst [.ref p0, .ref p1, .ref p2]) := by walk_at "g"
      have k610 : Kp [] H6 H10 := by walk_at "k"
      have n80 : l8 ≠ p0 := by walk_at "ne"
      have n81 : l8 ≠ p1 := by walk_at "ne"
      have n82 : l8 ≠ p2 := by walk_at "ne"
      have b0 := k610.get0 a0
      have b1 := k610.get0 a1
      have b2 := k610.get0 a2
      clear k7 k8 k9 k10 e8 e9 f8 f9 eu fu e10' eS
      have zz : Kz [] H6 H10 := ⟨k610⟩
      clear k610
      have lv0 := L0.len
      have lv1 := L1.len
      have lv2 := L2.len
      have tl0 := t_len t0 rs
      have tl1 := t_len t1 rs
      have tl2 := t_len t2 rs
      cases q with
      | p n d =>
        have e10 : H10 l8 = some (.lst ((w8 (.p n d)).map V.str)) := e10
        walk_at "u"
        refine s_sll (SqL.of e10) fun l11 H11 f11 e11 k11 => ?_
        have e11 : H11 l11 = some (.lst (([n, d] : List Str).map V.str)) := e11
        walk_at "u"
        refine s_app (xs := v0) (by walk_at "g") (zlt (by omega)) fun H12 e12 k12 => ?_
        walk_at "u"
        have m0 : l11 ≠ p0 := by walk_at "ne"
        have m1 : l11 ≠ p1 := by walk_at "ne"
        have m2 : l11 ≠ p2 := by walk_at "ne"
        have z12 : Kp [p0, p1, p2] H6 H12 := Kp.mono ((zz.k.trans k11).nil.trans k12) (by simp)
        have hk := hid_kp (ps := [p0, p1, p2]) z12 (by simp)
        have c11 : H12 l11 = some (.lst (([n, d] : List Str).map V.str)) := k12.get1 e11 m0
        exact ⟨Kp.step k6 z12 (by simp [fz0.f, fz1.f, fz2.f]), z56.k.trans z12, v0 ++ [.ref l11], v1, v2, rs ++ [.p n d], ⟨e12, k12.get1 (k11.get0 b1) n01.symm, k12.get1 (k11.get0 b2) n02.symm⟩, ⟨(by rw [t_app]; exact (L0.kp hk).app (hid_of c11 (by simp [m0, m1, m2]))), (by rw [t_app]; simpa [t1] using L1.kp hk), (by rw [t_app]; simpa [t2] using L2.kp hk)⟩, hg.trans (sc_go hp (by omega)), by simp [lrs], _, _, _, _, by rw [la8_app]⟩
      | s kd g =>
        have e10 : H10 l8 = some (.lst ((w8 (.s kd g)).map V.str)) := e10
        walk_at "u"
        refine s_sll (SqL.of e10) fun l11 H11 f11 e11 k11 => ?_
        have e11 : H11 l11 = some (.lst (([kd, g] : List Str).map V.str)) := e11
        walk_at "u"
        refine s_app (xs := v1) (by walk_at "g") (zlt (by omega)) fun H12 e12 k12 => ?_
        walk_at "u"
        have m0 : l11 ≠ p0 := by walk_at "ne"
        have m1 : l11 ≠ p1 := by walk_at "ne"
        have m2 : l11 ≠ p2 := by walk_at "ne"
        have z12 : Kp [p0, p1, p2] H6 H12 := Kp.mono ((zz.k.trans k11).nil.trans k12) (by simp)
        have hk := hid_kp (ps := [p0, p1, p2]) z12 (by simp)
        have c11 : H12 l11 = some (.lst (([kd, g] : List Str).map V.str)) := k12.get1 e11 m1
        exact ⟨Kp.step k6 z12 (by simp [fz0.f, fz1.f, fz2.f]), z56.k.trans z12, v0, v1 ++ [.ref l11], v2, rs ++ [.s kd g], ⟨k12.get1 (k11.get0 b0) n01, e12, k12.get1 (k11.get0 b2) n12.symm⟩, ⟨(by rw [t_app]; simpa [t0] using L0.kp hk), (by rw [t_app]; exact (L1.kp hk).app (hid_of c11 (by simp [m0, m1, m2]))), (by rw [t_app]; simpa [t2] using L2.kp hk)⟩, hg.trans (sc_go hp (by omega)), by simp [lrs], _, _, _, _, by rw [la8_app]⟩
      | l a b g =>
        have e10 : H10 l8 = some (.lst ((w8 (.l a b g)).map V.str)) := e10
        walk_at "u"
        refine s_sll (SqL.of e10) fun l11 H11 f11 e11 k11 => ?_
        have e11 : H11 l11 = some (.lst (([a, b, g] : List Str).map V.str)) := e11
        walk_at "u"
        refine s_app (xs := v2) (by walk_at "g") (zlt (by omega)) fun H12 e12 k12 => ?_
        walk_at "u"
        have m0 : l11 ≠ p0 := by walk_at "ne"
        have m1 : l11 ≠ p1 := by walk_at "ne"
        have m2 : l11 ≠ p2 := by walk_at "ne"
        have z12 : Kp [p0, p1, p2] H6 H12 := Kp.mono ((zz.k.trans k11).nil.trans k12) (by simp)
        have hk := hid_kp (ps := [p0, p1, p2]) z12 (by simp)
        have c11 : H12 l11 = some (.lst (([a, b, g] : List Str).map V.str)) := k12.get1 e11 m2
        exact ⟨Kp.step k6 z12 (by simp [fz0.f, fz1.f, fz2.f]), z56.k.trans z12, v0, v1, v2 ++ [.ref l11], rs ++ [.l a b g], ⟨k12.get1 (k11.get0 b0) n02, k12.get1 (k11.get0 b1) n12, e12⟩, ⟨(by rw [t_app]; simpa [t0] using L0.kp hk), (by rw [t_app]; simpa [t1] using L1.kp hk), (by rw [t_app]; exact (L2.kp hk).app (hid_of c11 (by simp [m0, m1, m2])))⟩, hg.trans (sc_go hp (by omega)), by simp [lrs], _, _, _, _, by rw [la8_app]⟩
  · rintro σ H6 ⟨k6, k56, v0, v1, v2, rs, ⟨a0, a1, a2⟩, ⟨L0, L1, L2⟩, hg, lrs, u3, u4, u9, u11, rfl⟩
    rw [List.length_map, List.drop_of_length_le (Nat.le_refl _)] at hg
    have hg : sc [] 0 rows = .inr rs := hg
    have hF : Fin8 K rs H Q := kG rs hg
    obtain ⟨hok, _⟩ := sc_ok hg (by simp)
    have gp6 : H6 lp = some (.lst [.ref p0, .ref p1, .ref p2]) := k56.get gp (by simp [np0, np1, np2])
    have L0 := L0.kp hid_le
    have L1 := L1.kp hid_le
    have L2 := L2.kp hid_le
    have tl0 := t_len t0 rs
    have tl1 := t_len t1 rs
    have tl2 := t_len t2 rs
    have lv0 := L0.len
    have lv1 := L1.len
    have lv2 := L2.len
    rw [List.length_map] at lrs
    have z6 : Kz [] H H6 := ⟨k6⟩
    clear k6 k56 kB kG hg gp g0 g1 g2 e5 z5 fz0 fz1 fz2
    walk_at "u"
    refine s_ilst (SqL.of a0) ?_
    intro D hD
    refine lc_L a0 hD (fun i acc H' => Kp [D] H6 H' ∧ acc.length ≤ i ∧ Rw H' acc (rP (((rs.filterMap t0).take i).map fun w => (w.headD "", dgV (w.getD 1 ""))))) (fun H7 e7 k7 => ⟨by walk_at "k", by simp, .nil⟩) (fun i acc H' p o e => p.1.get1 e (by walk_at "ne")) ?_ ?_
    · rintro i x acc H7 ex ea ⟨k7, la, R⟩
      have hi := (List.getElem?_eq_some_iff.mp ex).1
      obtain ⟨a, ws, rfl, ew, el⟩ := (L0.kpf k7 (by simpa using hD)).at ex
      obtain ⟨n, d, rfl, hn, hd⟩ := t0_at hok ew
      have na : a ≠ D := by
        obtain ⟨a', ws', e', _, ee⟩ := L0.at ex
        cases e'
        exact (Th.lst ee).ne hD
      obtain ⟨c, rfl, ec⟩ := dg_one (dg_int hd).2.1
      rw [ec, decide_eq_true_eq] at hd
      have el : H7 a = some (.lst [.str n, .str ⟨#[c]⟩]) := el
      walk_at "u"
      refine ⟨rfl, ?_⟩
      walk_at "u"
      refine ⟨_, _, c - 48, [], rfl, rfl, dig_occ c (by rw [List.mem_range']; exact ⟨c - 48, by omega, by omega⟩), ?_⟩
      walk_at "u"
      walk_at "na"
      intro t8 H8 f8 e8 k8
      refine PvD.add (acc := acc) (by walk_at "g") (by omega) fun H9 e9 k9 => ⟨by walk_at "k", by simp; omega, ?_⟩
      rw [take_one ew, List.map_append]
      unfold rP
      rw [List.map_append]
      exact ((R.kp k8).kp k9).app (.one (k9.tgt e8))
    rintro vp H7 ep ⟨k7, _, R1⟩
    rw [lv0, List.take_of_length_le (Nat.le_refl _), t0_fp] at R1
    have L1' := L1.kpf k7 (by simpa using hD)
    have L2' := L2.kpf k7 (by simpa using hD)
    have a17 : H7 p1 = some (.lst v1) := by walk_at "g"
    have a27 : H7 p2 = some (.lst v2) := by walk_at "g"
    have gp7 : H7 lp = some (.lst [.ref p0, .ref p1, .ref p2]) := by walk_at "g"
    walk_at "u"
    refine s_ilst (SqL.of a17) ?_
    intro D3 hD3
    refine lc_L a17 hD3 (fun i acc H' => Kp [D3] H7 H' ∧ acc.length ≤ i ∧ Rw H' acc (rP (((rs.filterMap t1).take i).map fun w => (w.headD "", hV (w.getD 1 ""))))) (fun H8 e8 k8 => ⟨by walk_at "k", by simp, .nil⟩) (fun i acc H' p o e => p.1.get1 e (by walk_at "ne")) ?_ ?_
    · rintro i x acc H8 ex ea ⟨k8, la, R⟩
      have hi := (List.getElem?_eq_some_iff.mp ex).1
      obtain ⟨a, ws, rfl, ew, el⟩ := (L1'.kpf k8 (by simpa using hD3)).at ex
      obtain ⟨kd, g, rfl, hk, hg⟩ := t1_at hok ew
      have na : a ≠ D3 := by
        obtain ⟨a', ws', e', _, ee⟩ := L1'.at ex
        cases e'
        exact (Th.lst ee).ne hD3
      have el : H8 a = some (.lst [.str kd, .str g]) := el
      walk_at "u"
      refine ⟨rfl, ?_⟩
      walk_at "u"
      refine s_intB ?_
      rw [dec_high]
      walk_at "u"
      walk_at "na"
      intro t9 H9 f9 e9 k9
      refine PvD.add (acc := acc) (by walk_at "g") (by omega) fun H10 e10 k10 => ⟨by walk_at "k", by simp; omega, ?_⟩
      rw [take_one ew, List.map_append]
      unfold rP
      rw [List.map_append]
      exact ((R.kp k9).kp k10).app (.one (k10.tgt e9))
    rintro vs H8 es ⟨k8, _, R2⟩
    rw [lv1, List.take_of_length_le (Nat.le_refl _), t1_fs] at R2
    have L2 := L2'.kpf k8 (by simpa using hD3)
    have ep8 : H8 D = some (.lst vp) := by walk_at "g"
    have a28 : H8 p2 = some (.lst v2) := by walk_at "g"
    have gp8 : H8 lp = some (.lst [.ref p0, .ref p1, .ref p2]) := by walk_at "g"
    have lrs' : rs.length ≤ 10001 := by omega
    have hPS : PS H8 D D3 (pl8 rs) (st8 rs) vp vs := ⟨ep8, es, R1.kp k8, R2, fp_ok hok, fs_ok hok, f_le fp lrs', f_le fs lrs'⟩
    have z8 : Kz [] H H8 := ⟨(z6.k.trans (k7.drop hD)).trans (k8.drop hD3)⟩
    clear R1 R2 ep es ep8 k7 k8 L0 L1 L1' L2' a0 a1 a2 a17 a27 gp6 gp7 hD hD3 z6
    have d0 := hPS.d0 (K := K)
    obtain ⟨tg1, tg2⟩ := hPS.tg
    have tg1' : Tg K H8 [D, D3] 3 (.ref D) := tg1.mono (by simp) (Nat.le_refl _)
    have tg2' : Tg K H8 [D, D3] 3 (.ref D3) := tg2.mono (by simp) (Nat.le_refl _)
    walk_at "u"
    refine ⟨_, _, _, rfl, [D, D3], tg1', tg2', .non, fun c w e u H9 eu k9 => ?_, fun e H9 k9 => ?_⟩
    · rw [e] at d0
      obtain ⟨d, ed, hd⟩ := d0.som
      walk_at "u"
      exact hF u c w d H9 (out_0 ed) eu (hd.kp k9) (z8.k.trans k9)
    rw [e] at d0
    have d0 := d0.non
    obtain ⟨nd, p2', p6⟩ := due0_ok d0
    have hPS9 := hPS.kp k9
    have L29 := L2.kp k9
    have gp9 : H9 lp = some (.lst [.ref p0, .ref p1, .ref p2]) := k9.get0 gp8
    have a29 : H9 p2 = some (.lst v2) := k9.get0 a28
    have tg19 : Tg K H9 [D, D3] 3 (.ref D) := tg1'.kp k9
    have tg29 : Tg K H9 [D, D3] 3 (.ref D3) := tg2'.kp k9
    have z9 : Kz [] H H9 := ⟨z8.k.trans k9⟩
    clear k9 hPS L2 gp8 a28 tg1' tg2' tg1 tg2 z8
    have eD9 := hPS9.ea
    have lvp : vp.length = (pl8 rs).length := by rw [hPS9.rp.len, rP_len]
    walk_at "u"
    refine s_ilst (SqL.of eD9) ?_
    intro D4 hD4
    refine lc_L eD9 hD4 (fun i acc H' => Kp [D4] H9 H' ∧ acc = ((nm8 rs).take i).map V.str) (fun H1 e4 k1 => ⟨by walk_at "k", rfl⟩) (fun i acc H' p o e => p.1.get1 e (by walk_at "ne")) ?_ ?_
    · rintro i x acc H' ex ea ⟨k1, rfl⟩
      obtain ⟨u, r, rfl, er, eu⟩ := hPS9.rp.at ex
      obtain ⟨q, eq, rfl⟩ := rP_at er
      walk_at "u"
      refine ⟨rfl, ?_⟩
      walk_at "u"
      refine PvD.add ea (by simp; omega) fun H2 e2 k2 => ⟨by walk_at "k", ?_⟩
      rw [take_one (x := q.1) (by simp [eq]), List.map_append]
      rfl
    rintro acc H10 e10 ⟨k10, rfl⟩
    rw [lvp, List.take_of_length_le (by simp)] at e10
    have hPS10 := hPS9.kp (k10.drop hD4)
    have L210 := L29.kp (k10.drop hD4)
    have gp10 : H10 lp = some (.lst [.ref p0, .ref p1, .ref p2]) := (k10.drop hD4).get0 gp9
    have a210 : H10 p2 = some (.lst v2) := (k10.drop hD4).get0 a29
    have tg110 : Tg K H10 [D, D3] 3 (.ref D) := tg19.kp (k10.drop hD4)
    have tg210 : Tg K H10 [D, D3] 3 (.ref D3) := tg29.kp (k10.drop hD4)
    have z10 : Kz [] H H10 := ⟨z9.k.trans (k10.drop hD4)⟩
    clear k10 hD4 hPS9 L29 gp9 a29 tg19 tg29 z9 eD9
    walk_at "u"
    refine s_ilst (SqL.of a210) ?_
    have hlw := L210.len
    have eW : (rs.filterMap t2).map gw = ln8 rs := t2_fl
    have lrs'' : (rs.filterMap t2).length ≤ 10001 := by omega
    refine for_L a210 (fun i σ H' => Kp [] H10 H' ∧ badN (nm8 rs) (ln8 rs) = badN (nm8 rs) (((rs.filterMap t2).drop i).map gw) ∧ ∃ u9 u12, σ = [some (.str z), some (.ref lp), some (.int (la8 rs : Nat)), u3, u4, some (.ref D), some (.ref D3), some .non, some (.ref D4), u9, none, u11, u12, none, none]) ⟨Kp.refl, by rw [← eW]; rfl, _, _, rfl⟩ (fun i σ' H' q o e => q.1.get0 e) ?_ ?_
    · rintro i x σ H11 ex ⟨k11, hb, u9', u12, rfl⟩
      obtain ⟨a, ws, rfl, ew, el⟩ := (L210.kp k11).at ex
      obtain ⟨A, B, g, rfl, hA, hB, hg8⟩ := t2_at hok ew
      obtain ⟨hi', eri⟩ := List.getElem?_eq_some_iff.mp ew
      rw [List.drop_eq_getElem_cons hi', eri] at hb
      have hb : badN (nm8 rs) (ln8 rs) = badN (nm8 rs) ((A, B, hV g) :: ((rs.filterMap t2).drop (i + 1)).map gw) := hb
      have e11 : H11 D4 = some (.lst ((nm8 rs).map V.str)) := k11.get0 e10
      have z11 : Kz [] H H11 := ⟨z10.k.trans k11⟩
      walk_at "u"
      refine s_sll (SqL.of el) fun l12 H12 f12 e12 k12 => ?_
      have e12 : H12 l12 = some (.lst [.str A, .str B]) := e12
      have z12 : Kz [] H H12 := ⟨z11.k.trans k12⟩
      have kk : Kp [] H10 H12 := k11.trans k12
      have e12n : H12 D4 = some (.lst ((nm8 rs).map V.str)) := k12.get0 e11
      clear k11 k12 el e11 z11
      walk_at "u"
      refine s_ilst (SqL.of e12) ?_
      refine for_L e12 (fun j σ H' => H' = H12 ∧ (1 ≤ j → A ∈ nm8 rs) ∧ (2 ≤ j → B ∈ nm8 rs) ∧ ∃ u12, σ = [some (.str z), some (.ref lp), some (.int (la8 rs : Nat)), u3, u4, some (.ref D), some (.ref D3), some .non, some (.ref D4), some (.ref a), none, u11, u12, none, none]) ⟨rfl, by omega, by omega, _, rfl⟩ (fun i σ' H' q o e => by rw [q.1]; exact e) ?_ ?_
      · rintro j x σ H13 ex ⟨rfl, c1, c2, u12', rfl⟩
        have done : ∀ y : Str, badN (nm8 rs) (ln8 rs) = some y → ∀ u H14, H14 u = some (.tup [.str "place", .str y]) → Kp [] H13 H14 → Q (.ref u) H14 := fun y hy u H14 eu k14 => hF u _ _ _ H14 (out_1 d0 hy) eu (.str _) (z12.k.trans k14)
        match j, ex with
        | 0, ex =>
          cases ex
          walk_at "u"
          refine s_itn (fun h => ?_) (fun h => ?_)
          · walk_at "u"
            walk_at "na"
            intro u H14 f14 e14 k14
            walk_at "u"
            exact done A (hb.trans (badN_no1 h)) u H14 e14 k14
          · walk_at "u"
            exact ⟨rfl, fun _ => h, by omega, _, rfl⟩
        | 1, ex =>
          cases ex
          walk_at "u"
          refine s_itn (fun h => ?_) (fun h => ?_)
          · walk_at "u"
            walk_at "na"
            intro u H14 f14 e14 k14
            walk_at "u"
            exact done B (hb.trans (badN_no2 (c1 (by omega)) h)) u H14 e14 k14
          · walk_at "u"
            exact ⟨rfl, fun _ => c1 (by omega), fun _ => h, _, rfl⟩
        | (j + 2), ex => simp at ex
      · rintro σ H13 ⟨rfl, c1, c2, u12', rfl⟩
        walk_at "u"
        exact ⟨kk, hb.trans (badN_go (c1 (by simp)) (c2 (by simp))), _, _, rfl⟩
    rintro σ H11 ⟨k11, hb, u9', u12, rfl⟩
    rw [hlw, List.drop_of_length_le (Nat.le_refl _)] at hb
    have hb : badN (nm8 rs) (ln8 rs) = none := hb
    have hAll := badN_all hb
    have hPS11 := hPS10.kp k11
    have L211 := L210.kp k11
    have gp11 : H11 lp = some (.lst [.ref p0, .ref p1, .ref p2]) := k11.get0 gp10
    have a211 : H11 p2 = some (.lst v2) := k11.get0 a210
    have tg111 : Tg K H11 [D, D3] 3 (.ref D) := tg110.kp k11
    have tg211 : Tg K H11 [D, D3] 3 (.ref D3) := tg210.kp k11
    have e11 : H11 D4 = some (.lst ((nm8 rs).map V.str)) := k11.get0 e10
    have z11 : Kz [] H H11 := ⟨z10.k.trans k11⟩
    clear k11 hPS10 L210 gp10 a210 tg110 tg210 z10 e10
    walk_at "u"
    refine s_ilst (SqL.of a211) ?_
    intro D5 hD5
    refine lc_L a211 hD5 (fun i acc H' => Kp [D5] H11 H' ∧ acc.length ≤ i ∧ Rw H' acc (rL (lo8 (nm8 rs) (((rs.filterMap t2).take i).map gw)))) (fun H12 e12 k12 => ⟨by walk_at "k", by simp, .nil⟩) (fun i acc H' p o e => p.1.get1 e (by walk_at "ne")) ?_ ?_
    · rintro i x acc H12 ex ea ⟨k12, la, R⟩
      have hi := (List.getElem?_eq_some_iff.mp ex).1
      obtain ⟨a, ws, rfl, ew, el⟩ := (L211.kpf k12 (by simpa using hD5)).at ex
      obtain ⟨A, B, g, rfl, hA, hB, hg8⟩ := t2_at hok ew
      have na : a ≠ D5 := by
        obtain ⟨a', ws', e', _, ee⟩ := L211.at ex
        cases e'
        exact (Th.lst ee).ne hD5
      have el : H12 a = some (.lst [.str A, .str B, .str g]) := el
      have e12n : H12 D4 = some (.lst ((nm8 rs).map V.str)) := k12.get1 e11 (by walk_at "ne")
      obtain ⟨mA, mB⟩ := hAll (A, B, hV g) (by rw [← eW]; exact List.mem_map.mpr ⟨_, List.mem_of_getElem? ew, rfl⟩)
      walk_at "u"
      refine ⟨rfl, ?_⟩
      walk_at "u"
      refine s_indexS (SqL.of e12n) (ix_at mA) nd ?_
      walk_at "u"
      refine s_indexS (SqL.of e12n) (ix_at mB) nd ?_
      walk_at "u"
      refine s_intB ?_
      rw [dec_high]
      walk_at "u"
      walk_at "na"
      intro t13 H13 f13 e13 k13
      refine PvD.add (acc := acc) (by walk_at "g") (by omega) fun H14 e14 k14 => ⟨by walk_at "k", by simp; omega, ?_⟩
      rw [take_one ew, List.map_append]
      unfold rL lo8
      rw [List.map_append, List.map_append]
      exact ((R.kp k13).kp k14).app (.one (k14.tgt e13))
    rintro vl H12 el ⟨k12, _, R3⟩
    rw [hlw, List.take_of_length_le (Nat.le_refl _), eW] at R3
    have hPS12 := hPS11.kp (k12.drop hD5)
    have d1 := hPS12.d1 (K := K) d0 el R3
    have llo : (ln8 rs).length ≤ 10001 := f_le fl lrs'
    have tg3 := tg_L (K := K) (n := 10) el R3 (Nat.le_refl _) (lo8_ok (by simp; omega) (fl_ok rs)) (by simp [lo8]; omega)
    have g1 : Tg K H12 [D, D3, D5] 3 (.ref D) := (tg111.kp (k12.drop hD5)).mono (by simp) (Nat.le_refl _)
    have g2 : Tg K H12 [D, D3, D5] 3 (.ref D3) := (tg211.kp (k12.drop hD5)).mono (by simp) (Nat.le_refl _)
    have g3 : Tg K H12 [D, D3, D5] 3 (.ref D5) := tg3.mono (by simp) (Nat.le_refl _)
    have z12 : Kz [] H H12 := ⟨z11.k.trans (k12.drop hD5)⟩
    clear k12 hD5 hPS11 L211 gp11 a211 tg111 tg211 z11 e11
    walk_at "u"
    refine ⟨_, _, _, rfl, [D, D3, D5], g1, g2, g3, fun c w e u H13 eu k13 => ?_, fun e H13 k13 => ?_⟩
    · rw [e] at d1
      obtain ⟨d, ed, hd⟩ := d1.som
      walk_at "u"
      exact hF u c w d H13 (out_2 d0 hb ed) eu (hd.kp k13) (z12.k.trans k13)
    rw [e] at d1
    have d1 := d1.non
    have hPS13 := hPS12.kp k13
    have R13 := R3.kp k13
    have e13a := hPS13.ea
    have e13b := hPS13.eb
    have e13c : H13 D5 = some (.lst vl) := k13.get0 el
    have z13 : Kz [] H H13 := ⟨z12.k.trans k13⟩
    clear k13 hPS12 R3 el z12
    walk_at "u"
    refine s_tuple (SqL.of e13a) fun t14 H14 f14 e14 k14 => ?_
    walk_at "u"
    refine s_tuple (SqL.of (k14.get0 e13b)) fun t15 H15 f15 e15 k15 => ?_
    walk_at "u"
    refine s_tuple (SqL.of (k15.get0 (k14.get0 e13c))) fun t16 H16 f16 e16 k16 => ?_
    walk_at "u"
    walk_at "na"
    intro t17 H17 f17 e17 k17
    walk_at "u"
    walk_at "na"
    intro t18 H18 f18 e18 k18
    walk_at "u"
    have k1318 : Kp [] H13 H18 := (((k14.trans k15).trans k16).trans k17).trans k18
    exact hF t18 _ _ _ H18 (out_3 d0 hb d1) e18 (.tup (SqT.of (k18.tgt e17)) (.cons (.tup (SqT.of (k18.tgt (k17.tgt (k16.tgt (k15.tgt e14))))) (dn_P (hPS13.rp.kp k1318))) (.cons (.tup (SqT.of (k18.tgt (k17.tgt (k16.tgt e15)))) (dn_P (hPS13.rs.kp k1318))) (.cons (.tup (SqT.of (k18.tgt (k17.tgt e16))) (dn_L (R13.kp k1318))) .nil)))) (z13.k.trans k1318)

theorem let_ss : SS ("abcdefghijklmnopqrstuvwxyz" : Str) 26 := SS.mk' (by decide +kernel)
def letL : List Nat := [97, 98, 99, 100, 101, 102, 103, 104, 105, 106, 107, 108, 109, 110, 111, 112, 113, 114, 115, 116, 117, 118, 119, 120, 121, 122]
theorem let_eq : letters = S letL := by decide +kernel
theorem let_cps : letters.cps.toList = letL := by rw [let_eq, S_cps]
theorem let_nd : letL.Nodup := by decide
theorem let_small : ∀ c ∈ letL, c < 1114112 := by decide
def okW (cs : List Nat) : Prop := 1 ≤ cs.length ∧ cs.length ≤ 6 ∧ ∀ c ∈ cs, c ∈ letL
theorem okW.nm {cs : List Nat} (h : okW cs) : isName (.str (S cs)) = true ∧ SS (S cs) 20 := by
  obtain ⟨h1, h2, h3⟩ := h
  refine ⟨?_, SS.S (by omega) fun c hc => let_small c (h3 c hc)⟩
  unfold isName
  simp only [Bool.and_eq_true, decide_eq_true_eq, List.all_eq_true, S_len, S_cps, let_cps]
  exact ⟨⟨h1, h2⟩, fun c hc => h3 c hc⟩
structure NmsOk (zs : List Str) : Prop where
  nd : zs.Nodup
  ok : ∀ z ∈ zs, isName (.str z) = true ∧ SS z 20
theorem nms_of {F : Nat → List Nat} {n : Nat} (h : ∀ k, k < n → okW (F k)) (i : ∀ j k, j < n → k < n → F j = F k → j = k) : NmsOk ((List.range n).map fun k => S (F k)) :=
  ⟨range_nodup fun j k hj hk e => i j k hj hk (S_inj e), fun z hz => by
    obtain ⟨k, hk, rfl⟩ := List.mem_map.mp hz
    exact (h k (List.mem_range.mp hk)).nm⟩
theorem let_at {i : Int} (h0 : 0 ≤ i) (h1 : i < 26) : ∃ c, c ∈ letL ∧ letL[i.toNat]? = some c ∧ atI ("abcdefghijklmnopqrstuvwxyz" : Str).cps.toList i = some c := by
  have e : ("abcdefghijklmnopqrstuvwxyz" : Str).cps.toList = letL := let_cps
  rw [e]
  obtain ⟨c, e1, e2⟩ := at_int (xs := letL) h0 (by simpa [letL] using h1)
  exact ⟨c, List.mem_of_getElem? e1, e1, e2⟩
def wordsL : List Str := ["place", "staff", "ticket", "low", "high", "long", "pilot", "train", "at", "to", "in", "get", "a"]
theorem wordsL_ok : (wordsL.all fun z => decide (1 ≤ z.cps.toList.length) && decide (z.cps.toList.length ≤ 6) && z.cps.toList.all fun c => decide (c ∈ letL)) = true := by decide +kernel
theorem wordsL_nd : wordsL.Nodup := by decide +kernel
def sp_law_names : Sp := sp2 fun x y H Q _ => ∃ (p : Addr) (n many : Nat), x = .ref p ∧ y = .int many ∧ 1 ≤ many ∧ many ≤ 7 ∧ Box H p n ∧ n ≤ 900000 ∧
  ∀ (l : Addr) (zs : List Str) (H' : Hp), H l = none → H' l = some (.lst (zs.map V.str)) → zs.length = many → NmsOk zs → Box H' p (n + 10) → Kp [p] H H' → Q (.ref l) H'
set_option maxHeartbeats 16000000 in
theorem ok_law_names (T : Tx K mg) : FnOk P w K mg base (L2.CX P w) 2 T.a_law_names T.d_law_names ["_law_box_here", "_law_many"] (sp_law_names) := by
  have G_law_take := ok_law_take (P := P) (w := w) (base := base) T
  refine T.F_law_names.okX sc_law_names (fun vs H Q E h => ?_) (fun cd A o s H vs Q E hr h => ?_)
  · obtain ⟨v0, v1, rfl, h⟩ := h; rfl
  obtain ⟨v0, v1, rfl, h⟩ := h
  obtain ⟨p, n, many, rfl, rfl, hm1, hm7, hB, hn, k⟩ := h
  refine ⟨_, (pss_cons (ps_set (i := 2) sc_law_names.nd rfl (Or.inr rfl) pe_str)
    (pss_cons (ps_set (i := 3) sc_law_names.nd rfl (Or.inr rfl) (pe_lst (pa_cons pe_str (pa_cons pe_str (pa_cons pe_str (pa_cons pe_str (pa_cons pe_str (pa_cons pe_str (pa_cons pe_str (pa_cons pe_str (pa_cons pe_str (pa_cons pe_str (pa_cons pe_str (pa_cons pe_str (pa_cons pe_str pa_nil)))))))))))))))
    (pss_cons (ps_set (i := 4) sc_law_names.nd rfl (Or.inl rfl) (pe_co G_law_take (hr.mono (by decide)) rfl T.m_law_take T.F_law_take.kp T.B_law_take (takes_of (E := E) rfl rfl rfl rfl) (pa_cons (pv 0) (pa_cons pe_int pa_nil))))
    (pss_cons (ps_set (i := 5) sc_law_names.nd rfl (Or.inr rfl) (pe_co G_law_take (hr.mono (by decide)) rfl T.m_law_take T.F_law_take.kp T.B_law_take (takes_of (E := E) rfl rfl rfl rfl) (pa_cons (pv 0) (pa_cons pe_int pa_nil))))
    (pss_cons (ps_if (pt_cmpR (o_eq (K := K) rfl hr) (pv 4) pe_int (nomark _))
    (pss_one (ps_ret (pe_lc (own := [("_law_k", 8)]) rfl sc_law_names.nd (pi_range1 rfl T.z_range (pa_cons (pv 1) pa_nil)) (blkOk_by (own := [("_law_k", 8)]) (N := N_law_names) (sc := defScope s_law_names) (by decide +kernel)) (fun _ _ _ _ _ => (pg_name (i := 8) sc_law_names.nd rfl (Or.inl rfl))) (fun _ _ _ _ _ => pts_nil) (fun _ _ _ _ _ => (pe_ix (ix_u (K := K) rfl) (pv 3) (pe_op o_mod (pe_op (o_add (K := K) rfl) (pv 5) (pe_op o_mul pe_int (pv 8))) pe_int) (fun _ _ => rfl))))))
    pss_nil)
    (pss_cons (ps_set (i := 6) sc_law_names.nd rfl (Or.inr rfl) (pe_joinU (K := K) rfl pe_str (pe_lc (own := [("_law_k", 8)]) rfl sc_law_names.nd (pi_range1 rfl T.z_range (pa_cons pe_int pa_nil)) (blkOk_by (own := [("_law_k", 8)]) (N := N_law_names) (sc := defScope s_law_names) (by decide +kernel)) (fun _ _ _ _ _ => (pg_name (i := 8) sc_law_names.nd rfl (Or.inl rfl))) (fun _ _ _ _ _ => pts_nil) (fun _ _ _ _ _ => (pe_ix (ix_u (K := K) rfl) (pv 2) (pe_co G_law_take (hr.mono (by decide)) rfl T.m_law_take T.F_law_take.kp T.B_law_take takes0 (pa_cons (pv 0) (pa_cons pe_int pa_nil))) (fun _ _ => rfl))))))
    (pss_cons (ps_if (PW.pt (pw_and (pt_cmpR (o_eq (K := K) rfl hr) (pv 4) pe_int (nomark _)) (pw_and1 (pt_cmpR o_lt (pv 1) pe_int (nomark _)))))
    (pss_one (ps_ret (pe_lc (own := [("_law_k", 8)]) rfl sc_law_names.nd (pi_range1 rfl T.z_range (pa_cons (pv 1) pa_nil)) (blkOk_by (own := [("_law_k", 8)]) (N := N_law_names) (sc := defScope s_law_names) (by decide +kernel)) (fun _ _ _ _ _ => (pg_name (i := 8) sc_law_names.nd rfl (Or.inl rfl))) (fun _ _ _ _ _ => pts_nil) (fun _ _ _ _ _ => (pe_slice (sl_u (K := K) rfl) (pv 6) po_none (po_some (pe_op (o_add (K := K) rfl) pe_int (pe_op o_mod (pe_op (o_add (K := K) rfl) (pv 5) (pe_op o_mul pe_int (pv 8))) pe_int))))))))
    pss_nil)
    (pss_cons (ps_set (i := 7) sc_law_names.nd rfl (Or.inr rfl) (pe_co G_law_take (hr.mono (by decide)) rfl T.m_law_take T.F_law_take.kp T.B_law_take (takes_of (E := E) rfl rfl rfl rfl) (pa_cons (pv 0) (pa_cons pe_int pa_nil))))
    (pss_one (ps_ret (pe_lc (own := [("_law_k", 8)]) rfl sc_law_names.nd (pi_range1 rfl T.z_range (pa_cons (pv 1) pa_nil)) (blkOk_by (own := [("_law_k", 8)]) (N := N_law_names) (sc := defScope s_law_names) (by decide +kernel)) (fun _ _ _ _ _ => (pg_name (i := 8) sc_law_names.nd rfl (Or.inl rfl))) (fun _ _ _ _ _ => pts_nil) (fun _ _ _ _ _ => (pe_op (o_add (K := K) rfl) (pe_op (o_add (K := K) rfl) (pe_slice (sl_u (K := K) rfl) (pv 6) po_none (po_some (pv 7))) (pe_ix (ix_u (K := K) rfl) (pv 2) (pe_op o_mod (pe_op (o_add (K := K) rfl) (pv 5) (pe_op o_mul pe_int (pv 8))) pe_int) (fun _ _ => rfl))) (pe_slice (sl_u (K := K) rfl) (pv 6) (po_some (pv 7)) (po_some (pe_op (o_add (K := K) rfl) (pv 7) (pe_op o_mod (pe_op (o_add (K := K) rfl) (pv 5) (pv 8)) (pe_op o_sub pe_int (pv 7))))))))))))))))))), ?_⟩
  rw [st_law_names]
  have kf : ∀ {l : Addr} {F : Nat → List Nat} {H' : Hp}, H l = none → H' l = some (.lst ((List.range many).map fun k => V.str (S (F k)))) → (∀ k, k < many → okW (F k)) → (∀ j k, j < many → k < many → F j = F k → j = k) → Box H' p (n + 10) → Kp [p] H H' → Q (.ref l) H' := fun f e h1 h2 hB' k' => by
    refine k _ _ _ f ?_ ?_ (nms_of h1 h2) hB' k'
    · rw [List.map_map]; exact e
    · simp
  walk_at "u"
  walk_at "na"
  intro l1 H1 f1 e1 k1
  walk_at "u"
  walk_at "tk"
  intro way H2 w0 w1 B2 k2
  walk_at "u"
  walk_at "tk"
  intro first H3 i0 i1 B3 k3
  walk_at "u"
  refine s_ite (fun h => ?_) (fun h => ?_)
  · walk_at "u"
    refine s_rng (by omega) (by omega) ?_
    intro D hD
    let F : Nat → List Nat := fun k => (wordsL.getD ((first + 5 * (0 + (k : Int))) % 13).toNat "").cps.toList
    refine lc_R hD (fun i acc H' => Kp [D] H3 H' ∧ acc = (List.range i).map fun k => V.str (S (F k))) (fun H4 e4 k4 => ⟨by walk_at "k", rfl⟩) ?_ ?_
    · rintro i acc H4 hi ea ⟨k4, rfl⟩
      walk_at "u"
      refine ⟨rfl, ?_⟩
      walk_at "u"
      have j0 : 0 ≤ (first + 5 * (0 + (i : Int))) % 13 := Int.emod_nonneg _ (by decide)
      have j1 : (first + 5 * (0 + (i : Int))) % 13 < 13 := Int.emod_lt_of_pos _ (by decide)
      obtain ⟨v, hv, ev⟩ := at_int (xs := wordsL.map V.str) j0 (by simpa [wordsL] using j1)
      rw [List.getElem?_map] at hv
      obtain ⟨z, ez, rfl⟩ := Option.map_eq_some_iff.mp hv
      have e1' : H1 l1 = some (.lst (wordsL.map V.str)) := e1
      refine s_ixl (by walk_at "g") ev ?_
      refine PvD.add ea (by simp; omega) fun H5 e5 k5 => ⟨by walk_at "k", ?_⟩
      rw [range_snoc]
      congr 1
      show [V.str z] = [V.str (S (wordsL.getD _ "").cps.toList)]
      rw [S_of, List.getD_eq_getElem?_getD, ez]
      rfl
    · rintro acc H4 ea ⟨k4, rfl⟩
      walk_at "u"
      refine kf (F := F) (by walk_at "f") ea (fun k hk => ?_) (fun j k hj hk e => ?_) (Box.more (n := n + 2) (by walk_at "g") (by omega)) (by walk_at "k")
      · have j1 : ((first + 5 * (0 + (k : Int))) % 13).toNat < 13 := by omega
        have hm : wordsL.getD ((first + 5 * (0 + (k : Int))) % 13).toNat "" ∈ wordsL := by
          rw [List.getD_eq_getElem?_getD, List.getElem?_eq_getElem (show _ < wordsL.length by simpa [wordsL] using j1)]
          exact List.getElem_mem _
        have := List.all_eq_true.mp wordsL_ok _ hm
        simp only [Bool.and_eq_true, decide_eq_true_eq, List.all_eq_true] at this
        exact ⟨this.1.1, this.1.2, this.2⟩
      · have j1 : ((first + 5 * (0 + (j : Int))) % 13).toNat < wordsL.length := by simp only [wordsL, List.length_cons, List.length_nil]; omega
        have j2 : ((first + 5 * (0 + (k : Int))) % 13).toNat < wordsL.length := by simp only [wordsL, List.length_cons, List.length_nil]; omega
        have e' : wordsL.getD ((first + 5 * (0 + (j : Int))) % 13).toNat "" = wordsL.getD ((first + 5 * (0 + (k : Int))) % 13).toNat "" := by
          have := congrArg S e
          rwa [S_of, S_of] at this
        rw [List.getD_eq_getElem?_getD, List.getD_eq_getElem?_getD, List.getElem?_eq_getElem j1, List.getElem?_eq_getElem j2] at e'
        have := (List.getElem_inj wordsL_nd).mp (show wordsL[_] = wordsL[_] from e')
        omega
  · walk_at "u"
    refine s_rng (by omega) (by omega) ?_
    intro D hD
    refine lc_R hD (fun i acc H' => Kp [p, D] H3 H' ∧ Box H' p (n + 2 + i) ∧ ∃ cs : List Nat, (∀ c ∈ cs, c ∈ letL) ∧ cs.length = i ∧ acc = cs.map fun c => V.str ⟨#[c]⟩) (fun H4 e4 k4 => ⟨by walk_at "k", by walk_at "g", [], by simp, rfl, rfl⟩) ?_ ?_
    · rintro i acc H4 hi ea ⟨k4, B4, cs, hcs, hl, rfl⟩
      walk_at "u"
      refine ⟨rfl, ?_⟩
      walk_at "u"
      walk_at "tk"
      intro d5 H5 d50 d51 B5 k5
      walk_at "u"
      obtain ⟨c, hc, _, hc2⟩ := let_at d50 d51
      refine s_ixs (by decide +kernel) hc2 ?_
      refine PvD.add (acc := cs.map fun c => V.str ⟨#[c]⟩) (by walk_at "g") (by simp; omega) fun H6 e6 k6 => ⟨by walk_at "k", by walk_at "g", cs ++ [c], ?_, by simp [hl], by simp⟩
      intro y hy
      rcases List.mem_append.mp hy with hy | hy
      · exact hcs y hy
      · rw [List.mem_singleton.mp hy]; exact hc
    · rintro acc H4 ea ⟨k4, B4, cs, hcs, hl, rfl⟩
      walk_at "u"
      refine s_join (ys := cs.map fun c => ⟨#[c]⟩) (by rw [List.map_map]; exact ea) ?_ ?_
      · rw [ones_len, List.length_map, show (Str.ofString "").length = 0 by decide +kernel]
        omega
      rw [S_join]
      have hl6 : cs.length = 6 := by simpa using hl
      have sS : (S cs).length = 6 := by rw [S_len]; exact hl6
      clear hl
      walk_at "w"
      refine s_ifS (jT (fun b H' => H4 = H' ∧ (b = true → way = 1 ∧ many < 7)) (fun b H' => ?_) (fun _ key => ?_))
      rotate_left
      · walk_at "u"
        refine s_ite (fun h => ?_) (fun h => ?_)
        · walk_at "u"
          exact key _ _ ⟨rfl, fun e => ⟨h, by have := of_decide_eq_true e; omega⟩⟩
        · exact key _ _ ⟨rfl, fun e => by cases e⟩
      rintro ⟨rfl, hb⟩
      cases b with
      | true =>
        obtain ⟨hw1, hm6⟩ := hb rfl
        walk_at "u"
        refine s_rng (by omega) (by omega) ?_
        intro L hL
        let F : Nat → List Nat := fun k => cs.take (1 + (first + 5 * (0 + (k : Int))) % 6).toNat
        refine lc_R hL (fun i acc H' => Kp [L] H4 H' ∧ acc = (List.range i).map fun k => V.str (S (F k))) (fun H5 e5 k5 => ⟨by walk_at "k", rfl⟩) ?_ ?_
        · rintro i acc H5 hi ea5 ⟨k5, rfl⟩
          walk_at "u"
          refine ⟨rfl, ?_⟩
          walk_at "u"
          refine s_sls (zle (by omega)) ?_
          rw [S_pre cs (by omega)]
          refine PvD.add ea5 (by simp; omega) fun H6 e6 k6 => ⟨by walk_at "k", ?_⟩
          rw [range_snoc]
        · rintro acc H5 ea5 ⟨k5, rfl⟩
          walk_at "u"
          refine kf (F := F) (by walk_at "f") ea5 (fun k hk => ?_) (fun j k hj hk e => ?_) (Box.more (n := n + 2 + 6) (by walk_at "g") (by omega)) (by walk_at "k")
          · refine ⟨?_, ?_, fun c hc => hcs c (List.mem_of_mem_take hc)⟩
            · show 1 ≤ (cs.take _).length; rw [List.length_take]; omega
            · show (cs.take _).length ≤ 6; rw [List.length_take]; omega
          · have := congrArg List.length e
            simp only [F, List.length_take, hl6] at this
            omega
      | false =>
        walk_at "u"
        walk_at "tk"
        intro at' H5 a0 a1 B5 k5
        walk_at "u"
        refine s_rng (by omega) (by omega) ?_
        intro L hL
        let F : Nat → List Nat := fun k => cs.take at'.toNat ++ [letL.getD ((first + 7 * (0 + (k : Int))) % 26).toNat 0] ++ (cs.drop at'.toNat).take ((at' + (first + (0 + (k : Int))) % (6 - at')).toNat - at'.toNat)
        refine lc_R hL (fun i acc H' => Kp [L] H5 H' ∧ acc = (List.range i).map fun k => V.str (S (F k))) (fun H6 e6 k6 => ⟨by walk_at "k", rfl⟩) ?_ ?_
        · rintro i acc H6 hi ea6 ⟨k6, rfl⟩
          walk_at "u"
          refine ⟨rfl, ?_⟩
          walk_at "u"
          refine s_sls (zle (by omega)) ?_
          rw [S_pre cs a0]
          walk_at "u"
          have j0 : 0 ≤ (first + 7 * (0 + (i : Int))) % 26 := Int.emod_nonneg _ (by decide)
          have j1 : (first + 7 * (0 + (i : Int))) % 26 < 26 := Int.emod_lt_of_pos _ (by decide)
          obtain ⟨c, hc, ec, hc2⟩ := let_at j0 j1
          refine s_ixs (by decide +kernel) hc2 ?_
          have eS : (⟨#[c]⟩ : Str) = S [c] := rfl
          rw [eS]
          refine s_adds (zle (by rw [S_len, S_len]; simp; omega)) ?_
          rw [S_app]
          walk_at "u"
          have m0 : 0 ≤ (first + (0 + (i : Int))) % (6 - at') := Int.emod_nonneg _ (by omega)
          have m1 : (first + (0 + (i : Int))) % (6 - at') < 6 - at' := Int.emod_lt_of_pos _ (by omega)
          refine s_sls (zle (by omega)) ?_
          rw [S_mid cs a0 (by omega)]
          refine s_adds (zle (by rw [S_len, S_len]; simp; omega)) ?_
          rw [S_app]
          refine PvD.add ea6 (by simp; omega) fun H7 e7 k7 => ⟨by walk_at "k", ?_⟩
          rw [range_snoc]
          congr 1
          show [V.str (S _)] = [V.str (S (F i))]
          simp only [F, List.getD_eq_getElem?_getD, ec, Option.getD_some]
        · rintro acc H6 ea6 ⟨k6, rfl⟩
          walk_at "u"
          have gl : ∀ k : Nat, ∃ c, c ∈ letL ∧ letL[((first + 7 * (0 + (k : Int))) % 26).toNat]? = some c := fun k => by
            obtain ⟨c, hc, ec, _⟩ := let_at (i := (first + 7 * (0 + (k : Int))) % 26) (Int.emod_nonneg _ (by decide)) (Int.emod_lt_of_pos _ (by decide))
            exact ⟨c, hc, ec⟩
          refine kf (F := F) (by walk_at "f") ea6 (fun k hk => ?_) (fun j k hj hk e => ?_) (Box.more (n := n + 2 + 6 + 1) (by walk_at "g") (by omega)) (by walk_at "k")
          · obtain ⟨c, hc, ec⟩ := gl k
            have m0 : 0 ≤ (first + (0 + (k : Int))) % (6 - at') := Int.emod_nonneg _ (by omega)
            have m1 : (first + (0 + (k : Int))) % (6 - at') < 6 - at' := Int.emod_lt_of_pos _ (by omega)
            refine ⟨by simp [F]; omega, ?_, ?_⟩
            · simp only [F, List.length_append, List.length_take, List.length_drop, List.length_cons, List.length_nil, hl6]
              omega
            · intro x hx
              simp only [F, List.mem_append, List.mem_singleton, List.getD_eq_getElem?_getD, ec, Option.getD_some] at hx
              rcases hx with (hx | rfl) | hx
              · exact hcs x (List.mem_of_mem_take hx)
              · exact hc
              · exact hcs x (List.mem_of_mem_drop (List.mem_of_mem_take hx))
          · obtain ⟨c, hc, ec⟩ := gl j
            obtain ⟨c', hc', ec'⟩ := gl k
            have hF : ∀ (k : Nat) (c : Nat), letL[((first + 7 * (0 + (k : Int))) % 26).toNat]? = some c → (F k)[at'.toNat]? = some c := fun k c ec => by
              simp only [F, List.append_assoc]
              rw [List.getElem?_append_right (by rw [List.length_take]; omega), List.length_take, hl6, show at'.toNat - min at'.toNat 6 = 0 by omega]
              simp only [List.getD_eq_getElem?_getD, ec, Option.getD_some]
              rfl
            have := hF j c ec
            rw [e, hF k c' ec'] at this
            cases this
            have hj := (List.getElem?_eq_some_iff.mp ec).1
            have := (List.getElem?_inj hj let_nd).mp (ec.trans ec'.symm)
            omega
theorem NmsOk.cut {zs : List Str} (h : NmsOk zs) (n : Nat) : NmsOk (zs.take n) := ⟨h.nd.sublist (List.take_sublist _ _), fun z hz => h.ok z (List.mem_of_mem_take hz)⟩

theorem cut_last (xs : List V) (n : Nat) (h : xs.length = n + 1) : cutV xs none (some (-1)) = xs.take n := by
  unfold cutV
  rw [h, HT.sIx_none, List.drop_zero]
  simp only [HT.sIx]
  rw [if_pos (by decide)]
  congr 1
  omega
theorem low_app (lo : Lo) (q : Int × Int × Int) {low high : Int} (h : GoodL low high lo) (h1 : lowAt low lo lo.length ≤ q.1) (h2 : q.1 + 2 ≤ q.2.1) (h3 : q.2.1 ≤ high) (h4 : q.2.2 = 0 ∨ q.2.2 = 1) : GoodL low high (lo ++ [q]) := by
  induction lo generalizing low with
  | nil => exact ⟨h1, h2, h3, h4, trivial⟩
  | cons p r ih =>
    refine ⟨h.1, h.2.1, h.2.2.1, h.2.2.2.1, ih h.2.2.2.2 ?_⟩
    cases r with
    | nil => simpa [lowAt] using h1
    | cons p' r =>
      simp only [List.length_cons, lowAt, List.getElem?_cons_succ] at h1 ⊢
      have hi : r.length < (p' :: r).length := by simp
      rw [List.getElem?_eq_getElem hi] at h1 ⊢
      exact h1
theorem lowAt_app (lo : Lo) (q : Int × Int × Int) (low : Int) : lowAt low (lo ++ [q]) (lo ++ [q]).length = q.2.1 := by
  simp [lowAt]
def sp_law_world : Sp := sp1 fun x H Q _ => ∃ (p : Addr) (n : Nat), x = .ref p ∧ Box H p n ∧ n ≤ 800000 ∧
  ∀ (t a1 a2 a3 : Addr) (w : Wo) (vp vs vl : List V) (z : Str) (H' : Hp), H t = none → H' t = some (.lst [.ref a1, .ref a2, .ref a3, .str z]) → H a1 = none → H' a1 = some (.lst vp) → H a2 = none → H' a2 = some (.lst vs) → H a3 = none → H' a3 = some (.lst vl) →
    a1 ≠ a2 → a1 ≠ a3 → a2 ≠ a3 → t ≠ a1 → t ≠ a2 → t ≠ a3 →
    Rw H' vp (rP w.pl) → Rw H' vs (rP w.st) → Rw H' vl (rL w.lo) → GoodW w → isName (.str z) = true → SS z 20 → z ∉ nms w → Box H' p (n + 60) → Kp [p] H H' → Q (.ref t) H'
set_option maxHeartbeats 16000000 in
theorem ok_law_world (T : Tx K mg) : FnOk P w K mg base (L2.CX P w) 3 T.a_law_world T.d_law_world ["_law_box_here"] (sp_law_world) := by
  have G_law_names := ok_law_names (P := P) (w := w) (base := base) T
  have G_law_take := ok_law_take (P := P) (w := w) (base := base) T
  refine T.F_law_world.okX sc_law_world (fun vs H Q E h => ?_) (fun cd A o s H vs Q E hr h => ?_)
  · obtain ⟨v0, rfl, h⟩ := h; rfl
  obtain ⟨v0, rfl, h⟩ := h
  obtain ⟨p, n, rfl, hB, hn, k⟩ := h
  refine ⟨_, (pss_cons (ps_set (i := 1) sc_law_world.nd rfl (Or.inl rfl) (pe_op (o_add (K := K) rfl) pe_int (pe_co G_law_take (hr.mono (by decide)) rfl T.m_law_take T.F_law_take.kp T.B_law_take (takes_of (E := E) rfl rfl rfl rfl) (pa_cons (pv 0) (pa_cons pe_int pa_nil)))))
    (pss_cons (ps_set (i := 2) sc_law_world.nd rfl (Or.inl rfl) (pe_co G_law_names (hr.mono (by decide)) rfl T.m_law_names T.F_law_names.kp T.B_law_names (takes_of (E := E) rfl rfl rfl rfl) (pa_cons (pv 0) (pa_cons (pe_op (o_add (K := K) rfl) (pv 1) pe_int) pa_nil))))
    (pss_cons (ps_setLc (i := 3) (own := [("_law_name", 10)]) rfl sc_law_world.nd rfl rfl (sw_true rfl rfl rfl (by decide +kernel)) (pi_lst (K := K) rfl (pe_slice (sl_u (K := K) rfl) (pv 2) po_none (po_some (pe_un un_neg pe_int)))) (blkOk_by (own := [("_law_name", 10)]) (N := N_law_world) (sc := defScope s_law_world) (by decide +kernel)) (fun _ _ _ _ _ => (pg_name (i := 10) sc_law_world.nd rfl (Or.inl rfl))) (fun _ _ _ _ _ => pts_nil) (fun _ _ _ _ _ => (pe_tup (pa_cons (pv 10) (pa_cons (pe_op (o_add (K := K) rfl) pe_int (pe_co G_law_take (hr.mono (by decide)) rfl T.m_law_take T.F_law_take.kp T.B_law_take takes0 (pa_cons (pv 0) (pa_cons pe_int pa_nil)))) pa_nil)))))
    (pss_cons (ps_setLc (i := 4) (own := [("_law_k", 11)]) rfl sc_law_world.nd rfl rfl (sw_true rfl rfl rfl (by decide +kernel)) (pi_range1 rfl T.z_range (pa_cons (pe_op o_sub (pv 1) pe_int) pa_nil)) (blkOk_by (own := [("_law_k", 11)]) (N := N_law_world) (sc := defScope s_law_world) (by decide +kernel)) (fun _ _ _ _ _ => (pg_name (i := 11) sc_law_world.nd rfl (Or.inl rfl))) (fun _ _ _ _ _ => pts_nil) (fun _ _ _ _ _ => (pe_tup (pa_cons (pe_ix (ix_u (K := K) rfl) (pe_lst (pa_cons pe_str (pa_cons pe_str pa_nil))) (pe_co G_law_take (hr.mono (by decide)) rfl T.m_law_take T.F_law_take.kp T.B_law_take takes0 (pa_cons (pv 0) (pa_cons pe_int pa_nil))) (fun _ _ => rfl)) (pa_cons (pe_co G_law_take (hr.mono (by decide)) rfl T.m_law_take T.F_law_take.kp T.B_law_take takes0 (pa_cons (pv 0) (pa_cons pe_int pa_nil))) pa_nil)))))
    (pss_cons (ps_set (i := 5) sc_law_world.nd rfl (Or.inl rfl) (pe_lst pa_nil))
    (pss_cons (ps_set (i := 6) sc_law_world.nd rfl (Or.inl rfl) pe_int)
    (pss_cons (ps_for PassesOwn.leaving rfl (pi_range1 rfl T.z_range (pa_cons (pe_co G_law_take (hr.mono (by decide)) rfl T.m_law_take T.F_law_take.kp T.B_law_take (takes_of (E := E) rfl rfl rfl rfl) (pa_cons (pv 0) (pa_cons pe_int pa_nil))) pa_nil)) (pg_name (i := 7) sc_law_world.nd rfl (Or.inl rfl))
    (pss_one (ps_if (pt_cmpR o_lt (pe_op (o_add (K := K) rfl) (pv 6) pe_int) (pv 1) (nomark _))
    (pss_cons (ps_set (i := 8) sc_law_world.nd rfl (Or.inl rfl) (pe_op (o_add (K := K) rfl) (pv 6) (pe_co G_law_take (hr.mono (by decide)) rfl T.m_law_take T.F_law_take.kp T.B_law_take (takes_of (E := E) rfl rfl rfl rfl) (pa_cons (pv 0) (pa_cons (pe_op o_sub (pe_op o_sub (pv 1) pe_int) (pv 6)) pa_nil)))))
    (pss_cons (ps_set (i := 9) sc_law_world.nd rfl (Or.inl rfl) (pe_op (o_add (K := K) rfl) (pe_op (o_add (K := K) rfl) (pv 8) pe_int) (pe_co G_law_take (hr.mono (by decide)) rfl T.m_law_take T.F_law_take.kp T.B_law_take (takes_of (E := E) rfl rfl rfl rfl) (pa_cons (pv 0) (pa_cons (pe_op o_sub (pe_op o_sub (pv 1) pe_int) (pv 8)) pa_nil)))))
    (pss_cons (ps_expr (pe_bm PySem.F.plainAttrs_list PySem.F.slot_list_append PySem.F.type_list_append mt_append (pv 5) (pa_cons (pe_tup (pa_cons (pv 8) (pa_cons (pv 9) (pa_cons (pe_co G_law_take (hr.mono (by decide)) rfl T.m_law_take T.F_law_take.kp T.B_law_take (takes_of (E := E) rfl rfl rfl rfl) (pa_cons (pv 0) (pa_cons pe_int pa_nil))) pa_nil)))) pa_nil)))
    (pss_one (ps_set (i := 6) sc_law_world.nd rfl (Or.inl rfl) (pv 9))))))
    pss_nil)))
    (pss_one (ps_ret (pe_lst (pa_cons (pv 3) (pa_cons (pv 4) (pa_cons (pv 5) (pa_cons (pe_ix (ix_u (K := K) rfl) (pv 2) (pe_un un_neg pe_int) (fun _ _ => rfl)) pa_nil)))))))))))))), ?_⟩
  rw [st_law_world]
  walk_at "u"
  walk_at "tk"
  intro m' H1 m0 m1 B1 k1
  obtain ⟨m, rfl⟩ := Int.eq_ofNat_of_zero_le m0
  walk_at "u"
  refine ⟨_, _, rfl, p, n + 1, m + 3, rfl, congrArg V.int (by omega), by omega, by omega, B1, by omega, fun l0 zs H2 f2 e2 hz ok2 B2 k2 => ?_⟩
  walk_at "u"
  refine s_sll (SqL.of e2) fun l3 H3 f3 e3 k3 => ?_
  rw [cut_last (zs.map V.str) (m + 2) (by simpa using hz), ← List.map_take] at e3
  have okc := ok2.cut (m + 2)
  have lz : (zs.take (m + 2)).length = m + 2 := by rw [List.length_take]; omega
  walk_at "u"
  refine s_ilst (SqL.of e3) ?_
  intro D hD
  refine lc_L e3 hD (fun i acc H' => Kp [p, D] H3 H' ∧ Box H' p (n + 1 + 10 + i) ∧ ∃ pl : Pl, Rw H' acc (rP pl) ∧ pl.map (·.1) = (zs.take (m + 2)).take i ∧ ∀ q ∈ pl, 1 ≤ q.2 ∧ q.2 ≤ 3) (fun H4 e4 k4 => ⟨by walk_at "k", by walk_at "g", [], .nil, rfl, by simp⟩) (fun i acc H' q o e => q.1.get e (by walk_at "n")) ?_ ?_
  · rintro i x acc H4 ex ea ⟨k4, B4, pl, R4, em, hr4⟩
    rw [List.getElem?_map] at ex
    obtain ⟨z, ez, rfl⟩ := Option.map_eq_some_iff.mp ex
    have hi := (List.getElem?_eq_some_iff.mp ez).1
    have la : acc.length = i := by
      have h1 := R4.len
      have h2 := congrArg List.length em
      rw [rP, List.length_map] at h1
      rw [List.length_map, List.length_take] at h2
      omega
    walk_at "u"
    refine ⟨rfl, ?_⟩
    walk_at "u"
    walk_at "tk"
    intro d5 H5 d50 d51 B5 k5
    walk_at "u"
    walk_at "na"
    intro t6 H6 f6 e6 k6
    refine PvD.add (acc := acc) (by walk_at "g") (by omega) fun H7 e7 k7 => ⟨by walk_at "k", by walk_at "g", pl ++ [(z, 1 + d5)], ?_, ?_, ?_⟩
    · have : rP (pl ++ [(z, 1 + d5)]) = rP pl ++ [[V.str z, V.int (1 + d5)]] := by simp [rP]
      rw [this]
      exact (((R4.kp k5).kp k6).kp k7).app (Rw.one (by walk_at "gt"))
    · rw [List.map_append, em, take_one ez]
      rfl
    · intro q hq
      rcases List.mem_append.mp hq with hq | hq
      · exact hr4 q hq
      · rw [List.mem_singleton.mp hq]; simp only []; omega
  rintro vp H4 e4 ⟨k4, B4, pl, R4, em, hr4⟩
  rw [List.length_map, lz] at B4 em
  rw [List.take_of_length_le (by omega)] at em
  have lpl : pl.length = m + 2 := by rw [← lz, ← em, List.length_map]
  have gP : GoodP pl := ⟨by omega, by omega, fun q hq => okc.ok q.1 (em ▸ List.mem_map.mpr ⟨q, hq, rfl⟩), by rw [em]; exact okc.nd, hr4⟩
  have g0 : H4 l0 = some (.lst (zs.map V.str)) := by walk_at "g"
  have nDp : D ≠ p := by walk_at "ne"
  have nl0 : l0 ≠ p := by walk_at "ne"
  have nlD : l0 ≠ D := by walk_at "ne"
  have fD : Fz H D := ⟨by walk_at "f"⟩
  have kz4 : Kz [p] H H4 := ⟨by walk_at "k"⟩
  have hp0 : Th H p 0 := hB.th
  clear k4 e3 k3 f3 B2 k2 B1 k1 f2 e2 hB hD
  obtain ⟨k4⟩ := kz4
  walk_at "u"
  refine s_rng (by omega) (by omega) ?_
  rw [show (2 + (m : Int) - 1).toNat = m + 1 by omega]
  intro D5 hD5
  refine lc_R hD5 (fun i acc H' => Kp [p, D5] H4 H' ∧ Box H' p (n + 1 + 10 + (m + 2) + 2 * i) ∧ ∃ st : Pl, Rw H' acc (rP st) ∧ st.length = i ∧ ∀ q ∈ st, (q.1 = "staff" ∨ q.1 = "ticket") ∧ (q.2 = 0 ∨ q.2 = 1)) (fun H5 e5 k5 => ⟨by walk_at "k", by walk_at "g", [], .nil, rfl, by simp⟩) ?_ ?_
  · rintro i acc H5 hi ea ⟨k5, B5, st, R5, ls, hs5⟩
    have la : acc.length = i := by rw [R5.len, rP, List.length_map]; exact ls
    walk_at "u"
    refine ⟨rfl, ?_⟩
    walk_at "u"
    walk_at "na"
    intro l6 H6 f6 e6 k6
    walk_at "u"
    walk_at "tk"
    intro d7 H7 d70 d71 B7 k7
    obtain ⟨v, hv, ev⟩ := ix_mem (xs := [V.str "staff", V.str "ticket"]) d70 (by simpa using d71)
    obtain ⟨z, rfl, hz7⟩ : ∃ z : Str, v = .str z ∧ (z = "staff" ∨ z = "ticket") := by
      simp only [List.mem_cons, List.mem_nil_iff, or_false] at hv
      rcases hv with rfl | rfl
      · exact ⟨_, rfl, Or.inl rfl⟩
      · exact ⟨_, rfl, Or.inr rfl⟩
    refine s_ixl (by walk_at "g") ev ?_
    walk_at "u"
    walk_at "tk"
    intro d8 H8 d80 d81 B8 k8
    walk_at "u"
    walk_at "na"
    intro t9 H9 f9 e9 k9
    refine PvD.add (acc := acc) (by walk_at "g") (by omega) fun H10 e10 k10 => ⟨by walk_at "k", Box.more (n := n + 1 + 10 + (m + 2) + 2 * i + 1 + 1) (by walk_at "g") (by omega), st ++ [(z, d8)], ?_, by simp [ls], ?_⟩
    · have : rP (st ++ [(z, d8)]) = rP st ++ [[V.str z, V.int d8]] := by simp [rP]
      rw [this]
      exact (((((R5.kp k6).kp k7).kp k8).kp k9).kp k10).app (Rw.one (by walk_at "gt"))
    · intro q hq
      rcases List.mem_append.mp hq with hq | hq
      · exact hs5 q hq
      · rw [List.mem_singleton.mp hq]; exact ⟨hz7, by simp only []; omega⟩
  rintro vs H5 e5 ⟨k5, B5, st, R5, ls, hs5⟩
  have gS : GoodS st (pl.length - 1) := ⟨by omega, hs5⟩
  have n5p : D5 ≠ p := by walk_at "ne"
  have n5D : D5 ≠ D := by walk_at "ne"
  have n5l : D5 ≠ l0 := by walk_at "ne"
  have g0 : H5 l0 = some (.lst (zs.map V.str)) := by walk_at "g"
  have gD : H5 D = some (.lst vp) := by walk_at "g"
  have f5 : Fz H D5 := ⟨by walk_at "f"⟩
  have kz5 : Kz [p] H H5 := ⟨by walk_at "k"⟩
  have R4' := R4.kp k5
  clear k5 k4 e4 B4 R4 hD5
  obtain ⟨k5⟩ := kz5
  walk_at "u"
  walk_at "na"
  intro D6 H6 f6 e6 k6
  walk_at "u"
  walk_at "tk"
  intro d7 H7 d70 d71 B7 k7
  walk_at "u"
  refine s_rng (by omega) (by omega) ?_
  have e7 : H7 D6 = some (.lst []) := by walk_at "g"
  have n6 : D6 ≠ p ∧ D6 ≠ D ∧ D6 ≠ D5 ∧ D6 ≠ l0 := ⟨by walk_at "ne", by walk_at "ne", by walk_at "ne", by walk_at "ne"⟩
  have g0 : H7 l0 = some (.lst (zs.map V.str)) := by walk_at "g"
  have gD : H7 D = some (.lst vp) := by walk_at "g"
  have gE : H7 D5 = some (.lst vs) := by walk_at "g"
  have fD6 : Fz H D6 := ⟨by walk_at "f"⟩
  have kz7 : Kz [p] H H7 := ⟨by walk_at "k"⟩
  have R4'' := (R4'.kp k6).kp k7
  have R5'' := (R5.kp k6).kp k7
  obtain ⟨n61, n62, n63, n64⟩ := n6
  clear k7 k6 f6 e6 k5 B5 R4' R5
  obtain ⟨k7⟩ := kz7
  refine for_R (fun i σ H' => Kp [p, D6] H7 H' ∧ Box H' p (n + 1 + 10 + (m + 2) + 2 * (m + 1) + 1 + 3 * i) ∧ ∃ (vl : List V) (lo : Lo), H' D6 = some (.lst vl) ∧ Rw H' vl (rL lo) ∧ GoodL 0 ((m : Int) + 1) lo ∧ lo.length ≤ i ∧ 0 ≤ lowAt 0 lo lo.length ∧
    ∃ u7 u8 u9 u10 u11, σ = [some (.ref p), some (.int (2 + (m : Int))), some (.ref l0), some (.ref D), some (.ref D5), some (.ref D6), some (.int (lowAt 0 lo lo.length)), u7, u8, u9, u10, u11]) ⟨Kp.refl, B7, [], [], e7, .nil, trivial, by simp, by simp [lowAt], _, _, _, _, _, rfl⟩ ?_ ?_
  · rintro i σ H8 hi ⟨k8, B8, vl, lo, e8, R8, gl8, ll8, l08, u7, u8, u9, u10, u11, rfl⟩
    walk_at "u"
    refine s_ite (fun h => ?_) (fun h => ?_)
    · walk_at "u"
      walk_at "tk"
      intro d9 H9 d90 d91 B9 k9
      walk_at "u"
      walk_at "tk"
      intro d10 H10 d100 d101 B10 k10
      walk_at "u"
      walk_at "tk"
      intro d11 H11 d110 d111 B11 k11
      walk_at "u"
      walk_at "na"
      intro t12 H12 f12 e12 k12
      walk_at "u"
      have lv : vl.length = lo.length := by rw [R8.len]; simp [rL]
      refine s_app (xs := vl) (by walk_at "g") (zlt (by omega)) fun H13 e13 k13 => ?_
      walk_at "u"
      have hlo := lowAt_app lo (lowAt 0 lo lo.length + d9, lowAt 0 lo lo.length + d9 + 2 + d10, d11) 0
      refine ⟨by walk_at "k", Box.more (n := n + 1 + 10 + (m + 2) + 2 * (m + 1) + 1 + 3 * i + 1 + 1 + 1) (by walk_at "g") (by omega), _, lo ++ [(lowAt 0 lo lo.length + d9, lowAt 0 lo lo.length + d9 + 2 + d10, d11)], e13, ?_, low_app _ _ gl8 (by simp only []; omega) (by simp only []; omega) (by simp only []; omega) (by simp only []; omega), by simp; omega, by rw [hlo]; simp only []; omega, _, _, _, _, _, by first | (rw [hlo]; done) | (rw [hlo]; rfl)⟩
      have : rL (lo ++ [(lowAt 0 lo lo.length + d9, lowAt 0 lo lo.length + d9 + 2 + d10, d11)]) = rL lo ++ [[V.int (lowAt 0 lo lo.length + d9), V.int (lowAt 0 lo lo.length + d9 + 2 + d10), V.int d11]] := by simp [rL]
      rw [this]
      exact (((((R8.kp k9).kp k10).kp k11).kp k12).kp k13).app (Rw.one (by walk_at "gt"))
    · walk_at "u"
      exact ⟨k8, B8.more (by omega), vl, lo, e8, R8, gl8, by omega, l08, _, _, _, _, _, rfl⟩
  · rintro σ H8 ⟨k8, B8, vl, lo, e8, R8, gl8, ll8, l08, u7, u8, u9, u10, u11, rfl⟩
    walk_at "u"
    have hlast : atI (zs.map V.str) (-1) = some (V.str (zs.getD (m + 2) "")) := by
      unfold atI ixN
      rw [List.length_map, hz, if_neg (by decide), if_pos (by omega)]
      show (zs.map V.str)[((-1 : Int) + ((m + 3 : Nat) : Int)).toNat]? = _
      rw [show ((-1 : Int) + ((m + 3 : Nat) : Int)).toNat = m + 2 by omega, List.getElem?_map, List.getD_eq_getElem?_getD, List.getElem?_eq_getElem (show m + 2 < zs.length by omega)]
      rfl
    refine s_ixl (by walk_at "g") hlast ?_
    walk_at "u"
    walk_at "na"
    intro t9 H9 f9 e9 k9
    walk_at "u"
    have hm : zs.getD (m + 2) "" ∈ zs := by
      rw [List.getD_eq_getElem?_getD, List.getElem?_eq_getElem (show m + 2 < zs.length by omega)]
      exact List.getElem_mem _
    obtain ⟨z1, z2⟩ := ok2.ok _ hm
    have k09 : Kz [p] H H9 := ⟨by walk_at "k"⟩
    refine k t9 D D5 D6 ⟨pl, st, lo⟩ vp vs vl _ H9 (by walk_at "f") e9 fD.f (by walk_at "g") f5.f (by walk_at "g") fD6.f (by walk_at "g") n5D.symm n62.symm n63.symm (by walk_at "ne") (by walk_at "ne") (by walk_at "ne")
      ((R4''.kp k8).kp k9) ((R5''.kp k8).kp k9) (R8.kp k9) ⟨gP, gS, by rw [lpl, show (((m + 2 : Nat) : Int) - 1) = (m : Int) + 1 by omega]; exact gl8, (show lo.length ≤ 2 by omega)⟩ z1 z2 ?_ (Box.more (n := n + 1 + 10 + (m + 2) + 2 * (m + 1) + 1 + 3 * d7.toNat) (by walk_at "g") (by omega)) k09.k
    unfold nms
    rw [em]
    intro hin
    have nd := ok2.nd
    rw [← List.take_append_drop (m + 2) zs, List.nodup_append] at nd
    refine nd.2.2 _ hin _ ?_ rfl
    rw [List.getD_eq_getElem?_getD, List.getElem?_eq_getElem (show m + 2 < zs.length by omega)]
    exact List.mem_iff_getElem.mpr ⟨0, by rw [List.length_drop]; omega, by simp⟩

/-! the rows of a text -/
/-! texts otherwise -/
def tot (ys : List Str) : Nat := (ys.map fun y => y.length + 1).sum
theorem tot_app (xs ys : List Str) : tot (xs ++ ys) = tot xs + tot ys := by simp [tot]
theorem tot_cons (x : Str) (ys : List Str) : tot (x :: ys) = x.length + 1 + tot ys := by simp [tot]
theorem tot_nil : tot [] = 0 := rfl
theorem tot_td (ys : List Str) (n : Nat) : tot (ys.take n) + tot (ys.drop n) = tot ys := by
  rw [← tot_app, List.take_append_drop]
theorem tot_dd (ys : List Str) (n : Nat) : tot (ys.drop (n + 1)) ≤ tot (ys.drop n) := by
  by_cases h : n < ys.length
  · rw [List.drop_eq_getElem_cons h, tot_cons]; omega
  · rw [List.drop_of_length_le (by omega), tot_nil]; omega
theorem tot_mem {y : Str} : ∀ {ys : List Str}, y ∈ ys → y.length + 1 ≤ tot ys
  | x :: ys, h => by
    rw [tot_cons]
    rcases List.mem_cons.mp h with rfl | h
    · omega
    · have := tot_mem h; omega
theorem join_tot {a : Str} (h : a.length = 1) : ∀ ws : List Str, (Str.join a ws).length ≤ tot ws
  | [] => Nat.zero_le _
  | [v] => by show v.length ≤ _; rw [tot_cons]; omega
  | v :: v2 :: r => by
    have e : Str.join a (v :: v2 :: r) = v ++ a ++ Str.join a (v2 :: r) := rfl
    have e2 : (Str.join a (v :: v2 :: r)).length = v.length + a.length + (Str.join a (v2 :: r)).length := by rw [e]; simp [Str.length, Str.cps_append]; omega
    have := join_tot h (v2 :: r)
    rw [tot_cons, e2]
    omega
theorem tot_join {a : Str} (h : a.length = 1) : ∀ ws : List Str, tot ws ≤ (Str.join a ws).length + 1
  | [] => Nat.zero_le _
  | [v] => by show tot [v] ≤ v.length + 1; rw [tot_cons, tot_nil]; omega
  | v :: v2 :: r => by
    have e : Str.join a (v :: v2 :: r) = v ++ a ++ Str.join a (v2 :: r) := rfl
    have e2 : (Str.join a (v :: v2 :: r)).length = v.length + a.length + (Str.join a (v2 :: r)).length := by rw [e]; simp [Str.length, Str.cps_append]; omega
    have := tot_join h (v2 :: r)
    rw [tot_cons, e2]
    omega
theorem tot_split {z a : Str} (h : a.length = 1) : tot (Txt.split z a) ≤ z.length + 1 := by
  have := tot_join h (Txt.split z a)
  rwa [StrLaws.join_split] at this
theorem len_tot (ys : List Str) : ys.length ≤ tot ys := by
  induction ys with
  | nil => exact Nat.le_refl _
  | cons y ys ih => rw [tot_cons, List.length_cons]; omega
theorem sum_tot (ys : List Str) : (ys.map (·.length)).sum + ys.length = tot ys := by
  induction ys with
  | nil => rfl
  | cons y ys ih => rw [tot_cons, List.map_cons, List.sum_cons, List.length_cons]; omega
/-- signs that are signs -/
def Cp (z : Str) : Prop := ∀ c ∈ z.cps.toList, c < 1114112
def Cs (ys : List Str) : Prop := ∀ y ∈ ys, Cp y
theorem Cs.app {xs ys : List Str} (h : Cs xs) (g : Cs ys) : Cs (xs ++ ys) := fun y hy => (List.mem_append.mp hy).elim (h y) (g y)
theorem Cs.take {ys : List Str} {n : Nat} (h : Cs ys) : Cs (ys.take n) := fun y hy => h y (List.mem_of_mem_take hy)
theorem Cs.drop {ys : List Str} {n : Nat} (h : Cs ys) : Cs (ys.drop n) := fun y hy => h y (List.mem_of_mem_drop hy)
theorem Cs.split {z a : Str} (h : Cp z) : Cs (Txt.split z a) := fun w hw c hc => h c (by
  have := join_of_mem (a := a) hw hc
  rwa [StrLaws.join_split] at this)
theorem Cs.join {a : Str} {ys : List Str} (h : Cs ys) (ha : Cp a) : Cp (Txt.join a ys) := by
  intro c hc
  rcases join_mem hc with h1 | ⟨z, hz, h1⟩
  · exact ha c h1
  · exact h z hz c h1
theorem Cs.nil : Cs [] := fun y hy => by cases hy
theorem Cs.cons {y : Str} {ys : List Str} (h : Cp y) (g : Cs ys) : Cs (y :: ys) := fun z hz => (List.mem_cons.mp hz).elim (fun e => e ▸ h) (g z)
theorem Cp.app {y z : Str} (h : Cp y) (g : Cp z) : Cp (y ++ z) := by
  intro c hc
  rw [Str.cps_append, Array.toList_append] at hc
  exact (List.mem_append.mp hc).elim (h c) (g c)
theorem app_len (a b : Str) : (a ++ b).length = a.length + b.length := by simp [Str.length, Str.cps_append]
theorem str_at {ys : List Str} {i : Int} (h0 : 0 ≤ i) (h1 : i < ys.length) : ∃ y, y ∈ ys ∧ atI (ys.map V.str) i = some (.str y) := by
  obtain ⟨v, hv, ev⟩ := at_int (xs := ys.map V.str) h0 (by simpa using h1)
  rw [List.getElem?_map] at hv
  obtain ⟨z, hz, rfl⟩ := Option.map_eq_some_iff.mp hv
  exact ⟨z, List.mem_of_getElem? hz, ev⟩
def cpB (z : Str) : Bool := z.cps.toList.all fun c => decide (c < 1114112)
theorem cp_of {z : Str} (h : cpB z = true) : Cp z := fun c hc => of_decide_eq_true (List.all_eq_true.mp h c hc)
theorem sp_cp : Cp " " ∧ Cp "\n" ∧ Cp "" := ⟨cp_of (by decide +kernel), cp_of (by decide +kernel), cp_of (by decide +kernel)⟩
theorem sp_1 : (" " : Str).length = 1 ∧ ("\n" : Str).length = 1 ∧ ("" : Str).length = 0 := by decide +kernel

structure Wv (H : Hp) (t : Addr) (w : Wo) (W : List Addr) : Prop where
  ex : ∃ (a1 a2 a3 : Addr) (vp vs vl : List V) (z : Str), W = [t, a1, a2, a3] ∧ H t = some (.lst [.ref a1, .ref a2, .ref a3, .str z]) ∧ H a1 = some (.lst vp) ∧ H a2 = some (.lst vs) ∧ H a3 = some (.lst vl) ∧ Rw H vp (rP w.pl) ∧ Rw H vs (rP w.st) ∧ Rw H vl (rL w.lo) ∧ SS z 6
  ok : GoodW w
theorem Wv.kpn {H H2 : Hp} {t : Addr} {w : Wo} {W ps : List Addr} (h : Wv H t w W) (k : Kp ps H H2) (n : ∀ a ∈ ps, a ∉ W) : Wv H2 t w W := by
  obtain ⟨a1, a2, a3, vp, vs, vl, z, rfl, e0, e1, e2, e3, r1, r2, r3, s⟩ := h.ex
  have m : ∀ {b o}, b ∈ [t, a1, a2, a3] → H b = some o → H2 b = some o := fun hb e => k.get e fun hp => n _ hp hb
  exact ⟨⟨a1, a2, a3, vp, vs, vl, z, rfl, m (by simp) e0, m (by simp) e1, m (by simp) e2, m (by simp) e3, r1.kp k, r2.kp k, r3.kp k, s⟩, h.ok⟩
theorem Wv.kp {H H2 : Hp} {t : Addr} {w : Wo} {W : List Addr} (h : Wv H t w W) (k : Kp [] H H2) : Wv H2 t w W := h.kpn k (by simp)
theorem Wv.kp1 {H H2 : Hp} {t p : Addr} {w : Wo} {W : List Addr} (h : Wv H t w W) (k : Kp [p] H H2) (n : p ∉ W) : Wv H2 t w W := h.kpn k (by simpa using n)
theorem rP_len8 (pl : Pl) : (rP pl).length = pl.length := by simp [rP]
theorem rL_len8 (pl : Lo) : (rL pl).length = pl.length := by simp [rL]
theorem lit8 : SS ("place " : Str) 6 ∧ SS (" " : Str) 1 ∧ SS ("stretch " : Str) 8 ∧ SS ("long " : Str) 5 ∧ SS ("long" : Str) 4 ∧ SS (" 2" : Str) 2 ∧ SS (" high" : Str) 5 := by
  refine ⟨SS.mk' ?_, SS.mk' ?_, SS.mk' ?_, SS.mk' ?_, SS.mk' ?_, SS.mk' ?_, SS.mk' ?_⟩ <;> decide +kernel
theorem dig8 {r : Int} (h : 1 ≤ r ∧ r ≤ 3) : SS ((toString r : String) : Str) 1 := by
  have : r = 1 ∨ r = 2 ∨ r = 3 := by omega
  rcases this with rfl | rfl | rfl <;> exact SS.mk' (by decide +kernel)
theorem hm8s {d : Int} (h : d = 0 ∨ d = 1) : ∃ z : Str, SS z 4 ∧ atI [V.str "low", V.str "high"] d = some (.str z) := by
  rcases h with rfl | rfl
  · exact ⟨"low", SS.mk' (by decide +kernel), rfl⟩
  · exact ⟨"high", SS.mk' (by decide +kernel), rfl⟩
theorem nms_ss {w : Wo} (g : GoodW w) {z : Str} (h : z ∈ nms w) : SS z 6 := by
  obtain ⟨q, hq, rfl⟩ := List.mem_map.mp h
  exact name_ss (g.p.nm q hq).1
theorem kd_ss {z : Str} (h : z = "staff" ∨ z = "ticket") : SS z 6 := by
  rcases h with rfl | rfl <;> exact SS.mk' (by decide +kernel)
theorem cp_ss {z : Str} {n : Nat} (h : SS z n) : Cp z := h.ok
theorem tot_le {n : Nat} : ∀ {ys : List Str}, (∀ y ∈ ys, SS y n) → tot ys ≤ ys.length * (n + 1)
  | [], _ => by simp [tot]
  | y :: ys, h => by
    have h1 := (h y List.mem_cons_self).len
    have h2 := tot_le (n := n) (ys := ys) fun z hz => h z (List.mem_cons_of_mem _ hz)
    rw [tot_cons, List.length_cons, Nat.add_mul]
    omega
/-- of rows: short ones -/
structure Rs (zs : List Str) (n : Nat) : Prop where
  ss : ∀ z ∈ zs, SS z 24
  len : zs.length = n
theorem Rs.nil : Rs [] 0 := ⟨by simp, rfl⟩
theorem Rs.snoc {zs : List Str} {n : Nat} {z : Str} (h : Rs zs n) (g : SS z 24) : Rs (zs ++ [z]) (n + 1) := ⟨fun y hy => by
  rcases List.mem_append.mp hy with hy | hy
  · exact h.ss y hy
  · rw [List.mem_singleton.mp hy]; exact g, by simp [h.len]⟩
theorem Rs.app {xs ys : List Str} {n m : Nat} (h : Rs xs n) (g : Rs ys m) : Rs (xs ++ ys) (n + m) := ⟨fun y hy => (List.mem_append.mp hy).elim (h.ss y) (g.ss y), by simp [h.len, g.len]⟩
theorem low0 {lo : Lo} {high : Int} (h : GoodL 0 high lo) : ∀ (i : Nat) q, lo[i]? = some q → 0 ≤ lowAt 0 lo i ∧ 0 ≤ q.1 ∧ q.1 + 2 ≤ q.2.1 ∧ q.2.1 ≤ high ∧ (q.2.2 = 0 ∨ q.2.2 = 1)
  | 0, q, e => by
    have := h.at e
    simp only [lowAt] at this ⊢
    omega
  | i + 1, q, e => by
    have := h.at e
    have hi : i < lo.length := by
      have := (List.getElem?_eq_some_iff.mp e).1
      omega
    have p := low0 h i lo[i] (List.getElem?_eq_getElem hi)
    simp only [lowAt, List.getElem?_eq_getElem hi] at this ⊢
    omega
def sp_law_rows : Sp := sp1 fun x H Q _ => ∃ (t : Addr) (w : Wo) (W : List Addr), x = .ref t ∧ Wv H t w W ∧ ∀ l ys H', H l = none → H' l = some (.lst (ys.map V.str)) → Cs ys → tot ys ≤ 325 → Kp [] H H' → Q (.ref l) H'
set_option maxHeartbeats 16000000 in
theorem ok_law_rows (T : Tx K mg) : FnOk P w K mg base (L2.CX P w) 1 T.a_law_rows T.d_law_rows ["_law_world_here"] (sp_law_rows) := by
  refine T.F_law_rows.okX sc_law_rows (fun vs H Q E h => ?_) (fun cd A o s H vs Q E hr h => ?_)
  · obtain ⟨v0, rfl, h⟩ := h; rfl
  obtain ⟨v0, rfl, h⟩ := h
  obtain ⟨t, w', W, rfl, hW, k⟩ := h
  refine ⟨_, (pss_cons (ps_asg (pe_slice (sl_u (K := K) rfl) (pv 0) po_none (po_some pe_int)) (pg_lstK (K := K) (n := 3) rfl rfl (pgs_cons (pg_name (i := 1) sc_law_rows.nd rfl (Or.inl rfl)) (pgs_cons (pg_name (i := 2) sc_law_rows.nd rfl (Or.inl rfl)) (pgs_cons (pg_name (i := 3) sc_law_rows.nd rfl (Or.inl rfl)) pgs_nil)))))
    (pss_cons (ps_set (i := 4) sc_law_rows.nd rfl (Or.inr rfl) (pe_lc (own := [("_law_name", 6), ("_law_roads", 7)]) rfl sc_law_rows.nd (pi_lst (K := K) rfl (pv 1)) (blkOk_by (own := [("_law_name", 6), ("_law_roads", 7)]) (N := N_law_rows) (sc := defScope s_law_rows) (by decide +kernel)) (fun _ _ _ _ _ => (pg_tupK (K := K) (n := 2) rfl rfl (pgs_cons (pg_name (i := 6) sc_law_rows.nd rfl (Or.inl rfl)) (pgs_cons (pg_name (i := 7) sc_law_rows.nd rfl (Or.inl rfl)) pgs_nil)))) (fun _ _ _ _ _ => pts_nil) (fun _ _ _ _ _ => (pv 6))))
    (pss_cons (ps_setLc (i := 5) (own := [("_law_name", 6), ("_law_roads", 7)]) rfl sc_law_rows.nd rfl rfl (sw_true rfl rfl rfl (by decide +kernel)) (pi_lst (K := K) rfl (pv 1)) (blkOk_by (own := [("_law_name", 6), ("_law_roads", 7)]) (N := N_law_rows) (sc := defScope s_law_rows) (by decide +kernel)) (fun _ _ _ _ _ => (pg_tupK (K := K) (n := 2) rfl rfl (pgs_cons (pg_name (i := 6) sc_law_rows.nd rfl (Or.inl rfl)) (pgs_cons (pg_name (i := 7) sc_law_rows.nd rfl (Or.inl rfl)) pgs_nil)))) (fun _ _ _ _ _ => pts_nil) (fun _ _ _ _ _ => (pe_op (o_add (K := K) rfl) (pe_op (o_add (K := K) rfl) (pe_op (o_add (K := K) rfl) pe_str (pv 6)) pe_str) (pe_callTy c_strA rfl T.z_str bt_str (pa_cons (pv 7) pa_nil)))))
    (pss_cons (ps_set (i := 5) sc_law_rows.nd rfl (Or.inl rfl) (pe_op (o_add (K := K) rfl) (pv 5) (pe_lc (own := [("_law_kind", 8), ("_law_home", 9)]) rfl sc_law_rows.nd (pi_lst (K := K) rfl (pv 2)) (blkOk_by (own := [("_law_kind", 8), ("_law_home", 9)]) (N := N_law_rows) (sc := defScope s_law_rows) (by decide +kernel)) (fun _ _ _ _ _ => (pg_tupK (K := K) (n := 2) rfl rfl (pgs_cons (pg_name (i := 8) sc_law_rows.nd rfl (Or.inl rfl)) (pgs_cons (pg_name (i := 9) sc_law_rows.nd rfl (Or.inl rfl)) pgs_nil)))) (fun _ _ _ _ _ => pts_nil) (fun _ _ _ _ _ => (pe_op (o_add (K := K) rfl) (pe_op (o_add (K := K) rfl) (pe_op (o_add (K := K) rfl) pe_str (pv 8)) pe_str) (pe_ix (ix_u (K := K) rfl) (pe_lst (pa_cons pe_str (pa_cons pe_str pa_nil))) (pv 9) (fun _ _ => rfl)))))))
    (pss_one (ps_ret (pe_op (o_add (K := K) rfl) (pv 5) (pe_lc (own := [("_law_low", 10), ("_law_high", 11), ("_law_home", 9)]) rfl sc_law_rows.nd (pi_lst (K := K) rfl (pv 3)) (blkOk_by (own := [("_law_low", 10), ("_law_high", 11), ("_law_home", 9)]) (N := N_law_rows) (sc := defScope s_law_rows) (by decide +kernel)) (fun _ _ _ _ _ => (pg_tupK (K := K) (n := 3) rfl rfl (pgs_cons (pg_name (i := 10) sc_law_rows.nd rfl (Or.inl rfl)) (pgs_cons (pg_name (i := 11) sc_law_rows.nd rfl (Or.inl rfl)) (pgs_cons (pg_name (i := 9) sc_law_rows.nd rfl (Or.inl rfl)) pgs_nil))))) (fun _ _ _ _ _ => pts_nil) (fun _ _ _ _ _ => (pe_joinU (K := K) rfl pe_str (pe_lst (pa_cons pe_str (pa_cons (pe_ix (ix_u (K := K) rfl) (pv 4) (pv 10) (fun _ _ => rfl)) (pa_cons (pe_ix (ix_u (K := K) rfl) (pv 4) (pv 11) (fun _ _ => rfl)) (pa_cons (pe_ix (ix_u (K := K) rfl) (pe_lst (pa_cons pe_str (pa_cons pe_str pa_nil))) (pv 9) (fun _ _ => rfl)) pa_nil))))))))))))))), ?_⟩
  rw [st_law_rows]
  have gW := hW.ok
  obtain ⟨a1, a2, a3, vp, vs, vl, z, -, e0, e1, e2, e3, r1, r2, r3, -⟩ := hW.ex
  have l6 := gW.p.l6
  have l2 := gW.p.l2
  have ls := gW.s.ln
  have ll2 := gW.l2
  have lp : vp.length = w'.pl.length := by rw [r1.len, rP_len8]
  have lS : vs.length = w'.st.length := by rw [r2.len, rP_len8]
  have lL : vl.length = w'.lo.length := by rw [r3.len, rL_len8]
  obtain ⟨y1, y2, y3, y4, y5, y6, y7⟩ := lit8
  walk_at "u"
  refine s_sll (SqL.of e0) fun l1 H1 f1 g1 k1 => ?_
  have g1 : H1 l1 = some (.lst [.ref a1, .ref a2, .ref a3]) := g1
  walk_at "u"
  refine s_ilst (SqL.of (xs := vp) (by walk_at "g")) ?_
  intro D hD
  refine lc_L (vs := vp) (by walk_at "g") hD (fun i acc H' => Kp [D] H1 H' ∧ acc = ((nms w').take i).map V.str) (fun H2 e2 k2 => ⟨by walk_at "k", rfl⟩) (fun i acc H' p o e => p.1.get1 e (by walk_at "ne")) ?_ ?_
  · rintro i x acc H2 ex ea ⟨k2, rfl⟩
    obtain ⟨u, r, rfl, er, eu⟩ := r1.at ex
    obtain ⟨q, eq, rfl⟩ := rP_at er
    have hi := (List.getElem?_eq_some_iff.mp eq).1
    walk_at "u"
    refine ⟨rfl, ?_⟩
    walk_at "u"
    refine PvD.add ea (by simp [nms]; omega) fun H3 e3 k3 => ⟨by walk_at "k", ?_⟩
    rw [take_one (x := q.1) (by simp [nms, eq]), List.map_append]
    rfl
  rintro acc H2 ea ⟨k2, rfl⟩
  rw [List.take_of_length_le (by simp [nms]; omega)] at ea
  walk_at "u"
  refine s_ilst (SqL.of (xs := vp) (by walk_at "g")) ?_
  intro D3 hD3
  refine lc_L (vs := vp) (by walk_at "g") hD3 (fun i acc H' => Kp [D3] H2 H' ∧ ∃ zs, acc = zs.map V.str ∧ Rs zs i) (fun H3 e3 k3 => ⟨by walk_at "k", [], rfl, .nil⟩) (fun i acc H' p o e => p.1.get1 e (by walk_at "ne")) ?_ ?_
  · rintro i x acc H3 ex ea3 ⟨k3, zs, rfl, hz⟩
    obtain ⟨u, r, rfl, er, eu⟩ := r1.at ex
    obtain ⟨q, eq, rfl⟩ := rP_at er
    have mq := List.mem_of_getElem? eq
    have hi := (List.getElem?_eq_some_iff.mp eq).1
    have hr := gW.p.rd q mq
    have sn := name_ss (gW.p.nm q mq).1
    have sd := dig8 hr
    have s1 := y1.app sn
    have s2 := s1.app y2
    have s3 := s2.app sd
    have lz := hz.len
    walk_at "u"
    refine ⟨rfl, ?_⟩
    walk_at "u"
    refine s_adds (zle (by have := y1.len; have := sn.len; omega)) ?_
    walk_at "u"
    refine s_adds (zle (by have := s1.len; have := y2.len; omega)) ?_
    walk_at "u"
    refine Or.inl (s_str (log2s (Nat.lt_of_le_of_lt (show q.2.natAbs ≤ 1000 by omega) (by decide +kernel))) ?_)
    walk_at "u"
    refine s_adds (zle (by have := s2.len; have := sd.len; omega)) ?_
    refine PvD.add ea3 (by simp; omega) fun H4 e4 k4 => ⟨by walk_at "k", _, by rw [List.map_append]; rfl, hz.snoc (s3.mono (by omega))⟩
  rintro acc H3 ea3 ⟨k3, z3, rfl, h3⟩
  walk_at "u"
  refine s_ilst (SqL.of (xs := vs) (by walk_at "g")) ?_
  intro D4 hD4
  refine lc_L (vs := vs) (by walk_at "g") hD4 (fun i acc H' => Kp [D4] H3 H' ∧ ∃ zs, acc = zs.map V.str ∧ Rs zs i) (fun H4 e4 k4 => ⟨by walk_at "k", [], rfl, .nil⟩) (fun i acc H' p o e => p.1.get1 e (by walk_at "ne")) ?_ ?_
  · rintro i x acc H4 ex ea4 ⟨k4, zs, rfl, hz⟩
    obtain ⟨u, r, rfl, er, eu⟩ := r2.at ex
    obtain ⟨q, eq, rfl⟩ := rP_at er
    have mq := List.mem_of_getElem? eq
    have hi := (List.getElem?_eq_some_iff.mp eq).1
    have sk := kd_ss (gW.s.ok q mq).1
    obtain ⟨zh, sh, eh⟩ := hm8s (gW.s.ok q mq).2
    have s1 := y3.app sk
    have s2 := s1.app y2
    have s3 := s2.app sh
    have lz := hz.len
    walk_at "u"
    refine ⟨rfl, ?_⟩
    walk_at "u"
    refine s_adds (zle (by have := y3.len; have := sk.len; omega)) ?_
    walk_at "u"
    refine s_adds (zle (by have := s1.len; have := y2.len; omega)) ?_
    walk_at "u"
    walk_at "na"
    intro l5 H5 f5 e5 k5
    walk_at "u"
    refine s_ixl e5 eh ?_
    refine s_adds (zle (by have := s2.len; have := sh.len; omega)) ?_
    refine PvD.add (acc := zs.map V.str) (by walk_at "g") (by simp; omega) fun H6 e6 k6 => ⟨by walk_at "k", _, by rw [List.map_append]; rfl, hz.snoc (s3.mono (by omega))⟩
  rintro acc H4 ea4 ⟨k4, z4, rfl, h4⟩
  have lz3 := h3.len
  have lz4 := h4.len
  walk_at "u"
  refine s_addl (by walk_at "g") ea4 (zle (by simp; omega)) fun l5 H5 f5 e5 k5 => ?_
  walk_at "u"
  refine s_ilst (SqL.of (xs := vl) (by walk_at "g")) ?_
  intro D6 hD6
  refine lc_L (vs := vl) (by walk_at "g") hD6 (fun i acc H' => Kp [D6] H5 H' ∧ ∃ zs, acc = zs.map V.str ∧ Rs zs i) (fun H6 e6 k6 => ⟨by walk_at "k", [], rfl, .nil⟩) (fun i acc H' p o e => p.1.get1 e (by walk_at "ne")) ?_ ?_
  · rintro i x acc H6 ex ea6 ⟨k6, zs, rfl, hz⟩
    obtain ⟨u, r, rfl, er, eu⟩ := r3.at ex
    obtain ⟨q, eq, rfl⟩ := rL_at er
    have hi := (List.getElem?_eq_some_iff.mp eq).1
    have b := low0 gW.l i q eq
    have ln : (nms w').length = w'.pl.length := by simp [nms]
    obtain ⟨n1, m1, x1⟩ := str_at (ys := nms w') (i := q.1) (by omega) (by omega)
    obtain ⟨n2, m2, x2⟩ := str_at (ys := nms w') (i := q.2.1) (by omega) (by omega)
    have s1 := nms_ss gW m1
    have s2 := nms_ss gW m2
    obtain ⟨zh, sh, eh⟩ := hm8s (d := q.2.2) (by omega)
    have lz := hz.len
    walk_at "u"
    refine ⟨rfl, ?_⟩
    walk_at "u"
    refine s_ixl (by walk_at "g") x1 ?_
    walk_at "u"
    refine s_ixl (by walk_at "g") x2 ?_
    walk_at "u"
    walk_at "na"
    intro l7 H7 f7 e7 k7
    walk_at "u"
    refine s_ixl e7 eh ?_
    walk_at "u"
    walk_at "na"
    intro l8 H8 f8 e8 k8
    walk_at "u"
    have e8 : H8 l8 = some (.lst ((["long", n1, n2, zh] : List Str).map V.str)) := e8
    have c4 := y5.len
    have c1 := sp_1.1
    have g1 := s1.len
    have g2 := s2.len
    have g3 := sh.len
    refine s_join (ys := ["long", n1, n2, zh]) e8 ?_ ?_
    · simp only [List.map_cons, List.map_nil, List.sum_cons, List.sum_nil, List.length_cons, List.length_nil, c1]
      omega
    refine PvD.add (acc := zs.map V.str) (by walk_at "g") (by simp; omega) fun H9 e9 k9 => ⟨by walk_at "k", _, by rw [List.map_append]; rfl, hz.snoc ?_⟩
    rw [sj4]
    exact ((y5.app y2).app ((s1.app y2).app ((s2.app y2).app sh))).mono (by omega)
  rintro acc H6 ea6 ⟨k6, z6, rfl, h6⟩
  have lz6 := h6.len
  walk_at "u"
  refine s_addl (by walk_at "g") ea6 (zle (by simp; omega)) fun l7 H7 f7 e7 k7 => ?_
  walk_at "u"
  have hR := (h3.app h4).app h6
  have ht := tot_le hR.ss
  rw [hR.len] at ht
  refine k l7 (z3 ++ z4 ++ z6) H7 (by walk_at "f") ?_ (fun y hy => (hR.ss y hy).ok) (by omega) (by walk_at "k")
  rw [e7, List.map_append, List.map_append]

/-! a word of all words -/
def wrd1 : List Str := ["place", "stretch", "long", "staff", "ticket", "low", "high", "0", "1", "3", "4"]
def wrd2 : List Str := ["9", "10", "01", "-1", "", "A", "abcdefg", "Low"]
def ssB (n : Nat) (z : Str) : Bool := decide (z.length ≤ n) && z.cps.toList.all fun c => decide (c < 1114112)
theorem ssB_of {n : Nat} {z : Str} (h : ssB n z = true) : SS z n := by
  unfold ssB at h
  rw [Bool.and_eq_true, decide_eq_true_eq, List.all_eq_true] at h
  exact ⟨h.1, fun c hc => of_decide_eq_true (h.2 c hc)⟩
theorem wrd_ok : (wrd1 ++ wrd2).all (ssB 7) = true := by decide +kernel
def sp_law_word : Sp := sp2 fun x y H Q _ => ∃ (p : Addr) (n : Nat) (t : Addr) (w : Wo) (W : List Addr), x = .ref p ∧ y = .ref t ∧ Box H p n ∧ n ≤ 800000 ∧ Wv H t w W ∧ ∀ (z : Str) (H' : Hp), SS z 7 → Box H' p (n + 1) → Kp [p] H H' → Q (.str z) H'
set_option maxHeartbeats 16000000 in
theorem ok_law_word (T : Tx K mg) : FnOk P w K mg base (L2.CX P w) 2 T.a_law_word T.d_law_word ["_law_box_here", "_law_world_here"] (sp_law_word) := by
  have G_law_take := ok_law_take (P := P) (w := w) (base := base) T
  refine T.F_law_word.okX sc_law_word (fun vs H Q E h => ?_) (fun cd A o s H vs Q E hr h => ?_)
  · obtain ⟨v0, v1, rfl, h⟩ := h; rfl
  obtain ⟨v0, v1, rfl, h⟩ := h
  obtain ⟨p, n, t, w', W, rfl, rfl, hB, hn, hW, k⟩ := h
  refine ⟨_, (pss_cons (ps_setLc (i := 2) (own := [("_law_name", 4), ("_law_roads", 5)]) rfl sc_law_word.nd rfl rfl (sw_true rfl rfl rfl (by decide +kernel)) (pi_lst (K := K) rfl (pe_ix (ix_u (K := K) rfl) (pv 1) pe_int (fun _ _ => rfl))) (blkOk_by (own := [("_law_name", 4), ("_law_roads", 5)]) (N := N_law_word) (sc := defScope s_law_word) (by decide +kernel)) (fun _ _ _ _ _ => (pg_tupK (K := K) (n := 2) rfl rfl (pgs_cons (pg_name (i := 4) sc_law_word.nd rfl (Or.inl rfl)) (pgs_cons (pg_name (i := 5) sc_law_word.nd rfl (Or.inl rfl)) pgs_nil)))) (fun _ _ _ _ _ => pts_nil) (fun _ _ _ _ _ => (pv 4)))
    (pss_cons (ps_set (i := 3) sc_law_word.nd rfl (Or.inl rfl) (pe_op (o_add (K := K) rfl) (pe_op (o_add (K := K) rfl) (pv 2) (pv 2)) (pe_lst (pa_cons (pe_ix (ix_u (K := K) rfl) (pv 1) pe_int (fun _ _ => rfl)) (pa_cons pe_str (pa_cons pe_str (pa_cons pe_str (pa_cons pe_str (pa_cons pe_str (pa_cons pe_str (pa_cons pe_str (pa_cons pe_str (pa_cons pe_str (pa_cons pe_str (pa_cons pe_str pa_nil)))))))))))))))
    (pss_cons (ps_set (i := 3) sc_law_word.nd rfl (Or.inl rfl) (pe_op (o_add (K := K) rfl) (pv 3) (pe_lst (pa_cons pe_str (pa_cons pe_str (pa_cons pe_str (pa_cons pe_str (pa_cons pe_str (pa_cons pe_str (pa_cons pe_str (pa_cons pe_str pa_nil)))))))))))
    (pss_one (ps_ret (pe_ix (ix_u (K := K) rfl) (pv 3) (pe_co G_law_take (hr.mono (by decide)) rfl T.m_law_take T.F_law_take.kp T.B_law_take (takes_of (E := E) rfl rfl rfl rfl) (pa_cons (pv 0) (pa_cons (pe_callB (c_len (K := K) rfl) rfl T.z_len bt_len (pa_cons (pv 3) pa_nil)) pa_nil))) (fun _ _ => rfl))))))), ?_⟩
  rw [st_law_word]
  have gW := hW.ok
  obtain ⟨a1, a2, a3, vp, vs, vl, z, -, e0, e1, e2, e3, r1, r2, r3, sz⟩ := hW.ex
  have l6 := gW.p.l6
  have lp : vp.length = w'.pl.length := by rw [r1.len, rP_len8]
  have lnm : (nms w').length = w'.pl.length := by simp [nms]
  walk_at "u"
  refine s_ilst (SqL.of (xs := vp) (by walk_at "g")) ?_
  intro D hD
  refine lc_L (vs := vp) (by walk_at "g") hD (fun i acc H' => Kp [D] H H' ∧ acc = ((nms w').take i).map V.str) (fun H2 e2 k2 => ⟨by walk_at "k", rfl⟩) (fun i acc H' p o e => p.1.get1 e (by walk_at "ne")) ?_ ?_
  · rintro i x acc H2 ex ea ⟨k2, rfl⟩
    obtain ⟨u, r, rfl, er, eu⟩ := r1.at ex
    obtain ⟨q, eq, rfl⟩ := rP_at er
    have hi := (List.getElem?_eq_some_iff.mp eq).1
    walk_at "u"
    refine ⟨rfl, ?_⟩
    walk_at "u"
    refine PvD.add ea (by simp [nms]; omega) fun H3 e3 k3 => ⟨by walk_at "k", ?_⟩
    rw [take_one (x := q.1) (by simp [nms, eq]), List.map_append]
    rfl
  rintro acc H2 ea ⟨k2, rfl⟩
  rw [List.take_of_length_le (by omega)] at ea
  have z2 : Kz [] H H2 := ⟨by walk_at "k"⟩
  walk_at "u"
  refine s_addl ea ea (zle (by simp; omega)) fun l3 H3 f3 g3 k3 => ?_
  walk_at "u"
  walk_at "na"
  intro l4 H4 f4 g4 k4
  have g4 : H4 l4 = some (.lst ((z :: wrd1).map V.str)) := g4
  refine s_addl (by walk_at "g") g4 (zle (by simp [wrd1]; omega)) fun l5 H5 f5 g5 k5 => ?_
  walk_at "u"
  walk_at "na"
  intro l6' H6 f6 g6 k6
  have g6 : H6 l6' = some (.lst (wrd2.map V.str)) := g6
  refine s_addl (by walk_at "g") g6 (zle (by simp [wrd1, wrd2]; omega)) fun l7 H7 f7 g7 k7 => ?_
  rw [← List.map_append, ← List.map_append, ← List.map_append] at g7
  have hz : ∀ y ∈ nms w' ++ nms w' ++ (z :: wrd1) ++ wrd2, SS y 7 := by
    have c := List.all_eq_true.mp wrd_ok
    intro y hy
    rcases List.mem_append.mp hy with hy | hy
    · rcases List.mem_append.mp hy with hy | hy
      · exact (nms_ss gW (by rcases List.mem_append.mp hy with hy | hy <;> exact hy)).mono (by omega)
      · rcases List.mem_cons.mp hy with rfl | hy
        · exact sz.mono (by omega)
        · exact ssB_of (c y (List.mem_append_left _ hy))
    · exact ssB_of (c y (List.mem_append_right _ hy))
  have hl : (nms w' ++ nms w' ++ (z :: wrd1) ++ wrd2).length ≤ 32 := by simp [wrd1, wrd2]; omega
  have hl0 : 0 < (nms w' ++ nms w' ++ (z :: wrd1) ++ wrd2).length := by simp [wrd1, wrd2]; omega
  generalize nms w' ++ nms w' ++ (z :: wrd1) ++ wrd2 = zs at *
  walk_at "u"
  refine s_lenl g7 ?_
  rw [List.length_map]
  walk_at "u"
  walk_at "tk"
  intro d H8 d0 d1 B8 k8
  obtain ⟨y, my, ey⟩ := str_at d0 d1
  refine s_ixl (xs := zs.map V.str) (by walk_at "g") ey ?_
  walk_at "u"
  exact k y H8 (hz y my) B8 (by walk_at "k")
theorem map_set8 (ys : List Str) (j : Nat) (y : Str) : (ys.map V.str).set j (.str y) = (ys.set j y).map V.str := by rw [List.map_set]
theorem tot_set {y : Str} : ∀ (ys : List Str) (j : Nat), tot (ys.set j y) ≤ tot ys + (y.length + 1)
  | [], j => by simp [tot]
  | x :: ys, 0 => by rw [List.set_cons_zero, tot_cons, tot_cons]; omega
  | x :: ys, j + 1 => by rw [List.set_cons_succ, tot_cons, tot_cons]; have := tot_set (y := y) ys j; omega
theorem Cs.set {ys : List Str} {j : Nat} {y : Str} (h : Cs ys) (g : Cp y) : Cs (ys.set j y) := fun z hz => (List.mem_or_eq_of_mem_set hz).elim (h z) fun e => e ▸ g
theorem ix_n8 {n : Nat} {i : Int} (h0 : 0 ≤ i) (h1 : i < n) : ixN n i = some i.toNat := by
  unfold ixN
  rw [if_pos h0, if_pos (by omega)]
def sp_law_row_otherwise : Sp := sp3 fun x y v H Q _ => ∃ (p : Addr) (n : Nat) (t : Addr) (w : Wo) (W : List Addr) (l : Addr) (ys : List Str), x = .ref p ∧ y = .ref t ∧ v = .ref l ∧ Box H p n ∧ n ≤ 700000 ∧ Wv H t w W ∧ p ∉ W ∧ l ∉ W ∧ l ≠ p ∧ H l = some (.lst (ys.map V.str)) ∧ Cs ys ∧ ys ≠ [] ∧ tot ys ≤ 4000 ∧
  ∀ l2 ys2 H', H' l2 = some (.lst (ys2.map V.str)) → l2 ≠ p → (l2 = l ∨ H l2 = none) → Cs ys2 → tot ys2 ≤ 3 * tot ys + 40 → Box H' p (n + 20) → Kp [p, l] H H' → Q (.ref l2) H'
set_option maxHeartbeats 16000000 in
theorem ok_law_row_otherwise (T : Tx K mg) : FnOk P w K mg base (L2.CX P w) 3 T.a_law_row_otherwise T.d_law_row_otherwise ["_law_box_here", "_law_world_here", "_law_rows_here"] (sp_law_row_otherwise) := by
  have G_law_take := ok_law_take (P := P) (w := w) (base := base) T
  have G_law_word := ok_law_word (P := P) (w := w) (base := base) T
  refine T.F_law_row_otherwise.okX sc_law_row_otherwise (fun vs H Q E h => ?_) (fun cd A o s H vs Q E hr h => ?_)
  · obtain ⟨v0, v1, v2, rfl, h⟩ := h; rfl
  obtain ⟨v0, v1, v2, rfl, h⟩ := h
  obtain ⟨p, n, t, w', W, l, ys, rfl, rfl, rfl, hB, hn, hW, nW, nlW, nlp, el, hc, hne, ht, k⟩ := h
  refine ⟨_, (pss_cons (ps_set (i := 3) sc_law_row_otherwise.nd rfl (Or.inl rfl) (pe_co G_law_take (hr.mono (by decide)) rfl T.m_law_take T.F_law_take.kp T.B_law_take (takes_of (E := E) rfl rfl rfl rfl) (pa_cons (pv 0) (pa_cons (pe_callB (c_len (K := K) rfl) rfl T.z_len bt_len (pa_cons (pv 2) pa_nil)) pa_nil))))
    (pss_cons (ps_set (i := 4) sc_law_row_otherwise.nd rfl (Or.inl rfl) (pe_co G_law_take (hr.mono (by decide)) rfl T.m_law_take T.F_law_take.kp T.B_law_take (takes_of (E := E) rfl rfl rfl rfl) (pa_cons (pv 0) (pa_cons (pe_callB (c_len (K := K) rfl) rfl T.z_len bt_len (pa_cons (pv 2) pa_nil)) pa_nil))))
    (pss_cons (ps_set (i := 5) sc_law_row_otherwise.nd rfl (Or.inl rfl) (pe_co G_law_take (hr.mono (by decide)) rfl T.m_law_take T.F_law_take.kp T.B_law_take (takes_of (E := E) rfl rfl rfl rfl) (pa_cons (pv 0) (pa_cons pe_int pa_nil))))
    (pss_cons (ps_set (i := 6) sc_law_row_otherwise.nd rfl (Or.inl rfl) (pe_split (pe_ix (ix_u (K := K) rfl) (pv 2) (pv 3) (fun _ _ => rfl)) pe_str))
    (pss_cons (ps_set (i := 7) sc_law_row_otherwise.nd rfl (Or.inl rfl) (pe_co G_law_take (hr.mono (by decide)) rfl T.m_law_take T.F_law_take.kp T.B_law_take (takes_of (E := E) rfl rfl rfl rfl) (pa_cons (pv 0) (pa_cons (pe_callB (c_len (K := K) rfl) rfl T.z_len bt_len (pa_cons (pv 6) pa_nil)) pa_nil))))
    (pss_cons (ps_if (pt_cmpR (o_eq (K := K) rfl hr) (pv 5) pe_int (nomark _))
    (pss_one (ps_ret (pe_op (o_add (K := K) rfl) (pe_slice (sl_u (K := K) rfl) (pv 2) po_none (po_some (pv 3))) (pe_slice (sl_u (K := K) rfl) (pv 2) (po_some (pe_op (o_add (K := K) rfl) (pv 3) pe_int)) po_none))))
    pss_nil)
    (pss_cons (ps_if (pt_cmpR (o_eq (K := K) rfl hr) (pv 5) pe_int (nomark _))
    (pss_one (ps_ret (pe_op (o_add (K := K) rfl) (pe_slice (sl_u (K := K) rfl) (pv 2) po_none (po_some (pe_op (o_add (K := K) rfl) (pv 3) pe_int))) (pe_slice (sl_u (K := K) rfl) (pv 2) (po_some (pv 3)) po_none))))
    pss_nil)
    (pss_cons (ps_if (pt_cmpR (o_eq (K := K) rfl hr) (pv 5) pe_int (nomark _))
    (pss_cons (ps_asg (pe_tup (pa_cons (pe_ix (ix_u (K := K) rfl) (pv 2) (pv 4) (fun _ _ => rfl)) (pa_cons (pe_ix (ix_u (K := K) rfl) (pv 2) (pv 3) (fun _ _ => rfl)) pa_nil))) (pg_tupK (K := K) (n := 2) rfl rfl (pgs_cons (pg_sub (pv 2) (pv 3) (set_u hr)) (pgs_cons (pg_sub (pv 2) (pv 4) (set_u hr)) pgs_nil))))
    (pss_one (ps_ret (pv 2))))
    pss_nil)
    (pss_cons (ps_if (pt_cmpR (o_eq (K := K) rfl hr) (pv 5) pe_int (nomark _))
    (pss_cons (ps_setLc (i := 8) (own := [("_law_name", 10), ("_law_roads", 11)]) rfl sc_law_row_otherwise.nd rfl rfl (sw_true rfl rfl rfl (by decide +kernel)) (pi_lst (K := K) rfl (pe_ix (ix_u (K := K) rfl) (pv 1) pe_int (fun _ _ => rfl))) (blkOk_by (own := [("_law_name", 10), ("_law_roads", 11)]) (N := N_law_row_otherwise) (sc := defScope s_law_row_otherwise) (by decide +kernel)) (fun _ _ _ _ _ => (pg_tupK (K := K) (n := 2) rfl rfl (pgs_cons (pg_name (i := 10) sc_law_row_otherwise.nd rfl (Or.inl rfl)) (pgs_cons (pg_name (i := 11) sc_law_row_otherwise.nd rfl (Or.inl rfl)) pgs_nil)))) (fun _ _ _ _ _ => pts_nil) (fun _ _ _ _ _ => (pv 10)))
    (pss_cons (ps_set (i := 9) sc_law_row_otherwise.nd rfl (Or.inl rfl) (pe_lst (pa_cons (pe_op (o_add (K := K) rfl) (pe_op (o_add (K := K) rfl) pe_str (pe_ix (ix_u (K := K) rfl) (pv 1) pe_int (fun _ _ => rfl))) pe_str) (pa_cons pe_str pa_nil))))
    (pss_cons (ps_expr (pe_bm PySem.F.plainAttrs_list PySem.F.slot_list_append PySem.F.type_list_append mt_append (pv 9) (pa_cons (pe_op (o_add (K := K) rfl) (pe_op (o_add (K := K) rfl) (pe_op (o_add (K := K) rfl) (pe_op (o_add (K := K) rfl) pe_str (pe_ix (ix_u (K := K) rfl) (pv 8) pe_int (fun _ _ => rfl))) pe_str) (pe_ix (ix_u (K := K) rfl) (pv 8) (pe_un un_neg pe_int) (fun _ _ => rfl))) pe_str) pa_nil)))
    (pss_one (ps_ret (pe_op (o_add (K := K) rfl) (pe_op (o_add (K := K) rfl) (pe_slice (sl_u (K := K) rfl) (pv 2) po_none (po_some (pv 3))) (pe_lst (pa_cons (pe_ix (ix_u (K := K) rfl) (pv 9) (pe_co G_law_take (hr.mono (by decide)) rfl T.m_law_take T.F_law_take.kp T.B_law_take (takes_of (E := E) rfl rfl rfl rfl) (pa_cons (pv 0) (pa_cons pe_int pa_nil))) (fun _ _ => rfl)) pa_nil))) (pe_slice (sl_u (K := K) rfl) (pv 2) (po_some (pv 3)) po_none)))))))
    pss_nil)
    (pss_cons (ps_if (pt_cmpR (o_eq (K := K) rfl hr) (pv 5) pe_int (nomark _))
    (pss_one (ps_set (i := 6) sc_law_row_otherwise.nd rfl (Or.inl rfl) (pe_op (o_add (K := K) rfl) (pe_slice (sl_u (K := K) rfl) (pv 6) po_none (po_some (pv 7))) (pe_slice (sl_u (K := K) rfl) (pv 6) (po_some (pe_op (o_add (K := K) rfl) (pv 7) pe_int)) po_none))))
    (pss_one (ps_if (pt_cmpR (o_eq (K := K) rfl hr) (pv 5) pe_int (nomark _))
    (pss_one (ps_set (i := 6) sc_law_row_otherwise.nd rfl (Or.inl rfl) (pe_op (o_add (K := K) rfl) (pe_slice (sl_u (K := K) rfl) (pv 6) po_none (po_some (pe_op (o_add (K := K) rfl) (pv 7) pe_int))) (pe_slice (sl_u (K := K) rfl) (pv 6) (po_some (pv 7)) po_none))))
    (pss_one (ps_if (pt_cmpR (o_eq (K := K) rfl hr) (pv 5) pe_int (nomark _))
    (pss_cons (ps_set (i := 7) sc_law_row_otherwise.nd rfl (Or.inl rfl) (pe_co G_law_take (hr.mono (by decide)) rfl T.m_law_take T.F_law_take.kp T.B_law_take (takes_of (E := E) rfl rfl rfl rfl) (pa_cons (pv 0) (pa_cons (pe_op (o_add (K := K) rfl) (pe_callB (c_len (K := K) rfl) rfl T.z_len bt_len (pa_cons (pv 6) pa_nil)) pe_int) pa_nil))))
    (pss_one (ps_set (i := 6) sc_law_row_otherwise.nd rfl (Or.inl rfl) (pe_op (o_add (K := K) rfl) (pe_op (o_add (K := K) rfl) (pe_slice (sl_u (K := K) rfl) (pv 6) po_none (po_some (pv 7))) (pe_lst (pa_cons pe_str pa_nil))) (pe_slice (sl_u (K := K) rfl) (pv 6) (po_some (pv 7)) po_none)))))
    (pss_one (ps_set (i := 6) sc_law_row_otherwise.nd rfl (Or.inl rfl) (pe_op (o_add (K := K) rfl) (pe_op (o_add (K := K) rfl) (pe_slice (sl_u (K := K) rfl) (pv 6) po_none (po_some (pv 7))) (pe_lst (pa_cons (pe_co G_law_word (hr.mono (by decide)) rfl T.m_law_word T.F_law_word.kp T.B_law_word (takes_of (E := E) rfl rfl rfl rfl) (pa_cons (pv 0) (pa_cons (pv 1) pa_nil))) pa_nil))) (pe_slice (sl_u (K := K) rfl) (pv 6) (po_some (pe_op (o_add (K := K) rfl) (pv 7) pe_int)) po_none)))))))))
    (pss_one (ps_ret (pe_op (o_add (K := K) rfl) (pe_op (o_add (K := K) rfl) (pe_slice (sl_u (K := K) rfl) (pv 2) po_none (po_some (pv 3))) (pe_lst (pa_cons (pe_joinU (K := K) rfl pe_str (pv 6)) pa_nil))) (pe_slice (sl_u (K := K) rfl) (pv 2) (po_some (pe_op (o_add (K := K) rfl) (pv 3) pe_int)) po_none)))))))))))))), ?_⟩
  rw [st_law_row_otherwise]
  have lp := List.length_pos_iff.mpr hne
  have lty := len_tot ys
  walk_at "u"
  refine s_lenl el ?_
  rw [List.length_map]
  walk_at "u"
  walk_at "tk"
  intro i H1 i0 i1 B1 k1
  walk_at "u"
  refine s_lenl (xs := ys.map V.str) (by walk_at "g") ?_
  rw [List.length_map]
  walk_at "u"
  walk_at "tk"
  intro j H2 j0 j1 B2 k2
  walk_at "u"
  walk_at "tk"
  intro way H3 w0 w1 B3 k3
  walk_at "u"
  obtain ⟨y, my, ey⟩ := str_at i0 i1
  have ly := tot_mem my
  refine s_ixl (xs := ys.map V.str) (by walk_at "g") ey ?_
  walk_at "u"
  have hnw := split_ne (z := y) (a := " ")
  have htw := tot_split (z := y) (a := " ") sp_1.1
  have hcw := Cs.split (z := y) (a := " ") (hc y my)
  refine s_spl3 (z := y) (sep := " ") (by decide +kernel) (zle2 (by omega)) rfl fun l4 H4 f4 e4 k4 => ?_
  generalize Txt.split y " " = ws at *
  have lpw := List.length_pos_iff.mpr hnw
  have ltw := len_tot ws
  walk_at "u"
  refine s_lenl e4 ?_
  rw [List.length_map]
  walk_at "u"
  walk_at "tk"
  intro m H5 m0 m1 B5 k5
  have z5 : Kz [p] H H5 := ⟨by walk_at "k"⟩
  have el5 : H5 l = some (.lst (ys.map V.str)) := by walk_at "g"
  have e45 : H5 l4 = some (.lst (ws.map V.str)) := by walk_at "g"
  have hW5 : Wv H5 t w' W := hW.kp1 z5.k nW
  have f4' : Fz H l4 := ⟨by walk_at "f"⟩
  have n4p : l4 ≠ p := by walk_at "ne"
  have hk : ∀ l2 ys2 H', H' l2 = some (.lst (ys2.map V.str)) → l2 ≠ p → (l2 = l ∨ H5 l2 = none) → Cs ys2 → tot ys2 ≤ 3 * tot ys + 40 → Box H' p (n + 20) → Kp [p, l] H5 H' → Q (.ref l2) H' := fun l2 ys2 H' a1 a2 a3 a4 a5 a6 a7 => k l2 ys2 H' a1 a2 (a3.imp id fun h => z5.k.dom l2 h) a4 a5 a6 ((z5.k.mono (by simp)).trans a7)
  clear k5 k4 k3 k2 k1 B3 B2 B1 e4 el f4 k hW hB
  walk_at "u"
  refine s_ite (fun h => ?_) (fun h => ?_)
  · walk_at "u"
    refine s_sll (SqL.of el5) fun l6 H6 f6 e6 k6 => ?_
    rw [cut_pre _ i0, ← List.map_take] at e6
    walk_at "u"
    refine s_sll (xs := ys.map V.str) (SqL.of (by walk_at "g")) fun l7 H7 f7 e7 k7 => ?_
    rw [cut_tail _ (by omega), ← List.map_drop] at e7
    refine s_addl (by walk_at "g") e7 (zle (by simp; omega)) fun l8 H8 f8 e8 k8 => ?_
    rw [← List.map_append] at e8
    walk_at "u"
    have t1 := tot_td ys i.toNat
    have t2 := tot_dd ys i.toNat
    exact hk l8 _ H8 e8 (by walk_at "ne") (Or.inr (by walk_at "f")) (hc.take.app hc.drop) (by rw [tot_app, show (i + 1).toNat = i.toNat + 1 by omega]; omega) (Box.more (n := n + 4) (by walk_at "g") (by omega)) (by walk_at "k")
  walk_at "u"
  refine s_ite (fun h => ?_) (fun h => ?_)
  · walk_at "u"
    refine s_sll (SqL.of el5) fun l6 H6 f6 e6 k6 => ?_
    rw [cut_pre _ (by omega), ← List.map_take] at e6
    walk_at "u"
    refine s_sll (xs := ys.map V.str) (SqL.of (by walk_at "g")) fun l7 H7 f7 e7 k7 => ?_
    rw [cut_tail _ i0, ← List.map_drop] at e7
    refine s_addl (by walk_at "g") e7 (zle (by simp; omega)) fun l8 H8 f8 e8 k8 => ?_
    rw [← List.map_append] at e8
    walk_at "u"
    have t1 := tot_td ys i.toNat
    have t2 := tot_td ys (i + 1).toNat
    exact hk l8 _ H8 e8 (by walk_at "ne") (Or.inr (by walk_at "f")) (hc.take.app hc.drop) (by rw [tot_app]; omega) (Box.more (n := n + 4) (by walk_at "g") (by omega)) (by walk_at "k")
  walk_at "u"
  refine s_ite (fun h => ?_) (fun h => ?_)
  · walk_at "u"
    obtain ⟨y2, my2, ey2⟩ := str_at j0 j1
    have ly2 := tot_mem my2
    refine s_ixl el5 ey2 ?_
    walk_at "u"
    refine s_ixl el5 ey ?_
    walk_at "u"
    walk_at "na"
    intro t6 H6 f6 e6 k6
    walk_at "u"
    refine s_ul (xs := ys.map V.str) (by walk_at "g") (by rw [List.length_map]; exact ix_n8 i0 i1) (map_set8 _ _ _) fun H7 e7 k7 => ?_
    walk_at "u"
    refine s_ul e7 (j := j.toNat) (by rw [List.length_map, List.length_set]; exact ix_n8 j0 j1) (map_set8 _ _ _) fun H8 e8 k8 => ?_
    walk_at "u"
    have t1 := tot_set (y := y2) ys i.toNat
    have t2 := tot_set (y := y) (ys.set i.toNat y2) j.toNat
    exact hk l _ H8 e8 nlp (Or.inl rfl) ((hc.set (hc y2 my2)).set (hc y my)) (by omega) (Box.more (n := n + 4) (by walk_at "g") (by omega)) (by walk_at "k")
  walk_at "u"
  refine s_ite (fun h => ?_) (fun h => ?_)
  · have gW := hW5.ok
    obtain ⟨a1, a2, a3, vp, vs, vl, z, -, e0, e1, e2, e3, r1, r2, r3, sz⟩ := hW5.ex
    have l6 := gW.p.l6
    have l2 := gW.p.l2
    have lvp : vp.length = w'.pl.length := by rw [r1.len, rP_len8]
    have lnm : (nms w').length = w'.pl.length := by simp [nms]
    obtain ⟨y1, y2, y3, y4, y5, y6, y7⟩ := lit8
    walk_at "u"
    refine s_ilst (SqL.of (xs := vp) (by walk_at "g")) ?_
    intro D hD
    refine lc_L (vs := vp) (by walk_at "g") hD (fun i acc H' => Kp [D] H5 H' ∧ acc = ((nms w').take i).map V.str) (fun H2 e2 k2 => ⟨by walk_at "k", rfl⟩) (fun i acc H' p o e => p.1.get1 e (by walk_at "ne")) ?_ ?_
    · rintro i x acc H2 ex ea ⟨k2, rfl⟩
      obtain ⟨u, r, rfl, er, eu⟩ := r1.at ex
      obtain ⟨q, eq, rfl⟩ := rP_at er
      have hi := (List.getElem?_eq_some_iff.mp eq).1
      walk_at "u"
      refine ⟨rfl, ?_⟩
      walk_at "u"
      refine PvD.add ea (by simp [nms]; omega) fun H3 e3 k3 => ⟨by walk_at "k", ?_⟩
      rw [take_one (x := q.1) (by simp [nms, eq]), List.map_append]
      rfl
    rintro acc H6 e6 ⟨k6, rfl⟩
    rw [List.take_of_length_le (by omega)] at e6
    have k56 := k6.drop hD
    have g1 := y1.len
    have g2 := sz.len
    have g3 := y6.len
    have g4 := y4.len
    have g7 := y7.len
    have g5 := sp_1.1
    walk_at "u"
    refine s_adds (zle (by omega)) ?_
    walk_at "u"
    refine s_adds (zle (by rw [app_len]; omega)) ?_
    walk_at "u"
    walk_at "na"
    intro l7 H7 f7 e7 k7
    walk_at "u"
    obtain ⟨n1, m1', x1⟩ := str_at (ys := nms w') (i := 0) (by omega) (by omega)
    have x2 : ∃ n2, n2 ∈ nms w' ∧ atI ((nms w').map V.str) (-1) = some (.str n2) := by
      obtain ⟨v, hv, ev⟩ := at_last (xs := (nms w').map V.str) (by intro h; have := congrArg List.length h; rw [List.length_map, lnm, List.length_nil] at this; omega)
      obtain ⟨n2, h2, rfl⟩ := List.mem_map.mp hv
      exact ⟨n2, h2, ev⟩
    obtain ⟨n2, m2', x2⟩ := x2
    have s1 := nms_ss gW m1'
    have s2 := nms_ss gW m2'
    have q1 := s1.len
    have q2 := s2.len
    refine s_ixl (xs := (nms w').map V.str) (by walk_at "g") x1 ?_
    refine s_adds (zle (by omega)) ?_
    walk_at "u"
    refine s_adds (zle (by rw [app_len]; omega)) ?_
    walk_at "u"
    refine s_ixl (xs := (nms w').map V.str) (by walk_at "g") x2 ?_
    refine s_adds (zle (by rw [app_len, app_len]; omega)) ?_
    walk_at "u"
    refine s_adds (zle (by rw [app_len, app_len, app_len]; omega)) ?_
    walk_at "u"
    refine s_app e7 (zlt (by simp)) fun H8 e8 k8 => ?_
    walk_at "u"
    refine s_sll (xs := ys.map V.str) (SqL.of (by walk_at "g")) fun l9 H9 f9 e9 k9 => ?_
    rw [cut_pre _ i0, ← List.map_take] at e9
    walk_at "u"
    walk_at "tk"
    intro d H10 d0 d1 B10 k10
    have e810 : H10 l7 = some (.lst (([("place " : Str) ++ z ++ " 2", "stretch ticket low", "long " ++ n1 ++ " " ++ n2 ++ " high"] : List Str).map V.str)) := by walk_at "g"
    obtain ⟨o, mo, eo⟩ := str_at (ys := [("place " : Str) ++ z ++ " 2", "stretch ticket low", "long " ++ n1 ++ " " ++ n2 ++ " high"]) d0 (by simpa using d1)
    have so : SS o 24 := by
      simp only [List.mem_cons, List.not_mem_nil, or_false] at mo
      rcases mo with rfl | rfl | rfl
      · exact ((y1.app sz).app y6).mono (by omega)
      · exact ssB_of (by decide +kernel)
      · exact ((((y4.app s1).app y2).app s2).app y7).mono (by omega)
    have lo := so.len
    refine s_ixl e810 eo ?_
    walk_at "u"
    walk_at "na"
    intro l11 H11 f11 e11 k11
    have e11 : H11 l11 = some (.lst (([o] : List Str).map V.str)) := e11
    refine s_addl (xs := (ys.take i.toNat).map V.str) (by walk_at "g") e11 (zle (by simp; omega)) fun l12 H12 f12 e12 k12 => ?_
    rw [← List.map_append] at e12
    walk_at "u"
    refine s_sll (xs := ys.map V.str) (SqL.of (by walk_at "g")) fun l13 H13 f13 e13 k13 => ?_
    rw [cut_tail _ i0, ← List.map_drop] at e13
    refine s_addl (by walk_at "g") e13 (zle (by simp; omega)) fun l14 H14 f14 e14 k14 => ?_
    rw [← List.map_append] at e14
    walk_at "u"
    have t1 := tot_td ys i.toNat
    have q1' : l14 ≠ p := by walk_at "ne"
    have q2' : H5 l14 = none := by walk_at "f"
    have bx' : Box H14 p (n + 5) := by walk_at "g"
    have kk : Kp [p] H5 H14 := by walk_at "k"
    exact hk l14 _ H14 e14 q1' (Or.inr q2') ((hc.take.app (.cons so.ok .nil)).app hc.drop) (by rw [tot_app, tot_app, tot_cons, tot_nil]; omega) (bx'.more (by omega)) (kk.mono (by simp))
  walk_at "s"
  refine jS (fun σ H' => Kp [p] H5 H' ∧ Box H' p (n + 10) ∧ ∃ (l6 : Addr) (xs : List Str) (u7 : Option V), H' l6 = some (.lst (xs.map V.str)) ∧ Cs xs ∧ tot xs ≤ 2 * tot ws + 10 ∧ σ = [some (.ref p), some (.ref t), some (.ref l), some (.int i), some (.int j), some (.int way), some (.ref l6), u7, none, none, none, none]) ?_ ?_
  · rintro σ H6 ⟨k6, B6, l6, xs, u7, e6, cx, tx, rfl⟩
    have el6 : H6 l = some (.lst (ys.map V.str)) := by walk_at "g"
    have lx := len_tot xs
    walk_at "u"
    refine s_sll (SqL.of el6) fun l7 H7 f7 e7 k7 => ?_
    rw [cut_pre _ i0, ← List.map_take] at e7
    walk_at "u"
    refine s_join (ys := xs) (by walk_at "g") ?_ ?_
    · have := sum_tot xs
      rw [sp_1.1]
      omega
    have cj := Cs.join cx sp_cp.1
    have lj : (Txt.join " " xs).length ≤ 2 * tot ws + 10 := by
      rw [tj]
      exact Nat.le_trans (join_tot sp_1.1 _) tx
    generalize Txt.join " " xs = o at *
    walk_at "u"
    walk_at "na"
    intro l8 H8 f8 e8 k8
    have e8 : H8 l8 = some (.lst (([o] : List Str).map V.str)) := e8
    refine s_addl (xs := (ys.take i.toNat).map V.str) (by walk_at "g") e8 (zle (by simp; omega)) fun l9 H9 f9 e9 k9 => ?_
    rw [← List.map_append] at e9
    walk_at "u"
    refine s_sll (xs := ys.map V.str) (SqL.of (by walk_at "g")) fun l10 H10 f10 e10 k10 => ?_
    rw [cut_tail _ (by omega), ← List.map_drop] at e10
    refine s_addl (by walk_at "g") e10 (zle (by simp; omega)) fun l11 H11 f11 e11 k11 => ?_
    rw [← List.map_append] at e11
    walk_at "u"
    have t1 := tot_td ys i.toNat
    have t2 := tot_dd ys i.toNat
    have t3 : tot (ys.take i.toNat) + tot (ys.drop i.toNat) = tot ys := t1
    have hyi : y.length + 1 + tot (ys.drop (i.toNat + 1)) = tot (ys.drop i.toNat) := by
      obtain ⟨v, hv, ev⟩ := at_int (xs := ys.map V.str) i0 (by simpa using i1)
      rw [ev] at ey
      cases ey
      rw [List.getElem?_map] at hv
      obtain ⟨y', hy', e'⟩ := Option.map_eq_some_iff.mp hv
      cases e'
      obtain ⟨hi, ehi⟩ := List.getElem?_eq_some_iff.mp hy'
      rw [List.drop_eq_getElem_cons hi, tot_cons, ehi]
    have q1 : l11 ≠ p := by walk_at "ne"
    have q2 : H5 l11 = none := by walk_at "f"
    have bx : Box H11 p (n + 10) := by walk_at "g"
    have kk : Kp [p] H5 H11 := by walk_at "k"
    exact hk l11 _ H11 e11 q1 (Or.inr q2) ((hc.take.app (.cons cj .nil)).app hc.drop) (by rw [tot_app, tot_app, tot_cons, tot_nil, show (i + 1).toNat = i.toNat + 1 by omega]; omega) (bx.more (by omega)) (kk.mono (by simp))
  intro u' key
  have t1 := tot_td ws m.toNat
  have t2 := tot_dd ws m.toNat
  walk_at "u"
  refine s_ite (fun h => ?_) (fun h => ?_)
  · walk_at "u"
    refine s_sll (SqL.of e45) fun l6 H6 f6 e6 k6 => ?_
    rw [cut_pre _ m0, ← List.map_take] at e6
    walk_at "u"
    refine s_sll (xs := ws.map V.str) (SqL.of (by walk_at "g")) fun l7 H7 f7 e7 k7 => ?_
    rw [cut_tail _ (by omega), ← List.map_drop] at e7
    refine s_addl (by walk_at "g") e7 (zle (by simp; omega)) fun l8 H8 f8 e8 k8 => ?_
    rw [← List.map_append] at e8
    walk_at "u"
    exact key _ _ ⟨by walk_at "k", Box.more (n := n + 4) (by walk_at "g") (by omega), l8, _, _, e8, hcw.take.app hcw.drop, by rw [tot_app, show (m + 1).toNat = m.toNat + 1 by omega]; omega, rfl⟩
  walk_at "u"
  refine s_ite (fun h => ?_) (fun h => ?_)
  · walk_at "u"
    refine s_sll (SqL.of e45) fun l6 H6 f6 e6 k6 => ?_
    rw [cut_pre _ (by omega), ← List.map_take] at e6
    walk_at "u"
    refine s_sll (xs := ws.map V.str) (SqL.of (by walk_at "g")) fun l7 H7 f7 e7 k7 => ?_
    rw [cut_tail _ m0, ← List.map_drop] at e7
    refine s_addl (by walk_at "g") e7 (zle (by simp; omega)) fun l8 H8 f8 e8 k8 => ?_
    rw [← List.map_append] at e8
    walk_at "u"
    have t3 := tot_td ws (m + 1).toNat
    exact key _ _ ⟨by walk_at "k", Box.more (n := n + 4) (by walk_at "g") (by omega), l8, _, _, e8, hcw.take.app hcw.drop, by rw [tot_app]; omega, rfl⟩
  walk_at "u"
  refine s_ite (fun h => ?_) (fun h => ?_)
  · walk_at "u"
    refine s_lenl e45 ?_
    rw [List.length_map]
    walk_at "u"
    walk_at "tk"
    intro q H6 q0 q1 B6 k6
    have t3 := tot_td ws q.toNat
    walk_at "u"
    refine s_sll (xs := ws.map V.str) (SqL.of (by walk_at "g")) fun l7 H7 f7 e7 k7 => ?_
    rw [cut_pre _ q0, ← List.map_take] at e7
    walk_at "u"
    walk_at "na"
    intro l8 H8 f8 e8 k8
    have e8 : H8 l8 = some (.lst (([""] : List Str).map V.str)) := e8
    refine s_addl (xs := (ws.take q.toNat).map V.str) (by walk_at "g") e8 (zle (by simp; omega)) fun l9 H9 f9 e9 k9 => ?_
    rw [← List.map_append] at e9
    walk_at "u"
    refine s_sll (xs := ws.map V.str) (SqL.of (by walk_at "g")) fun l10 H10 f10 e10 k10 => ?_
    rw [cut_tail _ q0, ← List.map_drop] at e10
    refine s_addl (by walk_at "g") e10 (zle (by simp; omega)) fun l11 H11 f11 e11 k11 => ?_
    rw [← List.map_append] at e11
    walk_at "u"
    exact key _ _ ⟨by walk_at "k", Box.more (n := n + 5) (by walk_at "g") (by omega), l11, _, _, e11, (hcw.take.app (.cons sp_cp.2.2 .nil)).app hcw.drop, by rw [tot_app, tot_app, tot_cons, tot_nil, sp_1.2.2]; omega, rfl⟩
  · walk_at "u"
    refine s_sll (SqL.of e45) fun l6 H6 f6 e6 k6 => ?_
    rw [cut_pre _ m0, ← List.map_take] at e6
    walk_at "u"
    refine ⟨_, _, rfl, p, n + 4, t, w', W, rfl, rfl, by walk_at "g", by omega, hW5.kp k6, fun o H7 so B7 k7 => ?_⟩
    have lo := so.len
    walk_at "u"
    walk_at "na"
    intro l8 H8 f8 e8 k8
    have e8 : H8 l8 = some (.lst (([o] : List Str).map V.str)) := e8
    refine s_addl (xs := (ws.take m.toNat).map V.str) (by walk_at "g") e8 (zle (by simp; omega)) fun l9 H9 f9 e9 k9 => ?_
    rw [← List.map_append] at e9
    walk_at "u"
    refine s_sll (xs := ws.map V.str) (SqL.of (by walk_at "g")) fun l10 H10 f10 e10 k10 => ?_
    rw [cut_tail _ (by omega), ← List.map_drop] at e10
    refine s_addl (by walk_at "g") e10 (zle (by simp; omega)) fun l11 H11 f11 e11 k11 => ?_
    rw [← List.map_append] at e11
    walk_at "u"
    exact key _ _ ⟨by walk_at "k", Box.more (n := n + 5) (by walk_at "g") (by omega), l11, _, _, e11, (hcw.take.app (.cons so.ok .nil)).app hcw.drop, by rw [tot_app, tot_app, tot_cons, tot_nil, show (m + 1).toNat = m.toNat + 1 by omega]; omega, rfl⟩

/-! a text of all texts -/
theorem Wv.al {H : Hp} {t : Addr} {w : Wo} {W : List Addr} (h : Wv H t w W) : ∀ a ∈ W, H a ≠ none := by
  obtain ⟨a1, a2, a3, vp, vs, vl, z, rfl, e0, e1, e2, e3, -⟩ := h.ex
  intro a m
  simp only [List.mem_cons, List.not_mem_nil, or_false] at m
  rcases m with rfl | rfl | rfl | rfl
  · rw [e0]; simp
  · rw [e1]; simp
  · rw [e2]; simp
  · rw [e3]; simp
def sp_law_signs : Sp := fun vs H Q _ => vs = [] ∧ ∀ z : Str, z.length = 94 → SS z 94 → Q (.str z) H
set_option maxHeartbeats 16000000 in
theorem ok_law_signs (T : Tx K mg) : FnOk P w K mg base (L2.CX P w) 1 T.a_law_signs T.d_law_signs [] (sp_law_signs) := by
  refine T.F_law_signs.okX sc_law_signs (fun vs H Q E h => ?_) (fun cd A o s H vs Q E hr h => ?_)
  · obtain ⟨rfl, h⟩ := h; rfl
  obtain ⟨rfl, h⟩ := h
  refine ⟨_, (pss_cons (ps_set (i := 0) sc_law_signs.nd rfl (Or.inl rfl) pe_str)
    (pss_one (ps_ret (pe_op (o_add (K := K) rfl) (pv 0) pe_str)))), ?_⟩
  rw [st_law_signs]
  walk_at "u"
  refine s_adds (zle (by decide +kernel)) ?_
  walk_at "u"
  exact h _ (by decide +kernel) (SS.mk' (by decide +kernel))
def Bn : Nat → Nat | 0 => 325 | n + 1 => 3 * Bn n + 40
theorem Bn_le {i : Nat} (h : i ≤ 3) : Bn i ≤ 9295 := by
  match i, h with
  | 0, _ => decide
  | 1, _ => decide
  | 2, _ => decide
  | 3, _ => decide
theorem Bn1 {i : Nat} (h : i ≤ 2) : Bn i ≤ 3085 := by
  match i, h with
  | 0, _ => decide
  | 1, _ => decide
  | 2, _ => decide
/-- what may be read -/
def Rb8 (H : Hp) (x : V) : Prop := (∃ t, TyN H x t ∧ t ≠ .str) ∨ ∃ z, x = .str z ∧ SS z 10000
theorem Rb8.kp {H H1 : Hp} {x : V} (h : Rb8 H x) (k : Kp [] H H1) : Rb8 H1 x := by
  rcases h with ⟨t, a, b⟩ | h
  · exact Or.inl ⟨t, a.kp k, b⟩
  · exact Or.inr h
theorem S_of8 (z : Str) : ∃ cs, z = S cs ∧ cs = z.cps.toList ∧ cs.length = z.length := ⟨z.cps.toList, (S_of z).symm, rfl, Array.length_toList⟩
theorem Cp.S {cs : List Nat} (h : ∀ c ∈ cs, c < 1114112) : Cp (U.S cs) := by unfold Cp; rw [S_cps]; exact h
theorem nl_ss8 : SS ("\n" : Str) 1 ∧ SS (" " : Str) 1 ∧ SS ("" : Str) 1 := ⟨SS.mk' (by decide +kernel), SS.mk' (by decide +kernel), SS.mk' (by decide +kernel)⟩
def sp_law_text : Sp := sp2 fun x y H Q _ => ∃ (p : Addr) (n : Nat) (t : Addr) (w : Wo) (W : List Addr), x = .ref p ∧ y = .ref t ∧ Box H p n ∧ n ≤ 500000 ∧ Wv H t w W ∧ p ∉ W ∧ ∀ v H', Rb8 H' v → Box H' p (n + 100) → Kp [p] H H' → Q v H'
set_option maxHeartbeats 16000000 in
theorem ok_law_text (T : Tx K mg) : FnOk P w K mg base (L2.CX P w) 4 T.a_law_text T.d_law_text ["_law_box_here", "_law_world_here"] (sp_law_text) := by
  have G_law_rows := ok_law_rows (P := P) (w := w) (base := base) T
  have G_law_take := ok_law_take (P := P) (w := w) (base := base) T
  have G_law_row_otherwise := ok_law_row_otherwise (P := P) (w := w) (base := base) T
  have G_law_signs := ok_law_signs (P := P) (w := w) (base := base) T
  refine T.F_law_text.okX sc_law_text (fun vs H Q E h => ?_) (fun cd A o s H vs Q E hr h => ?_)
  · obtain ⟨v0, v1, rfl, h⟩ := h; rfl
  obtain ⟨v0, v1, rfl, h⟩ := h
  obtain ⟨p, n, t, w', W, rfl, rfl, hB, hn, hW, nW, k⟩ := h
  refine ⟨_, (pss_cons (ps_set (i := 2) sc_law_text.nd rfl (Or.inl rfl) (pe_co G_law_rows (hr.mono (by decide)) rfl T.m_law_rows T.F_law_rows.kp T.B_law_rows (takes_of (E := E) rfl rfl rfl rfl) (pa_cons (pv 1) pa_nil)))
    (pss_cons (ps_set (i := 3) sc_law_text.nd rfl (Or.inl rfl) (pe_co G_law_take (hr.mono (by decide)) rfl T.m_law_take T.F_law_take.kp T.B_law_take (takes_of (E := E) rfl rfl rfl rfl) (pa_cons (pv 0) (pa_cons pe_int pa_nil))))
    (pss_cons (ps_set (i := 4) sc_law_text.nd rfl (Or.inl rfl) (pe_ifExp (pt_cmpR (o_eq (K := K) rfl hr) (pe_co G_law_take (hr.mono (by decide)) rfl T.m_law_take T.F_law_take.kp T.B_law_take (takes_of (E := E) rfl rfl rfl rfl) (pa_cons (pv 0) (pa_cons pe_int pa_nil))) pe_int (nomark _)) (pe_ix (ix_u (K := K) rfl) (pe_lst (pa_cons (pe_lst (pa_cons pe_str (pa_cons pe_str pa_nil))) (pa_cons (pe_lst (pa_cons pe_str (pa_cons pe_str pa_nil))) (pa_cons (pe_lst (pa_cons pe_str (pa_cons pe_str pa_nil))) (pa_cons (pe_lst (pa_cons pe_str (pa_cons pe_str pa_nil))) pa_nil))))) (pe_co G_law_take (hr.mono (by decide)) rfl T.m_law_take T.F_law_take.kp T.B_law_take (takes_of (E := E) rfl rfl rfl rfl) (pa_cons (pv 0) (pa_cons pe_int pa_nil))) (fun _ _ => rfl)) (pe_lst (pa_cons pe_str (pa_cons pe_str pa_nil)))))
    (pss_cons (ps_for PassesOwn.leaving rfl (pi_range1 rfl T.z_range (pa_cons (pe_co G_law_take (hr.mono (by decide)) rfl T.m_law_take T.F_law_take.kp T.B_law_take (takes_of (E := E) rfl rfl rfl rfl) (pa_cons (pv 0) (pa_cons pe_int pa_nil))) pa_nil)) (pg_name (i := 5) sc_law_text.nd rfl (Or.inl rfl))
    (pss_one (ps_if (pt_cmpR (o_neE (K := K) rfl hr) (pv 2) (pe_lst pa_nil) (nomark _))
    (pss_one (ps_set (i := 2) sc_law_text.nd rfl (Or.inl rfl) (pe_co G_law_row_otherwise (hr.mono (by decide)) rfl T.m_law_row_otherwise T.F_law_row_otherwise.kp T.B_law_row_otherwise (takes_of (E := E) rfl rfl rfl rfl) (pa_cons (pv 0) (pa_cons (pv 1) (pa_cons (pv 2) pa_nil))))))
    pss_nil)))
    (pss_cons (ps_set (i := 6) sc_law_text.nd rfl (Or.inl rfl) (pe_op (o_add (K := K) rfl) (pe_op (o_add (K := K) rfl) (pe_ix (ix_u (K := K) rfl) (pv 4) pe_int (fun _ _ => rfl)) (pe_joinU (K := K) rfl pe_str (pv 2))) (pe_ix (ix_u (K := K) rfl) (pv 4) pe_int (fun _ _ => rfl))))
    (pss_cons (ps_if (pt_cmpR (o_eq (K := K) rfl hr) (pv 3) pe_int (nomark _))
    (pss_cons (ps_set (i := 8) sc_law_text.nd rfl (Or.inl rfl) (pe_co G_law_take (hr.mono (by decide)) rfl T.m_law_take T.F_law_take.kp T.B_law_take (takes_of (E := E) rfl rfl rfl rfl) (pa_cons (pv 0) (pa_cons (pe_op (o_add (K := K) rfl) (pe_callB (c_len (K := K) rfl) rfl T.z_len bt_len (pa_cons (pv 6) pa_nil)) pe_int) pa_nil))))
    (pss_cons (ps_set (i := 9) sc_law_text.nd rfl (Or.inl rfl) (pe_op o_mulS (pe_ix (ix_u (K := K) rfl) (pe_op (o_add (K := K) rfl) (pe_co0 G_law_signs (hr.mono (by decide)) rfl T.m_law_signs T.F_law_signs.kp T.B_law_signs (takes_of (E := E) rfl rfl rfl rfl)) pe_str) (pe_co G_law_take (hr.mono (by decide)) rfl T.m_law_take T.F_law_take.kp T.B_law_take (takes_of (E := E) rfl rfl rfl rfl) (pa_cons (pv 0) (pa_cons pe_int pa_nil))) (fun _ _ => rfl)) (pe_co G_law_take (hr.mono (by decide)) rfl T.m_law_take T.F_law_take.kp T.B_law_take (takes_of (E := E) rfl rfl rfl rfl) (pa_cons (pv 0) (pa_cons pe_int pa_nil)))))
    (pss_one (ps_set (i := 6) sc_law_text.nd rfl (Or.inl rfl) (pe_op (o_add (K := K) rfl) (pe_op (o_add (K := K) rfl) (pe_slice (sl_u (K := K) rfl) (pv 6) po_none (po_some (pv 8))) (pv 9)) (pe_slice (sl_u (K := K) rfl) (pv 6) (po_some (pe_op (o_add (K := K) rfl) (pv 8) (pe_co G_law_take (hr.mono (by decide)) rfl T.m_law_take T.F_law_take.kp T.B_law_take (takes_of (E := E) rfl rfl rfl rfl) (pa_cons (pv 0) (pa_cons pe_int pa_nil))))) po_none))))))
    pss_nil)
    (pss_cons (ps_set (i := 7) sc_law_text.nd rfl (Or.inl rfl) (pe_ix (ix_u (K := K) rfl) (pe_lst (pa_cons pe_non (pa_cons pe_int (pa_cons pe_bl (pa_cons (pe_lst (pa_cons (pv 6) pa_nil)) (pa_cons (pe_tup (pa_cons pe_str pa_nil)) (pa_cons pe_dnewK (pa_cons pe_str (pa_cons pe_str pa_nil))))))))) (pe_co G_law_take (hr.mono (by decide)) rfl T.m_law_take T.F_law_take.kp T.B_law_take (takes_of (E := E) rfl rfl rfl rfl) (pa_cons (pv 0) (pa_cons pe_int pa_nil))) (fun _ _ => rfl)))
    (pss_one (ps_ret (pe_ifExp (PW.pt (pw_and (pt_cmpR (o_eq (K := K) rfl hr) (pv 3) pe_int (nomark _)) (pw_and1 (pt_cmpR (o_eq (K := K) rfl hr) (pe_co G_law_take (hr.mono (by decide)) rfl T.m_law_take T.F_law_take.kp T.B_law_take (takes_of (E := E) rfl rfl rfl rfl) (pa_cons (pv 0) (pa_cons pe_int pa_nil))) pe_int (nomark _))))) (pv 7) (pv 6))))))))))), ?_⟩
  rw [st_law_text]
  have hal := hW.al
  walk_at "u"
  refine ⟨_, rfl, t, w', W, rfl, hW, fun l ys H1 f1 e1 cy ty k1 => ?_⟩
  walk_at "u"
  walk_at "tk"
  intro sg H2 sg0 sg1 B2 k2
  have n1p : l ≠ p := by walk_at "ne"
  have fl : H l = none := by walk_at "f"
  walk_at "s"
  refine s_seq ?_
  refine s_asg ?_
  refine jE (fun v H3 => Kp [p] H2 H3 ∧ Box H3 p (n + 5) ∧ ∃ a m0 m1, v = .ref a ∧ H3 a = some (.lst [.str m0, .str m1]) ∧ SS m0 1 ∧ SS m1 1 ∧ a ≠ p ∧ a ≠ l) ?_ ?_
  rotate_left
  · intro Q' key
    obtain ⟨c1, c2, c3⟩ := nl_ss8
    walk_at "u"
    walk_at "tk"
    intro d H3 d0 d1 B3 k3
    walk_at "u"
    refine s_ite (fun h => ?_) (fun h => ?_)
    · walk_at "u"
      walk_at "na"
      intro b1 H4 f4 e4 k4
      walk_at "u"
      walk_at "na"
      intro b2 H5 f5 e5 k5
      walk_at "u"
      walk_at "na"
      intro b3 H6 f6 e6 k6
      walk_at "u"
      walk_at "na"
      intro b4 H7 f7 e7 k7
      walk_at "u"
      walk_at "na"
      intro b5 H8 f8 e8 k8
      walk_at "u"
      walk_at "tk"
      intro q H9 q0 q1 B9 k9
      have e89 := k9.get1 e8 (by walk_at "ne")
      obtain ⟨v, hv, ev⟩ := ix_mem (xs := [V.ref b1, V.ref b2, V.ref b3, V.ref b4]) q0 (by simpa using q1)
      refine s_ixl e89 ev ?_
      simp only [List.mem_cons, List.not_mem_nil, or_false] at hv
      rcases hv with rfl | rfl | rfl | rfl
      · exact key _ _ ⟨by walk_at "k", B9.more (by omega), _, _, _, rfl, by walk_at "g", c3, c1, by walk_at "ne", by walk_at "ne"⟩
      · exact key _ _ ⟨by walk_at "k", B9.more (by omega), _, _, _, rfl, by walk_at "g", c3, c2, by walk_at "ne", by walk_at "ne"⟩
      · exact key _ _ ⟨by walk_at "k", B9.more (by omega), _, _, _, rfl, by walk_at "g", c1, c3, by walk_at "ne", by walk_at "ne"⟩
      · exact key _ _ ⟨by walk_at "k", B9.more (by omega), _, _, _, rfl, by walk_at "g", c2, c3, by walk_at "ne", by walk_at "ne"⟩
    · walk_at "u"
      walk_at "na"
      intro b1 H4 f4 e4 k4
      exact key _ _ ⟨by walk_at "k", Box.more (n := n + 2) (by walk_at "g") (by omega), _, _, _, rfl, e4, c3, c3, by walk_at "ne", by walk_at "ne"⟩
  rintro v H3 ⟨k3, B3, am, m0, m1, rfl, ea, s0, s1, nam, nal⟩
  walk_at "u"
  walk_at "tk"
  intro q H4 q0 q1 B4 k4
  obtain ⟨q, rfl⟩ := Int.eq_ofNat_of_zero_le q0
  walk_at "u"
  refine s_rng (by omega) (by omega) ?_
  have el : H4 l = some (.lst (ys.map V.str)) := by walk_at "g"
  have ea4 : H4 am = some (.lst [.str m0, .str m1]) := by walk_at "g"
  have z4 : Kz [p] H H4 := ⟨by walk_at "k"⟩
  clear k1 k2 k3 k4 e1 f1 ea B2 B3
  obtain ⟨k4⟩ := z4
  have lW : l ∉ W := fun m => hal l m fl
  have hn4 := B4.more (m := n + 6) (by omega)
  clear B4
  refine for_R (fun i σ H' => Kp [p] H H' ∧ Box H' p (n + 6 + 20 * i) ∧ H' am = some (.lst [.str m0, .str m1]) ∧ ∃ (l2 : Addr) (zs : List Str) (u5 : Option V), H' l2 = some (.lst (zs.map V.str)) ∧ l2 ≠ p ∧ l2 ≠ am ∧ H l2 = none ∧ Cs zs ∧ tot zs ≤ Bn i ∧ σ = [some (.ref p), some (.ref t), some (.ref l2), some (.int sg), some (.ref am), u5, none, none, none, none]) ⟨k4, hn4, ea4, l, ys, _, el, n1p, nal.symm, fl, cy, ty, rfl⟩ ?_ ?_
  · rintro i σ H5 hi ⟨k5, B5, ea5, l2, zs, u5, el2, nl2, nla, fl2, cz, tz, rfl⟩
    have hb2 : Bn i ≤ 3085 := Bn1 (by omega)
    have hbs : Bn (i + 1) = 3 * Bn i + 40 := rfl
    have hW5 := hW.kp1 k5 nW
    have l2W : l2 ∉ W := fun m => hal l2 m fl2
    walk_at "u"
    walk_at "na"
    intro l6 H6 f6 e6 k6
    refine s_neE (k6.get0 el2) e6 ?_
    rw [List.isEmpty_map]
    cases hz : zs.isEmpty with
    | true =>
      walk_at "u"
      refine ⟨k5.trans k6.nil, (B5.kp k6).more (by omega), k6.get0 ea5, l2, zs, _, k6.get0 el2, nl2, nla, fl2, cz, by omega, rfl⟩
    | false =>
      have hne : zs ≠ [] := by rintro rfl; cases hz
      walk_at "u"
      refine ⟨_, _, _, rfl, p, n + 6 + 20 * i, t, w', W, l2, zs, rfl, rfl, rfl, B5.kp k6, by omega, hW5.kp k6, nW, l2W, nl2, k6.get0 el2, cz, hne, by omega, fun l7 ys7 H7 e7 n7 c7 cs7 t7 B7 k7 => ?_⟩
      walk_at "u"
      have k67 : Kp [p] H H7 := Kp.step (k5.trans k6.nil) k7 (by
        intro q hq
        simp only [List.mem_cons, List.not_mem_nil, or_false] at hq
        rcases hq with rfl | rfl
        · exact Or.inl (by simp)
        · exact Or.inr fl2)
      have f7 : H l7 = none := by
        rcases c7 with rfl | c7
        · exact fl2
        · exact k5.dom _ (k6.dom _ c7)
      have g7 : H7 am = some (.lst [.str m0, .str m1]) := k7.get (k6.get0 ea5) (by simp [nam, nla.symm])
      have n7a : l7 ≠ am := by
        rcases c7 with rfl | c7
        · exact nla
        · intro z
          rw [z, k6.get0 ea5] at c7
          cases c7
      exact ⟨k67, B7.more (by omega), g7, l7, ys7, _, e7, n7, n7a, f7, cs7, by omega, rfl⟩
  rintro σ H5 ⟨k5, B5, ea5, l2, zs, u5, el2, nl2, nla, fl2, cz, tz, rfl⟩
  have hb3 : tot zs ≤ 9295 := by
    have : Bn q ≤ 9295 := Bn_le (by omega)
    simp at tz
    omega
  have B5 : Box H5 p (n + 70) := B5.more (by simp; omega)
  have g0 := s0.len
  have g1 := s1.len
  clear k4 el ea4 fl2
  walk_at "u"
  refine s_join el2 ?_ ?_
  · have := sum_tot zs
    rw [sp_1.2.1]
    omega
  have cj := Cs.join cz sp_cp.2.1
  have lj : (Txt.join "\n" zs).length ≤ 9295 := by
    rw [tj]
    exact Nat.le_trans (join_tot sp_1.2.1 _) hb3
  generalize Txt.join "\n" zs = fd at *
  refine s_adds (zle (by omega)) ?_
  walk_at "u"
  refine s_adds (zle (by rw [app_len]; omega)) ?_
  have cf : Cp (m0 ++ fd ++ m1) := Cp.app (Cp.app s0.ok cj) s1.ok
  have lf : (m0 ++ fd ++ m1).length ≤ 9297 := by rw [app_len, app_len]; omega
  generalize m0 ++ fd ++ m1 = fz at *
  walk_at "s"
  refine jS (fun σ H' => Kp [p] H H' ∧ Box H' p (n + 80) ∧ ∃ (z : Str) (u8 u9 : Option V), SS z 10000 ∧ σ = [some (.ref p), some (.ref t), some (.ref l2), some (.int sg), some (.ref am), u5, some (.str z), none, u8, u9]) ?_ ?_
  · rintro σ H6 ⟨k6, B6, z, u8, u9, sz, rfl⟩
    walk_at "u"
    walk_at "na"
    intro o1 H7 f7 e7 k7
    walk_at "u"
    walk_at "na"
    intro o2 H8 f8 e8 k8
    walk_at "u"
    refine s_dnew fun o3 H9 f9 e9 k9 => ?_
    walk_at "u"
    walk_at "na"
    intro o4 H10 f10 e10 k10
    walk_at "u"
    walk_at "tk"
    intro d H11 d0 d1 B11 k11
    have e1011 := k11.get1 e10 (by walk_at "ne")
    obtain ⟨v, hv, ev⟩ := ix_mem (xs := [V.non, V.int 5, V.bl true, V.ref o1, V.ref o2, V.ref o3, V.str "", V.str "\n"]) d0 (by simpa using d1)
    refine s_ixl e1011 ev ?_
    have hv : ∀ H', Kp [p] H11 H' → Rb8 H' v := by
      have y1 : H11 o1 = some (.lst [.str z]) := by walk_at "g"
      have y2 : H11 o2 = some (.tup [.str "a"]) := by walk_at "gt"
      have y3 : H11 o3 = some (.dK []) := by walk_at "g"
      have w1 : o1 ≠ p := by walk_at "ne"
      have w3 : o3 ≠ p := by walk_at "ne"
      simp only [List.mem_cons, List.not_mem_nil, or_false] at hv
      intro H' k'
      rcases hv with rfl | rfl | rfl | rfl | rfl | rfl | rfl | rfl
      · exact Or.inl ⟨_, .non, by intro h; cases h⟩
      · exact Or.inl ⟨_, .int, by intro h; cases h⟩
      · exact Or.inl ⟨_, .bl, by intro h; cases h⟩
      · exact Or.inl ⟨_, .lst (k'.get1 y1 w1), by intro h; cases h⟩
      · exact Or.inl ⟨_, .tup (k'.tgt y2), by intro h; cases h⟩
      · exact Or.inl ⟨_, .dic (k'.get1 y3 w3), by intro h; cases h⟩
      · exact Or.inr ⟨_, rfl, SS.mk' (by decide +kernel)⟩
      · exact Or.inr ⟨_, rfl, SS.mk' (by decide +kernel)⟩
    have z11 : Kz [p] H H11 := ⟨by walk_at "k"⟩
    clear k6 k7 k8 k9 k10 k11 f7 f8 f9 f10 e7 e8 e9 e10 e1011 B6
    obtain ⟨k11⟩ := z11
    walk_at "u"
    refine s_ite (fun h => ?_) (fun h => ?_)
    · walk_at "u"
      walk_at "tk"
      intro g H12 g0 g1 B12 k12
      walk_at "u"
      refine s_ite (fun h => ?_) (fun h => ?_)
      · walk_at "u"
        exact k v H12 (hv H12 k12) (B12.more (by omega)) (by walk_at "k")
      · walk_at "u"
        exact k _ H12 (Or.inr ⟨z, rfl, sz⟩) (B12.more (by omega)) (by walk_at "k")
    · walk_at "u"
      exact k _ H11 (Or.inr ⟨z, rfl, sz⟩) (B11.more (by omega)) k11
  intro u' key
  walk_at "u"
  refine s_ite (fun h => ?_) (fun h => ?_)
  rotate_left
  · walk_at "u"
    exact key _ _ ⟨k5, B5.more (by omega), fz, _, _, ⟨by omega, cf⟩, rfl⟩
  obtain ⟨cs, rfl, ecs, lcs⟩ := S_of8 fz
  have lz := zle (n := (S cs).length) (by omega)
  have cl : ∀ c ∈ cs, c < 1114112 := by rw [ecs]; exact cf
  walk_at "u"
  refine s_lens lz ?_
  walk_at "u"
  walk_at "tk"
  intro at' H6 a0 a1 B6 k6
  walk_at "u"
  refine ⟨rfl, fun sgs lsg ssg => ?_⟩
  walk_at "u"
  refine s_adds (zle (by rw [lsg, sp_1.2.1]; omega)) ?_
  walk_at "u"
  walk_at "tk"
  intro e H7 e0 e1 B7 k7
  obtain ⟨c, hc1, hc2⟩ := at_int (xs := (sgs ++ "\n").cps.toList) e0 (by
    have : (sgs ++ "\n").cps.toList.length = (sgs ++ "\n").length := Array.length_toList
    rw [this, app_len, lsg, sp_1.2.1]; omega)
  have cc : c < 1114112 := by
    have := List.mem_of_getElem? hc1
    rw [Str.cps_append, Array.toList_append] at this
    rcases List.mem_append.mp this with h | h
    · exact ssg.ok c h
    · exact nl_ss8.1.ok c h
  refine s_ixs (zle (by rw [app_len, lsg, sp_1.2.1]; omega)) hc2 ?_
  walk_at "u"
  walk_at "tk"
  intro f H8 f0 f1 B8 k8
  have z8 : Kz [p] H H8 := ⟨by walk_at "k"⟩
  clear k8 k7 k6 k5 B7 B6 B5 ea5 el2
  obtain ⟨k8⟩ := z8
  have hf : f = 0 ∨ f = 1 := by omega
  have cpre : Cp (S (cs.take at'.toNat)) := Cp.S fun c hc => cl c (List.mem_of_mem_take hc)
  have l1 : (S (cs.take at'.toNat)).length ≤ cs.length := by rw [S_len, List.length_take]; omega
  rw [S_len] at lf
  rcases hf with rfl | rfl
  · refine s_mulS0 ?_
    walk_at "u"
    refine s_sls lz ?_
    rw [S_pre cs a0]
    walk_at "u"
    refine s_adds (zle (by have : Str.empty.length = 0 := by decide +kernel
                           omega)) ?_
    walk_at "u"
    walk_at "tk"
    intro g H9 g0 g1 B9 k9
    walk_at "u"
    refine s_sls lz ?_
    rw [S_tail cs (by omega)]
    have l2 : (S (cs.take at'.toNat)).length + (S (cs.drop (at' + g).toNat)).length ≤ cs.length := by rw [S_len, S_len, List.length_take, List.length_drop]; omega
    have l0 : Str.empty.length = 0 := by decide +kernel
    refine s_adds (zle (by rw [app_len]; omega)) ?_
    walk_at "u"
    exact key _ _ ⟨by walk_at "k", B9.more (by omega), _, _, _, ⟨by rw [app_len, app_len]; omega, (cpre.app (cp_of (by decide +kernel))).app (Cp.S fun c hc => cl c (List.mem_of_mem_drop hc))⟩, rfl⟩
  · refine s_mulS1 ?_
    walk_at "u"
    have l0 : (⟨#[c]⟩ : Str).length = 1 := rfl
    have cc1 : Cp (⟨#[c]⟩ : Str) := by
      intro d hd
      have : d = c := by simpa using hd
      omega
    refine s_sls lz ?_
    rw [S_pre cs a0]
    walk_at "u"
    refine s_adds (zle (by omega)) ?_
    walk_at "u"
    walk_at "tk"
    intro g H9 g0 g1 B9 k9
    walk_at "u"
    refine s_sls lz ?_
    rw [S_tail cs (by omega)]
    have l2 : (S (cs.take at'.toNat)).length + (S (cs.drop (at' + g).toNat)).length ≤ cs.length := by rw [S_len, S_len, List.length_take, List.length_drop]; omega
    refine s_adds (zle (by rw [app_len]; omega)) ?_
    walk_at "u"
    exact key _ _ ⟨by walk_at "k", B9.more (by omega), _, _, _, ⟨by rw [app_len, app_len]; omega, (cpre.app cc1).app (Cp.S fun c hc => cl c (List.mem_of_mem_drop hc))⟩, rfl⟩

/-! what is told can be shown -/
structure Sw (d : PyData) : Prop where
  good : U.good d
  dep : d.depth ≤ 20
  sz : U.sz d ≤ 12000000
theorem good_int8 {i : Int} (h : 0 ≤ i) (h2 : i ≤ 100000) : U.good (.int i) := Nat.lt_of_le_of_lt (show i.natAbs ≤ 1000000 by omega) (by decide +kernel)
theorem dP_ok : ∀ {pl : Pl}, (∀ q ∈ pl, SS q.1 20 ∧ 0 ≤ q.2 ∧ q.2 ≤ 100000) → goodA (dP pl) ∧ PyData.depthAll (dP pl) ≤ 5 ∧ szA (dP pl) ≤ 350 * pl.length
  | [], _ => ⟨trivial, by simp [dP, PyData.depthAll], by simp [dP, szA]⟩
  | q :: pl, h => by
    obtain ⟨a1, a2, a3⟩ := dP_ok (pl := pl) fun y hy => h y (List.mem_cons_of_mem _ hy)
    obtain ⟨s, h0, h1⟩ := h q List.mem_cons_self
    have := s.len
    refine ⟨⟨⟨fun c hc => Nat.lt_trans (s.ok c hc) (by decide), good_int8 h0 h1, trivial⟩, a1⟩, ?_, ?_⟩
    · show max (PyData.depth (.tuple [.str q.1, .int q.2])) (PyData.depthAll (dP pl)) ≤ 5
      simp only [PyData.depth, PyData.depthAll]; omega
    · show U.sz (.tuple [.str q.1, .int q.2]) + 2 + szA (dP pl) ≤ 350 * (pl.length + 1)
      simp only [U.sz, szA]; omega
theorem dL_ok : ∀ {lo : Lo}, (∀ q ∈ lo, (0 ≤ q.1 ∧ q.1 ≤ 100000) ∧ (0 ≤ q.2.1 ∧ q.2.1 ≤ 100000) ∧ 0 ≤ q.2.2 ∧ q.2.2 ≤ 100000) → goodA (dL lo) ∧ PyData.depthAll (dL lo) ≤ 5 ∧ szA (dL lo) ≤ 350 * lo.length
  | [], _ => ⟨trivial, by simp [dL, PyData.depthAll], by simp [dL, szA]⟩
  | q :: lo, h => by
    obtain ⟨a1, a2, a3⟩ := dL_ok (lo := lo) fun y hy => h y (List.mem_cons_of_mem _ hy)
    obtain ⟨⟨x0, x1⟩, ⟨y0, y1⟩, z0, z1⟩ := h q List.mem_cons_self
    refine ⟨⟨⟨good_int8 x0 x1, good_int8 y0 y1, good_int8 z0 z1, trivial⟩, a1⟩, ?_, ?_⟩
    · show max (PyData.depth (.tuple [.int q.1, .int q.2.1, .int q.2.2])) (PyData.depthAll (dL lo)) ≤ 5
      simp only [PyData.depth, PyData.depthAll]; omega
    · show U.sz (.tuple [.int q.1, .int q.2.1, .int q.2.2]) + 2 + szA (dL lo) ≤ 350 * (lo.length + 1)
      simp only [U.sz, szA]; omega
theorem Sw.str {z : Str} (h : SS z 20) : Sw (.str z) := ⟨fun c hc => Nat.lt_trans (h.ok c hc) (by decide), by simp [PyData.depth], by have := h.len; simp only [U.sz]; omega⟩
theorem Sw.int {i : Int} (h0 : 0 ≤ i) (h1 : i ≤ 100000) : Sw (.int i) := ⟨good_int8 h0 h1, by simp [PyData.depth], by simp only [U.sz]; omega⟩
theorem Sw.pls {pl : Pl} (h : ∀ q ∈ pl, SS q.1 20 ∧ 0 ≤ q.2 ∧ q.2 ≤ 100000) (l : pl.length ≤ 10001) : Sw (.list (dP pl)) ∧ Sw (.tuple (dP pl)) := by
  obtain ⟨a1, a2, a3⟩ := dP_ok h
  exact ⟨⟨a1, by simp only [PyData.depth]; omega, by simp only [U.sz]; omega⟩, ⟨a1, by simp only [PyData.depth]; omega, by simp only [U.sz]; omega⟩⟩
theorem Sw.los {lo : Lo} (h : ∀ q ∈ lo, (0 ≤ q.1 ∧ q.1 ≤ 100000) ∧ (0 ≤ q.2.1 ∧ q.2.1 ≤ 100000) ∧ 0 ≤ q.2.2 ∧ q.2.2 ≤ 100000) (l : lo.length ≤ 10001) : Sw (.list (dL lo)) ∧ Sw (.tuple (dL lo)) := by
  obtain ⟨a1, a2, a3⟩ := dL_ok h
  exact ⟨⟨a1, by simp only [PyData.depth]; omega, by simp only [U.sz]; omega⟩, ⟨a1, by simp only [PyData.depth]; omega, by simp only [U.sz]; omega⟩⟩
theorem goPp_sw : ∀ {pl : Pl} {ns : List Str} {c : Str} {d : PyData}, (∀ q ∈ pl, SS q.1 20 ∧ 0 ≤ q.2 ∧ q.2 ≤ 100000) → goPp ns pl = some (c, d) → SS c 20 ∧ Sw d
  | [], ns, c, d, _, h => by cases h
  | q :: pl, ns, c, d, hq, h => by
    obtain ⟨s, h0, h1⟩ := hq q List.mem_cons_self
    simp only [goPp] at h
    split at h
    · cases h; exact ⟨SS.mk' (by decide +kernel), .str s⟩
    · split at h
      · exact goPp_sw (fun x hx => hq x (List.mem_cons_of_mem _ hx)) h
      · cases h; exact ⟨SS.mk' (by decide +kernel), .int h0 h1⟩
theorem goLp_sw {high : Int} : ∀ {lo : Lo} {low : Int} {c : Str} {d : PyData}, (∀ q ∈ lo, (0 ≤ q.1 ∧ q.1 ≤ 100000) ∧ (0 ≤ q.2.1 ∧ q.2.1 ≤ 100000) ∧ 0 ≤ q.2.2 ∧ q.2.2 ≤ 100000) → goLp high low lo = some (c, d) → SS c 20 ∧ Sw d
  | [], low, c, d, _, h => by cases h
  | q :: lo, low, c, d, hq, h => by
    simp only [goLp] at h
    split at h
    · exact goLp_sw (fun x hx => hq x (List.mem_cons_of_mem _ hx)) h
    · cases h
      obtain ⟨a1, a2, a3⟩ := dL_ok (lo := [q]) fun x hx => hq x (by rw [List.mem_singleton.mp hx]; exact List.mem_cons_self)
      refine ⟨SS.mk' (by decide +kernel), a1.1, ?_, ?_⟩
      · have : max (PyData.depth (.tuple [.int q.1, .int q.2.1, .int q.2.2])) (PyData.depthAll []) ≤ 5 := a2
        omega
      · have : U.sz (.tuple [.int q.1, .int q.2.1, .int q.2.2]) + 2 + szA [] ≤ 350 * [q].length := a3
        simp only [List.length_cons, List.length_nil] at this
        omega
theorem badN_mem {ns : List Str} {z : Str} : ∀ {l : Ln8}, badN ns l = some z → ∃ q ∈ l, z = q.1 ∨ z = q.2.1
  | [], h => by cases h
  | q :: l, h => by
    simp only [badN] at h
    split at h
    · split at h
      · obtain ⟨x, hx, e⟩ := badN_mem h
        exact ⟨x, List.mem_cons_of_mem _ hx, e⟩
      · cases h; exact ⟨q, List.mem_cons_self, Or.inr rfl⟩
    · cases h; exact ⟨q, List.mem_cons_self, Or.inl rfl⟩
theorem fl_nm {rs : List R8} (h : ∀ r ∈ rs, ok8 r) : ∀ q ∈ rs.filterMap fl, SS q.1 20 ∧ SS q.2.1 20 := by
  intro q hq
  obtain ⟨r, hr, e⟩ := List.mem_filterMap.mp hq
  cases r with
  | p n d => cases e
  | s k g => cases e
  | l a b g => cases e; obtain ⟨h1, h2, _⟩ := h _ hr; exact ⟨(name_ss h1).mono (by omega), (name_ss h2).mono (by omega)⟩
theorem inK_ss {z : Str} (h : inK z = true) : SS z 20 := by
  have h := of_decide_eq_true h
  simp only [List.mem_cons, List.not_mem_nil, or_false] at h
  rcases h with rfl | rfl <;> exact SS.mk' (by decide +kernel)
theorem out8_sw {rs : List R8} (h : ∀ r ∈ rs, ok8 r) (l : rs.length ≤ 10001) : SS (out8 rs).1 20 ∧ Sw (out8 rs).2 := by
  have hp : ∀ q ∈ pl8 rs, SS q.1 20 ∧ 0 ≤ q.2 ∧ q.2 ≤ 100000 := fun q hq => by
    obtain ⟨a, b, c⟩ := fp_ok h q hq
    exact ⟨(name_ss a).mono (by omega), b, by omega⟩
  have hs : ∀ q ∈ st8 rs, SS q.1 20 ∧ 0 ≤ q.2 ∧ q.2 ≤ 100000 := fun q hq => by
    obtain ⟨a, b, c⟩ := fs_ok h q hq
    exact ⟨inK_ss a, b, by omega⟩
  have lp : (pl8 rs).length ≤ 10001 := f_le fp l
  have lS : (st8 rs).length ≤ 10001 := f_le fs l
  have ll : (ln8 rs).length ≤ 10001 := f_le fl l
  have lnm : (nm8 rs).length = (pl8 rs).length := List.length_map ..
  have hl : ∀ q ∈ lo8 (nm8 rs) (ln8 rs), (0 ≤ q.1 ∧ q.1 ≤ 100000) ∧ (0 ≤ q.2.1 ∧ q.2.1 ≤ 100000) ∧ 0 ≤ q.2.2 ∧ q.2.2 ≤ 100000 := fun q hq => by
    obtain ⟨a, b, c⟩ := lo8_ok (n := 100000) (by omega) (fl_ok rs) q hq
    exact ⟨by omega, by omega, by omega⟩
  have llo : (lo8 (nm8 rs) (ln8 rs)).length ≤ 10001 := by rw [lo8, List.length_map]; exact ll
  cases e0 : due0 (pl8 rs) (st8 rs) with
  | some e =>
    rw [out_0 e0]
    unfold due0 at e0
    cases e1 : pDue (pl8 rs) with
    | some e' =>
      rw [e1] at e0
      cases e0
      unfold pDue at e1
      split at e1
      · exact goPp_sw hp e1
      · cases e1; exact ⟨show SS ("places" : Str) 20 from SS.mk' (by decide +kernel), (Sw.pls hp lp).1⟩
    | none =>
      rw [e1] at e0
      simp only at e0
      unfold sDue at e0
      split at e0
      · cases e0
      · cases e0; exact ⟨show SS ("stretches" : Str) 20 from SS.mk' (by decide +kernel), (Sw.pls hs lS).1⟩
  | none =>
    cases e1 : badN (nm8 rs) (ln8 rs) with
    | some z =>
      rw [out_1 e0 e1]
      refine ⟨show SS ("place" : Str) 20 from SS.mk' (by decide +kernel), .str ?_⟩
      obtain ⟨q, hq, e⟩ := badN_mem e1
      obtain ⟨a, b⟩ := fl_nm h q hq
      rcases e with rfl | rfl
      · exact a
      · exact b
    | none =>
      cases e2 : lDue (lo8 (nm8 rs) (ln8 rs)) ((pl8 rs).length : Int) with
      | some e =>
        rw [out_2 e0 e1 e2]
        unfold lDue at e2
        split at e2
        · exact goLp_sw hl e2
        · cases e2; exact ⟨show SS ("longs" : Str) 20 from SS.mk' (by decide +kernel), (Sw.los hl llo).1⟩
      | none =>
        rw [out_3 e0 e1 e2]
        obtain ⟨a1, a2, a3⟩ := dP_ok hp
        obtain ⟨b1, b2, b3⟩ := dP_ok hs
        obtain ⟨c1, c2, c3⟩ := dL_ok hl
        refine ⟨show SS ("told" : Str) 20 from SS.mk' (by decide +kernel), ⟨a1, b1, c1, trivial⟩, ?_, ?_⟩
        · simp only [PyData.depth, PyData.depthAll]; omega
        · simp only [U.sz, szA]; omega
/-- of a thing: what is told, whoever reads it -/
def An8 (K : PySem.W.Frag) (H : Hp) (x : V) : Prop := ∃ d : PyData, ∀ (H1 : Hp) (Q : VK), Kp [] H H1 → (∀ u H', Sh K H' u d → Kp [] H1 H' → Q u H') → SpR K x H1 Q
theorem sh_pair {H : Hp} {u : Addr} {c : Str} {w : V} {d : PyData} (e : H u = some (.tup [.str c, w])) (s : SS c 20) (g : Sw d) (h : Dn K H w d) : Sh K H (.ref u) (.tuple [.str c, d]) := by
  have := s.len
  have := g.dep
  have := g.sz
  refine ⟨.tup (SqT.of e) (.cons (.str _) (.cons h .nil)), ⟨fun c hc => Nat.lt_trans (s.ok c hc) (by decide), g.good, trivial⟩, ?_, ?_⟩
  · simp only [PyData.depth, PyData.depthAll]; omega
  · simp only [U.sz, szA]; omega
theorem Rb8.an {H : Hp} {x : V} (h : Rb8 H x) : An8 K H x := by
  rcases h with ⟨t, ht, hn⟩ | ⟨z, rfl, hz⟩
  · exact ⟨.tuple [.str "text", .int 0], fun H1 Q k1 q => Or.inl ⟨t, ht.kp k1, hn, fun u H' e k => q _ H' (sh_pair e (SS.mk' (by decide +kernel)) (.int (by omega) (by omega)) (.int 0)) k⟩⟩
  · have hl := rws_len hz
    cases e : sc [] 0 (rws z) with
    | inl i =>
      have hi : ∀ (rows : List Str) (acc : List R8) (j : Nat), sc acc j rows = .inl i → i ≤ j + rows.length := by
        intro rows
        induction rows with
        | nil => intro acc j h; cases h
        | cons r rows ih =>
          intro acc j h
          cases e : pr (wsp r) with
          | none => rw [sc_no e] at h; cases h; simp
          | some q =>
            by_cases l : la8 acc ≤ so8 q
            · rw [sc_go e l] at h
              have := ih _ _ h
              simp only [List.length_cons]
              omega
            · rw [sc_lt e l] at h; cases h; simp
      have := hi _ _ _ e
      refine ⟨.tuple [.str "text", .int (1 + (i : Int))], fun H1 Q k1 q => Or.inr ⟨z, rfl, hz, fun j hj u H' eu k => ?_, fun rs er => by rw [e] at er; cases er⟩⟩
      rw [e] at hj
      cases hj
      exact q _ H' (sh_pair eu (SS.mk' (by decide +kernel)) (.int (by omega) (by omega)) (.int _)) k
    | inr rs =>
      obtain ⟨hok, lrs⟩ := sc_ok e (by simp)
      have lrs : rs.length ≤ 10001 := by simp at lrs; omega
      obtain ⟨s1, s2⟩ := out8_sw hok lrs
      refine ⟨.tuple [.str (out8 rs).1, (out8 rs).2], fun H1 Q k1 q => Or.inr ⟨z, rfl, hz, fun j hj => (by rw [e] at hj; cases hj), fun rs' er u c w d H' eo eu hd k => ?_⟩⟩
      rw [e] at er
      cases er
      rw [eo] at s1 s2 q
      exact q _ H' (sh_pair eu s1 s2 hd) k
def sp_law (K : PySem.W.Frag) : Sp := sp1 fun x H Q _ => ∃ (a : Addr) (ns : List Int), x = .ref a ∧ SqL K H a (ns.map V.int) ∧ ns.length ≤ 63 ∧ ∀ H', Q (.bl true) H'
set_option maxHeartbeats 16000000 in
theorem ok_law (T : Tx K mg) (hs : ∃ mm, base.Ns sysModules mm) : FnG P w K mg base (L2.CX P w) 8 T.a_law T.d_law ["_law_script"] (sp_law K) := by
  have G_law_box := ok_law_box (P := P) (w := w) (base := base) T
  have G_law_world := ok_law_world (P := P) (w := w) (base := base) T
  have G_law_cell := ok_law_cell (P := P) (w := w) (base := base) T
  have G_law_text := ok_law_text (P := P) (w := w) (base := base) T
  have G_law_read := ok_law_read (P := P) (w := w) (base := base) T
  have G_law_caught := ok_law_caught (P := P) (w := w) (base := base) T
  refine okG T.F_law sc_law (fun vs H Q E h => ?_) (fun cd A o s H vs Q E hg hr h => ?_)
  · obtain ⟨v0, rfl, h⟩ := h; rfl
  obtain ⟨v0, rfl, h⟩ := h
  obtain ⟨a, ns, rfl, hS, hl63, k⟩ := h
  refine ⟨_, (pss_cons (ps_for PassesOwn.leaving rfl (pi_range1 rfl T.z_range (pa_cons (pe_callB (c_max rfl) rfl T.z_max bt_max (pa_cons pe_int (pa_cons (pe_callB (c_min rfl) rfl T.z_min bt_min (pa_cons pe_int (pa_cons (pe_callB (c_len (K := K) rfl) rfl T.z_len bt_len (pa_cons (pv 0) pa_nil)) pa_nil))) pa_nil))) pa_nil)) (pg_name (i := 1) sc_law.nd rfl (Or.inl rfl))
    (pss_cons (ps_set (i := 2) sc_law.nd rfl (Or.inl rfl) (pe_co G_law_box (hr.mono (by decide)) rfl T.m_law_box T.F_law_box.kp T.B_law_box (takes_of (E := E) rfl rfl rfl rfl) (pa_cons (pe_co G_law_cell (hr.mono (by decide)) rfl T.m_law_cell T.F_law_cell.kp T.B_law_cell (takes_of (E := E) rfl rfl rfl rfl) (pa_cons (pv 0) (pa_cons (pv 1) pa_nil))) pa_nil)))
    (pss_cons (ps_set (i := 3) sc_law.nd rfl (Or.inl rfl) (pe_co G_law_world (hr.mono (by decide)) rfl T.m_law_world T.F_law_world.kp T.B_law_world (takes_of (E := E) rfl rfl rfl rfl) (pa_cons (pv 2) pa_nil)))
    (pss_one (ps_for PassesOwn.leaving rfl (pi_range1 rfl T.z_range (pa_cons pe_int pa_nil)) (pg_name (i := 4) sc_law.nd rfl (Or.inl rfl))
    (pss_cons (ps_set (i := 5) sc_law.nd rfl (Or.inl rfl) (pe_co G_law_text (hr.mono (by decide)) rfl T.m_law_text T.F_law_text.kp T.B_law_text (takes_of (E := E) rfl rfl rfl rfl) (pa_cons (pv 2) (pa_cons (pv 3) pa_nil))))
    (pss_cons (ps_set (i := 6) sc_law.nd rfl (Or.inl rfl) (pe_co G_law_read (hr.mono (by decide)) rfl T.m_law_read T.F_law_read.kp T.B_law_read (takes_of (E := E) rfl rfl rfl rfl) (pa_cons (pv 5) pa_nil)))
    (pss_one (ps_if (PW.pt (pw_or (pt_cmpR (o_ne (K := K) rfl hr) (pe_callB (c_repr (K := K) rfl hg hr hs) rfl T.z_repr bt_repr (pa_cons (pe_co G_law_caught (hr.mono (by decide)) rfl T.m_law_caught T.F_law_caught.kp T.B_law_caught (takes_of (E := E) rfl rfl rfl rfl) (pa_cons (pv 5) pa_nil)) pa_nil)) (pe_callB (c_repr (K := K) rfl hg hr hs) rfl T.z_repr bt_repr (pa_cons (pv 6) pa_nil)) (nomark _)) (pw_or1 (pt_cmpR (o_ne (K := K) rfl hr) (pe_callB (c_repr (K := K) rfl hg hr hs) rfl T.z_repr bt_repr (pa_cons (pe_co G_law_caught (hr.mono (by decide)) rfl T.m_law_caught T.F_law_caught.kp T.B_law_caught (takes_of (E := E) rfl rfl rfl rfl) (pa_cons (pv 5) pa_nil)) pa_nil)) (pe_callB (c_repr (K := K) rfl hg hr hs) rfl T.z_repr bt_repr (pa_cons (pv 6) pa_nil)) (nomark _)))))
    (pss_one (ps_ret pe_bl))
    pss_nil)))))))))
    (pss_one (ps_ret pe_bl))), ?_⟩
  rw [st_law]
  walk_at "u"
  refine s_lenL hS ?_
  walk_at "u"
  rw [List.length_map]
  obtain ⟨j, ej, hj2, hj⟩ := many_j ns.length 2 10 (by omega) (by omega)
  rw [ej]
  refine s_rng (by omega) (by omega) ?_
  refine for_R (fun i σ H' => Kp [] H H' ∧ ∃ u1 u2 u3 u4 u5 u6, σ = [some (.ref a), u1, u2, u3, u4, u5, u6]) ⟨Kp.refl, _, _, _, _, _, _, rfl⟩ ?_ ?_
  · rintro i σ H2 hi ⟨z2, u1, u2, u3, u4, u5, u6, rfl⟩
    walk_at "u"
    walk_at "cl"
    intro q0
    walk_at "u"
    refine c_box fun p H3 f3 k3 B3 => ?_
    walk_at "u"
    refine ⟨_, rfl, p, 0, rfl, B3, by omega, fun t a1 a2 a3 w' vp vs vl zz H4 ft et f1 e1 f2 e2 f3' e3 n12 n13 n23 nt1 nt2 nt3 R1 R2 R3 gW hzz szz nzz B4 k4 => ?_⟩
    have th := B3.th
    have np : p ∉ [t, a1, a2, a3] := by
      intro m
      simp only [List.mem_cons, List.not_mem_nil, or_false] at m
      rcases m with rfl | rfl | rfl | rfl
      · exact th.ne ft rfl
      · exact th.ne f1 rfl
      · exact th.ne f2 rfl
      · exact th.ne f3' rfl
    have hW4 : Wv H4 t w' [t, a1, a2, a3] := ⟨⟨a1, a2, a3, vp, vs, vl, zz, rfl, et, e1, e2, e3, R1, R2, R3, name_ss hzz⟩, gW⟩
    generalize [t, a1, a2, a3] = W at *
    have z24 : Kp [p] H2 H4 := k3.nil.trans k4
    clear et e1 e2 e3 R1 R2 R3 k3 k4
    walk_at "u"
    refine s_rng (by omega) (by omega) ?_
    refine for_R (fun i' σ H' => Kp [p] H4 H' ∧ Box H' p (60 + 100 * i') ∧ ∃ u4 u5 u6, σ = [some (.ref a), some (.int (0 + (i : Int))), some (.ref p), some (.ref t), u4, u5, u6]) ⟨Kp.refl, B4.more (by omega), _, _, _, rfl⟩ ?_ ?_
    · rintro i' σ H5 hi' ⟨k5, B5, u4, u5, u6, rfl⟩
      have hi' : i' < 3 := by simpa using hi'
      walk_at "u"
      refine ⟨_, _, rfl, p, 60 + 100 * i', t, w', W, rfl, rfl, B5, by omega, hW4.kp1 k5 np, np, fun v H6 hv B6 k6 => ?_⟩
      obtain ⟨d, an⟩ := hv.an (K := K)
      walk_at "u"
      refine ⟨_, rfl, an H6 _ Kp.refl fun u H7 s7 k7 => ?_⟩
      walk_at "u"
      refine ⟨_, rfl, an H7 _ k7 fun u2 H8 s8 k8 => ?_⟩
      walk_at "u"
      refine s_rep s8 ?_
      walk_at "u"
      refine s_rep (s7.kp k8) ?_
      walk_at "u"
      rw [decide_eq_true rfl]
      walk_at "u"
      refine ⟨_, rfl, an H8 _ (k7.trans k8) fun u3 H9 s9 k9 => ?_⟩
      walk_at "u"
      refine s_rep s9 ?_
      walk_at "u"
      refine s_rep ((s7.kp k8).kp k9) ?_
      walk_at "u"
      rw [decide_eq_true rfl]
      walk_at "u"
      exact ⟨k5.trans (k6.trans ((k7.trans k8).trans k9).nil), (((B6.kp k7).kp k8).kp k9).more (by omega), _, _, _, rfl⟩
    · rintro σ H5 ⟨k5, B5, u4, u5, u6, rfl⟩
      walk_at "u"
      exact ⟨z2.trans (Kp.step Kp.refl (z24.trans k5) (by intro q hq; rw [List.mem_singleton.mp hq]; exact Or.inr f3)), _, _, _, _, _, _, rfl⟩
  · rintro σ H2 ⟨z2, u1, u2, u3, u4, u5, u6, rfl⟩
    walk_at "u"
    exact k _

theorem all_mk {l : PySem.W.OpenLaw} {w : World} {K : PySem.W.Frag} {h : Heap} {mg : Str → Option Value} {fa : Addr} (X : K.In h) (G : h.Ns mainGlobals mg) (hfa : mg "law" = some (.ref fa))
    {C_Line : Addr} (n_Line : PySem.W.nsIn K mainGlobals "Line" = some (some (.ref C_Line)))
    {C_NoName : Addr} (n_NoName : PySem.W.nsIn K mainGlobals "NoName" = some (some (.ref C_NoName)))
    {C_NoPlace : Addr} (n_NoPlace : PySem.W.nsIn K mainGlobals "NoPlace" = some (some (.ref C_NoPlace)))
    {C_NoPlaces : Addr} (n_NoPlaces : PySem.W.nsIn K mainGlobals "NoPlaces" = some (some (.ref C_NoPlaces)))
    {C_NoStretches : Addr} (n_NoStretches : PySem.W.nsIn K mainGlobals "NoStretches" = some (some (.ref C_NoStretches)))
    {C_NoLongs : Addr} (n_NoLongs : PySem.W.nsIn K mainGlobals "NoLongs" = some (some (.ref C_NoLongs)))
    {C_NoNumber : Addr} (n_NoNumber : PySem.W.nsIn K mainGlobals "NoNumber" = some (some (.ref C_NoNumber)))
    {C_Twice : Addr} (n_Twice : PySem.W.nsIn K mainGlobals "Twice" = some (some (.ref C_Twice)))
    {C_NoText : Addr} (n_NoText : PySem.W.nsIn K mainGlobals "NoText" = some (some (.ref C_NoText)))
    {C_StaffError : Addr} (n_StaffError : PySem.W.nsIn K mainGlobals "StaffError" = some (some (.ref C_StaffError)))
    {f1 : Addr} {od1 an1 : Option Addr} {sl1 : Array (Option Value)} {oc1 kV1 dc1 pm1 cd1 ct1 : Value}
    (a1 : PySem.W.findIn K (.ref C_NoName) "__init__" = some (some (.ref f1)))
    (l1 : K.lookup f1 = some ⟨oc1, od1, .func (PySem.W.fnOf "__init__" "NoName.__init__" (defArgs s_NoName_init) (defBody s_NoName_init) (defScope s_NoName_init) .none kV1 dc1 pm1 an1 cd1 ct1), sl1⟩) (c1 : PySem.W.codeIn K cd1 "NoName.__init__" = true) (k1 : PySem.W.keepIn K (.ref f1) = true)
    {f2 : Addr} {od2 an2 : Option Addr} {sl2 : Array (Option Value)} {oc2 kV2 dc2 pm2 cd2 ct2 : Value}
    (a2 : PySem.W.findIn K (.ref C_NoPlace) "__init__" = some (some (.ref f2)))
    (l2 : K.lookup f2 = some ⟨oc2, od2, .func (PySem.W.fnOf "__init__" "NoPlace.__init__" (defArgs s_NoPlace_init) (defBody s_NoPlace_init) (defScope s_NoPlace_init) .none kV2 dc2 pm2 an2 cd2 ct2), sl2⟩) (c2 : PySem.W.codeIn K cd2 "NoPlace.__init__" = true) (k2 : PySem.W.keepIn K (.ref f2) = true)
    {f3 : Addr} {od3 an3 : Option Addr} {sl3 : Array (Option Value)} {oc3 kV3 dc3 pm3 cd3 ct3 : Value}
    (a3 : PySem.W.findIn K (.ref C_NoPlaces) "__init__" = some (some (.ref f3)))
    (l3 : K.lookup f3 = some ⟨oc3, od3, .func (PySem.W.fnOf "__init__" "NoPlaces.__init__" (defArgs s_NoPlaces_init) (defBody s_NoPlaces_init) (defScope s_NoPlaces_init) .none kV3 dc3 pm3 an3 cd3 ct3), sl3⟩) (c3 : PySem.W.codeIn K cd3 "NoPlaces.__init__" = true) (k3 : PySem.W.keepIn K (.ref f3) = true)
    {f4 : Addr} {od4 an4 : Option Addr} {sl4 : Array (Option Value)} {oc4 kV4 dc4 pm4 cd4 ct4 : Value}
    (a4 : PySem.W.findIn K (.ref C_NoStretches) "__init__" = some (some (.ref f4)))
    (l4 : K.lookup f4 = some ⟨oc4, od4, .func (PySem.W.fnOf "__init__" "NoStretches.__init__" (defArgs s_NoStretches_init) (defBody s_NoStretches_init) (defScope s_NoStretches_init) .none kV4 dc4 pm4 an4 cd4 ct4), sl4⟩) (c4 : PySem.W.codeIn K cd4 "NoStretches.__init__" = true) (k4 : PySem.W.keepIn K (.ref f4) = true)
    {f5 : Addr} {od5 an5 : Option Addr} {sl5 : Array (Option Value)} {oc5 kV5 dc5 pm5 cd5 ct5 : Value}
    (a5 : PySem.W.findIn K (.ref C_NoLongs) "__init__" = some (some (.ref f5)))
    (l5 : K.lookup f5 = some ⟨oc5, od5, .func (PySem.W.fnOf "__init__" "NoLongs.__init__" (defArgs s_NoLongs_init) (defBody s_NoLongs_init) (defScope s_NoLongs_init) .none kV5 dc5 pm5 an5 cd5 ct5), sl5⟩) (c5 : PySem.W.codeIn K cd5 "NoLongs.__init__" = true) (k5 : PySem.W.keepIn K (.ref f5) = true)
    {f6 : Addr} {od6 an6 : Option Addr} {sl6 : Array (Option Value)} {oc6 kV6 dc6 pm6 cd6 ct6 : Value}
    (a6 : PySem.W.findIn K (.ref C_NoNumber) "__init__" = some (some (.ref f6)))
    (l6 : K.lookup f6 = some ⟨oc6, od6, .func (PySem.W.fnOf "__init__" "NoNumber.__init__" (defArgs s_NoNumber_init) (defBody s_NoNumber_init) (defScope s_NoNumber_init) .none kV6 dc6 pm6 an6 cd6 ct6), sl6⟩) (c6 : PySem.W.codeIn K cd6 "NoNumber.__init__" = true) (k6 : PySem.W.keepIn K (.ref f6) = true)
    {f7 : Addr} {od7 an7 : Option Addr} {sl7 : Array (Option Value)} {oc7 kV7 dc7 pm7 cd7 ct7 : Value}
    (a7 : PySem.W.findIn K (.ref C_Twice) "__init__" = some (some (.ref f7)))
    (l7 : K.lookup f7 = some ⟨oc7, od7, .func (PySem.W.fnOf "__init__" "Twice.__init__" (defArgs s_Twice_init) (defBody s_Twice_init) (defScope s_Twice_init) .none kV7 dc7 pm7 an7 cd7 ct7), sl7⟩) (c7 : PySem.W.codeIn K cd7 "Twice.__init__" = true) (k7 : PySem.W.keepIn K (.ref f7) = true)
    {f8 : Addr} {od8 an8 : Option Addr} {sl8 : Array (Option Value)} {oc8 kV8 dc8 pm8 cd8 ct8 : Value}
    (a8 : PySem.W.findIn K (.ref C_NoText) "__init__" = some (some (.ref f8)))
    (l8 : K.lookup f8 = some ⟨oc8, od8, .func (PySem.W.fnOf "__init__" "NoText.__init__" (defArgs s_NoText_init) (defBody s_NoText_init) (defScope s_NoText_init) .none kV8 dc8 pm8 an8 cd8 ct8), sl8⟩) (c8 : PySem.W.codeIn K cd8 "NoText.__init__" = true) (k8 : PySem.W.keepIn K (.ref f8) = true)
    {f9 : Addr} {od9 an9 : Option Addr} {sl9 : Array (Option Value)} {oc9 kV9 dc9 pm9 cd9 ct9 : Value}
    (a9 : PySem.W.nsIn K mainGlobals "is_whole" = some (some (.ref f9)))
    (l9 : K.lookup f9 = some ⟨oc9, od9, .func (PySem.W.fnOf "is_whole" "is_whole" (defArgs s_is_whole) (defBody s_is_whole) (defScope s_is_whole) .none kV9 dc9 pm9 an9 cd9 ct9), sl9⟩) (c9 : PySem.W.codeIn K cd9 "is_whole" = true) (k9 : PySem.W.keepIn K (.ref f9) = true)
    {f10 : Addr} {od10 an10 : Option Addr} {sl10 : Array (Option Value)} {oc10 kV10 dc10 pm10 cd10 ct10 : Value}
    (a10 : PySem.W.nsIn K mainGlobals "is_name" = some (some (.ref f10)))
    (l10 : K.lookup f10 = some ⟨oc10, od10, .func (PySem.W.fnOf "is_name" "is_name" (defArgs s_is_name) (defBody s_is_name) (defScope s_is_name) .none kV10 dc10 pm10 an10 cd10 ct10), sl10⟩) (c10 : PySem.W.codeIn K cd10 "is_name" = true) (k10 : PySem.W.keepIn K (.ref f10) = true)
    {f11 : Addr} {od11 an11 : Option Addr} {sl11 : Array (Option Value)} {oc11 kV11 dc11 pm11 cd11 ct11 : Value}
    (a11 : PySem.W.nsIn K mainGlobals "is_row" = some (some (.ref f11)))
    (l11 : K.lookup f11 = some ⟨oc11, od11, .func (PySem.W.fnOf "is_row" "is_row" (defArgs s_is_row) (defBody s_is_row) (defScope s_is_row) .none kV11 dc11 pm11 an11 cd11 ct11), sl11⟩) (c11 : PySem.W.codeIn K cd11 "is_row" = true) (k11 : PySem.W.keepIn K (.ref f11) = true)
    {f12 : Addr} {od12 an12 : Option Addr} {sl12 : Array (Option Value)} {oc12 kV12 dc12 pm12 cd12 ct12 : Value}
    (a12 : PySem.W.nsIn K mainGlobals "good_places" = some (some (.ref f12)))
    (l12 : K.lookup f12 = some ⟨oc12, od12, .func (PySem.W.fnOf "good_places" "good_places" (defArgs s_good_places) (defBody s_good_places) (defScope s_good_places) .none kV12 dc12 pm12 an12 cd12 ct12), sl12⟩) (c12 : PySem.W.codeIn K cd12 "good_places" = true) (k12 : PySem.W.keepIn K (.ref f12) = true)
    {f13 : Addr} {od13 an13 : Option Addr} {sl13 : Array (Option Value)} {oc13 kV13 dc13 pm13 cd13 ct13 : Value}
    (a13 : PySem.W.nsIn K mainGlobals "is_stretch" = some (some (.ref f13)))
    (l13 : K.lookup f13 = some ⟨oc13, od13, .func (PySem.W.fnOf "is_stretch" "is_stretch" (defArgs s_is_stretch) (defBody s_is_stretch) (defScope s_is_stretch) .none kV13 dc13 pm13 an13 cd13 ct13), sl13⟩) (c13 : PySem.W.codeIn K cd13 "is_stretch" = true) (k13 : PySem.W.keepIn K (.ref f13) = true)
    {f14 : Addr} {od14 an14 : Option Addr} {sl14 : Array (Option Value)} {oc14 kV14 dc14 pm14 cd14 ct14 : Value}
    (a14 : PySem.W.nsIn K mainGlobals "good_stretches" = some (some (.ref f14)))
    (l14 : K.lookup f14 = some ⟨oc14, od14, .func (PySem.W.fnOf "good_stretches" "good_stretches" (defArgs s_good_stretches) (defBody s_good_stretches) (defScope s_good_stretches) .none kV14 dc14 pm14 an14 cd14 ct14), sl14⟩) (c14 : PySem.W.codeIn K cd14 "good_stretches" = true) (k14 : PySem.W.keepIn K (.ref f14) = true)
    {f15 : Addr} {od15 an15 : Option Addr} {sl15 : Array (Option Value)} {oc15 kV15 dc15 pm15 cd15 ct15 : Value}
    (a15 : PySem.W.nsIn K mainGlobals "is_long" = some (some (.ref f15)))
    (l15 : K.lookup f15 = some ⟨oc15, od15, .func (PySem.W.fnOf "is_long" "is_long" (defArgs s_is_long) (defBody s_is_long) (defScope s_is_long) .none kV15 dc15 pm15 an15 cd15 ct15), sl15⟩) (c15 : PySem.W.codeIn K cd15 "is_long" = true) (k15 : PySem.W.keepIn K (.ref f15) = true)
    {f16 : Addr} {od16 an16 : Option Addr} {sl16 : Array (Option Value)} {oc16 kV16 dc16 pm16 cd16 ct16 : Value}
    (a16 : PySem.W.nsIn K mainGlobals "good_longs" = some (some (.ref f16)))
    (l16 : K.lookup f16 = some ⟨oc16, od16, .func (PySem.W.fnOf "good_longs" "good_longs" (defArgs s_good_longs) (defBody s_good_longs) (defScope s_good_longs) .none kV16 dc16 pm16 an16 cd16 ct16), sl16⟩) (c16 : PySem.W.codeIn K cd16 "good_longs" = true) (k16 : PySem.W.keepIn K (.ref f16) = true)
    {f17 : Addr} {od17 an17 : Option Addr} {sl17 : Array (Option Value)} {oc17 kV17 dc17 pm17 cd17 ct17 : Value}
    (a17 : PySem.W.findIn K (.ref C_Line) "__init__" = some (some (.ref f17)))
    {T17 : Addr} {oT17 : Obj} {nT17 : Nat}
    (l17 : K.lookup f17 = some ⟨oc17, od17, .func (PySem.W.fnOf "__init__" "Line.__init__" (defArgs s_Line_init) (defBody s_Line_init) (defScope s_Line_init) (.ref T17) kV17 dc17 pm17 an17 cd17 ct17), sl17⟩) (c17 : PySem.W.codeIn K cd17 "Line.__init__" = true) (k17 : PySem.W.keepIn K (.ref f17) = true)
    (lT17 : K.lookup T17 = some oT17) (dT17 : oT17.data = .seq #[Value.none] nT17)
    {f18 : Addr} {od18 an18 : Option Addr} {sl18 : Array (Option Value)} {oc18 kV18 dc18 pm18 cd18 ct18 : Value}
    (a18 : PySem.W.findIn K (.ref C_Line) "names" = some (some (.ref f18)))
    (l18 : K.lookup f18 = some ⟨oc18, od18, .func (PySem.W.fnOf "names" "Line.names" (defArgs s_Line_names) (defBody s_Line_names) (defScope s_Line_names) .none kV18 dc18 pm18 an18 cd18 ct18), sl18⟩) (c18 : PySem.W.codeIn K cd18 "Line.names" = true) (k18 : PySem.W.keepIn K (.ref f18) = true)
    {f19 : Addr} {od19 an19 : Option Addr} {sl19 : Array (Option Value)} {oc19 kV19 dc19 pm19 cd19 ct19 : Value}
    (a19 : PySem.W.findIn K (.ref C_Line) "number_of" = some (some (.ref f19)))
    (l19 : K.lookup f19 = some ⟨oc19, od19, .func (PySem.W.fnOf "number_of" "Line.number_of" (defArgs s_Line_number_of) (defBody s_Line_number_of) (defScope s_Line_number_of) .none kV19 dc19 pm19 an19 cd19 ct19), sl19⟩) (c19 : PySem.W.codeIn K cd19 "Line.number_of" = true) (k19 : PySem.W.keepIn K (.ref f19) = true)
    {f20 : Addr} {od20 an20 : Option Addr} {sl20 : Array (Option Value)} {oc20 kV20 dc20 pm20 cd20 ct20 : Value}
    (a20 : PySem.W.findIn K (.ref C_Line) "told" = some (some (.ref f20)))
    (l20 : K.lookup f20 = some ⟨oc20, od20, .func (PySem.W.fnOf "told" "Line.told" (defArgs s_Line_told) (defBody s_Line_told) (defScope s_Line_told) .none kV20 dc20 pm20 an20 cd20 ct20), sl20⟩) (c20 : PySem.W.codeIn K cd20 "Line.told" = true) (k20 : PySem.W.keepIn K (.ref f20) = true)
    {f21 : Addr} {od21 an21 : Option Addr} {sl21 : Array (Option Value)} {oc21 kV21 dc21 pm21 cd21 ct21 : Value}
    (a21 : PySem.W.nsIn K mainGlobals "is_form" = some (some (.ref f21)))
    (l21 : K.lookup f21 = some ⟨oc21, od21, .func (PySem.W.fnOf "is_form" "is_form" (defArgs s_is_form) (defBody s_is_form) (defScope s_is_form) .none kV21 dc21 pm21 an21 cd21 ct21), sl21⟩) (c21 : PySem.W.codeIn K cd21 "is_form" = true) (k21 : PySem.W.keepIn K (.ref f21) = true)
    {f22 : Addr} {od22 an22 : Option Addr} {sl22 : Array (Option Value)} {oc22 kV22 dc22 pm22 cd22 ct22 : Value}
    (a22 : PySem.W.nsIn K mainGlobals "rows_of" = some (some (.ref f22)))
    (l22 : K.lookup f22 = some ⟨oc22, od22, .func (PySem.W.fnOf "rows_of" "rows_of" (defArgs s_rows_of) (defBody s_rows_of) (defScope s_rows_of) .none kV22 dc22 pm22 an22 cd22 ct22), sl22⟩) (c22 : PySem.W.codeIn K cd22 "rows_of" = true) (k22 : PySem.W.keepIn K (.ref f22) = true)
    {f23 : Addr} {od23 an23 : Option Addr} {sl23 : Array (Option Value)} {oc23 kV23 dc23 pm23 cd23 ct23 : Value}
    (a23 : PySem.W.nsIn K mainGlobals "read_line" = some (some (.ref f23)))
    (l23 : K.lookup f23 = some ⟨oc23, od23, .func (PySem.W.fnOf "read_line" "read_line" (defArgs s_read_line) (defBody s_read_line) (defScope s_read_line) .none kV23 dc23 pm23 an23 cd23 ct23), sl23⟩) (c23 : PySem.W.codeIn K cd23 "read_line" = true) (k23 : PySem.W.keepIn K (.ref f23) = true)
    {f24 : Addr} {od24 an24 : Option Addr} {sl24 : Array (Option Value)} {oc24 kV24 dc24 pm24 cd24 ct24 : Value}
    (a24 : PySem.W.nsIn K mainGlobals "_law_cell" = some (some (.ref f24)))
    (l24 : K.lookup f24 = some ⟨oc24, od24, .func (PySem.W.fnOf "_law_cell" "_law_cell" (defArgs s_law_cell) (defBody s_law_cell) (defScope s_law_cell) .none kV24 dc24 pm24 an24 cd24 ct24), sl24⟩) (c24 : PySem.W.codeIn K cd24 "_law_cell" = true) (k24 : PySem.W.keepIn K (.ref f24) = true)
    {f25 : Addr} {od25 an25 : Option Addr} {sl25 : Array (Option Value)} {oc25 kV25 dc25 pm25 cd25 ct25 : Value}
    (a25 : PySem.W.nsIn K mainGlobals "_law_box" = some (some (.ref f25)))
    (l25 : K.lookup f25 = some ⟨oc25, od25, .func (PySem.W.fnOf "_law_box" "_law_box" (defArgs s_law_box) (defBody s_law_box) (defScope s_law_box) .none kV25 dc25 pm25 an25 cd25 ct25), sl25⟩) (c25 : PySem.W.codeIn K cd25 "_law_box" = true) (k25 : PySem.W.keepIn K (.ref f25) = true)
    {f26 : Addr} {od26 an26 : Option Addr} {sl26 : Array (Option Value)} {oc26 kV26 dc26 pm26 cd26 ct26 : Value}
    (a26 : PySem.W.nsIn K mainGlobals "_law_take" = some (some (.ref f26)))
    (l26 : K.lookup f26 = some ⟨oc26, od26, .func (PySem.W.fnOf "_law_take" "_law_take" (defArgs s_law_take) (defBody s_law_take) (defScope s_law_take) .none kV26 dc26 pm26 an26 cd26 ct26), sl26⟩) (c26 : PySem.W.codeIn K cd26 "_law_take" = true) (k26 : PySem.W.keepIn K (.ref f26) = true)
    {f27 : Addr} {od27 an27 : Option Addr} {sl27 : Array (Option Value)} {oc27 kV27 dc27 pm27 cd27 ct27 : Value}
    (a27 : PySem.W.nsIn K mainGlobals "_law_names" = some (some (.ref f27)))
    (l27 : K.lookup f27 = some ⟨oc27, od27, .func (PySem.W.fnOf "_law_names" "_law_names" (defArgs s_law_names) (defBody s_law_names) (defScope s_law_names) .none kV27 dc27 pm27 an27 cd27 ct27), sl27⟩) (c27 : PySem.W.codeIn K cd27 "_law_names" = true) (k27 : PySem.W.keepIn K (.ref f27) = true)
    {f28 : Addr} {od28 an28 : Option Addr} {sl28 : Array (Option Value)} {oc28 kV28 dc28 pm28 cd28 ct28 : Value}
    (a28 : PySem.W.nsIn K mainGlobals "_law_world" = some (some (.ref f28)))
    (l28 : K.lookup f28 = some ⟨oc28, od28, .func (PySem.W.fnOf "_law_world" "_law_world" (defArgs s_law_world) (defBody s_law_world) (defScope s_law_world) .none kV28 dc28 pm28 an28 cd28 ct28), sl28⟩) (c28 : PySem.W.codeIn K cd28 "_law_world" = true) (k28 : PySem.W.keepIn K (.ref f28) = true)
    {f29 : Addr} {od29 an29 : Option Addr} {sl29 : Array (Option Value)} {oc29 kV29 dc29 pm29 cd29 ct29 : Value}
    (a29 : PySem.W.nsIn K mainGlobals "_law_is_name" = some (some (.ref f29)))
    (l29 : K.lookup f29 = some ⟨oc29, od29, .func (PySem.W.fnOf "_law_is_name" "_law_is_name" (defArgs s_law_is_name) (defBody s_law_is_name) (defScope s_law_is_name) .none kV29 dc29 pm29 an29 cd29 ct29), sl29⟩) (c29 : PySem.W.codeIn K cd29 "_law_is_name" = true) (k29 : PySem.W.keepIn K (.ref f29) = true)
    {f30 : Addr} {od30 an30 : Option Addr} {sl30 : Array (Option Value)} {oc30 kV30 dc30 pm30 cd30 ct30 : Value}
    (a30 : PySem.W.nsIn K mainGlobals "_law_whole" = some (some (.ref f30)))
    (l30 : K.lookup f30 = some ⟨oc30, od30, .func (PySem.W.fnOf "_law_whole" "_law_whole" (defArgs s_law_whole) (defBody s_law_whole) (defScope s_law_whole) .none kV30 dc30 pm30 an30 cd30 ct30), sl30⟩) (c30 : PySem.W.codeIn K cd30 "_law_whole" = true) (k30 : PySem.W.keepIn K (.ref f30) = true)
    {f31 : Addr} {od31 an31 : Option Addr} {sl31 : Array (Option Value)} {oc31 kV31 dc31 pm31 cd31 ct31 : Value}
    (a31 : PySem.W.nsIn K mainGlobals "_law_is_row" = some (some (.ref f31)))
    (l31 : K.lookup f31 = some ⟨oc31, od31, .func (PySem.W.fnOf "_law_is_row" "_law_is_row" (defArgs s_law_is_row) (defBody s_law_is_row) (defScope s_law_is_row) .none kV31 dc31 pm31 an31 cd31 ct31), sl31⟩) (c31 : PySem.W.codeIn K cd31 "_law_is_row" = true) (k31 : PySem.W.keepIn K (.ref f31) = true)
    {f32 : Addr} {od32 an32 : Option Addr} {sl32 : Array (Option Value)} {oc32 kV32 dc32 pm32 cd32 ct32 : Value}
    (a32 : PySem.W.nsIn K mainGlobals "_law_places_due" = some (some (.ref f32)))
    (l32 : K.lookup f32 = some ⟨oc32, od32, .func (PySem.W.fnOf "_law_places_due" "_law_places_due" (defArgs s_law_places_due) (defBody s_law_places_due) (defScope s_law_places_due) .none kV32 dc32 pm32 an32 cd32 ct32), sl32⟩) (c32 : PySem.W.codeIn K cd32 "_law_places_due" = true) (k32 : PySem.W.keepIn K (.ref f32) = true)
    {f33 : Addr} {od33 an33 : Option Addr} {sl33 : Array (Option Value)} {oc33 kV33 dc33 pm33 cd33 ct33 : Value}
    (a33 : PySem.W.nsIn K mainGlobals "_law_due" = some (some (.ref f33)))
    (l33 : K.lookup f33 = some ⟨oc33, od33, .func (PySem.W.fnOf "_law_due" "_law_due" (defArgs s_law_due) (defBody s_law_due) (defScope s_law_due) .none kV33 dc33 pm33 an33 cd33 ct33), sl33⟩) (c33 : PySem.W.codeIn K cd33 "_law_due" = true) (k33 : PySem.W.keepIn K (.ref f33) = true)
    {f34 : Addr} {od34 an34 : Option Addr} {sl34 : Array (Option Value)} {oc34 kV34 dc34 pm34 cd34 ct34 : Value}
    (a34 : PySem.W.nsIn K mainGlobals "_law_rows" = some (some (.ref f34)))
    (l34 : K.lookup f34 = some ⟨oc34, od34, .func (PySem.W.fnOf "_law_rows" "_law_rows" (defArgs s_law_rows) (defBody s_law_rows) (defScope s_law_rows) .none kV34 dc34 pm34 an34 cd34 ct34), sl34⟩) (c34 : PySem.W.codeIn K cd34 "_law_rows" = true) (k34 : PySem.W.keepIn K (.ref f34) = true)
    {f35 : Addr} {od35 an35 : Option Addr} {sl35 : Array (Option Value)} {oc35 kV35 dc35 pm35 cd35 ct35 : Value}
    (a35 : PySem.W.nsIn K mainGlobals "_law_signs" = some (some (.ref f35)))
    (l35 : K.lookup f35 = some ⟨oc35, od35, .func (PySem.W.fnOf "_law_signs" "_law_signs" (defArgs s_law_signs) (defBody s_law_signs) (defScope s_law_signs) .none kV35 dc35 pm35 an35 cd35 ct35), sl35⟩) (c35 : PySem.W.codeIn K cd35 "_law_signs" = true) (k35 : PySem.W.keepIn K (.ref f35) = true)
    {f36 : Addr} {od36 an36 : Option Addr} {sl36 : Array (Option Value)} {oc36 kV36 dc36 pm36 cd36 ct36 : Value}
    (a36 : PySem.W.nsIn K mainGlobals "_law_word" = some (some (.ref f36)))
    (l36 : K.lookup f36 = some ⟨oc36, od36, .func (PySem.W.fnOf "_law_word" "_law_word" (defArgs s_law_word) (defBody s_law_word) (defScope s_law_word) .none kV36 dc36 pm36 an36 cd36 ct36), sl36⟩) (c36 : PySem.W.codeIn K cd36 "_law_word" = true) (k36 : PySem.W.keepIn K (.ref f36) = true)
    {f37 : Addr} {od37 an37 : Option Addr} {sl37 : Array (Option Value)} {oc37 kV37 dc37 pm37 cd37 ct37 : Value}
    (a37 : PySem.W.nsIn K mainGlobals "_law_row_otherwise" = some (some (.ref f37)))
    (l37 : K.lookup f37 = some ⟨oc37, od37, .func (PySem.W.fnOf "_law_row_otherwise" "_law_row_otherwise" (defArgs s_law_row_otherwise) (defBody s_law_row_otherwise) (defScope s_law_row_otherwise) .none kV37 dc37 pm37 an37 cd37 ct37), sl37⟩) (c37 : PySem.W.codeIn K cd37 "_law_row_otherwise" = true) (k37 : PySem.W.keepIn K (.ref f37) = true)
    {f38 : Addr} {od38 an38 : Option Addr} {sl38 : Array (Option Value)} {oc38 kV38 dc38 pm38 cd38 ct38 : Value}
    (a38 : PySem.W.nsIn K mainGlobals "_law_text" = some (some (.ref f38)))
    (l38 : K.lookup f38 = some ⟨oc38, od38, .func (PySem.W.fnOf "_law_text" "_law_text" (defArgs s_law_text) (defBody s_law_text) (defScope s_law_text) .none kV38 dc38 pm38 an38 cd38 ct38), sl38⟩) (c38 : PySem.W.codeIn K cd38 "_law_text" = true) (k38 : PySem.W.keepIn K (.ref f38) = true)
    {f39 : Addr} {od39 an39 : Option Addr} {sl39 : Array (Option Value)} {oc39 kV39 dc39 pm39 cd39 ct39 : Value}
    (a39 : PySem.W.nsIn K mainGlobals "_law_has_form" = some (some (.ref f39)))
    (l39 : K.lookup f39 = some ⟨oc39, od39, .func (PySem.W.fnOf "_law_has_form" "_law_has_form" (defArgs s_law_has_form) (defBody s_law_has_form) (defScope s_law_has_form) .none kV39 dc39 pm39 an39 cd39 ct39), sl39⟩) (c39 : PySem.W.codeIn K cd39 "_law_has_form" = true) (k39 : PySem.W.keepIn K (.ref f39) = true)
    {f40 : Addr} {od40 an40 : Option Addr} {sl40 : Array (Option Value)} {oc40 kV40 dc40 pm40 cd40 ct40 : Value}
    (a40 : PySem.W.nsIn K mainGlobals "_law_read" = some (some (.ref f40)))
    (l40 : K.lookup f40 = some ⟨oc40, od40, .func (PySem.W.fnOf "_law_read" "_law_read" (defArgs s_law_read) (defBody s_law_read) (defScope s_law_read) .none kV40 dc40 pm40 an40 cd40 ct40), sl40⟩) (c40 : PySem.W.codeIn K cd40 "_law_read" = true) (k40 : PySem.W.keepIn K (.ref f40) = true)
    {f41 : Addr} {od41 an41 : Option Addr} {sl41 : Array (Option Value)} {oc41 kV41 dc41 pm41 cd41 ct41 : Value}
    (a41 : PySem.W.nsIn K mainGlobals "_law_caught" = some (some (.ref f41)))
    (l41 : K.lookup f41 = some ⟨oc41, od41, .func (PySem.W.fnOf "_law_caught" "_law_caught" (defArgs s_law_caught) (defBody s_law_caught) (defScope s_law_caught) .none kV41 dc41 pm41 an41 cd41 ct41), sl41⟩) (c41 : PySem.W.codeIn K cd41 "_law_caught" = true) (k41 : PySem.W.keepIn K (.ref f41) = true)
    {f42 : Addr} {od42 an42 : Option Addr} {sl42 : Array (Option Value)} {oc42 kV42 dc42 pm42 cd42 ct42 : Value}
    (a42 : PySem.W.nsIn K mainGlobals "law" = some (some (.ref f42)))
    (l42 : K.lookup f42 = some ⟨oc42, od42, .func (PySem.W.fnOf "law" "law" (defArgs s_law) (defBody s_law) (defScope s_law) .none kV42 dc42 pm42 an42 cd42 ct42), sl42⟩) (c42 : PySem.W.codeIn K cd42 "law" = true) (k42 : PySem.W.keepIn K (.ref f42) = true)
    (pg_Line : PySem.W.plainGet K C_Line Str.empty = true) (hd_Line : PySem.W.hasDictIn K C_Line = true) (po_Line : PySem.W.plainOver K C_Line = true) (sa_Line : PySem.W.findIn K (.ref C_Line) "__setattr__" = some (some (.builtin "object.__setattr__"))) (mk_Line : PySem.W.makesIn K C_Line = true) (kc_Line : PySem.W.keepIn K (.ref C_Line) = true)
    (if_Line : PySem.W.isFn K (.ref f17) = true)
    (na_Line_kept_places : PySem.W.findIn K (.ref C_Line) "kept_places" = some none)
    (na_Line_kept_stretches : PySem.W.findIn K (.ref C_Line) "kept_stretches" = some none)
    (na_Line_kept_longs : PySem.W.findIn K (.ref C_Line) "kept_longs" = some none)
    (fn_Line_names : PySem.W.isFn K (.ref f18) = true)
    (fn_Line_number_of : PySem.W.isFn K (.ref f19) = true)
    (fn_Line_told : PySem.W.isFn K (.ref f20) = true)
    {nm_NoName q_NoName : Str} {N_NoName : Addr} {bs_NoName bm_NoName sub_NoName : List Value} {sn_NoName : List Str} {ab_NoName : Bool} {col_NoName : Option Bool} {dd_NoName : Option Addr} {e0_NoName e1_NoName e2_NoName e3_NoName e5_NoName : Option Value}
    (xL_NoName : K.lookup C_NoName = some (excClassObj nm_NoName q_NoName C_NoName N_NoName bs_NoName bm_NoName true sn_NoName sub_NoName ab_NoName col_NoName dd_NoName e0_NoName e1_NoName e2_NoName e3_NoName e5_NoName "ValueError.__new__")) (ve_NoName : PySem.HandSPX.refsVE bm_NoName = true)
    (sa_NoName : PySem.W.findIn K (.ref C_NoName) "__setattr__" = some (some (.builtin "object.__setattr__")))
    (ga_NoName : PySem.W.findIn K (.ref C_NoName) "__getattribute__" = some (some (.builtin "BaseException.__getattribute__")))
    (gg_NoName : PySem.W.findIn K (.ref C_NoName) "__getattr__" = some none)
    (no_NoName : PySem.W.findIn K (.ref C_NoName) "found" = some none)
    (ex_NoName : PySem.W.subIn K (.ref C_NoName) (.type "BaseException") = some true)
    (ty_NoName : PySem.W.typeIn K (.ref C_NoName) = some (.type "type"))
    (kC_NoName : PySem.W.keepIn K (.ref C_NoName) = true)
    (hd_NoName : PySem.W.hasDictIn K C_NoName = true)
    (ha_NoName : PySem.W.findIn K (.ref C_NoName) "__class__" = some (some (.builtin "object.__class__")))
    (hm_NoName : PySem.W.mroIn K C_NoName (.type "object") = some true)
    (ti_NoName : PySem.W.typeIn K (.ref f1) = some (.type "function"))
    {nm_NoPlace q_NoPlace : Str} {N_NoPlace : Addr} {bs_NoPlace bm_NoPlace sub_NoPlace : List Value} {sn_NoPlace : List Str} {ab_NoPlace : Bool} {col_NoPlace : Option Bool} {dd_NoPlace : Option Addr} {e0_NoPlace e1_NoPlace e2_NoPlace e3_NoPlace e5_NoPlace : Option Value}
    (xL_NoPlace : K.lookup C_NoPlace = some (excClassObj nm_NoPlace q_NoPlace C_NoPlace N_NoPlace bs_NoPlace bm_NoPlace true sn_NoPlace sub_NoPlace ab_NoPlace col_NoPlace dd_NoPlace e0_NoPlace e1_NoPlace e2_NoPlace e3_NoPlace e5_NoPlace "ValueError.__new__")) (ve_NoPlace : PySem.HandSPX.refsVE bm_NoPlace = true)
    (sa_NoPlace : PySem.W.findIn K (.ref C_NoPlace) "__setattr__" = some (some (.builtin "object.__setattr__")))
    (ga_NoPlace : PySem.W.findIn K (.ref C_NoPlace) "__getattribute__" = some (some (.builtin "BaseException.__getattribute__")))
    (gg_NoPlace : PySem.W.findIn K (.ref C_NoPlace) "__getattr__" = some none)
    (no_NoPlace : PySem.W.findIn K (.ref C_NoPlace) "found" = some none)
    (ex_NoPlace : PySem.W.subIn K (.ref C_NoPlace) (.type "BaseException") = some true)
    (ty_NoPlace : PySem.W.typeIn K (.ref C_NoPlace) = some (.type "type"))
    (kC_NoPlace : PySem.W.keepIn K (.ref C_NoPlace) = true)
    (hd_NoPlace : PySem.W.hasDictIn K C_NoPlace = true)
    (ha_NoPlace : PySem.W.findIn K (.ref C_NoPlace) "__class__" = some (some (.builtin "object.__class__")))
    (hm_NoPlace : PySem.W.mroIn K C_NoPlace (.type "object") = some true)
    (ti_NoPlace : PySem.W.typeIn K (.ref f2) = some (.type "function"))
    {nm_NoPlaces q_NoPlaces : Str} {N_NoPlaces : Addr} {bs_NoPlaces bm_NoPlaces sub_NoPlaces : List Value} {sn_NoPlaces : List Str} {ab_NoPlaces : Bool} {col_NoPlaces : Option Bool} {dd_NoPlaces : Option Addr} {e0_NoPlaces e1_NoPlaces e2_NoPlaces e3_NoPlaces e5_NoPlaces : Option Value}
    (xL_NoPlaces : K.lookup C_NoPlaces = some (excClassObj nm_NoPlaces q_NoPlaces C_NoPlaces N_NoPlaces bs_NoPlaces bm_NoPlaces true sn_NoPlaces sub_NoPlaces ab_NoPlaces col_NoPlaces dd_NoPlaces e0_NoPlaces e1_NoPlaces e2_NoPlaces e3_NoPlaces e5_NoPlaces "ValueError.__new__")) (ve_NoPlaces : PySem.HandSPX.refsVE bm_NoPlaces = true)
    (sa_NoPlaces : PySem.W.findIn K (.ref C_NoPlaces) "__setattr__" = some (some (.builtin "object.__setattr__")))
    (ga_NoPlaces : PySem.W.findIn K (.ref C_NoPlaces) "__getattribute__" = some (some (.builtin "BaseException.__getattribute__")))
    (gg_NoPlaces : PySem.W.findIn K (.ref C_NoPlaces) "__getattr__" = some none)
    (no_NoPlaces : PySem.W.findIn K (.ref C_NoPlaces) "found" = some none)
    (ex_NoPlaces : PySem.W.subIn K (.ref C_NoPlaces) (.type "BaseException") = some true)
    (ty_NoPlaces : PySem.W.typeIn K (.ref C_NoPlaces) = some (.type "type"))
    (kC_NoPlaces : PySem.W.keepIn K (.ref C_NoPlaces) = true)
    (hd_NoPlaces : PySem.W.hasDictIn K C_NoPlaces = true)
    (ha_NoPlaces : PySem.W.findIn K (.ref C_NoPlaces) "__class__" = some (some (.builtin "object.__class__")))
    (hm_NoPlaces : PySem.W.mroIn K C_NoPlaces (.type "object") = some true)
    (ti_NoPlaces : PySem.W.typeIn K (.ref f3) = some (.type "function"))
    {nm_NoStretches q_NoStretches : Str} {N_NoStretches : Addr} {bs_NoStretches bm_NoStretches sub_NoStretches : List Value} {sn_NoStretches : List Str} {ab_NoStretches : Bool} {col_NoStretches : Option Bool} {dd_NoStretches : Option Addr} {e0_NoStretches e1_NoStretches e2_NoStretches e3_NoStretches e5_NoStretches : Option Value}
    (xL_NoStretches : K.lookup C_NoStretches = some (excClassObj nm_NoStretches q_NoStretches C_NoStretches N_NoStretches bs_NoStretches bm_NoStretches true sn_NoStretches sub_NoStretches ab_NoStretches col_NoStretches dd_NoStretches e0_NoStretches e1_NoStretches e2_NoStretches e3_NoStretches e5_NoStretches "ValueError.__new__")) (ve_NoStretches : PySem.HandSPX.refsVE bm_NoStretches = true)
    (sa_NoStretches : PySem.W.findIn K (.ref C_NoStretches) "__setattr__" = some (some (.builtin "object.__setattr__")))
    (ga_NoStretches : PySem.W.findIn K (.ref C_NoStretches) "__getattribute__" = some (some (.builtin "BaseException.__getattribute__")))
    (gg_NoStretches : PySem.W.findIn K (.ref C_NoStretches) "__getattr__" = some none)
    (no_NoStretches : PySem.W.findIn K (.ref C_NoStretches) "found" = some none)
    (ex_NoStretches : PySem.W.subIn K (.ref C_NoStretches) (.type "BaseException") = some true)
    (ty_NoStretches : PySem.W.typeIn K (.ref C_NoStretches) = some (.type "type"))
    (kC_NoStretches : PySem.W.keepIn K (.ref C_NoStretches) = true)
    (hd_NoStretches : PySem.W.hasDictIn K C_NoStretches = true)
    (ha_NoStretches : PySem.W.findIn K (.ref C_NoStretches) "__class__" = some (some (.builtin "object.__class__")))
    (hm_NoStretches : PySem.W.mroIn K C_NoStretches (.type "object") = some true)
    (ti_NoStretches : PySem.W.typeIn K (.ref f4) = some (.type "function"))
    {nm_NoLongs q_NoLongs : Str} {N_NoLongs : Addr} {bs_NoLongs bm_NoLongs sub_NoLongs : List Value} {sn_NoLongs : List Str} {ab_NoLongs : Bool} {col_NoLongs : Option Bool} {dd_NoLongs : Option Addr} {e0_NoLongs e1_NoLongs e2_NoLongs e3_NoLongs e5_NoLongs : Option Value}
    (xL_NoLongs : K.lookup C_NoLongs = some (excClassObj nm_NoLongs q_NoLongs C_NoLongs N_NoLongs bs_NoLongs bm_NoLongs true sn_NoLongs sub_NoLongs ab_NoLongs col_NoLongs dd_NoLongs e0_NoLongs e1_NoLongs e2_NoLongs e3_NoLongs e5_NoLongs "ValueError.__new__")) (ve_NoLongs : PySem.HandSPX.refsVE bm_NoLongs = true)
    (sa_NoLongs : PySem.W.findIn K (.ref C_NoLongs) "__setattr__" = some (some (.builtin "object.__setattr__")))
    (ga_NoLongs : PySem.W.findIn K (.ref C_NoLongs) "__getattribute__" = some (some (.builtin "BaseException.__getattribute__")))
    (gg_NoLongs : PySem.W.findIn K (.ref C_NoLongs) "__getattr__" = some none)
    (no_NoLongs : PySem.W.findIn K (.ref C_NoLongs) "found" = some none)
    (ex_NoLongs : PySem.W.subIn K (.ref C_NoLongs) (.type "BaseException") = some true)
    (ty_NoLongs : PySem.W.typeIn K (.ref C_NoLongs) = some (.type "type"))
    (kC_NoLongs : PySem.W.keepIn K (.ref C_NoLongs) = true)
    (hd_NoLongs : PySem.W.hasDictIn K C_NoLongs = true)
    (ha_NoLongs : PySem.W.findIn K (.ref C_NoLongs) "__class__" = some (some (.builtin "object.__class__")))
    (hm_NoLongs : PySem.W.mroIn K C_NoLongs (.type "object") = some true)
    (ti_NoLongs : PySem.W.typeIn K (.ref f5) = some (.type "function"))
    {nm_NoNumber q_NoNumber : Str} {N_NoNumber : Addr} {bs_NoNumber bm_NoNumber sub_NoNumber : List Value} {sn_NoNumber : List Str} {ab_NoNumber : Bool} {col_NoNumber : Option Bool} {dd_NoNumber : Option Addr} {e0_NoNumber e1_NoNumber e2_NoNumber e3_NoNumber e5_NoNumber : Option Value}
    (xL_NoNumber : K.lookup C_NoNumber = some (excClassObj nm_NoNumber q_NoNumber C_NoNumber N_NoNumber bs_NoNumber bm_NoNumber true sn_NoNumber sub_NoNumber ab_NoNumber col_NoNumber dd_NoNumber e0_NoNumber e1_NoNumber e2_NoNumber e3_NoNumber e5_NoNumber "ValueError.__new__")) (ve_NoNumber : PySem.HandSPX.refsVE bm_NoNumber = true)
    (sa_NoNumber : PySem.W.findIn K (.ref C_NoNumber) "__setattr__" = some (some (.builtin "object.__setattr__")))
    (ga_NoNumber : PySem.W.findIn K (.ref C_NoNumber) "__getattribute__" = some (some (.builtin "BaseException.__getattribute__")))
    (gg_NoNumber : PySem.W.findIn K (.ref C_NoNumber) "__getattr__" = some none)
    (no_NoNumber : PySem.W.findIn K (.ref C_NoNumber) "found" = some none)
    (ex_NoNumber : PySem.W.subIn K (.ref C_NoNumber) (.type "BaseException") = some true)
    (ty_NoNumber : PySem.W.typeIn K (.ref C_NoNumber) = some (.type "type"))
    (kC_NoNumber : PySem.W.keepIn K (.ref C_NoNumber) = true)
    (hd_NoNumber : PySem.W.hasDictIn K C_NoNumber = true)
    (ha_NoNumber : PySem.W.findIn K (.ref C_NoNumber) "__class__" = some (some (.builtin "object.__class__")))
    (hm_NoNumber : PySem.W.mroIn K C_NoNumber (.type "object") = some true)
    (ti_NoNumber : PySem.W.typeIn K (.ref f6) = some (.type "function"))
    {nm_Twice q_Twice : Str} {N_Twice : Addr} {bs_Twice bm_Twice sub_Twice : List Value} {sn_Twice : List Str} {ab_Twice : Bool} {col_Twice : Option Bool} {dd_Twice : Option Addr} {e0_Twice e1_Twice e2_Twice e3_Twice e5_Twice : Option Value}
    (xL_Twice : K.lookup C_Twice = some (excClassObj nm_Twice q_Twice C_Twice N_Twice bs_Twice bm_Twice true sn_Twice sub_Twice ab_Twice col_Twice dd_Twice e0_Twice e1_Twice e2_Twice e3_Twice e5_Twice "ValueError.__new__")) (ve_Twice : PySem.HandSPX.refsVE bm_Twice = true)
    (sa_Twice : PySem.W.findIn K (.ref C_Twice) "__setattr__" = some (some (.builtin "object.__setattr__")))
    (ga_Twice : PySem.W.findIn K (.ref C_Twice) "__getattribute__" = some (some (.builtin "BaseException.__getattribute__")))
    (gg_Twice : PySem.W.findIn K (.ref C_Twice) "__getattr__" = some none)
    (no_Twice : PySem.W.findIn K (.ref C_Twice) "found" = some none)
    (ex_Twice : PySem.W.subIn K (.ref C_Twice) (.type "BaseException") = some true)
    (ty_Twice : PySem.W.typeIn K (.ref C_Twice) = some (.type "type"))
    (kC_Twice : PySem.W.keepIn K (.ref C_Twice) = true)
    (hd_Twice : PySem.W.hasDictIn K C_Twice = true)
    (ha_Twice : PySem.W.findIn K (.ref C_Twice) "__class__" = some (some (.builtin "object.__class__")))
    (hm_Twice : PySem.W.mroIn K C_Twice (.type "object") = some true)
    (ti_Twice : PySem.W.typeIn K (.ref f7) = some (.type "function"))
    {nm_NoText q_NoText : Str} {N_NoText : Addr} {bs_NoText bm_NoText sub_NoText : List Value} {sn_NoText : List Str} {ab_NoText : Bool} {col_NoText : Option Bool} {dd_NoText : Option Addr} {e0_NoText e1_NoText e2_NoText e3_NoText e5_NoText : Option Value}
    (xL_NoText : K.lookup C_NoText = some (excClassObj nm_NoText q_NoText C_NoText N_NoText bs_NoText bm_NoText true sn_NoText sub_NoText ab_NoText col_NoText dd_NoText e0_NoText e1_NoText e2_NoText e3_NoText e5_NoText "ValueError.__new__")) (ve_NoText : PySem.HandSPX.refsVE bm_NoText = true)
    (sa_NoText : PySem.W.findIn K (.ref C_NoText) "__setattr__" = some (some (.builtin "object.__setattr__")))
    (ga_NoText : PySem.W.findIn K (.ref C_NoText) "__getattribute__" = some (some (.builtin "BaseException.__getattribute__")))
    (gg_NoText : PySem.W.findIn K (.ref C_NoText) "__getattr__" = some none)
    (no_NoText : PySem.W.findIn K (.ref C_NoText) "row" = some none)
    (ex_NoText : PySem.W.subIn K (.ref C_NoText) (.type "BaseException") = some true)
    (ty_NoText : PySem.W.typeIn K (.ref C_NoText) = some (.type "type"))
    (kC_NoText : PySem.W.keepIn K (.ref C_NoText) = true)
    (hd_NoText : PySem.W.hasDictIn K C_NoText = true)
    (ha_NoText : PySem.W.findIn K (.ref C_NoText) "__class__" = some (some (.builtin "object.__class__")))
    (hm_NoText : PySem.W.mroIn K C_NoText (.type "object") = some true)
    (ti_NoText : PySem.W.typeIn K (.ref f8) = some (.type "function"))
    (rd_StaffError : PySem.W.readsIn K C_StaffError (.type "type") = true) (rg_StaffError : PySem.W.specialIn K (.ref C_StaffError) "__getattribute__" = some (some (.builtin "type.__getattribute__"))) (vi_StaffError : PySem.W.findCls K (.ref C_StaffError) (.type "type") "__init__" = some (.val (.builtin "ValueError.__init__")))
    (oc_get : PySem.W.specialIn K (.builtin "object.__class__") "__get__" = some (some (.builtin "getset_descriptor.__get__"))) (oc_take : PySem.W.takesIn K (.builtin "object.__class__") = some true)
    (ex_NoText_NoText : PySem.W.exmOne K (.ref C_NoText) (.ref C_NoText) = some true)
    (ex_NoPlaces_NoText : PySem.W.exmOne K (.ref C_NoPlaces) (.ref C_NoText) = some false)
    (ex_NoPlaces_NoPlaces : PySem.W.exmOne K (.ref C_NoPlaces) (.ref C_NoPlaces) = some true)
    (ex_Twice_NoText : PySem.W.exmOne K (.ref C_Twice) (.ref C_NoText) = some false)
    (ex_Twice_NoPlaces : PySem.W.exmOne K (.ref C_Twice) (.ref C_NoPlaces) = some false)
    (ex_Twice_NoName : PySem.W.exmOne K (.ref C_Twice) (.ref C_NoName) = some false)
    (ex_Twice_Twice : PySem.W.exmOne K (.ref C_Twice) (.ref C_Twice) = some true)
    (ex_NoNumber_NoText : PySem.W.exmOne K (.ref C_NoNumber) (.ref C_NoText) = some false)
    (ex_NoNumber_NoPlaces : PySem.W.exmOne K (.ref C_NoNumber) (.ref C_NoPlaces) = some false)
    (ex_NoNumber_NoName : PySem.W.exmOne K (.ref C_NoNumber) (.ref C_NoName) = some false)
    (ex_NoNumber_Twice : PySem.W.exmOne K (.ref C_NoNumber) (.ref C_Twice) = some false)
    (ex_NoNumber_NoNumber : PySem.W.exmOne K (.ref C_NoNumber) (.ref C_NoNumber) = some true)
    (ex_NoStretches_NoText : PySem.W.exmOne K (.ref C_NoStretches) (.ref C_NoText) = some false)
    (ex_NoStretches_NoPlaces : PySem.W.exmOne K (.ref C_NoStretches) (.ref C_NoPlaces) = some false)
    (ex_NoStretches_NoName : PySem.W.exmOne K (.ref C_NoStretches) (.ref C_NoName) = some false)
    (ex_NoStretches_Twice : PySem.W.exmOne K (.ref C_NoStretches) (.ref C_Twice) = some false)
    (ex_NoStretches_NoNumber : PySem.W.exmOne K (.ref C_NoStretches) (.ref C_NoNumber) = some false)
    (ex_NoStretches_NoStretches : PySem.W.exmOne K (.ref C_NoStretches) (.ref C_NoStretches) = some true)
    (ex_NoPlace_NoText : PySem.W.exmOne K (.ref C_NoPlace) (.ref C_NoText) = some false)
    (ex_NoPlace_NoPlaces : PySem.W.exmOne K (.ref C_NoPlace) (.ref C_NoPlaces) = some false)
    (ex_NoPlace_NoName : PySem.W.exmOne K (.ref C_NoPlace) (.ref C_NoName) = some false)
    (ex_NoPlace_Twice : PySem.W.exmOne K (.ref C_NoPlace) (.ref C_Twice) = some false)
    (ex_NoPlace_NoNumber : PySem.W.exmOne K (.ref C_NoPlace) (.ref C_NoNumber) = some false)
    (ex_NoPlace_NoStretches : PySem.W.exmOne K (.ref C_NoPlace) (.ref C_NoStretches) = some false)
    (ex_NoPlace_NoPlace : PySem.W.exmOne K (.ref C_NoPlace) (.ref C_NoPlace) = some true)
    (ex_NoLongs_NoText : PySem.W.exmOne K (.ref C_NoLongs) (.ref C_NoText) = some false)
    (ex_NoLongs_NoPlaces : PySem.W.exmOne K (.ref C_NoLongs) (.ref C_NoPlaces) = some false)
    (ex_NoLongs_NoName : PySem.W.exmOne K (.ref C_NoLongs) (.ref C_NoName) = some false)
    (ex_NoLongs_Twice : PySem.W.exmOne K (.ref C_NoLongs) (.ref C_Twice) = some false)
    (ex_NoLongs_NoNumber : PySem.W.exmOne K (.ref C_NoLongs) (.ref C_NoNumber) = some false)
    (ex_NoLongs_NoStretches : PySem.W.exmOne K (.ref C_NoLongs) (.ref C_NoStretches) = some false)
    (ex_NoLongs_NoPlace : PySem.W.exmOne K (.ref C_NoLongs) (.ref C_NoPlace) = some false)
    (ex_NoLongs_NoLongs : PySem.W.exmOne K (.ref C_NoLongs) (.ref C_NoLongs) = some true)
    {u_LONGEST : Value} (g_LONGEST : PySem.W.nsIn K mainGlobals "LONGEST" = some (some u_LONGEST)) (r_LONGEST : RelV (V.int 6) u_LONGEST)
    {u_LETTERS : Value} (g_LETTERS : PySem.W.nsIn K mainGlobals "LETTERS" = some (some u_LETTERS)) (r_LETTERS : RelV (V.str "abcdefghijklmnopqrstuvwxyz") u_LETTERS)
    {u_FEWEST_PLACES : Value} (g_FEWEST_PLACES : PySem.W.nsIn K mainGlobals "FEWEST_PLACES" = some (some u_FEWEST_PLACES)) (r_FEWEST_PLACES : RelV (V.int 2) u_FEWEST_PLACES)
    {u_MOST_PLACES : Value} (g_MOST_PLACES : PySem.W.nsIn K mainGlobals "MOST_PLACES" = some (some u_MOST_PLACES)) (r_MOST_PLACES : RelV (V.int 6) u_MOST_PLACES)
    {u_MOST_ROADS : Value} (g_MOST_ROADS : PySem.W.nsIn K mainGlobals "MOST_ROADS" = some (some u_MOST_ROADS)) (r_MOST_ROADS : RelV (V.int 3) u_MOST_ROADS)
    {u_MOST_LONGS : Value} (g_MOST_LONGS : PySem.W.nsIn K mainGlobals "MOST_LONGS" = some (some u_MOST_LONGS)) (r_MOST_LONGS : RelV (V.int 2) u_MOST_LONGS)
    {t_HOMES : Addr} {oT_HOMES : Obj} (gt_HOMES : PySem.W.nsIn K mainGlobals "HOMES" = some (some (.ref t_HOMES))) (lt_HOMES : K.lookup t_HOMES = some oT_HOMES) (kt_HOMES : (oT_HOMES.cls = .type "tuple" ∧ oT_HOMES.dict = none) ∧ ∃ (its : Array Value) (n : Nat), oT_HOMES.data = .seq its n ∧ its.size ≤ sizeLine ∧ Vals [V.str "low", V.str "high"] its.toList)
    {t_SORTS : Addr} {oT_SORTS : Obj} (gt_SORTS : PySem.W.nsIn K mainGlobals "SORTS" = some (some (.ref t_SORTS))) (lt_SORTS : K.lookup t_SORTS = some oT_SORTS) (kt_SORTS : (oT_SORTS.cls = .type "tuple" ∧ oT_SORTS.dict = none) ∧ ∃ (its : Array Value) (n : Nat), oT_SORTS.data = .seq its n ∧ its.size ≤ sizeLine ∧ Vals [V.str "place", V.str "stretch", V.str "long"] its.toList)
    (z_all : PySem.W.nsIn K mainGlobals "all" = some none)
    (z_bool : PySem.W.nsIn K mainGlobals "bool" = some none)
    (z_enumerate : PySem.W.nsIn K mainGlobals "enumerate" = some none)
    (z_int : PySem.W.nsIn K mainGlobals "int" = some none)
    (z_isinstance : PySem.W.nsIn K mainGlobals "isinstance" = some none)
    (z_len : PySem.W.nsIn K mainGlobals "len" = some none)
    (z_list : PySem.W.nsIn K mainGlobals "list" = some none)
    (z_max : PySem.W.nsIn K mainGlobals "max" = some none)
    (z_min : PySem.W.nsIn K mainGlobals "min" = some none)
    (z_range : PySem.W.nsIn K mainGlobals "range" = some none)
    (z_repr : PySem.W.nsIn K mainGlobals "repr" = some none)
    (z_str : PySem.W.nsIn K mainGlobals "str" = some none)
    (z_tuple : PySem.W.nsIn K mainGlobals "tuple" = some none) :
    ∃ fd : FuncData, (∀ (s : Shared) (v : Value), BindsTo s fd ⟨[v], []⟩ [("_law_script", v)]) ∧ ∀ base : Heap, K.In base → base.Ns mainGlobals mg → (∃ mm, base.Ns sysModules mm) → FnG l.prog w K mg base (L2.CX l.prog w) 8 fa fd ["_law_script"] (sp_law K) := by
  have e : fa = f42 := by
    have z := hfa.symm.trans (PySem.W.mg_of X G a42)
    injection z with z; injection z
  let T : Tx K mg := {
    C_Line := C_Line, m_Line := PySem.W.mg_of X G n_Line,
    C_NoName := C_NoName, m_NoName := PySem.W.mg_of X G n_NoName,
    C_NoPlace := C_NoPlace, m_NoPlace := PySem.W.mg_of X G n_NoPlace,
    C_NoPlaces := C_NoPlaces, m_NoPlaces := PySem.W.mg_of X G n_NoPlaces,
    C_NoStretches := C_NoStretches, m_NoStretches := PySem.W.mg_of X G n_NoStretches,
    C_NoLongs := C_NoLongs, m_NoLongs := PySem.W.mg_of X G n_NoLongs,
    C_NoNumber := C_NoNumber, m_NoNumber := PySem.W.mg_of X G n_NoNumber,
    C_Twice := C_Twice, m_Twice := PySem.W.mg_of X G n_Twice,
    C_NoText := C_NoText, m_NoText := PySem.W.mg_of X G n_NoText,
    C_StaffError := C_StaffError, m_StaffError := PySem.W.mg_of X G n_StaffError,
    a_NoName_init := f1, d_NoName_init := _, F_NoName_init := fun_mk (st := s_NoName_init) l1 c1 k1, B_NoName_init := (fun_mk (st := s_NoName_init) l1 c1 k1).binds (ps := ["self", "found"]) (fun _ _ _ _ _ _ us hl => match us, hl with | [_, _], _ => rfl),
    a_NoPlace_init := f2, d_NoPlace_init := _, F_NoPlace_init := fun_mk (st := s_NoPlace_init) l2 c2 k2, B_NoPlace_init := (fun_mk (st := s_NoPlace_init) l2 c2 k2).binds (ps := ["self", "found"]) (fun _ _ _ _ _ _ us hl => match us, hl with | [_, _], _ => rfl),
    a_NoPlaces_init := f3, d_NoPlaces_init := _, F_NoPlaces_init := fun_mk (st := s_NoPlaces_init) l3 c3 k3, B_NoPlaces_init := (fun_mk (st := s_NoPlaces_init) l3 c3 k3).binds (ps := ["self", "found"]) (fun _ _ _ _ _ _ us hl => match us, hl with | [_, _], _ => rfl),
    a_NoStretches_init := f4, d_NoStretches_init := _, F_NoStretches_init := fun_mk (st := s_NoStretches_init) l4 c4 k4, B_NoStretches_init := (fun_mk (st := s_NoStretches_init) l4 c4 k4).binds (ps := ["self", "found"]) (fun _ _ _ _ _ _ us hl => match us, hl with | [_, _], _ => rfl),
    a_NoLongs_init := f5, d_NoLongs_init := _, F_NoLongs_init := fun_mk (st := s_NoLongs_init) l5 c5 k5, B_NoLongs_init := (fun_mk (st := s_NoLongs_init) l5 c5 k5).binds (ps := ["self", "found"]) (fun _ _ _ _ _ _ us hl => match us, hl with | [_, _], _ => rfl),
    a_NoNumber_init := f6, d_NoNumber_init := _, F_NoNumber_init := fun_mk (st := s_NoNumber_init) l6 c6 k6, B_NoNumber_init := (fun_mk (st := s_NoNumber_init) l6 c6 k6).binds (ps := ["self", "found"]) (fun _ _ _ _ _ _ us hl => match us, hl with | [_, _], _ => rfl),
    a_Twice_init := f7, d_Twice_init := _, F_Twice_init := fun_mk (st := s_Twice_init) l7 c7 k7, B_Twice_init := (fun_mk (st := s_Twice_init) l7 c7 k7).binds (ps := ["self", "found"]) (fun _ _ _ _ _ _ us hl => match us, hl with | [_, _], _ => rfl),
    a_NoText_init := f8, d_NoText_init := _, F_NoText_init := fun_mk (st := s_NoText_init) l8 c8 k8, B_NoText_init := (fun_mk (st := s_NoText_init) l8 c8 k8).binds (ps := ["self", "row"]) (fun _ _ _ _ _ _ us hl => match us, hl with | [_, _], _ => rfl),
    a_is_whole := f9, d_is_whole := _, F_is_whole := fun_mk (st := s_is_whole) l9 c9 k9, B_is_whole := (fun_mk (st := s_is_whole) l9 c9 k9).binds (ps := ["thing", "low", "high"]) (fun _ _ _ _ _ _ us hl => match us, hl with | [_, _, _], _ => rfl), m_is_whole := PySem.W.mg_of X G a9,
    a_is_name := f10, d_is_name := _, F_is_name := fun_mk (st := s_is_name) l10 c10 k10, B_is_name := (fun_mk (st := s_is_name) l10 c10 k10).binds (ps := ["thing"]) (fun _ _ _ _ _ _ us hl => match us, hl with | [_], _ => rfl), m_is_name := PySem.W.mg_of X G a10,
    a_is_row := f11, d_is_row := _, F_is_row := fun_mk (st := s_is_row) l11 c11 k11, B_is_row := (fun_mk (st := s_is_row) l11 c11 k11).binds (ps := ["thing", "size"]) (fun _ _ _ _ _ _ us hl => match us, hl with | [_, _], _ => rfl), m_is_row := PySem.W.mg_of X G a11,
    a_good_places := f12, d_good_places := _, F_good_places := fun_mk (st := s_good_places) l12 c12 k12, B_good_places := (fun_mk (st := s_good_places) l12 c12 k12).binds (ps := ["places"]) (fun _ _ _ _ _ _ us hl => match us, hl with | [_], _ => rfl), m_good_places := PySem.W.mg_of X G a12,
    a_is_stretch := f13, d_is_stretch := _, F_is_stretch := fun_mk (st := s_is_stretch) l13 c13 k13, B_is_stretch := (fun_mk (st := s_is_stretch) l13 c13 k13).binds (ps := ["thing"]) (fun _ _ _ _ _ _ us hl => match us, hl with | [_], _ => rfl), m_is_stretch := PySem.W.mg_of X G a13,
    a_good_stretches := f14, d_good_stretches := _, F_good_stretches := fun_mk (st := s_good_stretches) l14 c14 k14, B_good_stretches := (fun_mk (st := s_good_stretches) l14 c14 k14).binds (ps := ["stretches", "many"]) (fun _ _ _ _ _ _ us hl => match us, hl with | [_, _], _ => rfl), m_good_stretches := PySem.W.mg_of X G a14,
    a_is_long := f15, d_is_long := _, F_is_long := fun_mk (st := s_is_long) l15 c15 k15, B_is_long := (fun_mk (st := s_is_long) l15 c15 k15).binds (ps := ["thing", "low", "high"]) (fun _ _ _ _ _ _ us hl => match us, hl with | [_, _, _], _ => rfl), m_is_long := PySem.W.mg_of X G a15,
    a_good_longs := f16, d_good_longs := _, F_good_longs := fun_mk (st := s_good_longs) l16 c16 k16, B_good_longs := (fun_mk (st := s_good_longs) l16 c16 k16).binds (ps := ["longs", "many"]) (fun _ _ _ _ _ _ us hl => match us, hl with | [_, _], _ => rfl), m_good_longs := PySem.W.mg_of X G a16,
    a_Line_init := f17, d_Line_init := _, F_Line_init := funN_mk (st := s_Line_init) l17 c17 k17 lT17 dT17, B_Line_init := funN_full (ps := ["self", "places", "stretches", "longs"]) (funN_mk (st := s_Line_init) l17 c17 k17 lT17 dT17) 4 rfl (fun _ _ _ _ _ _ _ us its hu hi => match us, hu, its, hi with | [_, _, _, _], _, [_], _ => ⟨_, rfl, rfl⟩), Bp_Line_init := funN_part (ps := ["self", "places", "stretches", "longs"]) (funN_mk (st := s_Line_init) l17 c17 k17 lT17 dT17) 3 rfl (fun _ _ _ _ _ _ _ us its hu hi => match us, hu, its, hi with | [_, _, _], _, [_], _ => ⟨_, rfl, rfl⟩),
    a_Line_names := f18, d_Line_names := _, F_Line_names := fun_mk (st := s_Line_names) l18 c18 k18, B_Line_names := (fun_mk (st := s_Line_names) l18 c18 k18).binds (ps := ["self"]) (fun _ _ _ _ _ _ us hl => match us, hl with | [_], _ => rfl),
    a_Line_number_of := f19, d_Line_number_of := _, F_Line_number_of := fun_mk (st := s_Line_number_of) l19 c19 k19, B_Line_number_of := (fun_mk (st := s_Line_number_of) l19 c19 k19).binds (ps := ["self", "name"]) (fun _ _ _ _ _ _ us hl => match us, hl with | [_, _], _ => rfl),
    a_Line_told := f20, d_Line_told := _, F_Line_told := fun_mk (st := s_Line_told) l20 c20 k20, B_Line_told := (fun_mk (st := s_Line_told) l20 c20 k20).binds (ps := ["self"]) (fun _ _ _ _ _ _ us hl => match us, hl with | [_], _ => rfl),
    a_is_form := f21, d_is_form := _, F_is_form := fun_mk (st := s_is_form) l21 c21 k21, B_is_form := (fun_mk (st := s_is_form) l21 c21 k21).binds (ps := ["words"]) (fun _ _ _ _ _ _ us hl => match us, hl with | [_], _ => rfl), m_is_form := PySem.W.mg_of X G a21,
    a_rows_of := f22, d_rows_of := _, F_rows_of := fun_mk (st := s_rows_of) l22 c22 k22, B_rows_of := (fun_mk (st := s_rows_of) l22 c22 k22).binds (ps := ["text"]) (fun _ _ _ _ _ _ us hl => match us, hl with | [_], _ => rfl), m_rows_of := PySem.W.mg_of X G a22,
    a_read_line := f23, d_read_line := _, F_read_line := fun_mk (st := s_read_line) l23 c23 k23, B_read_line := (fun_mk (st := s_read_line) l23 c23 k23).binds (ps := ["text"]) (fun _ _ _ _ _ _ us hl => match us, hl with | [_], _ => rfl), m_read_line := PySem.W.mg_of X G a23,
    a_law_cell := f24, d_law_cell := _, F_law_cell := fun_mk (st := s_law_cell) l24 c24 k24, B_law_cell := (fun_mk (st := s_law_cell) l24 c24 k24).binds (ps := ["_law_script", "_law_k"]) (fun _ _ _ _ _ _ us hl => match us, hl with | [_, _], _ => rfl), m_law_cell := PySem.W.mg_of X G a24,
    a_law_box := f25, d_law_box := _, F_law_box := fun_mk (st := s_law_box) l25 c25 k25, B_law_box := (fun_mk (st := s_law_box) l25 c25 k25).binds (ps := ["_law_cell_here"]) (fun _ _ _ _ _ _ us hl => match us, hl with | [_], _ => rfl), m_law_box := PySem.W.mg_of X G a25,
    a_law_take := f26, d_law_take := _, F_law_take := fun_mk (st := s_law_take) l26 c26 k26, B_law_take := (fun_mk (st := s_law_take) l26 c26 k26).binds (ps := ["_law_box_here", "_law_many"]) (fun _ _ _ _ _ _ us hl => match us, hl with | [_, _], _ => rfl), m_law_take := PySem.W.mg_of X G a26,
    a_law_names := f27, d_law_names := _, F_law_names := fun_mk (st := s_law_names) l27 c27 k27, B_law_names := (fun_mk (st := s_law_names) l27 c27 k27).binds (ps := ["_law_box_here", "_law_many"]) (fun _ _ _ _ _ _ us hl => match us, hl with | [_, _], _ => rfl), m_law_names := PySem.W.mg_of X G a27,
    a_law_world := f28, d_law_world := _, F_law_world := fun_mk (st := s_law_world) l28 c28 k28, B_law_world := (fun_mk (st := s_law_world) l28 c28 k28).binds (ps := ["_law_box_here"]) (fun _ _ _ _ _ _ us hl => match us, hl with | [_], _ => rfl), m_law_world := PySem.W.mg_of X G a28,
    a_law_is_name := f29, d_law_is_name := _, F_law_is_name := fun_mk (st := s_law_is_name) l29 c29 k29, B_law_is_name := (fun_mk (st := s_law_is_name) l29 c29 k29).binds (ps := ["_law_thing"]) (fun _ _ _ _ _ _ us hl => match us, hl with | [_], _ => rfl), m_law_is_name := PySem.W.mg_of X G a29,
    a_law_whole := f30, d_law_whole := _, F_law_whole := fun_mk (st := s_law_whole) l30 c30 k30, B_law_whole := (fun_mk (st := s_law_whole) l30 c30 k30).binds (ps := ["_law_thing", "_law_low", "_law_high"]) (fun _ _ _ _ _ _ us hl => match us, hl with | [_, _, _], _ => rfl), m_law_whole := PySem.W.mg_of X G a30,
    a_law_is_row := f31, d_law_is_row := _, F_law_is_row := fun_mk (st := s_law_is_row) l31 c31 k31, B_law_is_row := (fun_mk (st := s_law_is_row) l31 c31 k31).binds (ps := ["_law_thing", "_law_size"]) (fun _ _ _ _ _ _ us hl => match us, hl with | [_, _], _ => rfl), m_law_is_row := PySem.W.mg_of X G a31,
    a_law_places_due := f32, d_law_places_due := _, F_law_places_due := fun_mk (st := s_law_places_due) l32 c32 k32, B_law_places_due := (fun_mk (st := s_law_places_due) l32 c32 k32).binds (ps := ["_law_places"]) (fun _ _ _ _ _ _ us hl => match us, hl with | [_], _ => rfl), m_law_places_due := PySem.W.mg_of X G a32,
    a_law_due := f33, d_law_due := _, F_law_due := fun_mk (st := s_law_due) l33 c33 k33, B_law_due := (fun_mk (st := s_law_due) l33 c33 k33).binds (ps := ["_law_places", "_law_stretches", "_law_longs"]) (fun _ _ _ _ _ _ us hl => match us, hl with | [_, _, _], _ => rfl), m_law_due := PySem.W.mg_of X G a33,
    a_law_rows := f34, d_law_rows := _, F_law_rows := fun_mk (st := s_law_rows) l34 c34 k34, B_law_rows := (fun_mk (st := s_law_rows) l34 c34 k34).binds (ps := ["_law_world_here"]) (fun _ _ _ _ _ _ us hl => match us, hl with | [_], _ => rfl), m_law_rows := PySem.W.mg_of X G a34,
    a_law_signs := f35, d_law_signs := _, F_law_signs := fun_mk (st := s_law_signs) l35 c35 k35, B_law_signs := (fun_mk (st := s_law_signs) l35 c35 k35).binds (ps := []) (fun _ _ _ _ _ _ us hl => match us, hl with | [], _ => rfl), m_law_signs := PySem.W.mg_of X G a35,
    a_law_word := f36, d_law_word := _, F_law_word := fun_mk (st := s_law_word) l36 c36 k36, B_law_word := (fun_mk (st := s_law_word) l36 c36 k36).binds (ps := ["_law_box_here", "_law_world_here"]) (fun _ _ _ _ _ _ us hl => match us, hl with | [_, _], _ => rfl), m_law_word := PySem.W.mg_of X G a36,
    a_law_row_otherwise := f37, d_law_row_otherwise := _, F_law_row_otherwise := fun_mk (st := s_law_row_otherwise) l37 c37 k37, B_law_row_otherwise := (fun_mk (st := s_law_row_otherwise) l37 c37 k37).binds (ps := ["_law_box_here", "_law_world_here", "_law_rows_here"]) (fun _ _ _ _ _ _ us hl => match us, hl with | [_, _, _], _ => rfl), m_law_row_otherwise := PySem.W.mg_of X G a37,
    a_law_text := f38, d_law_text := _, F_law_text := fun_mk (st := s_law_text) l38 c38 k38, B_law_text := (fun_mk (st := s_law_text) l38 c38 k38).binds (ps := ["_law_box_here", "_law_world_here"]) (fun _ _ _ _ _ _ us hl => match us, hl with | [_, _], _ => rfl), m_law_text := PySem.W.mg_of X G a38,
    a_law_has_form := f39, d_law_has_form := _, F_law_has_form := fun_mk (st := s_law_has_form) l39 c39 k39, B_law_has_form := (fun_mk (st := s_law_has_form) l39 c39 k39).binds (ps := ["_law_words"]) (fun _ _ _ _ _ _ us hl => match us, hl with | [_], _ => rfl), m_law_has_form := PySem.W.mg_of X G a39,
    a_law_read := f40, d_law_read := _, F_law_read := fun_mk (st := s_law_read) l40 c40 k40, B_law_read := (fun_mk (st := s_law_read) l40 c40 k40).binds (ps := ["_law_text_here"]) (fun _ _ _ _ _ _ us hl => match us, hl with | [_], _ => rfl), m_law_read := PySem.W.mg_of X G a40,
    a_law_caught := f41, d_law_caught := _, F_law_caught := fun_mk (st := s_law_caught) l41 c41 k41, B_law_caught := (fun_mk (st := s_law_caught) l41 c41 k41).binds (ps := ["_law_text_here"]) (fun _ _ _ _ _ _ us hl => match us, hl with | [_], _ => rfl), m_law_caught := PySem.W.mg_of X G a41,
    a_law := f42, d_law := _, F_law := fun_mk (st := s_law) l42 c42 k42, B_law := (fun_mk (st := s_law) l42 c42 k42).binds (ps := ["_law_script"]) (fun _ _ _ _ _ _ us hl => match us, hl with | [_], _ => rfl), m_law := PySem.W.mg_of X G a42,
    cl_Line := ⟨pg_Line, hd_Line, po_Line, sa_Line⟩,
    mk_Line := ⟨mk_Line, a17, if_Line, kc_Line⟩,
    na_Line_kept_places := na_Line_kept_places,
    na_Line_kept_stretches := na_Line_kept_stretches,
    na_Line_kept_longs := na_Line_kept_longs,
    M_Line_names := ⟨a18, fn_Line_names, k18⟩,
    M_Line_number_of := ⟨a19, fn_Line_number_of, k19⟩,
    M_Line_told := ⟨a20, fn_Line_told, k20⟩,
    er_NoName := ⟨⟨⟨_, _, _, _, _, _, _, _, _, _, _, _, _, _, _, xL_NoName, ve_NoName⟩, sa_NoName, ex_NoName, ty_NoName, kC_NoName⟩, ⟨ga_NoName, gg_NoName, ex_NoName, hd_NoName⟩, no_NoName, a1, ti_NoName, ha_NoName, hm_NoName⟩,
    er_NoPlace := ⟨⟨⟨_, _, _, _, _, _, _, _, _, _, _, _, _, _, _, xL_NoPlace, ve_NoPlace⟩, sa_NoPlace, ex_NoPlace, ty_NoPlace, kC_NoPlace⟩, ⟨ga_NoPlace, gg_NoPlace, ex_NoPlace, hd_NoPlace⟩, no_NoPlace, a2, ti_NoPlace, ha_NoPlace, hm_NoPlace⟩,
    er_NoPlaces := ⟨⟨⟨_, _, _, _, _, _, _, _, _, _, _, _, _, _, _, xL_NoPlaces, ve_NoPlaces⟩, sa_NoPlaces, ex_NoPlaces, ty_NoPlaces, kC_NoPlaces⟩, ⟨ga_NoPlaces, gg_NoPlaces, ex_NoPlaces, hd_NoPlaces⟩, no_NoPlaces, a3, ti_NoPlaces, ha_NoPlaces, hm_NoPlaces⟩,
    er_NoStretches := ⟨⟨⟨_, _, _, _, _, _, _, _, _, _, _, _, _, _, _, xL_NoStretches, ve_NoStretches⟩, sa_NoStretches, ex_NoStretches, ty_NoStretches, kC_NoStretches⟩, ⟨ga_NoStretches, gg_NoStretches, ex_NoStretches, hd_NoStretches⟩, no_NoStretches, a4, ti_NoStretches, ha_NoStretches, hm_NoStretches⟩,
    er_NoLongs := ⟨⟨⟨_, _, _, _, _, _, _, _, _, _, _, _, _, _, _, xL_NoLongs, ve_NoLongs⟩, sa_NoLongs, ex_NoLongs, ty_NoLongs, kC_NoLongs⟩, ⟨ga_NoLongs, gg_NoLongs, ex_NoLongs, hd_NoLongs⟩, no_NoLongs, a5, ti_NoLongs, ha_NoLongs, hm_NoLongs⟩,
    er_NoNumber := ⟨⟨⟨_, _, _, _, _, _, _, _, _, _, _, _, _, _, _, xL_NoNumber, ve_NoNumber⟩, sa_NoNumber, ex_NoNumber, ty_NoNumber, kC_NoNumber⟩, ⟨ga_NoNumber, gg_NoNumber, ex_NoNumber, hd_NoNumber⟩, no_NoNumber, a6, ti_NoNumber, ha_NoNumber, hm_NoNumber⟩,
    er_Twice := ⟨⟨⟨_, _, _, _, _, _, _, _, _, _, _, _, _, _, _, xL_Twice, ve_Twice⟩, sa_Twice, ex_Twice, ty_Twice, kC_Twice⟩, ⟨ga_Twice, gg_Twice, ex_Twice, hd_Twice⟩, no_Twice, a7, ti_Twice, ha_Twice, hm_Twice⟩,
    er_NoText := ⟨⟨⟨_, _, _, _, _, _, _, _, _, _, _, _, _, _, _, xL_NoText, ve_NoText⟩, sa_NoText, ex_NoText, ty_NoText, kC_NoText⟩, ⟨ga_NoText, gg_NoText, ex_NoText, hd_NoText⟩, no_NoText, a8, ti_NoText, ha_NoText, hm_NoText⟩,
    rd_StaffError := ⟨rd_StaffError, rg_StaffError⟩, vi_StaffError := vi_StaffError,
    oc_get := oc_get, oc_take := oc_take,
    ex_NoText_NoText := ex_NoText_NoText,
    ex_NoPlaces_NoText := ex_NoPlaces_NoText,
    ex_NoPlaces_NoPlaces := ex_NoPlaces_NoPlaces,
    ex_Twice_NoText := ex_Twice_NoText,
    ex_Twice_NoPlaces := ex_Twice_NoPlaces,
    ex_Twice_NoName := ex_Twice_NoName,
    ex_Twice_Twice := ex_Twice_Twice,
    ex_NoNumber_NoText := ex_NoNumber_NoText,
    ex_NoNumber_NoPlaces := ex_NoNumber_NoPlaces,
    ex_NoNumber_NoName := ex_NoNumber_NoName,
    ex_NoNumber_Twice := ex_NoNumber_Twice,
    ex_NoNumber_NoNumber := ex_NoNumber_NoNumber,
    ex_NoStretches_NoText := ex_NoStretches_NoText,
    ex_NoStretches_NoPlaces := ex_NoStretches_NoPlaces,
    ex_NoStretches_NoName := ex_NoStretches_NoName,
    ex_NoStretches_Twice := ex_NoStretches_Twice,
    ex_NoStretches_NoNumber := ex_NoStretches_NoNumber,
    ex_NoStretches_NoStretches := ex_NoStretches_NoStretches,
    ex_NoPlace_NoText := ex_NoPlace_NoText,
    ex_NoPlace_NoPlaces := ex_NoPlace_NoPlaces,
    ex_NoPlace_NoName := ex_NoPlace_NoName,
    ex_NoPlace_Twice := ex_NoPlace_Twice,
    ex_NoPlace_NoNumber := ex_NoPlace_NoNumber,
    ex_NoPlace_NoStretches := ex_NoPlace_NoStretches,
    ex_NoPlace_NoPlace := ex_NoPlace_NoPlace,
    ex_NoLongs_NoText := ex_NoLongs_NoText,
    ex_NoLongs_NoPlaces := ex_NoLongs_NoPlaces,
    ex_NoLongs_NoName := ex_NoLongs_NoName,
    ex_NoLongs_Twice := ex_NoLongs_Twice,
    ex_NoLongs_NoNumber := ex_NoLongs_NoNumber,
    ex_NoLongs_NoStretches := ex_NoLongs_NoStretches,
    ex_NoLongs_NoPlace := ex_NoLongs_NoPlace,
    ex_NoLongs_NoLongs := ex_NoLongs_NoLongs,
    c_LONGEST := u_LONGEST, mc_LONGEST := PySem.W.mg_of X G g_LONGEST, rc_LONGEST := r_LONGEST,
    c_LETTERS := u_LETTERS, mc_LETTERS := PySem.W.mg_of X G g_LETTERS, rc_LETTERS := r_LETTERS,
    c_FEWEST_PLACES := u_FEWEST_PLACES, mc_FEWEST_PLACES := PySem.W.mg_of X G g_FEWEST_PLACES, rc_FEWEST_PLACES := r_FEWEST_PLACES,
    c_MOST_PLACES := u_MOST_PLACES, mc_MOST_PLACES := PySem.W.mg_of X G g_MOST_PLACES, rc_MOST_PLACES := r_MOST_PLACES,
    c_MOST_ROADS := u_MOST_ROADS, mc_MOST_ROADS := PySem.W.mg_of X G g_MOST_ROADS, rc_MOST_ROADS := r_MOST_ROADS,
    c_MOST_LONGS := u_MOST_LONGS, mc_MOST_LONGS := PySem.W.mg_of X G g_MOST_LONGS, rc_MOST_LONGS := r_MOST_LONGS,
    t_HOMES := t_HOMES, mt_HOMES := PySem.W.mg_of X G gt_HOMES, kt_HOMES := KT.mk' lt_HOMES kt_HOMES,
    t_SORTS := t_SORTS, mt_SORTS := PySem.W.mg_of X G gt_SORTS, kt_SORTS := KT.mk' lt_SORTS kt_SORTS,
    z_all := PySem.W.mg_none_of X G z_all,
    z_bool := PySem.W.mg_none_of X G z_bool,
    z_enumerate := PySem.W.mg_none_of X G z_enumerate,
    z_int := PySem.W.mg_none_of X G z_int,
    z_isinstance := PySem.W.mg_none_of X G z_isinstance,
    z_len := PySem.W.mg_none_of X G z_len,
    z_list := PySem.W.mg_none_of X G z_list,
    z_max := PySem.W.mg_none_of X G z_max,
    z_min := PySem.W.mg_none_of X G z_min,
    z_range := PySem.W.mg_none_of X G z_range,
    z_repr := PySem.W.mg_none_of X G z_repr,
    z_str := PySem.W.mg_none_of X G z_str,
    z_tuple := PySem.W.mg_none_of X G z_tuple }
  rw [e]
  exact ⟨T.d_law, fun s v => .of_eq rfl, fun base _ _ hs => ok_law T hs⟩
theorem walk {l : PySem.W.OpenLaw} {q : Program} {lo : List Str} {XP : (Str → Option Value) → Heap → Prop} {YP : World → Heap → Prop} {d : DefRec} {K : Params → PySem.W.Frag} (hn : l.most = some 63) (hdf : d.params.defaults = []) (hi : PyProof.Rows.importsNone q = true)
    (hY : ∀ (w : World) (h : Heap), YP w h → (K w.params).In h)
    (F : ∀ (w : World) (mg : Str → Option Value) (fa : Addr) (h : Heap), (K w.params).In h → h.Ns mainGlobals mg → mg d.name = some (.ref fa) →
      ∃ fd : FuncData, (∀ (s : Shared) (u : Value), BindsTo s fd ⟨[u], []⟩ [("_law_script", u)]) ∧ ∀ base : Heap, (K w.params).In base → base.Ns mainGlobals mg → (∃ mm, base.Ns sysModules mm) → FnG l.prog w (K w.params) mg base (L2.CX l.prog w) 8 fa fd ["_law_script"] (sp_law (K w.params))) :
    PySem.W.WalkO q lo XP YP l.row.toRowW d [] (fun f vs => PySem.call f vs) :=
  walkG (n := 63) (k := 8) (x := "_law_script") (cx := fun w => L2.CX l.prog w) (sp := fun w => sp_law (K w.params)) hn (by decide) hdf ⟨rfl, by decide, by decide⟩ hi hY F (fun _ _ a ns hl _ hS => ⟨_, rfl, a, ns, rfl, hS, hl, fun _ => rfl⟩) fun _ _ _ _ _ z => by obtain ⟨_, _, _, _, _, _, _, _, _, _, _, _, y⟩ := z; exact y
end K08
open PySem PySem.W PyProof.Rows
set_option maxRecDepth 100000 in
set_option maxHeartbeats 0 in
theorem PySem.Challenge.cw_onestaff_k08_whole_line_texts_holds : PySem.Challenge.rw_onestaff_k08_whole_line_texts.Holds := by
  w_on; o_law; k_head; (case hw => w_witness2)
  k_fill
  refine K08.walk (l := PySem.Challenge.rw_onestaff_k08_whole_line_texts) rfl rfl rfl (fun w h Y => PySem.W.kIn_of Y) ?F
  case F =>
    intro w mg fa h KX G hmg
    refine' K08.all_mk KX G hmg ?n_Line ?n_NoName ?n_NoPlace ?n_NoPlaces ?n_NoStretches ?n_NoLongs ?n_NoNumber ?n_Twice ?n_NoText ?n_StaffError ?a1 ?l1 ?c1 ?k1 ?a2 ?l2 ?c2 ?k2 ?a3 ?l3 ?c3 ?k3 ?a4 ?l4 ?c4 ?k4 ?a5 ?l5 ?c5 ?k5 ?a6 ?l6 ?c6 ?k6 ?a7 ?l7 ?c7 ?k7 ?a8 ?l8 ?c8 ?k8 ?a9 ?l9 ?c9 ?k9 ?a10 ?l10 ?c10 ?k10 ?a11 ?l11 ?c11 ?k11 ?a12 ?l12 ?c12 ?k12 ?a13 ?l13 ?c13 ?k13 ?a14 ?l14 ?c14 ?k14 ?a15 ?l15 ?c15 ?k15 ?a16 ?l16 ?c16 ?k16 ?a17 ?l17 ?c17 ?k17 ?lT17 ?dT17 ?a18 ?l18 ?c18 ?k18 ?a19 ?l19 ?c19 ?k19 ?a20 ?l20 ?c20 ?k20 ?a21 ?l21 ?c21 ?k21 ?a22 ?l22 ?c22 ?k22 ?a23 ?l23 ?c23 ?k23 ?a24 ?l24 ?c24 ?k24 ?a25 ?l25 ?c25 ?k25 ?a26 ?l26 ?c26 ?k26 ?a27 ?l27 ?c27 ?k27 ?a28 ?l28 ?c28 ?k28 ?a29 ?l29 ?c29 ?k29 ?a30 ?l30 ?c30 ?k30 ?a31 ?l31 ?c31 ?k31 ?a32 ?l32 ?c32 ?k32 ?a33 ?l33 ?c33 ?k33 ?a34 ?l34 ?c34 ?k34 ?a35 ?l35 ?c35 ?k35 ?a36 ?l36 ?c36 ?k36 ?a37 ?l37 ?c37 ?k37 ?a38 ?l38 ?c38 ?k38 ?a39 ?l39 ?c39 ?k39 ?a40 ?l40 ?c40 ?k40 ?a41 ?l41 ?c41 ?k41 ?a42 ?l42 ?c42 ?k42 ?pg_Line ?hd_Line ?po_Line ?sa_Line ?mk_Line ?kc_Line ?if_Line ?na_Line_kept_places ?na_Line_kept_stretches ?na_Line_kept_longs ?fn_Line_names ?fn_Line_number_of ?fn_Line_told ?xL_NoName ?ve_NoName ?sa_NoName ?ga_NoName ?gg_NoName ?no_NoName ?ex_NoName ?ty_NoName ?kC_NoName ?hd_NoName ?ha_NoName ?hm_NoName ?ti_NoName ?xL_NoPlace ?ve_NoPlace ?sa_NoPlace ?ga_NoPlace ?gg_NoPlace ?no_NoPlace ?ex_NoPlace ?ty_NoPlace ?kC_NoPlace ?hd_NoPlace ?ha_NoPlace ?hm_NoPlace ?ti_NoPlace ?xL_NoPlaces ?ve_NoPlaces ?sa_NoPlaces ?ga_NoPlaces ?gg_NoPlaces ?no_NoPlaces ?ex_NoPlaces ?ty_NoPlaces ?kC_NoPlaces ?hd_NoPlaces ?ha_NoPlaces ?hm_NoPlaces ?ti_NoPlaces ?xL_NoStretches ?ve_NoStretches ?sa_NoStretches ?ga_NoStretches ?gg_NoStretches ?no_NoStretches ?ex_NoStretches ?ty_NoStretches ?kC_NoStretches ?hd_NoStretches ?ha_NoStretches ?hm_NoStretches ?ti_NoStretches ?xL_NoLongs ?ve_NoLongs ?sa_NoLongs ?ga_NoLongs ?gg_NoLongs ?no_NoLongs ?ex_NoLongs ?ty_NoLongs ?kC_NoLongs ?hd_NoLongs ?ha_NoLongs ?hm_NoLongs ?ti_NoLongs ?xL_NoNumber ?ve_NoNumber ?sa_NoNumber ?ga_NoNumber ?gg_NoNumber ?no_NoNumber ?ex_NoNumber ?ty_NoNumber ?kC_NoNumber ?hd_NoNumber ?ha_NoNumber ?hm_NoNumber ?ti_NoNumber ?xL_Twice ?ve_Twice ?sa_Twice ?ga_Twice ?gg_Twice ?no_Twice ?ex_Twice ?ty_Twice ?kC_Twice ?hd_Twice ?ha_Twice ?hm_Twice ?ti_Twice ?xL_NoText ?ve_NoText ?sa_NoText ?ga_NoText ?gg_NoText ?no_NoText ?ex_NoText ?ty_NoText ?kC_NoText ?hd_NoText ?ha_NoText ?hm_NoText ?ti_NoText ?rd_StaffError ?rg_StaffError ?vi_StaffError ?oc_get ?oc_take ?ex_NoText_NoText ?ex_NoPlaces_NoText ?ex_NoPlaces_NoPlaces ?ex_Twice_NoText ?ex_Twice_NoPlaces ?ex_Twice_NoName ?ex_Twice_Twice ?ex_NoNumber_NoText ?ex_NoNumber_NoPlaces ?ex_NoNumber_NoName ?ex_NoNumber_Twice ?ex_NoNumber_NoNumber ?ex_NoStretches_NoText ?ex_NoStretches_NoPlaces ?ex_NoStretches_NoName ?ex_NoStretches_Twice ?ex_NoStretches_NoNumber ?ex_NoStretches_NoStretches ?ex_NoPlace_NoText ?ex_NoPlace_NoPlaces ?ex_NoPlace_NoName ?ex_NoPlace_Twice ?ex_NoPlace_NoNumber ?ex_NoPlace_NoStretches ?ex_NoPlace_NoPlace ?ex_NoLongs_NoText ?ex_NoLongs_NoPlaces ?ex_NoLongs_NoName ?ex_NoLongs_Twice ?ex_NoLongs_NoNumber ?ex_NoLongs_NoStretches ?ex_NoLongs_NoPlace ?ex_NoLongs_NoLongs ?g_LONGEST ?r_LONGEST ?g_LETTERS ?r_LETTERS ?g_FEWEST_PLACES ?r_FEWEST_PLACES ?g_MOST_PLACES ?r_MOST_PLACES ?g_MOST_ROADS ?r_MOST_ROADS ?g_MOST_LONGS ?r_MOST_LONGS ?gt_HOMES ?lt_HOMES ?kt_HOMES ?gt_SORTS ?lt_SORTS ?kt_SORTS ?z_all ?z_bool ?z_enumerate ?z_int ?z_isinstance ?z_len ?z_list ?z_max ?z_min ?z_range ?z_repr ?z_str ?z_tuple
    (case n_Line => k_is)
    (case n_NoName => k_is)
    (case n_NoPlace => k_is)
    (case n_NoPlaces => k_is)
    (case n_NoStretches => k_is)
    (case n_NoLongs => k_is)
    (case n_NoNumber => k_is)
    (case n_Twice => k_is)
    (case n_NoText => k_is)
    (case n_StaffError => k_is)
    (case a1 => k_is)
    (case l1 => k_is)
    (case c1 => k_is)
    (case k1 => k_is)
    (case a2 => k_is)
    (case l2 => k_is)
    (case c2 => k_is)
    (case k2 => k_is)
    (case a3 => k_is)
    (case l3 => k_is)
    (case c3 => k_is)
    (case k3 => k_is)
    (case a4 => k_is)
    (case l4 => k_is)
    (case c4 => k_is)
    (case k4 => k_is)
    (case a5 => k_is)
    (case l5 => k_is)
    (case c5 => k_is)
    (case k5 => k_is)
    (case a6 => k_is)
    (case l6 => k_is)
    (case c6 => k_is)
    (case k6 => k_is)
    (case a7 => k_is)
    (case l7 => k_is)
    (case c7 => k_is)
    (case k7 => k_is)
    (case a8 => k_is)
    (case l8 => k_is)
    (case c8 => k_is)
    (case k8 => k_is)
    (case a9 => k_is)
    (case l9 => k_is)
    (case c9 => k_is)
    (case k9 => k_is)
    (case a10 => k_is)
    (case l10 => k_is)
    (case c10 => k_is)
    (case k10 => k_is)
    (case a11 => k_is)
    (case l11 => k_is)
    (case c11 => k_is)
    (case k11 => k_is)
    (case a12 => k_is)
    (case l12 => k_is)
    (case c12 => k_is)
    (case k12 => k_is)
    (case a13 => k_is)
    (case l13 => k_is)
    (case c13 => k_is)
    (case k13 => k_is)
    (case a14 => k_is)
    (case l14 => k_is)
    (case c14 => k_is)
    (case k14 => k_is)
    (case a15 => k_is)
    (case l15 => k_is)
    (case c15 => k_is)
    (case k15 => k_is)
    (case a16 => k_is)
    (case l16 => k_is)
    (case c16 => k_is)
    (case k16 => k_is)
    (case a17 => k_is)
    (case l17 => k_is)
    (case c17 => k_is)
    (case k17 => k_is)
    (case lT17 => k_is)
    (case dT17 => rfl)
    (case a18 => k_is)
    (case l18 => k_is)
    (case c18 => k_is)
    (case k18 => k_is)
    (case a19 => k_is)
    (case l19 => k_is)
    (case c19 => k_is)
    (case k19 => k_is)
    (case a20 => k_is)
    (case l20 => k_is)
    (case c20 => k_is)
    (case k20 => k_is)
    (case a21 => k_is)
    (case l21 => k_is)
    (case c21 => k_is)
    (case k21 => k_is)
    (case a22 => k_is)
    (case l22 => k_is)
    (case c22 => k_is)
    (case k22 => k_is)
    (case a23 => k_is)
    (case l23 => k_is)
    (case c23 => k_is)
    (case k23 => k_is)
    (case a24 => k_is)
    (case l24 => k_is)
    (case c24 => k_is)
    (case k24 => k_is)
    (case a25 => k_is)
    (case l25 => k_is)
    (case c25 => k_is)
    (case k25 => k_is)
    (case a26 => k_is)
    (case l26 => k_is)
    (case c26 => k_is)
    (case k26 => k_is)
    (case a27 => k_is)
    (case l27 => k_is)
    (case c27 => k_is)
    (case k27 => k_is)
    (case a28 => k_is)
    (case l28 => k_is)
    (case c28 => k_is)
    (case k28 => k_is)
    (case a29 => k_is)
    (case l29 => k_is)
    (case c29 => k_is)
    (case k29 => k_is)
    (case a30 => k_is)
    (case l30 => k_is)
    (case c30 => k_is)
    (case k30 => k_is)
    (case a31 => k_is)
    (case l31 => k_is)
    (case c31 => k_is)
    (case k31 => k_is)
    (case a32 => k_is)
    (case l32 => k_is)
    (case c32 => k_is)
    (case k32 => k_is)
    (case a33 => k_is)
    (case l33 => k_is)
    (case c33 => k_is)
    (case k33 => k_is)
    (case a34 => k_is)
    (case l34 => k_is)
    (case c34 => k_is)
    (case k34 => k_is)
    (case a35 => k_is)
    (case l35 => k_is)
    (case c35 => k_is)
    (case k35 => k_is)
    (case a36 => k_is)
    (case l36 => k_is)
    (case c36 => k_is)
    (case k36 => k_is)
    (case a37 => k_is)
    (case l37 => k_is)
    (case c37 => k_is)
    (case k37 => k_is)
    (case a38 => k_is)
    (case l38 => k_is)
    (case c38 => k_is)
    (case k38 => k_is)
    (case a39 => k_is)
    (case l39 => k_is)
    (case c39 => k_is)
    (case k39 => k_is)
    (case a40 => k_is)
    (case l40 => k_is)
    (case c40 => k_is)
    (case k40 => k_is)
    (case a41 => k_is)
    (case l41 => k_is)
    (case c41 => k_is)
    (case k41 => k_is)
    (case a42 => k_is)
    (case l42 => k_is)
    (case c42 => k_is)
    (case k42 => k_is)
    (case pg_Line => k_is)
    (case hd_Line => k_is)
    (case po_Line => k_is)
    (case sa_Line => k_is)
    (case mk_Line => k_is)
    (case kc_Line => k_is)
    (case if_Line => k_is)
    (case na_Line_kept_places => k_is)
    (case na_Line_kept_stretches => k_is)
    (case na_Line_kept_longs => k_is)
    (case fn_Line_names => k_is)
    (case fn_Line_number_of => k_is)
    (case fn_Line_told => k_is)
    (case xL_NoName => k_is)
    (case ve_NoName => rfl)
    (case sa_NoName => k_is)
    (case ga_NoName => k_is)
    (case gg_NoName => k_is)
    (case no_NoName => k_is)
    (case ex_NoName => k_is)
    (case ty_NoName => k_is)
    (case kC_NoName => k_is)
    (case hd_NoName => k_is)
    (case ha_NoName => k_is)
    (case hm_NoName => k_is)
    (case ti_NoName => k_is)
    (case xL_NoPlace => k_is)
    (case ve_NoPlace => rfl)
    (case sa_NoPlace => k_is)
    (case ga_NoPlace => k_is)
    (case gg_NoPlace => k_is)
    (case no_NoPlace => k_is)
    (case ex_NoPlace => k_is)
    (case ty_NoPlace => k_is)
    (case kC_NoPlace => k_is)
    (case hd_NoPlace => k_is)
    (case ha_NoPlace => k_is)
    (case hm_NoPlace => k_is)
    (case ti_NoPlace => k_is)
    (case xL_NoPlaces => k_is)
    (case ve_NoPlaces => rfl)
    (case sa_NoPlaces => k_is)
    (case ga_NoPlaces => k_is)
    (case gg_NoPlaces => k_is)
    (case no_NoPlaces => k_is)
    (case ex_NoPlaces => k_is)
    (case ty_NoPlaces => k_is)
    (case kC_NoPlaces => k_is)
    (case hd_NoPlaces => k_is)
    (case ha_NoPlaces => k_is)
    (case hm_NoPlaces => k_is)
    (case ti_NoPlaces => k_is)
    (case xL_NoStretches => k_is)
    (case ve_NoStretches => rfl)
    (case sa_NoStretches => k_is)
    (case ga_NoStretches => k_is)
    (case gg_NoStretches => k_is)
    (case no_NoStretches => k_is)
    (case ex_NoStretches => k_is)
    (case ty_NoStretches => k_is)
    (case kC_NoStretches => k_is)
    (case hd_NoStretches => k_is)
    (case ha_NoStretches => k_is)
    (case hm_NoStretches => k_is)
    (case ti_NoStretches => k_is)
    (case xL_NoLongs => k_is)
    (case ve_NoLongs => rfl)
    (case sa_NoLongs => k_is)
    (case ga_NoLongs => k_is)
    (case gg_NoLongs => k_is)
    (case no_NoLongs => k_is)
    (case ex_NoLongs => k_is)
    (case ty_NoLongs => k_is)
    (case kC_NoLongs => k_is)
    (case hd_NoLongs => k_is)
    (case ha_NoLongs => k_is)
    (case hm_NoLongs => k_is)
    (case ti_NoLongs => k_is)
    (case xL_NoNumber => k_is)
    (case ve_NoNumber => rfl)
    (case sa_NoNumber => k_is)
    (case ga_NoNumber => k_is)
    (case gg_NoNumber => k_is)
    (case no_NoNumber => k_is)
    (case ex_NoNumber => k_is)
    (case ty_NoNumber => k_is)
    (case kC_NoNumber => k_is)
    (case hd_NoNumber => k_is)
    (case ha_NoNumber => k_is)
    (case hm_NoNumber => k_is)
    (case ti_NoNumber => k_is)
    (case xL_Twice => k_is)
    (case ve_Twice => rfl)
    (case sa_Twice => k_is)
    (case ga_Twice => k_is)
    (case gg_Twice => k_is)
    (case no_Twice => k_is)
    (case ex_Twice => k_is)
    (case ty_Twice => k_is)
    (case kC_Twice => k_is)
    (case hd_Twice => k_is)
    (case ha_Twice => k_is)
    (case hm_Twice => k_is)
    (case ti_Twice => k_is)
    (case xL_NoText => k_is)
    (case ve_NoText => rfl)
    (case sa_NoText => k_is)
    (case ga_NoText => k_is)
    (case gg_NoText => k_is)
    (case no_NoText => k_is)
    (case ex_NoText => k_is)
    (case ty_NoText => k_is)
    (case kC_NoText => k_is)
    (case hd_NoText => k_is)
    (case ha_NoText => k_is)
    (case hm_NoText => k_is)
    (case ti_NoText => k_is)
    (case rd_StaffError => k_is)
    (case rg_StaffError => k_is)
    (case vi_StaffError => k_is)
    (case oc_get => k_is)
    (case oc_take => k_is)
    (case ex_NoText_NoText => kts_exm)
    (case ex_NoPlaces_NoText => kts_exm)
    (case ex_NoPlaces_NoPlaces => kts_exm)
    (case ex_Twice_NoText => kts_exm)
    (case ex_Twice_NoPlaces => kts_exm)
    (case ex_Twice_NoName => kts_exm)
    (case ex_Twice_Twice => kts_exm)
    (case ex_NoNumber_NoText => kts_exm)
    (case ex_NoNumber_NoPlaces => kts_exm)
    (case ex_NoNumber_NoName => kts_exm)
    (case ex_NoNumber_Twice => kts_exm)
    (case ex_NoNumber_NoNumber => kts_exm)
    (case ex_NoStretches_NoText => kts_exm)
    (case ex_NoStretches_NoPlaces => kts_exm)
    (case ex_NoStretches_NoName => kts_exm)
    (case ex_NoStretches_Twice => kts_exm)
    (case ex_NoStretches_NoNumber => kts_exm)
    (case ex_NoStretches_NoStretches => kts_exm)
    (case ex_NoPlace_NoText => kts_exm)
    (case ex_NoPlace_NoPlaces => kts_exm)
    (case ex_NoPlace_NoName => kts_exm)
    (case ex_NoPlace_Twice => kts_exm)
    (case ex_NoPlace_NoNumber => kts_exm)
    (case ex_NoPlace_NoStretches => kts_exm)
    (case ex_NoPlace_NoPlace => kts_exm)
    (case ex_NoLongs_NoText => kts_exm)
    (case ex_NoLongs_NoPlaces => kts_exm)
    (case ex_NoLongs_NoName => kts_exm)
    (case ex_NoLongs_Twice => kts_exm)
    (case ex_NoLongs_NoNumber => kts_exm)
    (case ex_NoLongs_NoStretches => kts_exm)
    (case ex_NoLongs_NoPlace => kts_exm)
    (case ex_NoLongs_NoLongs => kts_exm)
    (case g_LONGEST => k_is)
    (case r_LONGEST => exact ⟨_, rfl⟩)
    (case g_LETTERS => k_is)
    (case r_LETTERS => exact ⟨_, rfl⟩)
    (case g_FEWEST_PLACES => k_is)
    (case r_FEWEST_PLACES => exact ⟨_, rfl⟩)
    (case g_MOST_PLACES => k_is)
    (case r_MOST_PLACES => exact ⟨_, rfl⟩)
    (case g_MOST_ROADS => k_is)
    (case r_MOST_ROADS => exact ⟨_, rfl⟩)
    (case g_MOST_LONGS => k_is)
    (case r_MOST_LONGS => exact ⟨_, rfl⟩)
    (case gt_HOMES => k_is)
    (case lt_HOMES => k_is)
    (case kt_HOMES => exact ⟨⟨rfl, rfl⟩, _, _, rfl, by decide, (.cons ⟨_, rfl⟩ (.cons ⟨_, rfl⟩ .nil))⟩)
    (case gt_SORTS => k_is)
    (case lt_SORTS => k_is)
    (case kt_SORTS => exact ⟨⟨rfl, rfl⟩, _, _, rfl, by decide, (.cons ⟨_, rfl⟩ (.cons ⟨_, rfl⟩ (.cons ⟨_, rfl⟩ .nil)))⟩)
    (case z_all => k_is)
    (case z_bool => k_is)
    (case z_enumerate => k_is)
    (case z_int => k_is)
    (case z_isinstance => k_is)
    (case z_len => k_is)
    (case z_list => k_is)
    (case z_max => k_is)
    (case z_min => k_is)
    (case z_range => k_is)
    (case z_repr => k_is)
    (case z_str => k_is)
    (case z_tuple => k_is)
#print axioms PySem.Challenge.cw_onestaff_k08_whole_line_texts_holds

