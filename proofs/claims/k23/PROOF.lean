import PyProof.Rows.All
import Wide.All
import OpenK.AllK
import Wide.FinOn
import HandS.ForMost
import KE.RegKTryMore
import KE.RegKIsAll
import PyProof.ReprRoads
import HandS.EndBits
import PyProof.ReprBulk
import PyProof.StrLaws
import HandS.Wide
import HandS.IsInst
import HandS.TupAny
import HandS.Walk
import HandS.Small
import HandS.ForExc
import HandS.ExcInit
import HandS.ExcField
import HandS.ClsMeth
import HandS.Codes
import KE.KExcIs
import HandS.SortInts
import PyProof.P3Eq
import HandS.TupLe
import HandS.Defaults
import HandS.Iter
import KE.GoesEnum
import HandS.TryOnly
import HandS.Conv
import HandS.Sort
import PyProof.RangeFor
import PyProof.EqKinds
import HandS.Deep
import HandS.Text
import HandS.FStr
import HandS.Strs
import PyProof.StrLawsTight
import HandS.Zip
import HandS.RaiseMore
import HandS.HeadHook3
import KE.GoesZip
import KE.GoesMore
import HandS.Replace
import PyProof.StrBlock2
import PyProof.ListStr
import HandS.Style
import PySem.Challenge.RW_onestaff_k23_whole_one_right
set_option Elab.async false
set_option linter.all false
set_option maxRecDepth 100000
set_option maxHeartbeats 4000000

namespace U
open PySem L2 PySem.Spec PyProof.Rows

/-! a def's promise where no repr is under way around it -/
section
variable (P : Program) (w : World) (K : PySem.W.Frag) (mg : Str → Option Value) (base : Heap)
structure FnG (cx : CXT) (k : Nat) (f : Addr) (fd : FuncData) (ps : List Str) (sp : Sp) : Prop where
  len : ∀ vs H Q E, sp vs H Q E → vs.length = ps.length
  run : ∀ (A : Around) (o : List Env) (s : Shared) (H : Hp) (ar : Args) (us : List Value) (vs : List V) (Q : VK) (E : XK),
    A.guards = some [] → Room k A → Env0 P w K mg base A o s H → BindsTo s fd ar (ps.zip us) → Vals vs us → sp vs H Q E →
    codeAny (model P w) A (.call (.ref f) ar) (CR cx o P w H s Q E) s
end
section
variable {P : Program} {w : World} {K : PySem.W.Frag} {mg : Str → Option Value} {base : Heap} {cx : CXT} {k : Nat} {f : Addr} {fd : FuncData} {ps : List Str} {sp : Sp}
theorem FnG.of (F : FnOk P w K mg base cx k f fd ps sp) : FnG P w K mg base cx k f fd ps sp :=
  ⟨F.len, fun A o s H ar us vs Q E _ => F.run A o s H ar us vs Q E⟩
theorem FnG.mono {j : Nat} (F : FnG P w K mg base cx j f fd ps sp) (h : j ≤ k) : FnG P w K mg base cx k f fd ps sp :=
  ⟨F.len, fun A o s H ar us vs Q E g r => F.run A o s H ar us vs Q E g (r.mono h)⟩

theorem fnG_of {nm ql : Str} {pr : Arguments} {bd : List Stmt} {sc : Scope} {dV kV dc pm cd ct oc : Value} {an od : Option Addr} {os : Array (Option Value)} {N : List Str}
    (lk : K.lookup f = some ⟨oc, od, .func (PySem.W.fnOf nm ql pr bd sc dV kV dc pm an cd ct), os⟩) (hc : PySem.W.codeIn K cd ql = true) (S : FnScope N ps sc)
    (len : ∀ vs H Q E, sp vs H Q E → vs.length = ps.length)
    (hb : ∀ (A : Around) (o : List Env) (s : Shared) (H : Hp) (vs : List V) (Q : VK) (E : XK), A.guards = some [] → Room k (A.deeper (envOfC ql sc s.heap.objs.size f cd)) → sp vs H Q E →
      ∃ t, PSs (cxOf cx P w K mg base N ql sc f cd A o s H E) bd t ∧ t { nx := fun _ H' => Q .non H', rt := Q } (start N vs) H) :
    FnG P w K mg base cx (k + 1) f (PySem.W.fnOf nm ql pr bd sc dV kV dc pm an cd ct) ps sp where
  len := len
  run := by
    intro A o s H ar us vs Q E hg hr e0 bi vv q
    have hl := len vs H Q E q
    have kp : ∀ b ob, base.get? b = some ob → s.heap.get? b = some ob := fun b ob e => (e0.bs b ob e).1
    have KX : K.In s.heap := e0.mod.kin.keeps kp
    have nl : s.heap.NoLimit := e0.mod.nolimit.keeps kp
    refine codeAny_call_function hr.depth (KX f _ lk) rfl S.co S.gen rfl (PySem.W.codeRec_of KX hc) (bi _ _ _ _ ?_)
    refine wpAny_newFunctionEnv_cells S.kind (fun y hy => ?_) fun ev he s1 x => ?_
    · obtain ⟨n, v⟩ := y
      rcases S.par n (List.of_mem_zip hy).1 with e | e
      · exact Or.inl e
      · exact Or.inr ⟨e, PySem.W.cellsFrom_some _ _ _ (Or.inl e)⟩
    · subst he
      obtain ⟨t, ht, z⟩ := hb A o s H vs Q E hg (hr.deeper _) q
      have J0 : Inv (cxOf cx P w K mg base N ql sc f cd A o s H E) [] (start N vs) H s1 := inv_start S hr.hd e0 hl vv x
      refine ⟨nl.keeps x.toInCall.keep, codeAny_func (wpAny_mono (ht.run [] s1 (start N vs) H _ J0 z) (fun fl s2 h2 => ?_) fun _ _ h2 => h2)⟩
      cases fl with
      | brk => obtain ⟨_, _, _, z⟩ := h2; exact z.elim
      | cont => obtain ⟨_, _, _, z⟩ := h2; exact z.elim
      | next =>
        obtain ⟨σ2, H2, J, z⟩ := h2
        exact ⟨V.non, H2, J.os, J.bare, J.base, J.hok, rfl, z⟩
      | ret u =>
        obtain ⟨v, σ2, H2, J, rv, z⟩ := h2
        exact ⟨v, H2, J.os, J.bare, J.base, J.hok, rv, z⟩
theorem okG {nm ql : Str} {st : Stmt} {N : List Str} (F : Fun K nm ql st f fd) (S : FnScope N ps (defScope st)) (len : ∀ vs H Q E, sp vs H Q E → vs.length = ps.length)
    (hb : ∀ (cd : Value) (A : Around) (o : List Env) (s : Shared) (H : Hp) (vs : List V) (Q : VK) (E : XK), A.guards = some [] → Room k (A.deeper (envOfC ql (defScope st) s.heap.objs.size f cd)) → sp vs H Q E →
      ∃ t, PSs (cxOf cx P w K mg base N ql (defScope st) f cd A o s H E) (defBody st) t ∧ t { nx := fun _ H' => Q .non H', rt := Q } (start N vs) H) :
    FnG P w K mg base cx (k + 1) f fd ps sp := by
  obtain ⟨_, _, _, _, _, _, cd, _, _, rfl, lk, hc⟩ := F.ex
  exact fnG_of lk hc S len fun A o s H vs Q E g r q => hb cd A o s H vs Q E g r q
theorem okG0 {nm ql : Str} {st : Stmt} {N : List Str} (F : Fun K nm ql st f fd) (S : FnScope N ps (defScope st)) (len : ∀ vs H Q E, sp vs H Q E → vs.length = ps.length)
    (hb : ∀ (cd : Value) (A : Around) (o : List Env) (s : Shared) (H : Hp) (vs : List V) (Q : VK) (E : XK), A.guards = some [] → Room k (A.deeper (envOfC ql (defScope st) s.heap.objs.size f cd)) → sp vs H Q E →
      ∃ t, PSs (cxOf CX0 P w K mg base N ql (defScope st) f cd A o s H E).nox (defBody st) t ∧ t { nx := fun _ H' => Q .non H', rt := Q } (start N vs) H) :
    FnG P w K mg base CX0 (k + 1) f fd ps sp :=
  okG F S len fun cd A o s H vs Q E g r q => by
    obtain ⟨t, h, z⟩ := hb cd A o s H vs Q E g r q
    exact ⟨t, h.nox, z⟩
end

section
variable {X : Cx} {cx : CXT} {k : Nat} {f : Addr} {fd : FuncData} {ps : List Str} {sp : Sp} {E : XK} {x : Str} {p pos : Pos} {e : Expr} {es : List Expr} {t : TA}
theorem run_fnG {pins : List (Addr × Obj)} {σ : L2.St} {H : Hp} {s : Shared} {Q : VK} {us : List Value} {vs : List V} (F : FnG X.prog X.w X.K X.mg X.base cx k f fd ps sp) (hg : X.A.guards = some []) (hr : Room k X.A) (hb : Binds X.K fd ps [])
    (hx : Passes cx X E) (I : Inv X pins σ H s) (r : Vals vs us) (h : sp vs H Q E) : wpAny (model X.prog X.w) X.A (call (.ref f) us) (EP X pins σ Q) X.xe s := by
  have e1 : us ++ [] = us := List.append_nil us
  have hl : (us ++ []).length = ps.length := by rw [e1, ← r.length]; exact F.len _ _ _ _ h
  have b1 := hb s us I.kIn hl
  rw [e1] at b1
  refine wpAny_call (codeAny_mono (F.run X.A X.stack s H ⟨us, []⟩ us vs Q E hg hr I.env0 b1 r h) fun rr s' hq => ?_)
  match rr, hq with
  | .error er, hq => exact hx pins σ H s er s' I hq
  | .ok (.ret u), hq => exact I.after hq
  | .ok .next, hq => exact False.elim hq
  | .ok .brk, hq => exact False.elim hq
  | .ok .cont, hq => exact False.elim hq
def tGo (sp : Sp) (E : XK) (t : TA) : TE := fun σ H Q => t σ H fun vs H1 => sp vs H1 Q E
/-- f(e, ..) -/
theorem pe_go (F : FnG X.prog X.w X.K X.mg X.base cx k f fd ps sp) (hg : X.A.guards = some []) (hr : Room k X.A) (gl : Gl X x) (hm : X.mg x = some (.ref f)) (hk : PySem.W.keepIn X.K (.ref f) = true) (hb : Binds X.K fd ps []) (hx : Passes cx X E)
    (ha : PA X (e :: es) t) (h1 : (x == ("__debug__" : Str)) = false := by decide) (h2 : starEach (e :: es) X.env = (false, eval e X.env) :: starEach es X.env := by rfl) (h3 : (backTo pos (starEach es X.env)).any (·.1) = false := by rfl) :
    PE X (.Call (.Name x p) (e :: es) [] pos) (tGo sp E t) := by
  refine ⟨fun pi s σ H Q I h => wpAny_Call_Name_kw (ld_glob I gl hm ?_ h1)⟩
  refine PySem.W.callWith_K (h₀ := X.base) I.ok.mod.kin hk (thn (ha.run pos pi s σ H _ I h) ?_) h2 h3
  rintro us s1 ⟨vs, H1, I1, r, q⟩
  exact ⟨I1.kIn, run_fnG F hg hr hb hx I1 r q⟩
theorem pe_go0 (F : FnG X.prog X.w X.K X.mg X.base cx k f fd ps sp) (hg : X.A.guards = some []) (hr : Room k X.A) (gl : Gl X x) (hm : X.mg x = some (.ref f)) (hk : PySem.W.keepIn X.K (.ref f) = true) (hb : Binds X.K fd ps []) (hx : Passes cx X E)
    (h1 : (x == ("__debug__" : Str)) = false := by decide) : PE X (.Call (.Name x p) [] [] pos) (tGo sp E tNil) := by
  refine ⟨fun pi s σ H Q I h => wpAny_Call_Name_kw (ld_glob I gl hm ?_ h1)⟩
  exact PySem.W.callWith_K0 I.kIn hk (run_fnG (us := []) F hg hr hb hx I .nil h)
end

/-! the law's own call -/
section
variable {P : Program} {w : World} {K : PySem.W.Frag} {mg mb : Str → Option Value} {cx : CXT} {k : Nat} {fa a : Addr} {fd : FuncData} {x : Str} {sp : Sp} {s1 : Shared} {vs : List Value} {ns : List Int}
/-- the heap at the entry: the script alone is tracked, as it stands -/
def Hin (K : PySem.W.Frag) (a : Addr) (o : Obj) (ns : List Int) : Hp := fun b => if b = a ∧ K.lookup a = none then some (.frz o (.lst (ns.map V.int))) else none
theorem law_callG (KX : K.In s1.heap) (hns : s1.heap.Ns mainGlobals mg) (hb : s1.heap.Ns builtinsNs mb) (hbb : ∀ x : Str, x ≠ "__name__" → mb x = bootBuiltins x) (hlim : s1.heap.NoLimit) (hsy : ∃ mm, s1.heap.Ns sysModules mm) (hg : s1.gens = #[])
    (ha : s1.heap.get? a = some { cls := .type "list", data := .seq vs.toArray }) (hi : IntsAre vs ns) (hl : ns.length ≤ sizeLine) (hr : Room k callerA)
    (F : ∀ base : Heap, K.In base → base.Ns mainGlobals mg → (∃ mm, base.Ns sysModules mm) → FnG P w K mg base cx k fa fd [x] sp)
    (hbind : ∀ (s : Shared) (u : Value), BindsTo s fd ⟨[u], []⟩ [(x, u)])
    (hsp : ∀ H : Hp, SqL K H a (ns.map V.int) → sp [.ref a] H (fun v _ => v = .bl true) fun _ _ _ => False)
    (hcx : ∀ H e s', cx [] H s1 (fun _ _ _ => False) e s' → False) :
    codeAny (model P w) callerA (.call (.ref fa) ⟨[.ref a], []⟩) (fun r s' => r = .ok (.ret (.bool true)) ∧ OldK s1.heap s'.heap ∧ s'.os = s1.os ∧ AllBare s'.gens) s1 := by
  generalize ho : ({ cls := .type "list", data := .seq vs.toArray } : Obj) = o at ha
  have rv := vals_ints hi
  have hlen := hi.length
  have hH : ∀ b u, Hin K a o ns b = some u → b = a ∧ K.lookup a = none ∧ u = .frz o (.lst (ns.map V.int)) := fun b u e => by
    unfold Hin at e
    by_cases c : b = a ∧ K.lookup a = none
    · rw [if_pos c] at e; exact ⟨c.1, c.2, (Option.some.inj e).symm⟩
    · rw [if_neg c] at e; cases e
  have hok : HOk P w (Hin K a o ns) s1.heap := fun b u e => by
    obtain ⟨rfl, _, rfl⟩ := hH b u e
    exact ⟨ha, by rw [List.length_map]; exact hl, vs, _, rv, by rw [ha, ← ho]⟩
  have hS : SqL K (Hin K a o ns) a (ns.map V.int) := by
    cases hk : K.lookup a with
    | none => exact Or.inl (Or.inr ⟨o, if_pos ⟨rfl, hk⟩⟩)
    | some o2 =>
      have e := KX a o2 hk
      rw [ha] at e
      cases e
      exact Or.inr ⟨_, vs.toArray, 0, hk, by rw [← ho], by rw [← ho], by rw [← ho], by rw [List.size_toArray, hlen]; exact hl, rv⟩
  have toB : ∀ {b : Addr} {ob : Obj}, s1.heap.get? b = some ob → Hin K a o ns b = none → (hidT s1.heap (Hin K a o ns)).get? b = some ob := fun e n => hidT_get e n
  have dictN : ∀ {b : Addr} {ob : Obj}, s1.heap.get? b = some ob → (∀ it n, ob.data ≠ .seq it n) → Hin K a o ns b = none := fun {b ob} e d => by
    cases q : Hin K a o ns b with
    | none => rfl
    | some u =>
      obtain ⟨rfl, _, _⟩ := hH b u q
      rw [ha] at e
      cases e
      exact (d vs.toArray 0 (by rw [← ho])).elim
  have nsB : ∀ {b : Addr} {m : Str → Option Value}, s1.heap.Ns b m → (hidT s1.heap (Hin K a o ns)).Ns b m := fun {b m} h => by
    obtain ⟨ob, es, ep, e, d, r⟩ := h
    exact ⟨ob, es, ep, toB e (dictN e fun it n z => by rw [d] at z; cases z), d, r⟩
  have KB : K.In (hidT s1.heap (Hin K a o ns)) := fun b ob e => toB (KX b ob e) (by
    cases q : Hin K a o ns b with
    | none => rfl
    | some u =>
      obtain ⟨rfl, z, _⟩ := hH b u q
      rw [z] at e; cases e)
  have lim : (hidT s1.heap (Hin K a o ns)).NoLimit := by
    obtain ⟨mc, h1, h2⟩ := hlim
    exact ⟨mc, nsB h1, h2⟩
  have M : Mod K mg (hidT s1.heap (Hin K a o ns)) := ⟨KB, nsB hns, ⟨mb, nsB hb, hbb⟩, lim⟩
  have e0 : Env0 P w K mg (hidT s1.heap (Hin K a o ns)) callerA [] s1 (Hin K a o ns) :=
    ⟨rfl, M, fun b ob e => of_hidT e, Nat.le_of_eq (hidT_size _ _), trivial, fun b z => (nomatch z), hok, .of_eq hg⟩
  have G := F _ KB (nsB hns) (by obtain ⟨mm, z⟩ := hsy; exact ⟨mm, nsB z⟩)
  refine codeAny_mono (G.run callerA [] s1 _ ⟨[.ref a], []⟩ [.ref a] [.ref a] _ _ rfl hr e0 (hbind s1 (.ref a)) (.cons rfl .nil) (hsp _ hS)) fun r s2 h => ?_
  match r, h with
  | .error er, h => exact (hcx _ er s2 h).elim
  | .ok .next, h => exact False.elim h
  | .ok .brk, h => exact False.elim h
  | .ok .cont, h => exact False.elim h
  | .ok (.ret u), h =>
    obtain ⟨v, H2, os, br, un, hok2, r2, q⟩ := h
    have q2 : v = .bl true := q
    subst q2
    obtain rfl : u = Value.bool true := r2
    refine ⟨rfl, OldK.of_keep fun b ob e => ?_, os, br⟩
    cases z : Hin K a o ns b with
    | none => exact un.keep b ob e z (fun m => nomatch m) (fun m => nomatch m)
    | some u =>
      obtain ⟨rfl, _, rfl⟩ := hH b u z
      obtain ⟨y, _⟩ := hok2 b _ (un.frzs b _ _ z)
      rw [ha] at e
      cases e
      exact y
end
/-- the end of a law: what k_head leaves, from the law's promise -/
theorem walkG {l : PySem.W.OpenLaw} {n k : Nat} {q : Program} {lo : List Str} {XP : (Str → Option Value) → Heap → Prop} {YP : World → Heap → Prop} {d : DefRec} {K : Params → PySem.W.Frag} {cx : World → CXT} {sp : World → Sp} {x : Str}
    (hn : l.most = some n) (hn2 : n ≤ sizeLine) (hdf : d.params.defaults = []) (hr : Room k callerA) (him : importsNone q = true)
    (hY : ∀ (w : World) (h : Heap), YP w h → (K w.params).In h)
    (F : ∀ (w : World) (mg : Str → Option Value) (fa : Addr) (h : Heap), (K w.params).In h → h.Ns mainGlobals mg → mg d.name = some (.ref fa) →
      ∃ fd : FuncData, (∀ (s : Shared) (u : Value), BindsTo s fd ⟨[u], []⟩ [(x, u)]) ∧
        ∀ base : Heap, (K w.params).In base → base.Ns mainGlobals mg → (∃ mm, base.Ns sysModules mm) → FnG l.prog w (K w.params) mg base (cx w) k fa fd [x] (sp w))
    (hsp : ∀ (w : World) (H : Hp) (a : Addr) (ns : List Int), ns.length ≤ n → (∀ z ∈ ns, Builtin.Int.intBits z ≤ 1048576) → SqL (K w.params) H a (ns.map V.int) → sp w [.ref a] H (fun v _ => v = .bl true) fun _ _ _ => False)
    (hcx : ∀ (w : World) (H : Hp) (s : Shared) (e : Value) (s' : Shared), cx w [] H s (fun _ _ _ => False) e s' → False) :
    PySem.W.WalkO q lo XP YP l.row.toRowW d [] (fun f vs => PySem.call f vs) := by
  refine Att.attach_callB hn hdf ?_
  intro w s0 s1 mg mb fa o pm cd doc a vs ns G Y ho hd hcd hmg hob hin hle hbi hge
  obtain ⟨fd, hb, hF⟩ := F w mg fa _ (hY w _ Y) G.T.g hmg
  have hsy : ∃ mm, s1.heap.Ns sysModules mm := by
    obtain ⟨mm, z, _⟩ := (G.T.seer him).mods
    exact ⟨mm, z⟩
  exact law_callG (hY w _ Y) G.T.g G.T.b G.T.builtins G.T.nolimit hsy hge hob hin (Nat.le_trans hle hn2) hr hF hb (fun H hS => hsp w H a ns hle hbi hS) fun H e s' => hcx w H s1 e s'

/-! data, by what repr shows -/
def keyD (k : Key) : PyData := match k with | .inl i => PyData.int i | .inr x => PyData.str x
mutual
inductive Dn (K : PySem.W.Frag) (H : Hp) : V → PyData → Prop
  | non : Dn K H .non .none
  | bl (b : Bool) : Dn K H (.bl b) (.bool b)
  | int (i : Int) : Dn K H (.int i) (.int i)
  | str (x : Str) : Dn K H (.str x) (.str x)
  | lst {a : Addr} {xs : List V} {ds : List PyData} : Rd H a (.lst xs) → DnA K H xs ds → Dn K H (.ref a) (.list ds)
  | tup {a : Addr} {xs : List V} {ds : List PyData} : SqT K H a xs → DnA K H xs ds → Dn K H (.ref a) (.tuple ds)
  | dic {a : Addr} {kvs : List (Key × V)} {ds : List PyData} : Rd H a (.dK kvs) → DnA K H (kvs.map (·.2)) ds → Dn K H (.ref a) (.dict ((kvs.map fun p => keyD p.1).zip ds))
inductive DnA (K : PySem.W.Frag) (H : Hp) : List V → List PyData → Prop
  | nil : DnA K H [] []
  | cons {v : V} {vs : List V} {d : PyData} {ds : List PyData} : Dn K H v d → DnA K H vs ds → DnA K H (v :: vs) (d :: ds)
end
end U

namespace U
open PySem L2 PySem.Spec PyProof.Rows

section
variable {X : Cx} {pins : List (Addr × Obj)} {σ : L2.St} {H : Hp} {s : Shared}
theorem rd_low (I : Inv X pins σ H s) (hs : ∃ mm, X.base.Ns sysModules mm) {a : Addr} {u : HO} (r : Rd H a u) : a ≠ sysModules := by
  rintro rfl
  obtain ⟨mm, ob, es, ep, e, _⟩ := hs
  have n := (I.bs _ ob e).2
  rcases r with r | ⟨o, r⟩ <;> (rw [n] at r; cases r)
theorem pairs_reads {P : Program} {w : World} {h : Heap} : ∀ {es : List DictEntry} {kvs : List (Key × V)} {vs : List (Key × Value)}, Pairs (mixKind P w) es vs → KV kvs vs →
    ReadsAll h (es.map (·.key)) (kvs.map fun p => keyD p.1) [] ∧ Vals (kvs.map (·.2)) (es.map (·.val))
  | _, _, _, .nil, .nil => ⟨.nil, .nil⟩
  | e :: es, (k, v) :: kvs, (k2, u) :: vs, .cons h1 h2 h3, .cons ⟨q1, q2⟩ h4 => by
    obtain ⟨r1, r2⟩ := pairs_reads (h := h) h3 h4
    have q1 : k = k2 := q1
    subst q1
    refine ⟨?_, .cons (show RelV v e.val by rw [h2]; exact q2) r2⟩
    show ReadsAll h (e.key :: _) (keyD k :: _) ([] ++ [])
    refine .cons ?_ r1
    rcases keyIs_shape h1 with ⟨i, t, z, y⟩ | ⟨x, t, z, y⟩
    · have z : k = Sum.inl i := z
      rw [y, z]; exact Reads.int i t
    · have z : k = Sum.inr x := z
      rw [y, z]; exact Reads.str x t
mutual
theorem Dn.reads (I : Inv X pins σ H s) (hs : ∃ mm, X.base.Ns sysModules mm) : ∀ {v : V} {d : PyData} {u : Value}, Dn X.K H v d → RelV v u → ∃ as, Reads s.heap u d as ∧ sysModules ∉ as
  | _, _, _, .non, r => by cases r; exact ⟨[], Reads.none, by simp⟩
  | _, _, _, .bl b, r => by cases r; exact ⟨[], Reads.bool b, by simp⟩
  | _, _, _, .int i, r => by obtain ⟨t, rfl⟩ := r; exact ⟨[], Reads.int i t, by simp⟩
  | _, _, _, .str x, r => by obtain ⟨t, rfl⟩ := r; exact ⟨[], Reads.str x t, by simp⟩
  | _, _, _, .lst h1 h2, r => by
    cases r
    obtain ⟨its, rv, ⟨o, n, ho, hc, _, hd⟩, _⟩ := I.list (Or.inl h1)
    obtain ⟨as, q1, q2⟩ := DnA.reads I hs h2 rv
    exact ⟨_, Reads.list ho hc hd q1, fun m => (List.mem_cons.mp m).elim (fun e => rd_low I hs h1 e.symm) q2⟩
  | _, _, _, .tup h1 h2, r => by
    cases r
    obtain ⟨its, rv, ⟨o, ho, hc, n, hd⟩, _⟩ := I.tuple h1
    obtain ⟨as, q1, q2⟩ := DnA.reads I hs h2 rv
    exact ⟨_, Reads.tuple ho hc hd q1, q2⟩
  | _, _, _, .dic (kvs := kvs) (ds := ds) h1 h2, r => by
    cases r
    obtain ⟨_, low, vs, kv, o, es, ep, ho, hc, hd, _, hp, _⟩ := h1.ok I.hok
    obtain ⟨q1, q2⟩ := pairs_reads (h := s.heap) hp kv
    obtain ⟨as, q3, q4⟩ := DnA.reads I hs h2 q2
    have el : ds.length = kvs.length := by
      have e1 := DnA.len h2
      rw [List.length_map] at e1
      exact e1.symm
    have z1 : ((kvs.map fun p => keyD p.1).zip ds).map (·.1) = kvs.map fun p => keyD p.1 := by
      rw [List.map_fst_zip]; rw [List.length_map]; omega
    have z2 : ((kvs.map fun p => keyD p.1).zip ds).map (·.2) = ds := by
      rw [List.map_snd_zip]; rw [List.length_map]; omega
    refine ⟨_, Reads.dict ho hc.1 hd (kvs := (kvs.map fun p => keyD p.1).zip ds) (as := []) (bs := as) ?_ ?_, ?_⟩
    · rw [z1]; exact q1
    · rw [z2]; exact q3
    · intro m
      rcases List.mem_cons.mp m with e | e
      · exact rd_low I hs h1 e.symm
      · exact q4 (by simpa using e)
theorem DnA.reads (I : Inv X pins σ H s) (hs : ∃ mm, X.base.Ns sysModules mm) : ∀ {vs : List V} {ds : List PyData} {us : List Value}, DnA X.K H vs ds → Vals vs us → ∃ as, ReadsAll s.heap us ds as ∧ sysModules ∉ as
  | _, _, _, .nil, r => by cases r; exact ⟨[], ReadsAll.nil, by simp⟩
  | _, _, _, .cons h1 h2, r => by
    cases r with
    | cons r1 r2 =>
      obtain ⟨as, q1, q2⟩ := Dn.reads I hs h1 r1
      obtain ⟨bs, q3, q4⟩ := DnA.reads I hs h2 r2
      exact ⟨_, ReadsAll.cons q1 q3, fun m => (List.mem_append.mp m).elim q2 q4⟩
theorem DnA.len {K : PySem.W.Frag} : ∀ {vs : List V} {ds : List PyData}, DnA K H vs ds → vs.length = ds.length
  | _, _, .nil => rfl
  | _, _, .cons _ h => by rw [List.length_cons, List.length_cons, DnA.len h]
end
end
/-! what may be shown, and how long it is -/
mutual
def good : PyData → Prop
  | .none => True
  | .bool _ => True
  | .int i => i.natAbs < 10 ^ 100
  | .str x => ∀ c ∈ x.cps.toList, c < 4294967296
  | .list xs => goodA xs
  | .tuple xs => goodA xs
  | .dict kvs => goodK kvs
def goodA : List PyData → Prop
  | [] => True
  | x :: xs => good x ∧ goodA xs
def goodK : List (PyData × PyData) → Prop
  | [] => True
  | (k, v) :: r => good k ∧ good v ∧ goodK r
end
mutual
def sz : PyData → Nat
  | .none => 4
  | .bool _ => 5
  | .int _ => 102
  | .str x => 10 * x.length + 2
  | .list xs => szA xs + 3
  | .tuple xs => szA xs + 3
  | .dict kvs => szK kvs + 3
def szA : List PyData → Nat
  | [] => 0
  | x :: xs => sz x + 2 + szA xs
def szK : List (PyData × PyData) → Nat
  | [] => 0
  | (k, v) :: r => sz k + sz v + 4 + szK r
end
theorem int_len {i : Int} (h : i.natAbs < 10 ^ 100) : (Str.ofString (toString i)).length ≤ 102 := by
  have e := int_text_length_le10 (k := 100) (by decide) h
  rw [PySem.ofString_length]
  omega
mutual
theorem good_show : ∀ {d : PyData}, good d → d.showable = true ∧ d.shown.length ≤ sz d
  | .none, _ => ⟨rfl, by decide +kernel⟩
  | .bool b, _ => ⟨rfl, by cases b <;> decide +kernel⟩
  | .int i, h => by
    refine ⟨?_, ?_⟩
    · simp only [PyData.showable, decide_eq_true_eq]
      have h : i.natAbs < 10 ^ 100 := by simpa only [good] using h
      refine log2_small (Nat.lt_of_lt_of_le h ?_)
      decide +kernel
    · have h : i.natAbs < 10 ^ 100 := by simpa only [good] using h
      exact int_len h
  | .str x, h => by
    refine ⟨rfl, ?_⟩
    have h : ∀ c ∈ x.cps.toList, c < 4294967296 := by simpa only [good] using h
    simp only [PyData.shown, sz]
    exact StrLaws.reprText_len x h
  | .list xs, h => by
    have q := goodA_show (ds := xs) (by simpa only [good] using h)
    refine ⟨by simpa only [PyData.showable] using q.1, ?_⟩
    simp only [PyData.shown, sz]
    have := listText_len_le (PyData.shownAll xs)
    have e : (PyData.shownAll xs).length = xs.length := q.2.2
    omega
  | .tuple xs, h => by
    have q := goodA_show (ds := xs) (by simpa only [good] using h)
    refine ⟨by simpa only [PyData.showable] using q.1, ?_⟩
    simp only [PyData.shown, sz]
    have := tupleText_len_le (PyData.shownAll xs)
    have e : (PyData.shownAll xs).length = xs.length := q.2.2
    omega
  | .dict kvs, h => by
    have q := goodK_show (ds := kvs) (by simpa only [good] using h)
    refine ⟨by simpa only [PyData.showable] using q.1, ?_⟩
    simp only [PyData.shown, sz]
    have := dictText_len_le (PyData.shownKv kvs)
    have e : (PyData.shownKv kvs).length = kvs.length := q.2.2
    omega
theorem goodA_show : ∀ {ds : List PyData}, goodA ds → PyData.showableAll ds = true ∧ ((PyData.shownAll ds).map (·.length)).sum + 2 * ds.length ≤ szA ds ∧ (PyData.shownAll ds).length = ds.length
  | [], _ => ⟨rfl, by simp [PyData.shownAll, szA], rfl⟩
  | x :: xs, h => by
    obtain ⟨h1, h2⟩ : good x ∧ goodA xs := by simpa only [goodA] using h
    obtain ⟨a1, a2⟩ := good_show h1
    obtain ⟨b1, b2, b3⟩ := goodA_show h2
    refine ⟨by simp only [PyData.showableAll, a1, b1, Bool.and_self], ?_, by simp only [PyData.shownAll, List.length_cons, b3]⟩
    simp only [PyData.shownAll, szA, List.map_cons, List.sum_cons, List.length_cons]
    omega
theorem goodK_show : ∀ {ds : List (PyData × PyData)}, goodK ds → PyData.showableKv ds = true ∧ ((PyData.shownKv ds).map (·.length)).sum + 2 * ds.length ≤ szK ds ∧ (PyData.shownKv ds).length = ds.length
  | [], _ => ⟨rfl, by simp [PyData.shownKv, szK], rfl⟩
  | (k, v) :: r, h => by
    obtain ⟨h1, h2, h3⟩ : good k ∧ good v ∧ goodK r := by simpa only [goodK] using h
    obtain ⟨a1, a2⟩ := good_show h1
    obtain ⟨c1, c2⟩ := good_show h2
    obtain ⟨b1, b2, b3⟩ := goodK_show h3
    refine ⟨by simp only [PyData.showableKv, a1, c1, b1, Bool.and_self], ?_, by simp only [PyData.shownKv, List.length_cons, b3]⟩
    have e : (": " : Str).length = 2 := by decide +kernel
    simp only [PyData.shownKv, szK, List.map_cons, List.sum_cons, List.length_cons, Str.length_append]
    have e : (Str.ofString ": ").length = 2 := by decide +kernel
    omega
end
/-- repr -/
def rRepr (K : PySem.W.Frag) : List V → Hp → VK → Prop := fun xs H Q => ∃ v d, xs = [v] ∧ Dn K H v d ∧ good d ∧ d.depth ≤ 100 ∧ sz d ≤ 16000000 ∧ Q (.str d.shown) H
theorem call_repr {X : Cx} {k : Nat} (hg : X.A.guards = some []) (hr : Room k X.A) (hs : ∃ mm, X.base.Ns sysModules mm) : CallR X (.builtin "repr") (rRepr X.K) := by
  rintro pi s σ H xs us Q I vv ⟨v, d, rfl, hd, g, dp, zz, q⟩
  obtain ⟨u, rfl, rv⟩ := Vals.one vv
  obtain ⟨sh, le⟩ := good_show g
  have le2 : d.shown.length ≤ sizeLine := Nat.le_trans (Nat.le_trans le zz) (by decide)
  have hu := hr.un
  cases hd with
  | non => cases rv; exact PySem.P.repr_of_none ⟨.str _, H, I.tok _, ⟨_, rfl⟩, q⟩
  | bl b => cases rv; exact PySem.P.repr_of_bool ⟨.str _, H, I.tok _, ⟨_, rfl⟩, q⟩
  | int i =>
    obtain ⟨t, rfl⟩ := rv
    simp only [PyData.showable, decide_eq_true_eq] at sh
    exact PySem.P.repr_of_int sh ⟨.str _, H, I.tok _, ⟨_, rfl⟩, q⟩
  | str x =>
    obtain ⟨t, rfl⟩ := rv
    exact PySem.P.repr_of_str ⟨.str _, H, I.tok _, ⟨_, rfl⟩, q⟩ le2
  | lst h1 h2 =>
    obtain ⟨as, r1, r2⟩ := Dn.reads I hs (.lst h1 h2) rv
    cases rv
    exact repr_of_reads' r1 sh (fun _ => r2) hg (by omega) (fun _ _ e => e) (fun h' u tk hk => ⟨.str _, H, I.kept hk, ⟨_, rfl⟩, q⟩) le2
  | tup h1 h2 =>
    obtain ⟨as, r1, r2⟩ := Dn.reads I hs (.tup h1 h2) rv
    cases rv
    exact repr_of_reads' r1 sh (fun _ => r2) hg (by omega) (fun _ _ e => e) (fun h' u tk hk => ⟨.str _, H, I.kept hk, ⟨_, rfl⟩, q⟩) le2
  | dic h1 h2 =>
    obtain ⟨as, r1, r2⟩ := Dn.reads I hs (.dic h1 h2) rv
    cases rv
    exact repr_of_reads' r1 sh (fun _ => r2) hg (by omega) (fun _ _ e => e) (fun h' u tk hk => ⟨.str _, H, I.kept hk, ⟨_, rfl⟩, q⟩) le2
end U

namespace U
open PySem L2 PySem.Spec PyProof.Rows

/-! operators, whatever the values -/
def rStrCat : R2 := fun x y H Q => ∃ i j, x = .str i ∧ y = .str j ∧ i.length + j.length ≤ sizeLine ∧ Q (.str (i ++ j)) H
def uAdd (K : PySem.W.Frag) : R2 := fun x y H Q => (rI0 fun i j => .int (i + j)) x y H Q ∨ rStrCat x y H Q ∨ rCat x y H Q ∨ rCatA K x y H Q
def uSub : R2 := rI0 fun i j => .int (i - j)
def uMul : R2 := fun x y H Q => (rI CMul fun i j => .int (i * j)) x y H Q ∨ rRep x y H Q
def uMod : R2 := rI (fun _ j => 0 < j) fun i j => .int (i % j)
def uDiv : R2 := rI CDivW fun i j => .int (i / j)
def uPow : R2 := rI CPow fun i j => .int (i ^ j.toNat)
def uLt : R2 := rI0 fun i j => .bl (decide (i < j))
def uLe : R2 := rI0 fun i j => .bl (decide (i ≤ j))
def uGt : R2 := rI0 fun i j => .bl (decide (j < i))
def uGe : R2 := rI0 fun i j => .bl (decide (j ≤ i))
def uEq (K : PySem.W.Frag) : R2 := fun x y H Q => rEq x y H Q ∨ rEqD K x y H Q
def uNe (K : PySem.W.Frag) : R2 := fun x y H Q => rNe x y H Q ∨ rNeD K x y H Q
def rInSign (ng : Bool) : R2 := fun x y H Q => ∃ (c : Nat) (z : Str), x = .str ⟨#[c]⟩ ∧ y = .str z ∧ Q (.bl (if ng then !decide (c ∈ z.cps.toList) else decide (c ∈ z.cps.toList))) H
def uIn (K : PySem.W.Frag) (ng : Bool) : R2 := fun x y H Q => rInSign ng x y H Q ∨ rIn K ng x y H Q
def uIs : R2 := fun x y H Q => y = .non ∧ Q (.bl (decide (x = .non))) H
def uIsNot : R2 := fun x y H Q => y = .non ∧ Q (.bl (!decide (x = .non))) H
section
variable {X : Cx} {k : Nat} {K : PySem.W.Frag}
theorem o_add (hK : X.K = K) : OpR X (binaryOp .Add) (uAdd K) := hK ▸ op_add.or (op_add_str.or (op_cat.or op_catA))
theorem o_sub : OpR X (binaryOp .Sub) uSub := op_sub
theorem o_mul : OpR X (binaryOp .Mult) uMul := op_mul.or op_rep
theorem o_mod : OpR X (binaryOp .Mod) uMod := op_mod
theorem o_div : OpR X (binaryOp .FloorDiv) uDiv := op_fdivW
theorem o_pow : OpR X (binaryOp .Pow) uPow := op_pow
theorem o_lt : OpR X (compareOp .Lt) uLt := op_lt
theorem o_le : OpR X (compareOp .LtE) uLe := op_le
theorem o_gt : OpR X (compareOp .Gt) uGt := op_gt
theorem o_ge : OpR X (compareOp .GtE) uGe := op_ge
theorem o_eq (hK : X.K = K) (hr : Room k X.A) : OpR X (compareOp .Eq) (uEq K) := hK ▸ op_eq.or (op_eqD hr.units)
theorem o_ne (hK : X.K = K) (hr : Room k X.A) : OpR X (compareOp .NotEq) (uNe K) := hK ▸ op_ne.or (op_neD hr.units)
theorem o_in (hK : X.K = K) : OpR X (compareOp .In) (uIn K false) := hK ▸ op_in_sign.or op_in_seq
theorem o_notin (hK : X.K = K) : OpR X (compareOp .NotIn) (uIn K true) := hK ▸ op_notIn_sign.or op_notIn_seq
theorem o_is : OpR X (compareOp .Is) uIs := op_isN
theorem o_isnot : OpR X (compareOp .IsNot) uIsNot := op_notN
/-- a built-in type's name as a value -/
theorem pe_ty {x : Str} {n : String} {pos : Pos} (hg : Gl X x) (hm : X.mg x = none) (hv : bootBuiltins x = some (.type n)) (hn : x ≠ "__name__" := by decide) (hd : (x == ("__debug__" : Str)) = false := by decide) : PE X (.Name x pos) (tC (.ty n)) :=
  pe_bltn hg hm hv rfl hn hd
def uSl (K : PySem.W.Frag) : V → Option Int → Option Int → Hp → VK → Prop := fun x lo hi H Q => rSlL K x lo hi H Q ∨ rSlS x lo hi H Q ∨ rSlA K x lo hi H Q
theorem ix_u (hK : X.K = K) : IxR X (rIx K) := hK ▸ ix_seq
theorem sl_u (hK : X.K = K) : SlR X (uSl K) := hK ▸ sl_list.or (sl_str.or sl_tupA)
end

/-! steps -/
section
variable {K : PySem.W.Frag} {σ : L2.St} {H : Hp} {Q : VK} {D : Ends} {t u : TS} {ta tb tc te : TE} {tA tB' : TT} {r r' : R2} {x y v : V} {i : Nat} {n m : Int} {a b : Str}
theorem s_seq (h : t { D with nx := u D } σ H) : tSeq t u D σ H := h
theorem s_next (h : D.nx σ H) : tNext D σ H := h
theorem s_brk (h : D.bk σ H) : tBreak D σ H := h
theorem s_cnt (h : D.ct σ H) : tCont D σ H := h
theorem s_retN (h : D.rt .non H) : tRetN D σ H := h
theorem s_var (h : σ[i]? = some (some v)) (q : Q v H) : tVar i σ H Q := ⟨v, h, q⟩
theorem s_c (q : Q v H) : tC v σ H Q := q
theorem s_op (h : ta σ H fun x H1 => tb σ H1 fun y H2 => r x y H2 Q) : tOp r ta tb σ H Q := h
theorem s_un {r : V → Hp → VK → Prop} (h : ta σ H fun x H1 => r x H1 Q) : tUn r ta σ H Q := h
theorem s_neg (q : Q (.int (-n)) H) : (rU fun i => .int (-i)) (.int n) H Q := ⟨n, rfl, q⟩
theorem s_test {Q : Bool → Hp → Prop} (h : te σ H fun x H' => ∃ k, x = .bl k ∧ Q k H') : tTest te σ H Q := h
theorem s_B {Q : Bool → Hp → Prop} (h : te σ H fun x H' => ∃ k, x = .bl k ∧ Q k H') : tB te σ H Q := h
theorem s_bl {P : Bool → Prop} {k : Bool} (q : P k) : ∃ c, V.bl k = .bl c ∧ P c := ⟨k, rfl, q⟩
theorem s_chain (h : ta σ H fun x H1 => tb σ H1 fun y H2 => r x y H2 fun z H3 => ∃ k, z = .bl k ∧ (if k = true then tc σ H3 fun w' H4 => r' y w' H4 Q else Q (.bl false) H3)) : tChain r r' ta tb tc σ H Q := h
theorem s_asg {g : TG} (h : te σ H fun x H1 => g x σ H1 D.nx) : tAsg te g D σ H := h
theorem s_name {R : L2.St → Hp → Prop} (h : R (σ.set i (some v)) H) : gName i v σ H R := h
theorem s_ret (h : te σ H D.rt) : tRet te D σ H := h
theorem s_drop (h : te σ H fun _ H1 => D.nx σ H1) : tDrop te D σ H := h
theorem s_ifS (h : tA σ H fun b H1 => if b = true then t D σ H1 else u D σ H1) : tIfS tA t u D σ H := h
theorem s_and {Q : Bool → Hp → Prop} (h : tA σ H fun c H1 => if c = true then tB' σ H1 Q else Q false H1) : tAnd tA tB' σ H Q := h
theorem s_or {Q : Bool → Hp → Prop} (h : tA σ H fun c H1 => if c = true then Q true H1 else tB' σ H1 Q) : tOr tA tB' σ H Q := h
theorem s_not {Q : Bool → Hp → Prop} (h : tA σ H fun c H1 => Q (!c) H1) : tNot tA σ H Q := h
theorem s_andV (h : ta σ H fun x H1 => ∃ c, x = .bl c ∧ if c = true then tb σ H1 Q else Q (.bl false) H1) : tAndV ta tb σ H Q := h
theorem s_orV (h : ta σ H fun x H1 => ∃ c, x = .bl c ∧ if c = true then Q (.bl true) H1 else tb σ H1 Q) : tOrV ta tb σ H Q := h
theorem s_notV (h : ta σ H fun x H1 => ∃ c, x = .bl c ∧ Q (.bl (!c)) H1) : tNotV ta σ H Q := h
theorem s_if (h : tA σ H fun c H1 => if c = true then ta σ H1 Q else tb σ H1 Q) : tIf tA ta tb σ H Q := h
theorem s_add (q : Q (.int (n + m)) H) : uAdd K (.int n) (.int m) H Q := Or.inl ⟨n, m, rfl, rfl, q⟩
theorem s_adds (h : a.length + b.length ≤ sizeLine) (q : Q (.str (a ++ b)) H) : uAdd K (.str a) (.str b) H Q := Or.inr (Or.inl ⟨a, b, rfl, rfl, h, q⟩)
theorem s_sub (q : Q (.int (n - m)) H) : uSub (.int n) (.int m) H Q := ⟨n, m, rfl, rfl, q⟩
theorem s_mul (h : CMul n m) (q : Q (.int (n * m)) H) : uMul (.int n) (.int m) H Q := Or.inl ⟨n, m, rfl, rfl, h, q⟩
theorem s_mod (h : 0 < m) (q : Q (.int (n % m)) H) : uMod (.int n) (.int m) H Q := ⟨n, m, rfl, rfl, h, q⟩
theorem s_div (h : CDivW n m) (q : Q (.int (n / m)) H) : uDiv (.int n) (.int m) H Q := ⟨n, m, rfl, rfl, h, q⟩
theorem s_pow {r : Int} (h : CPow n m) (e : n ^ m.toNat = r) (q : Q (.int r) H) : uPow (.int n) (.int m) H Q := ⟨n, m, rfl, rfl, h, (show Q (.int (n ^ m.toNat)) H by rw [e]; exact q)⟩
theorem cpow {i j : Int} (h0 : 0 ≤ i) (h1 : i < 9223372036854775808) (h2 : 0 ≤ j) (h3 : j ≤ 1000000) : CPow i j := ⟨h2, h3, by omega⟩
theorem cdiv {i j : Int} (h0 : 0 < j) (h1 : j < 100000000000000000000000000000000000000000) : CDivW i j := wide_div (b := 200) h0 (by
  have e : ((j.natAbs : Nat) : Int) < ((2 ^ 200 : Nat) : Int) := by
    rw [Int.natAbs_of_nonneg (by omega)]
    exact Int.lt_trans h1 (by decide)
  exact Int.ofNat_lt.mp e) (by decide) (by decide)
theorem cmulL {i j : Int} (h1 : -9223372036854775808 < i) (h2 : i < 9223372036854775808) : CMul i j := Or.inl ⟨by omega, by omega⟩
theorem cmulR {i j : Int} (h1 : -9223372036854775808 < j) (h2 : j < 9223372036854775808) : CMul i j := Or.inr ⟨by omega, by omega⟩
theorem s_lt (q : Q (.bl (decide (n < m))) H) : uLt (.int n) (.int m) H Q := ⟨n, m, rfl, rfl, q⟩
theorem s_le (q : Q (.bl (decide (n ≤ m))) H) : uLe (.int n) (.int m) H Q := ⟨n, m, rfl, rfl, q⟩
theorem s_gt (q : Q (.bl (decide (m < n))) H) : uGt (.int n) (.int m) H Q := ⟨n, m, rfl, rfl, q⟩
theorem s_ge (q : Q (.bl (decide (m ≤ n))) H) : uGe (.int n) (.int m) H Q := ⟨n, m, rfl, rfl, q⟩
theorem dec_int {n m : Int} : decide (V.int n = V.int m) = decide (n = m) := by
  by_cases h : n = m
  · subst h; simp
  · rw [decide_eq_false h]; exact decide_eq_false fun q => h (V.int.inj q)
theorem dec_str {n m : Str} : decide (V.str n = V.str m) = decide (n = m) := by
  by_cases h : n = m
  · subst h; simp
  · rw [decide_eq_false h]; exact decide_eq_false fun q => h (V.str.inj q)
theorem s_eqi (q : Q (.bl (decide (n = m))) H) : uEq K (.int n) (.int m) H Q := Or.inl ⟨rfl, by rw [dec_int]; exact q⟩
theorem s_nei (q : Q (.bl (!decide (n = m))) H) : uNe K (.int n) (.int m) H Q := Or.inl ⟨rfl, by rw [dec_int]; exact q⟩
theorem s_eqs (q : Q (.bl (decide (a = b))) H) : uEq K (.str a) (.str b) H Q := Or.inl ⟨rfl, by rw [dec_str]; exact q⟩
theorem s_nes (q : Q (.bl (!decide (a = b))) H) : uNe K (.str a) (.str b) H Q := Or.inl ⟨rfl, by rw [dec_str]; exact q⟩
theorem s_in1 {c : Nat} {z : Str} (q : Q (.bl (decide (c ∈ z.cps.toList))) H) : uIn K false (.str ⟨#[c]⟩) (.str z) H Q := Or.inl ⟨c, z, rfl, rfl, q⟩
theorem s_notin1 {c : Nat} {z : Str} (q : Q (.bl (!decide (c ∈ z.cps.toList))) H) : uIn K true (.str ⟨#[c]⟩) (.str z) H Q := Or.inl ⟨c, z, rfl, rfl, q⟩
theorem s_is (q : Q (.bl (decide (x = .non))) H) : uIs x .non H Q := ⟨rfl, q⟩
theorem s_isnot (q : Q (.bl (!decide (x = .non))) H) : uIsNot x .non H Q := ⟨rfl, q⟩
/-- items of lists -/
theorem s_nil {Q : List V → Hp → Prop} (q : Q [] H) : tNil σ H Q := q
theorem s_cons {Q : List V → Hp → Prop} {tr : TA} (h : te σ H fun x H1 => tr σ H1 fun xs H2 => Q (x :: xs) H2) : tCons te tr σ H Q := h
def LstK (Q : VK) (xs : List V) (H : Hp) : Prop := xs.length ≤ sizeLine ∧ ∀ p, H p = none → Q (.ref p) (upd H p (.lst xs))
def TupK (Q : VK) (xs : List V) (H : Hp) : Prop := xs.length ≤ sizeLine ∧ ∀ p, H p = none → Q (.ref p) (upd H p (.tup xs))
theorem s_lst {t : TA} (h : t σ H (LstK Q)) : tLst t σ H Q := h
theorem s_tup {t : TA} (h : t σ H (TupK Q)) : tTup t σ H Q := h
theorem s_cb {r : List V → Hp → VK → Prop} {t : TA} (h : t σ H fun vs H1 => r vs H1 Q) : tCB r t σ H Q := h
theorem s_go {sp : Sp} {E : XK} {t : TA} (h : t σ H fun vs H1 => sp vs H1 Q E) : tGo sp E t σ H Q := h
theorem s_max (q : Q (.int (if m > n then m else n)) H) : (fun xs H Q => ∃ i j, xs = [V.int i, V.int j] ∧ Q (.int (if j > i then j else i)) H : List V → Hp → VK → Prop) [.int n, .int m] H Q := ⟨n, m, rfl, q⟩
theorem at_nat {α : Type} {xs : List α} {j : Nat} {z : α} (h : xs[j]? = some z) : atI xs (j : Int) = some z := by
  have hj : j < xs.length := (List.getElem?_eq_some_iff.mp h).1
  unfold atI ixN
  rw [if_pos (by omega), if_pos (by omega)]
  simpa using h
theorem at_int {α : Type} {xs : List α} {j : Int} (h0 : 0 ≤ j) (h1 : j < xs.length) : ∃ z, xs[j.toNat]? = some z ∧ atI xs j = some z := by
  refine ⟨xs[j.toNat]'(by omega), by simp, ?_⟩
  have := at_nat (xs := xs) (j := j.toNat) (z := xs[j.toNat]'(by omega)) (by simp)
  rwa [Int.toNat_of_nonneg h0] at this
theorem s_ixL {p : Addr} {xs : List V} (h : SqL K H p xs) (ha : atI xs n = some v) (q : Q v H) : rIx K (.ref p) (.int n) H Q := Or.inl ⟨p, xs, n, v, rfl, rfl, h, ha, q⟩
theorem s_ixl {p : Addr} {xs : List V} (h : H p = some (.lst xs)) (ha : atI xs n = some v) (q : Q v H) : rIx K (.ref p) (.int n) H Q := Or.inl ⟨p, xs, n, v, rfl, rfl, SqL.of h, ha, q⟩
theorem s_ixt {p : Addr} {xs : List V} (h : H p = some (.tup xs)) (ha : atI xs n = some v) (q : Q v H) : rIx K (.ref p) (.int n) H Q := Or.inr (Or.inl ⟨p, xs, n, v, rfl, rfl, SqT.of h, ha, q⟩)
theorem s_ixs {z : Str} {c : Nat} (hz : z.length ≤ sizeLine) (ha : atI z.cps.toList n = some c) (q : Q (.str ⟨#[c]⟩) H) : rIx K (.str z) (.int n) H Q := Or.inr (Or.inr ⟨z, n, c, rfl, rfl, hz, ha, q⟩)
theorem s_sub2 {to ti : TE} {t : V → V → V → Hp → (Hp → Prop) → Prop} {R : L2.St → Hp → Prop} (h : to σ H fun o H1 => ti σ H1 fun i H2 => t o i v H2 fun H3 => R σ H3) : gSub to ti t v σ H R := h
theorem s_setl {p : Addr} {xs ys : List V} {j : Nat} {R : Hp → Prop} (h : H p = some (.lst xs)) (hj : ixN xs.length n = some j) (e : xs.set j v = ys) (q : R (upd H p (.lst ys))) : rSetL (.ref p) (.int n) v H R := ⟨p, xs, n, j, rfl, rfl, h, hj, by rw [e]; exact q⟩
theorem s_ite {p : Prop} [Decidable p] {A B : Prop} (h1 : p → A) (h2 : ¬p → B) : if decide p = true then A else B := by
  by_cases h : p
  · rw [decide_eq_true h, if_pos rfl]; exact h1 h
  · rw [decide_eq_false h, if_neg Bool.false_ne_true]; exact h2 h
theorem s_itn {p : Prop} [Decidable p] {A B : Prop} (h1 : ¬p → A) (h2 : p → B) : if (!decide p) = true then A else B := by
  by_cases h : p
  · rw [decide_eq_true h]; exact h2 h
  · rw [decide_eq_false h]; exact h1 h
theorem s_itt {A B : Prop} (h : A) : if true = true then A else B := h
theorem s_itf {A B : Prop} (h : B) : if false = true then A else B := h
theorem s_itb {k : Bool} {A B : Prop} (h1 : k = true → A) (h2 : k = false → B) : if k = true then A else B := by
  cases k with
  | true => exact h1 rfl
  | false => exact h2 rfl
end

/-! heaps: what stands still stands -/
section
variable {K : PySem.W.Frag} {H H1 H2 : Hp} {ps qs : List Addr} {a b p : Addr} {o u : HO}
/-- the kind of what stands -/
def ko : HO → Nat
  | .lst _ => 0 | .tup _ => 1 | .dK _ => 2 | .dT _ => 3 | .set _ _ => 4 | .ins _ _ _ => 5 | .own _ => 6 | .xd _ => 7 | .met _ _ => 8 | .rng _ _ => 9 | .frz _ _ => 10 | .tbl _ => 11
  | _ => 12
def Th (H : Hp) (a : Addr) (i : Nat) : Prop := ∃ o, H a = some o ∧ ko o = i
theorem Th.of (h : H a = some o) : Th H a (ko o) := ⟨o, h, rfl⟩
theorem Th.lst {xs : List V} (h : H a = some (.lst xs)) : Th H a 0 := ⟨_, h, rfl⟩
theorem Th.tup {xs : List V} (h : H a = some (.tup xs)) : Th H a 1 := ⟨_, h, rfl⟩
theorem Th.dK {xs : List (Key × V)} (h : H a = some (.dK xs)) : Th H a 2 := ⟨_, h, rfl⟩
theorem Th.ins {C dx : Addr} {xs : List (Str × V)} (h : H a = some (.ins C dx xs)) : Th H a 5 := ⟨_, h, rfl⟩
theorem Th.xd {xs : List (Str × V)} (h : H a = some (.xd xs)) : Th H a 7 := ⟨_, h, rfl⟩
/-- all that stood, but at the places ps, stands as it stood; and what stood stands, of its kind -/
structure Kp (ps : List Addr) (H H' : Hp) : Prop where
  keep : ∀ b o, H b = some o → b ∉ ps → H' b = some o
  kd : ∀ b i, Th H b i → Th H' b i
  tp : ∀ b xs, H b = some (.tup xs) → H' b = some (.tup xs)
theorem Kp.dom (h : Kp ps H H1) (b : Addr) (n : H1 b = none) : H b = none := by
  cases e : H b with
  | none => rfl
  | some o =>
    obtain ⟨o', e', _⟩ := h.kd b _ (Th.of e)
    rw [e'] at n; cases n
theorem Kp.refl : Kp ps H H := ⟨fun _ _ e _ => e, fun _ _ e => e, fun _ _ e => e⟩
theorem Kp.trans (h : Kp ps H H1) (g : Kp ps H1 H2) : Kp ps H H2 := ⟨fun b o e n => g.keep b o (h.keep b o e n) n, fun b i e => g.kd b i (h.kd b i e), fun b xs e => g.tp b xs (h.tp b xs e)⟩
theorem Kp.mono (h : Kp ps H H1) (g : ∀ a ∈ ps, a ∈ qs) : Kp qs H H1 := ⟨fun b o e n => h.keep b o e fun m => n (g b m), h.kd, h.tp⟩
theorem Kp.nil (h : Kp [] H H1) : Kp ps H H1 := h.mono fun _ m => nomatch m
theorem Kp.get (h : Kp ps H H1) (e : H b = some o) (n : b ∉ ps) : H1 b = some o := h.keep b o e n
theorem Kp.get0 (h : Kp [] H H1) (e : H b = some o) : H1 b = some o := h.keep b o e (by simp)
theorem Kp.get1 (h : Kp [p] H H1) (e : H b = some o) (n : b ≠ p) : H1 b = some o := h.keep b o e (by simpa using n)
theorem Kp.new (h : Kp ps H H1) (n : H1 p = none) : Kp ps H (upd H1 p u) := ⟨fun b o e m => by
  have e1 := h.keep b o e m
  rw [upd_ne (ne_of_none e1 n)]
  exact e1, fun b i e => by
  obtain ⟨o, e1, r⟩ := h.kd b i e
  exact ⟨o, by rw [upd_ne (ne_of_none e1 n)]; exact e1, r⟩, fun b xs e => by
  have e1 := h.tp b xs e
  rw [upd_ne (ne_of_none e1 n)]
  exact e1⟩
theorem Kp.put (h : Kp ps H H1) (m : p ∈ ps) (z : Th H1 p (ko u)) (y : Nat.beq (ko u) 1 = false := by rfl) : Kp ps H (upd H1 p u) := ⟨fun b o e n => by
  rw [upd_ne (fun z => n (by rw [z]; exact m))]
  exact h.keep b o e n, fun b i e => by
  by_cases y : b = p
  · subst y
    obtain ⟨o1, e1, r1⟩ := z
    obtain ⟨o2, e2, r2⟩ := h.kd b i e
    rw [e1] at e2
    cases e2
    exact ⟨u, upd_same, by rw [← r1, r2]⟩
  · obtain ⟨o2, e2, r2⟩ := h.kd b i e
    exact ⟨o2, by rw [upd_ne y]; exact e2, r2⟩, fun b xs e => by
  have e1 := h.tp b xs e
  have n : b ≠ p := fun x => by
    subst x
    obtain ⟨o1, e2, r1⟩ := z
    rw [e1] at e2
    cases e2
    rw [← r1] at y
    cases y
  rw [upd_ne n]
  exact e1⟩
theorem Kp.tgt {xs : List V} (h : Kp ps H H1) (e : H b = some (.tup xs)) : H1 b = some (.tup xs) := h.tp b xs e
theorem Kp.fresh (h : Kp ps H H1) (n : H1 p = none) : H p = none := h.dom p n
theorem Kp.fresh0 (h : Kp [] H H1) (n : H1 p = none) : H p = none := h.dom p n
/-- a place that did not stand may have changed -/
theorem Kp.drop (h : Kp (p :: ps) H H1) (n : H p = none) : Kp ps H H1 := ⟨fun b o e m => h.keep b o e (by
  intro z
  rcases List.mem_cons.mp z with z | z
  · subst z; rw [n] at e; cases e
  · exact m z), h.kd, h.tp⟩
/-- a new object, the heap behind it as a letter -/
theorem new_abs {o : HO} {R : Addr → Hp → Prop} (h : ∀ p H', H p = none → H' p = some o → Kp [] H H' → R p H') : ∀ p, H p = none → R p (upd H p o) :=
  fun p f => h p _ f upd_same (Kp.refl.new f)
theorem s_newl {Q : VK} {xs : List V} (hz : xs.length ≤ sizeLine) (h : ∀ p H', H p = none → H' p = some (.lst xs) → Kp [] H H' → Q (.ref p) H') : LstK Q xs H := ⟨hz, new_abs h⟩
theorem s_newt {Q : VK} {xs : List V} (hz : xs.length ≤ sizeLine) (h : ∀ p H', H p = none → H' p = some (.tup xs) → Kp [] H H' → Q (.ref p) H') : TupK Q xs H := ⟨hz, new_abs h⟩
theorem s_addl {Q : VK} {p q : Addr} {xs ys : List V} (h1 : H p = some (.lst xs)) (h2 : H q = some (.lst ys)) (h : xs.length + ys.length ≤ sizeLine)
    (z : ∀ p' H', H p' = none → H' p' = some (.lst (xs ++ ys)) → Kp [] H H' → Q (.ref p') H') : uAdd K (.ref p) (.ref q) H Q :=
  Or.inr (Or.inr (Or.inl ⟨p, q, xs, ys, rfl, rfl, h1, h2, h, new_abs z⟩))
theorem Kp.rd (h : Kp [] H H1) (e : Rd H a u) : Rd H1 a u := by
  rcases e with e | ⟨o, e⟩
  · exact Or.inl (h.get0 e)
  · exact Or.inr ⟨o, h.get0 e⟩
theorem Kp.sql {xs : List V} (h : Kp [] H H1) (e : SqL K H a xs) : SqL K H1 a xs := by
  rcases e with e | e
  · exact Or.inl (h.rd e)
  · exact Or.inr e
theorem Kp.sqt {xs : List V} (h : Kp [] H H1) (e : SqT K H a xs) : SqT K H1 a xs := by
  rcases e with e | e
  · exact Or.inl (h.rd e)
  · exact Or.inr e
end
end U

namespace U
open PySem L2 PySem.Spec PyProof.Rows

/-! promises by the number of arguments -/
abbrev P0 := Hp → VK → XK → Prop
def sp0 (F : P0) : Sp := fun vs H Q E => vs = [] ∧ F H Q E
def sp1 (F : V → P0) : Sp := fun vs H Q E => ∃ a, vs = [a] ∧ F a H Q E
def sp2 (F : V → V → P0) : Sp := fun vs H Q E => ∃ a b, vs = [a, b] ∧ F a b H Q E
def sp3 (F : V → V → V → P0) : Sp := fun vs H Q E => ∃ a b c, vs = [a, b, c] ∧ F a b c H Q E
def sp4 (F : V → V → V → V → P0) : Sp := fun vs H Q E => ∃ a b c d, vs = [a, b, c, d] ∧ F a b c d H Q E
def sp5 (F : V → V → V → V → V → P0) : Sp := fun vs H Q E => ∃ a b c d e, vs = [a, b, c, d, e] ∧ F a b c d e H Q E
def sp6 (F : V → V → V → V → V → V → P0) : Sp := fun vs H Q E => ∃ a b c d e f, vs = [a, b, c, d, e, f] ∧ F a b c d e f H Q E
section
variable {H : Hp} {Q : VK} {E : XK} {a b c d e f : V}
theorem s_sp0 {F : P0} (h : F H Q E) : sp0 F [] H Q E := ⟨rfl, h⟩
theorem s_sp1 {F : V → P0} (h : F a H Q E) : sp1 F [a] H Q E := ⟨a, rfl, h⟩
theorem s_sp2 {F : V → V → P0} (h : F a b H Q E) : sp2 F [a, b] H Q E := ⟨a, b, rfl, h⟩
theorem s_sp3 {F : V → V → V → P0} (h : F a b c H Q E) : sp3 F [a, b, c] H Q E := ⟨a, b, c, rfl, h⟩
theorem s_sp4 {F : V → V → V → V → P0} (h : F a b c d H Q E) : sp4 F [a, b, c, d] H Q E := ⟨a, b, c, d, rfl, h⟩
theorem s_sp5 {F : V → V → V → V → V → P0} (h : F a b c d e H Q E) : sp5 F [a, b, c, d, e] H Q E := ⟨a, b, c, d, e, rfl, h⟩
theorem s_sp6 {F : V → V → V → V → V → V → P0} (h : F a b c d e f H Q E) : sp6 F [a, b, c, d, e, f] H Q E := ⟨a, b, c, d, e, f, rfl, h⟩
end

/-! built-in names -/
theorem bt_len : bootBuiltins "len" = some (.builtin "len") := by decide +kernel
theorem bt_max : bootBuiltins "max" = some (.builtin "max") := by decide +kernel
theorem bt_min : bootBuiltins "min" = some (.builtin "min") := by decide +kernel
theorem bt_all : bootBuiltins "all" = some (.builtin "all") := by decide +kernel
theorem bt_any : bootBuiltins "any" = some (.builtin "any") := by decide +kernel
theorem bt_repr : bootBuiltins "repr" = some (.builtin "repr") := by decide +kernel
theorem bt_sorted : bootBuiltins "sorted" = some (.builtin "sorted") := by decide +kernel
theorem bt_sum : bootBuiltins "sum" = some (.builtin "sum") := by decide +kernel
theorem bt_isinstance : bootBuiltins "isinstance" = some (.builtin "isinstance") := by decide +kernel
theorem bt_int : bootBuiltins "int" = some (.type "int") := by decide +kernel
theorem bt_bool : bootBuiltins "bool" = some (.type "bool") := by decide +kernel
theorem bt_str : bootBuiltins "str" = some (.type "str") := by decide +kernel
theorem bt_list : bootBuiltins "list" = some (.type "list") := by decide +kernel
theorem bt_tuple : bootBuiltins "tuple" = some (.type "tuple") := by decide +kernel
theorem bt_dict : bootBuiltins "dict" = some (.type "dict") := by decide +kernel
theorem bt_set : bootBuiltins "set" = some (.type "set") := by decide +kernel
theorem bt_range : bootBuiltins "range" = some (.type "range") := by decide +kernel

section
variable {X : Cx} {K : PySem.W.Frag}
def uLen (K : PySem.W.Frag) : List V → Hp → VK → Prop := fun xs H Q => (∃ x n, xs = [x] ∧ LenV K x H n ∧ Q (.int n) H) ∨ ∃ a kvs, xs = [V.ref a] ∧ H a = some (.dK kvs) ∧ Q (.int kvs.length) H
theorem c_len (hK : X.K = K) : CallR X (.builtin "len") (uLen K) := hK ▸ call_len.or call_lenD
def uMax : List V → Hp → VK → Prop := fun xs H Q => ∃ i j, xs = [.int i, .int j] ∧ Q (.int (if j > i then j else i)) H
def uMin : List V → Hp → VK → Prop := fun xs H Q => ∃ i j, xs = [.int i, .int j] ∧ Q (.int (if j < i then j else i)) H
theorem c_max (hc : X.calm = true) : CallR X (.builtin "max") uMax := call_max2 hc
theorem c_min (hc : X.calm = true) : CallR X (.builtin "min") uMin := call_min2 hc
def uStr : List V → Hp → VK → Prop := fun xs H Q => ∃ i, xs = [.int i] ∧ i.natAbs.log2 < 1920 ∧ Q (.str (toString i)) H
theorem c_isi (hK : X.K = K) : CallR X (.builtin "isinstance") (rIsi K) := hK ▸ call_isi
theorem c_all (hK : X.K = K) (hc : X.calm = true) : CallR X (.builtin "all") (rAll K) := hK ▸ cr_all hc
theorem c_any (hK : X.K = K) (hc : X.calm = true) : CallR X (.builtin "any") (rAny K) := hK ▸ cr_any hc
theorem c_repr {k : Nat} (hK : X.K = K) (hg : X.A.guards = some []) (hr : Room k X.A) (hs : ∃ mm, X.base.Ns sysModules mm) : CallR X (.builtin "repr") (rRepr K) := hK ▸ call_repr hg hr hs
theorem c_str : CallR X (.type "str") uStr := call_str_int
end

def uJoin (K : PySem.W.Frag) : V → List V → Hp → VK → Prop := fun x xs H Q => ∃ a p, ∃ ys : List Str, x = .str a ∧ xs = [.ref p] ∧ (SqL K H p (ys.map V.str) ∨ SqT K H p (ys.map V.str)) ∧
  (ys.map (·.length)).sum + ys.length * a.length ≤ 16777216 ∧ Q (.str (Txt.join a ys)) H
theorem pe_joinU {X : Cx} {K : PySem.W.Frag} {o e : Expr} {to te : TE} {ap pos : Pos} (hK : X.K = K) (ho : PE X o to) (he : PE X e te) (h1 : starEach [e] X.env = [(false, eval e X.env)] := by rfl) (h2 : attributeBase o "join" X.env (eval o X.env) = eval o X.env := by rfl)
    (h3 : (ap.endLine == pos.line) = true := by rfl) : PE X (.Call (.Attribute o "join" ap) [e] [] pos) (tM1 (uJoin K) to te) := hK ▸ pe_join ho he h1 h2 h3

theorem pi_lst {X : Cx} {K : PySem.W.Frag} {tg l : Expr} {tl : TE} (hK : X.K = K) (hl : PE X l tl) : PI X tg l (iList K tl) := hK ▸ pi_list hl
theorem pi_tpl {X : Cx} {K : PySem.W.Frag} {tg l : Expr} {tl : TE} (hK : X.K = K) (hl : PE X l tl) : PI X tg l (iTup K tl) := hK ▸ pi_tup hl

/-! more steps -/
theorem zle {n : Nat} (h : n ≤ 1000000) : n ≤ sizeLine := Nat.le_trans h (by decide)
/-- what kind of thing a value is -/
inductive Kd | non | bl | int | str | lst | tup | dic
def Kd.nm : Kd → String
  | .non => "NoneType" | .bl => "bool" | .int => "int" | .str => "str" | .lst => "list" | .tup => "tuple" | .dic => "dict"
inductive TyN (H : Hp) : V → Kd → Prop
  | non : TyN H .non .non
  | bl {b : Bool} : TyN H (.bl b) .bl
  | int {i : Int} : TyN H (.int i) .int
  | str {z : Str} : TyN H (.str z) .str
  | lst {a : Addr} {xs : List V} : H a = some (.lst xs) → TyN H (.ref a) .lst
  | tup {a : Addr} {xs : List V} : H a = some (.tup xs) → TyN H (.ref a) .tup
  | dic {a : Addr} {kvs : List (Key × V)} : H a = some (.dK kvs) → TyN H (.ref a) .dic
theorem TyN.ty {K : PySem.W.Frag} {H : Hp} {v : V} {n : Kd} (h : TyN H v n) : TyX K H v (.type n.nm) := by
  cases h with
  | non => exact .base .non
  | bl => exact .base (.bl _)
  | int => exact .base (.int _)
  | str => exact .base (.str _)
  | lst e => exact .base (.lst e)
  | tup e => exact .base (.tup e)
  | dic e => exact .base (.dK e)
theorem TyN.kp {H H' : Hp} {v : V} {n : Kd} (h : TyN H v n) (k : Kp [] H H') : TyN H' v n := by
  cases h with
  | non => exact .non
  | bl => exact .bl
  | int => exact .int
  | str => exact .str
  | lst e => exact .lst (k.get0 e)
  | tup e => exact .tup (k.get0 e)
  | dic e => exact .dic (k.get0 e)
def Kd.isInt : Kd → Bool | .int => true | .bl => true | _ => false
def Kd.isBool : Kd → Bool | .bl => true | _ => false
def Kd.isStr : Kd → Bool | .str => true | _ => false
def Kd.isList : Kd → Bool | .lst => true | _ => false
def Kd.isTup : Kd → Bool | .tup => true | _ => false
def Kd.isDict : Kd → Bool | .dic => true | _ => false
theorem kb_int (t : Kd) : kitB t.nm "int" = some t.isInt := by cases t <;> decide +kernel
theorem kb_bool (t : Kd) : kitB t.nm "bool" = some t.isBool := by cases t <;> decide +kernel
theorem kb_str (t : Kd) : kitB t.nm "str" = some t.isStr := by cases t <;> decide +kernel
theorem kb_list (t : Kd) : kitB t.nm "list" = some t.isList := by cases t <;> decide +kernel
theorem kb_tup (t : Kd) : kitB t.nm "tuple" = some t.isTup := by cases t <;> decide +kernel
theorem kb_dict (t : Kd) : kitB t.nm "dict" = some t.isDict := by cases t <;> decide +kernel
section
variable {K : PySem.W.Frag} {σ : L2.St} {H : Hp} {Q : VK} {D : Ends} {x y v : V} {i : Nat} {n m : Int} {a b : Str}
theorem s_max2 (q : Q (.int (if m > n then m else n)) H) : uMax [.int n, .int m] H Q := ⟨n, m, rfl, q⟩
theorem s_min2 (q : Q (.int (if m < n then m else n)) H) : uMin [.int n, .int m] H Q := ⟨n, m, rfl, q⟩
theorem s_lens (h : a.length ≤ sizeLine) (q : Q (.int a.length) H) : uLen K [.str a] H Q := Or.inl ⟨_, a.length, rfl, ⟨h, rfl⟩, q⟩
theorem s_lenL {p : Addr} {xs : List V} (h : SqL K H p xs) (q : Q (.int xs.length) H) : uLen K [.ref p] H Q := Or.inl ⟨_, xs.length, rfl, Or.inl ⟨xs, h, rfl⟩, q⟩
theorem s_lenl {p : Addr} {xs : List V} (h : H p = some (.lst xs)) (q : Q (.int xs.length) H) : uLen K [.ref p] H Q := s_lenL (SqL.of h) q
theorem s_lent {p : Addr} {xs : List V} (h : H p = some (.tup xs)) (q : Q (.int xs.length) H) : uLen K [.ref p] H Q := Or.inl ⟨_, xs.length, rfl, Or.inr ⟨xs, SqT.of h, rfl⟩, q⟩
theorem s_lend {p : Addr} {xs : List (Key × V)} (h : H p = some (.dK xs)) (q : Q (.int xs.length) H) : uLen K [.ref p] H Q := Or.inr ⟨p, xs, rfl, h, q⟩
theorem s_str (h : n.natAbs.log2 < 1920) (q : Q (.str (toString n)) H) : uStr [.int n] H Q := ⟨n, rfl, h, q⟩
theorem s_isi0 {s t : String} {k : Bool} (h : TyX K H v (.type s)) (hk : kitB s t = some k) (q : Q (.bl k) H) : rIsi K [v, .ty t] H Q := ⟨v, .ty t, .type s, .type t, k, rfl, .ty t, h, kit_ty hk, q⟩
theorem s_isInt {t : Kd} (h : TyN H v t) (q : Q (.bl t.isInt) H) : rIsi K [v, .ty "int"] H Q := s_isi0 h.ty (kb_int t) q
theorem s_isBool {t : Kd} (h : TyN H v t) (q : Q (.bl t.isBool) H) : rIsi K [v, .ty "bool"] H Q := s_isi0 h.ty (kb_bool t) q
theorem s_isStr {t : Kd} (h : TyN H v t) (q : Q (.bl t.isStr) H) : rIsi K [v, .ty "str"] H Q := s_isi0 h.ty (kb_str t) q
theorem s_isList {t : Kd} (h : TyN H v t) (q : Q (.bl t.isList) H) : rIsi K [v, .ty "list"] H Q := s_isi0 h.ty (kb_list t) q
theorem s_isTup {t : Kd} (h : TyN H v t) (q : Q (.bl t.isTup) H) : rIsi K [v, .ty "tuple"] H Q := s_isi0 h.ty (kb_tup t) q
theorem s_isDict {t : Kd} (h : TyN H v t) (q : Q (.bl t.isDict) H) : rIsi K [v, .ty "dict"] H Q := s_isi0 h.ty (kb_dict t) q
theorem s_itT {k : Bool} {A B : Prop} (e : k = true) (h : A) : if k = true then A else B := by subst e; exact h
theorem s_itF {k : Bool} {A B : Prop} (e : k = false) (h : B) : if k = true then A else B := by subst e; exact h
theorem s_sl {r : V → Option Int → Option Int → Hp → VK → Prop} {te : TE} {tl th : TO} (h : te σ H fun x H1 => tl σ H1 fun l H2 => th σ H2 fun u H3 => r x l u H3 Q) : tSl r te tl th σ H Q := h
theorem s_nopart {Q : Option Int → Hp → Prop} (q : Q none H) : tNoPart σ H Q := q
theorem s_part {Q : Option Int → Hp → Prop} {t : TE} (h : t σ H fun x H1 => ∃ i, x = .int i ∧ Q (some i) H1) : tPart t σ H Q := h
theorem s_int {P : Int → Prop} (q : P n) : ∃ i, V.int n = .int i ∧ P i := ⟨n, rfl, q⟩
theorem s_sls {lo hi : Option Int} (h : a.length ≤ sizeLine) (q : Q (.str (cutS a lo hi)) H) : uSl K (.str a) lo hi H Q := Or.inr (Or.inl ⟨a, rfl, h, q⟩)
theorem s_sll {lo hi : Option Int} {p : Addr} {xs : List V} (h : SqL K H p xs) (q : ∀ p' H', H p' = none → H' p' = some (.lst (cutV xs lo hi)) → Kp [] H H' → Q (.ref p') H') : uSl K (.ref p) lo hi H Q := Or.inl ⟨p, xs, rfl, h, new_abs q⟩
theorem s_m1 {r : V → List V → Hp → VK → Prop} {to te : TE} (h : to σ H fun x H1 => (∃ a, x = .str a) ∧ te σ H1 fun y H2 => r x [y] H2 Q) : tM1 r to te σ H Q := h
theorem s_isstr {R : Prop} (h : R) : (∃ b, V.str a = .str b) ∧ R := ⟨⟨a, rfl⟩, h⟩
theorem s_join {p : Addr} {ys : List Str} (h : H p = some (.lst (ys.map V.str))) (hz : (ys.map (·.length)).sum + ys.length * a.length ≤ 16777216) (q : Q (.str (Txt.join a ys)) H) : uJoin K (.str a) [.ref p] H Q :=
  ⟨a, p, ys, rfl, rfl, Or.inl (SqL.of h), hz, q⟩
theorem s_rng1 {ta : TA} {R : It → Hp → Prop} (h : ta σ H fun vs H1 => ∃ j : Int, vs = [.int j] ∧ -(2 ^ 62) ≤ j ∧ j < 2 ^ 62 ∧ R (Itr 0 j.toNat) H1) : iRng1 ta σ H R := h
theorem s_rng {R : Int → Prop} (h1 : -(2 ^ 62) ≤ n) (h2 : n < 2 ^ 62) (q : R n) : ∃ j : Int, [V.int n] = [.int j] ∧ -(2 ^ 62) ≤ j ∧ j < 2 ^ 62 ∧ R j := ⟨n, rfl, h1, h2, q⟩
theorem s_ilist {tl : TE} {R : It → Hp → Prop} (h : tl σ H fun x H1 => ∃ a, x = .ref a ∧ (∃ xs, SqL K H1 a xs) ∧ R (Itl K a) H1) : iList K tl σ H R := h
theorem s_ilst {p : Addr} {xs : List V} {R : Addr → Prop} (h : SqL K H p xs) (q : R p) : ∃ a, V.ref p = .ref a ∧ (∃ xs, SqL K H a xs) ∧ R a := ⟨p, rfl, ⟨xs, h⟩, q⟩
theorem s_istr {te : TE} {R : It → Hp → Prop} (h : te σ H fun v H1 => ∃ x, v = .str x ∧ R (Its x) H1) : iStr te σ H R := h
theorem s_istr1 {R : Str → Prop} (q : R a) : ∃ x, V.str a = .str x ∧ R x := ⟨a, rfl, q⟩
theorem s_dnew (h : ∀ d H', H d = none → H' d = some (.dK []) → Kp [] H H' → Q (.ref d) H') : tDNewK σ H Q := new_abs (R := fun d H' => Q (.ref d) H') h
theorem s_all {p : Addr} {bs : List Bool} (h : H p = some (.lst (bs.map V.bl))) (q : Q (.bl (bs.all id)) H) : rAll K [.ref p] H Q := ⟨p, bs, rfl, SqL.of h, q⟩
theorem s_yes {Q : Bool → Hp → Prop} (q : Q true H) : tYes σ H Q := q
theorem dpa_strs : ∀ zs : List Str, DpAll K H (zs.map V.str) (zs.map PyData.str)
  | [] => .nil
  | z :: zs => .cons (.str z) (dpa_strs zs)
theorem lay_strs : ∀ {zs : List Str}, (∀ z ∈ zs, ∀ c ∈ z.cps.toList, c < 1114112) → PyData.canLayAll0 (zs.map PyData.str) = true ∧ PyData.depthAll (zs.map PyData.str) ≤ 1
  | [], _ => ⟨rfl, by simp [PyData.depthAll]⟩
  | z :: zs, h => by
    obtain ⟨h1, h2⟩ := lay_strs (zs := zs) fun y hy => h y (List.mem_cons_of_mem _ hy)
    refine ⟨?_, ?_⟩
    · simp only [List.map_cons, PyData.canLayAll0, PyData.canLay0, h1, Bool.and_true, PyData.strOk, Array.all_eq_true', decide_eq_true_eq]
      intro c hc
      exact h z List.mem_cons_self c (by simpa using hc)
    · simp only [List.map_cons, PyData.depthAll, PyData.depth]
      omega
theorem shp_strs {zs : List Str} (h : ∀ z ∈ zs, ∀ c ∈ z.cps.toList, c < 1114112) : SeqAt.shaped (.list (zs.map PyData.str)) = true := by
  obtain ⟨h1, h2⟩ := lay_strs h
  unfold SeqAt.shaped
  rw [Bool.and_eq_true]
  refine ⟨by simpa only [PyData.canLay0] using h1, decide_eq_true ?_⟩
  simp only [PyData.depth]
  omega
theorem s_eqNil {p q : Addr} {zs : List Str} (h1 : H p = some (.lst (zs.map V.str))) (h2 : H q = some (.lst [])) (ok : ∀ z ∈ zs, ∀ c ∈ z.cps.toList, c < 1114112) (k : Q (.bl zs.isEmpty) H) : uEq K (.ref p) (.ref q) H Q := by
  refine Or.inr ⟨_, _, .lst (SqL.of h1) (dpa_strs zs), .lst (SqL.of h2) .nil, shp_strs ok, by decide +kernel, ?_⟩
  have e : PyData.eqv (.list (zs.map PyData.str)) (.list []) = zs.isEmpty := by
    cases zs <;> simp [PyData.eqv, PyData.eqvAll]
  rw [e]
  exact k
/-- a comprehension -/
theorem s_lc {wi : TI} {g : TG} {tt : TT} {te : TE} {vs : List Nat} (h : wi σ H fun J H1 => ∀ D, H1 D = none → ∃ W : Nat → Nat → Hp → Prop, (∃ m, W 0 m (upd H1 D (.lst []))) ∧ ∀ i m H, W i m H →
    (J.stop i H ∧ Q (.ref D) H) ∨ (J.go i H ∧ ∃ Nx : Hp → Prop, (∀ H', Nx H' → ∃ m', m' < m ∧ W (i + 1) m' H') ∧ ∀ x H', J.yld i H x H' → g x (wipe σ vs) H' fun σ2 H2 => wipe σ2 vs = wipe σ vs ∧ tt σ2 H2 fun b H3 =>
      if b = true then te σ2 H3 fun y H4 => ∃ acc, H4 D = some (.lst acc) ∧ acc.length < sizeLine ∧ Nx (upd H4 D (.lst (acc ++ [y]))) else Nx H3)) : tLc wi g tt te vs σ H Q := h
/-- a loop -/
theorem s_for {wi : TI} {g : TG} {tb : TS} (h : wi σ H fun J H1 => ∃ W : Nat → Nat → L2.St → Hp → Prop, (∃ m, W 0 m σ H1) ∧ ∀ i m σ H, W i m σ H →
    (J.stop i H ∧ D.nx σ H) ∨ (J.go i H ∧ ∃ N : L2.St → Hp → Prop, (∀ σ' H', N σ' H' → ∃ m', m' < m ∧ W (i + 1) m' σ' H') ∧ ∀ x H', J.yld i H x H' → g x σ H' fun σ2 H2 => tb { D with nx := N, ct := N, bk := D.nx } σ2 H2)) : tFor wi g tb D σ H := h
/-- a comprehension's invariant, by the items made so far -/
def PvD (D : Addr) (Pv : Nat → List V → Hp → Prop) (i : Nat) (H : Hp) : Prop := ∃ acc, H D = some (.lst acc) ∧ Pv i acc H
theorem PvD.start {D : Addr} {Pv : Nat → List V → Hp → Prop} (h : Pv 0 [] (upd H D (.lst []))) : PvD D Pv 0 (upd H D (.lst [])) := ⟨[], upd_same, h⟩
theorem PvD.more {D : Addr} {Pv : Nat → List V → Hp → Prop} {acc : List V} (e : H D = some (.lst acc)) (hz : acc.length < sizeLine) (h : Pv i (acc ++ [y]) (upd H D (.lst (acc ++ [y])))) :
    ∃ acc, H D = some (.lst acc) ∧ acc.length < sizeLine ∧ PvD D Pv i (upd H D (.lst (acc ++ [y]))) := ⟨acc, e, hz, acc ++ [y], upd_same, h⟩
theorem PvD.skip {D : Addr} {Pv : Nat → List V → Hp → Prop} {acc : List V} (e : H D = some (.lst acc)) (h : Pv i acc H) : PvD D Pv i H := ⟨acc, e, h⟩
end
end U

namespace U
open PySem L2 PySem.Spec PyProof.Rows
theorem log2s {m : Nat} (h : m < 10 ^ 100) : m.log2 < 1920 := log2_small (Nat.lt_of_lt_of_le h (by decide +kernel))
/-- a text of at most n signs -/
structure SS (z : Str) (n : Nat) : Prop where
  len : z.length ≤ n
  ok : ∀ c ∈ z.cps.toList, c < 1114112
theorem SS.mono {z : Str} {n m : Nat} (h : SS z n) (e : n ≤ m) : SS z m := ⟨Nat.le_trans h.len e, h.ok⟩
theorem SS.app {a b : Str} {n m : Nat} (h : SS a n) (g : SS b m) : SS (a ++ b) (n + m) := by
  refine ⟨by rw [Str.length_append]; have := h.len; have := g.len; omega, fun c hc => ?_⟩
  rw [Str.cps_append, Array.toList_append, List.mem_append] at hc
  rcases hc with hc | hc
  · exact h.ok c hc
  · exact g.ok c hc
theorem SS.cut {a : Str} {n : Nat} {lo hi : Option Int} (h : SS a n) : SS (cutS a lo hi) n := by
  refine ⟨?_, fun c hc => ?_⟩
  · show (List.toArray _).size ≤ n
    rw [List.size_toArray, List.length_take, List.length_drop, Array.length_toList]
    have : a.cps.size ≤ n := h.len
    omega
  · have hc : c ∈ (List.take (HT.sIx a.length a.length hi - HT.sIx a.length 0 lo) (List.drop (HT.sIx a.length 0 lo) a.cps.toList)) := by simpa [cutS] using hc
    exact h.ok c (List.mem_of_mem_drop (List.mem_of_mem_take hc))
theorem SS.one {c : Nat} (h : c < 1114112) : SS ⟨#[c]⟩ 1 := ⟨by simp [Str.length], fun d hd => by
  have : d = c := by simpa using hd
  subst this; exact h⟩
theorem SS.mk' {z : Str} {n : Nat} (h : z.length ≤ n ∧ ∀ c ∈ z.cps.toList, c < 1114112) : SS z n := ⟨h.1, h.2⟩
theorem join_ones : ∀ cs : List Nat, Txt.join (Str.ofString "") (cs.map fun c => ⟨#[c]⟩) = ⟨cs.toArray⟩ := fun cs => by
  rw [show ∀ y l, Txt.join y l = Str.join y l from fun y l => StrLaws.glued_eq_join y l]
  have e0 : Str.ofString "" = Str.empty := by decide +kernel
  rw [e0]
  induction cs with
  | nil => rfl
  | cons c cs ih =>
    cases cs with
    | nil => rfl
    | cons d cs =>
      show (⟨#[c]⟩ : Str) ++ Str.empty ++ Str.join Str.empty ((d :: cs).map fun c => ⟨#[c]⟩) = _
      rw [ih]
      refine Str.ext' ?_
      simp [Str.cps_append, Str.empty]
theorem SS.ones {cs : List Nat} (h : ∀ c ∈ cs, c < 1114112) : SS (Txt.join (Str.ofString "") (cs.map fun c => ⟨#[c]⟩)) cs.length := by
  rw [join_ones]
  exact ⟨by simp [Str.length], by simpa using h⟩
theorem SS.num {i : Int} (h : i.natAbs < 10 ^ 100) : SS (Str.ofString (toString i)) 102 := by
  refine ⟨int_len h, fun c hc => ?_⟩
  rw [Str.ofString_eq_toList] at hc
  have hc : c ∈ (toString i).toList.map Char.toNat := by simpa using hc
  obtain ⟨d, _, rfl⟩ := List.mem_map.mp hc
  have h2 : d.toNat.isValidChar := d.valid
  unfold Nat.isValidChar at h2
  omega
theorem SS.at {z : Str} {n : Nat} {i : Int} (h : SS z n) (h0 : 0 ≤ i) (h1 : i < z.length) : ∃ c, atI z.cps.toList i = some c ∧ c < 1114112 ∧ c ∈ z.cps.toList := by
  obtain ⟨c, e1, e2⟩ := at_int (xs := z.cps.toList) h0 (by rw [Array.length_toList]; exact h1)
  have m := List.mem_of_getElem? e1
  exact ⟨c, e2, h.ok c m, m⟩
theorem ones_len (cs : List Nat) : ((cs.map fun c => (⟨#[c]⟩ : Str)).map (·.length)).sum = cs.length := by
  induction cs with
  | nil => rfl
  | cons c cs ih =>
    rw [List.map_cons, List.map_cons, List.sum_cons, ih, List.length_cons]
    simp [Str.length]
    omega
end U

namespace U
open PySem L2 PySem.Spec PyProof.Rows

theorem peImp {X : Cx} {e : Expr} {t u : TE} (h : PE X e t) (w : ∀ σ H (Q : VK), u σ H Q → ∃ Q0 : VK, t σ H Q0 ∧ ∀ x H1, Q0 x H1 → Q x H1) : PE X e u :=
  ⟨fun pi s σ H Q I q => by
    obtain ⟨Q0, q0, z⟩ := w σ H Q q
    exact thn (h.run pi s σ H Q0 I q0) fun a s1 ⟨x, H1, I1, r1, q1⟩ => ⟨x, H1, I1, r1, z x H1 q1⟩⟩
def tMo (t : TE) : TE := fun σ H Q => ∃ Q0 : VK, t σ H Q0 ∧ ∀ x H1, Q0 x H1 → Q x H1
theorem peMo {X : Cx} {e : Expr} {t : TE} (h : PE X e t) : PE X e (tMo t) := peImp h fun _ _ _ q => q
def tMa (t : TA) : TA := fun σ H Q => ∃ Q0 : List V → Hp → Prop, t σ H Q0 ∧ ∀ x H1, Q0 x H1 → Q x H1
theorem paMo {X : Cx} {es : List Expr} {t : TA} (h : PA X es t) : PA X es (tMa t) :=
  ⟨fun pos pi s σ H Q I ⟨Q0, q0, z⟩ => thn (h.run pos pi s σ H Q0 I q0) fun a s1 ⟨x, H1, I1, r1, q1⟩ => ⟨x, H1, I1, r1, z x H1 q1⟩⟩
theorem psImp {X : Cx} {st : Stmt} {t u : TS} (h : PS X st t) (w : ∀ D σ H, u D σ H → t D σ H) : PS X st u :=
  ⟨fun pi s σ H D I q => h.run pi s σ H D I (w D σ H q)⟩

/-! what is raised passes -/
section
variable {X : Cx} {E : XK}
theorem passF : Passes (L2.CX X.prog X.w) X (fun _ _ _ => False) := fun _ _ _ _ _ _ _ c => by
  obtain ⟨_, _, _, _, _, _, _, _, _, _, _, _, z⟩ := c
  exact z.elim
/-- the wish of a def's body -/
abbrev wE (E : XK) : WX := fun cls d _ H => E cls d H
abbrev wNo : WX := fun _ _ _ _ => False
end

/-! calls -/
section
variable {X : Cx} {k : Nat} {f C : Addr} {fd : FuncData} {ps : List Str} {sp : Sp} {W : WX} {x m : Str} {p ap pos : Pos} {e o : Expr} {es : List Expr} {t : TA} {ta : TE} {K : PySem.W.Frag}
variable {pi : List (Addr × Obj)} {σ : L2.St} {H : Hp} {s : Shared} {Q : VK} {us : List Value} {vs : List V}
theorem bind0 (hb : Binds X.K fd ps []) (I : Inv X pi σ H s) (r : Vals vs us) (l : vs.length = ps.length) : BindsTo s fd ⟨us, []⟩ (ps.zip us) := by
  have e1 : us ++ [] = us := List.append_nil us
  have b1 := hb s us I.kIn (by rw [e1, ← r.length]; exact l)
  rw [e1] at b1
  exact b1
theorem run_o (F : FnOk X.prog X.w X.K X.mg X.base (L2.CX X.prog X.w) k f fd ps sp) (hr : Room k X.A) (hb : Binds X.K fd ps []) (tk : Takes X W) (I : Inv X pi σ H s) (r : Vals vs us) (h : sp vs H Q (fun cls d H' => W cls d σ H')) :
    wpAny (model X.prog X.w) X.A (call (.ref f) us) (EP X pi σ Q) X.xe s := by
  refine wpAny_call (codeAny_mono (F.run X.A X.stack s H ⟨us, []⟩ us vs Q _ hr I.env0 (bind0 hb I r (F.len _ _ _ _ h)) r h) fun rr s' hq => ?_)
  match rr, hq with
  | .error er, z => exact tk er s' (XE.of_call I (fun _ _ _ y => y) z)
  | .ok (.ret u), z => exact I.after z
  | .ok .next, z => exact z.elim
  | .ok .brk, z => exact z.elim
  | .ok .cont, z => exact z.elim
theorem run_g (F : FnG X.prog X.w X.K X.mg X.base (L2.CX X.prog X.w) k f fd ps sp) (hg : X.A.guards = some []) (hr : Room k X.A) (hb : Binds X.K fd ps []) (tk : Takes X W) (I : Inv X pi σ H s) (r : Vals vs us) (h : sp vs H Q (fun cls d H' => W cls d σ H')) :
    wpAny (model X.prog X.w) X.A (call (.ref f) us) (EP X pi σ Q) X.xe s := by
  refine wpAny_call (codeAny_mono (F.run X.A X.stack s H ⟨us, []⟩ us vs Q _ hg hr I.env0 (bind0 hb I r (F.len _ _ _ _ h)) r h) fun rr s' hq => ?_)
  match rr, hq with
  | .error er, z => exact tk er s' (XE.of_call I (fun _ _ _ y => y) z)
  | .ok (.ret u), z => exact I.after z
  | .ok .next, z => exact z.elim
  | .ok .brk, z => exact z.elim
  | .ok .cont, z => exact z.elim
def tCo (sp : Sp) (W : WX) (t : TA) : TE := fun σ H Q => t σ H fun vs H1 => sp vs H1 Q fun cls d H' => W cls d σ H'
/-- f(e, ..), f of a promise that asks nothing of what is around -/
theorem pe_co (F : FnOk X.prog X.w X.K X.mg X.base (L2.CX X.prog X.w) k f fd ps sp) (hr : Room k X.A) (gl : Gl X x) (hm : X.mg x = some (.ref f)) (hk : PySem.W.keepIn X.K (.ref f) = true) (hb : Binds X.K fd ps []) (tk : Takes X W)
    (ha : PA X (e :: es) t) (h1 : (x == ("__debug__" : Str)) = false := by decide) (h2 : starEach (e :: es) X.env = (false, eval e X.env) :: starEach es X.env := by rfl) (h3 : (backTo pos (starEach es X.env)).any (·.1) = false := by rfl) :
    PE X (.Call (.Name x p) (e :: es) [] pos) (tCo sp W t) := by
  refine ⟨fun pi s σ H Q I h => wpAny_Call_Name_kw (ld_glob I gl hm ?_ h1)⟩
  refine PySem.W.callWith_K (h₀ := X.base) I.ok.mod.kin hk (thn (ha.run pos pi s σ H _ I h) ?_) h2 h3
  rintro us s1 ⟨vs, H1, I1, r, q⟩
  exact ⟨I1.kIn, run_o F hr hb tk I1 r q⟩
theorem pe_co0 (F : FnOk X.prog X.w X.K X.mg X.base (L2.CX X.prog X.w) k f fd ps sp) (hr : Room k X.A) (gl : Gl X x) (hm : X.mg x = some (.ref f)) (hk : PySem.W.keepIn X.K (.ref f) = true) (hb : Binds X.K fd ps []) (tk : Takes X W)
    (h1 : (x == ("__debug__" : Str)) = false := by decide) : PE X (.Call (.Name x p) [] [] pos) (tCo sp W tNil) :=
  ⟨fun pi s σ H Q I h => wpAny_Call_Name_kw (ld_glob I gl hm (PySem.W.callWith_K0 I.kIn hk (run_o (us := []) F hr hb tk I .nil h)) h1)⟩
/-- .. where no repr is under way -/
theorem pe_cg (F : FnG X.prog X.w X.K X.mg X.base (L2.CX X.prog X.w) k f fd ps sp) (hg : X.A.guards = some []) (hr : Room k X.A) (gl : Gl X x) (hm : X.mg x = some (.ref f)) (hk : PySem.W.keepIn X.K (.ref f) = true) (hb : Binds X.K fd ps []) (tk : Takes X W)
    (ha : PA X (e :: es) t) (h1 : (x == ("__debug__" : Str)) = false := by decide) (h2 : starEach (e :: es) X.env = (false, eval e X.env) :: starEach es X.env := by rfl) (h3 : (backTo pos (starEach es X.env)).any (·.1) = false := by rfl) :
    PE X (.Call (.Name x p) (e :: es) [] pos) (tCo sp W t) := by
  refine ⟨fun pi s σ H Q I h => wpAny_Call_Name_kw (ld_glob I gl hm ?_ h1)⟩
  refine PySem.W.callWith_K (h₀ := X.base) I.ok.mod.kin hk (thn (ha.run pos pi s σ H _ I h) ?_) h2 h3
  rintro us s1 ⟨vs, H1, I1, r, q⟩
  exact ⟨I1.kIn, run_g F hg hr hb tk I1 r q⟩
theorem pe_cg0 (F : FnG X.prog X.w X.K X.mg X.base (L2.CX X.prog X.w) k f fd ps sp) (hg : X.A.guards = some []) (hr : Room k X.A) (gl : Gl X x) (hm : X.mg x = some (.ref f)) (hk : PySem.W.keepIn X.K (.ref f) = true) (hb : Binds X.K fd ps []) (tk : Takes X W)
    (h1 : (x == ("__debug__" : Str)) = false := by decide) : PE X (.Call (.Name x p) [] [] pos) (tCo sp W tNil) :=
  ⟨fun pi s σ H Q I h => wpAny_Call_Name_kw (ld_glob I gl hm (PySem.W.callWith_K0 I.kIn hk (run_g (us := []) F hg hr hb tk I .nil h)) h1)⟩
/-- o.m(e, ..) -/
def MtK (C : Addr) (m : Str) (R : V → Hp → Prop) (x : V) (H : Hp) : Prop := ∃ a dx fs, x = .ref a ∧ H a = some (.ins C dx fs) ∧ fs.lookup m = none ∧ R x H
def tMt (C : Addr) (m : Str) (sp : Sp) (W : WX) (ta : TE) (t : TA) : TE := fun σ H Q => ta σ H (MtK C m fun x H1 => t σ H1 fun vs H2 => sp (x :: vs) H2 Q fun cls d H' => W cls d σ H')
theorem pe_mo {pl : Sem Bool} (c : Cls X.K C) (hm : Meth X.K C m f) (F : FnOk X.prog X.w X.K X.mg X.base (L2.CX X.prog X.w) k f fd ps sp) (hr : Room k X.A) (hb : Binds X.K fd ps []) (tk : Takes X W) (he : PE X o ta) (ha : PA X (e :: es) t)
    (h2 : starEach (e :: es) X.env = (false, eval e X.env) :: starEach es X.env := by rfl) (h3 : (backTo pos (starEach es X.env)).any (·.1) = false := by rfl)
    (h4 : eval (.Call (.Attribute o m ap) (e :: es) [] pos) X.env = (do
      let ov ← eval o X.env
      standAt ap.atName
      let (f, first) ← holding [ov] (getMethod ov m pl)
      callWith pos f first (backTo pos (starEach (e :: es) X.env)) (backToKw pos (keywordEach [] X.env))) := by rfl) :
    PE X (.Call (.Attribute o m ap) (e :: es) [] pos) (tMt C m sp W ta t) := by
  refine ⟨fun pi s σ H Q I h => PySem.W.methodCall_KW (pl := pl) (thn (he.run pi s σ H _ I h) ?_) h4⟩
  rintro u s1 ⟨x, H1, I1, rx, a, dx, fs, rfl, ea, l, q⟩
  obtain rfl : u = Value.ref a := rx
  refine getmeth_ok I1 ea c hm l (PySem.W.callWith_K (first := [.ref a]) (h₀ := X.base) I.ok.mod.kin hm.kp (thn (ha.run pos pi s1 σ H1 _ I1 q) ?_) h2 h3)
  rintro us s2 ⟨vs, H2, I2, r, q2⟩
  exact ⟨I2.kIn, run_o (us := .ref a :: us) (vs := .ref a :: vs) F hr hb tk I2 (.cons rfl r) q2⟩
theorem pe_mo0 {pl : Sem Bool} (c : Cls X.K C) (hm : Meth X.K C m f) (F : FnOk X.prog X.w X.K X.mg X.base (L2.CX X.prog X.w) k f fd ps sp) (hr : Room k X.A) (hb : Binds X.K fd ps []) (tk : Takes X W) (he : PE X o ta)
    (h4 : eval (.Call (.Attribute o m ap) [] [] pos) X.env = (do
      let ov ← eval o X.env
      standAt ap.atName
      let (f, first) ← holding [ov] (getMethod ov m pl)
      callWith pos f first (backTo pos (starEach [] X.env)) (backToKw pos (keywordEach [] X.env))) := by rfl) :
    PE X (.Call (.Attribute o m ap) [] [] pos) (tMt C m sp W ta tNil) := by
  refine ⟨fun pi s σ H Q I h => PySem.W.methodCall_KW (pl := pl) (thn (he.run pi s σ H _ I h) ?_) h4⟩
  rintro u s1 ⟨x, H1, I1, rx, a, dx, fs, rfl, ea, l, q⟩
  obtain rfl : u = Value.ref a := rx
  exact getmeth_ok I1 ea c hm l (PySem.W.callWith_K0 (first := [.ref a]) I1.kIn hm.kp (run_o (us := [.ref a]) (vs := [.ref a]) F hr hb tk I1 (.cons rfl .nil) q))
/-- C(e, ..) -/
def NewK (C : Addr) (sp : Sp) (E : XK) (Q : VK) (vs : List V) (H : Hp) : Prop := ∀ x dx H', H x = none → H' x = some (.ins C dx []) → Kp [] H H' → sp (.ref x :: vs) H' (fun v H2 => v = .non ∧ Q (.ref x) H2) E
def tNw (C : Addr) (sp : Sp) (W : WX) (t : TA) : TE := fun σ H Q => t σ H (NewK C sp (fun cls d H' => W cls d σ H') Q)
theorem run_nw (M : Mk X.K C f) (F : FnOk X.prog X.w X.K X.mg X.base (L2.CX X.prog X.w) k f fd ps sp) (hr : Room (k + 1) X.A) (hb : Binds X.K fd ps []) (tk : Takes X W) (I : Inv X pi σ H s) (r : Vals vs us)
    (h : NewK C sp (fun cls d H' => W cls d σ H') Q vs H) : wpAny (model X.prog X.w) X.A (call (.ref C) us) (EP X pi σ Q) X.xe s := by
  have n1 : H (s.heap.objs.size + 1) = none := I.hok.fresh (Nat.le_succ _)
  have n0 : H s.heap.objs.size = none := I.hok.fresh (Nat.le_refl _)
  have hq := h (s.heap.objs.size + 1) s.heap.objs.size _ n1 upd_same ((Kp.refl.new (u := .own (s.heap.objs.size + 1)) n0).new (by rw [upd_ne (Nat.succ_ne_self _)]; exact n1))
  have I2 := Inv.made (C := C) I
  have r2 : Vals (V.ref (s.heap.objs.size + 1) :: vs) (Value.ref (s.heap.objs.size + 1) :: us) := .cons rfl r
  refine wpAny_call (make_map (f := f) I.kIn M.makes M.init (beq_iff_eq.mp M.fn) (codeAny_mono (F.run _ X.stack _ _ ⟨Value.ref (s.heap.objs.size + 1) :: us, []⟩ (Value.ref (s.heap.objs.size + 1) :: us) _ _ _ (hr.make C us [])
    (I2.env0.make C us []) (bind0 hb I2 r2 (F.len _ _ _ _ hq)) r2 hq) fun rr s' z => ?_))
  match rr, z with
  | .error er, z => exact tk er s' (XE.of_call I2 (fun _ _ _ y => y) z)
  | .ok (.ret u), z =>
    obtain ⟨v, H', I3, rv, ev, q3⟩ := I2.after z
    subst ev
    exact ⟨rv, ⟨V.ref (s.heap.objs.size + 1), H', I3, rfl, q3⟩⟩
  | .ok .next, z => exact z.elim
  | .ok .brk, z => exact z.elim
  | .ok .cont, z => exact z.elim
theorem pe_nw (M : Mk X.K C f) (F : FnOk X.prog X.w X.K X.mg X.base (L2.CX X.prog X.w) k f fd ps sp) (hr : Room (k + 1) X.A) (gl : Gl X x) (hm : X.mg x = some (.ref C)) (hb : Binds X.K fd ps []) (tk : Takes X W)
    (ha : PA X (e :: es) t) (h1 : (x == ("__debug__" : Str)) = false := by decide) (h2 : starEach (e :: es) X.env = (false, eval e X.env) :: starEach es X.env := by rfl) (h3 : (backTo pos (starEach es X.env)).any (·.1) = false := by rfl) :
    PE X (.Call (.Name x p) (e :: es) [] pos) (tNw C sp W t) := by
  refine ⟨fun pi s σ H Q I h => wpAny_Call_Name_kw (ld_glob I gl hm ?_ h1)⟩
  refine PySem.W.callWith_K (h₀ := X.base) I.ok.mod.kin M.kp (thn (ha.run pos pi s σ H _ I h) ?_) h2 h3
  rintro us s1 ⟨vs, H1, I1, r, q⟩
  exact ⟨I1.kIn, run_nw M F hr hb tk I1 r q⟩
theorem pe_nw0 (M : Mk X.K C f) (F : FnOk X.prog X.w X.K X.mg X.base (L2.CX X.prog X.w) k f fd ps sp) (hr : Room (k + 1) X.A) (gl : Gl X x) (hm : X.mg x = some (.ref C)) (hb : Binds X.K fd ps []) (tk : Takes X W)
    (h1 : (x == ("__debug__" : Str)) = false := by decide) : PE X (.Call (.Name x p) [] [] pos) (tNw C sp W tNil) :=
  ⟨fun pi s σ H Q I h => wpAny_Call_Name_kw (ld_glob I gl hm (PySem.W.callWith_K0 I.kIn M.kp (run_nw (us := []) M F hr hb tk I .nil h)) h1)⟩
/-- e.f -/
def FldK (K : PySem.W.Frag) (f : Str) (Q : VK) (x : V) (H : Hp) : Prop := ∃ a C dx fs v, x = .ref a ∧ H a = some (.ins C dx fs) ∧ Cls K C ∧ NoAttr K C f ∧ fs.lookup f = some v ∧ Q v H
def tFd (K : PySem.W.Frag) (ta : TE) (f : Str) : TE := fun σ H Q => ta σ H (FldK K f Q)
theorem pe_fd {f : Str} (hK : X.K = K) (he : PE X e ta) (hb : attributeBase e f X.env (eval e X.env) = eval e X.env) : PE X (.Attribute e f pos) (tFd K ta f) := hK ▸ pe_fld he hb
/-- e.f = v -/
def SetK (K : PySem.W.Frag) (f : Str) (y : V) (R : Hp → Prop) (x : V) (H : Hp) : Prop := ∃ a C dx fs, x = .ref a ∧ H a = some (.ins C dx fs) ∧ Cls K C ∧ NoAttr K C f ∧ fs.length < 1000 ∧ R (upd H a (.ins C dx (putF f y fs)))
def tSd (K : PySem.W.Frag) (ta tv : TE) (f : Str) : TS := fun D σ H => tv σ H fun y H1 => ta σ H1 (SetK K f y (D.nx σ))
theorem ps_fd {f : Str} {value : Expr} {tv : TE} {pos' : Pos} (hK : X.K = K) (he : PE X o ta) (hv : PE X value tv) (hs : swapsWith value (some (.Attribute o f pos')) pos.line X.env = pure false) : PS X (.Assign [.Attribute o f pos'] value pos) (tSd K ta tv f) :=
  hK ▸ ps_fld he hv hs
end

/-! steps -/
section
variable {K : PySem.W.Frag} {σ : L2.St} {H : Hp} {Q : VK} {D : Ends} {x y v : V} {C p : Addr} {m f : Str} {ta tv : TE} {t : TA} {sp : Sp} {W : WX}
theorem s_co (h : t σ H fun vs H1 => sp vs H1 Q fun cls d H' => W cls d σ H') : tCo sp W t σ H Q := h
theorem s_mt (h : ta σ H (MtK C m fun x H1 => t σ H1 fun vs H2 => sp (x :: vs) H2 Q fun cls d H' => W cls d σ H')) : tMt C m sp W ta t σ H Q := h
theorem s_mtk {R : V → Hp → Prop} {dx : Addr} {fs : List (Str × V)} (h : H p = some (.ins C dx fs)) (l : fs.lookup m = none) (q : R (.ref p) H) : MtK C m R (.ref p) H := ⟨p, dx, fs, rfl, h, l, q⟩
theorem s_nw (h : t σ H (NewK C sp (fun cls d H' => W cls d σ H') Q)) : tNw C sp W t σ H Q := h
theorem s_fd (h : ta σ H (FldK K f Q)) : tFd K ta f σ H Q := h
theorem s_fdk {dx : Addr} {fs : List (Str × V)} (h : H p = some (.ins C dx fs)) (c : Cls K C) (n : NoAttr K C f) (l : fs.lookup f = some v) (q : Q v H) : FldK K f Q (.ref p) H := ⟨p, C, dx, fs, v, rfl, h, c, n, l, q⟩
theorem s_sd (h : tv σ H fun y H1 => ta σ H1 (SetK K f y (D.nx σ))) : tSd K ta tv f D σ H := h
/-- an object is changed, the heap behind it as a letter -/
theorem put_abs {o o0 : HO} {R : Hp → Prop} (e : H p = some o0) (z : ko o0 = ko o) (h : ∀ H', H' p = some o → Kp [p] H H' → R H') (y : Nat.beq (ko o) 1 = false := by rfl) : R (upd H p o) := h _ upd_same (Kp.refl.put (by simp) ⟨o0, e, z⟩ y)
theorem s_sdk {dx : Addr} {fs gs : List (Str × V)} {R : Hp → Prop} (h : H p = some (.ins C dx fs)) (c : Cls K C) (n : NoAttr K C f) (z : fs.length < 1000) (e : putF f y fs = gs) (q : ∀ H', H' p = some (.ins C dx gs) → Kp [p] H H' → R H') : SetK K f y R (.ref p) H :=
  ⟨p, C, dx, fs, rfl, h, c, n, z, by rw [e]; exact put_abs h rfl q⟩
end

/-! an error with one field -/
/-- __init__ of an error: its field, the class's -/
def spE (C : Addr) (f : Str) : Sp := sp2 fun x y H Q _ => ∃ a, x = .ref a ∧ H a = some (exo a C none) ∧ ∀ dx, H dx = none → dx ≠ a → Q .non (upd (upd H dx (exd dx [(f, y)])) a (exo a C (some dx)))
section
variable {X : Cx} {C S fI : Addr} {f x : Str} {e : Expr} {es : List Expr} {ta : TA} {te to : TE} {p p1 p2 pos pos' : Pos} {K : PySem.W.Frag}
/-- a class that is read -/
structure RdC (K : PySem.W.Frag) (C : Addr) : Prop where
  rd : PySem.W.readsIn K C (.type "type") = true
  ga : PySem.W.specialIn K (.ref C) "__getattribute__" = some (some (.builtin "type.__getattribute__"))
/-- S.__init__(self, ..), S a class over ValueError without an __init__ of its own -/
def SeK (K : PySem.W.Frag) (Q : VK) (vs : List V) (H : Hp) : Prop := ∃ (a C : Addr) (ws : List V), vs = .ref a :: ws ∧ ws.length ≤ 1000 ∧ OexC K C ∧ H a = some (exo a C none) ∧ Q .non H
def tSe (K : PySem.W.Frag) (ta : TA) : TE := fun σ H Q => ta σ H (SeK K Q)
theorem pe_se {pl : Sem Bool} (hK : X.K = K) (gl : Gl X x) (hm : X.mg x = some (.ref S)) (r : RdC X.K S) (vV : PySem.W.findCls X.K (.ref S) (.type "type") "__init__" = some (.val (.builtin "ValueError.__init__"))) (ha : PA X (e :: es) ta)
    (h1 : (x == ("__debug__" : Str)) = false := by decide)
    (hc : eval (.Call (.Attribute (.Name x p1) "__init__" p2) (e :: es) [] pos) X.env = (do
      let ov ← eval (.Name x p1) X.env
      standAt p2.atName
      let (f, first) ← holding [ov] (getMethod ov "__init__" pl)
      callWith pos f first (backTo pos (starEach (e :: es) X.env)) (backToKw pos (keywordEach [] X.env))) := by rfl)
    (h2 : starEach (e :: es) X.env = (false, eval e X.env) :: starEach es X.env := by rfl) (h3 : (backTo pos (starEach es X.env)).any (·.1) = false := by rfl) :
    PE X (.Call (.Attribute (.Name x p1) "__init__" p2) (e :: es) [] pos) (tSe K ta) := by
  subst hK
  refine ⟨fun pi s σ H Q I h => PySem.W.methodCall_KW (ld_glob I gl hm ?_ h1) hc⟩
  refine PySem.W.method_cls I.kIn r.ga (PySem.W.cls_value I.kIn r.rd vV (by decide +kernel) ?_)
  refine PyProof.Rows.callWith_method1 (thn (ha.run pos pi _ σ H _ (I.tok _) h) ?_) h2 h3
  rintro us s1 ⟨vs, H1, I1, r1, a, D, ws, rfl, hl, T, ea, q⟩
  cases r1 with
  | @cons _ u0 _ ur ra rw' =>
    obtain rfl : u0 = Value.ref a := ra
    have z := Paired.length rw'
    exact oinit_ok T I1 ea (by rw [sizeLine_eq]; omega) fun s' J => ⟨.non, H1, J, rfl, q⟩
/-- self.f = e in such an __init__ -/
def OsK (K : PySem.W.Frag) (f : Str) (y : V) (R : Hp → Prop) (x : V) (H : Hp) : Prop := ∃ a C : Addr, x = .ref a ∧ OexC K C ∧ PySem.W.findIn K (.ref C) f = some none ∧ H a = some (exo a C none) ∧ ∀ dx, H dx = none → dx ≠ a → R (upd (upd H dx (exd dx [(f, y)])) a (exo a C (some dx)))
def tOs (K : PySem.W.Frag) (f : Str) (to te : TE) : TS := fun D σ H => te σ H fun y H1 => to σ H1 (OsK K f y (D.nx σ))
theorem ps_os {o : Expr} (hK : X.K = K) (ho : PE X o to) (he : PE X e te) (hs : swapsWith e (some (.Attribute o f p')) pos.line X.env = pure false := by rfl) : PS X (.Assign [.Attribute o f p'] e pos) (tOs K f to te) := by
  subst hK
  refine psImp (ps_ost (f := f) (peMo ho) (peMo he) hs) fun D σ H q => ⟨_, q, fun y H1 z => ⟨_, z, fun x H2 w => ?_⟩⟩
  obtain ⟨a, C, rfl, h1, h2, h3, h4⟩ := w
  exact ⟨a, C, rfl, h1, h2, Or.inl ⟨h3, h4⟩⟩
/-- raise C(e) -/
def RzK (C : Addr) (f : Str) (R : Value → Option Addr → Hp → Prop) (v : V) (H : Hp) : Prop := ∀ d H', H d = none → H' d = some (.xd [(f, v)]) → Kp [] H H' → R (.ref C) (some d) H'
def tRz (C : Addr) (f : Str) (W : WX) (te : TE) : TS := fun _ σ H => te σ H (RzK C f fun cls d H' => W cls d σ H')
theorem ps_rz {k : Nat} {fd : FuncData} {ps : List Str} {W : WX} (hc : X.calm = true) (T : OexC X.K C) (iC : PySem.W.findIn X.K (.ref C) "__init__" = some (some (.ref fI))) (tI : PySem.W.typeIn X.K (.ref fI) = some (.type "function"))
    (F : FnOk X.prog X.w X.K X.mg X.base (L2.CX X.prog X.w) k fI fd ps (spE C f)) (hr : Room (k + 1) X.A) (hb : Binds X.K fd ps []) (gl : Gl X x) (hm : X.mg x = some (.ref C)) (tk : Takes X W) (he : PE X e te)
    (h1 : (x == ("__debug__" : Str)) = false := by decide) (h2 : starEach [e] X.env = [(false, eval e X.env)] := by rfl) :
    PS X (.Raise (some (.Call (.Name x p) [e] [] pos)) none pos') (tRz C f W te) := by
  refine psImp (ps_raise hc tk (pmk_oex T iC tI F hr hb .nil passF gl hm (pa_cons (peMo he) pa_nil h2) h1 h2 rfl)) fun D σ H q => ?_
  refine ⟨_, q, fun v H1 z => ⟨by simp, fun a na => ⟨_, _, rfl, a, rfl, upd_same, fun dx nd ne => ⟨rfl, dx, [(f, v)], upd_same, ?_, ?_, ?_⟩⟩⟩⟩
  · rw [upd_ne ne, upd_same]
  · rw [upd_ne ne] at nd; exact nd
  · rw [upd_ne ne] at nd
    refine z dx _ nd upd_same ⟨fun b o eb _ => ?_, fun b i eb => ?_, fun b xs eb => ?_⟩
    · have nb : b ≠ dx := ne_of_none eb nd
      have nb2 : b ≠ a := ne_of_none eb na
      rw [upd_ne nb, del_ne nb2, upd_ne nb2, upd_ne nb, upd_ne nb2]
      exact eb
    · obtain ⟨o1, e1, r1⟩ := eb
      have nb : b ≠ dx := ne_of_none e1 nd
      have nb2 : b ≠ a := ne_of_none e1 na
      refine ⟨o1, ?_, r1⟩
      rw [upd_ne nb, del_ne nb2, upd_ne nb2, upd_ne nb, upd_ne nb2]
      exact e1
    · have nb : b ≠ dx := ne_of_none eb nd
      have nb2 : b ≠ a := ne_of_none eb na
      rw [upd_ne nb, del_ne nb2, upd_ne nb2, upd_ne nb, upd_ne nb2]
      exact eb
end
end U

namespace U
open PySem L2 PySem.Spec PyProof.Rows
/-! try with clauses of any number, with names or without -/
/-- a clause: its class, the slot of its name, its suite's reading -/
abbrev Clause := Value × Option Nat × (Addr → Value → Option Addr → TS)
def dropS (i : Option Nat) (σ : L2.St) : L2.St := match i with | none => σ | some i => σ.set i none
def putS (i : Option Nat) (a : Addr) (σ : L2.St) : L2.St := match i with | none => σ | some i => σ.set i (some (.ref a))
def endS (i : Option Nat) (D : Ends) : Ends := { nx := fun σ H => D.nx (dropS i σ) H, rt := D.rt, bk := fun σ H => D.bk (dropS i σ) H, ct := fun σ H => D.ct (dropS i σ) H }
def wCl (K : PySem.W.Frag) (Wout : WX) (D : Ends) : List Clause → WX
  | [] => Wout
  | (c, i, ts) :: r => fun cls d σ H => ∃ b, PySem.W.exmOne K cls c = some b ∧ (b = true → ∀ a, H a = none → ts a cls d (endS i D) (putS i a σ) H) ∧ (b = false → wCl K Wout D r cls d σ H)
inductive ClOk (X : Cx) : List ExceptHandler → List Clause → Prop
  | nil : ClOk X [] []
  | only {x : Str} {c : Value} {ts : Addr → Value → Option Addr → TS} {b0 : Stmt} {su : List Stmt} {np p' : Pos} {hds : List ExceptHandler} {l : List Clause} (hc : Names X x c)
      (hsu : ∀ (a : Addr) (oe : Obj) (cls : Value) (d : Option Addr) (pn : List (Addr × Obj)), Zc cls d oe → (∃ vs, oe.data = .fields vs) → PSs (X.suite a ((a, oe) :: pn)) (b0 :: su) (ts a cls d)) (r : ClOk X hds l) :
      ClOk X (.ExceptHandler (some (.Name x np)) none (b0 :: su) p' :: hds) ((c, none, ts) :: l)
  | as {x n : Str} {i : Nat} {c : Value} {ts : Addr → Value → Option Addr → TS} {b0 : Stmt} {su : List Stmt} {np p' : Pos} {hds : List ExceptHandler} {l : List Clause} (hc : Names X x c) (hi : X.N[i]? = some n) (hln : X.env.kindOf n = some .local)
      (hsu : ∀ (a : Addr) (oe : Obj) (cls : Value) (d : Option Addr) (pn : List (Addr × Obj)), Zc cls d oe → (∃ vs, oe.data = .fields vs) → PSs (X.suite a ((a, oe) :: pn)) (b0 :: su) (ts a cls d)) (r : ClOk X hds l) :
      ClOk X (.ExceptHandler (some (.Name x np)) (some n) (b0 :: su) p' :: hds) ((c, some i, ts) :: l)
section
variable {X : Cx} {body : List Stmt} {h0 : ExceptHandler} {hds : List ExceptHandler} {l : List Clause} {pos : Pos} {tb : WX → TS} {Wout : WX} {K : PySem.W.Frag}
def tTry (K : PySem.W.Frag) (Wout : WX) (l : List Clause) (tb : WX → TS) : TS := fun D σ H => tb (wCl K Wout D l) D σ H
theorem ps_try (hK : X.K = K) (hs : X.stack = X.env :: X.outer) (hf : X.env.frame = some X.env.locals) (hN : X.N.Nodup) (tk : Takes X Wout)
    (hb : ∀ (W : WX) (pn : List (Addr × Obj)) (xe : Value → Shared → Prop), Takes (X.tr pn xe) W → PassesOwn (model X.prog X.w) X.A X.env xe → PSs (X.tr pn xe) body (tb W))
    (hh : ClOk X (h0 :: hds) l) : PS X (.Try body (h0 :: hds) [] [] pos) (tTry K Wout l tb) := by
  subst hK
  refine ⟨fun pi s σ H D I h => wpAny_Try_except ?_⟩
  have ok := I.ok
  have hfr : X.A.frames = some (X.env :: X.outer) := by rw [ok.frames, hs]
  let xe : Value → Shared → Prop := fun e s1 => wpAny (model X.prog X.w) X.A (noteFrame e X.env) (fun _ s2 => wpAny (model X.prog X.w) X.A (setFlight e none)
    (fun _ s3 => wpAny (model X.prog X.w) X.A (handleBy e X.env (h0 :: hds)) (SP X pi D) X.xe s3) X.xe s2) X.xe s1
  have tkx : Takes (X.tr (X.pn ++ pi) xe) (wCl X.K Wout D l) := by
    rintro u s1 ⟨a, B, sI, pins1, σ1, H1, cls, d, rfl, J1, nb, up, sky, na, os, ag, w⟩
    have J : Inv X pi σ1 H1 sI := J1.ofTry ok
    have sky1 : Sky B (X.env :: X.outer) a (Zc cls d) X.env.locals s1.heap := hs ▸ sky
    show wpAny (model X.prog X.w) X.A (noteFrame (.ref a) X.env) _ _ _
    refine Sky.land Zc.steady hfr hf sky1 fun h3 f3 u3 => ?_
    have J3 : Inv X pi σ1 H1 { s1 with heap := h3 } := J.landed nb f3.1 (up.trans u3) os ag
    obtain ⟨oe3, vs3, he3, hz3, hd3⟩ := f3.there
    have nfr : a ∉ frs (X.env :: X.outer) := fun hm => by
      obtain ⟨_, o', e', hnf⟩ := f3.2.2.1.mem hm
      rw [he3] at e'; cases e'
      exact hnf _ hd3
    have nL : a ≠ X.env.locals := fun z => nfr (List.mem_filterMap.mpr ⟨X.env, List.mem_cons_self, by rw [hf, z]⟩)
    have nF : a ∉ X.fs := fun hm => by
      obtain ⟨e, he, q⟩ := List.mem_filterMap.mp hm
      exact nfr (List.mem_filterMap.mpr ⟨e, List.mem_cons_of_mem _ he, q⟩)
    have S3 := J3.suite he3 hd3 na nL nF
    have LT : PySem.W.Looks (model X.prog X.w) h3 (typeOf (.ref a)) cls := fun A Q E s k q => wpAny_typeOf_ref (k _ _ he3) (by rw [hz3.1]; exact q)
    have test : ∀ {x : Str} {c : Value} {np : Pos} {Q : Value → Shared → Prop} {E : Value → Shared → Prop}, Names X x c → Q c { s1 with heap := h3 } →
        wpAny (model X.prog X.w) (X.A.mark (some (.ref a))) (eval (.Name x np) X.env) Q E { s1 with heap := h3 } := fun {x c np Q E} hc q => by
      obtain ⟨hg, hdb, hm | ⟨hm, hv, hnn⟩⟩ := hc
      · exact ld_glob (X := X.suite a ((a, oe3) :: (X.pn ++ pi))) S3 hg hm q hdb
      · exact ld_blt (X := X.suite a ((a, oe3) :: (X.pn ++ pi))) S3 hg hm hv q hnn hdb
    have go : ∀ {hds' : List ExceptHandler} {l' : List Clause}, ClOk X hds' l' → wCl X.K Wout D l' cls d σ1 H1 →
        wpAny (model X.prog X.w) X.A (handleBy (.ref a) X.env hds') (SP X pi D) X.xe { s1 with heap := h3 } := by
      intro hds' l' hk
      induction hk with
      | nil =>
        intro w
        refine wpAny_handleBy_nil ?_
        obtain ⟨_, _, _, oe, vs, T, oT, ts', he, hz, hd, h1, hr⟩ := id f3
        unfold PySem.passOn
        refine wpAny_bind (wpAny_field he hd h1 ?_)
        rw [if_neg (show ¬ ((Value.ref T == Value.none) = true) from by simp)]
        have fin : wpAny (model X.prog X.w) X.A (setFlight (.ref a) X.env.frame) (fun _ s4 => wpAny (model X.prog X.w) X.A (throw (.ref a) : Sem Flow) (SP X pi D) X.xe s4) X.xe { s1 with heap := h3 } := by
          rw [hf]
          refine HandSPX.setFlight_upZ f3 fun h4 hh4 up4 => wpAny_throw (tk _ _ ?_)
          exact ⟨a, B, sI, pi, σ1, H1, cls, d, rfl, J, nb, (up.trans u3).trans up4, Or.inr (Or.inr (by rw [hs]; exact hh4)), na, os, ag, w⟩
        first
          | exact wpAny_bind (wpAny_pure (wpAny_bind fin))
          | exact wpAny_bind fin
      | @only x c ts b0 su np p' hds2 l2 hc hsu r ih =>
        rintro ⟨b, hb1, yes, no⟩
        refine wpAny_handleBy_cons (codeAny_handlers_test (test hc ((PySem.W.exm_one (M := model X.prog X.w) J3.kIn LT hb1).here ?_))) (by intro q; cases q)
        cases b with
        | false => exact ih (no rfl)
        | true =>
          refine codeAny_handlers_suite (HandSPX.lands_againZ f3 fun h4 fl4 up4 => ?_)
          have J4 : Inv X pi σ1 H1 { s1 with heap := h4 } := J.landed nb fl4.1 ((up.trans u3).trans up4) os ag
          obtain ⟨oe4, vs4, he4, hz4, hd4⟩ := fl4.there
          refine wpAny_mono ((hsu a oe4 cls d (X.pn ++ pi) hz4 ⟨_, hd4⟩).run [] _ _ H1 _ (J4.suite he4 hd4 na nL nF) (yes rfl a na)) (fun f s6 hsp => ?_) (fun _ _ z => False.elim z)
          match f, hsp with
          | .next, ⟨_, _, S6, q6⟩ => exact ⟨_, _, S6.unsuite ok, q6⟩
          | .brk, ⟨_, _, S6, q6⟩ => exact ⟨_, _, S6.unsuite ok, q6⟩
          | .cont, ⟨_, _, S6, q6⟩ => exact ⟨_, _, S6.unsuite ok, q6⟩
          | .ret u, ⟨_, _, _, S6, r6, q6⟩ => exact ⟨_, _, _, S6.unsuite ok, r6, q6⟩
      | @as x n i c ts b0 su np p' hds2 l2 hc hi hln hsu r ih =>
        rintro ⟨b, hb1, yes, no⟩
        refine wpAny_handleBy_cons (codeAny_handlers_test (test hc ((PySem.W.exm_one (M := model X.prog X.w) J3.kIn LT hb1).here ?_))) (by intro q; cases q)
        cases b with
        | false => exact ih (no rfl)
        | true =>
          refine codeAny_handlers_suite_as (HandSPX.lands_againZ f3 fun h4 fl4 up4 => ?_)
          have J4 : Inv X pi σ1 H1 { s1 with heap := h4 } := J.landed nb fl4.1 ((up.trans u3).trans up4) os ag
          obtain ⟨oe4, vs4, he4, hz4, hd4⟩ := fl4.there
          refine store_ok (X := X.suite a ((a, oe4) :: (X.pn ++ pi))) (v := .ref a) (J4.suite he4 hd4 na nL nF) hN hi (Or.inl hln) rfl (fun s5 S5 => ?_) (Or.inr hln)
          refine wpAny_mono ((hsu a oe4 cls d (X.pn ++ pi) hz4 ⟨_, hd4⟩).run [] s5 _ H1 _ S5 (yes rfl a na)) (fun f s6 hsp => ?_) (fun _ _ z => False.elim z)
          have gone : ∀ {σ6 : L2.St} {H6 : Hp} {Q : Shared → Prop}, Inv (X.suite a ((a, oe4) :: (X.pn ++ pi))) [] σ6 H6 s6 → (∀ s7, Inv X pi (σ6.set i none) H6 s7 → Q s7) →
              wpAny (model X.prog X.w) X.A (do bindName X.env n .none; unbindBehindTheSuite X.env n p') (fun _ s7 => Q s7) X.xe s6 := fun S6 hq => gone_ok (S6.unsuite ok) hN hi hln hq
          match f, hsp with
          | .next, ⟨_, _, S6, q6⟩ => exact gone S6 fun s7 J7 => ⟨_, _, J7, q6⟩
          | .brk, ⟨_, _, S6, q6⟩ => exact gone S6 fun s7 J7 => ⟨_, _, J7, q6⟩
          | .cont, ⟨_, _, S6, q6⟩ => exact gone S6 fun s7 J7 => ⟨_, _, J7, q6⟩
          | .ret u, ⟨_, _, _, S6, r6, q6⟩ => exact gone S6 fun s7 J7 => ⟨_, _, _, J7, r6, q6⟩
    exact go hh w
  refine wpAny_mono ((hb _ (X.pn ++ pi) xe tkx PassesOwn.looking).run [] s σ H D (I.toTry _) h) (fun f s1 hsp => ?_) (fun e s1 he => he)
  match f, hsp with
  | .next, ⟨σ1, H1, J1, q⟩ => exact wpAny_execs_nil ⟨σ1, H1, J1.ofTry ok, q⟩
  | .brk, ⟨σ1, H1, J1, q⟩ => exact ⟨σ1, H1, J1.ofTry ok, q⟩
  | .cont, ⟨σ1, H1, J1, q⟩ => exact ⟨σ1, H1, J1.ofTry ok, q⟩
  | .ret u, ⟨v, σ1, H1, J1, r, q⟩ => exact ⟨v, σ1, H1, J1.ofTry ok, r, q⟩
end
end U

namespace U
open PySem L2 PySem.Spec PyProof.Rows
/-- what the written part says of an error's class at C, its __init__ at fI, its field f -/
structure ErrC (K : PySem.W.Frag) (C fI : Addr) (f : Str) : Prop where
  oex : OexC K C
  xf : XfC K C
  no : PySem.W.findIn K (.ref C) f = some none
  iC : PySem.W.findIn K (.ref C) "__init__" = some (some (.ref fI))
  tI : PySem.W.typeIn K (.ref fI) = some (.type "function")
  ha : PySem.W.findIn K (.ref C) "__class__" = some (some (.builtin "object.__class__"))
  hm : PySem.W.mroIn K C (.type "object") = some true
section
variable {X : Cx} {a C fI : Addr} {oe : Obj} {cls : Value} {d : Option Addr} {pn : List (Addr × Obj)} {e : Expr} {te : TE} {pos : Pos} {f : Str} {K : PySem.W.Frag}
/-- e.f += v -/
def FaK (K : PySem.W.Frag) (f : Str) (R : Addr → Addr → V → Hp → Prop) (x : V) (H : Hp) : Prop := ∃ a C dx fs v, x = .ref a ∧ H a = some (.ins C dx fs) ∧ Cls K C ∧ NoAttr K C f ∧ fs.lookup f = some v ∧ R a C v H
def FbK (f : Str) (a C : Addr) (R : Hp → Prop) (z : V) (H : Hp) : Prop := ∃ dx fs, H a = some (.ins C dx fs) ∧ fs.length < 1000 ∧ R (upd H a (.ins C dx (putF f z fs)))
def tFa (K : PySem.W.Frag) (ta tv : TE) (rd : V → V → Hp → VK → Prop) (f : Str) : TS := fun D σ H => ta σ H (FaK K f fun a C v H1 => tv σ H1 fun y H2 => rd v y H2 (FbK f a C (D.nx σ)))
theorem ps_fa {o value : Expr} {op : Operator} {ta tv : TE} {rd : V → V → Hp → VK → Prop} {tp : Pos} (hK : X.K = K) (ha : PE X o ta) (hv : PE X value tv) (hop : InOp X op rd) : PS X (.AugAssign (.Attribute o f tp) op value pos) (tFa K ta tv rd f) :=
  hK ▸ ps_fldaug ha hv hop
/-- err.f in its suite -/
def XfK (a : Addr) (cls : Value) (d : Option Addr) (C : Addr) (f : Str) (Q : VK) (x : V) (H : Hp) : Prop := x = .ref a ∧ cls = .ref C ∧ ∃ (dd : Addr) (fs : List (Str × V)) (v : V), d = some dd ∧ H dd = some (.xd fs) ∧ fs.lookup f = some v ∧ Q v H
def tXe (a : Addr) (cls : Value) (d : Option Addr) (C : Addr) (f : Str) (te : TE) : TE := fun σ H Q => te σ H (XfK a cls d C f Q)
theorem pe_xe (T : ErrC X.K C fI f) (hz : Zc cls d oe) (hf : ∃ vs, oe.data = .fields vs) (he : PE (X.suite a ((a, oe) :: pn)) e te) (hb : attributeBase e f X.env (eval e X.env) = eval e X.env := by rfl) :
    PE (X.suite a ((a, oe) :: pn)) (.Attribute e f pos) (tXe a cls d C f te) := pe_xf T.xf T.no hz hf he hb
/-- isinstance(err, T) in its suite -/
def rIsX (K : PySem.W.Frag) (a : Addr) (cls : Value) (d : Option Addr) (C : Addr) : List V → Hp → VK → Prop := fun xs H Q => ∃ (c : V) (cv : Value) (b : Bool) (dd : Addr) (fs : List (Str × V)), xs = [.ref a, c] ∧ ClsV c cv ∧ cls = .ref C ∧ d = some dd ∧ H dd = some (.xd fs) ∧
  PySem.W.kitOne K (.ref C) cv = some b ∧ Q (.bl b) H
theorem c_isx (hK : X.K = K) (T : ErrC X.K C fI f) (hn : PySem.W.specialIn X.K (.builtin "object.__class__") "__get__" = some (some (.builtin "getset_descriptor.__get__"))) (ht : PySem.W.takesIn X.K (.builtin "object.__class__") = some true)
    (hz : Zc cls d oe) (hf : ∃ vs, oe.data = .fields vs) : CallR (X.suite a ((a, oe) :: pn)) (.builtin "isinstance") (rIsX K a cls d C) := by
  subst hK
  rintro pi s σ H xs us Q I vv ⟨c, cv, b, dd, fs, rfl, hc, rfl, rfl, hd, e, q⟩
  cases vv with
  | cons rx rr =>
    cases rr with
    | cons rt rr =>
      cases rr
      cases rx
      obtain rfl := hc.eq rt
      obtain ⟨hget, _⟩ := I.pin (a, oe) (List.mem_append.mpr (Or.inl List.mem_cons_self))
      obtain ⟨vs, hv⟩ := hf
      have hx : ObjOk X.prog X.w H s.heap dd (.xd fs) := I.hok dd _ hd
      obtain ⟨mA, hns, _⟩ := hx
      obtain ⟨od, ho, _⟩ := lookIn_ns hns
      have J : PySem.W.InstAt s.heap a oe C (some od) := ⟨hget, hz.1, by unfold PySem.W.notCls; rw [hv] <;> rfl, by rw [hz.2]; exact ho⟩
      have hcl : (PySem.W.clsIn X.K C).isSome = true := by
        have z := T.xf.hdC
        unfold PySem.W.hasDictIn at z
        cases y : PySem.W.clsIn X.K C with
        | none => rw [y] at z; simp at z
        | some _ => rfl
      exact PySem.W.kia_one (PySem.W.kitx_exc hcl T.xf.ga T.xf.gg T.xf.exC T.ha hn ht T.hm) I.kIn J e (fun z => nomatch z) fun tk => ⟨.bl b, H, I.kept (t' := tk) fun _ _ z => z, rfl, q⟩
end
section
variable {K : PySem.W.Frag} {σ : L2.St} {H : Hp} {Q : VK} {D : Ends} {a C dd : Addr} {f : Str} {v : V} {te to : TE} {t : TA}
theorem s_fa {tv : TE} {rd : V → V → Hp → VK → Prop} (h : te σ H (FaK K f fun a C v H1 => tv σ H1 fun y H2 => rd v y H2 (FbK f a C (D.nx σ)))) : tFa K te tv rd f D σ H := h
theorem s_fak {R : Addr → Addr → V → Hp → Prop} {dx : Addr} {fs : List (Str × V)} (h : H a = some (.ins C dx fs)) (c : Cls K C) (n : NoAttr K C f) (l : fs.lookup f = some v) (q : R a C v H) : FaK K f R (.ref a) H := ⟨a, C, dx, fs, v, rfl, h, c, n, l, q⟩
theorem s_fbk {R : Hp → Prop} {dx : Addr} {fs gs : List (Str × V)} (h : H a = some (.ins C dx fs)) (z : fs.length < 1000) (e : putF f v fs = gs) (q : ∀ H', H' a = some (.ins C dx gs) → Kp [a] H H' → R H') : FbK f a C R v H := ⟨dx, fs, h, z, by rw [e]; exact put_abs h rfl q⟩
theorem s_radd {n m : Int} (q : Q (.int (n + m)) H) : rAdd (.int n) (.int m) H Q := ⟨n, m, rfl, rfl, q⟩
theorem s_rsub {n m : Int} (q : Q (.int (n - m)) H) : rSub (.int n) (.int m) H Q := ⟨n, m, rfl, rfl, q⟩
theorem s_xe {cls : Value} {d : Option Addr} (h : te σ H (XfK a cls d C f Q)) : tXe a cls d C f te σ H Q := h
theorem s_xek {fs : List (Str × V)} (h : H dd = some (.xd fs)) (l : fs.lookup f = some v) (q : Q v H) : XfK a (.ref C) (some dd) C f Q (.ref a) H := ⟨rfl, rfl, dd, fs, v, rfl, h, l, q⟩
theorem s_isx {C2 : Addr} {b : Bool} {fs : List (Str × V)} (h : H dd = some (.xd fs)) (e : PySem.W.kitOne K (.ref C) (.ref C2) = some b) (q : Q (.bl b) H) : rIsX K a (.ref C) (some dd) C [.ref a, .ref C2] H Q := ⟨.ref C2, .ref C2, b, dd, fs, rfl, .own C2, rfl, rfl, h, e, q⟩
theorem s_se (h : t σ H (SeK K Q)) : tSe K t σ H Q := h
theorem s_sek {z : V} (T : OexC K C) (h : H a = some (exo a C none)) (q : Q .non H) : SeK K Q [.ref a, z] H := ⟨a, C, [z], rfl, by simp, T, h, q⟩
theorem s_os (h : te σ H fun y H1 => to σ H1 (OsK K f y (D.nx σ))) : tOs K f to te D σ H := h
theorem s_rz {W : WX} (h : te σ H (RzK C f fun cls d H' => W cls d σ H')) : tRz C f W te D σ H := h
theorem s_try {Wout : WX} {l : List Clause} {tb : WX → TS} (h : tb (wCl K Wout D l) D σ H) : tTry K Wout l tb D σ H := h
end
end U

namespace U
open PySem L2 PySem.Spec PyProof.Rows
/-! dicts -/
section
variable {X : Cx} {k : Nat} {K : PySem.W.Frag} {o i e value : Expr} {pos p' ap : Pos} {td ty tv : TE} {trs : List (TE × TE)} {keys : List (Option Expr)} {values : List Expr}
def DdK (Q : VK) (p : Addr) (ps : List (V × V)) (H : Hp) : Prop := H p = some (.dK []) ∧ ∃ kvs : List (Key × V), ps = kvs.map (fun kv => (kV kv.1, kv.2)) ∧ kvs.length ≤ 15 ∧ Q (.ref p) (upd H p (.dK (mergeK [] kvs)))
def tDd (trs : List (TE × TE)) : TE := fun σ H Q => ∀ p, H p = none → tPairs trs σ (upd H p (.dK [])) (DdK Q p)
theorem pe_dd (h : PPs X pos keys values trs) (h1 : keys.all (·.isSome) = true) (h2 : keys.length = values.length) (h3 : keys ≠ []) (h4 : keys.length ≤ 15) : PE X (.Dict keys values pos) (tDd trs) := pe_disp h h1 h2 h3 h4
def DgK (x : V) (Q : VK) (y : V) (H : Hp) : Prop := ∃ a v, x = .ref a ∧ DGet H a y (some v) ∧ Q v H
def tDg (td ty : TE) : TE := fun σ H Q => td σ H fun x H1 => ty σ H1 (DgK x Q)
theorem pe_dg (hr : Room k X.A) (ho : PE X o td) (hi : PE X i ty) (hs : NoSl i) : PE X (.Subscript o i pos) (tDg td ty) := pe_dget (hu_of hr) ho hi hs
def DnK (ng : Bool) (y : V) (Q : VK) (x : V) (H : Hp) : Prop := ∃ a r, x = .ref a ∧ DGet H a y r ∧ Q (.bl (if ng then !r.isSome else r.isSome)) H
def tDn (ng : Bool) (ty td : TE) : TE := fun σ H Q => ty σ H fun y H1 => td σ H1 (DnK ng y Q)
theorem pc_in (hr : Room k X.A) (hi : PE X i ty) (ho : PE X o td) : PC X .In i o (tDn false ty td) := pc_din (hu_of hr) hi ho
theorem pc_nin (hr : Room k X.A) (hi : PE X i ty) (ho : PE X o td) : PC X .NotIn i o (tDn true ty td) := pc_dnotin (hu_of hr) hi ho
/-- o[i] = v, of a list or a dict -/
def uSet : V → V → V → Hp → (Hp → Prop) → Prop := fun o i v H Q => rSetL o i v H Q ∨ rSetD o i v H Q
theorem set_u (hr : Room k X.A) : PSet X uSet := by
  intro pi s σ H o i v ov iv u Q I ro ri rv h
  rcases h with h | h
  · exact set_list pi s σ H o i v ov iv u Q I ro ri rv h
  · exact set_dict (hu_of hr) pi s σ H o i v ov iv u Q I ro ri rv h
def PopK (a : Addr) (Q : VK) (y : V) (H : Hp) : Prop := ∃ kvs k v, H a = some (.dK kvs) ∧ y = kV k ∧ valV kvs k = some v ∧ Q v (upd H a (.dK (dropK kvs k)))
def PopJ (ty : TE) (σ : L2.St) (Q : VK) (x : V) (H : Hp) : Prop := ∃ a, x = .ref a ∧ IsD H a ∧ ty σ H (PopK a Q)
def tPop (td ty : TE) : TE := fun σ H Q => td σ H (PopJ ty σ Q)
theorem pe_pop (ho : PE X o td) (he : PE X e ty) (m : M1 X o "pop" ap e pos) : PE X (.Call (.Attribute o "pop" ap) [e] [] pos) (tPop td ty) := pe_dpop1 ho he m
def uDict : List V → Hp → VK → Prop := fun xs H Q => ∃ (a : Addr) (kvs : List (Key × V)), xs = [.ref a] ∧ Rd H a (.dK kvs) ∧ ∀ p, H p = none → Q (.ref p) (upd H p (.dK kvs))
theorem c_dict : CallR X (.type "dict") uDict := call_dictD
def uList (K : PySem.W.Frag) : List V → Hp → VK → Prop := fun xs H Q => ∃ p ys, xs = [.ref p] ∧ (SqL K H p ys ∨ SqT K H p ys) ∧ ∀ l, H l = none → Q (.ref l) (upd H l (.lst ys))
end
section
variable {K : PySem.W.Frag} {σ : L2.St} {H : Hp} {Q : VK} {D : Ends} {x y v : V} {p : Addr} {n : Int} {z : Str} {kvs ks : List (Key × V)} {td ty : TE} {trs : List (TE × TE)}
theorem s_dd (h : ∀ p H', H p = none → H' p = some (.dK []) → Kp [] H H' → tPairs trs σ H' (DdK Q p)) : tDd trs σ H Q := fun p f => h p _ f upd_same (Kp.refl.new f)
theorem s_ddk {ps : List (V × V)} (h : H p = some (.dK [])) (e : ps = kvs.map (fun kv => (kV kv.1, kv.2))) (hl : kvs.length ≤ 15) (m : mergeK [] kvs = ks) (q : ∀ H', H' p = some (.dK ks) → Kp [p] H H' → Q (.ref p) H') : DdK Q p ps H :=
  ⟨h, kvs, e, hl, by rw [m]; exact put_abs h rfl (R := fun H' => Q (.ref p) H') q⟩
theorem s_dg (h : td σ H fun x H1 => ty σ H1 (DgK x Q)) : tDg td ty σ H Q := h
theorem s_dgi (h : H p = some (.dK kvs)) (e : valV kvs (Sum.inl n : Key) = some v) (q : Q v H) : DgK (.ref p) Q (.int n) H := ⟨p, v, rfl, by rw [← e]; exact DGet.k (k := Sum.inl n) h, q⟩
theorem s_dgs (h : H p = some (.dK kvs)) (e : valV kvs (Sum.inr z : Key) = some v) (q : Q v H) : DgK (.ref p) Q (.str z) H := ⟨p, v, rfl, by rw [← e]; exact DGet.k (k := Sum.inr z) h, q⟩
theorem s_dn {ng : Bool} (h : ty σ H fun y H1 => td σ H1 (DnK ng y Q)) : tDn ng ty td σ H Q := h
theorem s_dni {ng : Bool} (h : H p = some (.dK kvs)) (q : Q (.bl (if ng then !(valV kvs (Sum.inl n : Key)).isSome else (valV kvs (Sum.inl n : Key)).isSome)) H) : DnK ng (.int n) Q (.ref p) H := ⟨p, _, rfl, DGet.k (k := Sum.inl n) h, q⟩
theorem s_dns {ng : Bool} (h : H p = some (.dK kvs)) (q : Q (.bl (if ng then !(valV kvs (Sum.inr z : Key)).isSome else (valV kvs (Sum.inr z : Key)).isSome)) H) : DnK ng (.str z) Q (.ref p) H := ⟨p, _, rfl, DGet.k (k := Sum.inr z) h, q⟩
theorem s_ul {xs ys : List V} {j : Nat} {R : Hp → Prop} (h : H p = some (.lst xs)) (hj : ixN xs.length n = some j) (e : xs.set j v = ys) (q : ∀ H', H' p = some (.lst ys) → Kp [p] H H' → R H') : uSet (.ref p) (.int n) v H R := Or.inl ⟨p, xs, n, j, rfl, rfl, h, hj, by rw [e]; exact put_abs h rfl q⟩
theorem s_uds {R : Hp → Prop} (h : H p = some (.dK kvs)) (hl : kvs.length < sizeLine) (e : putK kvs (Sum.inr z : Key) v = ks) (q : ∀ H', H' p = some (.dK ks) → Kp [p] H H' → R H') : uSet (.ref p) (.str z) v H R :=
  Or.inr ⟨p, _, rfl, DPut.k (k := Sum.inr z) h hl, by rw [e]; exact put_abs h rfl q⟩
theorem s_udi {R : Hp → Prop} (h : H p = some (.dK kvs)) (hl : kvs.length < sizeLine) (e : putK kvs (Sum.inl n : Key) v = ks) (q : ∀ H', H' p = some (.dK ks) → Kp [p] H H' → R H') : uSet (.ref p) (.int n) v H R :=
  Or.inr ⟨p, _, rfl, DPut.k (k := Sum.inl n) h hl, by rw [e]; exact put_abs h rfl q⟩
theorem s_pop (h : td σ H (PopJ ty σ Q)) : tPop td ty σ H Q := h
theorem s_popj (h : H p = some (.dK kvs)) (q : ty σ H (PopK p Q)) : PopJ ty σ Q (.ref p) H := ⟨p, rfl, Or.inl ⟨kvs, Or.inl h⟩, q⟩
theorem s_popk (h : H p = some (.dK kvs)) (e : valV kvs (Sum.inl n : Key) = some v) (m : dropK kvs (Sum.inl n : Key) = ks) (q : ∀ H', H' p = some (.dK ks) → Kp [p] H H' → Q v H') : PopK p Q (.int n) H :=
  ⟨kvs, Sum.inl n, v, h, rfl, e, by rw [m]; exact put_abs h rfl (R := fun H' => Q v H') q⟩
theorem s_dict (h : H p = some (.dK kvs)) (q : ∀ l H', H l = none → H' l = some (.dK kvs) → Kp [] H H' → Q (.ref l) H') : uDict [.ref p] H Q := ⟨p, kvs, rfl, Or.inl h, fun l f => q l _ f upd_same (Kp.refl.new f)⟩
theorem s_list {ys : List V} (h : SqL K H p ys) (q : ∀ l H', H l = none → H' l = some (.lst ys) → Kp [] H H' → Q (.ref l) H') : uList K [.ref p] H Q := ⟨p, ys, rfl, Or.inl h, fun l f => q l _ f upd_same (Kp.refl.new f)⟩
end
theorem c_list {X : Cx} {K : PySem.W.Frag} (hK : X.K = K) : CallR X (.type "list") (uList K) := hK ▸ call_list_of
end U

namespace U
open PySem L2 PySem.Spec PyProof.Rows
/-- may be shown -/
structure Sh (K : PySem.W.Frag) (H : Hp) (v : V) (d : PyData) : Prop where
  dn : Dn K H v d
  good : U.good d
  depth : d.depth ≤ 100
  sz : U.sz d ≤ 16000000
section
variable {K : PySem.W.Frag} {σ : L2.St} {H : Hp} {Q : VK} {D : Ends} {x y v : V} {p : Addr} {n : Int} {z : Str} {to te : TE} {t : TA} {r : V → List V → Hp → VK → Prop} {T : String} {xs : List V}
theorem s_rep {d : PyData} (h : Sh K H v d) (q : Q (.str d.shown) H) : rRepr K [v] H Q := ⟨v, d, rfl, h.dn, h.good, h.depth, h.sz, q⟩
theorem s_bm (h : to σ H fun x H1 => tyV K T x H1 ∧ t σ H1 fun xs H2 => r x xs H2 Q) : tBM K T r to t σ H Q := h
theorem s_bm0 (h : to σ H fun x H1 => tyV K T x H1 ∧ r x [] H1 Q) : tBM0 K T r to σ H Q := h
theorem s_tyl {R : Prop} (h : H p = some (.lst xs)) (q : R) : tyV K "list" (.ref p) H ∧ R := ⟨Or.inl ⟨rfl, xs, SqL.of h⟩, q⟩
theorem s_tys {R : Prop} (q : R) : tyV K "str" (.str z) H ∧ R := ⟨rfl, q⟩
theorem s_tyd {R : Prop} {kvs : List (Key × V)} (h : H p = some (.dK kvs)) (q : R) : tyV K "dict" (.ref p) H ∧ R := ⟨Or.inr (Or.inr (Or.inl ⟨rfl, Or.inl ⟨kvs, h⟩⟩)), q⟩
theorem s_app (h : H p = some (.lst xs)) (hz : xs.length < sizeLine) (q : ∀ H', H' p = some (.lst (xs ++ [y])) → Kp [p] H H' → Q .non H') : rAppend (.ref p) [y] H Q :=
  ⟨p, xs, y, rfl, rfl, h, hz, put_abs h rfl (R := fun H' => Q .non H') q⟩
theorem s_pnil {Q : List (V × V) → Hp → Prop} (q : Q [] H) : tPairs [] σ H Q := q
theorem s_pcons {Q : List (V × V) → Hp → Prop} {tk tv : TE} {r : List (TE × TE)} (h : tk σ H fun x H1 => tv σ H1 fun y H2 => tPairs r σ H2 fun ps H3 => Q ((x, y) :: ps) H3) : tPairs ((tk, tv) :: r) σ H Q := h
/-! a meeting of ways -/
theorem meetT {tt : TT} {Q : Bool → Hp → Prop} (R : Bool → Hp → Prop) (key : ∀ b H1, R b H1 → Q b H1) (w : (∀ b H1, R b H1 → Q b H1) → tt σ H Q) : tt σ H Q := w key
theorem meetE (R : V → Hp → Prop) (key : ∀ b H1, R b H1 → Q b H1) (w : (∀ b H1, R b H1 → Q b H1) → te σ H Q) : te σ H Q := w key
theorem meetS {t u : TS} (R : L2.St → Hp → Prop) (key : ∀ σ1 H1, R σ1 H1 → u D σ1 H1) (w : (∀ σ1 H1, R σ1 H1 → u D σ1 H1) → t { D with nx := u D } σ H) : tSeq t u D σ H := w key
theorem zlt {n : Nat} (h : n ≤ 1000000) : n < sizeLine := Nat.lt_of_le_of_lt h (by decide)
end
section
variable {K : PySem.W.Frag} {H H' : Hp}
mutual
theorem Dn.kp (k : Kp [] H H') : ∀ {v : V} {d : PyData}, Dn K H v d → Dn K H' v d
  | _, _, .non => .non
  | _, _, .bl b => .bl b
  | _, _, .int i => .int i
  | _, _, .str x => .str x
  | _, _, .lst r a => .lst (k.rd r) (DnA.kp k a)
  | _, _, .tup r a => .tup (k.sqt r) (DnA.kp k a)
  | _, _, .dic r a => .dic (k.rd r) (DnA.kp k a)
theorem DnA.kp (k : Kp [] H H') : ∀ {vs : List V} {ds : List PyData}, DnA K H vs ds → DnA K H' vs ds
  | _, _, .nil => .nil
  | _, _, .cons a b => .cons (Dn.kp k a) (DnA.kp k b)
end
theorem Sh.kp (k : Kp [] H H') {v : V} {d : PyData} (h : Sh K H v d) : Sh K H' v d := ⟨h.dn.kp k, h.good, h.depth, h.sz⟩
end
end U

namespace U
open PySem L2 PySem.Spec PyProof.Rows
section
variable {K : PySem.W.Frag} {σ : L2.St} {H H' : Hp} {Q : VK} {D : Ends} {x y v : V} {p : Addr} {n : Int} {xs vs : List V} {ps : List Addr}
theorem s_gtu {R : L2.St → Hp → Prop} {t : TGs} {k : Nat} (h : H p = some (.tup xs)) (hl : xs.length = k) (q : t xs σ H R) : gTup K k t (.ref p) σ H R := ⟨p, xs, rfl, SqT.of h, hl, q⟩
theorem s_gn {R : L2.St → Hp → Prop} (q : R σ H) : gNil [] σ H R := ⟨rfl, q⟩
theorem s_gc {R : L2.St → Hp → Prop} {t : TG} {u : TGs} (q : t v σ H fun σ1 H1 => u vs σ1 H1 R) : gCons t u (v :: vs) σ H R := ⟨v, vs, rfl, q⟩
theorem s_rng2 {ta : TA} {R : It → Hp → Prop} (h : ta σ H fun vs H1 => ∃ i j : Int, vs = [.int i, .int j] ∧ (-(2 ^ 62) ≤ i ∧ i < 2 ^ 62 ∧ -(2 ^ 62) ≤ j ∧ j < 2 ^ 62) ∧ R (Itr i (j - i).toNat) H1) : iRng2 ta σ H R := h
theorem s_rn2 {i j : Int} {R : Int → Int → Prop} (h : -(2 ^ 62) ≤ i ∧ i < 2 ^ 62 ∧ -(2 ^ 62) ≤ j ∧ j < 2 ^ 62) (q : R i j) : ∃ i' j' : Int, [V.int i, V.int j] = [.int i', .int j'] ∧ (-(2 ^ 62) ≤ i' ∧ i' < 2 ^ 62 ∧ -(2 ^ 62) ≤ j' ∧ j' < 2 ^ 62) ∧ R i' j' := ⟨i, j, rfl, h, q⟩
/-! a meeting of ways, what is behind it a letter -/
theorem jT {tt : TT} {Q : Bool → Hp → Prop} (R : Bool → Hp → Prop) (key : ∀ b H1, R b H1 → Q b H1) (w : ∀ Q' : Bool → Hp → Prop, (∀ b H1, R b H1 → Q' b H1) → tt σ H Q') : tt σ H Q := w _ key
theorem jE {te : TE} (R : V → Hp → Prop) (key : ∀ b H1, R b H1 → Q b H1) (w : ∀ Q' : VK, (∀ b H1, R b H1 → Q' b H1) → te σ H Q') : te σ H Q := w _ key
theorem jS {t u : TS} (R : L2.St → Hp → Prop) (key : ∀ σ1 H1, R σ1 H1 → u D σ1 H1) (w : ∀ u' : L2.St → Hp → Prop, (∀ σ1 H1, R σ1 H1 → u' σ1 H1) → t { D with nx := u' } σ H) : tSeq t u D σ H := w _ key
/-- no tuple -/
def Nt (H : Hp) (p : Addr) : Prop := ∀ xs, H p ≠ some (.tup xs)
theorem Nt.lst (h : H p = some (.lst xs)) : Nt H p := fun ys e => by rw [h] at e; cases e
theorem Nt.ins {C dx : Addr} {fs : List (Str × V)} (h : H p = some (.ins C dx fs)) : Nt H p := fun ys e => by rw [h] at e; cases e
theorem Nt.none (h : H p = none) : Nt H p := fun ys e => by rw [h] at e; cases e
theorem Kp.tup (k : Kp ps H H') (n : ∀ q ∈ ps, Nt H q) (e : H p = some (.tup xs)) : H' p = some (.tup xs) := k.get e fun m => n p m xs e
/-- new since -/
theorem Kp.all (k : Kp ps H H') (f : ∀ q ∈ ps, H q = none) : Kp [] H H' := ⟨fun b o e _ => k.keep b o e fun m => (by rw [f b m] at e; cases e), k.kd, k.tp⟩
end
end U

namespace U
open PySem L2 PySem.Spec PyProof.Rows
/-! xs[a:] = ys -/
theorem bounds_tail {a n : Nat} (h : a ≤ n) : sliceBounds (some (a : Int)) none none n = ((a : Int), (n : Int), 1) := by
  simp only [sliceBounds, Option.getD_none]
  have h1 : ¬ ((a : Int) < 0) := by omega
  simp only [h1, if_false, show (1 : Int) > 0 by decide, if_true]
  congr 1
  omega
section
variable {prog : Program} {w : World} {A : Around} {s : Shared} {E : Value → Shared → Prop}
theorem setItem_tail {l b sl : Addr} {items new : Array Value} {n n2 : Nat} {vl : Value} {a : Nat} {Q : Unit → Shared → Prop}
    (e : s.heap.get? l = some { cls := .type "list", data := .seq items n }) (e2 : s.heap.get? b = some { cls := .type "list", data := .seq new n2 }) (hne : l ≠ b)
    (hs : s.heap.IsSliceOf sl vl .none .none) (pl : IsPart vl (some (a : Int))) (ha : a ≤ items.size) (hsz : items.size + new.size ≤ sizeLine)
    (h : Q () { s with heap := s.heap.update l (Obj.mapSeq fun xs => xs.extract 0 a ++ new ++ xs.extract items.size xs.size) }) :
    wpAny (model prog w) A (setItem (.ref l) (.ref sl) (.ref b)) Q E s := by
  have hl : s.heap.IsList l items := PySem.IsL.isList e
  have hb : s.heap.IsList b new := PySem.IsL.isList e2
  obtain ⟨os, hos, hcs, hds⟩ := id hs
  have hTs : s.TypeIs (.ref sl) "slice" := ⟨os, hos, hcs⟩
  have hsame : Builtin.List.listSameRef (.ref l) (.ref b) = false := by
    unfold Builtin.List.listSameRef
    exact beq_eq_false_iff_ne.mpr hne
  have hmax : (max (a : Int) (items.size : Int)).toNat = items.size := by omega
  have hz' : ((fun xs : Array Value => xs.extract 0 a ++ new ++ xs.extract items.size xs.size) items).size ≤ sizeLine + 1 := by
    simp only [Array.size_append, Array.size_extract]
    omega
  unfold setItem
  try with_reducible refine wpAny_holding ?_
  first | refine wpAny_bind (wpAny_pure ?_) | skip
  refine wpAny_bind (wpAny_sequenceKey hl.typeIs (by decide) ?_)
  refine wpAny_bind (wpAny_callSpecial?_slot (name := Str.ofString "__setitem__") hl.typeIs slot_list_setitem (wpAny_call_entry slot_list_setitem hl.typeIs entry_list_setitem ?_ (args_list_setitem _ _ _)))
  show wpAny _ _ (Builtin.List.listSubscript? (.ref sl) >>= _) _ _ s
  refine wpAny_bind ?_
  unfold Builtin.List.listSubscript?
  refine wpAny_bind (wpAny_specialOf hTs slice_no_index ?_)
  simp only [Option.isNone_none, if_true]
  refine wpAny_pure ?_
  show wpAny _ _ (typeOf (.ref sl) >>= _) _ _ s
  refine wpAny_bind (wpAny_typeOf hTs ?_)
  first
    | rw [if_neg (by decide)]
    | refine PySem.W.KFB.if_not (by decide) ?_
  rw [listSliceParts_eq]
  refine wpAny_bind (wpAny_bind (wpAny_field hos hds (x := .none) rfl (wpAny_bind (wpAny_listPart .none ?_))))
  rw [if_neg (show ¬ ((rawPart none == rawInt 0) = true) from Bool.false_ne_true)]
  refine wpAny_bind (wpAny_field hos hds (x := vl) rfl (wpAny_bind (wpAny_listPart pl ?_)))
  refine wpAny_bind (wpAny_field hos hds (x := .none) rfl (wpAny_bind (wpAny_listPart .none (wpAny_pure ?_))))
  first
    | simp only [hsame, Bool.false_eq_true, if_false]
    | refine PySem.W.KFB.if_not hsame ?_
    | (dsimp only
       rw [if_neg (by rw [hsame]; exact Bool.false_ne_true)])
  refine wpAny_bind (m := Builtin.List.listAllItems (.ref b) "must assign iterable to extended slice") ?_
  unfold Builtin.List.listAllItems
  refine wpAny_bind (wpAny_typeOf hb.typeIs ?_)
  first
    | refine PySem.W.KFB.if_so (by decide) ?_
    | rw [if_pos (by decide)]
    | simp only [beq_self_eq_true, Bool.true_or, if_true]
  unfold Builtin.List.listItems
  refine wpAny_bind (wpAny_seqItems e2 rfl (wpAny_pure ?_))
  refine wpAny_bind (wpAny_bind (wpAny_seqItems e rfl (wpAny_pure ?_)))
  refine wpAny_bind (wpAny_of_eq ((sliceIndices_raw (some (a : Int)) none none items.size (by simp)).trans (congrArg (pure : Int × Int × Int → Sem (Int × Int × Int)) (bounds_tail ha))) ?_)
  show wpAny _ _ (if ((1 : Int) == 1) = true then _ else _) _ _ s
  rw [if_pos (by decide)]
  refine wpAny_bind (wpAny_rule ?_)
  first
    | simp only [notLongL hsz, Bool.false_eq_true, if_false]
    | refine PySem.W.KFB.if_not (notLongL hsz) ?_
  first | refine wpAny_bind (wpAny_pure ?_) | skip
  show wpAny _ _ (updateSeq l (fun xs => xs.extract 0 ((a : Int)).toNat ++ new ++ xs.extract (max (a : Int) (items.size : Int)).toNat xs.size) >>= _) _ _ s
  rw [hmax, Int.toNat_natCast]
  refine wpAny_bind (wpAny_updateSeq (hz := Nat.le_trans (Nat.le_add_right _ _) hsz) (_hz' := hz') e rfl ?_)
  refine wpAny_bind (wpAny_letGo ?_)
  first
    | exact wpAny_bind (wpAny_pure (wpAny_pure ⟨.none, rfl, wpAny_pure h⟩))
    | exact wpAny_pure ⟨.none, rfl, wpAny_pure h⟩
end
section
variable {X : Cx} {o lo : Expr} {to tl : TE} {pos p2 : Pos}
def TlK (x v : V) (R : Hp → Prop) (y : V) (H : Hp) : Prop := ∃ (l b : Addr) (xs ys : List V) (a : Int), x = .ref l ∧ v = .ref b ∧ y = .int a ∧ H l = some (.lst xs) ∧ H b = some (.lst ys) ∧ l ≠ b ∧ 0 ≤ a ∧ a ≤ xs.length ∧ xs.length + ys.length ≤ sizeLine ∧ R (upd H l (.lst (xs.take a.toNat ++ ys)))
def gTl (to tl : TE) : TG := fun v σ H R => to σ H fun x H1 => tl σ H1 (TlK x v (R σ))
theorem pg_tail (ho : PE X o to) (hl : PE X lo tl)
    (ha : ∀ v, assign (.Subscript o (.Slice (some lo) none none p2) pos) X.env v = (do
      let ov ← holding [v] (eval o X.env)
      let iv ← holding [v, ov] (eval (.Slice (some lo) none none p2) X.env)
      standAt pos
      holding [v, ov, iv] (setItem ov iv v)
      release [iv, v, ov] []) := by intro _; rfl) : PG X (.Subscript o (.Slice (some lo) none none p2) pos) (gTl to tl) := by
  refine ⟨fun pins s σ H v u Q I r h => ?_⟩
  rw [ha]
  refine wpAny_bind (wpAny_holding (thn (ho.run pins s σ H _ I h) fun ov s1 ⟨x, H1, I1, r1, q1⟩ => ?_))
  have hpo := po_some (peMo hl)
  refine wpAny_bind (wpAny_holding (wpAny_Slice (thn (hpo.run pins s1 σ H1 (fun o H2 => ∃ a, o = some a ∧ TlK x v (Q σ) (.int a) H2) I1 ⟨_, q1, fun y H2 z => ?_⟩) fun vl s2 ⟨a0, H2, I2, pl, a, ea, q2⟩ => ?_)))
  · obtain ⟨l, b, xs, ys, a, e1, e2, rfl, z⟩ := z
    exact ⟨a, rfl, a, rfl, l, b, xs, ys, a, e1, e2, rfl, z⟩
  subst ea
  refine thn (po_none.run pins s2 σ H2 (fun o H3 => o = none ∧ H3 = H2) I2 ⟨rfl, rfl⟩) fun vu s3 ⟨u', H3, I3, pu, eu, e3⟩ => ?_
  subst eu
  subst e3
  cases pu
  rw [evalPart_none]
  refine wpAny_pure ?_
  have I4 : Inv X pins σ H3 { s3 with heap := s3.heap.push { cls := .type "slice", data := .fields #[vl, .none, .none] } } := I3.kept (t' := s3.toks) fun b ob q => Heap.get?_push_of_some _ q
  obtain ⟨l, b, xs, ys, a', rfl, rfl, ea, hH, hB, hne, h0, h1, hz, q⟩ := q2
  cases ea
  cases r1
  cases r
  obtain ⟨z, its, n, rr, hl', e⟩ := I4.lstM hH
  obtain ⟨z2, its2, n2, r2, hl2, e2⟩ := I4.lstM hB
  obtain ⟨a', rfl⟩ := Int.eq_ofNat_of_zero_le h0
  simp only [Int.toNat_natCast] at q
  refine wpAny_bind (wpAny_standAt (wpAny_bind (wpAny_holding (setItem_tail (a := a') e e2 hne (Heap.IsSliceOf.new ..) pl (by rw [List.size_toArray]; omega) (by rw [List.size_toArray, List.size_toArray]; omega) ?_))))
  refine wpAny_release ⟨σ, _, I4.lset (its' := its.take a' ++ its2) (t' := s3.toks) hH e ?_ ((rr.take _).append r2) ?_, q⟩
  · have := splice_eq its its2 a' its.length
    rw [List.drop_length, List.append_nil] at this
    rw [List.size_toArray]
    exact this
  · rw [List.length_append, List.length_take]
    omega
section
variable {σ : L2.St} {H : Hp} {v x y : V} {l b : Addr} {xs ys zs : List V} {a : Int}
theorem s_tl {R : L2.St → Hp → Prop} (h : to σ H fun x H1 => tl σ H1 (TlK x v (R σ))) : gTl to tl v σ H R := h
theorem s_tlk {R : Hp → Prop} (h1 : H l = some (.lst xs)) (h2 : H b = some (.lst ys)) (n : l ≠ b) (h0 : 0 ≤ a) (ha : a ≤ xs.length) (hz : xs.length + ys.length ≤ sizeLine) (e : xs.take a.toNat ++ ys = zs)
    (q : ∀ H', H' l = some (.lst zs) → Kp [l] H H' → R H') : TlK (.ref l) (.ref b) R (.int a) H := ⟨l, b, xs, ys, a, rfl, rfl, rfl, h1, h2, n, h0, ha, hz, by rw [e]; exact put_abs h1 rfl q⟩
end
end
end U

namespace U
open PySem L2 PySem.Spec PyProof.Rows
section
variable {X : Cx}
/-- sorted(d), a dict with int keys, any number of them -/
def uSortD : List V → Hp → VK → Prop := fun xs H Q => ∃ (a : Addr) (kvs : List (Key × V)) (ks : List Int), xs = [.ref a] ∧ Rd H a (.dK kvs) ∧ kvs.map (·.1) = ks.map Sum.inl ∧
    ∀ (ys : List Int) (p : Addr), ys.Perm ks → ys.Pairwise (· ≤ ·) → H p = none → Q (.ref p) (upd H p (.lst (ys.map V.int)))
theorem c_sortD (hcalm : X.calm = true) : CallR X (.builtin "sorted") uSortD := by
  intro pins s σ H xs us Q I r q
  obtain ⟨a, kvs, ks, ex, hd, hks, q⟩ := q
  subst ex
  obtain ⟨u, eu, rx⟩ := vals1 r
  subst eu
  cases rx
  obtain ⟨z, lo, vs, rel, dd⟩ := dk_rd I.hok hd
  obtain ⟨ep, hat⟩ := dd.dictAt
  have hkeys : vs.map (·.1) = ks.map Sum.inl := rel.keys.symm.trans hks
  have hl : vs.length = ks.length := by
    have e := congrArg List.length hkeys
    rwa [List.length_map, List.length_map] at e
  have h16 : vs.length ≤ sizeLine := by rw [← rel.length]; exact z
  refine Calls.call_function_entry PyProof.Rows.kind_sorted PyProof.Rows.plain_sorted PyProof.Rows.entry_sorted (PyProof.Rows.args_sorted1 _) ?_
  unfold Builtin.«sorted»
  refine wpAny_bind (m := checkCount "sorted" 1 1 _) (wpAny_pure ?_)
  refine wpAny_bind (PySem.W.kdu_collect (A := X.A.in1) (PySem.W.kdl_dict (knd := mixKind X.prog X.w) (kvs := vs) (ep := ep) lo) (I.ok.hd hcalm) hat h16 fun h' tk acc hk hacc => ?_)
  have hal : acc.toList.length = ks.length := by rw [Array.length_toList, hacc.1, hl]
  have hS : IntsAre acc.toList ks := ints_each hal fun j v e => by
    obtain ⟨k, x, e1, e2⟩ := hacc.2 j v (by rw [← Array.getElem?_toList]; exact e)
    have e3 : (vs.map (·.1))[j]? = some k := by rw [List.getElem?_map, e1]; rfl
    rw [hkeys, List.getElem?_map] at e3
    obtain ⟨y, e4, rfl⟩ := Option.map_eq_some_iff.mp e3
    rcases keyIs_shape (show keyIs (Sum.inl y) v = true from e2) with ⟨i, t, ek, ev⟩ | ⟨z, t, ek, ev⟩
    · cases ek
      exact ⟨_, t, e4, ev⟩
    · cases ek
  have I1 : Inv X pins σ H { s with heap := h', toks := tk } := I.kept hk
  refine wpAny_bind (wpAny_newList ?_ (by rw [hal, ← hl]; exact h16))
  have hoL : (h'.push (seqObj "list" acc.toList.toArray 0)).get? h'.objs.size = some (seqObj "list" acc.toList.toArray 0) := Heap.get?_push_size _ rfl
  show wpAny _ _ _ _ _ { s with heap := h'.push (seqObj "list" acc.toList.toArray 0), toks := tk }
  refine wpAny_bind (wpAny_holding (wpAny_call_entry PyProof.Rows.slot_list_sort ⟨_, hoL, rfl⟩ PyProof.Rows.entry_list_sort
    (SrtO.list_sort_ord (s := { s with heap := h'.push (seqObj "list" acc.toList.toArray 0), toks := tk }) SrtO.swo_int hoL (by rw [hal, ← hl]; exact h16) (fun h2 => SrtO.ints_sortable hS h2) fun out h1 h2 => ⟨_, rfl, ?_⟩) (PyProof.Rows.args_list_sort _)))
  obtain ⟨g1, g2, g3⟩ := SrtO.ints_out hS h1 h2
  obtain ⟨e', he'⟩ := PyProof.Rows.sortedHeap_at (vs := acc.toList) (out := out.toArray) hoL
  have hlen : ((out.map SrtO.iv).map V.int).length ≤ sizeLine := by
    rw [List.length_map, g2.length_eq, ← hl]
    exact h16
  refine wpAny_pure ⟨_, rfl, .ref h'.objs.size, upd H h'.objs.size (.lst ((out.map SrtO.iv).map V.int)), I1.laid (t' := tk) (fun b u e => ?_) (Nat.le_refl _)
    (show ObjOk X.prog X.w _ _ _ (.lst ((out.map SrtO.iv).map V.int)) from ⟨hlen, out, e', vals_of_ints g1, he'⟩), rfl, q _ _ g2 g3 (I1.hok.fresh (Nat.le_refl _))⟩
  have hb : b < h'.objs.size := Heap.lt_size e
  rw [PyProof.Rows.sortedHeap_old (Nat.ne_of_lt hb) (by rw [size_push']; exact Nat.lt_succ_of_lt hb)]
  exact Heap.get?_push_of_some _ e
end
/-! d.update(e), another dict -/
section
variable {X : Cx}
theorem merge_len : ∀ (more kvs : List (Key × V)), (mergeK kvs more).length ≤ kvs.length + more.length
  | [], kvs => by simp [mergeK]
  | p :: r, kvs => by
    have h1 := merge_len r (putK kvs p.1 p.2)
    have h2 := length_putK kvs p.1 p.2
    have e : mergeK kvs (p :: r) = mergeK (putK kvs p.1 p.2) r := rfl
    rw [e, List.length_cons]
    omega
def rUpd : V → List V → Hp → VK → Prop := fun x xs H Q => ∃ (a b : Addr) (kvs more : List (Key × V)), x = .ref a ∧ xs = [.ref b] ∧ H a = some (.dK kvs) ∧ H b = some (.dK more) ∧ a ≠ b ∧ kvs.length + more.length ≤ sizeLine ∧ Q .non (upd H a (.dK (mergeK kvs more)))
theorem mt_update : MtR X "dict.update" rUpd := by
  intro pins s σ H x xs v us Q I rx rxs h
  obtain ⟨a, b, kvs, more, rfl, rfl, ha, hb, hne, hz, q⟩ := h
  cases rx
  obtain rfl := Vals.ref1 rxs
  obtain ⟨z, hd, vs, rel, dd⟩ := dk_of I.hok ha
  obtain ⟨z2, hd2, rs, rel2, dd2⟩ := dk_of I.hok hb
  refine call_meetsIn PySem.F.slot_dict_update dd.typeIs PySem.F.entry_dict_update (PySem.F.args_dict_update_2 _ _) (meets_dict_update (mixKind X.prog X.w) a b hne hd2) ⟨vs, rs, dd, dd2, by rw [← rel.length, ← rel2.length]; exact hz, fun h' dd' _ hs => ?_⟩
  have he : ∃ q, h'.get? a = some q := let ⟨q, _, _, hq, _⟩ := dd'; ⟨q, hq⟩
  exact ⟨.non, _, d_write (t' := s.toks) I (by rw [ha]; exact True.intro) hs he (dk_new (Nat.le_trans (merge_len _ _) hz) hd (KV.merge rel2 rel) dd'), rfl, q⟩
end
section
variable {K : PySem.W.Frag} {σ : L2.St} {H : Hp} {Q : VK} {a b : Addr} {kvs more ks : List (Key × V)}
theorem s_upd (ha : H a = some (.dK kvs)) (hb : H b = some (.dK more)) (n : a ≠ b) (hz : kvs.length + more.length ≤ sizeLine) (e : mergeK kvs more = ks) (q : ∀ H', H' a = some (.dK ks) → Kp [a] H H' → Q .non H') : rUpd (.ref a) [.ref b] H Q :=
  ⟨a, b, kvs, more, rfl, rfl, ha, hb, n, hz, by rw [e]; exact put_abs ha rfl (R := fun H' => Q .non H') q⟩
end
section
variable {K : PySem.W.Frag} {σ : L2.St} {H : Hp} {Q : VK} {p : Addr} {kvs : List (Key × V)} {ks : List Int}
theorem s_sortD (h : H p = some (.dK kvs)) (e : kvs.map (·.1) = ks.map Sum.inl) (q : ∀ (ys : List Int) l H', ys.Perm ks → ys.Pairwise (· ≤ ·) → H l = none → H' l = some (.lst (ys.map V.int)) → Kp [] H H' → Q (.ref l) H') : uSortD [.ref p] H Q :=
  ⟨p, kvs, ks, rfl, Or.inl h, e, fun ys l hp hs f => q ys l _ hp hs f upd_same (Kp.refl.new f)⟩
end
end U

namespace U
open PySem L2 PySem.Spec PyProof.Rows
/-! what the stepping words lean on: where things stand, by search -/
section
variable {K : PySem.W.Frag} {H H1 H2 : Hp} {ps qs : List Addr} {a b p q : Addr} {o u : HO} {i j : Nat}
theorem Kp.step (h : Kp ps H H1) (k : Kp qs H1 H2) (n : ∀ q ∈ qs, q ∈ ps ∨ H q = none) : Kp ps H H2 := ⟨fun b o e m => by
  refine k.keep b o (h.keep b o e m) fun z => ?_
  rcases n b z with y | y
  · exact m y
  · (rw [y] at e; cases e), fun b i e => k.kd b i (h.kd b i e), fun b xs e => k.tp b xs (h.tp b xs e)⟩
/-- told of heaps that are further apart (no step of the search) -/
structure Kz (ps : List Addr) (H H' : Hp) : Prop where
  k : Kp ps H H'
/-- told for later: it did not stand -/
structure Fz (H : Hp) (p : Addr) : Prop where
  f : H p = none
theorem nt1 {H : Hp} {p : Addr} (h : Nt H p) : ∀ q ∈ [p], Nt H q := by simpa using h
theorem nm0 : a ∉ ([] : List Addr) := by simp
theorem nmc (h : a ≠ p) (g : a ∉ ps) : a ∉ p :: ps := by simp [h, g]
theorem al0 {P : Addr → Prop} : ∀ q ∈ ([] : List Addr), P q := by simp
theorem alc {P : Addr → Prop} (h : P p) (g : ∀ q ∈ ps, P q) : ∀ q ∈ p :: ps, P q := by simpa using ⟨h, g⟩
/-- what stands was none before -/
def Dm (H H1 : Hp) : Prop := ∀ b, H1 b = none → H b = none
theorem Dm.refl : Dm H H := fun _ e => e
theorem Dm.step (h : Dm H H1) (k : Kp ps H1 H2) : Dm H H2 := fun b e => h b (k.dom b e)
theorem Dm.fr (n : H1 p = none) (h : Dm H H1) : H p = none := h p n
theorem Th.kp (k : Kp ps H H1) (h : Th H a i) : Th H1 a i := k.kd a i h
theorem Th.ne (h : Th H a i) (f : H p = none) : a ≠ p := by obtain ⟨o, e, r⟩ := h; exact ne_of_none e f
theorem Th.nk (h : Th H a i) (g : Th H p j) (d : Nat.beq i j = false) : a ≠ p := fun z => by
  subst z
  obtain ⟨o, e, rfl⟩ := h
  obtain ⟨o', e', rfl⟩ := g
  rw [e] at e'
  cases e'
  exact Nat.ne_of_beq_eq_false d rfl
theorem Th.nt (h : Th H a i) (d : Nat.beq i 1 = false) : Nt H a := fun xs e => by
  obtain ⟨o, e2, rfl⟩ := h
  rw [e] at e2
  cases e2
  cases d
theorem SqL.kpn {xs : List V} (k : Kp ps H H1) (h : SqL K H a xs) (n : a ∉ ps) : SqL K H1 a xs := by
  rcases h with (e | ⟨o, e⟩) | e
  · exact Or.inl (Or.inl (k.get e n))
  · exact Or.inl (Or.inr ⟨o, k.get e n⟩)
  · exact Or.inr e
theorem TyN.kpn {v : V} {t : Kd} (h : TyN H v t) (k : Kp ps H H1) (n : ∀ q ∈ ps, v ≠ .ref q) : TyN H1 v t := by
  cases h with
  | non => exact .non
  | bl => exact .bl
  | int => exact .int
  | str => exact .str
  | lst e => exact .lst (k.get e fun m => n _ m rfl)
  | tup e => exact .tup (k.get e fun m => n _ m rfl)
  | dic e => exact .dic (k.get e fun m => n _ m rfl)
theorem kn {a b : Str} (h : decide (a = b) = false) : ¬ ((Sum.inr a : Key) = Sum.inr b) := fun z => by
  injection z with z
  exact absurd z (of_decide_eq_false h)
/-- the box: a list of three numbers, the last one at most n -/
structure Box (H : Hp) (p : Addr) (n : Nat) : Prop where
  ex : ∃ a b c : Int, H p = some (.lst [.int a, .int b, .int c]) ∧ 0 ≤ a ∧ 0 ≤ b ∧ b < 2147483629 ∧ 0 ≤ c ∧ c ≤ n
theorem Box.th {n : Nat} (h : Box H p n) : Th H p 0 := by obtain ⟨a, b, c, e, r⟩ := h.ex; exact .lst e
theorem Box.kp {n : Nat} (h : Box H p n) (k : Kp [] H H1) : Box H1 p n := by
  obtain ⟨a, b, c, e, r⟩ := h.ex
  exact ⟨a, b, c, k.get0 e, r⟩
theorem Box.kpn {n : Nat} (h : Box H p n) (k : Kp ps H H1) (z : p ∉ ps) : Box H1 p n := by
  obtain ⟨a, b, c, e, r⟩ := h.ex
  exact ⟨a, b, c, k.get e z, r⟩
theorem Box.ne {l : Addr} {n : Nat} (h : Box H p n) (hl : H l = none) : l ≠ p := (h.th.ne hl).symm
theorem Box.more {n m : Nat} (h : Box H p n) (e : n ≤ m) : Box H p m := by
  obtain ⟨a, b, c, e1, h1, h2, h3, h4, h5⟩ := h.ex
  exact ⟨a, b, c, e1, h1, h2, h3, h4, by omega⟩
theorem Box.nt {n : Nat} (h : Box H p n) : Nt H p := by
  obtain ⟨a, b, c, e, r⟩ := h.ex
  exact Nt.lst e
theorem PvD.begin {H : Hp} {D : Addr} {Pv : Nat → List V → Hp → Prop} (f : H D = none) (h : ∀ H', H' D = some (.lst []) → Kp [] H H' → Pv 0 [] H') : PvD D Pv 0 (upd H D (.lst [])) := ⟨[], upd_same, h _ upd_same (Kp.refl.new f)⟩
theorem PvD.add {H : Hp} {D : Addr} {Pv : Nat → List V → Hp → Prop} {acc : List V} {y : V} {i : Nat} (e : H D = some (.lst acc)) (hz : acc.length ≤ 1000000) (h : ∀ H', H' D = some (.lst (acc ++ [y])) → Kp [D] H H' → Pv i (acc ++ [y]) H') :
    ∃ acc, H D = some (.lst acc) ∧ acc.length < sizeLine ∧ PvD D Pv i (upd H D (.lst (acc ++ [y]))) := ⟨acc, e, zlt hz, acc ++ [y], upd_same, h _ upd_same (Kp.refl.put (by simp) (.lst e))⟩
theorem many_j (n : Nat) (lo hi : Int) (h0 : 0 ≤ lo) (h : lo ≤ hi) : ∃ j : Nat, (if (if (n : Int) < hi then (n : Int) else hi) > lo then (if (n : Int) < hi then (n : Int) else hi) else lo) = (j : Int) ∧ lo ≤ j ∧ j ≤ hi := by
  refine ⟨(if (if (n : Int) < hi then (n : Int) else hi) > lo then (if (n : Int) < hi then (n : Int) else hi) else lo).toNat, ?_, ?_, ?_⟩ <;> (split <;> split <;> omega)
end
end U

namespace U
open PySem L2 PySem.Spec PyProof.Rows
/-! == and != of data -/
section
variable {K : PySem.W.Frag} {H H1 : Hp} {Q : VK} {x y : V} {d e : PyData} {ps qs : List Addr}
mutual
theorem Dn.dp : ∀ {v : V} {d : PyData}, d.canLay0 = true → Dn K H v d → Dp K H v d
  | _, _, _, .non => .non
  | _, _, _, .bl b => .bl b
  | _, _, _, .int i => .int i
  | _, _, _, .str x => .str x
  | _, _, h, .lst r a => .lst (Or.inl r) (DnA.dp (by simpa only [PyData.canLay0] using h) a)
  | _, _, h, .tup r a => .tup r (DnA.dp (by simpa only [PyData.canLay0] using h) a)
  | _, _, h, .dic r a => by simp [PyData.canLay0] at h
theorem DnA.dp : ∀ {vs : List V} {ds : List PyData}, PyData.canLayAll0 ds = true → DnA K H vs ds → DpAll K H vs ds
  | _, _, _, .nil => .nil
  | _, _, h, .cons a b => by
    rw [PyData.canLayAll0, Bool.and_eq_true] at h
    exact .cons (Dn.dp h.1 a) (DnA.dp h.2 b)
end
theorem shp {d : PyData} (h : SeqAt.shaped d = true) : d.canLay0 = true := by
  unfold SeqAt.shaped at h
  rw [Bool.and_eq_true] at h
  exact h.1
theorem s_eqD (h1 : Dn K H x d) (h2 : Dn K H y e) (s1 : SeqAt.shaped d = true) (s2 : SeqAt.shaped e = true) (q : Q (.bl (PyData.eqv d e)) H) : uEq K x y H Q :=
  Or.inr ⟨d, e, h1.dp (shp s1), h2.dp (shp s2), s1, s2, q⟩
theorem s_neD (h1 : Dn K H x d) (h2 : Dn K H y e) (s1 : SeqAt.shaped d = true) (s2 : SeqAt.shaped e = true) (q : Q (.bl (!PyData.eqv d e)) H) : uNe K x y H Q :=
  Or.inr ⟨d, e, h1.dp (shp s1), h2.dp (shp s2), s1, s2, q⟩
theorem s_eqR (h1 : Dn K H x d) (h2 : Dn K H y d) (s1 : SeqAt.shaped d = true) (q : Q (.bl true) H) : uEq K x y H Q :=
  s_eqD h1 h2 s1 s1 (by rw [PySem.SeqAt.eqv_refl d (shp s1)]; exact q)
theorem s_neR (h1 : Dn K H x d) (h2 : Dn K H y d) (s1 : SeqAt.shaped d = true) (q : Q (.bl false) H) : uNe K x y H Q :=
  s_neD h1 h2 s1 s1 (by rw [PySem.SeqAt.eqv_refl d (shp s1)]; exact q)
/-- a list against [] -/
theorem s_neN {p r : Addr} {ds : List PyData} (h1 : Dn K H (.ref p) (.list ds)) (h2 : H r = some (.lst [])) (s1 : SeqAt.shaped (.list ds) = true) (q : Q (.bl (!ds.isEmpty)) H) : uNe K (.ref p) (.ref r) H Q := by
  refine s_neD h1 (.lst (Or.inl h2) .nil) s1 (by decide +kernel) ?_
  have e : PyData.eqv (.list ds) (.list []) = ds.isEmpty := by
    cases ds <;> simp [PyData.eqv, PyData.eqvAll]
  rw [e]
  exact q
theorem s_eqN {p r : Addr} {ds : List PyData} (h1 : Dn K H (.ref p) (.list ds)) (h2 : H r = some (.lst [])) (s1 : SeqAt.shaped (.list ds) = true) (q : Q (.bl ds.isEmpty) H) : uEq K (.ref p) (.ref r) H Q := by
  refine s_eqD h1 (.lst (Or.inl h2) .nil) s1 (by decide +kernel) ?_
  have e : PyData.eqv (.list ds) (.list []) = ds.isEmpty := by
    cases ds <;> simp [PyData.eqv, PyData.eqvAll]
  rw [e]
  exact q
/-! data of the part of the heap that is not at ps -/
def hid (ps : List Addr) (H : Hp) : Hp := fun a => if a ∈ ps then none else H a
theorem hid_some {a : Addr} {o : HO} (h : hid ps H a = some o) : H a = some o ∧ a ∉ ps := by
  unfold hid at h
  by_cases m : a ∈ ps
  · rw [if_pos m] at h; cases h
  · rw [if_neg m] at h; exact ⟨h, m⟩
theorem hid_of {a : Addr} {o : HO} (h : H a = some o) (m : a ∉ ps) : hid ps H a = some o := by
  unfold hid; rw [if_neg m]; exact h
theorem hid_kp (k : Kp qs H H1) (n : ∀ q ∈ qs, q ∈ ps ∨ H q = none) : Kp [] (hid ps H) (hid ps H1) := ⟨fun b o e _ => by
  obtain ⟨e1, m⟩ := hid_some e
  refine hid_of (k.get e1 fun z => ?_) m
  rcases n b z with y | y
  · exact m y
  · (rw [y] at e1; cases e1), fun b i e => by
  obtain ⟨o, e, r⟩ := e
  obtain ⟨e1, m⟩ := hid_some e
  obtain ⟨o', e', r'⟩ := k.kd b i ⟨o, e1, r⟩
  exact ⟨o', hid_of e' m, r'⟩, fun b xs e => by
  obtain ⟨e1, m⟩ := hid_some e
  exact hid_of (k.tp b xs e1) m⟩
/-- a thing that is data, no part of it at ps -/
def Dx (ps : List Addr) (K : PySem.W.Frag) (H : Hp) (v : V) (d : PyData) : Prop := Dn K (hid ps H) v d
theorem Dx.kpn (h : Dx ps K H x d) (k : Kp qs H H1) (n : ∀ q ∈ qs, q ∈ ps ∨ H q = none) : Dx ps K H1 x d := Dn.kp (hid_kp k n) h
theorem rdh {a : Addr} {u : HO} (r : Rd (hid ps H) a u) : Rd H a u := by
  rcases r with r | ⟨o, r⟩
  · exact Or.inl (hid_some r).1
  · exact Or.inr ⟨o, (hid_some r).1⟩
mutual
theorem Dn.unhid : ∀ {v : V} {d : PyData}, Dn K (hid ps H) v d → Dn K H v d
  | _, _, .non => .non
  | _, _, .bl b => .bl b
  | _, _, .int i => .int i
  | _, _, .str x => .str x
  | _, _, .lst r a => .lst (rdh r) (DnA.unhid a)
  | _, _, .tup r a => .tup (r.elim (fun z => Or.inl (rdh z)) Or.inr) (DnA.unhid a)
  | _, _, .dic r a => .dic (rdh r) (DnA.unhid a)
theorem DnA.unhid : ∀ {vs : List V} {ds : List PyData}, DnA K (hid ps H) vs ds → DnA K H vs ds
  | _, _, .nil => .nil
  | _, _, .cons a b => .cons (Dn.unhid a) (DnA.unhid b)
end
end
def uIsB : R2 := fun x y H Q => ∃ a b : Bool, x = .bl a ∧ y = .bl b ∧ Q (.bl (decide (a = b))) H
theorem o_isb {X : Cx} : OpR X (compareOp .Is) uIsB := op_is_bl
theorem s_isb {a b : Bool} {H : Hp} {Q : VK} (q : Q (.bl (decide (a = b))) H) : uIsB (.bl a) (.bl b) H Q := ⟨a, b, rfl, rfl, q⟩
section
variable {K : PySem.W.Frag} {σ : L2.St} {H : Hp} {Q : VK} {p : Addr} {xs : List V} {X : Cx}
def uTuple (K : PySem.W.Frag) : List V → Hp → VK → Prop := fun xs H Q => ∃ p ys, xs = [.ref p] ∧ ((SqL K H p ys ∧ ∀ l, H l = none → Q (.ref l) (upd H l (.tup ys))) ∨ (SqT K H p ys ∧ Q (.ref p) H))
theorem c_tuple (hK : X.K = K) : CallR X (.type "tuple") (uTuple K) := hK ▸ call_tuple_of
theorem s_tuple (h : SqL K H p xs) (q : ∀ l H', H l = none → H' l = some (.tup xs) → Kp [] H H' → Q (.ref l) H') : uTuple K [.ref p] H Q := ⟨p, xs, rfl, Or.inl ⟨h, new_abs (R := fun l H' => Q (.ref l) H') q⟩⟩
theorem s_tupleT (h : H p = some (.tup xs)) (q : Q (.ref p) H) : uTuple K [.ref p] H Q := ⟨p, xs, rfl, Or.inr ⟨SqT.of h, q⟩⟩
theorem s_rev (h : H p = some (.lst xs)) (q : ∀ H', H' p = some (.lst xs.reverse) → Kp [p] H H' → Q .non H') : rReverse (.ref p) [] H Q := ⟨p, xs, rfl, rfl, h, put_abs h rfl (R := fun H' => Q .non H') q⟩
end
theorem ix_mem {xs : List V} {i : Int} (h0 : 0 ≤ i) (h1 : i < xs.length) : ∃ v, v ∈ xs ∧ atI xs i = some v := by
  obtain ⟨v, e1, e2⟩ := at_int h0 h1
  exact ⟨v, List.mem_of_getElem? e1, e2⟩
theorem natAbs_lt {i : Int} {n : Nat} (h1 : -(n : Int) < i) (h2 : i < n) : i.natAbs < n := by omega
theorem s_par {i j : Nat} {ta : TA} {D : Ends} {σ : L2.St} {H : Hp} (h : ta σ H fun vs H1 => ∃ u v, vs = [u, v] ∧ D.nx ((σ.set i (some u)).set j (some v)) H1) : tPar i j ta D σ H := h
theorem s_two {u v : V} {R : V → V → Prop} (q : R u v) : ∃ u' v', [u, v] = [u', v'] ∧ R u' v' := ⟨u, v, rfl, q⟩
theorem at_last {α : Type} {xs : List α} (h : xs ≠ []) : ∃ v, v ∈ xs ∧ atI xs (-1) = some v := by
  have hp := List.length_pos_iff.mpr h
  refine ⟨xs[xs.length - 1]'(by omega), List.getElem_mem _, ?_⟩
  unfold atI ixN
  rw [if_neg (by omega), if_pos (by omega)]
  have e : (-1 + (xs.length : Int)).toNat = xs.length - 1 := by omega
  simp [e]
end U

namespace U
open PySem L2 PySem.Spec PyProof.Rows
/-! a def whose last parameter has the default None -/
section
variable {P : Program} {w : World} {K : PySem.W.Frag} {mg : Str → Option Value} {base : Heap} {x ql : Str} {st : Stmt} {f : Addr} {fd : FuncData} {N ps : List Str} {k : Nat} {sp : Sp}
abbrev FunN (K : PySem.W.Frag) (x ql : Str) (st : Stmt) (f : Addr) (fd : FuncData) : Prop := FunD K x ql (defArgs st) (defBody st) (defScope st) [.non] [] f fd
theorem funN_okX (F : FunN K x ql st f fd) (S : FnScope N ps (defScope st)) (len : ∀ vs H Q E, sp vs H Q E → vs.length = ps.length)
    (hb : ∀ (cdv : Value) (A : Around) (outer : List Env) (s : Shared) (H : Hp) (vs : List V) (Q : VK) (E : XK), Room k (A.deeper (envOfC ql (defScope st) s.heap.objs.size f cdv)) → sp vs H Q E →
      ∃ t, PSs (cxOf (L2.CX P w) P w K mg base N ql (defScope st) f cdv A outer s H E) (defBody st) t ∧ t { nx := fun _ H' => Q .non H', rt := Q } (start N vs) H) : FnOk P w K mg base (L2.CX P w) (k + 1) f fd ps sp :=
  F.ok S len hb
theorem funN_full (F : FunN K x ql st f fd) (n : Nat) (hn : n = ps.length)
    (h : ∀ (T : Addr) (kV doc pm : Value) (an : Option Addr) (cdv ct : Value) (us its : List Value), us.length = n → its.length = 1 →
      ∃ k, bindArgs (PySem.W.fnOf x ql (defArgs st) (defBody st) (defScope st) (.ref T) kV doc pm an cdv ct) ⟨us, []⟩ = seqItems? (.ref T) >>= k ∧ k (some its.toArray) = pure (ps.zip (us ++ its.drop 1))) : Binds K fd ps [] := by
  obtain ⟨ds, v, b⟩ := F.binds1 (ps := ps) n 1 (by simp) (by simp [hn]) h
  cases v
  exact b
theorem funN_part (F : FunN K x ql st f fd) (n : Nat) (hn : n + 1 = ps.length)
    (h : ∀ (T : Addr) (kV doc pm : Value) (an : Option Addr) (cdv ct : Value) (us its : List Value), us.length = n → its.length = 1 →
      ∃ k, bindArgs (PySem.W.fnOf x ql (defArgs st) (defBody st) (defScope st) (.ref T) kV doc pm an cdv ct) ⟨us, []⟩ = seqItems? (.ref T) >>= k ∧ k (some its.toArray) = pure (ps.zip (us ++ its.drop 0))) : Binds K fd ps [.none] := by
  obtain ⟨ds, v, b⟩ := F.binds1 (ps := ps) n 0 (by simp) (by simp [hn]) h
  cases v with
  | cons a r =>
    cases r
    cases a
    exact b
theorem funN_mk {oc : Value} {od an : Option Addr} {osl : Array (Option Value)} {kV doc pm cdv ct : Value} {T : Addr} {oT : Obj} {nT : Nat} (l : K.lookup f = some ⟨oc, od, .func (PySem.W.fnOf x ql (defArgs st) (defBody st) (defScope st) (.ref T) kV doc pm an cdv ct), osl⟩)
    (c : PySem.W.codeIn K cdv ql = true) (k : PySem.W.keepIn K (.ref f) = true) (lT : K.lookup T = some oT) (dT : oT.data = .seq #[Value.none] nT) : FunN K x ql st f (PySem.W.fnOf x ql (defArgs st) (defBody st) (defScope st) (.ref T) kV doc pm an cdv ct) :=
  ⟨⟨oc, od, _, kV, doc, pm, an, cdv, ct, osl, rfl, l, c, Or.inr ⟨by simp, T, oT, [.none], nT, rfl, lT, dT, .cons rfl .nil⟩, Or.inl rfl⟩, k⟩
end
/-! a walk over a list or a tuple -/
section
variable {X : Cx} {K : PySem.W.Frag} {tg l : Expr} {tl : TE}
def iSeq (K : PySem.W.Frag) (tl : TE) : TI := fun σ H R => tl σ H fun x H1 => ∃ a, x = .ref a ∧ (((∃ xs, SqL K H1 a xs) ∧ R (Itl K a) H1) ∨ ((∃ xs, SqT K H1 a xs) ∧ R (Itt K a) H1))
theorem pi_seq (hK : X.K = K) (hl : PE X l tl) : PI X tg l (iSeq K tl) := by
  subst hK
  refine ⟨fun pins s σ H R I h => ?_⟩
  refine thn (hl.run pins s σ H _ I h) fun v s1 ⟨x, H1, I1, r1, q1⟩ => ?_
  obtain ⟨a, e, q1⟩ := q1
  subst e
  cases r1
  rcases q1 with ⟨⟨xs, hq⟩, q⟩ | ⟨⟨xs, hq⟩, q⟩
  · obtain ⟨its, rv, p, hz⟩ := I1.list hq
    refine wpAny_pyIter_list p.isList ?_
    refine ⟨s1.heap.objs.size, [s1.heap.objs.size], _, _, H1, rfl, I1.kept (t' := s1.toks) fun b o e => Heap.get?_push_of_some _ e, turn_list a _, ⟨_, Heap.get?_push_size _ rfl, rfl, rfl⟩, fun b hb => ?_, q⟩
    have e : b = s1.heap.objs.size := by simpa using hb
    subst e
    exact I1.fpOk (Nat.le_refl _) (I1.hok.fresh (Nat.le_refl _))
  · obtain ⟨its, rv, p, hz⟩ := I1.tuple hq
    refine wpAny_pyIter_tuple (show s1.heap.IsTuple a its.toArray from p) ?_
    refine ⟨s1.heap.objs.size, [s1.heap.objs.size], _, _, H1, rfl, I1.kept (t' := s1.toks) fun b o e => Heap.get?_push_of_some _ e, turn_tuple a _, ⟨_, Heap.get?_push_size _ rfl, rfl, rfl⟩, fun b hb => ?_, q⟩
    have e : b = s1.heap.objs.size := by simpa using hb
    subst e
    exact I1.fpOk (Nat.le_refl _) (I1.hok.fresh (Nat.le_refl _))
variable {σ : L2.St} {H : Hp} {R : It → Hp → Prop}
theorem s_iseq (h : tl σ H fun x H1 => ∃ a, x = .ref a ∧ (((∃ xs, SqL K H1 a xs) ∧ R (Itl K a) H1) ∨ ((∃ xs, SqT K H1 a xs) ∧ R (Itt K a) H1))) : iSeq K tl σ H R := h
theorem s_isqT {p : Addr} {xs : List V} {S L : Addr → Prop} (h : H p = some (.tup xs)) (q : S p) : ∃ a, V.ref p = .ref a ∧ (((∃ xs, SqL K H a xs) ∧ L a) ∨ ((∃ xs, SqT K H a xs) ∧ S a)) := ⟨p, rfl, Or.inr ⟨⟨xs, SqT.of h⟩, q⟩⟩
theorem s_isqL {p : Addr} {xs : List V} {S L : Addr → Prop} (h : H p = some (.lst xs)) (q : L p) : ∃ a, V.ref p = .ref a ∧ (((∃ xs, SqL K H a xs) ∧ L a) ∨ ((∃ xs, SqT K H a xs) ∧ S a)) := ⟨p, rfl, Or.inl ⟨⟨xs, SqL.of h⟩, q⟩⟩
theorem s_itup (h : tl σ H fun x H1 => ∃ a, x = .ref a ∧ (∃ xs, SqT K H1 a xs) ∧ R (Itt K a) H1) : iTup K tl σ H R := h
theorem s_itp {p : Addr} {xs : List V} {S : Addr → Prop} (h : H p = some (.tup xs)) (q : S p) : ∃ a, V.ref p = .ref a ∧ (∃ xs, SqT K H a xs) ∧ S a := ⟨p, rfl, ⟨xs, SqT.of h⟩, q⟩
end
/-! isinstance(x, (list, tuple)) -/
section
variable {X : Cx} {K : PySem.W.Frag} {H : Hp} {Q : VK}
theorem c_isiT (hK : X.K = K) : CallR X (.builtin "isinstance") (rIsiT K) := hK ▸ call_isiT
def Kd.isSeq : Kd → Bool | .lst => true | .tup => true | _ => false
theorem kb_seq (t : Kd) : PySem.W.kitAny K (.type t.nm) [.type "list", .type "tuple"] = some t.isSeq := by cases t <;> rfl
theorem s_isSeq {v : V} {t : Kd} {tp : Addr} (h : TyN H v t) (e : H tp = some (.tup [.ty "list", .ty "tuple"])) (q : Q (.bl t.isSeq) H) : rIsiT K [v, .ref tp] H Q :=
  ⟨v, tp, _, _, _, _, rfl, e, .cons (.ty _) (.cons (.ty _) .nil), h.ty, kb_seq t, q⟩
def uAbs : List V → Hp → VK → Prop := fun xs H Q => ∃ i, xs = [.int i] ∧ Q (.int (if i < 0 then -i else i)) H
theorem c_abs : CallR X (.builtin "abs") uAbs := call_abs
theorem s_abs {i : Int} (q : Q (.int (if i < 0 then -i else i)) H) : uAbs [.int i] H Q := ⟨i, rfl, q⟩
theorem bt_abs : bootBuiltins "abs" = some (.builtin "abs") := by decide +kernel
theorem bt_enumerate : bootBuiltins "enumerate" = some (.type "enumerate") := by decide +kernel
end
end U

namespace U
open PySem L2 PySem.Spec PyProof.Rows
/-! enumerate(t), t a tuple -/
def IteT (K : PySem.W.Frag) (a : Addr) : It :=
  ⟨fun i H => ∃ (xs : List V) (x : V), SqT K H a xs ∧ xs[i]? = some x, fun i H v H' => ∃ T x, v = .ref T ∧ H T = none ∧ H' = upd H T (.tup [.int (i : Nat), x]) ∧ ∀ xs, SqT K H a xs → xs[i]? = some x, fun i H => ∃ xs : List V, SqT K H a xs ∧ xs.length ≤ i⟩
theorem turn_enumT {P : Program} {w : World} {K : PySem.W.Frag} {elts : List Expr} {kk : Nat} {tpos : Pos} (a e it : Addr) :
    Turn P w K (.Tuple elts kk tpos) (IteT K a) [e, it] e (fun i h => (∃ old, IsEnum h e it ((i : Nat) : Int) old) ∧ h.IsTupleIter it a i ∧ e ≠ it) where
  mem := by simp
  obj := fun i h st b hb => by
    obtain ⟨⟨old, he⟩, ⟨o, ho, hc, hd⟩, _⟩ := st
    have e' : b = e ∨ b = it := by simpa using hb
    rcases e' with z | z
    · rw [z]; exact ⟨_, he, fun v q => nomatch q⟩
    · rw [z]; exact ⟨o, ho, fun v q => by rw [hd] at q; cases q⟩
  keep := fun i h h' st k => let ⟨⟨old, he⟩, hi, hne⟩ := st; ⟨⟨old, k e (by simp) _ he⟩, hi.at fun o q => k it (by simp) o q, hne⟩
  item := by
    intro X hP hw hK hc i pins s σ H E I hf st hg
    subst hP hw hK
    obtain ⟨⟨old, he⟩, hit, hne⟩ := st
    obtain ⟨xs, x, hq, hx⟩ := hg
    obtain ⟨its, rv, p, hz⟩ := I.tuple hq
    obtain ⟨u, hu, ru⟩ := rv.get hx
    have p' : s.heap.IsTuple a its.toArray := p
    have nai : a ≠ it := fun z => by
      subst z
      obtain ⟨o1, e1, c1, _⟩ := p'
      obtain ⟨o2, e2, c2, _⟩ := hit
      rw [e1] at e2; cases e2
      rw [c1] at c2; exact absurd c2 (by simp)
    have nae : a ≠ e := fun z => by
      subst z
      obtain ⟨o1, e1, c1, _⟩ := p'
      have he' := he
      unfold IsEnum at he'
      rw [e1] at he'
      cases he'
      exact absurd c1 (by simp)
    have hel : e < s.heap.objs.size := Heap.lt_size he
    have hil : it < s.heap.objs.size := by obtain ⟨_, q, _⟩ := hit; exact Heap.lt_size q
    have hi : i < its.toArray.size := by
      rw [List.size_toArray]
      exact (List.getElem?_eq_some_iff.mp hu).1
    refine wpAny_pyNext_enum_itemD (Draws.tuple (A := X.A.in1) (show X.A.in1.handled = none from I.ok.hd hc) it a nai its.toArray) he ⟨hit, p'⟩ hi hne (by simp; exact ⟨hne, nae.symm⟩) fun x' h' tk hP ho hst' hT hsz hk => ?_
    obtain ⟨hit', _⟩ := hst'
    have ex : x' = u := by
      have hP' : its.toArray[i]? = some x' := hP
      rw [List.getElem?_toArray, hu] at hP'
      exact (Option.some.inj hP').symm
    subst ex
    refine ⟨_, rfl, wpAny_letOwnedTupleGo_enum (s := { s with heap := h', toks := tk + 1 }) ho fun h'' he' sb => ?_⟩
    have hT2 : h''.get? s.heap.objs.size = some { cls := .type "tuple", data := .seq #[.int i tk, x'] } := (sb.2 _ (Nat.ne_of_gt hel)).trans hT
    have new : ObjOk X.prog X.w (upd H s.heap.objs.size (.tup [.int (i : Nat), x])) h'' s.heap.objs.size (.tup [.int (i : Nat), x]) :=
      ⟨by show 2 ≤ sizeLine; decide, [.int i tk, x'], .cons ⟨_, rfl⟩ (.cons ru .nil), ⟨_, hT2, rfl, _, rfl⟩⟩
    have I1 : Inv X pins σ (upd H s.heap.objs.size (.tup [.int (i : Nat), x])) { s with heap := h'', toks := tk + 1 } :=
      I.turnedNew (ch := [e, it]) (fun b ob hb q => (sb.2 b (fun z => hb (by simp [z]))).trans (hk b ob (fun z => hb (by simp [z])) (fun z => hb (by simp [z])) q)) hf (Nat.le_refl _) new
    refine ⟨.ref s.heap.objs.size, _, I1, rfl, ⟨_, x, rfl, I.hok.fresh (Nat.le_refl _), rfl, fun ys hy => by rw [I.tuple_inj hy hq]; exact hx⟩, ⟨⟨x', ?_⟩, hit'.at fun o q => (sb.2 it (Ne.symm hne)).trans q, hne⟩, fun b hb => ?_⟩
    · have e1 : ((i + 1 : Nat) : Int) = (i : Int) + 1 := by omega
      rw [e1]; exact he'
    · have hb' : b < s.heap.objs.size := by
        have e' : b = e ∨ b = it := by simpa using hb
        rcases e' with z | z
        · rw [z]; exact hel
        · rw [z]; exact hil
      rw [upd_ne (Nat.ne_of_lt hb')]
      exact (hf b hb).1
  done := by
    intro X hP hw hK hc i pins s σ H E I hf st hg
    subst hP hw hK
    obtain ⟨⟨old, he⟩, hit, hne⟩ := st
    obtain ⟨xs, hq, hx⟩ := hg
    obtain ⟨its, rv, p, hz⟩ := I.tuple hq
    obtain ⟨f0, f1, f2, f3, f4, f5⟩ := hf it (by simp)
    have hl := rv.length
    have p' : s.heap.IsTuple a its.toArray := p
    refine (?_ : wpAny (model X.prog X.w) X.A (pyNext (.ref e)) _ _ s)
    have hT : s.TypeIs (.ref e) "enumerate" := ⟨_, he, rfl⟩
    unfold pyNext
    refine wpAny_bind (wpAny_attempt (wpAny_callSpecial?_slot (name := Str.ofString "__next__") hT F.slot_enumerate_next
      (wpAny_call_entry F.slot_enumerate_next hT F.entry_enumerate_next ?_ (F.args_enumerate_next_1 _))))
    show wpAny _ _ (field (.ref e) 2 >>= _) _ _ _
    refine wpAny_bind (wpAny_field he rfl (x := .ref it) rfl ?_)
    refine wpAny_bind (wpAny_nextOf_tuple_end (I.ok.hd hc) hit p' (by simp; omega) fun h' x he' hx' => ?_)
    obtain ⟨o, ho, hc'⟩ := hx'
    refine wpAny_bind (wpAny_isInstance (T := "StopIteration") (b := true) ⟨o, ho, hc'⟩ isSubtype_stop ?_)
    exact wpAny_pure ⟨rfl, I.turned (t' := s.toks) (fun b o hb q => he' b o hb q) f0 f1 f3 f4 f5⟩
  self := fun A i s Q E st h => let ⟨⟨_, he⟩, _⟩ := st; wpAny_pyIter_enum he h
theorem meets_enum1 {v : Value} {o : Obj} {H : Heap → Prop} (B : Begins v o H) :
    Meets (Builtin.«enumerate.__new__» ⟨[.type "enumerate", v], []⟩) (fun _ R s => H s.heap ∧
      R (.ok (.ret (.ref (s.heap.push o).objs.size))) { s with heap := (s.heap.push o).push { cls := .type "enumerate", data := .fields #[.none, .bool false, .ref s.heap.objs.size, rawInt 0, .none, .none] } }) :=
  .of_wp fun prog w A R s h => by
    obtain ⟨hp, g, d, tk, os⟩ := s; obtain ⟨h1, h⟩ := h
    have hsub := sub_enumerate
    have q1 : ∀ {A' : Around} {E : Value → Shared → Prop} {Q : Value → Shared → Prop}, Q (.ref hp.objs.size) ⟨hp.push o, g, d, tk, os⟩ → wpAny (model prog w) A' (pyIter v) Q E ⟨hp, g, d, tk, os⟩ :=
      fun q => B.iter prog w _ _ ⟨hp, g, d, tk, os⟩ _ h1 q
    wp_walk using q1
    refine wpAny_stack_any fun st => wpAny_pure ?_
    split
    · rename_i c _ _ _ _ _
      cases (c == Value.type "enumerate")
      · wp_walk using q1
        exact ⟨_, rfl, h⟩
      · wp_walk using q1
        exact ⟨_, rfl, h⟩
    · wp_walk using q1
      exact ⟨_, rfl, h⟩
section
variable {prog : Program} {w : World} {A : Around} {E : Value → Shared → Prop} {s : Shared}
theorem enum_begins1 {v : Value} {o : Obj} {H : Heap → Prop} {Q : Value → Shared → Prop} (B : Begins v o H) (h1 : H s.heap)
    (h : ∀ h', IsEnum h' (s.heap.objs.size + 1) s.heap.objs.size 0 .none → h'.get? s.heap.objs.size = some o → h'.objs.size = s.heap.objs.size + 2 →
      (∀ b o, s.heap.get? b = some o → h'.get? b = some o) → Q (.ref (s.heap.objs.size + 1)) { s with heap := h' }) :
    wpAny (model prog w) A (call (.type "enumerate") [v]) Q E s := by
  refine callType_new F.called_enumerate (by decide) (F.typeCall_enumerate_1 _) (F.newCall_enumerate_1 _) (fun obj => F.args_object_init_2 obj _) F.entry_enumerate_new
    (meets_enum1 B) ⟨h1, ?_⟩
  have hz : (s.heap.push o).objs.size = s.heap.objs.size + 1 := Heap.size_push ..
  show _ ∧ _
  rw [hz]
  have he : IsEnum ((s.heap.push o).push { cls := .type "enumerate", data := .fields #[.none, .bool false, .ref s.heap.objs.size, rawInt 0, .none, .none] }) (s.heap.objs.size + 1) s.heap.objs.size 0 .none := by
    have := Heap.get?_push_size (s.heap.push o) (o := { cls := .type "enumerate", data := .fields #[.none, .bool false, .ref s.heap.objs.size, rawInt 0, .none, .none] }) rfl
    rw [hz] at this; exact this
  refine ⟨⟨_, he, rfl⟩, h _ he (Heap.get?_push_of_some _ (Heap.get?_push_size _ B.free)) (by rw [Heap.size_push, hz]) fun b o x => Heap.get?_push_of_some _ (Heap.get?_push_of_some _ x)⟩
end
def iEnumT (K : PySem.W.Frag) (ta : TA) : TI := fun σ H R => ta σ H fun vs H1 => ∃ a xs, vs = [.ref a] ∧ SqT K H1 a xs ∧ R (IteT K a) H1
theorem pi_enumT {X : Cx} {K : PySem.W.Frag} {e : Expr} {ta : TA} {p pos tpos : Pos} {elts : List Expr} {kk : Nat} (hK : X.K = K) (hg : Gl X "enumerate") (hm : X.mg "enumerate" = none) (ha : PA X [e] ta) (hs : starEach [e] X.env = [(false, eval e X.env)] := by rfl) :
    PI X (.Tuple elts kk tpos) (.Call (.Name "enumerate" p) [e] [] pos) (iEnumT K ta) := by
  subst hK
  refine ⟨fun pins s σ H R I h => ?_⟩
  refine Call_ (ld_blt I hg hm boot_enumerate (PyProof.Rows.callWith_type1 (thn (ha.run pos pins s σ H _ I h) fun us s1 ⟨vs, H1, I1, r1, q1⟩ => ?_) hs rfl))
  obtain ⟨a, xs, ex, hq, q⟩ := q1
  subst ex
  cases r1 with
  | cons r rr =>
    cases rr
    cases r
    obtain ⟨its, rv, p', hz⟩ := I1.tuple hq
    refine enum_begins1 (begins_tuple a its.toArray) (show s1.heap.IsTuple a its.toArray from p') fun h' he hit hsz hk => wpAny_pyIter_enum he ?_
    have I2 : Inv X pins σ H1 { s1 with heap := h' } := I1.kept (t' := s1.toks) hk
    refine ⟨s1.heap.objs.size + 1, [s1.heap.objs.size + 1, s1.heap.objs.size], _, _, H1, rfl, I2, turn_enumT a (s1.heap.objs.size + 1) s1.heap.objs.size, ⟨⟨.none, he⟩, ⟨_, hit, rfl, rfl⟩, Nat.succ_ne_self _⟩, fun b hb => ?_, q⟩
    have e' : b = s1.heap.objs.size + 1 ∨ b = s1.heap.objs.size := by simpa using hb
    have hle : s1.heap.objs.size ≤ b := by
      rcases e' with z | z
      · rw [z]; exact Nat.le_add_right _ _
      · rw [z]; exact Nat.le_refl _
    exact I1.fpOk hle (I1.hok.fresh hle)
theorem walk_enumT {K : PySem.W.Frag} {a : Addr} {xs : List V} : Walk (IteT K a) xs.length (fun H => SqT K H a xs) (YPair (fun i => some (.int (i : Nat))) (fun i => xs[i]?)) := by
  refine ⟨fun i _ hi q => ⟨xs, xs[i], q, by simp [hi]⟩, fun _ q => ⟨xs, q, Nat.le_refl _⟩, fun i H v H' _ q y => ?_⟩
  obtain ⟨T, x, h1, h2, h3, h4⟩ := y
  exact ⟨T, .int (i : Nat), x, h1, h2, h3, rfl, h4 xs q⟩
theorem pi_enumL {X : Cx} {K : PySem.W.Frag} {e : Expr} {ta : TA} {p pos tpos : Pos} {elts : List Expr} {kk : Nat} (hK : X.K = K) (hg : Gl X "enumerate") (hm : X.mg "enumerate" = none) (ha : PA X [e] ta) (hs : starEach [e] X.env = [(false, eval e X.env)] := by rfl) :
    PI X (.Tuple elts kk tpos) (.Call (.Name "enumerate" p) [e] [] pos) (iEnum K ta) := hK ▸ pi_enum hg hm ha hs
section
variable {K : PySem.W.Frag} {σ : L2.St} {H : Hp} {R : It → Hp → Prop} {ta : TA} {a : Addr} {xs : List V}
theorem s_ienT (h : ta σ H fun vs H1 => ∃ a xs, vs = [.ref a] ∧ SqT K H1 a xs ∧ R (IteT K a) H1) : iEnumT K ta σ H R := h
theorem s_ienL (h : ta σ H fun vs H1 => ∃ a xs, vs = [.ref a] ∧ SqL K H1 a xs ∧ R (Ite K a) H1) : iEnum K ta σ H R := h
theorem s_eT {S : Addr → Prop} (h : H a = some (.tup xs)) (q : S a) : ∃ a' xs', [V.ref a] = [.ref a'] ∧ SqT K H a' xs' ∧ S a' := ⟨a, xs, rfl, SqT.of h, q⟩
theorem s_eL {S : Addr → Prop} (h : H a = some (.lst xs)) (q : S a) : ∃ a' xs', [V.ref a] = [.ref a'] ∧ SqL K H a' xs' ∧ S a' := ⟨a, xs, rfl, SqL.of h, q⟩
end
/-! lists of texts -/
section
variable {K : PySem.W.Frag} {H : Hp} {Q : VK} {p : Addr} {zs : List Str} {z : Str}
theorem flat_strs (zs : List Str) : (zs.map V.str).all flatV = true := by
  rw [List.all_eq_true]
  intro x hx
  obtain ⟨y, _, rfl⟩ := List.mem_map.mp hx
  rfl
theorem eqV_str {a b : Str} : eqV (.str a) (.str b) = decide (a = b) := by
  first
    | (show decide (V.str a = V.str b) = _; exact U.dec_str)
    | rfl
    | simp [eqV]
theorem inV_strs : inV (.str z) (zs.map V.str) = decide (z ∈ zs) := by
  induction zs with
  | nil => rfl
  | cons y zs ih =>
    unfold inV at ih ⊢
    rw [List.map_cons, List.any_cons, ih, eqV_str]
    by_cases h : y = z
    · subst h; simp
    · simp [h, Ne.symm h]
theorem s_inS (h : SqL K H p (zs.map V.str)) (q : Q (.bl (decide (z ∈ zs))) H) : uIn K false (.str z) (.ref p) H Q := Or.inr ⟨p, _, rfl, Or.inl h, rfl, flat_strs zs, by rw [inV_strs]; exact q⟩
theorem s_ninS (h : SqL K H p (zs.map V.str)) (q : Q (.bl (!decide (z ∈ zs))) H) : uIn K true (.str z) (.ref p) H Q := Or.inr ⟨p, _, rfl, Or.inl h, rfl, flat_strs zs, by rw [inV_strs]; exact q⟩
theorem s_inT (h : SqT K H p (zs.map V.str)) (q : Q (.bl (decide (z ∈ zs))) H) : uIn K false (.str z) (.ref p) H Q := Or.inr ⟨p, _, rfl, Or.inr h, rfl, flat_strs zs, by rw [inV_strs]; exact q⟩
theorem s_ninT (h : SqT K H p (zs.map V.str)) (q : Q (.bl (!decide (z ∈ zs))) H) : uIn K true (.str z) (.ref p) H Q := Or.inr ⟨p, _, rfl, Or.inr h, rfl, flat_strs zs, by rw [inV_strs]; exact q⟩
theorem mt_ix {X : Cx} (hK : X.K = K) : MtR X "list.index" (rIndex K) := hK ▸ mt_index
theorem s_indexS {j : Nat} (h : SqL K H p (zs.map V.str)) (e : zs[j]? = some z) (nd : zs.Nodup) (q : Q (.int j) H) : rIndex K (.ref p) [.str z] H Q := by
  refine ⟨p, _, .str z, j, .str z, rfl, rfl, h, rfl, flat_strs zs, by rw [List.getElem?_map, e]; rfl, by rw [eqV_str]; simp, fun m z' hm hz' => ?_, q⟩
  rw [List.getElem?_map] at hz'
  obtain ⟨y, ey, rfl⟩ := Option.map_eq_some_iff.mp hz'
  rw [eqV_str]
  refine decide_eq_false fun hy => ?_
  subst hy
  have := (List.getElem?_inj (List.getElem?_eq_some_iff.mp ey).1 nd).mp (ey.trans e.symm)
  omega
end
end U

namespace U
open PySem L2 PySem.Spec PyProof.Rows
section
variable {K : PySem.W.Frag} {σ : L2.St} {H : Hp} {a : Addr} {vs : List V} {g : TG} {tb : TS} {D : Ends}
/-- for x in a list or a tuple -/
theorem for_sq (e : H a = some (.lst vs) ∨ H a = some (.tup vs)) (Pv : Nat → L2.St → Hp → Prop) (h0 : Pv 0 σ H) (hG : ∀ i σ' H', Pv i σ' H' → ∀ o, H a = some o → H' a = some o)
    (hs : ∀ i x σ' H', vs[i]? = some x → Pv i σ' H' → g x σ' H' fun σ2 H2 => tb { D with nx := Pv (i + 1), ct := Pv (i + 1), bk := D.nx } σ2 H2) (hd : ∀ σ' H', Pv vs.length σ' H' → D.nx σ' H') :
    ∃ a', V.ref a = .ref a' ∧ (((∃ xs, SqL K H a' xs) ∧ ∃ W : Nat → Nat → L2.St → Hp → Prop, (∃ m, W 0 m σ H) ∧ ∀ i m σ H, W i m σ H →
      ((Itl K a').stop i H ∧ D.nx σ H) ∨ ((Itl K a').go i H ∧ ∃ N : L2.St → Hp → Prop, (∀ σ' H', N σ' H' → ∃ m', m' < m ∧ W (i + 1) m' σ' H') ∧ ∀ x H', (Itl K a').yld i H x H' → g x σ H' fun σ2 H2 => tb { D with nx := N, ct := N, bk := D.nx } σ2 H2)) ∨
      ((∃ xs, SqT K H a' xs) ∧ ∃ W : Nat → Nat → L2.St → Hp → Prop, (∃ m, W 0 m σ H) ∧ ∀ i m σ H, W i m σ H →
      ((Itt K a').stop i H ∧ D.nx σ H) ∨ ((Itt K a').go i H ∧ ∃ N : L2.St → Hp → Prop, (∀ σ' H', N σ' H' → ∃ m', m' < m ∧ W (i + 1) m' σ' H') ∧ ∀ x H', (Itt K a').yld i H x H' → g x σ H' fun σ2 H2 => tb { D with nx := N, ct := N, bk := D.nx } σ2 H2))) := by
  refine ⟨a, rfl, ?_⟩
  rcases e with e | e
  · refine Or.inl ⟨⟨vs, SqL.of e⟩, for_it (walk_list (xs := vs)) Pv h0 (fun i σ' H' _ p => SqL.of (hG i σ' H' p _ e)) (fun i x σ' H1 H2 hi p y => ?_) hd⟩
    obtain ⟨rfl, ex⟩ := y
    exact hs i x σ' H2 ex p
  · refine Or.inr ⟨⟨vs, SqT.of e⟩, for_it (walk_tup (xs := vs)) Pv h0 (fun i σ' H' _ p => SqT.of (hG i σ' H' p _ e)) (fun i x σ' H1 H2 hi p y => ?_) hd⟩
    obtain ⟨rfl, ex⟩ := y
    exact hs i x σ' H2 ex p
theorem for_L (e : H a = some (.lst vs)) (Pv : Nat → L2.St → Hp → Prop) (h0 : Pv 0 σ H) (hG : ∀ i σ' H', Pv i σ' H' → ∀ o, H a = some o → H' a = some o)
    (hs : ∀ i x σ' H', vs[i]? = some x → Pv i σ' H' → g x σ' H' fun σ2 H2 => tb { D with nx := Pv (i + 1), ct := Pv (i + 1), bk := D.nx } σ2 H2) (hd : ∀ σ' H', Pv vs.length σ' H' → D.nx σ' H') :
    ∃ W : Nat → Nat → L2.St → Hp → Prop, (∃ m, W 0 m σ H) ∧ ∀ i m σ H, W i m σ H →
      ((Itl K a).stop i H ∧ D.nx σ H) ∨ ((Itl K a).go i H ∧ ∃ N : L2.St → Hp → Prop, (∀ σ' H', N σ' H' → ∃ m', m' < m ∧ W (i + 1) m' σ' H') ∧ ∀ x H', (Itl K a).yld i H x H' → g x σ H' fun σ2 H2 => tb { D with nx := N, ct := N, bk := D.nx } σ2 H2) :=
  for_it (walk_list (xs := vs)) Pv h0 (fun i σ' H' _ p => SqL.of (hG i σ' H' p _ e)) (fun i x σ' H1 H2 hi p y => by
    obtain ⟨rfl, ex⟩ := y
    exact hs i x σ' H2 ex p) hd
/-- for j, x in enumerate(tuple): the pair T is new -/
theorem for_eT (e : H a = some (.tup vs)) (Pv : Nat → L2.St → Hp → Prop) (h0 : Pv 0 σ H) (hG : ∀ i σ' H', Pv i σ' H' → ∀ xs, H a = some (.tup xs) → H' a = some (.tup xs))
    (hs : ∀ i x σ' H' T H2, vs[i]? = some x → Pv i σ' H' → H' T = none → H2 T = some (.tup [.int (i : Nat), x]) → Kp [] H' H2 → g (.ref T) σ' H2 fun σ2 H3 => tb { D with nx := Pv (i + 1), ct := Pv (i + 1), bk := D.nx } σ2 H3) (hd : ∀ σ' H', Pv vs.length σ' H' → D.nx σ' H') :
    ∃ W : Nat → Nat → L2.St → Hp → Prop, (∃ m, W 0 m σ H) ∧ ∀ i m σ H, W i m σ H →
      ((IteT K a).stop i H ∧ D.nx σ H) ∨ ((IteT K a).go i H ∧ ∃ N : L2.St → Hp → Prop, (∀ σ' H', N σ' H' → ∃ m', m' < m ∧ W (i + 1) m' σ' H') ∧ ∀ x H', (IteT K a).yld i H x H' → g x σ H' fun σ2 H2 => tb { D with nx := N, ct := N, bk := D.nx } σ2 H2) :=
  for_it (walk_enumT (xs := vs)) Pv h0 (fun i σ' H' _ p => SqT.of (hG i σ' H' p _ e)) (fun i x σ' H1 H2 hi p y => by
    obtain ⟨T, x1, x2, rfl, f, rfl, e1, e2⟩ := y
    cases Option.some.inj e1
    exact hs i x2 σ' H1 T _ e2 p f upd_same (Kp.refl.new f)) hd
theorem for_eL (e : H a = some (.lst vs)) (Pv : Nat → L2.St → Hp → Prop) (h0 : Pv 0 σ H) (hG : ∀ i σ' H', Pv i σ' H' → ∀ o, H a = some o → H' a = some o)
    (hs : ∀ i x σ' H' T H2, vs[i]? = some x → Pv i σ' H' → H' T = none → H2 T = some (.tup [.int (i : Nat), x]) → Kp [] H' H2 → g (.ref T) σ' H2 fun σ2 H3 => tb { D with nx := Pv (i + 1), ct := Pv (i + 1), bk := D.nx } σ2 H3) (hd : ∀ σ' H', Pv vs.length σ' H' → D.nx σ' H') :
    ∃ W : Nat → Nat → L2.St → Hp → Prop, (∃ m, W 0 m σ H) ∧ ∀ i m σ H, W i m σ H →
      ((Ite K a).stop i H ∧ D.nx σ H) ∨ ((Ite K a).go i H ∧ ∃ N : L2.St → Hp → Prop, (∀ σ' H', N σ' H' → ∃ m', m' < m ∧ W (i + 1) m' σ' H') ∧ ∀ x H', (Ite K a).yld i H x H' → g x σ H' fun σ2 H2 => tb { D with nx := N, ct := N, bk := D.nx } σ2 H2) :=
  for_it (walk_enum (xs := vs)) Pv h0 (fun i σ' H' _ p => SqL.of (hG i σ' H' p _ e)) (fun i x σ' H1 H2 hi p y => by
    obtain ⟨T, x1, x2, rfl, f, rfl, e1, e2⟩ := y
    cases Option.some.inj e1
    exact hs i x2 σ' H1 T _ e2 p f upd_same (Kp.refl.new f)) hd
variable {tt : TT} {te : TE} {ns : List Nat} {A : Addr} {Qd : Hp → Prop} {Pv : Nat → List V → Hp → Prop}
/-- a comprehension over a tuple / a list -/
theorem lc_T (e : H a = some (.tup vs)) (hA : H A = none) (Pv : Nat → List V → Hp → Prop) (h0 : ∀ H', H' A = some (.lst []) → Kp [] H H' → Pv 0 [] H') (hG : ∀ i acc H', Pv i acc H' → ∀ xs, H a = some (.tup xs) → H' a = some (.tup xs))
    (hs : ∀ i x acc H', vs[i]? = some x → H' A = some (.lst acc) → Pv i acc H' → g x (wipe σ ns) H' fun σ2 H2 => wipe σ2 ns = wipe σ ns ∧ tt σ2 H2 fun b H3 =>
      if b = true then te σ2 H3 fun y H4 => ∃ acc, H4 A = some (.lst acc) ∧ acc.length < sizeLine ∧ PvD A Pv (i + 1) (upd H4 A (.lst (acc ++ [y]))) else PvD A Pv (i + 1) H3) (hd : ∀ acc H', H' A = some (.lst acc) → Pv vs.length acc H' → Qd H') :
    ∃ W : Nat → Nat → Hp → Prop, (∃ m, W 0 m (upd H A (.lst []))) ∧ ∀ i m H, W i m H →
      ((Itt K a).stop i H ∧ Qd H) ∨ ((Itt K a).go i H ∧ ∃ Nx : Hp → Prop, (∀ H', Nx H' → ∃ m', m' < m ∧ W (i + 1) m' H') ∧ ∀ x H', (Itt K a).yld i H x H' → g x (wipe σ ns) H' fun σ2 H2 => wipe σ2 ns = wipe σ ns ∧ tt σ2 H2 fun b H3 =>
        if b = true then te σ2 H3 fun y H4 => ∃ acc, H4 A = some (.lst acc) ∧ acc.length < sizeLine ∧ Nx (upd H4 A (.lst (acc ++ [y]))) else Nx H3) :=
  lc_it (walk_tup (xs := vs)) (PvD A Pv) (PvD.begin hA h0) (fun i H' _ p => by
    obtain ⟨acc, _, p⟩ := p
    exact SqT.of (hG i acc H' p _ e)) (fun i x H1 H2 hi p y => by
    obtain ⟨rfl, ex⟩ := y
    obtain ⟨acc, ea, p⟩ := p
    exact hs i x acc H2 ex ea p) (fun H' p => by
    obtain ⟨acc, ea, p⟩ := p
    exact hd acc H' ea p)
theorem lc_L (e : H a = some (.lst vs)) (hA : H A = none) (Pv : Nat → List V → Hp → Prop) (h0 : ∀ H', H' A = some (.lst []) → Kp [] H H' → Pv 0 [] H') (hG : ∀ i acc H', Pv i acc H' → ∀ o, H a = some o → H' a = some o)
    (hs : ∀ i x acc H', vs[i]? = some x → H' A = some (.lst acc) → Pv i acc H' → g x (wipe σ ns) H' fun σ2 H2 => wipe σ2 ns = wipe σ ns ∧ tt σ2 H2 fun b H3 =>
      if b = true then te σ2 H3 fun y H4 => ∃ acc, H4 A = some (.lst acc) ∧ acc.length < sizeLine ∧ PvD A Pv (i + 1) (upd H4 A (.lst (acc ++ [y]))) else PvD A Pv (i + 1) H3) (hd : ∀ acc H', H' A = some (.lst acc) → Pv vs.length acc H' → Qd H') :
    ∃ W : Nat → Nat → Hp → Prop, (∃ m, W 0 m (upd H A (.lst []))) ∧ ∀ i m H, W i m H →
      ((Itl K a).stop i H ∧ Qd H) ∨ ((Itl K a).go i H ∧ ∃ Nx : Hp → Prop, (∀ H', Nx H' → ∃ m', m' < m ∧ W (i + 1) m' H') ∧ ∀ x H', (Itl K a).yld i H x H' → g x (wipe σ ns) H' fun σ2 H2 => wipe σ2 ns = wipe σ ns ∧ tt σ2 H2 fun b H3 =>
        if b = true then te σ2 H3 fun y H4 => ∃ acc, H4 A = some (.lst acc) ∧ acc.length < sizeLine ∧ Nx (upd H4 A (.lst (acc ++ [y]))) else Nx H3) :=
  lc_it (walk_list (xs := vs)) (PvD A Pv) (PvD.begin hA h0) (fun i H' _ p => by
    obtain ⟨acc, _, p⟩ := p
    exact SqL.of (hG i acc H' p _ e)) (fun i x H1 H2 hi p y => by
    obtain ⟨rfl, ex⟩ := y
    obtain ⟨acc, ea, p⟩ := p
    exact hs i x acc H2 ex ea p) (fun H' p => by
    obtain ⟨acc, ea, p⟩ := p
    exact hd acc H' ea p)
theorem lc_eL (e : H a = some (.lst vs)) (hA : H A = none) (Pv : Nat → List V → Hp → Prop) (h0 : ∀ H', H' A = some (.lst []) → Kp [] H H' → Pv 0 [] H') (hG : ∀ i acc H', Pv i acc H' → ∀ o, H a = some o → H' a = some o)
    (hs : ∀ i x acc H' T H2, vs[i]? = some x → H' A = some (.lst acc) → Pv i acc H' → H' T = none → H2 T = some (.tup [.int (i : Nat), x]) → Kp [] H' H2 → g (.ref T) (wipe σ ns) H2 fun σ2 H2 => wipe σ2 ns = wipe σ ns ∧ tt σ2 H2 fun b H3 =>
      if b = true then te σ2 H3 fun y H4 => ∃ acc, H4 A = some (.lst acc) ∧ acc.length < sizeLine ∧ PvD A Pv (i + 1) (upd H4 A (.lst (acc ++ [y]))) else PvD A Pv (i + 1) H3) (hd : ∀ acc H', H' A = some (.lst acc) → Pv vs.length acc H' → Qd H') :
    ∃ W : Nat → Nat → Hp → Prop, (∃ m, W 0 m (upd H A (.lst []))) ∧ ∀ i m H, W i m H →
      ((Ite K a).stop i H ∧ Qd H) ∨ ((Ite K a).go i H ∧ ∃ Nx : Hp → Prop, (∀ H', Nx H' → ∃ m', m' < m ∧ W (i + 1) m' H') ∧ ∀ x H', (Ite K a).yld i H x H' → g x (wipe σ ns) H' fun σ2 H2 => wipe σ2 ns = wipe σ ns ∧ tt σ2 H2 fun b H3 =>
        if b = true then te σ2 H3 fun y H4 => ∃ acc, H4 A = some (.lst acc) ∧ acc.length < sizeLine ∧ Nx (upd H4 A (.lst (acc ++ [y]))) else Nx H3) :=
  lc_it (walk_enum (xs := vs)) (PvD A Pv) (PvD.begin hA h0) (fun i H' _ p => by
    obtain ⟨acc, _, p⟩ := p
    exact SqL.of (hG i acc H' p _ e)) (fun i x H1 H2 hi p y => by
    obtain ⟨T, x1, x2, rfl, f, rfl, e1, e2⟩ := y
    cases Option.some.inj e1
    obtain ⟨acc, ea, p⟩ := p
    exact hs i x2 acc H1 T _ e2 ea p f upd_same (Kp.refl.new f)) (fun H' p => by
    obtain ⟨acc, ea, p⟩ := p
    exact hd acc H' ea p)
/-- in range(n) -/
theorem lc_R {lo : Int} {n : Nat} (hA : H A = none) (Pv : Nat → List V → Hp → Prop) (h0 : ∀ H', H' A = some (.lst []) → Kp [] H H' → Pv 0 [] H')
    (hs : ∀ i acc H', i < n → H' A = some (.lst acc) → Pv i acc H' → g (.int (lo + i)) (wipe σ ns) H' fun σ2 H2 => wipe σ2 ns = wipe σ ns ∧ tt σ2 H2 fun b H3 =>
      if b = true then te σ2 H3 fun y H4 => ∃ acc, H4 A = some (.lst acc) ∧ acc.length < sizeLine ∧ PvD A Pv (i + 1) (upd H4 A (.lst (acc ++ [y]))) else PvD A Pv (i + 1) H3) (hd : ∀ acc H', H' A = some (.lst acc) → Pv n acc H' → Qd H') :
    ∃ W : Nat → Nat → Hp → Prop, (∃ m, W 0 m (upd H A (.lst []))) ∧ ∀ i m H, W i m H →
      ((Itr lo n).stop i H ∧ Qd H) ∨ ((Itr lo n).go i H ∧ ∃ Nx : Hp → Prop, (∀ H', Nx H' → ∃ m', m' < m ∧ W (i + 1) m' H') ∧ ∀ x H', (Itr lo n).yld i H x H' → g x (wipe σ ns) H' fun σ2 H2 => wipe σ2 ns = wipe σ ns ∧ tt σ2 H2 fun b H3 =>
        if b = true then te σ2 H3 fun y H4 => ∃ acc, H4 A = some (.lst acc) ∧ acc.length < sizeLine ∧ Nx (upd H4 A (.lst (acc ++ [y]))) else Nx H3) :=
  lc_it walk_range (PvD A Pv) (PvD.begin hA h0) (fun _ _ _ _ => trivial) (fun i x H1 H2 hi p y => by
    obtain ⟨rfl, rfl⟩ := y
    obtain ⟨acc, ea, p⟩ := p
    exact hs i acc H2 hi ea p) (fun H' p => by
    obtain ⟨acc, ea, p⟩ := p
    exact hd acc H' ea p)
theorem for_R {lo : Int} {n : Nat} (Pv : Nat → L2.St → Hp → Prop) (h0 : Pv 0 σ H)
    (hs : ∀ i σ' H', i < n → Pv i σ' H' → g (.int (lo + i)) σ' H' fun σ2 H2 => tb { D with nx := Pv (i + 1), ct := Pv (i + 1), bk := D.nx } σ2 H2) (hd : ∀ σ' H', Pv n σ' H' → D.nx σ' H') :
    ∃ W : Nat → Nat → L2.St → Hp → Prop, (∃ m, W 0 m σ H) ∧ ∀ i m σ H, W i m σ H →
      ((Itr lo n).stop i H ∧ D.nx σ H) ∨ ((Itr lo n).go i H ∧ ∃ N : L2.St → Hp → Prop, (∀ σ' H', N σ' H' → ∃ m', m' < m ∧ W (i + 1) m' σ' H') ∧ ∀ x H', (Itr lo n).yld i H x H' → g x σ H' fun σ2 H2 => tb { D with nx := N, ct := N, bk := D.nx } σ2 H2) :=
  for_it walk_range Pv h0 (fun _ _ _ _ _ => trivial) (fun i x σ' H1 H2 hi p y => by
    obtain ⟨rfl, rfl⟩ := y
    exact hs i σ' H2 hi p) hd
end
theorem pg_tupK {X : Cx} {K : PySem.W.Frag} {es : List Expr} {k n : Nat} {t : TGs} {pos : Pos} (hK : X.K = K) (hc : X.calm = true) (h : PGs X es t)
    (hn : (assignEach es X.env).length = n := by rfl) (hst : (assignEach es X.env).findIdx? (·.1) = none := by rfl) : PG X (.Tuple es k pos) (gTup K n t) := hK ▸ pg_tup hc h hn hst
theorem s_nameR {σ τ : L2.St} {H : Hp} {i : Nat} {v : V} {R : L2.St → Hp → Prop} (e : σ.set i (some v) = τ) (h : R τ H) : gName i v σ H R := by subst e; exact h
/-! rows: things that stand for tuples -/
inductive Rw (H : Hp) : List V → List (List V) → Prop
  | nil : Rw H [] []
  | cons {u : Addr} {r : List V} {vs : List V} {rs : List (List V)} : H u = some (.tup r) → Rw H vs rs → Rw H (.ref u :: vs) (r :: rs)
section
variable {H H1 : Hp} {vs ws : List V} {rs ss : List (List V)} {ps : List Addr}
theorem Rw.kp (h : Rw H vs rs) (k : Kp ps H H1) : Rw H1 vs rs := by
  induction h with
  | nil => exact .nil
  | cons e _ ih => exact .cons (k.tgt e) ih
theorem Rw.len (h : Rw H vs rs) : vs.length = rs.length := by
  induction h with
  | nil => rfl
  | cons e _ ih => simp [ih]
theorem Rw.app (h : Rw H vs rs) (g : Rw H ws ss) : Rw H (vs ++ ws) (rs ++ ss) := by
  induction h with
  | nil => exact g
  | cons e _ ih => exact .cons e ih
theorem Rw.one {u : Addr} {r : List V} (e : H u = some (.tup r)) : Rw H [.ref u] [r] := .cons e .nil
theorem Rw.at (h : Rw H vs rs) {i : Nat} {x : V} (e : vs[i]? = some x) : ∃ u r, x = .ref u ∧ rs[i]? = some r ∧ H u = some (.tup r) := by
  induction h generalizing i with
  | nil => simp at e
  | @cons u r vs rs e1 _ ih =>
    cases i with
    | zero => exact ⟨u, r, by simpa using e.symm, rfl, e1⟩
    | succ i => exact ih (by simpa using e)
theorem Rw.take (h : Rw H vs rs) (n : Nat) : Rw H (vs.take n) (rs.take n) := by
  induction h generalizing n with
  | nil => cases n <;> exact .nil
  | cons e _ ih => cases n with
    | zero => exact .nil
    | succ n => exact .cons e (ih n)
end
end U

namespace U
open PySem L2 PySem.Spec PyProof.Rows
theorem pg_lstK {X : Cx} {K : PySem.W.Frag} {es : List Expr} {k n : Nat} {t : TGs} {pos : Pos} (hK : X.K = K) (hc : X.calm = true) (h : PGs X es t)
    (hn : (assignEach es X.env).length = n := by rfl) (hst : (assignEach es X.env).findIdx? (·.1) = none := by rfl) : PG X (.Tuple es k pos) (gLst K n t) := hK ▸ pg_lst hc h hn hst
theorem s_glu {K : PySem.W.Frag} {σ : L2.St} {H : Hp} {p : Addr} {xs : List V} {R : L2.St → Hp → Prop} {t : TGs} {k : Nat} (h : H p = some (.lst xs)) (hl : xs.length = k) (q : t xs σ H R) : gLst K k t (.ref p) σ H R := ⟨p, xs, rfl, SqL.of h, hl, q⟩
theorem at_head {xs : List V} {v : V} : atI (xs ++ [v]) 0 = some (xs.head?.getD v) := by
  cases xs with
  | nil => rfl
  | cons x r =>
    unfold atI ixN
    rw [if_pos (by decide), if_pos (by simp; omega)]
    rfl
/-! texts by their signs -/
def S (cs : List Nat) : Str := ⟨cs.toArray⟩
theorem S_of (z : Str) : S z.cps.toList = z := by
  unfold S; simp
theorem S_len (cs : List Nat) : (S cs).length = cs.length := by simp [S, Str.length]
theorem S_app (a b : List Nat) : S a ++ S b = S (a ++ b) := Str.ext' (by simp [S, Str.cps_append])
theorem S_inj {a b : List Nat} (h : S a = S b) : a = b := by
  have := congrArg (fun z : Str => z.cps.toList) h
  simpa [S] using this
theorem S_cps (cs : List Nat) : (S cs).cps.toList = cs := by simp [S]
theorem S_cut (cs : List Nat) (lo hi : Option Int) : cutS (S cs) lo hi = S ((cs.drop (HT.sIx cs.length 0 lo)).take (HT.sIx cs.length cs.length hi - HT.sIx cs.length 0 lo)) := by
  unfold cutS
  rw [S_cps, S_len]
  rfl
theorem S_pre (cs : List Nat) {n : Int} (h0 : 0 ≤ n) : cutS (S cs) none (some n) = S (cs.take n.toNat) := by
  rw [S_cut]
  congr 1
  obtain ⟨k, rfl⟩ := Int.eq_ofNat_of_zero_le h0
  rw [HT.sIx_none, HT.sIx_nat, List.drop_zero]
  simp
theorem S_mid (cs : List Nat) {n m : Int} (h0 : 0 ≤ n) (h1 : 0 ≤ m) : cutS (S cs) (some n) (some m) = S ((cs.drop n.toNat).take (m.toNat - n.toNat)) := by
  rw [S_cut]
  congr 1
  obtain ⟨k, rfl⟩ := Int.eq_ofNat_of_zero_le h0
  obtain ⟨l, rfl⟩ := Int.eq_ofNat_of_zero_le h1
  rw [HT.sIx_nat, HT.sIx_nat]
  simp only [Int.toNat_natCast]
  apply List.ext_getElem?
  intro i
  simp only [List.getElem?_take, List.getElem?_drop]
  by_cases c : k + i < cs.length
  · have e1 : min k cs.length = k := by omega
    rw [e1]
    by_cases d : i < l - k
    · rw [if_pos (by omega), if_pos d]
    · rw [if_neg (by omega), if_neg d]
  · have e2 : cs[k + i]? = none := List.getElem?_eq_none (by omega)
    have e3 : cs[min k cs.length + i]? = none := List.getElem?_eq_none (by omega)
    rw [e2, e3]
    split <;> split <;> rfl
theorem S_join (cs : List Nat) : Txt.join (Str.ofString "") (cs.map fun c => ⟨#[c]⟩) = S cs := join_ones cs
theorem SS.S {cs : List Nat} {n : Nat} (h : cs.length ≤ n) (g : ∀ c ∈ cs, c < 1114112) : SS (S cs) n := ⟨by rw [S_len]; exact h, by rw [S_cps]; exact g⟩
theorem range_snoc {α : Type} (f : Nat → α) (i : Nat) : (List.range (i + 1)).map f = (List.range i).map f ++ [f i] := by
  rw [List.range_succ, List.map_append]
  rfl
theorem range_nodup {f : Nat → Str} {n : Nat} (h : ∀ i j, i < n → j < n → f i = f j → i = j) : ((List.range n).map f).Nodup := by
  rw [List.nodup_iff_pairwise_ne, List.pairwise_map]
  refine List.Pairwise.imp_of_mem ?_ (List.nodup_iff_pairwise_ne.mp List.nodup_range)
  intro a b ha hb hne e
  exact hne (h a b (List.mem_range.mp ha) (List.mem_range.mp hb) e)
section
variable {H : Hp} {ps : List Addr} {l : Addr} {vs : List V} {rs : List (List V)}
theorem hid_le : Kp [] (hid ps H) H := ⟨fun b o e _ => (hid_some e).1, fun b i ⟨o, e, r⟩ => ⟨o, (hid_some e).1, r⟩, fun b xs e => (hid_some e).1⟩
theorem hid_tup {b : Addr} {xs : List V} (e : H b = some (.tup xs)) (t : Th H l 0) : hid [l] H b = some (.tup xs) := hid_of e (by simpa using (Th.tup e).nk t rfl)
theorem Rw.hid (h : Rw H vs rs) (t : Th H l 0) : Rw (U.hid [l] H) vs rs := by
  induction h with
  | nil => exact .nil
  | cons e _ ih => exact .cons (hid_tup e t) ih
theorem cut_sub {lo hi : Option Int} {v : V} (h : v ∈ cutV vs lo hi) : v ∈ vs := List.mem_of_mem_drop (List.mem_of_mem_take h)
end
end U

namespace U
open PySem L2 PySem.Spec PyProof.Rows
/-! list(range(a, b)) -/
section
variable {X : Cx} {K : PySem.W.Frag} {H : Hp} {Q : VK} {p : Addr} {i j : Int}
def rngV (i : Int) (n : Nat) : List V := (List.range n).map fun k => V.int (i + (k : Nat))
def uRange : List V → Hp → VK → Prop := fun vs H Q => ∃ i j, vs = [V.int i, V.int j] ∧ ∀ p, H p = none → Q (.ref p) (upd H p (.rng i j))
theorem c_range2 : CallR X (.type "range") uRange := cr_range2
def uListR : List V → Hp → VK → Prop := fun xs H Q => ∃ p i j, xs = [.ref p] ∧ H p = some (.rng i j) ∧ -(2 ^ 30) ≤ i ∧ i < 2 ^ 30 ∧ -(2 ^ 30) ≤ j ∧ j < 2 ^ 30 ∧ (j - i).toNat ≤ 2 ^ 20 ∧ ∀ l, H l = none → Q (.ref l) (upd H l (.lst (rngV i (j - i).toNat)))
theorem c_listR (hc : X.calm = true) : CallR X (.type "list") uListR := by
  intro pins s σ H xs us Q I r h
  obtain ⟨p, i, j, rfl, hp, i0, i1, j0, j1, hn, q⟩ := h
  obtain ⟨u, eu, rx⟩ := vals1 r
  subst eu
  obtain rfl : u = Value.ref p := rx
  obtain ⟨t, u, v, e⟩ := (show ObjOk X.prog X.w H s.heap p (.rng i j) from I.hok p _ hp)
  have hsm : Builtin.Range.small i j 1 = true := small_one (by omega) (by omega) (by omega) (by omega)
  have hsz : Builtin.Range.rangeSize i j 1 = (j - i).toNat := by
    unfold Builtin.Range.rangeSize
    simp
    split <;> omega
  refine call_list_range (I.ok.hd hc) e hsm hsz (Nat.le_trans hn (by decide)) fun h' tk acc' c' hk hS hacc => ?_
  refine ⟨.ref s.heap.objs.size, upd H s.heap.objs.size (.lst (rngV i (j - i).toNat)), I.laid hk (Nat.le_refl _) (show ObjOk X.prog X.w _ _ _ (.lst (rngV i (j - i).toNat)) from ⟨?_, acc'.toList, c', ?_, ?_⟩), rfl, q _ (I.hok.fresh (Nat.le_refl _))⟩
  · rw [rngV, List.length_map, List.length_range]
    exact Nat.le_trans hn (by decide)
  · refine vals_of_at (by rw [rngV, List.length_map, List.length_range, Array.length_toList, hacc.1]) fun m x w h1 h2 => ?_
    obtain ⟨tk', ew⟩ := hacc.2 m w (by rw [← Array.getElem?_toList]; exact h2)
    rw [rngV, List.getElem?_map] at h1
    obtain ⟨m', e1, rfl⟩ := Option.map_eq_some_iff.mp h1
    have : m' = m := by
      have hm := (List.getElem?_eq_some_iff.mp e1)
      obtain ⟨h3, h4⟩ := hm
      rw [List.getElem_range] at h4
      exact h4.symm
    subst this
    refine ⟨tk', ?_⟩
    rw [ew]
    congr 1
    omega
  · simpa using hS
theorem s_rngN (q : ∀ p H', H p = none → H' p = some (.rng i j) → Kp [] H H' → Q (.ref p) H') : uRange [.int i, .int j] H Q := ⟨i, j, rfl, new_abs (R := fun p H' => Q (.ref p) H') q⟩
theorem s_listR (h : H p = some (.rng i j)) (b : -(2 ^ 30) ≤ i ∧ i < 2 ^ 30 ∧ -(2 ^ 30) ≤ j ∧ j < 2 ^ 30 ∧ (j - i).toNat ≤ 2 ^ 20) (q : ∀ l H', H l = none → H' l = some (.lst (rngV i (j - i).toNat)) → Kp [] H H' → Q (.ref l) H') : uListR [.ref p] H Q :=
  ⟨p, i, j, rfl, h, b.1, b.2.1, b.2.2.1, b.2.2.2.1, b.2.2.2.2, new_abs (R := fun p H' => Q (.ref p) H') q⟩
end
end U

namespace U
open PySem L2 PySem.Spec PyProof.Rows
/-! C(e, ..), the last one left out (its default is None) -/
section
variable {X : Cx} {k : Nat} {f C : Addr} {fd : FuncData} {ps : List Str} {sp : Sp} {W : WX} {x : Str} {p pos : Pos} {e : Expr} {es : List Expr} {t : TA}
variable {pi : List (Addr × Obj)} {σ : L2.St} {H : Hp} {s : Shared} {Q : VK} {us : List Value} {vs : List V}
def tNwD (C : Addr) (sp : Sp) (W : WX) (t : TA) : TE := fun σ H Q => t σ H fun vs H1 => NewK C sp (fun cls d H' => W cls d σ H') Q (vs ++ [.non]) H1
theorem run_nwD (M : Mk X.K C f) (F : FnOk X.prog X.w X.K X.mg X.base (L2.CX X.prog X.w) k f fd ps sp) (hr : Room (k + 1) X.A) (hb : Binds X.K fd ps [.none]) (tk : Takes X W) (I : Inv X pi σ H s) (r : Vals vs us)
    (h : NewK C sp (fun cls d H' => W cls d σ H') Q (vs ++ [.non]) H) : wpAny (model X.prog X.w) X.A (call (.ref C) us) (EP X pi σ Q) X.xe s := by
  have n1 : H (s.heap.objs.size + 1) = none := I.hok.fresh (Nat.le_succ _)
  have n0 : H s.heap.objs.size = none := I.hok.fresh (Nat.le_refl _)
  have hq := h (s.heap.objs.size + 1) s.heap.objs.size _ n1 upd_same ((Kp.refl.new (u := .own (s.heap.objs.size + 1)) n0).new (by rw [upd_ne (Nat.succ_ne_self _)]; exact n1))
  have I2 := Inv.made (C := C) I
  have r2 : Vals (V.ref (s.heap.objs.size + 1) :: (vs ++ [.non])) (Value.ref (s.heap.objs.size + 1) :: us ++ [.none]) := .cons rfl (r.append (.cons rfl .nil))
  have b : BindsTo _ fd ⟨Value.ref (s.heap.objs.size + 1) :: us, []⟩ (ps.zip (Value.ref (s.heap.objs.size + 1) :: us ++ [.none])) := hb _ (Value.ref (s.heap.objs.size + 1) :: us) I2.kIn (by rw [← r2.length]; exact F.len _ _ _ _ hq)
  refine wpAny_call (make_map (f := f) I.kIn M.makes M.init (beq_iff_eq.mp M.fn) (codeAny_mono (F.run _ X.stack _ _ ⟨Value.ref (s.heap.objs.size + 1) :: us, []⟩ (Value.ref (s.heap.objs.size + 1) :: us ++ [.none]) _ _ _ (hr.make C us [])
    (I2.env0.make C us []) b r2 hq) fun rr s' z => ?_))
  match rr, z with
  | .error er, z => exact tk er s' (XE.of_call I2 (fun _ _ _ y => y) z)
  | .ok (.ret u), z =>
    obtain ⟨v, H', I3, rv, ev, q3⟩ := I2.after z
    subst ev
    exact ⟨rv, ⟨V.ref (s.heap.objs.size + 1), H', I3, rfl, q3⟩⟩
  | .ok .next, z => exact z.elim
  | .ok .brk, z => exact z.elim
  | .ok .cont, z => exact z.elim
theorem pe_nwD (M : Mk X.K C f) (F : FnOk X.prog X.w X.K X.mg X.base (L2.CX X.prog X.w) k f fd ps sp) (hr : Room (k + 1) X.A) (gl : Gl X x) (hm : X.mg x = some (.ref C)) (hb : Binds X.K fd ps [.none]) (tk : Takes X W)
    (ha : PA X (e :: es) t) (h1 : (x == ("__debug__" : Str)) = false := by decide) (h2 : starEach (e :: es) X.env = (false, eval e X.env) :: starEach es X.env := by rfl) (h3 : (backTo pos (starEach es X.env)).any (·.1) = false := by rfl) :
    PE X (.Call (.Name x p) (e :: es) [] pos) (tNwD C sp W t) := by
  refine ⟨fun pi s σ H Q I h => wpAny_Call_Name_kw (ld_glob I gl hm ?_ h1)⟩
  refine PySem.W.callWith_K (h₀ := X.base) I.ok.mod.kin M.kp (thn (ha.run pos pi s σ H _ I h) ?_) h2 h3
  rintro us s1 ⟨vs, H1, I1, r, q⟩
  exact ⟨I1.kIn, run_nwD M F hr hb tk I1 r q⟩
theorem s_nwD {C : Addr} {sp : Sp} {W : WX} {t : TA} {σ : L2.St} {H : Hp} {Q : VK} (h : t σ H fun vs H1 => NewK C sp (fun cls d H' => W cls d σ H') Q (vs ++ [.non]) H1) : tNwD C sp W t σ H Q := h
end
theorem s_clear {H : Hp} {Q : VK} {p : Addr} {xs : List V} (h : H p = some (.lst xs)) (q : ∀ H', H' p = some (.lst []) → Kp [p] H H' → Q .non H') : rClear (.ref p) [] H Q := ⟨p, xs, rfl, rfl, h, put_abs h rfl (R := fun H' => Q .non H') q⟩
end U

namespace U
open PySem L2 PySem.Spec PyProof.Rows
/-! things that are data, by the places of their lists and dicts -/
section
variable {K : PySem.W.Frag} {H H1 H2 : Hp} {F G ps qs : List Addr} {a b p : Addr} {v y : V} {d e : PyData} {xs ys : List V} {ds : List PyData} {kvs : List (Key × V)}
def isTu : HO → Bool | .tup _ => true | _ => false
/-- the tuples, and what stands at F -/
def vis (F : List Addr) (H : Hp) : Hp := fun a => match H a with | none => none | some o => if isTu o = true ∨ a ∈ F then some o else none
theorem vis_some {o : HO} (h : vis F H a = some o) : H a = some o ∧ (isTu o = true ∨ a ∈ F) := by
  unfold vis at h
  cases e : H a with
  | none => rw [e] at h; cases h
  | some o' =>
    rw [e] at h
    simp only at h
    split at h
    · cases h; rename_i c; exact ⟨rfl, c⟩
    · cases h
theorem vis_of {o : HO} (h : H a = some o) (c : isTu o = true ∨ a ∈ F) : vis F H a = some o := by
  unfold vis
  rw [h]
  simp only
  rw [if_pos c]
theorem vis_tup (h : H a = some (.tup xs)) : vis F H a = some (.tup xs) := vis_of h (Or.inl rfl)
theorem ko_tu {o u : HO} (h : ko o = ko u) (c : isTu o = true) : isTu u = true := by
  cases o <;> simp [isTu] at c
  cases u <;> simp [ko, isTu] at h ⊢
theorem vis_kp (k : Kp ps H H1) (n : ∀ a ∈ ps, a ∉ F) : Kp [] (vis F H) (vis F H1) := ⟨fun b o e _ => by
  obtain ⟨e1, c⟩ := vis_some e
  rcases c with c | c
  · cases o <;> simp [isTu] at c
    exact vis_tup (k.tp b _ e1)
  · exact vis_of (k.get e1 fun m => n b m c) (Or.inr c), fun b i e => by
  obtain ⟨o, e, r⟩ := e
  obtain ⟨e1, c⟩ := vis_some e
  obtain ⟨o', e', r'⟩ := k.kd b i ⟨o, e1, r⟩
  exact ⟨o', vis_of e' (c.imp (fun z => ko_tu (r.trans r'.symm) z) id), r'⟩, fun b xs e => vis_tup (k.tp b xs (vis_some e).1)⟩
theorem vis_le : Kp [] (vis F H) H := ⟨fun b o e _ => (vis_some e).1, fun b i ⟨o, e, r⟩ => ⟨o, (vis_some e).1, r⟩, fun b xs e => (vis_some e).1⟩
theorem vis_mono (h : ∀ a ∈ F, a ∈ G) : Kp [] (vis F H) (vis G H) := ⟨fun b o e _ => by
  obtain ⟨e1, c⟩ := vis_some e
  exact vis_of e1 (c.imp id (h b)), fun b i ⟨o, e, r⟩ => by
  obtain ⟨e1, c⟩ := vis_some e
  exact ⟨o, vis_of e1 (c.imp id (h b)), r⟩, fun b xs e => vis_tup (vis_some e).1⟩
/-- a thing, its lists and dicts at F -/
inductive Od (K : PySem.W.Frag) (H : Hp) : V → PyData → List Addr → Prop
  | flat {v : V} {d : PyData} {F : List Addr} {kd : Kd} : Dn K (vis F H) v d → TyN H v kd → kd.isList = false → kd.isDict = false → Od K H v d F
  | lst {a : Addr} {xs : List V} {ds : List PyData} {F : List Addr} : H a = some (.lst xs) → a ∉ F → DnA K (vis F H) xs ds → Od K H (.ref a) (.list ds) (a :: F)
  | dic {a : Addr} {kvs : List (Key × V)} {ds : List PyData} {F : List Addr} : H a = some (.dK kvs) → a ∉ F → DnA K (vis F H) (kvs.map (·.2)) ds → Od K H (.ref a) (.dict ((kvs.map fun p => keyD p.1).zip ds)) (a :: F)
theorem TyN.kpt {kd : Kd} (h : TyN H v kd) (h1 : kd.isList = false) (h2 : kd.isDict = false) (k : Kp ps H H1) : TyN H1 v kd := by
  cases h with
  | non => exact .non
  | bl => exact .bl
  | int => exact .int
  | str => exact .str
  | lst e => cases h1
  | tup e => exact .tup (k.tp _ _ e)
  | dic e => cases h2
theorem Od.kpn (h : Od K H v d F) (k : Kp ps H H1) (n : ∀ a ∈ ps, a ∉ F) : Od K H1 v d F := by
  cases h with
  | flat a b c e => exact .flat (a.kp (vis_kp k n)) (b.kpt c e k) c e
  | lst a b c => exact .lst (k.get a fun m => n _ m List.mem_cons_self) b (c.kp (vis_kp k fun x m z => n x m (List.mem_cons_of_mem _ z)))
  | dic a b c => exact .dic (k.get a fun m => n _ m List.mem_cons_self) b (c.kp (vis_kp k fun x m z => n x m (List.mem_cons_of_mem _ z)))
theorem Od.kp (h : Od K H v d F) (k : Kp [] H H1) : Od K H1 v d F := h.kpn k (by simp)
theorem Od.dnv (h : Od K H v d F) : Dn K (vis F H) v d := by
  cases h with
  | flat a b c e => exact a
  | lst a b c => exact .lst (Or.inl (vis_of a (Or.inr List.mem_cons_self))) (c.kp (vis_mono fun x m => List.mem_cons_of_mem _ m))
  | dic a b c => exact .dic (Or.inl (vis_of a (Or.inr List.mem_cons_self))) (c.kp (vis_mono fun x m => List.mem_cons_of_mem _ m))
theorem Od.dn (h : Od K H v d F) : Dn K H v d := h.dnv.kp vis_le
theorem Od.ty (h : Od K H v d F) : ∃ kd, TyN H v kd := by
  cases h with
  | flat a b c e => exact ⟨_, b⟩
  | lst a b c => exact ⟨_, .lst a⟩
  | dic a b c => exact ⟨_, .dic a⟩
theorem Od.int {i : Int} : Od K H (.int i) (.int i) [] := .flat (.int _) .int rfl rfl
theorem Od.non : Od K H .non .none [] := .flat .non .non rfl rfl
theorem Od.bl {i : Bool} : Od K H (.bl i) (.bool i) [] := .flat (.bl _) .bl rfl rfl
theorem Od.str {i : Str} : Od K H (.str i) (.str i) [] := .flat (.str _) .str rfl rfl
theorem Od.tup (h : H a = some (.tup xs)) (g : DnA K (vis F H) xs ds) : Od K H (.ref a) (.tuple ds) F := .flat (.tup (SqT.of (vis_tup h)) g) (.tup h) rfl rfl
theorem DnA.app : ∀ {xs ys : List V} {ds es : List PyData}, DnA K H xs ds → DnA K H ys es → DnA K H (xs ++ ys) (ds ++ es)
  | _, _, _, _, .nil, h => h
  | _, _, _, _, .cons a b, h => .cons a (DnA.app b h)
theorem Od.more {dy : PyData} (e : H1 a = some (.lst (xs ++ [y]))) (n : a ∉ F) (c : DnA K (vis F H) xs ds) (k : Kp [a] H H1) (hy : ∀ H, Dn K H y dy) : Od K H1 (.ref a) (.list (ds ++ [dy])) (a :: F) :=
  .lst e n ((c.kp (vis_kp k (by simpa using n))).app (.cons (hy _) .nil))
/-- what repr may show -/
structure Bd (d : PyData) (n : Nat) : Prop where
  good : U.good d
  depth : d.depth ≤ 90
  sz : U.sz d ≤ n
theorem Bd.mono {n m : Nat} (h : Bd d n) (e : n ≤ m) : Bd d m := ⟨h.good, h.depth, Nat.le_trans h.sz e⟩
theorem Bd.sh {n : Nat} (h : Bd d n) (g : Dn K H v d) (e : n ≤ 16000000) : Sh K H v d := ⟨g, h.good, Nat.le_trans h.depth (by decide), Nat.le_trans h.sz e⟩
theorem good_app : ∀ {ds es : List PyData}, goodA ds → goodA es → goodA (ds ++ es)
  | [], _, _, h => h
  | _ :: _, _, ⟨a, b⟩, h => ⟨a, good_app b h⟩
theorem depth_app : ∀ (ds es : List PyData), PyData.depthAll (ds ++ es) = max (PyData.depthAll ds) (PyData.depthAll es)
  | [], es => by simp [PyData.depthAll]
  | d :: ds, es => by
    rw [List.cons_append, PyData.depthAll, PyData.depthAll, depth_app ds es]
    omega
theorem sz_app : ∀ (ds es : List PyData), szA (ds ++ es) = szA ds + szA es
  | [], es => by simp [szA]
  | d :: ds, es => by
    rw [List.cons_append, szA, szA, sz_app ds es]
    omega
theorem Bd.more {n m : Nat} (h : Bd (.list ds) n) (g : Bd e m) (z : e.depth ≤ 80) : Bd (.list (ds ++ [e])) (n + m + 2) := by
  obtain ⟨h1, h2, h3⟩ := h
  obtain ⟨g1, g2, g3⟩ := g
  refine ⟨good_app h1 ⟨g1, trivial⟩, ?_, ?_⟩
  · simp only [PyData.depth, depth_app, PyData.depthAll] at h2 ⊢
    omega
  · simp only [U.sz, sz_app, szA] at h3 ⊢
    omega
theorem Bd.int {i : Int} (h : i.natAbs < 10 ^ 100) : Bd (.int i) 102 := ⟨h, by simp [PyData.depth], by simp [U.sz]⟩
theorem Bd.non : Bd .none 4 := ⟨trivial, by simp [PyData.depth], by simp [U.sz]⟩
theorem Bd.bl {i : Bool} : Bd (.bool i) 5 := ⟨trivial, by simp [PyData.depth], by simp [U.sz]⟩
theorem Bd.str {z : Str} {n : Nat} (h : SS z n) : Bd (.str z) (10 * n + 2) := ⟨fun c hc => Nat.lt_trans (h.ok c hc) (by decide), by simp [PyData.depth], by have := h.len; simp only [U.sz]; omega⟩
end
end U

namespace U
open PySem L2 PySem.Spec PyProof.Rows
/-! range(n) as a value; whole numbers in lists -/
section
variable {X : Cx} {K : PySem.W.Frag} {H : Hp} {Q : VK} {p : Addr} {i j : Int} {ns : List Int}
def uRange1 : List V → Hp → VK → Prop := fun vs H Q => ∃ j, vs = [V.int j] ∧ ∀ p, H p = none → Q (.ref p) (upd H p (.rng 0 j))
theorem c_range1 : CallR X (.type "range") uRange1 := by
  intro pins s σ H vs us Q I r h
  obtain ⟨j, rfl, q⟩ := h
  obtain ⟨u1, rfl, rj⟩ := vals1 r
  obtain ⟨u, rfl⟩ := rj
  refine call_range_1 ⟨.ref s.heap.objs.size, upd H s.heap.objs.size (.rng 0 j), I.laid (t' := s.toks + 1 + 1) (fun b o e => Heap.get?_push_of_some _ e) (Nat.le_refl _) ?_, rfl, q _ (I.hok.fresh (Nat.le_refl _))⟩
  exact ⟨s.toks, u, s.toks + 1, Heap.get?_push_size _ rfl⟩
theorem s_rngN1 (q : ∀ p H', H p = none → H' p = some (.rng 0 j) → Kp [] H H' → Q (.ref p) H') : uRange1 [.int j] H Q := ⟨j, rfl, new_abs (R := fun p H' => Q (.ref p) H') q⟩
theorem flat_ints (ns : List Int) : (ns.map V.int).all flatV = true := by
  rw [List.all_eq_true]
  intro x hx
  obtain ⟨y, _, rfl⟩ := List.mem_map.mp hx
  rfl
theorem eqV_int {a b : Int} : eqV (.int a) (.int b) = decide (a = b) := by
  first
    | (show decide (V.int a = V.int b) = _; exact U.dec_int)
    | rfl
    | simp [eqV]
theorem inV_ints : inV (.int i) (ns.map V.int) = decide (i ∈ ns) := by
  induction ns with
  | nil => rfl
  | cons y zs ih =>
    unfold inV at ih ⊢
    rw [List.map_cons, List.any_cons, ih, eqV_int]
    by_cases h : y = i
    · subst h; simp
    · simp [h, Ne.symm h]
theorem s_inI (h : SqL K H p (ns.map V.int)) (q : Q (.bl (decide (i ∈ ns))) H) : uIn K false (.int i) (.ref p) H Q := Or.inr ⟨p, _, rfl, Or.inl h, rfl, flat_ints ns, by rw [inV_ints]; exact q⟩
theorem s_ninI (h : SqL K H p (ns.map V.int)) (q : Q (.bl (!decide (i ∈ ns))) H) : uIn K true (.int i) (.ref p) H Q := Or.inr ⟨p, _, rfl, Or.inl h, rfl, flat_ints ns, by rw [inV_ints]; exact q⟩
end
/-! a thing to which more may be added: an item to a list, an entry of one key to a dict -/
section
variable {K : PySem.W.Frag} {H H1 : Hp} {F ps : List Addr} {a : Addr} {kvs c : List (Key × V)} {ds es : List PyData} {key : Str} {v y : V} {d dv dy : PyData} {xs : List V} {n m : Nat}
def noKey (key : Str) (c : List (Key × V)) : Prop := (c.any fun kv => decide (kv.1 = (Sum.inr key : Key))) = false
theorem put_new (h : noKey key c) : putK c (Sum.inr key : Key) v = c ++ [(Sum.inr key, v)] := by
  unfold putK
  rw [if_neg (by rw [h]; exact Bool.false_ne_true)]
theorem put_old {w : V} (h : noKey key c) : putK (c ++ [((Sum.inr key : Key), w)]) (Sum.inr key : Key) v = c ++ [(Sum.inr key, v)] := by
  unfold putK
  rw [if_pos (by simp), List.map_append]
  congr 1
  · unfold noKey at h
    rw [List.any_eq_false] at h
    calc c.map _ = c.map id := List.map_congr_left fun kv hk => by
          have := h kv hk
          simp only [decide_eq_true_eq] at this
          rw [if_neg this]; rfl
      _ = c := List.map_id c
  · simp
inductive Ot (K : PySem.W.Frag) (H : Hp) (key : Str) : V → PyData → List Addr → Prop
  | od {v : V} {d : PyData} {F : List Addr} : Od K H v d F → (∀ a kvs, v = .ref a → H a = some (.dK kvs) → noKey key kvs) → Ot K H key v d F
  | put {a : Addr} {c : List (Key × V)} {ds : List PyData} {F : List Addr} {v : V} {dv : PyData} : H a = some (.dK (c ++ [(Sum.inr key, v)])) → noKey key c → a ∉ F → DnA K (vis F H) (c.map (·.2)) ds → (∀ H, Dn K H v dv) →
      Ot K H key (.ref a) (.dict (((c ++ [((Sum.inr key : Key), v)]).map fun p => keyD p.1).zip (ds ++ [dv]))) (a :: F)
theorem Ot.kpn (h : Ot K H key v d F) (k : Kp ps H H1) (n : ∀ a ∈ ps, a ∉ F) : Ot K H1 key v d F := by
  cases h with
  | od a b =>
    refine .od (a.kpn k n) fun x kvs e h1 => ?_
    subst e
    cases a with
    | flat z1 z2 z3 z4 =>
      cases z2 with
      | lst e => cases z3
      | dic e => cases z4
      | tup e => rw [k.tp _ _ e] at h1; cases h1
    | lst z1 z2 z3 => rw [k.get z1 fun m => n _ m List.mem_cons_self] at h1; cases h1
    | dic z1 z2 z3 =>
      rw [k.get z1 fun m => n _ m List.mem_cons_self] at h1
      cases h1
      exact b _ _ rfl z1
  | put a b c e f => exact .put (k.get a fun m => n _ m List.mem_cons_self) b c (e.kp (vis_kp k fun x m z => n x m (List.mem_cons_of_mem _ z))) f
theorem Ot.kp (h : Ot K H key v d F) (k : Kp [] H H1) : Ot K H1 key v d F := h.kpn k (by simp)
theorem Ot.dn (h : Ot K H key v d F) : Dn K H v d := by
  cases h with
  | od a b => exact a.dn
  | put a b c e f =>
    refine .dic (Or.inl a) ?_
    rw [List.map_append]
    exact (e.kp vis_le).app (.cons (f _) .nil)
theorem Ot.ty (h : Ot K H key v d F) : ∃ kd, TyN H v kd := by
  cases h with
  | od a b => exact a.ty
  | put a b c e f => exact ⟨_, .dic a⟩
theorem dna_len : ∀ {vs : List V} {ds : List PyData}, DnA K H vs ds → vs.length = ds.length
  | _, _, .nil => rfl
  | _, _, .cons _ b => by rw [List.length_cons, List.length_cons, dna_len b]
theorem sz_len : ∀ ds : List PyData, 2 * ds.length ≤ szA ds
  | [] => by simp [szA]
  | d :: ds => by
    have := sz_len ds
    rw [szA, List.length_cons]
    omega
theorem szK_len : ∀ ds : List (PyData × PyData), 4 * ds.length ≤ szK ds
  | [] => by simp [szK]
  | (k, d) :: ds => by
    have := szK_len ds
    rw [szK, List.length_cons]
    omega
theorem goodK_app : ∀ {ds es : List (PyData × PyData)}, goodK (ds ++ es) ↔ goodK ds ∧ goodK es
  | [], es => by simp [goodK]
  | (k, d) :: ds, es => by
    rw [List.cons_append, goodK, goodK, goodK_app (ds := ds) (es := es)]
    simp only [and_assoc]
theorem depthK_app : ∀ (ds es : List (PyData × PyData)), PyData.depthKv (ds ++ es) = max (PyData.depthKv ds) (PyData.depthKv es)
  | [], es => by simp [PyData.depthKv]
  | (k, d) :: ds, es => by
    rw [List.cons_append, PyData.depthKv, PyData.depthKv, depthK_app ds es]
    omega
theorem szK_app : ∀ (ds es : List (PyData × PyData)), szK (ds ++ es) = szK ds + szK es
  | [], es => by simp [szK]
  | (k, d) :: ds, es => by
    rw [List.cons_append, szK, szK, szK_app ds es]
    omega
theorem zip_snoc (hl : DnA K H (c.map (·.2)) ds) : ((c ++ [((Sum.inr key : Key), v)]).map fun p => keyD p.1).zip (ds ++ [dv]) = ((c.map fun p => keyD p.1).zip ds) ++ [(.str key, dv)] := by
  have e : ds.length = c.length := by
    have := dna_len hl
    rw [List.length_map] at this
    exact this.symm
  rw [List.map_append, List.zip_append (by rw [List.length_map, e])]
  rfl
theorem Bd.putK {l : List (PyData × PyData)} (h : Bd (.dict l) n) (g : Bd dy m) (z : dy.depth ≤ 80) (s : SS key 20) : Bd (.dict (l ++ [(.str key, dy)])) (n + m + 300) := by
  obtain ⟨h1, h2, h3⟩ := h
  obtain ⟨g1, g2, g3⟩ := g
  refine ⟨goodK_app.mpr ⟨h1, fun c hc => Nat.lt_trans (s.ok c hc) (by decide), g1, trivial⟩, ?_, ?_⟩
  · simp only [PyData.depth, depthK_app, PyData.depthKv] at h2 ⊢
    omega
  · have := s.len
    simp only [U.sz, szK_app, szK] at h3 ⊢
    omega
theorem Bd.dropK {l : List (PyData × PyData)} {x : PyData × PyData} (h : Bd (.dict (l ++ [x])) n) : Bd (.dict l) n := by
  obtain ⟨h1, h2, h3⟩ := h
  obtain ⟨x1, x2⟩ := x
  refine ⟨(goodK_app.mp h1).1, ?_, ?_⟩
  · simp only [PyData.depth, depthK_app, PyData.depthKv] at h2 ⊢
    omega
  · simp only [U.sz, szK_app, szK] at h3 ⊢
    omega
theorem Ot.cs (h : Ot K H key v d F) (s : SS key 20) : (∃ kd, TyN H v kd ∧ kd.isList = false ∧ kd.isDict = false) ∨
    (∃ a xs, v = .ref a ∧ a ∈ F ∧ H a = some (.lst xs) ∧ (∀ n, Bd d n → xs.length ≤ n) ∧ ∀ y dy H1, (∀ H, Dn K H y dy) → H1 a = some (.lst (xs ++ [y])) → Kp [a] H H1 → ∃ d', Ot K H1 key v d' F ∧ ∀ n m, Bd d n → Bd dy m → dy.depth ≤ 80 → Bd d' (n + m + 300)) ∨
    (∃ a kvs, v = .ref a ∧ a ∈ F ∧ H a = some (.dK kvs) ∧ (∀ n, Bd d n → kvs.length ≤ n) ∧ ∀ y dy H1, (∀ H, Dn K H y dy) → H1 a = some (.dK (L2.putK kvs (Sum.inr key : Key) y)) → Kp [a] H H1 → ∃ d', Ot K H1 key v d' F ∧ ∀ n m, Bd d n → Bd dy m → dy.depth ≤ 80 → Bd d' (n + m + 300)) := by
  cases h with
  | od a b =>
    cases a with
    | flat z1 z2 z3 z4 => exact Or.inl ⟨_, z2, z3, z4⟩
    | @lst a xs ds F z1 z2 z3 =>
      refine Or.inr (Or.inl ⟨a, xs, rfl, List.mem_cons_self, z1, fun n g => ?_, fun y dy H1 hy e k => ⟨_, .od (Od.more e z2 z3 k hy) (fun x kvs e1 e2 => ?_), fun n m g1 g2 g3 => (g1.more g2 g3).mono (by omega)⟩⟩)
      · have := sz_len ds
        have := g.sz
        simp only [U.sz] at this
        have := dna_len z3
        omega
      · cases e1
        rw [e] at e2
        cases e2
    | @dic a kvs ds F z1 z2 z3 =>
      refine Or.inr (Or.inr ⟨a, kvs, rfl, List.mem_cons_self, z1, fun n g => ?_, fun y dy H1 hy e k => ?_⟩)
      · have := szK_len ((kvs.map fun p => keyD p.1).zip ds)
        have := g.sz
        simp only [U.sz] at this
        have e := dna_len z3
        rw [List.length_map] at e
        have : ((kvs.map fun p => keyD p.1).zip ds).length = kvs.length := by rw [List.length_zip, List.length_map, ← e]; omega
        omega
      · have nk := b _ _ rfl z1
        rw [put_new nk] at e
        refine ⟨_, .put e nk z2 (z3.kp (vis_kp k (by simpa using z2))) hy, fun n m g1 g2 g3 => ?_⟩
        rw [zip_snoc z3]
        exact g1.putK g2 g3 s
  | @put a c ds F v dv z1 nk z2 z3 z4 =>
    refine Or.inr (Or.inr ⟨a, _, rfl, List.mem_cons_self, z1, fun n g => ?_, fun y dy H1 hy e k => ?_⟩)
    · rw [zip_snoc z3] at g
      have := szK_len ((c.map fun p => keyD p.1).zip ds ++ [(.str key, dv)])
      have := g.sz
      simp only [U.sz] at this
      have e := dna_len z3
      rw [List.length_map] at e
      have : ((c.map fun p => keyD p.1).zip ds).length = c.length := by rw [List.length_zip, List.length_map, ← e]; omega
      rw [List.length_append] at *
      simp only [List.length_cons, List.length_nil] at *
      omega
    · rw [put_old nk] at e
      refine ⟨_, .put e nk z2 (z3.kp (vis_kp k (by simpa using z2))) hy, fun n m g1 g2 g3 => ?_⟩
      rw [zip_snoc z3] at g1 ⊢
      exact g1.dropK.putK g2 g3 s
end
theorem s_slT {K : PySem.W.Frag} {H : Hp} {p : Addr} {xs ys : List V} {lo hi : Option Int} {Q : VK} (h : H p = some (.tup xs)) (ey : cutV xs lo hi = ys) (q : ∀ p' H', H' p' = some (.tup ys) → Kp [] H H' → Q (.ref p') H') : uSl K (.ref p) lo hi H Q := by
  subst ey
  refine Or.inr (Or.inr ⟨p, xs, rfl, SqT.of h, fun e => ?_, fun _ => new_abs (R := fun l H' => Q (.ref l) H') fun p' H' _ e k => q p' H' e k⟩)
  have : cutV xs lo hi = xs := by
    unfold cutV
    rw [e.1, e.2]
    simp
  exact q p H (by rw [this]; exact h) Kp.refl
theorem int_shw {K : PySem.W.Frag} {H : Hp} {i : Int} (h0 : 0 ≤ i) (h1 : i ≤ 1000000000) : Sh K H (.int i) (.int i) :=
  ⟨.int i, Nat.lt_of_le_of_lt (show i.natAbs ≤ 1000000000 by omega) (by decide +kernel), by simp [PyData.depth], by simp [sz]⟩
end U

namespace U
open PySem L2 PySem.Spec PyProof.Rows PySem.SeqAt
/-! a dict beside texts -/
theorem dict_eq_declines_str (l : Addr) (es : Array DictEntry) (n : Nat) (dd : Option Addr) (sl : Array (Option Value)) (b : Str) (u : Tok) :
    Meets (Builtin.«dict.__eq__» ⟨[.ref l, .str b u], []⟩) (fun _ R s => s.heap.get? l = some { cls := .type "dict", dict := dd, data := .dict es n, slots := sl } ∧ R (.ok (.ret .notImplemented)) s) :=
  .of_wp fun prog w A R s h => by obtain ⟨hp, g, d, tk, os⟩ := s; obtain ⟨hl, h⟩ := h; have f1 := F.sub_str_dict; wp_walk using wpAny_loadPart' hl; exact ⟨_, rfl, h⟩
theorem str_eq_declines_dict (b : Str) (u : Tok) (l : Addr) (c : Value) (es : Array DictEntry) (n : Nat) (dd : Option Addr) (sl : Array (Option Value)) :
    Meets (Builtin.«str.__eq__» ⟨[.str b u, .ref l], []⟩) (fun _ R s => s.heap.get? l = some { cls := c, dict := dd, data := .dict es n, slots := sl } ∧ R (.ok (.ret .notImplemented)) s) :=
  .of_wp fun prog w A R s h => by obtain ⟨hp, g, d, tk, os⟩ := s; obtain ⟨hl, h⟩ := h; wp_walk using wpAny_loadPart' hl, wpAny_load hl; exact ⟨_, rfl, h⟩
theorem eqAt_str_dict {A : Around} {s : Shared} {l : Addr} {o : Obj} {es : Array DictEntry} {n : Nat} (b : Str) (u : Tok) (ho : s.heap.get? l = some o) (hc : o.cls = .type "dict") (hd : o.data = .dict es n) (hu : A.units < cLine) : EqAt A s (.str b u) (.ref l) false := fun prog w E Q h => by
  obtain ⟨cls, dd, data, sl⟩ := o
  simp only at hc hd
  subst hc hd
  unfold eqBool
  refine wpAny_holding ?_
  refine wpAny_ite_split (fun hab => absurd (eq_of_beq hab) nofun) (fun _ => ?_)
  refine wpAny_bind (?_ : wpAny (model prog w) A (richCompare .Eq (.str b u) (.ref l)) _ E s)
  refine rc_eq_decline_or (k := false) (typeIs_str s b u) ⟨_, ho, rfl⟩ (by decide) F.sub_dict_str F.slot_str_eq F.slot_dict_eq_refl
    (fun _ hq => call_meets F.slot_str_eq (typeIs_str s b u) F.entry_str_eq (F.args_str_eq_2 _ _) (str_eq_declines_dict b u l (.type "dict") es n dd sl) ⟨ho, hq⟩)
    (fun _ hq => call_meets F.slot_dict_eq_refl ⟨_, ho, rfl⟩ F.entry_dict_eq (F.args_dict_eq_2 _ _) (dict_eq_declines_str l es n dd sl b u) ⟨ho, hq⟩)
    (fun _ hq => wpAny_of_eq (rfl : isSame (.str b u) (.ref l) = pure false) hq) (.inr hu) (wpAny_truthy_bool h)
/-! x in a list of texts, x any data -/
def rInX (K : PySem.W.Frag) (ng : Bool) : R2 := fun x y H Q => ∃ (p a : Addr) (zs : List Str) (kvs : List (Key × V)), x = .ref a ∧ H a = some (.dK kvs) ∧ y = .ref p ∧ SqL K H p (zs.map V.str) ∧ Q (.bl ng) H
def rInY (K : PySem.W.Frag) (ng : Bool) : R2 := fun x y H Q => ∃ d ds, Dp K H x d ∧ Dp K H y (.list ds) ∧ SeqAt.shaped d = true ∧ SeqAt.shaped (.list ds) = true ∧ Q (.bl (if ng then !ds.any fun z => PyData.eqv z d else ds.any fun z => PyData.eqv z d)) H
def uInX (K : PySem.W.Frag) (ng : Bool) : R2 := fun x y H Q => uIn K ng x y H Q ∨ rInX K ng x y H Q ∨ rInY K ng x y H Q
section
variable {X : Cx} {k : Nat} {K : PySem.W.Frag}
theorem strs_eqAt {A : Around} {s : Shared} {l : Addr} {o : Obj} {es : Array DictEntry} {n : Nat} (ho : s.heap.get? l = some o) (hc : o.cls = .type "dict") (hd : o.data = .dict es n) (hu : A.units < cLine) : ∀ {zs : List Str} {us : List Value}, Vals (zs.map V.str) us → ∀ u ∈ us, EqAt A s u (.ref l) false
  | [], _, .nil => fun u hu => by cases hu
  | z :: zs, _, .cons r t => fun u' hu' => by
    rcases List.mem_cons.mp hu' with rfl | hm
    · obtain ⟨tk, rfl⟩ := r
      exact eqAt_str_dict z tk ho hc hd hu
    · exact strs_eqAt ho hc hd hu t u' hm
theorem op_inX (hr : Room k X.A) : OpR X (compareOp .In) (rInX X.K false) := by
  intro pins s σ H x y v u Q I rx ry h
  obtain ⟨p, a, zs, kvs, rfl, ea, rfl, hq, q⟩ := h
  cases rx
  cases ry
  obtain ⟨z, hd, vs, rel, o, es, ep, h1, h2, h3, h4⟩ := dk_of I.hok ea
  obtain ⟨its, r, pl, hz⟩ := I.list hq
  refine SeqAt.in_listAt (fun _ => false) pl.isList (fun w hw => strs_eqAt h1 h2.1 h3 (hu_of hr) r w (by simpa using hw)) ⟨.bl _, H, I, rfl, ?_⟩
  rw [show its.toArray.any (fun _ => false) = false by simp]
  exact q
theorem op_notInX (hr : Room k X.A) : OpR X (compareOp .NotIn) (rInX X.K true) := by
  intro pins s σ H x y v u Q I rx ry h
  obtain ⟨p, a, zs, kvs, rfl, ea, rfl, hq, q⟩ := h
  cases rx
  cases ry
  obtain ⟨z, hd, vs, rel, o, es, ep, h1, h2, h3, h4⟩ := dk_of I.hok ea
  obtain ⟨its, r, pl, hz⟩ := I.list hq
  refine SeqAt.notIn_listAt (fun _ => false) pl.isList (fun w hw => strs_eqAt h1 h2.1 h3 (hu_of hr) r w (by simpa using hw)) ⟨.bl _, H, I, rfl, ?_⟩
  rw [show its.toArray.any (fun _ => false) = false by simp]
  exact q
theorem o_inX (hK : X.K = K) (hr : Room k X.A) : OpR X (compareOp .In) (uInX K false) := by
  subst hK
  exact (o_in rfl).or ((op_inX hr).or (op_inD (by have := hr.un; omega)))
theorem o_notinX (hK : X.K = K) (hr : Room k X.A) : OpR X (compareOp .NotIn) (uInX K true) := by
  subst hK
  exact (o_notin rfl).or ((op_notInX hr).or (op_notInD (by have := hr.un; omega)))
end
section
variable {K : PySem.W.Frag} {σ : L2.St} {H : Hp} {Q : VK} {p a : Addr} {zs : List Str} {ng : Bool} {x y : V} {d : PyData}
/-- a thing that is no text is in no list of texts -/
def noStr : PyData → Bool | .str _ => false | _ => true
theorem any_noStr (h : noStr d = true) : ∀ zs : List Str, ((zs.map PyData.str).any fun z => PyData.eqv z d) = false
  | [] => rfl
  | z :: zs => by
    rw [List.map_cons, List.any_cons, any_noStr h zs, Bool.or_false]
    cases d <;> first | rfl | (simp [noStr] at h) | simp [PyData.eqv]
theorem s_iX (h : uIn K ng x y H Q) : uInX K ng x y H Q := Or.inl h
theorem s_iXD {kvs : List (Key × V)} (h : H a = some (.dK kvs)) (g : SqL K H p (zs.map V.str)) (q : Q (.bl ng) H) : uInX K ng (.ref a) (.ref p) H Q := Or.inr (Or.inl ⟨p, a, zs, kvs, rfl, h, rfl, g, q⟩)
theorem s_iXY (h : Dn K H x d) (s : SeqAt.shaped d = true) (nd : noStr d = true) (g : SqL K H p (zs.map V.str)) (ok : ∀ z ∈ zs, ∀ c ∈ z.cps.toList, c < 1114112) (q : Q (.bl ng) H) : uInX K ng x (.ref p) H Q := by
  refine Or.inr (Or.inr ⟨d, zs.map PyData.str, h.dp (shp s), .lst g (dpa_strs zs), s, shp_strs ok, ?_⟩)
  rw [any_noStr nd zs]
  cases ng <;> exact q
theorem s_m0 {r : V → List V → Hp → VK → Prop} {to : TE} (h : to σ H fun x H1 => (∃ a, x = .str a) ∧ r x [] H1 Q) : tM0 r to σ H Q := h
theorem s_upper {z : Str} (h : z.length ≤ 5592405) (q : Q (.str (Txt.upper z)) H) : ∃ a, V.str z = .str a ∧ ([] : List V) = [] ∧ a.length ≤ 5592405 ∧ Q (.str (Txt.upper a)) H := ⟨z, rfl, rfl, h, q⟩
theorem up_let : ∀ c ∈ List.range' 97 26, Unicode.upperOf c = [c - 32] := by decide +kernel
theorem up_ss {z : Str} {n : Nat} (h : SS z n) (g : ∀ c ∈ z.cps.toList, 97 ≤ c ∧ c ≤ 122) : SS (Txt.upper z) (3 * n) := by
  refine ⟨Nat.le_trans (len_upper z) (by have := h.len; omega), fun c hc => ?_⟩
  have hc : c ∈ (PySem.placed z fun _ c => Unicode.upperOf c) := by simpa [Txt.upper] using hc
  unfold PySem.placed at hc
  obtain ⟨xs, hx, hc⟩ := Array.mem_flatten.mp hc
  obtain ⟨i, hi, rfl⟩ := Array.mem_mapIdx.mp hx
  have hm : z.cps[i] ∈ z.cps.toList := by simp
  have b := g _ hm
  simp only [] at hc
  rw [up_let _ (by rw [List.mem_range']; exact ⟨z.cps[i] - 97, by omega, by omega⟩)] at hc
  simp at hc
  omega
def uInt : List V → Hp → VK → Prop := fun xs H Q => (∃ i, xs = [.int i] ∧ Q (.int i) H) ∨ ∃ k : Bool, xs = [.bl k] ∧ Q (.int (if k then 1 else 0)) H
theorem c_int {X : Cx} : CallR X (.type "int") uInt := call_int1
theorem s_intB {k : Bool} (q : Q (.int (if k then 1 else 0)) H) : uInt [.bl k] H Q := Or.inr ⟨k, rfl, q⟩
end
end U

namespace U
open PySem L2 PySem.Spec PyProof.Rows
/-! enumerate(list, c) -/
def IteS (K : PySem.W.Frag) (a : Addr) (c : Int) : It :=
  ⟨fun i H => ∃ (xs : List V) (x : V), SqL K H a xs ∧ xs[i]? = some x, fun i H v H' => ∃ T x, v = .ref T ∧ H T = none ∧ H' = upd H T (.tup [.int (c + (i : Nat)), x]) ∧ ∀ xs, SqL K H a xs → xs[i]? = some x, fun i H => ∃ xs : List V, SqL K H a xs ∧ xs.length ≤ i⟩
theorem turn_enumS {P : Program} {w : World} {K : PySem.W.Frag} {elts : List Expr} {kk : Nat} {tpos : Pos} (a e it : Addr) (c : Int) :
    Turn P w K (.Tuple elts kk tpos) (IteS K a c) [e, it] e (fun i h => (∃ old, IsEnum h e it (c + ((i : Nat) : Int)) old) ∧ h.IsListIter it a i ∧ e ≠ it) where
  mem := by simp
  obj := fun i h st b hb => by
    obtain ⟨⟨old, he⟩, ⟨o, ho, hc, hd⟩, _⟩ := st
    have e' : b = e ∨ b = it := by simpa using hb
    rcases e' with z | z
    · rw [z]; exact ⟨_, he, fun v q => nomatch q⟩
    · rw [z]; exact ⟨o, ho, fun v q => by rw [hd] at q; cases q⟩
  keep := fun i h h' st k => let ⟨⟨old, he⟩, hi, hne⟩ := st; ⟨⟨old, k e (by simp) _ he⟩, hi.at fun o q => k it (by simp) o q, hne⟩
  item := by
    intro X hP hw hK hc i pins s σ H E I hf st hg
    subst hP hw hK
    obtain ⟨⟨old, he⟩, hit, hne⟩ := st
    obtain ⟨xs, x, hq, hx⟩ := hg
    obtain ⟨its, rv, p, hz⟩ := I.list hq
    obtain ⟨u, hu, ru⟩ := rv.get hx
    have p' : s.heap.IsList a its.toArray := p.isList
    have nai : a ≠ it := fun z => by
      subst z
      obtain ⟨o1, e1, c1, _⟩ := p'
      obtain ⟨o2, e2, c2, _⟩ := hit
      rw [e1] at e2; cases e2
      rw [c1] at c2; exact absurd c2 (by simp)
    have nae : a ≠ e := fun z => by
      subst z
      obtain ⟨o1, e1, c1, _⟩ := p'
      have he' := he
      unfold IsEnum at he'
      rw [e1] at he'
      cases he'
      exact absurd c1 (by simp)
    have hel : e < s.heap.objs.size := Heap.lt_size he
    have hil : it < s.heap.objs.size := by obtain ⟨_, q, _⟩ := hit; exact Heap.lt_size q
    have hi : i < its.toArray.size := by
      rw [List.size_toArray]
      exact (List.getElem?_eq_some_iff.mp hu).1
    refine wpAny_pyNext_enum_itemC (Draws.list (A := X.A.in1) (show X.A.in1.handled = none from I.ok.hd hc) it a nai its.toArray) he ⟨hit, p'⟩ hi hne (by simp; exact ⟨hne, nae.symm⟩) fun x' h' tk hP ho hst' hT hsz hk => ?_
    obtain ⟨hit', _⟩ := hst'
    have ex : x' = u := by
      have hP' : its.toArray[i]? = some x' := hP
      rw [List.getElem?_toArray, hu] at hP'
      exact (Option.some.inj hP').symm
    subst ex
    refine ⟨_, rfl, wpAny_letOwnedTupleGo_enum (s := { s with heap := h', toks := tk + 1 }) ho fun h'' he' sb => ?_⟩
    have hT2 : h''.get? s.heap.objs.size = some { cls := .type "tuple", data := .seq #[.int (c + i) tk, x'] } := (sb.2 _ (Nat.ne_of_gt hel)).trans hT
    have new : ObjOk X.prog X.w (upd H s.heap.objs.size (.tup [.int (c + (i : Nat)), x])) h'' s.heap.objs.size (.tup [.int (c + (i : Nat)), x]) :=
      ⟨by show 2 ≤ sizeLine; decide, [.int (c + i) tk, x'], .cons ⟨_, rfl⟩ (.cons ru .nil), ⟨_, hT2, rfl, _, rfl⟩⟩
    have I1 : Inv X pins σ (upd H s.heap.objs.size (.tup [.int (c + (i : Nat)), x])) { s with heap := h'', toks := tk + 1 } :=
      I.turnedNew (ch := [e, it]) (fun b ob hb q => (sb.2 b (fun z => hb (by simp [z]))).trans (hk b ob (fun z => hb (by simp [z])) (fun z => hb (by simp [z])) q)) hf (Nat.le_refl _) new
    refine ⟨.ref s.heap.objs.size, _, I1, rfl, ⟨_, x, rfl, I.hok.fresh (Nat.le_refl _), rfl, fun ys hy => by rw [I.list_inj hy hq]; exact hx⟩, ⟨⟨x', ?_⟩, hit'.at fun o q => (sb.2 it (Ne.symm hne)).trans q, hne⟩, fun b hb => ?_⟩
    · have e1 : c + ((i + 1 : Nat) : Int) = c + (i : Int) + 1 := by omega
      rw [e1]; exact he'
    · have hb' : b < s.heap.objs.size := by
        have e' : b = e ∨ b = it := by simpa using hb
        rcases e' with z | z
        · rw [z]; exact hel
        · rw [z]; exact hil
      rw [upd_ne (Nat.ne_of_lt hb')]
      exact (hf b hb).1
  done := by
    intro X hP hw hK hc i pins s σ H E I hf st hg
    subst hP hw hK
    obtain ⟨⟨old, he⟩, hit, hne⟩ := st
    obtain ⟨xs, hq, hx⟩ := hg
    obtain ⟨its, rv, p, hz⟩ := I.list hq
    obtain ⟨f0, f1, f2, f3, f4, f5⟩ := hf it (by simp)
    have hl := rv.length
    have p' : s.heap.IsList a its.toArray := p.isList
    refine (?_ : wpAny (model X.prog X.w) X.A (pyNext (.ref e)) _ _ s)
    have hT : s.TypeIs (.ref e) "enumerate" := ⟨_, he, rfl⟩
    unfold pyNext
    refine wpAny_bind (wpAny_attempt (wpAny_callSpecial?_slot (name := Str.ofString "__next__") hT F.slot_enumerate_next
      (wpAny_call_entry F.slot_enumerate_next hT F.entry_enumerate_next ?_ (F.args_enumerate_next_1 _))))
    show wpAny _ _ (field (.ref e) 2 >>= _) _ _ _
    refine wpAny_bind (wpAny_field he rfl (x := .ref it) rfl ?_)
    refine wpAny_bind (wpAny_nextOf_list_end (I.ok.hd hc) hit p' (by simp; omega) fun h' x he' hx' => ?_)
    obtain ⟨o, ho, hc'⟩ := hx'
    refine wpAny_bind (wpAny_isInstance (T := "StopIteration") (b := true) ⟨o, ho, hc'⟩ isSubtype_stop ?_)
    exact wpAny_pure ⟨rfl, I.turned (t' := s.toks) (fun b o hb q => he' b o hb q) f0 f1 f3 f4 f5⟩
  self := fun A i s Q E st h => let ⟨⟨_, he⟩, _⟩ := st; wpAny_pyIter_enum he h
def iEnumS (K : PySem.W.Frag) (ta : TA) : TI := fun σ H R => ta σ H fun vs H1 => ∃ a xs c, vs = [.ref a, .int c] ∧ SqL K H1 a xs ∧ (-(2 ^ 62) ≤ c ∧ c < 2 ^ 62) ∧ R (IteS K a c) H1
theorem pi_enumS {X : Cx} {K : PySem.W.Frag} {e e2 : Expr} {ta : TA} {p pos tpos : Pos} {elts : List Expr} {kk : Nat} (hK : X.K = K) (hg : Gl X "enumerate") (hm : X.mg "enumerate" = none) (ha : PA X [e, e2] ta) (hs : starEach [e, e2] X.env = (false, eval e X.env) :: starEach [e2] X.env := by rfl) (hs2 : (backTo pos (starEach [e2] X.env)).any (·.1) = false := by rfl) :
    PI X (.Tuple elts kk tpos) (.Call (.Name "enumerate" p) [e, e2] [] pos) (iEnumS K ta) := by
  subst hK
  refine ⟨fun pins s σ H R I h => ?_⟩
  refine Call_ (ld_blt I hg hm boot_enumerate (PyProof.Rows.callWith_type1 (thn (ha.run pos pins s σ H _ I h) fun us s1 ⟨vs, H1, I1, r1, q1⟩ => ?_) hs hs2))
  obtain ⟨a, xs, c, ex, hq, hc, q⟩ := q1
  subst ex
  cases r1 with
  | cons r rr =>
    cases rr with
    | cons r2 rr =>
      cases rr
      cases r
      obtain ⟨tk, rfl⟩ := r2
      obtain ⟨its, rv, p', hz⟩ := I1.list hq
      refine enum_begins (begins_list a its.toArray) (show s1.heap.IsList a its.toArray from p'.isList) (by omega) (by omega) fun h' he hit hsz hk => wpAny_pyIter_enum he ?_
      have I2 : Inv X pins σ H1 { s1 with heap := h' } := I1.kept (t' := s1.toks) hk
      refine ⟨s1.heap.objs.size + 1, [s1.heap.objs.size + 1, s1.heap.objs.size], _, _, H1, rfl, I2, turn_enumS a (s1.heap.objs.size + 1) s1.heap.objs.size c, ⟨⟨.none, by simpa using he⟩, ⟨_, hit, rfl, rfl⟩, Nat.succ_ne_self _⟩, fun b hb => ?_, q⟩
      have e' : b = s1.heap.objs.size + 1 ∨ b = s1.heap.objs.size := by simpa using hb
      have hle : s1.heap.objs.size ≤ b := by
        rcases e' with z | z
        · rw [z]; exact Nat.le_add_right _ _
        · rw [z]; exact Nat.le_refl _
      exact I1.fpOk hle (I1.hok.fresh hle)
theorem walk_enumS {K : PySem.W.Frag} {a : Addr} {xs : List V} {c : Int} : Walk (IteS K a c) xs.length (fun H => SqL K H a xs) (YPair (fun i => some (.int (c + (i : Nat)))) (fun i => xs[i]?)) := by
  refine ⟨fun i _ hi q => ⟨xs, xs[i], q, by simp [hi]⟩, fun _ q => ⟨xs, q, Nat.le_refl _⟩, fun i H v H' _ q y => ?_⟩
  obtain ⟨T, x, h1, h2, h3, h4⟩ := y
  exact ⟨T, .int (c + (i : Nat)), x, h1, h2, h3, rfl, h4 xs q⟩
section
variable {K : PySem.W.Frag} {σ : L2.St} {H : Hp} {a : Addr} {vs : List V} {g : TG} {tb : TS} {D : Ends} {c : Int} {R : It → Hp → Prop} {ta : TA} {xs : List V}
theorem for_eS (e : H a = some (.lst vs)) (Pv : Nat → L2.St → Hp → Prop) (h0 : Pv 0 σ H) (hG : ∀ i σ' H', Pv i σ' H' → ∀ o, H a = some o → H' a = some o)
    (hs : ∀ i x σ' H' T H2, vs[i]? = some x → Pv i σ' H' → H' T = none → H2 T = some (.tup [.int (c + (i : Nat)), x]) → Kp [] H' H2 → g (.ref T) σ' H2 fun σ2 H3 => tb { D with nx := Pv (i + 1), ct := Pv (i + 1), bk := D.nx } σ2 H3) (hd : ∀ σ' H', Pv vs.length σ' H' → D.nx σ' H') :
    ∃ W : Nat → Nat → L2.St → Hp → Prop, (∃ m, W 0 m σ H) ∧ ∀ i m σ H, W i m σ H →
      ((IteS K a c).stop i H ∧ D.nx σ H) ∨ ((IteS K a c).go i H ∧ ∃ N : L2.St → Hp → Prop, (∀ σ' H', N σ' H' → ∃ m', m' < m ∧ W (i + 1) m' σ' H') ∧ ∀ x H', (IteS K a c).yld i H x H' → g x σ H' fun σ2 H2 => tb { D with nx := N, ct := N, bk := D.nx } σ2 H2) :=
  for_it (walk_enumS (xs := vs)) Pv h0 (fun i σ' H' _ p => SqL.of (hG i σ' H' p _ e)) (fun i x σ' H1 H2 hi p y => by
    obtain ⟨T, x1, x2, rfl, f, rfl, e1, e2⟩ := y
    cases Option.some.inj e1
    exact hs i x2 σ' H1 T _ e2 p f upd_same (Kp.refl.new f)) hd
theorem s_ienS (h : ta σ H fun vs H1 => ∃ a xs c, vs = [.ref a, .int c] ∧ SqL K H1 a xs ∧ (-(2 ^ 62) ≤ c ∧ c < 2 ^ 62) ∧ R (IteS K a c) H1) : iEnumS K ta σ H R := h
theorem s_eS {S : Addr → Int → Prop} (h : H a = some (.lst xs)) (b : -(2 ^ 62) ≤ c ∧ c < 2 ^ 62) (q : S a c) : ∃ a' xs' c', [V.ref a, V.int c] = [.ref a', .int c'] ∧ SqL K H a' xs' ∧ (-(2 ^ 62) ≤ c' ∧ c' < 2 ^ 62) ∧ S a' c' := ⟨a, xs, c, rfl, SqL.of h, b, q⟩
end
end U

namespace U
open PySem L2 PySem.Spec PyProof.Rows
/-! texts that are joined, and split again -/
def jl (c : Nat) : List (List Nat) → List Nat
  | [] => []
  | [w] => w
  | w :: v :: r => w ++ c :: jl c (v :: r)
theorem app_inj {c : Nat} : ∀ {a b x y : List Nat}, c ∉ a → c ∉ b → a ++ c :: x = b ++ c :: y → a = b ∧ x = y
  | [], [], _, _, _, _, h => ⟨rfl, by simpa using h⟩
  | [], b :: bs, _, _, _, hb, h => by
    simp only [List.nil_append, List.cons_append, List.cons.injEq] at h
    exact (hb (by rw [h.1]; exact List.mem_cons_self)).elim
  | a :: as, [], _, _, ha, _, h => by
    simp only [List.nil_append, List.cons_append, List.cons.injEq] at h
    exact (ha (by rw [← h.1]; exact List.mem_cons_self)).elim
  | a :: as, b :: bs, x, y, ha, hb, h => by
    simp only [List.cons_append, List.cons.injEq] at h
    obtain ⟨h1, h2⟩ := app_inj (fun m => ha (List.mem_cons_of_mem _ m)) (fun m => hb (List.mem_cons_of_mem _ m)) h.2
    exact ⟨by rw [h.1, h1], h2⟩
theorem jl_inj {c : Nat} : ∀ {as bs : List (List Nat)}, as ≠ [] → bs ≠ [] → (∀ a ∈ as, c ∉ a) → (∀ b ∈ bs, c ∉ b) → jl c as = jl c bs → as = bs
  | [], _, h, _, _, _, _ => (h rfl).elim
  | _ :: _, [], _, h, _, _, _ => (h rfl).elim
  | [a], [b], _, _, _, _, h => by rw [show a = b from h]
  | [a], b :: b' :: r, _, _, ha, _, h => by
    have h : a = b ++ c :: jl c (b' :: r) := h
    exact (ha a List.mem_cons_self (by rw [h]; simp)).elim
  | a :: a' :: r, [b], _, _, _, hb, h => by
    have h : a ++ c :: jl c (a' :: r) = b := h
    exact (hb b List.mem_cons_self (by rw [← h]; simp)).elim
  | a :: a' :: r, b :: b' :: s, _, _, ha, hb, h => by
    have h : a ++ c :: jl c (a' :: r) = b ++ c :: jl c (b' :: s) := h
    obtain ⟨h1, h2⟩ := app_inj (ha a List.mem_cons_self) (hb b List.mem_cons_self) h
    rw [h1, jl_inj (by simp) (by simp) (fun x m => ha x (List.mem_cons_of_mem _ m)) (fun x m => hb x (List.mem_cons_of_mem _ m)) h2]
theorem join_jl (c : Nat) : ∀ ws : List Str, (Str.join ⟨#[c]⟩ ws).cps.toList = jl c (ws.map fun w => w.cps.toList)
  | [] => rfl
  | [w] => rfl
  | w :: v :: r => by
    have ih := join_jl c (v :: r)
    have e : Str.join ⟨#[c]⟩ (w :: v :: r) = w ++ ⟨#[c]⟩ ++ Str.join ⟨#[c]⟩ (v :: r) := rfl
    rw [e, Str.cps_append, Str.cps_append, Array.toList_append, Array.toList_append, ih]
    show (w.cps.toList ++ [c]) ++ _ = w.cps.toList ++ c :: _
    rw [List.append_assoc]
    rfl
theorem tj (y : Str) (l : List Str) : Txt.join y l = Str.join y l := StrLaws.glued_eq_join y l
theorem split_join {c : Nat} {ws : List Str} (hne : ws ≠ []) (h : ∀ w ∈ ws, c ∉ w.cps.toList) : Txt.split (Txt.join ⟨#[c]⟩ ws) ⟨#[c]⟩ = ws := by
  rw [tj]
  generalize hx : Str.join ⟨#[c]⟩ ws = x
  have h1 : Str.join ⟨#[c]⟩ (Txt.split x ⟨#[c]⟩) = Str.join ⟨#[c]⟩ ws := by rw [StrLaws.join_split, hx]
  have h2 := congrArg (fun z : Str => z.cps.toList) h1
  simp only [join_jl] at h2
  have h3 := jl_inj (by
    intro z
    have := PyProof.Rows.split_pos x ⟨#[c]⟩
    rw [List.map_eq_nil_iff] at z
    rw [z] at this
    simp at this) (by simpa using hne) (by
    intro a ha
    obtain ⟨p, hp, rfl⟩ := List.mem_map.mp ha
    exact StrLaws.split_free x c p hp) (by
    intro a ha
    obtain ⟨p, hp, rfl⟩ := List.mem_map.mp ha
    exact h p hp) h2
  exact (List.map_inj_right (fun a b (e : a.cps.toList = b.cps.toList) => Str.ext' (Array.toList_inj.mp e))).mp h3
theorem sp_eq : (" " : Str) = ⟨#[32]⟩ := by decide +kernel
theorem nl_eq : ("\n" : Str) = ⟨#[10]⟩ := by decide +kernel
section
variable {K : PySem.W.Frag} {σ : L2.St} {H : Hp} {Q : VK} {z sep acc y : Str} {ws : List Str} {p : Addr} {xs ys : List V} {n : Int} {v : V} {te : TE} {ts : List TE} {q : Str → Hp → Prop} {X : Cx}
theorem s_spl (h0 : (sep.length == 0) = false) (hz : z.length + 2 ≤ sizeLine) (e : Txt.split z sep = ws) (q : ∀ p H', H p = none → H' p = some (.lst (ws.map V.str)) → Kp [] H H' → Q (.ref p) H') :
    ∃ b, [V.str sep] = [V.str b] ∧ (b.length == 0) = false ∧ z.length + 2 ≤ sizeLine ∧ rNewStrs (Txt.split z b) H Q := by
  refine ⟨sep, rfl, h0, hz, ?_⟩
  rw [e]
  exact new_abs (R := fun l H' => Q (.ref l) H') q
/-! f-strings -/
def tJo (ts : List TE) : TE := fun σ H Q => tJs ts Str.empty σ H fun out H1 => Q (.str out) H1
theorem pe_jo {v1 v2 : Expr} {rest : List Expr} {pos : Pos} (h : PJ X (v1 :: v2 :: rest) ts) : PE X (.JoinedStr (v1 :: v2 :: rest) pos) (tJo ts) := pe_joined h
theorem s_jo (h : tJs ts Str.empty σ H fun out H1 => Q (.str out) H1) : tJo ts σ H Q := h
theorem s_js0 (h : q acc H) : tJs [] acc σ H q := h
theorem s_jsC (h : (acc ++ z).length ≤ sizeLine) (k : tJs ts (acc ++ z) σ H q) : tJs (tC (.str z) :: ts) acc σ H q := ⟨z, rfl, h, k⟩
def FmK (ts : List TE) (acc : Str) (σ : L2.St) (q : Str → Hp → Prop) : V → Hp → Prop := fun x H1 => (∃ y : Str, x = .str y ∧ y.length ≤ sizeLine ∧ ∃ y', V.str y = .str y' ∧ (acc ++ y').length ≤ sizeLine ∧ tJs ts (acc ++ y') σ H1 q) ∨
  ∃ i : Int, x = .int i ∧ i.natAbs.log2 < 1920 ∧ ∃ y', V.str (toString i) = .str y' ∧ (acc ++ y').length ≤ sizeLine ∧ tJs ts (acc ++ y') σ H1 q
theorem s_jsF (h : te σ H (FmK ts acc σ q)) : tJs (tFmt te :: ts) acc σ H q := h
theorem s_fmS (h : y.length ≤ sizeLine) (h2 : (acc ++ y).length ≤ sizeLine) (k : tJs ts (acc ++ y) σ H q) : FmK ts acc σ q (.str y) H := Or.inl ⟨y, rfl, h, y, rfl, h2, k⟩
theorem s_fmI (h : n.natAbs.log2 < 1920) (h2 : (acc ++ (toString n : Str)).length ≤ sizeLine) (k : tJs ts (acc ++ (toString n : Str)) σ H q) : FmK ts acc σ q (.int n) H := Or.inr ⟨n, rfl, h, _, rfl, h2, k⟩
/-! tuples of the module's top -/
structure KT (K : PySem.W.Frag) (a : Addr) (xs : List V) : Prop where
  ex : ∃ (o : Obj) (its : Array Value) (n : Nat), K.lookup a = some o ∧ (o.cls = .type "tuple" ∧ o.dict = none) ∧ o.data = .seq its n ∧ its.size ≤ sizeLine ∧ Vals xs its.toList
theorem KT.mk' {a : Addr} {o : Obj} (l : K.lookup a = some o) (h : (o.cls = .type "tuple" ∧ o.dict = none) ∧ ∃ (its : Array Value) (n : Nat), o.data = .seq its n ∧ its.size ≤ sizeLine ∧ Vals xs its.toList) : KT K a xs := by
  obtain ⟨h1, its, n, h2, h3, h4⟩ := h
  exact ⟨o, its, n, l, h1, h2, h3, h4⟩
theorem KT.sq (h : KT K p xs) : SqT K H p xs := by
  obtain ⟨o, its, n, l, h1, h2, h3, h4⟩ := h.ex
  exact Or.inr ⟨o, its, n, l, h1.1, h2, h3, h4⟩
theorem s_ixK (h : KT K p xs) (ha : atI xs n = some v) (q : Q v H) : rIx K (.ref p) (.int n) H Q := Or.inr (Or.inl ⟨p, xs, n, v, rfl, rfl, h.sq, ha, q⟩)
theorem s_tyK {R : Prop} (h : KT K p xs) (q : R) : tyV K "tuple" (.ref p) H ∧ R := by
  obtain ⟨o, its, n, l, h1, h2, h3, h4⟩ := h.ex
  exact ⟨Or.inr (Or.inl ⟨rfl, o, l, h1.1, h1.2⟩), q⟩
def rTIx (K : PySem.W.Frag) : V → List V → Hp → VK → Prop := fun x xs H Q => ∃ p, ∃ ys : List Str, ∃ z j, x = .ref p ∧ xs = [.str z] ∧ SqT K H p (ys.map V.str) ∧ ys[j]? = some z ∧ (∀ m, m < j → ys[m]? ≠ some z) ∧ Q (.int (j : Nat)) H
theorem mt_tix (hK : X.K = K) : MtR X "tuple.index" (rTIx K) := hK ▸ mt_tup_index
theorem s_tix {zs : List Str} {j : Nat} (h : KT K p (zs.map V.str)) (e : zs[j]? = some z) (nd : ∀ m, m < j → zs[m]? ≠ some z) (q : Q (.int (j : Nat)) H) : rTIx K (.ref p) [.str z] H Q := ⟨p, zs, z, j, rfl, rfl, h.sq, e, nd, q⟩
theorem s_ext {l b : Addr} (hl : H l = some (.lst xs)) (hb : H b = some (.lst ys)) (hz : xs.length + ys.length ≤ sizeLine) (q : ∀ H', H' l = some (.lst (xs ++ ys)) → Kp [l] H H' → Q .non H') : rExtend (.ref l) [.ref b] H Q :=
  ⟨l, b, xs, ys, rfl, rfl, hl, hb, hz, put_abs hl rfl (R := fun H' => Q .non H') q⟩
def uIntS : List V → Hp → VK → Prop := fun xs H Q => ∃ a n, xs = [.str a] ∧ PySem.intText? a = some n ∧ a.length ≤ 640 ∧ Q (.int n) H
theorem c_intS : CallR X (.type "int") uIntS := call_int_str
theorem s_intS (e : PySem.intText? z = some n) (h : z.length ≤ 640) (q : Q (.int n) H) : uIntS [.str z] H Q := ⟨z, n, rfl, e, h, q⟩
end
end U

namespace U
open PySem L2 PySem.Spec PyProof.Rows
section
variable {K : PySem.W.Frag} {H : Hp} {Q : VK} {p : Addr} {y : V} {d z : PyData} {ds : List PyData} {j : Nat} {X : Cx} {k : Nat} {ng : Bool}
/-- data in a list of data -/
theorem mt_ixD (hK : X.K = K) (hr : Room k X.A) : MtR X "list.index" (rIndexD K) := hK ▸ mt_indexD (by have := hr.un; omega)
theorem s_ixD (hl : Dn K H (.ref p) (.list ds)) (hy : Dn K H y d) (sl : SeqAt.shaped (.list ds) = true) (sd : SeqAt.shaped d = true) (e : ds[j]? = some z) (ez : PyData.eqv z d = true) (no : ∀ (m : Nat) (z' : PyData), m < j → ds[m]? = some z' → PyData.eqv z' d = false) (q : Q (.int (j : Nat)) H) : rIndexD K (.ref p) [y] H Q :=
  ⟨p, y, d, ds, j, z, rfl, rfl, hl.dp (shp sl), hy.dp (shp sd), sl, sd, e, ez, no, q⟩
theorem s_inD (hl : Dn K H (.ref p) (.list ds)) (hy : Dn K H y d) (sl : SeqAt.shaped (.list ds) = true) (sd : SeqAt.shaped d = true) (q : Q (.bl (ds.any fun z => PyData.eqv z d)) H) : uInX K false y (.ref p) H Q :=
  Or.inr (Or.inr ⟨d, ds, hy.dp (shp sd), hl.dp (shp sl), sd, sl, q⟩)
end
/-! texts are put together -/
theorem sa (a b c : Str) : a ++ b ++ c = a ++ (b ++ c) := Str.ext' (by simp [Str.cps_append])
theorem sj1 (a : Str) : Txt.join " " [a] = a := by rw [tj]; rfl
theorem sj2 (a b : Str) : Txt.join " " [a, b] = a ++ " " ++ b := by rw [tj]; rfl
theorem sj3 (a b c : Str) : Txt.join " " [a, b, c] = a ++ " " ++ (b ++ " " ++ c) := by rw [tj]; rfl
theorem sj4 (a b c d : Str) : Txt.join " " [a, b, c, d] = a ++ " " ++ (b ++ " " ++ (c ++ " " ++ d)) := by rw [tj]; rfl
theorem e_app (a : Str) : Str.empty ++ a = a := Str.ext' (by simp [Str.cps_append, Str.empty])
theorem join_len {a : Str} {ws : List Str} {n : Nat} (h : ∀ w ∈ ws, w.length ≤ n) : (Txt.join a ws).length ≤ ws.length * (n + a.length) := by
  rw [tj]
  refine Nat.le_trans (StrLaws.join_length_le a ws) ?_
  have : (ws.map (·.length)).sum ≤ ws.length * n := by
    induction ws with
    | nil => simp
    | cons w ws ih =>
      have h1 := h w List.mem_cons_self
      have h2 := ih fun x hx => h x (List.mem_cons_of_mem _ hx)
      rw [List.map_cons, List.sum_cons, List.length_cons, Nat.succ_mul]
      omega
  rw [Nat.mul_add]
  omega
theorem join_mem {c : Nat} {a : Str} : ∀ {ws : List Str}, c ∈ (Txt.join a ws).cps.toList → c ∈ a.cps.toList ∨ ∃ w ∈ ws, c ∈ w.cps.toList
  | [], h => by rw [tj] at h; simp [Str.join, Str.empty] at h
  | [w], h => by rw [tj] at h; exact Or.inr ⟨w, List.mem_cons_self, h⟩
  | w :: v :: r, h => by
    have e : Txt.join a (w :: v :: r) = w ++ a ++ Txt.join a (v :: r) := by rw [tj, tj]; rfl
    rw [e, Str.cps_append, Str.cps_append, Array.toList_append, Array.toList_append, List.mem_append, List.mem_append] at h
    rcases h with (h | h) | h
    · exact Or.inr ⟨w, List.mem_cons_self, h⟩
    · exact Or.inl h
    · rcases join_mem h with h | ⟨x, hx, h⟩
      · exact Or.inl h
      · exact Or.inr ⟨x, List.mem_cons_of_mem _ hx, h⟩
/-- what is said of a class whose instances isinstance is asked of -/
structure IsC (K : PySem.W.Frag) (C : Addr) : Prop where
  cl : Cls K C
  ha : PySem.W.findIn K (.ref C) "__class__" = some (some (.builtin "object.__class__"))
  hn : PySem.W.specialIn K (.builtin "object.__class__") "__get__" = some (some (.builtin "getset_descriptor.__get__"))
  tk : PySem.W.takesIn K (.builtin "object.__class__") = some true
  hm : PySem.W.mroIn K C (.type "object") = some true
theorem s_isO {K : PySem.W.Frag} {H : Hp} {Q : VK} {p C C2 dx : Addr} {fs : List (Str × V)} {b : Bool} (h : H p = some (.ins C dx fs)) (c : IsC K C) (ki : PySem.W.kitOne K (.ref C) (.ref C2) = some b) (q : Q (.bl b) H) : rIsi K [.ref p, .ref C2] H Q :=
  ⟨.ref p, .ref C2, .ref C, .ref C2, b, rfl, .own C2, .base (.ins h c.cl c.ha c.hn c.tk c.hm), ki, q⟩
section
variable {X : Cx} {K : PySem.W.Frag} {T id : String} {name : Str} {r : V → List V → Hp → VK → Prop} {o e : Expr} {es : List Expr} {to : TE} {t : TA} {apos cpos : Pos}
theorem pe_bmK (hK : X.K = K) (pa : PlainAttrs T) (slot : Slot T name id) (hty : typeOf (.builtin id) = pure (.type "method_descriptor")) (hm : MtR X id r) (ho : PE X o to) (ha : PA X (e :: es) t)
    (hbase : attributeBase o name X.env (eval o X.env) = eval o X.env := by rfl)
    (hfew : ((backTo cpos (starEach (e :: es) X.env)).all (fun x => !x.1) && (backToKw cpos (keywordEach [] X.env)).all (fun x => x.1.isSome)
      && decide ((e :: es).length + ([] : List Keyword).length + (if ([] : List Keyword).isEmpty then 0 else 1) < 30)) = true := by rfl)
    (hline : (apos.endLine == cpos.line) = true := by rfl) (hs : starEach (e :: es) X.env = (false, eval e X.env) :: starEach es X.env := by rfl) (hplain : (backTo cpos (starEach es X.env)).any (·.1) = false := by rfl) :
    PE X (.Call (.Attribute o name apos) (e :: es) [] cpos) (tBM K T r to t) := hK ▸ pe_bm pa slot hty hm ho ha hbase hfew hline hs hplain
theorem pe_bm0K (hK : X.K = K) (pa : PlainAttrs T) (slot : Slot T name id) (hty : typeOf (.builtin id) = pure (.type "method_descriptor")) (hm : MtR X id r) (ho : PE X o to)
    (hbase : attributeBase o name X.env (eval o X.env) = eval o X.env := by rfl) (hline : (apos.endLine == cpos.line) = true := by rfl) : PE X (.Call (.Attribute o name apos) [] [] cpos) (tBM0 K T r to) := hK ▸ pe_bm0 pa slot hty hm ho hbase hline
end
end U

namespace U
open PySem L2 PySem.Spec PyProof.Rows
/-! zip of lists and tuples in any mix (true: a tuple) -/
def SqB (K : PySem.W.Frag) (b : Bool) (H : Hp) (a : Addr) (xs : List V) : Prop := match b with
  | false => SqL K H a xs
  | true => SqT K H a xs
def IterB (b : Bool) (h : Heap) (i a : Addr) (n : Nat) : Prop := match b with
  | false => h.IsListIter i a n
  | true => h.IsTupleIter i a n
def IsB (b : Bool) (h : Heap) (a : Addr) (its : Array Value) : Prop := match b with
  | false => h.IsList a its
  | true => h.IsTuple a its
def oB (b : Bool) (a : Addr) : Obj := match b with
  | false => { cls := .type "list_iterator", data := .fields #[.ref a, .int 0 0] }
  | true => { cls := .type "tuple_iterator", data := .fields #[.ref a, .int 0 0] }
theorem beginsB (b : Bool) (a : Addr) (its : Array Value) : Begins (.ref a) (oB b a) fun h => IsB b h a its := by
  cases b
  · exact begins_list a its
  · exact begins_tuple a its
theorem iterB0 {b : Bool} {h : Heap} {i a : Addr} (e : h.get? i = some (oB b a)) : IterB b h i a 0 := by
  cases b
  · exact ⟨_, e, rfl, rfl⟩
  · exact ⟨_, e, rfl, rfl⟩
theorem drawsB {prog : Program} {w : World} {A : Around} (b : Bool) (hh : A.handled = none) (it l : Addr) (hne : l ≠ it) (its : Array Value) :
    Draws prog w A it [it, l] its.size (fun i v => its[i]? = some v) (fun i h => IterB b h it l i ∧ IsB b h l its) := by
  cases b
  · exact Draws.list hh it l hne its
  · exact Draws.tuple hh it l hne its
theorem IterB.obj {b : Bool} {h : Heap} {i a : Addr} {n : Nat} (x : IterB b h i a n) : ∃ o, h.get? i = some o ∧ o.data = .fields #[.ref a, .int n 0] := by
  cases b
  · obtain ⟨o, e, _, d⟩ := x; exact ⟨o, e, d⟩
  · obtain ⟨o, e, _, d⟩ := x; exact ⟨o, e, d⟩
theorem IterB.at {b : Bool} {h h' : Heap} {i a : Addr} {n : Nat} (x : IterB b h i a n) (k : ∀ o, h.get? i = some o → h'.get? i = some o) : IterB b h' i a n := by
  cases b
  · obtain ⟨o, e, c⟩ := x; exact ⟨o, k o e, c⟩
  · obtain ⟨o, e, c⟩ := x; exact ⟨o, k o e, c⟩
theorem IsB.lt {b : Bool} {h : Heap} {a : Addr} {its : Array Value} (x : IsB b h a its) : a < h.objs.size := by
  cases b
  · obtain ⟨o, e, _⟩ := x; exact Heap.lt_size e
  · obtain ⟨o, e, _⟩ := x; exact Heap.lt_size e
section
variable {X : Cx} {pins : List (Addr × Obj)} {σ : L2.St} {H : Hp} {s : Shared}
theorem seqB {b : Bool} {a : Addr} {xs : List V} (I : Inv X pins σ H s) (h : SqB X.K b H a xs) : ∃ its, Vals xs its ∧ IsB b s.heap a its.toArray := by
  cases b
  · obtain ⟨its, rv, p, _⟩ := I.list h; exact ⟨its, rv, p.isList⟩
  · obtain ⟨its, rv, p, _⟩ := I.tuple h; exact ⟨its, rv, p⟩
theorem seqB_inj {b : Bool} {a : Addr} {xs ys : List V} (I : Inv X pins σ H s) (h : SqB X.K b H a xs) (g : SqB X.K b H a ys) : xs = ys := by
  cases b
  · exact I.list_inj h g
  · exact I.tuple_inj h g
end
def ItzB (K : PySem.W.Frag) (b1 b2 : Bool) (a b : Addr) : It :=
  ⟨fun i H => ∃ (xs ys : List V) (x y : V), SqB K b1 H a xs ∧ SqB K b2 H b ys ∧ xs[i]? = some x ∧ ys[i]? = some y,
    fun i H v H' => ∃ T x y, v = .ref T ∧ H T = none ∧ H' = upd H T (.tup [x, y]) ∧ (∀ xs, SqB K b1 H a xs → xs[i]? = some x) ∧ ∀ ys, SqB K b2 H b ys → ys[i]? = some y,
    fun i H => ∃ xs ys : List V, SqB K b1 H a xs ∧ SqB K b2 H b ys ∧ i ≤ xs.length ∧ i ≤ ys.length ∧ (xs.length ≤ i ∨ ys.length ≤ i)⟩
theorem sep_of {z TI TO i1 i2 a b : Addr} (D : ZipApart z TI TO i1 i2 a b) : ZipSep2 z TI TO i1 i2 [i1, a] [i2, b] where
  TIz := D.TIz
  TOz := D.TOz
  TITO := D.TITO
  TIi1 := D.TIi1
  mem1 := by simp
  zf1 := by simp; exact ⟨D.i1z.symm, D.l1z.symm⟩
  Tf1 := by simp; exact ⟨D.TOi1, D.l1TO.symm⟩
  TIi2 := D.TIi2
  mem2 := by simp
  zf2 := by simp; exact ⟨D.i2z.symm, D.l2z.symm⟩
  Tf2 := by simp; exact ⟨D.TOi2, D.l2TO.symm⟩
  sep1_2 := by simp; exact ⟨D.i12, D.l2i1.symm⟩
  sep2_1 := by simp; exact ⟨D.i12.symm, D.l1i2.symm⟩
theorem turn_zipB {P : Program} {w : World} {K : PySem.W.Frag} {elts : List Expr} {kk : Nat} {tpos : Pos} {b1 b2 : Bool} {a b z TI TO i1 i2 : Addr} (D : ZipApart z TI TO i1 i2 a b) :
    Turn P w K (.Tuple elts kk tpos) (ItzB K b1 b2 a b) [z, TI, TO, i1, i2] z (fun i h => IsZip h z TI TO .none ∧ IsTupOf2 h TI (.ref i1) (.ref i2) ∧ (∃ x y, IsTupOf2 h TO x y) ∧ IterB b1 h i1 a i ∧ IterB b2 h i2 b i) where
  mem := by simp
  obj := fun i h st c hc => by
    obtain ⟨hz, hTI, ⟨x, y, hTO⟩, h1, h2⟩ := st
    obtain ⟨o1, e1, d1⟩ := h1.obj
    obtain ⟨o2, e2, d2⟩ := h2.obj
    have e' : c = z ∨ c = TI ∨ c = TO ∨ c = i1 ∨ c = i2 := by simpa using hc
    rcases e' with q | q | q | q | q
    · rw [q]; exact ⟨_, hz, fun v q => nomatch q⟩
    · rw [q]; exact ⟨_, hTI, fun v q => nomatch q⟩
    · rw [q]; exact ⟨_, hTO, fun v q => nomatch q⟩
    · rw [q]; exact ⟨o1, e1, fun v q => by rw [d1] at q; cases q⟩
    · rw [q]; exact ⟨o2, e2, fun v q => by rw [d2] at q; cases q⟩
  keep := fun i h h' st k => by
    obtain ⟨hz, hTI, ⟨x, y, hTO⟩, h1, h2⟩ := st
    exact ⟨k z (by simp) _ hz, k TI (by simp) _ hTI, ⟨x, y, k TO (by simp) _ hTO⟩, h1.at fun o q => k i1 (by simp) o q, h2.at fun o q => k i2 (by simp) o q⟩
  item := by
    intro X hP hw hK hc i pins s σ H E I hf st hg
    subst hP hw hK
    obtain ⟨hz, hTI, ⟨x0, y0, hTO⟩, h1, h2⟩ := st
    obtain ⟨xs, ys, x, y, hqx, hqy, hx, hy⟩ := hg
    obtain ⟨its, rv, p⟩ := seqB I hqx
    obtain ⟨its2, rv2, p2⟩ := seqB I hqy
    obtain ⟨u, hu, ru⟩ := rv.get hx
    obtain ⟨u2, hu2, ru2⟩ := rv2.get hy
    have hzl : z < s.heap.objs.size := Heap.lt_size hz
    have hh : X.A.in1.handled = none := I.ok.hd hc
    refine wpAny_pyNext_zipD2_item (sep_of D) (drawsB b1 hh i1 a D.l1i1 its.toArray) (drawsB b2 hh i2 b D.l2i2 its2.toArray) hz hTI hTO ⟨h1, p⟩ ⟨h2, p2⟩
      (by rw [List.size_toArray]; exact (List.getElem?_eq_some_iff.mp hu).1) (by rw [List.size_toArray]; exact (List.getElem?_eq_some_iff.mp hu2).1) fun x1 x2 h' tk hP1 hP2 z' TO' s1' s2' hT hsz hk => ?_
    have ex1 : x1 = u := by
      have hP' : its.toArray[i]? = some x1 := hP1
      rw [List.getElem?_toArray, hu] at hP'
      exact (Option.some.inj hP').symm
    have ex2 : x2 = u2 := by
      have hP' : its2.toArray[i]? = some x2 := hP2
      rw [List.getElem?_toArray, hu2] at hP'
      exact (Option.some.inj hP').symm
    subst ex1 ex2
    obtain ⟨h1', _⟩ := s1'
    obtain ⟨h2', _⟩ := s2'
    refine ⟨_, rfl, wpAny_letOwnedTupleGo_zip (s := { s with heap := h', toks := tk }) z' fun h'' z'' sb => ?_⟩
    have hT2 : h''.get? s.heap.objs.size = some { cls := .type "tuple", data := .seq #[x1, x2] } := (sb.2 _ (Nat.ne_of_gt hzl)).trans hT
    have new : ObjOk X.prog X.w (upd H s.heap.objs.size (.tup [x, y])) h'' s.heap.objs.size (.tup [x, y]) :=
      ⟨by show 2 ≤ sizeLine; decide, [x1, x2], .cons ru (.cons ru2 .nil), ⟨_, hT2, rfl, _, rfl⟩⟩
    have I1 : Inv X pins σ (upd H s.heap.objs.size (.tup [x, y])) { s with heap := h'', toks := tk } :=
      I.turnedNew (t' := tk) (ch := [z, TI, TO, i1, i2]) (fun c o hb q => (sb.2 c (fun q' => hb (by simp [q']))).trans (hk c o (fun q' => hb (by simp [q'])) (fun q' => hb (by simp [q'])) (fun q' => hb (by simp [q'])) (fun q' => hb (by simp [q'])) q)) hf (Nat.le_refl _) new
    refine ⟨.ref s.heap.objs.size, _, I1, rfl, ⟨_, x, y, rfl, I.hok.fresh (Nat.le_refl _), rfl, fun l hl => by rw [seqB_inj I hl hqx]; exact hx, fun l hl => by rw [seqB_inj I hl hqy]; exact hy⟩, ⟨z'', ?_, ⟨x1, x2, ?_⟩, ?_, ?_⟩, fun c hcm => ?_⟩
    · exact (sb.2 _ D.TIz).trans (hk _ _ D.TIz D.TITO D.TIi1 D.TIi2 hTI)
    · exact (sb.2 _ D.TOz).trans TO'
    · exact h1'.at fun o q => (sb.2 _ D.i1z).trans q
    · exact h2'.at fun o q => (sb.2 _ D.i2z).trans q
    · have hlt : c < s.heap.objs.size := by
        obtain ⟨o1, e1, _⟩ := h1.obj
        obtain ⟨o2, e2, _⟩ := h2.obj
        have e' : c = z ∨ c = TI ∨ c = TO ∨ c = i1 ∨ c = i2 := by simpa using hcm
        rcases e' with q | q | q | q | q
        · rw [q]; exact hzl
        · rw [q]; exact Heap.lt_size hTI
        · rw [q]; exact Heap.lt_size hTO
        · rw [q]; exact Heap.lt_size e1
        · rw [q]; exact Heap.lt_size e2
      rw [upd_ne (Nat.ne_of_lt hlt)]
      exact (hf c hcm).1
  done := by
    intro X hP hw hK hc i pins s σ H E I hf st hg
    subst hP hw hK
    obtain ⟨hz, hTI, ⟨x0, y0, hTO⟩, h1, h2⟩ := st
    obtain ⟨xs, ys, hqx, hqy, hle1, hle2, hend⟩ := hg
    obtain ⟨its, rv, p⟩ := seqB I hqx
    obtain ⟨its2, rv2, p2⟩ := seqB I hqy
    have l1 := rv.length
    have l2 := rv2.length
    have hh : X.A.in1.handled = none := I.ok.hd hc
    exact wpAny_pyNext_zipD2_end (sep_of D) (drawsB b1 hh i1 a D.l1i1 its.toArray) (drawsB b2 hh i2 b D.l2i2 its2.toArray) hz hTI hTO ⟨h1, p⟩ ⟨h2, p2⟩ (by simp; omega) (by simp; omega) (by simp; omega) fun h' tk hk =>
      ⟨rfl, I.turnedL (t' := tk) (ch := [z, TI, TO, i1, i2]) (fun c o hb q => hk c o (fun q' => hb (by simp [q'])) (fun q' => hb (by simp [q'])) (fun q' => hb (by simp [q'])) (fun q' => hb (by simp [q'])) q) hf⟩
  self := fun A i s Q E st h => wpAny_pyIter_zip st.1 h
def iZipB (K : PySem.W.Frag) (ta : TA) : TI := fun σ H R => ta σ H fun vs H1 => ∃ a b b1 b2 xs ys, vs = [.ref a, .ref b] ∧ SqB K b1 H1 a xs ∧ SqB K b2 H1 b ys ∧ R (ItzB K b1 b2 a b) H1
theorem pi_zipB {X : Cx} {K : PySem.W.Frag} {e e2 : Expr} {ta : TA} {p pos tpos : Pos} {elts : List Expr} {kk : Nat} (hK : X.K = K) (hg : Gl X "zip") (hm : X.mg "zip" = none) (ha : PA X [e, e2] ta)
    (hs : starEach [e, e2] X.env = (false, eval e X.env) :: starEach [e2] X.env := by rfl) (hpl : (backTo pos (starEach [e2] X.env)).any (·.1) = false := by rfl) :
    PI X (.Tuple elts kk tpos) (.Call (.Name "zip" p) [e, e2] [] pos) (iZipB K ta) := by
  subst hK
  refine ⟨fun pins s σ H R I h => ?_⟩
  refine Call_ (ld_blt I hg hm PyProof.Rows.boot_zip (PyProof.Rows.callWith_type1 (thn (ha.run pos pins s σ H _ I h) fun us s1 ⟨vs, H1, I1, r1, q1⟩ => ?_) hs hpl))
  obtain ⟨a, b, b1, b2, xs, ys, ex, hqx, hqy, q⟩ := q1
  subst ex
  cases r1 with
  | cons r rr =>
    cases rr with
    | cons r' rr =>
      cases rr
      cases r
      cases r'
      have fresh5 : ∀ c, c ∈ [s1.heap.objs.size + 4, s1.heap.objs.size + 2, s1.heap.objs.size + 3, s1.heap.objs.size, s1.heap.objs.size + 1] → FpOk X pins H1 c := fun c hcm => by
        have e' : c = s1.heap.objs.size + 4 ∨ c = s1.heap.objs.size + 2 ∨ c = s1.heap.objs.size + 3 ∨ c = s1.heap.objs.size ∨ c = s1.heap.objs.size + 1 := by simpa using hcm
        have hle : s1.heap.objs.size ≤ c := by
          rcases e' with z | z | z | z | z
          · rw [z]; exact Nat.le_add_right _ _
          · rw [z]; exact Nat.le_add_right _ _
          · rw [z]; exact Nat.le_add_right _ _
          · rw [z]; exact Nat.le_refl _
          · rw [z]; exact Nat.le_add_right _ _
        exact I1.fpOk hle (I1.hok.fresh hle)
      obtain ⟨its, rv, p1⟩ := seqB I1 hqx
      obtain ⟨its2, rv2, p2⟩ := seqB I1 hqy
      refine zip_begins2 (beginsB b1 a its.toArray) (beginsB b2 b its2.toArray) p1 p2 fun h' hz hTI hTO h1 h2 hsz hk => wpAny_pyIter_zip hz ?_
      have I2 : Inv X pins σ H1 { s1 with heap := h' } := I1.kept (t' := s1.toks) hk
      exact ⟨s1.heap.objs.size + 4, [s1.heap.objs.size + 4, s1.heap.objs.size + 2, s1.heap.objs.size + 3, s1.heap.objs.size, s1.heap.objs.size + 1], _, _, H1, rfl, I2, turn_zipB (PySem.W.ktu_apart s1.heap.objs.size a b p1.lt p2.lt), ⟨hz, hTI, ⟨_, _, hTO⟩, iterB0 h1, iterB0 h2⟩, fresh5, q⟩
theorem walk_zipB {K : PySem.W.Frag} {b1 b2 : Bool} {a b : Addr} {xs ys : List V} {n : Nat} (hn : n = min xs.length ys.length) : Walk (ItzB K b1 b2 a b) n (fun H => SqB K b1 H a xs ∧ SqB K b2 H b ys) (YPair (fun i => xs[i]?) (fun i => ys[i]?)) := by
  subst hn
  refine ⟨fun i _ hi q => ?_, fun _ q => ⟨xs, ys, q.1, q.2, by omega, by omega, by omega⟩, fun i H v H' _ q y => ?_⟩
  · have h1 : i < xs.length := by omega
    have h2 : i < ys.length := by omega
    exact ⟨xs, ys, xs[i], ys[i], q.1, q.2, by simp [h1], by simp [h2]⟩
  · obtain ⟨T, x, z, h1, h2, h3, h4, h5⟩ := y
    exact ⟨T, x, z, h1, h2, h3, h4 xs q.1, h5 ys q.2⟩
end U

namespace U
open PySem L2 PySem.Spec PyProof.Rows
section
variable {K : PySem.W.Frag} {σ : L2.St} {H : Hp} {a b A : Addr} {b1 b2 : Bool} {vs xs ys : List V} {g : TG} {tb : TS} {D : Ends} {R : It → Hp → Prop} {ta : TA} {tl : TE}
variable {tt : TT} {te : TE} {ns : List Nat} {Qd : Hp → Prop} {n : Nat}
/-! zip -/
theorem for_zB (hn : n = min xs.length ys.length) (Pv : Nat → L2.St → Hp → Prop) (h0 : Pv 0 σ H) (hG : ∀ i σ' H', Pv i σ' H' → SqB K b1 H' a xs ∧ SqB K b2 H' b ys)
    (hs : ∀ i x y σ' H' T H2, xs[i]? = some x → ys[i]? = some y → Pv i σ' H' → H' T = none → H2 T = some (.tup [x, y]) → Kp [] H' H2 → g (.ref T) σ' H2 fun σ2 H3 => tb { D with nx := Pv (i + 1), ct := Pv (i + 1), bk := D.nx } σ2 H3) (hd : ∀ σ' H', Pv n σ' H' → D.nx σ' H') :
    ∃ W : Nat → Nat → L2.St → Hp → Prop, (∃ m, W 0 m σ H) ∧ ∀ i m σ H, W i m σ H →
      ((ItzB K b1 b2 a b).stop i H ∧ D.nx σ H) ∨ ((ItzB K b1 b2 a b).go i H ∧ ∃ N : L2.St → Hp → Prop, (∀ σ' H', N σ' H' → ∃ m', m' < m ∧ W (i + 1) m' σ' H') ∧ ∀ x H', (ItzB K b1 b2 a b).yld i H x H' → g x σ H' fun σ2 H2 => tb { D with nx := N, ct := N, bk := D.nx } σ2 H2) :=
  for_it (walk_zipB hn) Pv h0 (fun i σ' H' _ p => hG i σ' H' p) (fun i x σ' H1 H2 hi p y => by
    obtain ⟨T, x1, x2, rfl, f, rfl, e1, e2⟩ := y
    exact hs i x1 x2 σ' H1 T _ e1 e2 p f upd_same (Kp.refl.new f)) hd
theorem lc_zB (hn : n = min xs.length ys.length) (hA : H A = none) (Pv : Nat → List V → Hp → Prop) (h0 : ∀ H', H' A = some (.lst []) → Kp [] H H' → Pv 0 [] H') (hG : ∀ i acc H', H' A = some (.lst acc) → Pv i acc H' → SqB K b1 H' a xs ∧ SqB K b2 H' b ys)
    (hs : ∀ i x y acc H' T H2, xs[i]? = some x → ys[i]? = some y → H' A = some (.lst acc) → Pv i acc H' → H' T = none → H2 T = some (.tup [x, y]) → Kp [] H' H2 → g (.ref T) (wipe σ ns) H2 fun σ2 H2 => wipe σ2 ns = wipe σ ns ∧ tt σ2 H2 fun b H3 =>
      if b = true then te σ2 H3 fun y H4 => ∃ acc, H4 A = some (.lst acc) ∧ acc.length < sizeLine ∧ PvD A Pv (i + 1) (upd H4 A (.lst (acc ++ [y]))) else PvD A Pv (i + 1) H3) (hd : ∀ acc H', H' A = some (.lst acc) → Pv n acc H' → Qd H') :
    ∃ W : Nat → Nat → Hp → Prop, (∃ m, W 0 m (upd H A (.lst []))) ∧ ∀ i m H, W i m H →
      ((ItzB K b1 b2 a b).stop i H ∧ Qd H) ∨ ((ItzB K b1 b2 a b).go i H ∧ ∃ Nx : Hp → Prop, (∀ H', Nx H' → ∃ m', m' < m ∧ W (i + 1) m' H') ∧ ∀ x H', (ItzB K b1 b2 a b).yld i H x H' → g x (wipe σ ns) H' fun σ2 H2 => wipe σ2 ns = wipe σ ns ∧ tt σ2 H2 fun b H3 =>
        if b = true then te σ2 H3 fun y H4 => ∃ acc, H4 A = some (.lst acc) ∧ acc.length < sizeLine ∧ Nx (upd H4 A (.lst (acc ++ [y]))) else Nx H3) :=
  lc_it (walk_zipB hn) (PvD A Pv) (PvD.begin hA h0) (fun i H' _ p => by
    obtain ⟨acc, ea, p⟩ := p
    exact hG i acc H' ea p) (fun i x H1 H2 hi p y => by
    obtain ⟨T, x1, x2, rfl, f, rfl, e1, e2⟩ := y
    obtain ⟨acc, ea, p⟩ := p
    exact hs i x1 x2 acc H1 T _ e1 e2 ea p f upd_same (Kp.refl.new f)) (fun H' p => by
    obtain ⟨acc, ea, p⟩ := p
    exact hd acc H' ea p)
theorem s_izB (h : ta σ H fun vs H1 => ∃ a b b1 b2 xs ys, vs = [.ref a, .ref b] ∧ SqB K b1 H1 a xs ∧ SqB K b2 H1 b ys ∧ R (ItzB K b1 b2 a b) H1) : iZipB K ta σ H R := h
theorem s_zB {S : Addr → Addr → Bool → Bool → Prop} (b1 b2 : Bool) (xs ys : List V) (h1 : SqB K b1 H a xs) (h2 : SqB K b2 H b ys) (q : S a b b1 b2) : ∃ a' b' b1 b2 xs ys, [V.ref a, V.ref b] = [.ref a', .ref b'] ∧ SqB K b1 H a' xs ∧ SqB K b2 H b' ys ∧ S a' b' b1 b2 := ⟨a, b, b1, b2, xs, ys, rfl, h1, h2, q⟩
theorem sqb_L (h : H a = some (.lst xs)) : SqB K false H a xs := SqL.of h
theorem sqb_T (h : H a = some (.tup xs)) : SqB K true H a xs := SqT.of h
theorem sqb_K (h : KT K a xs) : SqB K true H a xs := h.sq
/-! walks over tuples of the module -/
theorem s_itK {S : Addr → Prop} (h : KT K a xs) (q : S a) : ∃ a', V.ref a = .ref a' ∧ (∃ xs, SqT K H a' xs) ∧ S a' := ⟨a, rfl, ⟨xs, h.sq⟩, q⟩
theorem for_K (e : KT K a vs) (Pv : Nat → L2.St → Hp → Prop) (h0 : Pv 0 σ H)
    (hs : ∀ i x σ' H', vs[i]? = some x → Pv i σ' H' → g x σ' H' fun σ2 H2 => tb { D with nx := Pv (i + 1), ct := Pv (i + 1), bk := D.nx } σ2 H2) (hd : ∀ σ' H', Pv vs.length σ' H' → D.nx σ' H') :
    ∃ W : Nat → Nat → L2.St → Hp → Prop, (∃ m, W 0 m σ H) ∧ ∀ i m σ H, W i m σ H →
      ((Itt K a).stop i H ∧ D.nx σ H) ∨ ((Itt K a).go i H ∧ ∃ N : L2.St → Hp → Prop, (∀ σ' H', N σ' H' → ∃ m', m' < m ∧ W (i + 1) m' σ' H') ∧ ∀ x H', (Itt K a).yld i H x H' → g x σ H' fun σ2 H2 => tb { D with nx := N, ct := N, bk := D.nx } σ2 H2) :=
  for_it (walk_tup (xs := vs)) Pv h0 (fun i σ' H' _ p => e.sq) (fun i x σ' H1 H2 hi p y => by
    obtain ⟨rfl, ex⟩ := y
    exact hs i x σ' H2 ex p) hd
theorem lc_K (e : KT K a vs) (hA : H A = none) (Pv : Nat → List V → Hp → Prop) (h0 : ∀ H', H' A = some (.lst []) → Kp [] H H' → Pv 0 [] H')
    (hs : ∀ i x acc H', vs[i]? = some x → H' A = some (.lst acc) → Pv i acc H' → g x (wipe σ ns) H' fun σ2 H2 => wipe σ2 ns = wipe σ ns ∧ tt σ2 H2 fun b H3 =>
      if b = true then te σ2 H3 fun y H4 => ∃ acc, H4 A = some (.lst acc) ∧ acc.length < sizeLine ∧ PvD A Pv (i + 1) (upd H4 A (.lst (acc ++ [y]))) else PvD A Pv (i + 1) H3) (hd : ∀ acc H', H' A = some (.lst acc) → Pv vs.length acc H' → Qd H') :
    ∃ W : Nat → Nat → Hp → Prop, (∃ m, W 0 m (upd H A (.lst []))) ∧ ∀ i m H, W i m H →
      ((Itt K a).stop i H ∧ Qd H) ∨ ((Itt K a).go i H ∧ ∃ Nx : Hp → Prop, (∀ H', Nx H' → ∃ m', m' < m ∧ W (i + 1) m' H') ∧ ∀ x H', (Itt K a).yld i H x H' → g x (wipe σ ns) H' fun σ2 H2 => wipe σ2 ns = wipe σ ns ∧ tt σ2 H2 fun b H3 =>
        if b = true then te σ2 H3 fun y H4 => ∃ acc, H4 A = some (.lst acc) ∧ acc.length < sizeLine ∧ Nx (upd H4 A (.lst (acc ++ [y]))) else Nx H3) :=
  lc_it (walk_tup (xs := vs)) (PvD A Pv) (PvD.begin hA h0) (fun i H' _ p => e.sq) (fun i x H1 H2 hi p y => by
    obtain ⟨rfl, ex⟩ := y
    obtain ⟨acc, ea, p⟩ := p
    exact hs i x acc H2 ex ea p) (fun H' p => by
    obtain ⟨acc, ea, p⟩ := p
    exact hd acc H' ea p)
end
/-! written dicts of the module: texts to tuples of texts -/
structure KF (K : PySem.W.Frag) (w : World) (a : Addr) (f : Str → Option (List Str)) : Prop where
  ex : ∃ es n, KDict K w a es n
  hit : ∀ z xs, f z = some xs → ∃ t, PySem.W.nsIn K a z = some (some (.ref t)) ∧ KT K t (xs.map V.str)
  miss : ∀ z, f z = none → PySem.W.nsIn K a z = some none
def lk (l : List (Str × List Str)) (z : Str) : Option (List Str) := (l.find? fun p => p.1 == z).map Prod.snd
def Ents (K : PySem.W.Frag) (P : Params) : List DictEntry → List (Str × List Str) → Prop
  | [], [] => True
  | e :: r, kx :: s => ((∃ tk, e.key = .str kx.1 tk) ∧ e.hash = PyData.keyHash P kx.1 ∧ ∃ t, e.val = .ref t ∧ KT K t (kx.2.map V.str)) ∧ Ents K P r s
  | _, _ => False
theorem Ents.nil {K : PySem.W.Frag} {P : Params} : Ents K P [] [] := trivial
theorem Ents.cons {K : PySem.W.Frag} {P : Params} {e : DictEntry} {r : List DictEntry} {k : Str} {xs : List Str} {s : List (Str × List Str)} {t : Addr} (h1 : ∃ tk, e.key = .str k tk) (h2 : e.hash = PyData.keyHash P k) (h3 : e.val = .ref t) (h4 : KT K t (xs.map V.str)) (h5 : Ents K P r s) : Ents K P (e :: r) ((k, xs) :: s) :=
  ⟨⟨h1, h2, t, h3, h4⟩, h5⟩
theorem Ents.lit {K : PySem.W.Frag} {P : Params} : ∀ {es : List DictEntry} {l : List (Str × List Str)}, Ents K P es l → PySem.W.KeysLit P es
  | [], _, _ => trivial
  | _ :: _, [], h => h.elim
  | e :: r, kx :: s, ⟨⟨⟨tk, h1⟩, h2, _⟩, h3⟩ => ⟨⟨kx.1, tk, h1, h2⟩, Ents.lit h3⟩
theorem Ents.noref {K : PySem.W.Frag} {P : Params} : ∀ {es : List DictEntry} {l : List (Str × List Str)}, Ents K P es l → es.any (·.refKey) = false
  | [], _, _ => rfl
  | _ :: _, [], h => h.elim
  | e :: r, kx :: s, ⟨⟨⟨tk, h1⟩, h2, _⟩, h3⟩ => by
    rw [List.any_cons, Ents.noref h3, Bool.or_false]
    unfold DictEntry.refKey
    rw [h1]
theorem Ents.find {K : PySem.W.Frag} {P : Params} (z : Str) : ∀ {es : List DictEntry} {l : List (Str × List Str)}, Ents K P es l → match lk l z with
    | none => es.find? (·.key.isStr z) = none
    | some xs => ∃ e t, es.find? (·.key.isStr z) = some e ∧ e.val = .ref t ∧ KT K t (xs.map V.str)
  | [], [], _ => rfl
  | [], _ :: _, h => h.elim
  | _ :: _, [], h => h.elim
  | e :: r, kx :: s, ⟨⟨⟨tk, h1⟩, h2, t, h4, h5⟩, h3⟩ => by
    have hs : e.key.isStr z = (kx.1 == z) := by rw [h1]; rfl
    have ih := Ents.find z h3
    unfold lk at ih ⊢
    cases hb : (kx.1 == z) with
    | true =>
      rw [List.find?_cons_of_pos (by exact hb)]
      exact ⟨e, t, by rw [List.find?_cons_of_pos (by rw [hs]; exact hb)], h4, h5⟩
    | false =>
      rw [List.find?_cons_of_neg (by rw [hb]; simp), List.find?_cons_of_neg (by rw [hs, hb]; simp)]
      exact ih
theorem KF.mk' {K : PySem.W.Frag} {w : World} {a : Addr} {l : List (Str × List Str)} {es : Array DictEntry} {n : Nat} (hl : K.lookup a = some ⟨.type "dict", none, .dict es n, #[]⟩) (low : (a == sysModules) = false) (h : Ents K w.params es.toList l) : KF K w a (lk l) := by
  refine ⟨⟨es, n, hl, h.lit, low⟩, fun z xs e => ?_, fun z e => ?_⟩
  · have f := h.find z
    rw [e] at f
    obtain ⟨d, t, f1, f2, f3⟩ := f
    refine ⟨t, ?_, f3⟩
    unfold PySem.W.nsIn
    rw [hl]
    dsimp only
    rw [f1]
    dsimp only
    rw [f2]
  · have f := h.find z
    rw [e] at f
    unfold PySem.W.nsIn
    rw [hl]
    dsimp only
    rw [f]
    dsimp only
    rw [h.noref]
    rfl
def rInF (K : PySem.W.Frag) (w : World) (ng : Bool) : R2 := fun x y H Q => ∃ (d : Addr) (es : Array DictEntry) (n : Nat) (z : Str) (r : Option Value), x = .str z ∧ y = .ref d ∧ KDict K w d es n ∧ PySem.W.nsIn K d z = some r ∧ Q (.bl (xor ng r.isSome)) H
section
variable {X : Cx} {K : PySem.W.Frag} {w : World} {H : Hp} {Q : VK} {d : Addr} {f : Str → Option (List Str)} {z : Str} {xs : List Str}
theorem o_inF (hK : X.K = K) (hw : X.w = w) : OpR X (compareOp .In) (rInF K w false) := by
  subst hK hw
  intro pins s σ H x y v u Q I rx ry h
  obtain ⟨d, es, n, z, r, rfl, rfl, D, e, q⟩ := h
  exact op_in_kd D pins s σ H _ _ v u Q I rx ry ⟨z, r, rfl, rfl, e, by simpa using q⟩
theorem o_notinF (hK : X.K = K) (hw : X.w = w) : OpR X (compareOp .NotIn) (rInF K w true) := by
  subst hK hw
  intro pins s σ H x y v u Q I rx ry h
  obtain ⟨d, es, n, z, r, rfl, rfl, D, e, q⟩ := h
  exact op_notIn_kd D pins s σ H _ _ v u Q I rx ry ⟨z, r, rfl, rfl, e, by simpa using q⟩
theorem s_inF {ng : Bool} (h : KF K w d f) (q : Q (.bl (xor ng (f z).isSome)) H) : rInF K w ng (.str z) (.ref d) H Q := by
  obtain ⟨es, n, D⟩ := h.ex
  cases e : f z with
  | none => exact ⟨d, es, n, z, none, rfl, rfl, D, h.miss z e, by rw [e] at q; exact q⟩
  | some xs =>
    obtain ⟨t, e1, _⟩ := h.hit z xs e
    exact ⟨d, es, n, z, _, rfl, rfl, D, e1, by rw [e] at q; exact q⟩
theorem ix_F (hK : X.K = K) (hw : X.w = w) : IxR X (rIxD K w) := by
  subst hK hw
  exact ix_kdict
theorem s_ixF (h : KF K w d f) (e : f z = some xs) (q : ∀ t, KT K t (xs.map V.str) → Q (.ref t) H) : rIxD K w (.ref d) (.str z) H Q := by
  obtain ⟨es, n, D⟩ := h.ex
  obtain ⟨t, e1, e2⟩ := h.hit z xs e
  exact ⟨d, z, .ref t, rfl, rfl, ⟨es, n, _, D.at_, D.lit, e1, rfl⟩, q t e2⟩
end
/-! list.pop(0), str(x), tuple + tuple, isdigit, len of a tuple -/
section
variable {X : Cx} {K : PySem.W.Frag} {H : Hp} {Q : VK} {p a b : Addr} {xs ys : List V} {x : V} {z : Str} {n : Int} {o : Expr} {to : TE}
theorem s_pop0 (h : H p = some (.lst (x :: xs))) (q : ∀ H', H' p = some (.lst xs) → Kp [p] H H' → Q x H') : rPopAt (.ref p) [.int 0] H Q :=
  ⟨p, x :: xs, 0, 0, x, rfl, rfl, h, by decide, by decide, (by simp [seqIndex?]), rfl, put_abs h rfl (R := fun H' => Q x H') q⟩
def uStrA : List V → Hp → VK → Prop := fun xs H Q => uStr xs H Q ∨ ∃ a, xs = [.str a] ∧ Q (.str a) H
theorem c_strA : CallR X (.type "str") uStrA := by
  intro pins s σ H xs us Q I r h
  rcases h with h | h
  · exact c_str pins s σ H xs us Q I r h
  · exact SkE.call_str_str pins s σ H xs us Q I r h
theorem s_strS (q : Q (.str z) H) : uStrA [.str z] H Q := Or.inr ⟨z, rfl, q⟩
theorem s_cat (ha : H a = some (.tup xs)) (hb : H b = some (.tup ys)) (n1 : xs ≠ []) (n2 : ys ≠ []) (hz : xs.length + ys.length ≤ sizeLine) (q : ∀ p H', H p = none → H' p = some (.tup (xs ++ ys)) → Kp [] H H' → Q (.ref p) H') : uAdd K (.ref a) (.ref b) H Q :=
  Or.inr (Or.inr (Or.inr ⟨a, b, xs, ys, rfl, rfl, SqT.of ha, SqT.of hb, hz, fun e => (n1 e).elim, fun _ e => (n2 e).elim, fun _ _ => new_abs (R := fun p H' => Q (.ref p) H') q⟩))
theorem pe_isdg {apos pos : Pos} (ho : PE X o to) (hbase : attributeBase o "isdigit" X.env (eval o X.env) = eval o X.env := by rfl) (hline : (apos.endLine == pos.line) = true := by rfl) :
    PE X (.Call (.Attribute o "isdigit" apos) [] [] pos) (tM0 (fun x xs H Q => ∃ a, x = .str a ∧ xs = [] ∧ True ∧ Q (.bl (Txt.isdigit a)) H) to) :=
  pe_m0 F.slot_str_isdigit F.type_str_isdigit mt_isdigit ho hbase hline
theorem s_isdg (q : Q (.bl (Txt.isdigit z)) H) : ∃ a, V.str z = .str a ∧ ([] : List V) = [] ∧ True ∧ Q (.bl (Txt.isdigit a)) H := ⟨z, rfl, rfl, trivial, q⟩
end
/-! x == (), x a tuple of any things -/
def uEqE (K : PySem.W.Frag) : R2 := fun x y H Q => ∃ a b xs, x = .ref a ∧ y = .ref b ∧ SqT K H a xs ∧ SqT K H b [] ∧ Q (.bl xs.isEmpty) H
section
variable {X : Cx} {K : PySem.W.Frag} {H : Hp} {Q : VK} {a b : Addr} {xs : List V} {k : Nat}
theorem o_eqE (hK : X.K = K) (hr : Room k X.A) : OpR X (compareOp .Eq) (uEqE K) := by
  subst hK
  intro pins s σ H x y v u Q I rx ry h
  obtain ⟨a, b, xs, rfl, rfl, h1, h2, q⟩ := h
  cases rx
  cases ry
  obtain ⟨its, rv, p, _⟩ := I.tuple h1
  obtain ⟨its2, rv2, p2, _⟩ := I.tuple h2
  have e2 : its2 = [] := by cases rv2; rfl
  subst e2
  refine SeqAt.eq_tupleAt (e := fun _ => true) p p2 (Nat.lt_of_succ_lt (hu_of hr)) (fun j _ h => absurd h (by simp)) ⟨.bl xs.isEmpty, H, I, ?_, q⟩
  cases rv with
  | nil => rfl
  | cons r rr => exact congrArg Value.bool (by simp)
theorem s_eqE (h1 : H a = some (.tup xs)) (h2 : H b = some (.tup [])) (q : Q (.bl xs.isEmpty) H) : uEqE K (.ref a) (.ref b) H Q := ⟨a, b, xs, rfl, rfl, SqT.of h1, SqT.of h2, q⟩
end
end U

namespace U
open PySem L2 PySem.Spec PyProof.Rows
section
variable {K : PySem.W.Frag} {H H1 : Hp} {Q : VK} {p a b : Addr} {xs ys : List V} {z : Str}
/-- tuple + tuple, of any lengths -/
theorem s_catG (ha : H a = some (.tup xs)) (hb : H b = some (.tup ys)) (hz : xs.length + ys.length ≤ sizeLine) (q : ∀ p H', H' p = some (.tup (xs ++ ys)) → Kp [] H H' → Q (.ref p) H') : uAdd K (.ref a) (.ref b) H Q :=
  Or.inr (Or.inr (Or.inr ⟨a, b, xs, ys, rfl, rfl, SqT.of ha, SqT.of hb, hz, fun e => q b H (by rw [e]; exact hb) Kp.refl, fun _ e => q a H (by rw [e, List.append_nil]; exact ha) Kp.refl, fun _ _ => new_abs (R := fun p H' => Q (.ref p) H') fun p H' _ e k => q p H' e k⟩))
/-- list + list -/
theorem s_addL (h1 : H a = some (.lst xs)) (h2 : H b = some (.lst ys)) (h : xs.length + ys.length ≤ sizeLine)
    (z : ∀ p' H', H p' = none → H' p' = some (.lst (xs ++ ys)) → Kp [] H H' → Q (.ref p') H') : uAdd K (.ref a) (.ref b) H Q := s_addl h1 h2 h z
/-- list(tuple) -/
theorem s_listT (h : H p = some (.tup xs)) (q : ∀ l H', H l = none → H' l = some (.lst xs) → Kp [] H H' → Q (.ref l) H') : uList K [.ref p] H Q := ⟨p, xs, rfl, Or.inr (SqT.of h), fun l f => q l _ f upd_same (Kp.refl.new f)⟩
theorem dna_strs : ∀ zs : List Str, DnA K H (zs.map V.str) (zs.map PyData.str)
  | [] => .nil
  | z :: zs => .cons (.str z) (dna_strs zs)
theorem dna_rep {j : Int} : ∀ m : Nat, DnA K H (List.replicate m (V.int j)) (List.replicate m (.int j))
  | 0 => .nil
  | m + 1 => by rw [List.replicate_succ, List.replicate_succ]; exact .cons (.int j) (dna_rep m)
theorem lay_rep {j : Int} : ∀ m : Nat, PyData.canLayAll0 (List.replicate m (.int j)) = true ∧ PyData.depthAll (List.replicate m (.int j)) ≤ 1
  | 0 => ⟨rfl, by simp [PyData.depthAll]⟩
  | m + 1 => by
    obtain ⟨h1, h2⟩ := lay_rep (j := j) m
    rw [List.replicate_succ]
    refine ⟨by simp only [PyData.canLayAll0, PyData.canLay0, h1, Bool.and_self], ?_⟩
    simp only [PyData.depthAll, PyData.depth]
    omega
theorem shp_rep {j : Int} (m : Nat) : SeqAt.shaped (.list (List.replicate m (.int j))) = true := by
  obtain ⟨h1, h2⟩ := lay_rep (j := j) m
  unfold SeqAt.shaped
  rw [Bool.and_eq_true]
  refine ⟨by simpa only [PyData.canLay0] using h1, decide_eq_true ?_⟩
  simp only [PyData.depth]
  omega
theorem map_one (cs : List Nat) : cs.map (fun c => V.str ⟨#[c]⟩) = (cs.map fun c => (⟨#[c]⟩ : Str)).map V.str := by rw [List.map_map]; rfl
end
theorem cut_pre (xs : List V) {n : Int} (h0 : 0 ≤ n) : cutV xs none (some n) = xs.take n.toNat := by
  obtain ⟨k, rfl⟩ := Int.eq_ofNat_of_zero_le h0
  unfold cutV
  rw [HT.sIx_none, HT.sIx_nat, List.drop_zero]
  simp
theorem cut_tail (xs : List V) {n : Int} (h0 : 0 ≤ n) : cutV xs (some n) none = xs.drop n.toNat := by
  obtain ⟨k, rfl⟩ := Int.eq_ofNat_of_zero_le h0
  unfold cutV
  rw [HT.sIx_none, HT.sIx_nat]
  apply List.ext_getElem?
  intro i
  simp [List.getElem?_take, List.getElem?_drop]
  by_cases h : k ≤ xs.length
  · rw [Nat.min_eq_left h]
    by_cases h2 : i < xs.length - k
    · rw [if_pos h2]
    · rw [if_neg h2, List.getElem?_eq_none (by omega)]
  · rw [Nat.min_eq_right (by omega), if_neg (by omega), List.getElem?_eq_none (by omega)]
theorem S_tail (cs : List Nat) {n : Int} (h0 : 0 ≤ n) : cutS (S cs) (some n) none = S (cs.drop n.toNat) := by
  rw [S_cut]
  congr 1
  obtain ⟨k, rfl⟩ := Int.eq_ofNat_of_zero_le h0
  rw [HT.sIx_none, HT.sIx_nat]
  apply List.ext_getElem?
  intro i
  simp [List.getElem?_take, List.getElem?_drop]
  by_cases h : k ≤ cs.length
  · rw [Nat.min_eq_left h]
    by_cases h2 : i < cs.length - k
    · rw [if_pos h2]
    · rw [if_neg h2, List.getElem?_eq_none (by omega)]
  · rw [Nat.min_eq_right (by omega), if_neg (by omega), List.getElem?_eq_none (by omega)]
end U

namespace U
open PySem L2 PySem.Spec PyProof.Rows
/-! repr where an error is being handled -/
section
theorem call_reprU {X : Cx} (hg : X.A.guards = some []) (hu : X.A.units + 200 < cLine) (hs : ∃ mm, X.base.Ns sysModules mm) : CallR X (.builtin "repr") (rRepr X.K) := by
  rintro pi s σ H xs us Q I vv ⟨v, d, rfl, hd, g, dp, zz, q⟩
  obtain ⟨u, rfl, rv⟩ := Vals.one vv
  obtain ⟨sh, le⟩ := good_show g
  have le2 : d.shown.length ≤ sizeLine := Nat.le_trans (Nat.le_trans le zz) (by decide)
  cases hd with
  | non => cases rv; exact PySem.P.repr_of_none ⟨.str _, H, I.tok _, ⟨_, rfl⟩, q⟩
  | bl b => cases rv; exact PySem.P.repr_of_bool ⟨.str _, H, I.tok _, ⟨_, rfl⟩, q⟩
  | int i =>
    obtain ⟨t, rfl⟩ := rv
    simp only [PyData.showable, decide_eq_true_eq] at sh
    exact PySem.P.repr_of_int sh ⟨.str _, H, I.tok _, ⟨_, rfl⟩, q⟩
  | str x =>
    obtain ⟨t, rfl⟩ := rv
    exact PySem.P.repr_of_str ⟨.str _, H, I.tok _, ⟨_, rfl⟩, q⟩ le2
  | lst h1 h2 =>
    obtain ⟨as, r1, r2⟩ := Dn.reads I hs (.lst h1 h2) rv
    cases rv
    exact repr_of_reads' r1 sh (fun _ => r2) hg (by omega) (fun _ _ e => e) (fun h' u tk hk => ⟨.str _, H, I.kept hk, ⟨_, rfl⟩, q⟩) le2
  | tup h1 h2 =>
    obtain ⟨as, r1, r2⟩ := Dn.reads I hs (.tup h1 h2) rv
    cases rv
    exact repr_of_reads' r1 sh (fun _ => r2) hg (by omega) (fun _ _ e => e) (fun h' u tk hk => ⟨.str _, H, I.kept hk, ⟨_, rfl⟩, q⟩) le2
  | dic h1 h2 =>
    obtain ⟨as, r1, r2⟩ := Dn.reads I hs (.dic h1 h2) rv
    cases rv
    exact repr_of_reads' r1 sh (fun _ => r2) hg (by omega) (fun _ _ e => e) (fun h' u tk hk => ⟨.str _, H, I.kept hk, ⟨_, rfl⟩, q⟩) le2
theorem hu200 {k : Nat} {A : Around} {h : Option Value} (r : Room k A) : (A.mark h).units + 200 < cLine := by have := r.un; show A.units + 200 < cLine; omega
theorem o_eqU {X : Cx} {K : PySem.W.Frag} (hK : X.K = K) (hu : X.A.units + 200 < cLine) : OpR X (compareOp .Eq) (uEq K) := hK ▸ op_eq.or (op_eqD (by omega))
theorem o_neU {X : Cx} {K : PySem.W.Frag} (hK : X.K = K) (hu : X.A.units + 200 < cLine) : OpR X (compareOp .NotEq) (uNe K) := hK ▸ op_ne.or (op_neD (by omega))
theorem c_reprU {X : Cx} {K : PySem.W.Frag} (hK : X.K = K) (hg : X.A.guards = some []) (hu : X.A.units + 200 < cLine) (hs : ∃ mm, X.base.Ns sysModules mm) : CallR X (.builtin "repr") (rRepr K) := hK ▸ call_reprU hg hu hs
end
end U

namespace U
open PySem L2 PySem.Spec PyProof.Rows
/-! text * number; text.index(sign) -/
def rSmul : R2 := fun x y H Q => ∃ (a : Str) (n : Int), x = .str a ∧ y = .int n ∧ MulOk a n ∧ Q (.str (Txt.mul a n)) H
section
variable {X : Cx} {K : PySem.W.Frag} {H : Hp} {Q : VK} {z : Str}
theorem op_smul : OpR X (binaryOp .Mult) rSmul := by
  intro pins s σ H x y v u Q I rx ry h
  obtain ⟨a, n, rfl, rfl, hm, q⟩ := h
  obtain ⟨t, rfl⟩ := rx
  obtain ⟨u', rfl⟩ := ry
  exact SB.mul hm fun t' k => ⟨.str _, H, I.kept (h' := s.heap) (t' := k) fun _ _ e => e, ⟨_, rfl⟩, q⟩
def uMulS : R2 := fun x y H Q => uMul x y H Q ∨ rSmul x y H Q
theorem o_mulS : OpR X (binaryOp .Mult) uMulS := o_mul.or op_smul
theorem s_mulS0 (q : Q (.str Str.empty) H) : uMulS (.str z) (.int 0) H Q := Or.inr ⟨z, 0, rfl, rfl, ⟨by decide, fun h => absurd (by decide : (0 : Int) < 1) h, fun h => absurd (by decide : (0 : Int) < 1) h⟩, q⟩
theorem s_mulS1 (q : Q (.str z) H) : uMulS (.str z) (.int 1) H Q := Or.inr ⟨z, 1, rfl, rfl, ⟨by decide, fun _ h => by simp at h, fun _ h => by simp at h⟩, by
  have : Txt.mul z 1 = z := by unfold Txt.mul; simp
  rw [this]; exact q⟩
theorem s_mulI (h : uMul (.int i) (.int j) H Q) : uMulS (.int i) (.int j) H Q := Or.inl h
/-- list * number -/
theorem s_repL {l : Addr} {k : Int} {xs : List V} (h : H l = some (.lst xs)) (h0 : 0 ≤ k) (h1 : k ≤ 1000) (hz : xs.length * k.toNat ≤ 1000000) (q : ∀ p H', H p = none → H' p = some (.lst (List.replicate k.toNat xs).flatten) → Kp [] H H' → Q (.ref p) H') : uMul (.ref l) (.int k) H Q :=
  Or.inr ⟨l, k, xs, rfl, rfl, h, by omega, by omega, zle hz, new_abs (R := fun p H' => Q (.ref p) H') q⟩
theorem pe_sidx {o e : Expr} {to te : TE} {apos pos : Pos} (ho : PE X o to) (he : PE X e te) (h1 : starEach [e] X.env = [(false, eval e X.env)] := by rfl) (h2 : attributeBase o "index" X.env (eval o X.env) = eval o X.env := by rfl) (hline : (apos.endLine == pos.line) = true := by rfl) :
    PE X (.Call (.Attribute o "index" apos) [e] [] pos) (tM1 (fun x xs H Q => ∃ a b i rest, x = .str a ∧ xs = [.str b] ∧ Builtin.Str.occurrences a b 0 a.length 1 = i :: rest ∧ Q (.int (i : Nat)) H) to te) :=
  pe_m1 F.slot_str_index F.type_str_index mt_sindex ho he h1 h2 hline
theorem dig_occ : ∀ c ∈ List.range' 48 10, Builtin.Str.occurrences "0123456789" ⟨#[c]⟩ 0 ("0123456789" : Str).length 1 = [c - 48] := by decide +kernel
theorem s_digI {c : Nat} (h0 : 48 ≤ c) (h1 : c ≤ 57) (q : Q (.int ((c - 48 : Nat) : Int)) H) : ∃ a b i rest, V.str ("0123456789" : Str) = .str a ∧ [V.str (⟨#[c]⟩ : Str)] = [.str b] ∧ Builtin.Str.occurrences a b 0 a.length 1 = i :: rest ∧ Q (.int (i : Nat)) H :=
  ⟨_, _, c - 48, [], rfl, rfl, dig_occ c (by rw [List.mem_range']; exact ⟨c - 48, by omega, by omega⟩), q⟩
end
end U

namespace U
open PySem L2 PySem.Spec PyProof.Rows
/-! any list against [] -/
def uNeE (K : PySem.W.Frag) : R2 := fun x y H Q => ∃ a b xs, x = .ref a ∧ y = .ref b ∧ SqL K H a xs ∧ SqL K H b [] ∧ Q (.bl (!xs.isEmpty)) H
section
variable {X : Cx} {K : PySem.W.Frag} {H : Hp} {Q : VK} {a b : Addr} {xs : List V} {k : Nat}
theorem o_neE (hK : X.K = K) (hr : Room k X.A) : OpR X (compareOp .NotEq) (uNeE K) := by
  subst hK
  intro pins s σ H x y v u Q I rx ry h
  obtain ⟨a, b, xs, rfl, rfl, h1, h2, q⟩ := h
  cases rx
  cases ry
  obtain ⟨its, rv, p, _⟩ := I.list h1
  obtain ⟨its2, rv2, p2, _⟩ := I.list h2
  have e2 : its2 = [] := by cases rv2; rfl
  subst e2
  have p := p.isList
  have p2 := p2.isList
  have hu : X.A.units < cLine := Nat.lt_of_succ_lt (hu_of hr)
  cases rv with
  | nil => exact SeqAt.RcNeAt.lists (e := fun _ => false) p p2 rfl hu (fun j h _ => absurd h (by simp)) _ _ _ _ ⟨.bl false, H, I, rfl, q⟩
  | cons r rr => exact SeqAt.RcNeAt.lists_lengths p p2 (by simp) hu _ _ _ _ ⟨.bl true, H, I, rfl, q⟩
theorem s_neE (h1 : H a = some (.lst xs)) (h2 : H b = some (.lst [])) (q : Q (.bl (!xs.isEmpty)) H) : uNeE K (.ref a) (.ref b) H Q := ⟨a, b, xs, rfl, rfl, SqL.of h1, SqL.of h2, q⟩
end
/-! text * number, any small ones -/
theorem s_mulSn {H : Hp} {Q : VK} {z : Str} {n : Nat} (h1 : 1 < n) (h2 : n ≤ 1000) (hz : z.length ≤ 1000) (h0 : 0 < z.length) (q : ∀ r : Str, r.length = z.length * n → (∀ c ∈ r.cps.toList, c ∈ z.cps.toList) → Q (.str r) H) : uMulS (.str z) (.int (n : Int)) H Q := by
  have hp : z.length * n ≤ 1000 * 1000 := Nat.mul_le_mul hz h2
  refine Or.inr ⟨z, n, rfl, rfl, ⟨?_, fun _ _ => ?_, fun _ _ => ?_⟩, ?_⟩
  · simp only [Bool.or_eq_false_iff, decide_eq_false_iff_not]
    omega
  · have : (2 ^ 63 - 1) / 1000 ≤ (2 ^ 63 - 1) / (n : Int) := by
      apply Int.le_ediv_of_mul_le (by omega)
      have : ((2 ^ 63 - 1) / 1000 : Int) * (n : Int) ≤ ((2 ^ 63 - 1) / 1000 : Int) * 1000 := Int.mul_le_mul_of_nonneg_left (by omega) (by decide)
      omega
    have e : ((2 ^ 63 - 1) / 1000 : Int) = 9223372036854775 := by decide
    omega
  · unfold Builtin.Str.tooLong
    have : z.length * (n : Int).toNat ≤ sizeLine := zle (by rw [Int.toNat_natCast]; omega)
    simpa using this
  · have e : Txt.mul z n = ⟨(List.replicate n z.cps).foldl (· ++ ·) #[]⟩ := by
      unfold Txt.mul
      rw [if_neg (by omega), if_neg (by
        simp only [Bool.or_eq_true, beq_iff_eq]
        omega), Int.toNat_natCast]
    have key : ∀ (m : Nat) (acc : Array Nat), ((List.replicate m z.cps).foldl (· ++ ·) acc).toList = acc.toList ++ (List.replicate m z.cps.toList).flatten := by
      intro m
      induction m with
      | zero => intro acc; simp
      | succ m ih => intro acc; rw [List.replicate_succ, List.foldl_cons, ih, List.replicate_succ]; simp
    rw [e]
    refine q _ ?_ fun c hc => ?_
    · have := congrArg List.length (key n #[])
      rw [Array.length_toList] at this
      show Array.size _ = _
      rw [this]
      have e2 : z.cps.size = z.length := rfl
      simp [e2, Nat.mul_comm]
    · have hc : c ∈ ((List.replicate n z.cps).foldl (· ++ ·) #[]).toList := hc
      rw [key] at hc
      simp only [List.nil_append, List.mem_flatten, List.mem_replicate] at hc
      obtain ⟨l, ⟨_, rfl⟩, hc⟩ := hc
      exact hc
end U

namespace U
open PySem L2 PySem.Spec PyProof.Rows
/-! list(text) -/
def uListZ : List V → Hp → VK → Prop := fun xs H Q => ∃ z : Str, xs = [.str z] ∧ z.length ≤ sizeLine ∧ ∀ l, H l = none → Q (.ref l) (upd H l (.lst (z.cps.toList.map fun c => V.str ⟨#[c]⟩)))
section
variable {X : Cx} {K : PySem.W.Frag} {H : Hp} {Q : VK}
theorem c_listZ (hc : X.calm = true) : CallR X (.type "list") uListZ := by
  intro pins s σ H xs us Q I r h
  obtain ⟨z, rfl, hz, q⟩ := h
  obtain ⟨u, eu, rx⟩ := vals1 r
  subst eu
  obtain ⟨tz, rfl⟩ := rx
  refine call_list_str (I.ok.hd hc) z _ (hn := hz) fun h' tk acc' c' hk hS hacc => ?_
  refine ⟨.ref s.heap.objs.size, upd H s.heap.objs.size (.lst (z.cps.toList.map fun c => V.str ⟨#[c]⟩)), I.laid hk (Nat.le_refl _) (show ObjOk X.prog X.w _ _ _ (.lst (z.cps.toList.map fun c => V.str ⟨#[c]⟩)) from ⟨?_, acc'.toList, c', ?_, ?_⟩), rfl, q _ (I.hok.fresh (Nat.le_refl _))⟩
  · rw [List.length_map, Array.length_toList]
    exact hz
  · refine vals_of_at (by rw [List.length_map, Array.length_toList, Array.length_toList, hacc.1]) fun m x w h1 h2 => ?_
    obtain ⟨c, tk', ec, ew⟩ := hacc.2 m w (by rw [← Array.getElem?_toList]; exact h2)
    rw [List.getElem?_map, Array.getElem?_toList, ec] at h1
    cases h1
    subst ew
    exact ⟨tk', rfl⟩
  · simpa using hS
theorem s_listZ {z : Str} (h : z.length ≤ sizeLine) (q : ∀ l H', H l = none → H' l = some (.lst (z.cps.toList.map fun c => V.str ⟨#[c]⟩)) → Kp [] H H' → Q (.ref l) H') : uListZ [.str z] H Q :=
  ⟨z, rfl, h, new_abs (R := fun p H' => Q (.ref p) H') q⟩
end
end U

namespace U
open PySem L2 PySem.Spec PyProof.Rows
/-! an error that leaves a list comprehension -/
section
variable {X : Cx} {pins : List (Addr × Obj)} {σ : L2.St} {H : Hp} {s : Shared}
theorem Inv.xe {xe : Value → Shared → Prop} (I : Inv X pins σ H s) : Inv { X with xe := xe } pins σ H s := by
  obtain ⟨ok, a1, a2, a3, a4, a5, a6, a7, a8, a9, a10⟩ := I
  obtain ⟨b1, b2, b3, b4, b5, b6, b7, b8, b9, b10, b11, b12, b13, b14, b15, b16, b17, b18⟩ := ok
  exact ⟨⟨b1, b2, b3, b4, b5, b6, b7, b8, b9, b10, b11, b12, b13, b14, b15, b16, b17, b18⟩, a1, a2, a3, a4, a5, a6, a7, a8, a9, a10⟩
theorem noteFrame_eq {e : Value} {a b : Env} (h : a.frame = b.frame) : noteFrame e a = noteFrame e b := by
  unfold noteFrame PySem.frameOf
  rw [h]
/-- as the kit's compPost, with the frame of the block -/
def cPost (M : Model) (A : Around) (E : Value → Shared → Prop) (F : Option Addr) (use : Option (Value → Sem Unit)) (Q : Value → Shared → Prop) (acc : Value) (C : Addr) (r : Result) (s' : Shared) : Prop :=
  match r, use with
  | .ok _, none => ∃ m, s'.heap.Ns C m ∧ ∀ h', Heap.SameBut C s'.heap h' → Q acc { s' with heap := h' }
  | .ok _, some u => wpAny M A (u acc) (fun _ s'' => ∃ m, s''.heap.Ns C m ∧ ∀ h', Heap.SameBut C s''.heap h' → Q .none { s'' with heap := h' }) E s'
  | .error x, _ => ∃ m, s'.heap.Ns C m ∧ ∀ h', Heap.SameBut C s'.heap h' → ∀ cenv : Env, cenv.frame = F → wpAny M A (passOn "comprehension.variables-let-go" x cenv : Sem Value) (fun _ _ => False) E { s' with heap := h' }

theorem comp_freeX {M : Model} {A : Around} {E : Value → Shared → Prop} {s : Shared} {env : Env} {e : Expr} {scope : Scope} {pos : Pos} {newAcc first : Sem Value} {g : Comprehension} {gs : List Comprehension} {cl : List (Str × Addr)} {use : Option (Value → Sem Unit)}
    {Q : Value → Shared → Prop}
    (hcl : clausesOf e = g :: gs) (hs : ∀ x, foldedSetIterable g.iter env x = pure x) (hclos : closureFor scope env = pure cl)
    (hkind : scope.kind = .function) (hnames : ∀ x ∈ scope.names, x.2 = .local → scope.names.lookup x.1 = some .local)
    (h : wpAny M A first (fun x s₁ => wpAny M A (pyIter x) (fun it s₂ => wpAny M A newAcc (fun acc s₃ =>
      wpAny M A (newFunctionEnv scope env.globals cl [] env.qual none .none (some env)) (fun cenv s₄ =>
        codeAny M A (.compStart e 0 it acc { cenv with scope := relabel scope env }) (cPost M A E cenv.frame use Q acc cenv.locals) s₄) E s₃) E s₂) E s₁) E s) :
    wpAny M A (comprehension e scope env pos newAcc false first use) Q E s := by
  unfold comprehension
  rw [hclos, hcl]
  refine wpAny_bind (wpAny_mono h (fun x s₁ h₁ => wpAny_bind (wpAny_standAt (wpAny_bind (wpAny_of_eq (hs x) (wpAny_bind (wpAny_holding (wpAny_mono h₁ (fun it s₂ h₂ =>
    wpAny_standIf (wpAny_bind (wpAny_mono h₂ (fun acc s₃ h₃ => wpAny_bind (wpAny_pure (wpAny_bind (wpAny_mono h₃ (fun cenv s₄ h₄ => ?_) fun _ _ h' => h')))) fun _ _ h' => h')))
      fun _ _ h' => h'))))))) fun _ _ h' => h')
  dsimp only
  have hv : ∀ x ∈ (scope.names.filter fun x => (x.2 == .local || x.2 == .cell) && x.1 != (".0" : Str)).reverse, x.2 = .local →
      Env.kindOf { cenv with scope := relabel scope env } x.1 = some .local := fun x hx hl => lookup_relabel_local (hnames x (List.mem_filter.mp (List.mem_reverse.mp hx)).1 hl)
  have hv' : ∀ x ∈ (scope.names.filter fun x => (x.2 == .local || x.2 == .cell) && x.1 != (".0" : Str)).reverse.drop 1 ++ (scope.names.filter fun x => (x.2 == .local || x.2 == .cell) && x.1 != (".0" : Str)).reverse.take 1,
      x.2 = .local → Env.kindOf { cenv with scope := relabel scope env } x.1 = some .local := fun x hx hl => by
    rcases List.mem_append.mp hx with h1 | h1
    · exact hv x (List.mem_of_mem_drop h1) hl
    · exact hv x (List.mem_of_mem_take h1) hl
  refine wpAny_holding (wpAny_bind (wpAny_attempt (wpAny_holding (wpAny_run (codeAny_mono h₄ fun r s' hr => ?_)))))
  cases r with
  | ok f =>
    cases use with
    | none =>
      obtain ⟨m, hn, hr⟩ := hr
      exact wpAny_bind (wpAny_holding (wpAny_comp_letGo (cenv := { cenv with scope := relabel scope env }) hkind _ s' m hv hn fun h' m' _ hs' => wpAny_pure (hr h' hs')))
    | some u =>
      refine wpAny_bind (wpAny_rule (wpAny_bind (wpAny_holding (wpAny_mono hr (fun _ s'' hr' => ?_) fun _ _ h' => h'))))
      obtain ⟨m, hn, hr'⟩ := hr'
      exact wpAny_bind (wpAny_comp_letGo (cenv := { cenv with scope := relabel scope env }) hkind _ s'' m hv' hn fun h' m' _ hs' => wpAny_pure (hr' h' hs'))
  | error x =>
    have hr' : ∃ m, s'.heap.Ns cenv.locals m ∧ ∀ h', Heap.SameBut cenv.locals s'.heap h' → ∀ cenv' : Env, cenv'.frame = cenv.frame → wpAny M A (passOn "comprehension.variables-let-go" x cenv' : Sem Value) (fun _ _ => False) E { s' with heap := h' } := by cases use <;> exact hr
    obtain ⟨m, hn, hr⟩ := hr'
    exact wpAny_bind (wpAny_holding (wpAny_comp_letGo (cenv := { cenv with scope := relabel scope env }) hkind _ s' m hv hn fun h' m' _ hs' => wpAny_mono (hr h' hs' _ rfl) (fun _ _ f => f.elim) fun _ _ y => y))

theorem funFrames_but {base B h h' : Heap} {C : Addr} : ∀ {l : List Env}, h.FunFrames base l → (∀ L ∈ frs l, B.get? L = none) → (∀ b o, b ≠ C → h.get? b = some o → h'.get? b = some o) → C ∉ frs l → h'.FunFrames B l
  | [], _, _, _, _ => trivial
  | env :: l, h, hn, k, hC => by
    obtain ⟨hk, ⟨L, o, hf, _, ho, hd⟩, hr⟩ := h
    have mL : L ∈ frs (env :: l) := List.mem_filterMap.mpr ⟨env, List.mem_cons_self, hf⟩
    have up : ∀ b, b ∈ frs l → b ∈ frs (env :: l) := fun b hb => by
      obtain ⟨e, he, q⟩ := List.mem_filterMap.mp hb
      exact List.mem_filterMap.mpr ⟨e, List.mem_cons_of_mem _ he, q⟩
    exact ⟨hk, ⟨L, o, hf, hn L mL, k L o (fun z => hC (z ▸ mL)) ho, hd⟩, funFrames_but hr (fun b hb => hn b (up b hb)) k fun z => hC (up C z)⟩
/-- the block's context, with a place for errors -/
abbrev blx (X : Cx) (s : Shared) (H : Hp) (scope : Scope) (cenv : Env) (fp : List Addr) (xe : Value → Shared → Prop) : Cx := { X.blk s H scope cenv fp with xe := xe }

/-- a callee's error in the block leaves the comprehension -/
theorem blx_passes {E : XK} {scope : Scope} {ce : Env} {fp : List Addr} {use : Option (Value → Sem Unit)} {Qf : Value → Shared → Prop} {acc : Value} (hs : X.stack = X.env :: X.outer) (hf : X.env.frame = some X.env.locals) (tk : Takes X (wE E))
    (I3 : Inv X pins σ H s) (f3 : ∀ b ∈ fp, FpOk X pins H b) (hF : ce.frame = X.env.frame) (hC : ce.locals = s.heap.objs.size) :
    Passes (L2.CX X.prog X.w) (blx X s H scope ce fp (notedBy (model X.prog X.w) X.A ce fun e s' => cPost (model X.prog X.w) X.A X.xe X.env.frame use Qf acc s.heap.objs.size (.error e) s')) E := by
  intro pins' σ' H' s1 e s' I c
  obtain ⟨a, B, H2, cls, d, rfl, fl, hok, ub, na, os, ag, hE⟩ := c
  obtain ⟨G, g1, g2⟩ := restrict s'.heap fun b => (B.get? b).isSome || decide (b ∈ frs X.stack)
  have st : B.StaysIn s'.heap := fl.1
  have gB : ∀ b o, B.get? b = some o → G.get? b = some o := fun b o e => by
    rw [g1 b (by simp [e])]
    exact st b o e
  have gF : ∀ b, b ∈ frs X.stack → G.get? b = s'.heap.get? b := fun b hb => g1 b (by simp [hb])
  have og : ∀ b o, G.get? b = some o → s'.heap.get? b = some o ∧ ((B.get? b).isSome = true ∨ b ∈ frs X.stack) := fun b o e => by
    cases q : ((B.get? b).isSome || decide (b ∈ frs X.stack)) with
    | false => rw [g2 b q] at e; cases e
    | true =>
      rw [g1 b q] at e
      exact ⟨e, by simpa [Bool.or_eq_true] using q⟩
  have nb : ∀ b o, G.get? b = some o → b ∉ frs X.stack → B.get? b = some o := fun b o e hb => by
    obtain ⟨e', h⟩ := og b o e
    rcases h with h | h
    · obtain ⟨o', q⟩ := Option.isSome_iff_exists.mp h
      have z := st b o' q
      rw [e'] at z; cases z
      exact q
    · exact absurd h hb
  have IB : Inv (blx X s H scope ce fp (notedBy (model X.prog X.w) X.A ce fun e s' => cPost (model X.prog X.w) X.A X.xe X.env.frame use Qf acc s.heap.objs.size (.error e) s')) pins' σ' H2 { s1 with heap := G, gens := s'.gens, drawn := s'.drawn, toks := s'.toks } := by
    refine I.call (ch := []) ⟨fun b o e n hb _ => gB b o (ub.keep b o e n hb), fun b o e n hb _ => ?_, fun b o e n _ => ub.free b o e n, fun b o e _ => ?_, ub.tups, ub.frzs, ub.tbls⟩ (hok.kept gB) ag (fun _ z => nomatch z)
    · obtain ⟨sl, q⟩ := ub.slot b o e hb
      exact ⟨sl, by rw [gF b hb]; exact q⟩
    · by_cases hb : b ∈ frs X.stack
      · obtain ⟨sl, q⟩ := ub.slot b o e hb
        exact ⟨_, by rw [gF b hb]; exact q⟩
      · obtain ⟨o', q⟩ := ub.there b o e hb
        exact ⟨o', gB b o' q⟩
  have hfr : X.A.frames = some (X.env :: X.outer) := by rw [I3.ok.frames, hs]
  show wpAny _ _ (noteFrame (.ref a) ce) _ _ _
  rw [noteFrame_eq hF]
  rw [hs] at fl
  refine HandSPX.looks_onZ Zc.steady hfr hf fl fun h1 held up1 => ?_
  obtain ⟨m, hn, _⟩ := IB.loc
  have hn : G.Ns ce.locals m := hn
  rw [hC] at hn
  generalize hCC : s.heap.objs.size = C at *
  have nC : C ∉ frs X.stack := fun hm => by
    obtain ⟨_, o, ho, _⟩ := I3.stack.mem hm
    have := Heap.lt_size ho
    rw [hCC] at this
    exact Nat.lt_irrefl _ this
  have hn1 : h1.Ns C m := by
    obtain ⟨o, es, ep, ho, r⟩ := hn
    exact ⟨o, es, ep, held.1 _ _ (nb _ _ ho nC), r⟩
  refine ⟨m, hn1, fun h' sb cenv e1 => ?_⟩
  -- without the block's names
  obtain ⟨B2, b1, b2⟩ := restrict B fun b => !decide (b = C)
  obtain ⟨G2, c1, c2⟩ := restrict G fun b => !decide (b = C)
  have BB : ∀ b o, B2.get? b = some o → B.get? b = some o ∧ b ≠ C := fun b o e => by
    by_cases z : b = C
    · rw [b2 b (by simp [z])] at e; cases e
    · rw [b1 b (by simp [z])] at e; exact ⟨e, z⟩
  have GG : ∀ b o, G2.get? b = some o → G.get? b = some o ∧ b ≠ C := fun b o e => by
    by_cases z : b = C
    · rw [c2 b (by simp [z])] at e; cases e
    · rw [c1 b (by simp [z])] at e; exact ⟨e, z⟩
  have BN : ∀ b, B.get? b = none → B2.get? b = none := fun b e => by
    cases q : B2.get? b with
    | none => rfl
    | some o => rw [(BB b o q).1] at e; cases e
  obtain ⟨k1, k2, k3, oe, vs, T, oT, ts, he, hz, hd, hv1, hnT, hTe, hT, hdT, h3⟩ := held
  have hCB : ∃ o, B.get? C = some o := by
    obtain ⟨o, es, ep, ho, r⟩ := hn
    exact ⟨o, nb _ _ ho nC⟩
  have aC : a ≠ C := fun z => by
    obtain ⟨o, q⟩ := hCB
    rw [z, q] at k2; cases k2
  have TC : T ≠ C := fun z => by
    obtain ⟨o, q⟩ := hCB
    rw [z, q] at hnT; cases hnT
  have he' : h'.get? a = some oe := (sb.2 a aC).trans he
  have hT' : h'.get? T = some oT := (sb.2 T TC).trans hT
  have k1' : B2.StaysIn h' := fun b o e => (sb.2 b (BB b o e).2).trans (k1 b o (BB b o e).1)
  have k3' : h'.FunFrames B2 (X.env :: X.outer) := funFrames_but k3 (fun b hb => BN b (k3.mem hb).1) (fun b o hb e => (sb.2 b hb).trans e) (by rw [← hs]; exact nC)
  unfold PySem.passOn
  refine wpAny_bind (wpAny_field he' hd hv1 ?_)
  rw [if_neg (show ¬ ((Value.ref T == Value.none) = true) from by simp)]
  rw [e1, hf]
  refine wpAny_bind (HandSPX.setFlight_anyZ k1' k3' ⟨oe, vs, T, oT, ts, he', hz, hd, hv1, BN _ hnT, hTe, hT', hdT, h3⟩ fun h2 z1 z2 z3 z4 => ?_)
  refine wpAny_throw (tk _ _ ?_)
  have IX : Inv X pins σ H2 { s1 with heap := G, gens := s'.gens, drawn := s'.drawn, toks := s'.toks } :=
    I3.call' (ch := fp) IB.os IB.base IB.hok IB.bare fun b hb => ⟨(f3 b hb).2.2.2.1, (f3 b hb).2.1, (f3 b hb).2.2.2.2.1, (f3 b hb).2.2.2.2.2⟩
  have hC2 : H2 C = none := by
    have z : H2 ce.locals = none := IB.free
    rw [hC] at z
    exact z
  obtain ⟨q0, q1, q2, q3, q4, q5⟩ := I3.fpOk (b := C) (H' := H2) (Nat.le_of_eq hCC) hC2
  have IY := IX.turned (t' := s'.toks) (h' := G2) (it := C) (fun b o hb e => by rw [c1 b (by simp [hb])]; exact e) q0 q1 q3 q4 q5
  refine ⟨a, B2, _, pins, σ, H2, cls, d, rfl, IY, fun b o e hb => ?_, fun b o e hnf => ?_, ?_, na, os, ag, hE⟩
  · obtain ⟨e', z⟩ := GG b o e
    rw [b1 b (by simp [z])]
    exact nb b o e' hb
  · obtain ⟨e', z⟩ := GG b o e
    obtain ⟨sl, e2⟩ := up1 b o (og b o e').1 hnf
    obtain ⟨sl2, e3⟩ := z4 b _ ((sb.2 b z).trans e2) hnf
    exact ⟨sl2, e3⟩
  · rw [hs]
    exact .inr (.inr ⟨z1, BN _ k2, z2, z3⟩)
end
section
variable {X : Cx}
theorem lc_coreX {E : XK} {pins : List (Addr × Obj)} {s : Shared} {σ : L2.St} {H : Hp} {Q : VK} {elt tg iter : Expr} {ifs : List Expr} {scope : Scope} {own : List (Str × Nat)} {pos pos' : Pos} {wi : TI} {g : TG} {tt : TT} {te : TE} {use : Option (Value → Sem Unit)} {Qf : Value → Shared → Prop}
    (hs0 : X.stack = X.env :: X.outer) (hf0 : X.env.frame = some X.env.locals) (tk : Takes X (wE E))
    (hc : X.calm = true) (hN : X.N.Nodup) (I : Inv X pins σ H s) (hi : PI X tg iter wi) (ok : BlkOk X.N X.env.scope scope own)
    (hg : ∀ (s : Shared) (H : Hp) (C : Addr) (cl : List (Str × Addr)) (fp : List Addr) (xe : Value → Shared → Prop), PG (blx X s H scope (compEnvC scope cl C X.env) fp xe) tg g)
    (ht : ∀ (s : Shared) (H : Hp) (C : Addr) (cl : List (Str × Addr)) (fp : List Addr) (xe : Value → Shared → Prop), Passes (L2.CX X.prog X.w) (blx X s H scope (compEnvC scope cl C X.env) fp xe) E → PTs (blx X s H scope (compEnvC scope cl C X.env) fp xe) ifs tt)
    (he : ∀ (s : Shared) (H : Hp) (C : Addr) (cl : List (Str × Addr)) (fp : List Addr) (xe : Value → Shared → Prop), Passes (L2.CX X.prog X.w) (blx X s H scope (compEnvC scope cl C X.env) fp xe) E → PE (blx X s H scope (compEnvC scope cl C X.env) fp xe) elt te) (hs : ∀ x, foldedSetIterable iter X.env x = pure x)
    (h : tLc wi g tt te (own.map (·.2)) σ H Q)
    (hRR : ∀ D C s' m H', Inv X pins σ H' s' → Q (.ref D) H' → s'.heap.Ns C m → FpOk X pins H' C → cPost (model X.prog X.w) X.A X.xe X.env.frame use Qf (.ref D) C (.ok .next) s') :
    wpAny (model X.prog X.w) X.A (comprehension (.ListComp elt [⟨tg, iter, ifs, 0⟩] scope pos) scope X.env pos' (newList []) false (eval iter X.env) use) Qf X.xe s := by
  have hfree : ∀ y ∈ scope.names, y.2 = .free → ∃ c, X.env.cells.lookup y.1 = some c := fun y hy e => by
    rcases ok.free y hy e with k | k
    · exact I.ok.has _ (.inl k)
    · exact I.ok.has _ (.inr k)
  refine comp_freeX (use := use) rfl hs (closure_ok hfree) ok.kind (fun y hy e => by rw [ok.uniq y hy, e])
    (thn (hi.run pins s σ H _ I h) fun xv s1 hx => thn hx fun itv s2 h2 => ?_)
  obtain ⟨it, fp, tn, J, H2, e, I2, T, st2, f2, q⟩ := h2
  subst e
  refine wpAny_newObj_type (newEnv_comp ?_) (by show 0 ≤ sizeLine; decide)
  generalize hD : s2.heap.objs.size = D
  have hDn : H2 D = none := I2.hok.fresh (Nat.le_of_eq hD)
  obtain ⟨W, ⟨m0, w0⟩, turn⟩ := q D hDn
  -- the new list
  generalize hs3 : ({ s2 with heap := s2.heap.push { cls := .type "list", data := .seq ([] : List Value).toArray } } : Shared) = s3
  have I3 : Inv X pins σ (upd H2 D (.lst [])) s3 := by
    rw [← hs3]
    refine I2.laid (t' := s2.toks) (fun b o e => Heap.get?_push_of_some _ e) (Nat.le_of_eq hD) ⟨Nat.zero_le _, [], 0, .nil, ?_⟩
    rw [← hD]
    exact Heap.get?_push_size _ rfl
  have h3 : s3.heap = s2.heap.push { cls := .type "list", data := .seq ([] : List Value).toArray } := by rw [← hs3]
  have sz : ∀ b ∈ fp, b < s2.heap.objs.size := fun b hb => by
    obtain ⟨o, e, _⟩ := T.obj _ _ st2 b hb
    exact Heap.lt_size e
  have f3 : ∀ b ∈ fp, FpOk X pins (upd H2 D (.lst [])) b ∧ b < s3.heap.objs.size := fun b hb => by
    have hlt := sz b hb
    refine ⟨⟨?_, (f2 b hb).2⟩, by rw [h3, Heap.size_push]; exact Nat.lt_succ_of_lt hlt⟩
    rw [upd_ne (by rw [← hD]; exact Nat.ne_of_lt hlt)]
    exact (f2 b hb).1
  have st3 : tn 0 s3.heap := T.keep _ _ _ st2 fun b _ o e => by rw [h3]; exact Heap.get?_push_of_some _ e
  have I4 := block_start I3 ok hN f3
  have pg := hg s3 (upd H2 D (.lst [])) s3.heap.objs.size (cellsFrom (s3.heap.objs.size + 1) scope.names (cloFrom X.env.cells scope.names [])) fp
  have pt := ht s3 (upd H2 D (.lst [])) s3.heap.objs.size (cellsFrom (s3.heap.objs.size + 1) scope.names (cloFrom X.env.cells scope.names [])) fp
  have pe := he s3 (upd H2 D (.lst [])) s3.heap.objs.size (cellsFrom (s3.heap.objs.size + 1) scope.names (cloFrom X.env.cells scope.names [])) fp
  show codeAny _ _ (.compStart (.ListComp elt [⟨tg, iter, ifs, 0⟩] scope pos) 0 (.ref it) (.ref D) (compEnvC scope (cellsFrom (s3.heap.objs.size + 1) scope.names (cloFrom X.env.cells scope.names [])) s3.heap.objs.size X.env)) (cPost (model X.prog X.w) X.A X.xe X.env.frame use Qf (.ref D) s3.heap.objs.size) { s3 with heap := pushCells (s3.heap.push { cls := .type "dict", data := .dict #[] }) scope.names }
  have nfp : ∀ b ∈ fp, (upd H2 D (.lst [])) b = none := fun b hb => (f3 b hb).1.1
  generalize hce : compEnvC scope (cellsFrom (s3.heap.objs.size + 1) scope.names (cloFrom X.env.cells scope.names [])) s3.heap.objs.size X.env = ce at I4 pg pt pe ⊢
  have cL : ce.locals = s3.heap.objs.size := by subst hce; rfl
  have cF : ce.frame = X.env.frame := by subst hce; rfl
  generalize hH3 : upd H2 D (.lst []) = H3 at I3 I4 pg pt pe w0 nfp f3
  have ps := blx_passes (E := E) (scope := scope) (use := use) (Qf := Qf) (acc := .ref D) hs0 hf0 tk I3 (fun b hb => (f3 b hb).1) cF cL
  generalize hxe : (notedBy (model X.prog X.w) X.A ce fun e s' => cPost (model X.prog X.w) X.A X.xe X.env.frame use Qf (.ref D) s3.heap.objs.size (.error e) s') = xe at ps
  have pg := pg xe
  have pt := pt xe ps
  have pe := pe xe ps
  have I4 : Inv (blx X s3 H3 scope ce fp xe) [] (wipe σ (own.map (·.2))) H3 { s3 with heap := pushCells (s3.heap.push { cls := .type "dict", data := .dict #[] }) scope.names } := Inv.xe I4
  generalize hs4 : ({ s3 with heap := pushCells (s3.heap.push { cls := .type "dict", data := .dict #[] }) scope.names } : Shared) = s4 at I4 ⊢
  have st4 : tn 0 s4.heap := T.keep _ _ _ st3 fun b _ o e => by rw [← hs4]; exact pushCells_keeps _ _ _ _ (Heap.get?_push_of_some _ e)
  have stat : ∀ {σ' : L2.St} {H' : Hp} {s' : Shared}, Inv (blx X s3 H3 scope ce fp xe) [] σ' H' s' → (∀ b ∈ fp, H' b = none) → ∀ b ∈ fp, FpOk (blx X s3 H3 scope ce fp xe) [] H' b := fun {σ' H' s'} I' hn b hb =>
    ⟨hn b hb, (I'.ok.exf b hb).1, I'.ok.exfs b hb, .inl hb, fun x c e => (I'.ok.exf b hb).2 x c e, fun p hp => absurd (show p ∈ ([] : List (Addr × Obj)) ++ [] from hp) (by simp)⟩
  have loop : codeAny (model X.prog X.w) X.A (.compLoop (.ListComp elt [⟨tg, iter, ifs, 0⟩] scope pos) 0 (.ref it) (.ref D) ce) (cPost (model X.prog X.w) X.A X.xe X.env.frame use Qf (.ref D) s3.heap.objs.size) s4 := by
    refine compLoop_any (fun n s' => ∃ i H', Inv (blx X s3 H3 scope ce fp xe) [] (wipe σ (own.map (·.2))) H' s' ∧ tn i s'.heap ∧ (∀ b ∈ fp, H' b = none) ∧ W i n H') ?_ m0 ⟨0, H3, I4, st4, nfp, w0⟩
    rw [hxe]
    rintro n s5 ⟨i, H5, I5, st5, n5, w5⟩
    rcases turn i n H5 w5 with ⟨stop, qq⟩ | ⟨go, Nx, hNx, step⟩
    · have td := T.done (blx X s3 H3 scope ce fp xe) rfl rfl rfl hc i [] s5 _ H5 (fun _ _ => False) I5 (stat I5 n5) st5 stop
      refine thnF td fun r s6 ⟨hr, I6⟩ => ?_
      subst hr
      -- back in the def's context
      have I7 : Inv X pins σ H5 s6 := I3.call' (ch := fp) I6.os I6.base I6.hok I6.bare fun b hb => ⟨(f3 b hb).1.2.2.2.1, (f3 b hb).1.2.1, (f3 b hb).1.2.2.2.2.1, (f3 b hb).1.2.2.2.2.2⟩
      have nC : H5 s3.heap.objs.size = none := by
        have z : H5 ce.locals = none := I6.free
        rw [cL] at z
        exact z
      obtain ⟨m, hn, _⟩ := I6.loc
      have hn : s6.heap.Ns ce.locals m := hn
      rw [cL] at hn
      exact hRR D s3.heap.objs.size s6 m H5 I7 qq hn (I3.fpOk (Nat.le_refl _) nC)
    · have ti := T.item (blx X s3 H3 scope ce fp xe) rfl rfl rfl hc i [] s5 _ H5 (fun _ _ => False) I5 (stat I5 n5) st5 go
      refine thnF ti fun r s6 ⟨u, hr, h6⟩ => ?_
      subst hr
      refine thnF h6 fun _ s7 ⟨x, H7, I7, r7, y7, st7, n7⟩ => ?_
      have I7' := I7.pinned (stat I7 n7) (T.obj _ _ st7)
      refine thn (pg.run _ s7 _ H7 x u _ I7' r7 (step x H7 y7)) fun _ s8 ⟨σ8, H8, I8, hw8, q8⟩ => ?_
      refine thn (pt.run _ s8 σ8 H8 _ I8 q8) fun b s9 ⟨H9, I9, q9⟩ => ?_
      -- the turn's end
      have fin : ∀ {s' : Shared} {H' : Hp}, Inv (blx X s3 H3 scope ce fp xe) ([] ++ pinsAt fp s7.heap) σ8 H' s' → Nx H' → ∃ m, m < n ∧ ∃ i H', Inv (blx X s3 H3 scope ce fp xe) [] (wipe σ (own.map (·.2))) H' s' ∧ tn i s'.heap ∧ (∀ b ∈ fp, H' b = none) ∧ W i m H' := fun {s' H'} I' nx => by
        obtain ⟨m', hm, w'⟩ := hNx H' nx
        have pin' : ∀ b ∈ fp, ∀ o, s7.heap.get? b = some o → s'.heap.get? b = some o ∧ H' b = none := fun b hb o e =>
          let z := I'.pin (b, o) (List.mem_append_right _ (List.mem_append_right _ (mem_pinsAt hb e)))
          ⟨z.1, z.2.1⟩
        have hl : (wipe σ (own.map (·.2))).length = σ8.length := by rw [← hw8, wipe_length]
        refine ⟨m', hm, i + 1, H', (I'.unpinned (pins := [])).weak hl (fun j v e => ?_), T.keep _ _ _ st7 fun b hb o e => (pin' b hb o e).1, fun b hb => ?_, w'⟩
        · rw [← hw8] at e
          exact (wipe_some e).1
        · obtain ⟨o, e, _⟩ := T.obj _ _ st7 b hb
          exact (pin' b hb o e).2
      cases b with
      | false =>
        simp only [Bool.false_eq_true, if_false] at q9 ⊢
        exact fin I9 q9
      | true =>
        simp only [if_true] at q9 ⊢
        refine thn (pe.run _ s9 σ8 H9 _ I9 q9) fun z s10 ⟨yv, H10, I10, r10, acc, hD10, hz10, nx⟩ => ?_
        exact app_ok (X := blx X s3 H3 scope ce fp xe) I10 hD10 hz10 r10 fun s11 I11 => fin I11 nx
  exact codeAny_compStart_list loop (T.self X.A 0 _ _ _ st4 loop)
/-- as a value -/
theorem pe_lcX {E : XK} {elt tg iter : Expr} {ifs : List Expr} {scope : Scope} {own : List (Str × Nat)} {pos : Pos} {wi : TI} {g : TG} {tt : TT} {te : TE} (hs0 : X.stack = X.env :: X.outer) (hf0 : X.env.frame = some X.env.locals) (tk : Takes X (wE E)) (hc : X.calm = true) (hN : X.N.Nodup) (hi : PI X tg iter wi) (ok : BlkOk X.N X.env.scope scope own)
    (hg : ∀ (s : Shared) (H : Hp) (C : Addr) (cl : List (Str × Addr)) (fp : List Addr) (xe : Value → Shared → Prop), PG (blx X s H scope (compEnvC scope cl C X.env) fp xe) tg g)
    (ht : ∀ (s : Shared) (H : Hp) (C : Addr) (cl : List (Str × Addr)) (fp : List Addr) (xe : Value → Shared → Prop), Passes (L2.CX X.prog X.w) (blx X s H scope (compEnvC scope cl C X.env) fp xe) E → PTs (blx X s H scope (compEnvC scope cl C X.env) fp xe) ifs tt)
    (he : ∀ (s : Shared) (H : Hp) (C : Addr) (cl : List (Str × Addr)) (fp : List Addr) (xe : Value → Shared → Prop), Passes (L2.CX X.prog X.w) (blx X s H scope (compEnvC scope cl C X.env) fp xe) E → PE (blx X s H scope (compEnvC scope cl C X.env) fp xe) elt te) (hs : ∀ x, foldedSetIterable iter X.env x = pure x := by intro _; rfl) :
    PE X (.ListComp elt [⟨tg, iter, ifs, 0⟩] scope pos) (tLc wi g tt te (own.map (·.2))) := by
  refine ⟨fun pins s σ H Q I h => ?_⟩
  rw [eval_ListComp]
  refine lc_coreX hs0 hf0 tk hc hN I hi ok hg ht he hs h fun D C s' m H' I' q hn f => ⟨m, hn, fun h'' sb => ?_⟩
  obtain ⟨f0, f1, f2, f3, f4, f5⟩ := f
  exact ⟨.ref D, H', I'.turned (t' := s'.toks) (fun b o hb e => (sb.2 b hb).trans e) f0 f1 f3 f4 f5, rfl, q⟩
end
section
variable {X : Cx} {k : Nat} {f : Addr} {fd : FuncData} {ps : List Str} {sp : Sp} {E : XK} {x : Str} {p pos : Pos} {e : Expr} {es : List Expr} {t : TA}
/-- a call whose errors pass -/
theorem pe_coP (F : FnOk X.prog X.w X.K X.mg X.base (L2.CX X.prog X.w) k f fd ps sp) (hr : Room k X.A) (gl : Gl X x) (hm : X.mg x = some (.ref f)) (hk : PySem.W.keepIn X.K (.ref f) = true) (hb : Binds X.K fd ps []) (hx : Passes (L2.CX X.prog X.w) X E)
    (ha : PA X (e :: es) t) (h1 : (x == ("__debug__" : Str)) = false := by decide) (h2 : starEach (e :: es) X.env = (false, eval e X.env) :: starEach es X.env := by rfl) (h3 : (backTo pos (starEach es X.env)).any (·.1) = false := by rfl) :
    PE X (.Call (.Name x p) (e :: es) [] pos) (tCo sp (wE E) t) := by
  refine ⟨fun pi s σ H Q I h => wpAny_Call_Name_kw (ld_glob I gl hm ?_ h1)⟩
  refine PySem.W.callWith_K (h₀ := X.base) I.ok.mod.kin hk (thn (ha.run pos pi s σ H _ I h) ?_) h2 h3
  rintro us s1 ⟨vs, H1, I1, r, q⟩
  refine ⟨I1.kIn, wpAny_call (codeAny_mono (F.run X.A X.stack s1 H1 ⟨us, []⟩ us vs Q E hr I1.env0 (bind0 hb I1 r (F.len _ _ _ _ q)) r q) fun rr s' hq => ?_)⟩
  match rr, hq with
  | .error er, z => exact hx pi σ H1 s1 er s' I1 z
  | .ok (.ret u), z => exact I1.after z
  | .ok .next, z => exact z.elim
  | .ok .brk, z => exact z.elim
  | .ok .cont, z => exact z.elim
end
end U

namespace U
open PySem L2 PySem.Spec PyProof.Rows PySem.SeqAt
/-! a dict beside tuples -/
theorem dict_eq_declines_tuple (l b : Addr) (es : Array DictEntry) (n : Nat) (dd : Option Addr) (sl : Array (Option Value)) (items2 : Array Value) (n2 : Nat) (dd2 : Option Addr) (sl2 : Array (Option Value)) :
    Meets (Builtin.«dict.__eq__» ⟨[.ref l, .ref b], []⟩) (fun _ R s => s.heap.get? l = some { cls := .type "dict", dict := dd, data := .dict es n, slots := sl } ∧ s.heap.get? b = some { cls := .type "tuple", dict := dd2, data := .seq items2 n2, slots := sl2 } ∧ R (.ok (.ret .notImplemented)) s) :=
  .of_wp fun prog w A R s h => by obtain ⟨hp, g, d, tk, os⟩ := s; obtain ⟨hl, hb, h⟩ := h; have f1 := F.sub_tuple_dict; wp_walk using wpAny_loadPart' hl, wpAny_loadPart' hb; exact ⟨_, rfl, h⟩
theorem tuple_eq_declines_dict (l b : Addr) (es : Array DictEntry) (n : Nat) (dd : Option Addr) (sl : Array (Option Value)) (items2 : Array Value) (n2 : Nat) (dd2 : Option Addr) (sl2 : Array (Option Value)) :
    Meets (Builtin.«tuple.__eq__» ⟨[.ref b, .ref l], []⟩) (fun _ R s => s.heap.get? l = some { cls := .type "dict", dict := dd, data := .dict es n, slots := sl } ∧ s.heap.get? b = some { cls := .type "tuple", dict := dd2, data := .seq items2 n2, slots := sl2 } ∧ R (.ok (.ret .notImplemented)) s) :=
  .of_wp fun prog w A R s h => by obtain ⟨hp, g, d, tk, os⟩ := s; obtain ⟨hl, hb, h⟩ := h; have f1 := F.sub_dict_tuple; wp_walk using wpAny_loadPart' hl, wpAny_loadPart' hb; exact ⟨_, rfl, h⟩
theorem eqAt_tuple_dict {A : Around} {s : Shared} {b l : Addr} {items : Array Value} {o : Obj} {es : Array DictEntry} {n : Nat} (hb : s.heap.IsTuple b items) (ho : s.heap.get? l = some o) (hc : o.cls = .type "dict") (hd : o.data = .dict es n) (hu : A.units < cLine) : EqAt A s (.ref b) (.ref l) false := by
  obtain ⟨cls, dd, data, sl⟩ := o
  obtain ⟨⟨cls2, dd2, data2, sl2⟩, ho2, hc2, n2, hd2⟩ := id hb
  simp only at hc hd hc2 hd2
  subst hc hd hc2 hd2
  have hne : b ≠ l := by
    rintro rfl
    rw [ho] at ho2
    have := congrArg (fun o : Option Obj => o.map (·.cls)) ho2
    simp at this
  refine .of_refs hne fun prog w E Q h => ?_
  exact (rc_eq_decline_or (k := false) ⟨_, ho2, rfl⟩ ⟨_, ho, rfl⟩ (by decide) F.sub_dict_tuple F.slot_tuple_eq F.slot_dict_eq_refl
    (fun _ hq => call_meets F.slot_tuple_eq ⟨_, ho2, rfl⟩ F.entry_tuple_eq (F.args_tuple_eq_2 _ _) (tuple_eq_declines_dict l b es n dd sl items n2 dd2 sl2) ⟨ho, ho2, hq⟩)
    (fun _ hq => call_meets F.slot_dict_eq_refl ⟨_, ho, rfl⟩ F.entry_dict_eq (F.args_dict_eq_2 _ _) (dict_eq_declines_tuple l b es n dd sl items n2 dd2 sl2) ⟨ho, ho2, hq⟩)
    (fun _ hq => wpAny_isSame_ref_other' hne ho2 ho (by simp) hq) (.inr hu) h)
def AllTup (H : Hp) (vs : List V) : Prop := ∀ v ∈ vs, ∃ u xs, v = V.ref u ∧ H u = some (.tup xs)
def rInTd (K : PySem.W.Frag) (ng : Bool) : R2 := fun x y H Q => ∃ (p a : Addr) (vs : List V) (kvs : List (Key × V)), x = .ref a ∧ H a = some (.dK kvs) ∧ y = .ref p ∧ SqL K H p vs ∧ AllTup H vs ∧ Q (.bl ng) H
def uInT (K : PySem.W.Frag) (ng : Bool) : R2 := fun x y H Q => uInX K ng x y H Q ∨ rInTd K ng x y H Q
section
variable {X : Cx} {k : Nat} {K : PySem.W.Frag}
theorem tups_eqAt {pins : List (Addr × Obj)} {σ : L2.St} {H : Hp} {A : Around} {s : Shared} {l : Addr} {o : Obj} {es : Array DictEntry} {n : Nat} (I : Inv X pins σ H s) (ho : s.heap.get? l = some o) (hc : o.cls = .type "dict") (hd : o.data = .dict es n) (hu : A.units < cLine) : ∀ {vs : List V} {us : List Value}, AllTup H vs → Vals vs us → ∀ u ∈ us, EqAt A s u (.ref l) false
  | [], _, _, .nil => fun u hu => by cases hu
  | z :: zs, _, ht, .cons r t => fun u' hu' => by
    rcases List.mem_cons.mp hu' with rfl | hm
    · obtain ⟨b, xs, rfl, e⟩ := ht z List.mem_cons_self
      cases r
      obtain ⟨its, _, ⟨o2, q1, q2, n2, q3⟩, _⟩ := I.tuple (SqT.of e)
      exact eqAt_tuple_dict (items := its.toArray) ⟨o2, q1, q2, n2, q3⟩ ho hc hd hu
    · exact tups_eqAt I ho hc hd hu (fun v hv => ht v (List.mem_cons_of_mem _ hv)) t u' hm
theorem op_inTd (hr : Room k X.A) : OpR X (compareOp .In) (rInTd X.K false) := by
  intro pins s σ H x y v u Q I rx ry h
  obtain ⟨p, a, zs, kvs, rfl, ea, rfl, hq, ht, q⟩ := h
  cases rx
  cases ry
  obtain ⟨z, hd, vs, rel, o, es, ep, h1, h2, h3, h4⟩ := dk_of I.hok ea
  obtain ⟨its, r, pl, hz⟩ := I.list hq
  refine SeqAt.in_listAt (fun _ => false) pl.isList (fun w hw => tups_eqAt I h1 h2.1 h3 (hu_of hr) ht r w (by simpa using hw)) ⟨.bl _, H, I, rfl, ?_⟩
  rw [show its.toArray.any (fun _ => false) = false by simp]
  exact q
theorem op_notInTd (hr : Room k X.A) : OpR X (compareOp .NotIn) (rInTd X.K true) := by
  intro pins s σ H x y v u Q I rx ry h
  obtain ⟨p, a, zs, kvs, rfl, ea, rfl, hq, ht, q⟩ := h
  cases rx
  cases ry
  obtain ⟨z, hd, vs, rel, o, es, ep, h1, h2, h3, h4⟩ := dk_of I.hok ea
  obtain ⟨its, r, pl, hz⟩ := I.list hq
  refine SeqAt.notIn_listAt (fun _ => false) pl.isList (fun w hw => tups_eqAt I h1 h2.1 h3 (hu_of hr) ht r w (by simpa using hw)) ⟨.bl _, H, I, rfl, ?_⟩
  rw [show its.toArray.any (fun _ => false) = false by simp]
  exact q
theorem o_inT (hK : X.K = K) (hr : Room k X.A) : OpR X (compareOp .In) (uInT K false) := by
  subst hK
  exact (o_inX rfl hr).or (op_inTd hr)
theorem o_notinT (hK : X.K = K) (hr : Room k X.A) : OpR X (compareOp .NotIn) (uInT K true) := by
  subst hK
  exact (o_notinX rfl hr).or (op_notInTd hr)
end
section
variable {K : PySem.W.Frag} {H : Hp} {Q : VK} {p a : Addr} {ng : Bool} {x y : V} {d : PyData} {ds : List PyData}
theorem s_inTd {kvs : List (Key × V)} {vs : List V} (h : H a = some (.dK kvs)) (g : SqL K H p vs) (t : AllTup H vs) (q : Q (.bl ng) H) : uInT K ng (.ref a) (.ref p) H Q := Or.inr ⟨p, a, vs, kvs, rfl, h, rfl, g, t, q⟩
theorem s_ninD (hl : Dn K H (.ref p) (.list ds)) (hy : Dn K H y d) (sl : SeqAt.shaped (.list ds) = true) (sd : SeqAt.shaped d = true) (q : Q (.bl (!ds.any fun z => PyData.eqv z d)) H) : uInT K true y (.ref p) H Q :=
  Or.inl (Or.inr (Or.inr ⟨d, ds, hy.dp (shp sd), hl.dp (shp sl), sd, sl, q⟩))
end
end U

namespace U
open PySem L2 PySem.Spec PyProof.Rows
/-! an except clause of three classes, all errors taken -/
theorem fly_keeps {B : Heap} {l : List Env} {a : Addr} {Z : Obj → Prop} {h h' : Heap} (f : HandSPX.FlyingZ B l a Z h) (k : ∀ b o, h.get? b = some o → h'.get? b = some o) : HandSPX.FlyingZ B l a Z h' := by
  obtain ⟨f1, f2, f3, oe, vs, T, oT, ts, he, hz, hd, h1, hnT, hTe, hT, hdT, h3⟩ := f
  exact ⟨fun b o e => k b o (f1 b o e), f2, f3.of_keeps fun b o e _ => ⟨o, k b o e, rfl⟩, oe, vs, T, oT, ts, k _ _ he, hz, hd, h1, hnT, hTe, k _ _ hT, hdT, h3⟩
theorem exm3 {K : PySem.W.Frag} {cls c1 c2 c3 : Value} {b1 b2 b3 : Bool} (h1 : PySem.W.exmOne K cls c1 = some b1) (h2 : PySem.W.exmOne K cls c2 = some b2) (h3 : PySem.W.exmOne K cls c3 = some b3) : PySem.W.exmAny K cls [c1, c2, c3] = some (b1 || (b2 || (b3 || false))) := by
  simp only [PySem.W.exmAny, h1, h2, h3]
def w3 (K : PySem.W.Frag) (c1 c2 c3 : Value) (D : Ends) (ts : Addr → Value → Option Addr → TS) : WX := fun cls d σ H => PySem.W.exmAny K cls [c1, c2, c3] = some true ∧ ∀ a, H a = none → ts a cls d D σ H
def tTry3 (K : PySem.W.Frag) (c1 c2 c3 : Value) (ts : Addr → Value → Option Addr → TS) (tb : WX → TS) : TS := fun D σ H => tb (w3 K c1 c2 c3 D ts) D σ H
section
variable {X : Cx} {body : List Stmt} {pos : Pos} {tb : WX → TS} {Wout : WX} {K : PySem.W.Frag}
theorem ps_try3 {x1 x2 x3 : Str} {c1 c2 c3 : Value} {p1 p2 p3 tp p' : Pos} {kk : Nat} {b0 : Stmt} {su : List Stmt} {ts : Addr → Value → Option Addr → TS} (hK : X.K = K) (hs : X.stack = X.env :: X.outer) (hf : X.env.frame = some X.env.locals)
    (hb : ∀ (W : WX) (pn : List (Addr × Obj)) (xe : Value → Shared → Prop), Takes (X.tr pn xe) W → PassesOwn (model X.prog X.w) X.A X.env xe → PSs (X.tr pn xe) body (tb W))
    (n1 : Names X x1 c1) (n2 : Names X x2 c2) (n3 : Names X x3 c3)
    (hsu : ∀ (a : Addr) (oe : Obj) (cls : Value) (d : Option Addr) (pn : List (Addr × Obj)), Zc cls d oe → (∃ vs, oe.data = .fields vs) → PSs (X.suite a ((a, oe) :: pn)) (b0 :: su) (ts a cls d)) :
    PS X (.Try body [.ExceptHandler (some (.Tuple [.Name x1 p1, .Name x2 p2, .Name x3 p3] kk tp)) none (b0 :: su) p'] [] [] pos) (tTry3 K c1 c2 c3 ts tb) := by
  subst hK
  refine ⟨fun pi s σ H D I h => wpAny_Try_except ?_⟩
  have ok := I.ok
  have hfr : X.A.frames = some (X.env :: X.outer) := by rw [ok.frames, hs]
  let xe : Value → Shared → Prop := fun e s1 => wpAny (model X.prog X.w) X.A (noteFrame e X.env) (fun _ s2 => wpAny (model X.prog X.w) X.A (setFlight e none)
    (fun _ s3 => wpAny (model X.prog X.w) X.A (handleBy e X.env [.ExceptHandler (some (.Tuple [.Name x1 p1, .Name x2 p2, .Name x3 p3] kk tp)) none (b0 :: su) p']) (SP X pi D) X.xe s3) X.xe s2) X.xe s1
  have tkx : Takes (X.tr (X.pn ++ pi) xe) (w3 X.K c1 c2 c3 D ts) := by
    rintro u s1 ⟨a, B, sI, pins1, σ1, H1, cls, d, rfl, J1, nb, up, sky, na, os, ag, hm, w⟩
    have J : Inv X pi σ1 H1 sI := J1.ofTry ok
    have sky1 : Sky B (X.env :: X.outer) a (Zc cls d) X.env.locals s1.heap := hs ▸ sky
    show wpAny (model X.prog X.w) X.A (noteFrame (.ref a) X.env) _ _ _
    refine Sky.land Zc.steady hfr hf sky1 fun h3 f3 u3 => ?_
    have J3 : Inv X pi σ1 H1 { s1 with heap := h3 } := J.landed nb f3.1 (up.trans u3) os ag
    obtain ⟨oe3, vs3, he3, hz3, hd3⟩ := f3.there
    have nfr : a ∉ frs (X.env :: X.outer) := fun hm => by
      obtain ⟨_, o', e', hnf⟩ := f3.2.2.1.mem hm
      rw [he3] at e'; cases e'
      exact hnf _ hd3
    have nL : a ≠ X.env.locals := fun z => nfr (List.mem_filterMap.mpr ⟨X.env, List.mem_cons_self, by rw [hf, z]⟩)
    have nF : a ∉ X.fs := fun hm => by
      obtain ⟨e, he, q⟩ := List.mem_filterMap.mp hm
      exact nfr (List.mem_filterMap.mpr ⟨e, List.mem_cons_of_mem _ he, q⟩)
    have S3 := J3.suite he3 hd3 na nL nF
    have LT : PySem.W.Looks (model X.prog X.w) h3 (typeOf (.ref a)) cls := fun A Q E s k q => wpAny_typeOf_ref (k _ _ he3) (by rw [hz3.1]; exact q)
    have test : ∀ {x : Str} {c : Value} {np : Pos} {Q : Value → Shared → Prop} {E : Value → Shared → Prop}, Names X x c → Q c { s1 with heap := h3 } →
        wpAny (model X.prog X.w) (X.A.mark (some (.ref a))) (eval (.Name x np) X.env) Q E { s1 with heap := h3 } := fun {x c np Q E} hc q => by
      obtain ⟨hg, hdb, hm | ⟨hm, hv, hnn⟩⟩ := hc
      · exact ld_glob (X := X.suite a ((a, oe3) :: (X.pn ++ pi))) S3 hg hm q hdb
      · exact ld_blt (X := X.suite a ((a, oe3) :: (X.pn ++ pi))) S3 hg hm hv q hnn hdb
    have kp : ∀ q o, h3.get? q = some o → (h3.push { cls := .type "tuple", data := .seq [c1, c2, c3].toArray }).get? q = some o := fun _ _ z => Heap.get?_push_of_some _ z
    refine wpAny_handleBy_cons (codeAny_handlers_test ?_) (by intro q; cases q)
    refine wpAny_Tuple ?_
    refine wpAny_items_cons (test n1 ?_)
    refine wpAny_items_cons (test n2 ?_)
    refine wpAny_items_cons (test n3 ?_)
    refine wpAny_items_nil ⟨by size_fits, ?_⟩
    refine (PySem.W.exm_tup3 (J3.kIn.keeps kp) (LT.keeps kp) (Heap.get?_push_size h3 rfl) hm).here ?_
    have f4 := fly_keeps f3 kp
    refine codeAny_handlers_suite (HandSPX.lands_againZ f4 fun h4 fl4 up4 => ?_)
    have J4 : Inv X pi σ1 H1 { s1 with heap := h4 } := J.landed nb fl4.1 (((up.trans u3).trans (Heap.UpToSlots.of_keeps kp)).trans up4) os ag
    obtain ⟨oe4, vs4, he4, hz4, hd4⟩ := fl4.there
    refine wpAny_mono ((hsu a oe4 cls d (X.pn ++ pi) hz4 ⟨_, hd4⟩).run [] _ _ H1 _ (J4.suite he4 hd4 na nL nF) (w a na)) (fun f s6 hsp => ?_) (fun _ _ z => False.elim z)
    match f, hsp with
    | .next, ⟨_, _, S6, q6⟩ => exact ⟨_, _, S6.unsuite ok, q6⟩
    | .brk, ⟨_, _, S6, q6⟩ => exact ⟨_, _, S6.unsuite ok, q6⟩
    | .cont, ⟨_, _, S6, q6⟩ => exact ⟨_, _, S6.unsuite ok, q6⟩
    | .ret u, ⟨_, _, _, S6, r6, q6⟩ => exact ⟨_, _, _, S6.unsuite ok, r6, q6⟩
  refine wpAny_mono ((hb _ (X.pn ++ pi) xe tkx PassesOwn.looking).run [] s σ H D (I.toTry _) h) (fun f s1 hsp => ?_) (fun e s1 he => he)
  match f, hsp with
  | .next, ⟨σ1, H1, J1, q⟩ => exact wpAny_execs_nil ⟨σ1, H1, J1.ofTry ok, q⟩
  | .brk, ⟨σ1, H1, J1, q⟩ => exact ⟨σ1, H1, J1.ofTry ok, q⟩
  | .cont, ⟨σ1, H1, J1, q⟩ => exact ⟨σ1, H1, J1.ofTry ok, q⟩
  | .ret u, ⟨v, σ1, H1, J1, r, q⟩ => exact ⟨v, σ1, H1, J1.ofTry ok, r, q⟩
theorem s_try3 {c1 c2 c3 : Value} {ts : Addr → Value → Option Addr → TS} {D : Ends} {σ : L2.St} {H : Hp} (h : tb (w3 K c1 c2 c3 D ts) D σ H) : tTry3 K c1 c2 c3 ts tb D σ H := h
end
theorem s_par3 {i j l : Nat} {ta : TA} {D : Ends} {σ : L2.St} {H : Hp} (h : ta σ H fun vs H1 => ∃ u v w, vs = [u, v, w] ∧ D.nx (((σ.set i (some u)).set j (some v)).set l (some w)) H1) : tPar3 i j l ta D σ H := h
theorem s_three {u v w : V} {R : V → V → V → Prop} (q : R u v w) : ∃ u' v' w', [u, v, w] = [u', v', w'] ∧ R u' v' w' := ⟨u, v, w, rfl, q⟩
/-! walks over a dict's values and pairs, the dict locked meanwhile -/
section
variable {H : Hp} {Q : VK} {σ : L2.St} {d A : Addr} {kvs : List (Key × V)} {t : TE} {g : TG} {tt : TT} {te : TE} {ns : List Nat} {Qd : Hp → Prop} {o : Obj}
/-- what a lock keeps: all but the dict -/
structure Lk (d : Addr) (u : HO) (H H1 : Hp) : Prop where
  at_ : ∃ od, H1 d = some (.frz od u)
  keep : ∀ b o, b ≠ d → H b = some o → H1 b = some o
  none_ : ∀ b, H1 b = none → H b = none
theorem unlock_kp {u : HO} {od : Obj} {H' : Hp} {ps : List Addr} (e : H d = some u) (nt : ∀ xs, u ≠ .tup xs) (k : Kp ps (upd H d (.frz od u)) H') (n : d ∉ ps) : Kp ps H (upd H' d u) where
  keep := fun b ob eb hb => by
    by_cases z : b = d
    · rw [z, e] at eb; rw [z, upd_same]; exact eb
    · rw [upd_ne z]
      exact k.keep b ob (by rw [upd_ne z]; exact eb) hb
  kd := fun b i hb => by
    by_cases z : b = d
    · obtain ⟨o1, e1, e2⟩ := hb
      rw [z, e] at e1
      cases e1
      exact ⟨_, by rw [z]; exact upd_same, e2⟩
    · obtain ⟨o1, e1, e2⟩ := hb
      obtain ⟨o2, e3, e4⟩ := k.kd b i ⟨o1, by rw [upd_ne z]; exact e1, e2⟩
      exact ⟨o2, by rw [upd_ne z]; exact e3, e4⟩
  tp := fun b xs eb => by
    by_cases z : b = d
    · rw [z, e] at eb
      cases eb
      exact (nt xs rfl).elim
    · rw [upd_ne z]
      exact k.tp b xs (by rw [upd_ne z]; exact eb)
/-- an expression under a lock: in H1 the dict is locked, else all is as in H -/
theorem s_lockE {u : HO} (e : H d = some u) (mu : Mut (some u)) (nt : ∀ xs, u ≠ .tup xs) (h : ∀ od H1, H1 d = some (.frz od u) → Lk d u H H1 → (∀ H', Kp [] H1 H' → Kp [] H (upd H' d u)) → t σ H1 fun v H' => H' d = some (.frz od u) ∧ Q v (upd H' d u)) : tLockE t σ H Q :=
  ⟨d, u, e, mu, fun od => h od _ upd_same ⟨⟨od, upd_same⟩, fun b ob hb eb => by rw [upd_ne hb]; exact eb, fun b hb => by
    by_cases z : b = d
    · rw [z, upd_same] at hb; cases hb
    · rwa [upd_ne z] at hb⟩ fun H' k => unlock_kp e nt k (by simp)⟩
theorem s_ivals {td : TE} {R : It → Hp → Prop} (h : td σ H fun x H1 => ∃ d o kvs, x = .ref d ∧ H1 d = some (.frz o (.dK kvs)) ∧ R (Itd d o kvs) H1) : iVals td σ H R := h
theorem s_iitems {td : TE} {R : It → Hp → Prop} (h : td σ H fun x H1 => ∃ d o kvs, x = .ref d ∧ H1 d = some (.frz o (.dK kvs)) ∧ R (Iti d o kvs) H1) : iItems td σ H R := h
theorem s_frzd {R : Addr → Obj → List (Key × V) → Prop} (e : H d = some (.frz o (.dK kvs))) (q : R d o kvs) : ∃ d' o' kvs', V.ref d = .ref d' ∧ H d' = some (.frz o' (.dK kvs')) ∧ R d' o' kvs' := ⟨d, o, kvs, rfl, e, q⟩
theorem lc_V (e : H d = some (.frz o (.dK kvs))) (hA : H A = none) (Pv : Nat → List V → Hp → Prop) (h0 : ∀ H', H' A = some (.lst []) → Kp [] H H' → Pv 0 [] H') (hG : ∀ i acc H', Pv i acc H' → ∀ o, H d = some o → H' d = some o)
    (hs : ∀ i k x acc H', kvs[i]? = some (k, x) → H' A = some (.lst acc) → Pv i acc H' → g x (wipe σ ns) H' fun σ2 H2 => wipe σ2 ns = wipe σ ns ∧ tt σ2 H2 fun b H3 =>
      if b = true then te σ2 H3 fun y H4 => ∃ acc, H4 A = some (.lst acc) ∧ acc.length < sizeLine ∧ PvD A Pv (i + 1) (upd H4 A (.lst (acc ++ [y]))) else PvD A Pv (i + 1) H3) (hd : ∀ acc H', H' A = some (.lst acc) → Pv kvs.length acc H' → Qd H') :
    ∃ W : Nat → Nat → Hp → Prop, (∃ m, W 0 m (upd H A (.lst []))) ∧ ∀ i m H, W i m H →
      ((Itd d o kvs).stop i H ∧ Qd H) ∨ ((Itd d o kvs).go i H ∧ ∃ Nx : Hp → Prop, (∀ H', Nx H' → ∃ m', m' < m ∧ W (i + 1) m' H') ∧ ∀ x H', (Itd d o kvs).yld i H x H' → g x (wipe σ ns) H' fun σ2 H2 => wipe σ2 ns = wipe σ ns ∧ tt σ2 H2 fun b H3 =>
        if b = true then te σ2 H3 fun y H4 => ∃ acc, H4 A = some (.lst acc) ∧ acc.length < sizeLine ∧ Nx (upd H4 A (.lst (acc ++ [y]))) else Nx H3) :=
  lc_it walk_values (PvD A Pv) (PvD.begin hA h0) (fun i H' _ p => by
    obtain ⟨acc, _, p⟩ := p
    exact hG i acc H' p _ e) (fun i x H1 H2 hi p y => by
    obtain ⟨rfl, k, ex⟩ := y
    obtain ⟨acc, ea, p⟩ := p
    exact hs i k x acc H2 ex ea p) (fun H' p => by
    obtain ⟨acc, ea, p⟩ := p
    exact hd acc H' ea p)
theorem lc_I (e : H d = some (.frz o (.dK kvs))) (hA : H A = none) (Pv : Nat → List V → Hp → Prop) (h0 : ∀ H', H' A = some (.lst []) → Kp [] H H' → Pv 0 [] H') (hG : ∀ i acc H', Pv i acc H' → ∀ o, H d = some o → H' d = some o)
    (hs : ∀ i k x acc H' T H2, kvs[i]? = some (k, x) → H' A = some (.lst acc) → Pv i acc H' → H' T = none → H2 T = some (.tup [kV k, x]) → Kp [] H' H2 → g (.ref T) (wipe σ ns) H2 fun σ2 H2 => wipe σ2 ns = wipe σ ns ∧ tt σ2 H2 fun b H3 =>
      if b = true then te σ2 H3 fun y H4 => ∃ acc, H4 A = some (.lst acc) ∧ acc.length < sizeLine ∧ PvD A Pv (i + 1) (upd H4 A (.lst (acc ++ [y]))) else PvD A Pv (i + 1) H3) (hd : ∀ acc H', H' A = some (.lst acc) → Pv kvs.length acc H' → Qd H') :
    ∃ W : Nat → Nat → Hp → Prop, (∃ m, W 0 m (upd H A (.lst []))) ∧ ∀ i m H, W i m H →
      ((Iti d o kvs).stop i H ∧ Qd H) ∨ ((Iti d o kvs).go i H ∧ ∃ Nx : Hp → Prop, (∀ H', Nx H' → ∃ m', m' < m ∧ W (i + 1) m' H') ∧ ∀ x H', (Iti d o kvs).yld i H x H' → g x (wipe σ ns) H' fun σ2 H2 => wipe σ2 ns = wipe σ ns ∧ tt σ2 H2 fun b H3 =>
        if b = true then te σ2 H3 fun y H4 => ∃ acc, H4 A = some (.lst acc) ∧ acc.length < sizeLine ∧ Nx (upd H4 A (.lst (acc ++ [y]))) else Nx H3) :=
  lc_it walk_items (PvD A Pv) (PvD.begin hA h0) (fun i H' _ p => by
    obtain ⟨acc, _, p⟩ := p
    exact hG i acc H' p _ e) (fun i x H1 H2 hi p y => by
    obtain ⟨T, x1, x2, rfl, f, rfl, e1, e2⟩ := y
    obtain ⟨kv, ek, rfl⟩ := Option.map_eq_some_iff.mp e1
    have e3 : Option.map Prod.snd kvs[i]? = some x2 := e2
    rw [ek] at e3
    cases e3
    obtain ⟨acc, ea, p⟩ := p
    exact hs i kv.1 kv.2 acc H1 T _ ek ea p f upd_same (Kp.refl.new f)) (fun H' p => by
    obtain ⟨acc, ea, p⟩ := p
    exact hd acc H' ea p)
end
end U

local macro_rules | `(tactic| walk_at "b1") => `(tactic| first
  | with_reducible refine' U.s_asg ?_
  | ((with_reducible refine' U.s_nameR ?une ?_); (case une => (dsimp only [List.set]; try exact rfl)))
  | with_reducible refine' U.s_name ?_
  | with_reducible refine' U.s_ret ?_
  | with_reducible refine' U.s_next ?_
  | ((with_reducible show L2.Ends.nx _ _ _); dsimp only)
  | ((with_reducible show L2.Ends.rt _ _ _); dsimp only)
  | ((with_reducible show L2.Ends.bk _ _ _); dsimp only)
  | ((with_reducible show L2.Ends.ct _ _ _); dsimp only)
  | with_reducible refine' U.s_brk ?_
  | with_reducible refine' U.s_cnt ?_
  | with_reducible refine' U.s_retN ?_
  | with_reducible refine' U.s_drop ?_
  | with_reducible refine' U.s_op ?_
  | with_reducible refine' U.s_c ?_
  | ((with_reducible refine' U.s_var ?uvh ?_); (case uvh => exact rfl))
  | with_reducible refine' U.s_un ?_
  | with_reducible refine' U.s_neg ?_
  | with_reducible refine' U.s_test ?_
  | with_reducible refine' U.s_B ?_
  | with_reducible refine' U.s_bl ?_
  | with_reducible refine' U.s_not ?_
  | with_reducible refine' U.s_notV ?_
  | with_reducible refine' U.s_if ?_
  | with_reducible refine' U.s_add ?_
  | with_reducible refine' U.s_sub ?_
  | with_reducible refine' U.s_lt ?_
  | with_reducible refine' U.s_le ?_
  | with_reducible refine' U.s_gt ?_
  | with_reducible refine' U.s_ge ?_
  | with_reducible refine' U.s_eqi ?_
  | with_reducible refine' U.s_nei ?_
  | with_reducible refine' U.s_eqs ?_
  | with_reducible refine' U.s_nes ?_
  | with_reducible refine' U.s_in1 ?_
  | with_reducible refine' U.s_notin1 ?_
  | with_reducible refine' U.s_is ?_
  | with_reducible refine' U.s_isb ?_
  | with_reducible refine' U.s_isnot ?_
  | with_reducible refine' U.s_nil ?_
  | with_reducible refine' U.s_cons ?_
  | with_reducible refine' U.s_lst ?_
  | with_reducible refine' U.s_tup ?_
  | with_reducible refine' U.s_cb ?_
  | with_reducible refine' U.s_go ?_
  | with_reducible refine' U.s_co ?_
  | with_reducible refine' U.s_mt ?_
  | with_reducible refine' U.s_nw ?_
  | with_reducible refine' U.s_nwD ?_
  | with_reducible refine' U.s_fd ?_
  | with_reducible refine' U.s_sd ?_
  | with_reducible refine' U.s_fa ?_
  | with_reducible refine' U.s_radd ?_
  | with_reducible refine' U.s_rsub ?_
  | with_reducible refine' U.s_xe ?_
  | with_reducible refine' U.s_se ?_
  | with_reducible refine' U.s_os ?_
  | with_reducible refine' U.s_rz ?_
  | with_reducible refine' U.s_try ?_
  | with_reducible refine' U.s_dg ?_
  | with_reducible refine' U.s_dn ?_
  | with_reducible refine' U.s_pop ?_
  | with_reducible refine' U.s_bm ?_
  | with_reducible refine' U.s_gn ?_
  | with_reducible refine' U.s_tl ?_
  | with_reducible refine' U.s_gc ?_
  | with_reducible refine' U.s_rng2 ?_
  | ((with_reducible refine' U.s_gtu ?uth ?utl ?_); (case uth => walk_at "gt"); (case utl => exact rfl))
  | ((with_reducible refine' U.s_glu ?uth ?utl ?_); (case uth => walk_at "g"); (case utl => exact rfl))
  | ((with_reducible refine' U.s_ixt ?uih ?uia ?_); (case uih => walk_at "gt"); (case uia => exact rfl))
  | with_reducible refine' U.s_bm0 ?_
  | with_reducible refine' U.s_tys ?_
  | with_reducible refine' U.s_pnil ?_
  | with_reducible refine' U.s_pcons ?_
  | ((with_reducible refine' U.s_tyl ?uth ?_); (case uth => walk_at "g"))
  | ((with_reducible refine' U.s_tyd ?uth ?_); (case uth => walk_at "g"))
  | with_reducible refine' U.s_max2 ?_
  | with_reducible refine' U.s_min2 ?_
  | with_reducible refine' U.s_sub2 ?_
  | with_reducible refine' U.s_sl ?_
  | with_reducible refine' U.s_nopart ?_
  | with_reducible refine' U.s_part ?_
  | with_reducible refine' U.s_int ?_
  | with_reducible refine' U.s_m1 ?_
  | with_reducible refine' U.s_m0 ?_
  | with_reducible refine' U.s_isstr ?_
  | with_reducible refine' U.s_rng1 ?_
  | with_reducible refine' U.s_ilist ?_
  | with_reducible refine' U.s_istr ?_
  | with_reducible refine' U.s_lc ?_
  | with_reducible refine' U.s_for ?_
  | with_reducible refine' U.s_istr1 ?_
  | with_reducible refine' U.s_yes ?_
  | with_reducible refine' U.s_itt ?_
  | with_reducible refine' U.s_itf ?_
  | ((with_reducible refine' U.s_ixl ?uih ?uia ?_); (case uih => walk_at "g"); (case uia => exact rfl))
  | ((with_reducible refine' U.s_ixl ?uih ?uia ?_); (case uih => exact L2.upd_same); (case uia => exact rfl))
  | ((with_reducible refine' U.s_mod ?umh ?_); (case umh => first | decide | assumption | omega))
  | ((with_reducible refine' U.s_isInt ?uty ?_); (case uty => first | assumption | exact U.TyN.int | exact U.TyN.str | exact U.TyN.non | exact U.TyN.bl | exact U.TyN.lst (by walk_at "g") | exact U.TyN.tup (by walk_at "gt") | exact U.TyN.dic (by walk_at "g")))
  | ((with_reducible refine' U.s_isBool ?uty ?_); (case uty => first | assumption | exact U.TyN.int | exact U.TyN.str | exact U.TyN.non | exact U.TyN.bl | exact U.TyN.lst (by walk_at "g") | exact U.TyN.tup (by walk_at "gt") | exact U.TyN.dic (by walk_at "g")))
  | ((with_reducible refine' U.s_isStr ?uty ?_); (case uty => first | assumption | exact U.TyN.int | exact U.TyN.str | exact U.TyN.non | exact U.TyN.bl | exact U.TyN.lst (by walk_at "g") | exact U.TyN.tup (by walk_at "gt") | exact U.TyN.dic (by walk_at "g")))
  | ((with_reducible refine' U.s_isList ?uty ?_); (case uty => first | assumption | exact U.TyN.int | exact U.TyN.str | exact U.TyN.non | exact U.TyN.bl | exact U.TyN.lst (by walk_at "g") | exact U.TyN.tup (by walk_at "gt") | exact U.TyN.dic (by walk_at "g")))
  | ((with_reducible refine' U.s_isTup ?uty ?_); (case uty => first | assumption | exact U.TyN.int | exact U.TyN.str | exact U.TyN.non | exact U.TyN.bl | exact U.TyN.lst (by walk_at "g") | exact U.TyN.tup (by walk_at "gt") | exact U.TyN.dic (by walk_at "g")))
  | ((with_reducible refine' U.s_isDict ?uty ?_); (case uty => first | assumption | exact U.TyN.int | exact U.TyN.str | exact U.TyN.non | exact U.TyN.bl | exact U.TyN.lst (by walk_at "g") | exact U.TyN.tup (by walk_at "gt") | exact U.TyN.dic (by walk_at "g")))
  | ((with_reducible refine' U.s_itT ?uit ?_); (case uit => exact rfl))
  | ((with_reducible refine' U.s_itF ?uit ?_); (case uit => exact rfl))
  | ((with_reducible refine' U.s_itT ?uit ?_); (case uit => decide +kernel))
  | ((with_reducible refine' U.s_itF ?uit ?_); (case uit => decide +kernel))
  | ((with_reducible refine' U.s_mul ?umh ?_); (case umh => first | exact U.cmulL (by omega) (by omega) | exact U.cmulR (by omega) (by omega)))
  | ((with_reducible refine' U.s_pow ?umh ?ume ?_); (case umh => exact U.cpow (by omega) (by omega) (by omega) (by omega)); (case ume => simp only [Int.reduceToNat, Int.reducePow]; exact rfl))
  | ((with_reducible refine' U.s_div ?umh ?_); (case umh => exact U.cdiv (by omega) (by omega)))
  | ((with_reducible refine' U.s_dgs ?uih ?uia ?_); (case uih => walk_at "g"); (case uia => exact rfl))
  | ((with_reducible refine' U.s_dgs ?uih ?uia ?_); (case uih => walk_at "g"); (case uia => decide +kernel))
  | with_reducible refine' U.s_par ?_
  | with_reducible refine' U.s_two ?_
  | with_reducible refine' U.s_iseq ?_
  | with_reducible refine' U.s_itup ?_
  | with_reducible refine' U.s_ienT ?_
  | with_reducible refine' U.s_ienL ?_
  | with_reducible refine' U.s_ienS ?_
  | with_reducible refine' U.s_izB ?_
  | with_reducible refine' U.s_jo ?_
  | with_reducible refine' U.s_jsF ?_
  | with_reducible refine' U.s_abs ?_
  | ((with_reducible refine' U.s_inS ?uih ?_); (case uih => walk_at "g"))
  | ((with_reducible refine' U.s_ninS ?uih ?_); (case uih => walk_at "g"))
  | ((with_reducible refine' U.s_itp ?uih ?_); (case uih => walk_at "gt"))
  | ((with_reducible refine' U.s_eT ?uih ?_); (case uih => walk_at "gt"))
  | ((with_reducible refine' U.s_eL ?uih ?_); (case uih => walk_at "g")))
local macro_rules | `(tactic| walk_at "u1") => `(tactic| first
  | walk_at "b1"
  | with_reducible refine' U.s_seq ?_
  | with_reducible refine' U.s_ifS ?_
  | with_reducible refine' U.s_and ?_
  | with_reducible refine' U.s_or ?_
  | with_reducible refine' U.s_andV ?_
  | with_reducible refine' U.s_orV ?_
  | with_reducible refine' U.s_chain ?_)
local macro_rules | `(tactic| walk_at "v1") => `(tactic| first
  | walk_at "b1"
  | with_reducible refine' U.s_seq ?_
  | with_reducible refine' U.s_ifS ?_)
local macro_rules | `(tactic| walk_at "w1") => `(tactic| first
  | walk_at "b1"
  | with_reducible refine' U.s_seq ?_)
local macro_rules | `(tactic| walk_at "s1") => `(tactic| first
  | walk_at "b1")
local macro_rules | `(tactic| walk_at "u") => `(tactic| repeat (first | walk_at "u1" | walk_at "u2"))
local macro_rules | `(tactic| walk_at "v") => `(tactic| repeat (first | walk_at "v1" | walk_at "u2"))
local macro_rules | `(tactic| walk_at "w") => `(tactic| repeat (first | walk_at "w1" | walk_at "u2"))
local macro_rules | `(tactic| walk_at "s") => `(tactic| repeat (first | walk_at "s1" | walk_at "u2"))
local macro_rules | `(tactic| walk_at "na") => `(tactic| first
  | ((with_reducible refine' U.s_newl (U.zle ?unz) ?_); (case unz => simp))
  | ((with_reducible refine' U.s_newt (U.zle ?unz) ?_); (case unz => simp)))
local macro_rules | `(tactic| walk_at "g") => `(tactic| first
  | assumption
  | ((refine' U.Kp.get ?ugk ?ugm ?ugn); (case ugk => assumption); (case ugm => walk_at "g"); (case ugn => walk_at "n"))
  | ((refine' U.Box.kpn ?ugm ?ugk ?ugn); (case ugk => assumption); (case ugm => walk_at "g"); (case ugn => walk_at "n"))
  | ((refine' U.SqL.kpn ?ugk ?ugm ?ugn); (case ugk => assumption); (case ugm => walk_at "g"); (case ugn => walk_at "n"))
  | ((refine' L2.SqL.of ?ugm); (case ugm => walk_at "g"))
  | ((refine' U.Dx.kpn ?ugm ?ugk ?ugn); (case ugk => assumption); (case ugm => walk_at "g"); (case ugn => walk_at "q"))
  | walk_at "g2")
local macro_rules | `(tactic| walk_at "gt") => `(tactic| first
  | assumption
  | ((refine' U.Kp.tgt ?ugk ?ugm); (case ugk => assumption); (case ugm => walk_at "gt"))
  | fail)
local macro_rules | `(tactic| walk_at "g2") => `(tactic| fail)
local macro_rules | `(tactic| walk_at "n") => `(tactic| first
  | exact U.nm0
  | ((refine' U.nmc ?unh ?unr); (case unh => walk_at "ne"); (case unr => walk_at "n"))
  | assumption
  | fail)
local macro_rules | `(tactic| walk_at "ne") => `(tactic| first
  | assumption
  | exact Ne.symm (by assumption)
  | ((refine' U.Th.ne ?una ?unf); (case unf => assumption); (case una => walk_at "t"))
  | ((refine' Ne.symm (U.Th.ne ?una ?unf)); (case unf => assumption); (case una => walk_at "t"))
  | ((refine' U.Th.nk ?una ?unb ?unc); (case una => walk_at "t0"); (case unb => walk_at "t"); (case unc => exact rfl))
  | ((refine' Ne.symm (U.Th.nk ?una ?unb ?unc)); (case una => walk_at "t0"); (case unb => walk_at "t"); (case unc => exact rfl))
  | fail)
local macro_rules | `(tactic| walk_at "t0") => `(tactic| first
  | exact U.Th.lst (by assumption)
  | exact U.Th.tup (by assumption)
  | exact U.Th.dK (by assumption)
  | exact U.Th.ins (by assumption)
  | exact U.Th.xd (by assumption)
  | exact U.Box.th (by assumption)
  | walk_at "t2")
local macro_rules | `(tactic| walk_at "t2") => `(tactic| fail)
local macro_rules | `(tactic| walk_at "t") => `(tactic| first
  | walk_at "t0"
  | ((refine' U.Th.kp ?ugk ?ugm); (case ugk => assumption); (case ugm => walk_at "t"))
  | fail)
local macro_rules | `(tactic| walk_at "k") => `(tactic| first
  | exact U.Kp.refl
  | assumption
  | ((refine' U.Kp.step ?ukm ?ukk ?ukq); (case ukk => assumption); (case ukm => walk_at "k"); (case ukq => walk_at "q"))
  | fail)
local macro_rules | `(tactic| walk_at "q") => `(tactic| first
  | exact U.al0
  | ((refine' U.alc ?uqh ?uqr); (case uqh => first | (apply Or.inl; simp; done) | (apply Or.inr; walk_at "f")); (case uqr => walk_at "q"))
  | fail)
local macro_rules | `(tactic| walk_at "f") => `(tactic| first
  | assumption
  | exact U.Fz.f (by assumption)
  | ((refine' U.Dm.fr ?ufa ?ufm); (case ufa => assumption); (case ufm => walk_at "m"))
  | fail)
local macro_rules | `(tactic| walk_at "m") => `(tactic| first
  | exact U.Dm.refl
  | ((refine' U.Dm.step ?umm ?umk); (case umk => assumption); (case umm => walk_at "m"))
  | fail)
local macro_rules | `(tactic| walk_at "ud") => `(tactic| first
  | refine U.s_uds (by walk_at "g") (U.zlt (by simp)) rfl ?_
  | refine U.s_udi (by walk_at "g") (U.zlt (by simp)) rfl ?_
  | refine U.s_ul (by walk_at "g") rfl rfl ?_)

namespace K23
open PySem L2 U
def top (i : Nat) : Stmt := PySem.Challenge.pw_onestaff_k23_whole_one_right.main.body.getD i (.Pass ⟨0, 0, 0, 0⟩)
abbrev s_NoNumber_init : Stmt := inClass (top 3) 0
abbrev N_NoNumber_init : List Str := ["self", "found"]
theorem sc_NoNumber_init : FnScope N_NoNumber_init ["self", "found"] (defScope s_NoNumber_init) := ⟨rfl, rfl, rfl, by decide +kernel, rfl, by decide +kernel, by decide +kernel⟩
theorem st_NoNumber_init {v0 v1 : V} : L2.start N_NoNumber_init [v0, v1] = [some v0, some v1] := rfl
abbrev s_Shut_init : Stmt := inClass (top 4) 0
abbrev N_Shut_init : List Str := ["self", "found"]
theorem sc_Shut_init : FnScope N_Shut_init ["self", "found"] (defScope s_Shut_init) := ⟨rfl, rfl, rfl, by decide +kernel, rfl, by decide +kernel, by decide +kernel⟩
theorem st_Shut_init {v0 v1 : V} : L2.start N_Shut_init [v0, v1] = [some v0, some v1] := rfl
abbrev s_NoRight_init : Stmt := inClass (top 5) 0
abbrev N_NoRight_init : List Str := ["self", "found"]
theorem sc_NoRight_init : FnScope N_NoRight_init ["self", "found"] (defScope s_NoRight_init) := ⟨rfl, rfl, rfl, by decide +kernel, rfl, by decide +kernel, by decide +kernel⟩
theorem st_NoRight_init {v0 v1 : V} : L2.start N_NoRight_init [v0, v1] = [some v0, some v1] := rfl
abbrev s_NotShut_init : Stmt := inClass (top 6) 0
abbrev N_NotShut_init : List Str := ["self", "found"]
theorem sc_NotShut_init : FnScope N_NotShut_init ["self", "found"] (defScope s_NotShut_init) := ⟨rfl, rfl, rfl, by decide +kernel, rfl, by decide +kernel, by decide +kernel⟩
theorem st_NotShut_init {v0 v1 : V} : L2.start N_NotShut_init [v0, v1] = [some v0, some v1] := rfl
abbrev s_is_whole : Stmt := top 8
abbrev N_is_whole : List Str := ["thing", "low", "high"]
theorem sc_is_whole : FnScope N_is_whole ["thing", "low", "high"] (defScope s_is_whole) := ⟨rfl, rfl, rfl, by decide +kernel, rfl, by decide +kernel, by decide +kernel⟩
theorem st_is_whole {v0 v1 v2 : V} : L2.start N_is_whole [v0, v1, v2] = [some v0, some v1, some v2] := rfl
abbrev s_Keeper_init : Stmt := inClass (top 11) 0
abbrev N_Keeper_init : List Str := ["self"]
theorem sc_Keeper_init : FnScope N_Keeper_init ["self"] (defScope s_Keeper_init) := ⟨rfl, rfl, rfl, by decide +kernel, rfl, by decide +kernel, by decide +kernel⟩
theorem st_Keeper_init {v0 : V} : L2.start N_Keeper_init [v0] = [some v0] := rfl
abbrev s_Keeper_lock : Stmt := inClass (top 11) 1
abbrev N_Keeper_lock : List Str := ["self", "to"]
theorem sc_Keeper_lock : FnScope N_Keeper_lock ["self", "to"] (defScope s_Keeper_lock) := ⟨rfl, rfl, rfl, by decide +kernel, rfl, by decide +kernel, by decide +kernel⟩
theorem st_Keeper_lock {v0 v1 : V} : L2.start N_Keeper_lock [v0, v1] = [some v0, some v1] := rfl
abbrev s_Keeper_locked : Stmt := inClass (top 11) 2
abbrev N_Keeper_locked : List Str := ["self"]
theorem sc_Keeper_locked : FnScope N_Keeper_locked ["self"] (defScope s_Keeper_locked) := ⟨rfl, rfl, rfl, by decide +kernel, rfl, by decide +kernel, by decide +kernel⟩
theorem st_Keeper_locked {v0 : V} : L2.start N_Keeper_locked [v0] = [some v0] := rfl
abbrev s_Keeper_is_this : Stmt := inClass (top 11) 3
abbrev N_Keeper_is_this : List Str := ["self", "number"]
theorem sc_Keeper_is_this : FnScope N_Keeper_is_this ["self", "number"] (defScope s_Keeper_is_this) := ⟨rfl, rfl, rfl, by decide +kernel, rfl, by decide +kernel, by decide +kernel⟩
theorem st_Keeper_is_this {v0 v1 : V} : L2.start N_Keeper_is_this [v0, v1] = [some v0, some v1] := rfl
abbrev s_Keeper_opens : Stmt := inClass (top 11) 4
abbrev N_Keeper_opens : List Str := ["self", "number"]
theorem sc_Keeper_opens : FnScope N_Keeper_opens ["self", "number"] (defScope s_Keeper_opens) := ⟨rfl, rfl, rfl, by decide +kernel, rfl, by decide +kernel, by decide +kernel⟩
theorem st_Keeper_opens {v0 v1 : V} : L2.start N_Keeper_opens [v0, v1] = [some v0, some v1] := rfl
abbrev s_Keeper_is_open : Stmt := inClass (top 11) 5
abbrev N_Keeper_is_open : List Str := ["self"]
theorem sc_Keeper_is_open : FnScope N_Keeper_is_open ["self"] (defScope s_Keeper_is_open) := ⟨rfl, rfl, rfl, by decide +kernel, rfl, by decide +kernel, by decide +kernel⟩
theorem st_Keeper_is_open {v0 : V} : L2.start N_Keeper_is_open [v0] = [some v0] := rfl
abbrev s_Keeper_let_go : Stmt := inClass (top 11) 6
abbrev N_Keeper_let_go : List Str := ["self"]
theorem sc_Keeper_let_go : FnScope N_Keeper_let_go ["self"] (defScope s_Keeper_let_go) := ⟨rfl, rfl, rfl, by decide +kernel, rfl, by decide +kernel, by decide +kernel⟩
theorem st_Keeper_let_go {v0 : V} : L2.start N_Keeper_let_go [v0] = [some v0] := rfl
abbrev s_Keeper_unlock : Stmt := inClass (top 11) 7
abbrev N_Keeper_unlock : List Str := ["self"]
theorem sc_Keeper_unlock : FnScope N_Keeper_unlock ["self"] (defScope s_Keeper_unlock) := ⟨rfl, rfl, rfl, by decide +kernel, rfl, by decide +kernel, by decide +kernel⟩
theorem st_Keeper_unlock {v0 : V} : L2.start N_Keeper_unlock [v0] = [some v0] := rfl
abbrev s_Keeper_ended : Stmt := inClass (top 11) 8
abbrev N_Keeper_ended : List Str := ["self", "number"]
theorem sc_Keeper_ended : FnScope N_Keeper_ended ["self", "number"] (defScope s_Keeper_ended) := ⟨rfl, rfl, rfl, by decide +kernel, rfl, by decide +kernel, by decide +kernel⟩
theorem st_Keeper_ended {v0 v1 : V} : L2.start N_Keeper_ended [v0, v1] = [some v0, some v1] := rfl
abbrev s_Keeper_times : Stmt := inClass (top 11) 9
abbrev N_Keeper_times : List Str := ["self"]
theorem sc_Keeper_times : FnScope N_Keeper_times ["self"] (defScope s_Keeper_times) := ⟨rfl, rfl, rfl, by decide +kernel, rfl, by decide +kernel, by decide +kernel⟩
theorem st_Keeper_times {v0 : V} : L2.start N_Keeper_times [v0] = [some v0] := rfl
abbrev s_Holder_init : Stmt := inClass (top 12) 0
abbrev N_Holder_init : List Str := ["self"]
theorem sc_Holder_init : FnScope N_Holder_init ["self"] (defScope s_Holder_init) := ⟨rfl, rfl, rfl, by decide +kernel, rfl, by decide +kernel, by decide +kernel⟩
theorem st_Holder_init {v0 : V} : L2.start N_Holder_init [v0] = [some v0] := rfl
abbrev s_Holder_got : Stmt := inClass (top 12) 1
abbrev N_Holder_got : List Str := ["self", "number", "place"]
theorem sc_Holder_got : FnScope N_Holder_got ["self", "number", "place"] (defScope s_Holder_got) := ⟨rfl, rfl, rfl, by decide +kernel, rfl, by decide +kernel, by decide +kernel⟩
theorem st_Holder_got {v0 v1 v2 : V} : L2.start N_Holder_got [v0, v1, v2] = [some v0, some v1, some v2] := rfl
abbrev s_Holder_right : Stmt := inClass (top 12) 2
abbrev N_Holder_right : List Str := ["self"]
theorem sc_Holder_right : FnScope N_Holder_right ["self"] (defScope s_Holder_right) := ⟨rfl, rfl, rfl, by decide +kernel, rfl, by decide +kernel, by decide +kernel⟩
theorem st_Holder_right {v0 : V} : L2.start N_Holder_right [v0] = [some v0] := rfl
abbrev s_Holder_use : Stmt := inClass (top 12) 3
abbrev N_Holder_use : List Str := ["self", "found"]
theorem sc_Holder_use : FnScope N_Holder_use ["self"] (defScope s_Holder_use) := ⟨rfl, rfl, rfl, by decide +kernel, rfl, by decide +kernel, by decide +kernel⟩
theorem st_Holder_use {v0 : V} : L2.start N_Holder_use [v0] = [some v0, none] := rfl
abbrev s_Holder_give : Stmt := inClass (top 12) 4
abbrev N_Holder_give : List Str := ["self", "found"]
theorem sc_Holder_give : FnScope N_Holder_give ["self"] (defScope s_Holder_give) := ⟨rfl, rfl, rfl, by decide +kernel, rfl, by decide +kernel, by decide +kernel⟩
theorem st_Holder_give {v0 : V} : L2.start N_Holder_give [v0] = [some v0, none] := rfl
abbrev s_Holder_note : Stmt := inClass (top 12) 5
abbrev N_Holder_note : List Str := ["self", "number", "place"]
theorem sc_Holder_note : FnScope N_Holder_note ["self", "number", "place"] (defScope s_Holder_note) := ⟨rfl, rfl, rfl, by decide +kernel, rfl, by decide +kernel, by decide +kernel⟩
theorem st_Holder_note {v0 v1 v2 : V} : L2.start N_Holder_note [v0, v1, v2] = [some v0, some v1, some v2] := rfl
abbrev s_Holder_seen : Stmt := inClass (top 12) 7
abbrev N_Holder_seen : List Str := ["self"]
theorem sc_Holder_seen : FnScope N_Holder_seen ["self"] (defScope s_Holder_seen) := ⟨rfl, rfl, rfl, by decide +kernel, rfl, by decide +kernel, by decide +kernel⟩
theorem st_Holder_seen {v0 : V} : L2.start N_Holder_seen [v0] = [some v0] := rfl
abbrev s_law_cell : Stmt := top 14
abbrev N_law_cell : List Str := ["_law_script", "_law_k"]
theorem sc_law_cell : FnScope N_law_cell ["_law_script", "_law_k"] (defScope s_law_cell) := ⟨rfl, rfl, rfl, by decide +kernel, rfl, by decide +kernel, by decide +kernel⟩
theorem st_law_cell {v0 v1 : V} : L2.start N_law_cell [v0, v1] = [some v0, some v1] := rfl
abbrev s_law_box : Stmt := top 15
abbrev N_law_box : List Str := ["_law_cell_here"]
theorem sc_law_box : FnScope N_law_box ["_law_cell_here"] (defScope s_law_box) := ⟨rfl, rfl, rfl, by decide +kernel, rfl, by decide +kernel, by decide +kernel⟩
theorem st_law_box {v0 : V} : L2.start N_law_box [v0] = [some v0] := rfl
abbrev s_law_take : Stmt := top 16
abbrev N_law_take : List Str := ["_law_box_here", "_law_many", "_law_number", "_law_digit"]
theorem sc_law_take : FnScope N_law_take ["_law_box_here", "_law_many"] (defScope s_law_take) := ⟨rfl, rfl, rfl, by decide +kernel, rfl, by decide +kernel, by decide +kernel⟩
theorem st_law_take {v0 v1 : V} : L2.start N_law_take [v0, v1] = [some v0, some v1, none, none] := rfl
abbrev s_law_names : Stmt := top 17
abbrev N_law_names : List Str := ["_law_box_here", "_law_many", "_law_letters", "_law_first", "_law_stem", "_law_at", "_law_k"]
theorem sc_law_names : FnScope N_law_names ["_law_box_here", "_law_many"] (defScope s_law_names) := ⟨rfl, rfl, rfl, by decide +kernel, rfl, by decide +kernel, by decide +kernel⟩
theorem st_law_names {v0 v1 : V} : L2.start N_law_names [v0, v1] = [some v0, some v1, none, none, none, none, none] := rfl
abbrev s_law_tried : Stmt := top 18
abbrev N_law_tried : List Str := ["_law_keeper", "_law_holder", "_law_way", "_law_place"]
theorem sc_law_tried : FnScope N_law_tried ["_law_keeper", "_law_holder", "_law_way", "_law_place"] (defScope s_law_tried) := ⟨rfl, rfl, rfl, by decide +kernel, rfl, by decide +kernel, by decide +kernel⟩
theorem st_law_tried {v0 v1 v2 v3 : V} : L2.start N_law_tried [v0, v1, v2, v3] = [some v0, some v1, some v2, some v3] := rfl
abbrev s_law_come : Stmt := top 19
abbrev N_law_come : List Str := ["_law_state", "_law_at", "_law_kind", "_law_number", "_law_place", "_law_keeper", "_law_holders", "_law_ahead", "_law_found", "_law_due"]
theorem sc_law_come : FnScope N_law_come ["_law_state", "_law_at"] (defScope s_law_come) := ⟨rfl, rfl, rfl, by decide +kernel, rfl, by decide +kernel, by decide +kernel⟩
theorem st_law_come {v0 v1 : V} : L2.start N_law_come [v0, v1] = [some v0, some v1, none, none, none, none, none, none, none, none] := rfl
abbrev s_law_done : Stmt := top 20
abbrev N_law_done : List Str := ["_law_box_here", "_law_state", "_law_names_here", "_law_keeper", "_law_holders", "_law_words", "_law_place", "_law_way", "_law_at", "_law_end", "_law_used", "_law_found"]
theorem sc_law_done : FnScope N_law_done ["_law_box_here", "_law_state", "_law_names_here"] (defScope s_law_done) := ⟨rfl, rfl, rfl, by decide +kernel, rfl, by decide +kernel, by decide +kernel⟩
theorem st_law_done {v0 v1 v2 : V} : L2.start N_law_done [v0, v1, v2] = [some v0, some v1, some v2, none, none, none, none, none, none, none, none, none] := rfl
abbrev s_law_safe : Stmt := top 21
abbrev N_law_safe : List Str := ["_law_state", "_law_lock", "_law_found", "_law_place", "_law_one"]
theorem sc_law_safe : FnScope N_law_safe ["_law_state"] (defScope s_law_safe) := ⟨rfl, rfl, rfl, by decide +kernel, rfl, by decide +kernel, by decide +kernel⟩
theorem st_law_safe {v0 : V} : L2.start N_law_safe [v0] = [some v0, none, none, none, none] := rfl
abbrev s_law : Stmt := top 22
abbrev N_law : List Str := ["_law_script", "_law_box_here", "_law_names_here", "_law_state", "_law_name", "_law_k", "_law_turn", "_law_told", "_law_old", "_law_at", "_law_again", "_law_word", "_law_one"]
theorem sc_law : FnScope N_law ["_law_script"] (defScope s_law) := ⟨rfl, rfl, rfl, by decide +kernel, rfl, by decide +kernel, by decide +kernel⟩
theorem st_law {v0 : V} : L2.start N_law [v0] = [some v0, none, none, none, none, none, none, none, none, none, none, none, none] := rfl
structure Tx (K : PySem.W.Frag) (mg : Str → Option Value) where
  C_Keeper : Addr
  m_Keeper : mg "Keeper" = some (.ref C_Keeper)
  C_Holder : Addr
  m_Holder : mg "Holder" = some (.ref C_Holder)
  C_NoNumber : Addr
  m_NoNumber : mg "NoNumber" = some (.ref C_NoNumber)
  C_Shut : Addr
  m_Shut : mg "Shut" = some (.ref C_Shut)
  C_NoRight : Addr
  m_NoRight : mg "NoRight" = some (.ref C_NoRight)
  C_NotShut : Addr
  m_NotShut : mg "NotShut" = some (.ref C_NotShut)
  C_StaffError : Addr
  m_StaffError : mg "StaffError" = some (.ref C_StaffError)
  a_NoNumber_init : Addr
  d_NoNumber_init : FuncData
  F_NoNumber_init : Fun K "__init__" "NoNumber.__init__" s_NoNumber_init a_NoNumber_init d_NoNumber_init
  B_NoNumber_init : Binds K d_NoNumber_init ["self", "found"] []
  a_Shut_init : Addr
  d_Shut_init : FuncData
  F_Shut_init : Fun K "__init__" "Shut.__init__" s_Shut_init a_Shut_init d_Shut_init
  B_Shut_init : Binds K d_Shut_init ["self", "found"] []
  a_NoRight_init : Addr
  d_NoRight_init : FuncData
  F_NoRight_init : Fun K "__init__" "NoRight.__init__" s_NoRight_init a_NoRight_init d_NoRight_init
  B_NoRight_init : Binds K d_NoRight_init ["self", "found"] []
  a_NotShut_init : Addr
  d_NotShut_init : FuncData
  F_NotShut_init : Fun K "__init__" "NotShut.__init__" s_NotShut_init a_NotShut_init d_NotShut_init
  B_NotShut_init : Binds K d_NotShut_init ["self", "found"] []
  a_is_whole : Addr
  d_is_whole : FuncData
  F_is_whole : Fun K "is_whole" "is_whole" s_is_whole a_is_whole d_is_whole
  B_is_whole : Binds K d_is_whole ["thing", "low", "high"] []
  m_is_whole : mg "is_whole" = some (.ref a_is_whole)
  a_Keeper_init : Addr
  d_Keeper_init : FuncData
  F_Keeper_init : Fun K "__init__" "Keeper.__init__" s_Keeper_init a_Keeper_init d_Keeper_init
  B_Keeper_init : Binds K d_Keeper_init ["self"] []
  a_Keeper_lock : Addr
  d_Keeper_lock : FuncData
  F_Keeper_lock : Fun K "lock" "Keeper.lock" s_Keeper_lock a_Keeper_lock d_Keeper_lock
  B_Keeper_lock : Binds K d_Keeper_lock ["self", "to"] []
  a_Keeper_locked : Addr
  d_Keeper_locked : FuncData
  F_Keeper_locked : Fun K "locked" "Keeper.locked" s_Keeper_locked a_Keeper_locked d_Keeper_locked
  B_Keeper_locked : Binds K d_Keeper_locked ["self"] []
  a_Keeper_is_this : Addr
  d_Keeper_is_this : FuncData
  F_Keeper_is_this : Fun K "is_this" "Keeper.is_this" s_Keeper_is_this a_Keeper_is_this d_Keeper_is_this
  B_Keeper_is_this : Binds K d_Keeper_is_this ["self", "number"] []
  a_Keeper_opens : Addr
  d_Keeper_opens : FuncData
  F_Keeper_opens : Fun K "opens" "Keeper.opens" s_Keeper_opens a_Keeper_opens d_Keeper_opens
  B_Keeper_opens : Binds K d_Keeper_opens ["self", "number"] []
  a_Keeper_is_open : Addr
  d_Keeper_is_open : FuncData
  F_Keeper_is_open : Fun K "is_open" "Keeper.is_open" s_Keeper_is_open a_Keeper_is_open d_Keeper_is_open
  B_Keeper_is_open : Binds K d_Keeper_is_open ["self"] []
  a_Keeper_let_go : Addr
  d_Keeper_let_go : FuncData
  F_Keeper_let_go : Fun K "let_go" "Keeper.let_go" s_Keeper_let_go a_Keeper_let_go d_Keeper_let_go
  B_Keeper_let_go : Binds K d_Keeper_let_go ["self"] []
  a_Keeper_unlock : Addr
  d_Keeper_unlock : FuncData
  F_Keeper_unlock : Fun K "unlock" "Keeper.unlock" s_Keeper_unlock a_Keeper_unlock d_Keeper_unlock
  B_Keeper_unlock : Binds K d_Keeper_unlock ["self"] []
  a_Keeper_ended : Addr
  d_Keeper_ended : FuncData
  F_Keeper_ended : Fun K "ended" "Keeper.ended" s_Keeper_ended a_Keeper_ended d_Keeper_ended
  B_Keeper_ended : Binds K d_Keeper_ended ["self", "number"] []
  a_Keeper_times : Addr
  d_Keeper_times : FuncData
  F_Keeper_times : Fun K "times" "Keeper.times" s_Keeper_times a_Keeper_times d_Keeper_times
  B_Keeper_times : Binds K d_Keeper_times ["self"] []
  a_Holder_init : Addr
  d_Holder_init : FuncData
  F_Holder_init : Fun K "__init__" "Holder.__init__" s_Holder_init a_Holder_init d_Holder_init
  B_Holder_init : Binds K d_Holder_init ["self"] []
  a_Holder_got : Addr
  d_Holder_got : FuncData
  F_Holder_got : Fun K "got" "Holder.got" s_Holder_got a_Holder_got d_Holder_got
  B_Holder_got : Binds K d_Holder_got ["self", "number", "place"] []
  a_Holder_right : Addr
  d_Holder_right : FuncData
  F_Holder_right : Fun K "right" "Holder.right" s_Holder_right a_Holder_right d_Holder_right
  B_Holder_right : Binds K d_Holder_right ["self"] []
  a_Holder_use : Addr
  d_Holder_use : FuncData
  F_Holder_use : Fun K "use" "Holder.use" s_Holder_use a_Holder_use d_Holder_use
  B_Holder_use : Binds K d_Holder_use ["self"] []
  a_Holder_give : Addr
  d_Holder_give : FuncData
  F_Holder_give : Fun K "give" "Holder.give" s_Holder_give a_Holder_give d_Holder_give
  B_Holder_give : Binds K d_Holder_give ["self"] []
  a_Holder_note : Addr
  d_Holder_note : FuncData
  F_Holder_note : Fun K "note" "Holder.note" s_Holder_note a_Holder_note d_Holder_note
  B_Holder_note : Binds K d_Holder_note ["self", "number", "place"] []
  a_Holder_seen : Addr
  d_Holder_seen : FuncData
  F_Holder_seen : Fun K "seen" "Holder.seen" s_Holder_seen a_Holder_seen d_Holder_seen
  B_Holder_seen : Binds K d_Holder_seen ["self"] []
  a_law_cell : Addr
  d_law_cell : FuncData
  F_law_cell : Fun K "_law_cell" "_law_cell" s_law_cell a_law_cell d_law_cell
  B_law_cell : Binds K d_law_cell ["_law_script", "_law_k"] []
  m_law_cell : mg "_law_cell" = some (.ref a_law_cell)
  a_law_box : Addr
  d_law_box : FuncData
  F_law_box : Fun K "_law_box" "_law_box" s_law_box a_law_box d_law_box
  B_law_box : Binds K d_law_box ["_law_cell_here"] []
  m_law_box : mg "_law_box" = some (.ref a_law_box)
  a_law_take : Addr
  d_law_take : FuncData
  F_law_take : Fun K "_law_take" "_law_take" s_law_take a_law_take d_law_take
  B_law_take : Binds K d_law_take ["_law_box_here", "_law_many"] []
  m_law_take : mg "_law_take" = some (.ref a_law_take)
  a_law_names : Addr
  d_law_names : FuncData
  F_law_names : Fun K "_law_names" "_law_names" s_law_names a_law_names d_law_names
  B_law_names : Binds K d_law_names ["_law_box_here", "_law_many"] []
  m_law_names : mg "_law_names" = some (.ref a_law_names)
  a_law_tried : Addr
  d_law_tried : FuncData
  F_law_tried : Fun K "_law_tried" "_law_tried" s_law_tried a_law_tried d_law_tried
  B_law_tried : Binds K d_law_tried ["_law_keeper", "_law_holder", "_law_way", "_law_place"] []
  m_law_tried : mg "_law_tried" = some (.ref a_law_tried)
  a_law_come : Addr
  d_law_come : FuncData
  F_law_come : Fun K "_law_come" "_law_come" s_law_come a_law_come d_law_come
  B_law_come : Binds K d_law_come ["_law_state", "_law_at"] []
  m_law_come : mg "_law_come" = some (.ref a_law_come)
  a_law_done : Addr
  d_law_done : FuncData
  F_law_done : Fun K "_law_done" "_law_done" s_law_done a_law_done d_law_done
  B_law_done : Binds K d_law_done ["_law_box_here", "_law_state", "_law_names_here"] []
  m_law_done : mg "_law_done" = some (.ref a_law_done)
  a_law_safe : Addr
  d_law_safe : FuncData
  F_law_safe : Fun K "_law_safe" "_law_safe" s_law_safe a_law_safe d_law_safe
  B_law_safe : Binds K d_law_safe ["_law_state"] []
  m_law_safe : mg "_law_safe" = some (.ref a_law_safe)
  a_law : Addr
  d_law : FuncData
  F_law : Fun K "law" "law" s_law a_law d_law
  B_law : Binds K d_law ["_law_script"] []
  m_law : mg "law" = some (.ref a_law)
  cl_Keeper : Cls K C_Keeper
  mk_Keeper : Mk K C_Keeper a_Keeper_init
  na_Keeper_kept_times : NoAttr K C_Keeper "kept_times"
  na_Keeper_kept_shut : NoAttr K C_Keeper "kept_shut"
  na_Keeper_kept_open : NoAttr K C_Keeper "kept_open"
  M_Keeper_lock : Meth K C_Keeper "lock" a_Keeper_lock
  M_Keeper_locked : Meth K C_Keeper "locked" a_Keeper_locked
  M_Keeper_is_this : Meth K C_Keeper "is_this" a_Keeper_is_this
  M_Keeper_opens : Meth K C_Keeper "opens" a_Keeper_opens
  M_Keeper_is_open : Meth K C_Keeper "is_open" a_Keeper_is_open
  M_Keeper_let_go : Meth K C_Keeper "let_go" a_Keeper_let_go
  M_Keeper_unlock : Meth K C_Keeper "unlock" a_Keeper_unlock
  M_Keeper_ended : Meth K C_Keeper "ended" a_Keeper_ended
  M_Keeper_times : Meth K C_Keeper "times" a_Keeper_times
  cl_Holder : Cls K C_Holder
  mk_Holder : Mk K C_Holder a_Holder_init
  na_Holder_kept_greatest : NoAttr K C_Holder "kept_greatest"
  na_Holder_kept_right : NoAttr K C_Holder "kept_right"
  na_Holder_kept_note : NoAttr K C_Holder "kept_note"
  M_Holder_got : Meth K C_Holder "got" a_Holder_got
  M_Holder_right : Meth K C_Holder "right" a_Holder_right
  M_Holder_use : Meth K C_Holder "use" a_Holder_use
  M_Holder_give : Meth K C_Holder "give" a_Holder_give
  M_Holder_note : Meth K C_Holder "note" a_Holder_note
  M_Holder_seen : Meth K C_Holder "seen" a_Holder_seen
  er_NoNumber : ErrC K C_NoNumber a_NoNumber_init "found"
  er_Shut : ErrC K C_Shut a_Shut_init "found"
  er_NoRight : ErrC K C_NoRight a_NoRight_init "found"
  er_NotShut : ErrC K C_NotShut a_NotShut_init "found"
  rd_StaffError : RdC K C_StaffError
  vi_StaffError : PySem.W.findCls K (.ref C_StaffError) (.type "type") "__init__" = some (.val (.builtin "ValueError.__init__"))
  oc_get : PySem.W.specialIn K (.builtin "object.__class__") "__get__" = some (some (.builtin "getset_descriptor.__get__"))
  oc_take : PySem.W.takesIn K (.builtin "object.__class__") = some true
  ex_Shut_Shut : PySem.W.exmOne K (.ref C_Shut) (.ref C_Shut) = some true
  ex_Shut_NotShut : PySem.W.exmOne K (.ref C_Shut) (.ref C_NotShut) = some false
  ex_Shut_NoRight : PySem.W.exmOne K (.ref C_Shut) (.ref C_NoRight) = some false
  ex_NotShut_Shut : PySem.W.exmOne K (.ref C_NotShut) (.ref C_Shut) = some false
  ex_NotShut_NotShut : PySem.W.exmOne K (.ref C_NotShut) (.ref C_NotShut) = some true
  ex_NotShut_NoRight : PySem.W.exmOne K (.ref C_NotShut) (.ref C_NoRight) = some false
  ex_NoRight_Shut : PySem.W.exmOne K (.ref C_NoRight) (.ref C_Shut) = some false
  ex_NoRight_NotShut : PySem.W.exmOne K (.ref C_NoRight) (.ref C_NotShut) = some false
  ex_NoRight_NoRight : PySem.W.exmOne K (.ref C_NoRight) (.ref C_NoRight) = some true
  c_GREATEST : Value
  mc_GREATEST : mg "GREATEST" = some c_GREATEST
  rc_GREATEST : RelV (V.int 1000000000000000000000000000000) c_GREATEST
  z_bool : mg "bool" = none
  z_enumerate : mg "enumerate" = none
  z_int : mg "int" = none
  z_isinstance : mg "isinstance" = none
  z_len : mg "len" = none
  z_max : mg "max" = none
  z_min : mg "min" = none
  z_range : mg "range" = none
variable {P : Program} {w : World} {K : PySem.W.Frag} {mg : Str → Option Value} {base : Heap}
def fl_Keeper (x0 x1 x2 : V) : List (Str × V) := [("kept_times", x0), ("kept_shut", x1), ("kept_open", x2)]
def At_Keeper (T : Tx K mg) (H : Hp) (p : Addr) (x0 x1 x2 : V) : Prop := ∃ dx, H p = some (.ins T.C_Keeper dx (fl_Keeper x0 x1 x2))
theorem At_Keeper.kp {T : Tx K mg} {H H2 : Hp} {p : Addr} {x0 x1 x2 : V} (h : At_Keeper T H p x0 x1 x2) (k : Kp [] H H2) : At_Keeper T H2 p x0 x1 x2 := by obtain ⟨dx, e⟩ := h; exact ⟨dx, k.get0 e⟩
theorem At_Keeper.kpn {T : Tx K mg} {H H2 : Hp} {p : Addr} {ps : List Addr} {x0 x1 x2 : V} (h : At_Keeper T H p x0 x1 x2) (k : Kp ps H H2) (n : p ∉ ps) : At_Keeper T H2 p x0 x1 x2 := by obtain ⟨dx, e⟩ := h; exact ⟨dx, k.get e n⟩
theorem At_Keeper.th {T : Tx K mg} {H : Hp} {p : Addr} {x0 x1 x2 : V} (h : At_Keeper T H p x0 x1 x2) : Th H p 5 := by obtain ⟨dx, e⟩ := h; exact .ins e
theorem At_Keeper.ne {T : Tx K mg} {H : Hp} {p l : Addr} {x0 x1 x2 : V} (h : At_Keeper T H p x0 x1 x2) (n : H l = none) : l ≠ p := by obtain ⟨dx, e⟩ := h; exact (ne_of_none e n).symm
theorem At_Keeper.nel {T : Tx K mg} {H : Hp} {p l : Addr} {x0 x1 x2 : V} {xs : List V} (h : At_Keeper T H p x0 x1 x2) (n : H l = some (.lst xs)) : l ≠ p := by obtain ⟨dx, e⟩ := h; exact ne_of n e (by intro z; cases z)
theorem g_Keeper_kept_times {T : Tx K mg} {H : Hp} {p : Addr} {x0 x1 x2 : V} {Q : VK} (h : At_Keeper T H p x0 x1 x2) (q : Q x0 H) : FldK K "kept_times" Q (.ref p) H := by obtain ⟨dx, e⟩ := h; exact s_fdk e T.cl_Keeper T.na_Keeper_kept_times rfl q
theorem p_Keeper_kept_times {T : Tx K mg} {H : Hp} {p : Addr} {x0 x1 x2 y : V} {R : Hp → Prop} (h : At_Keeper T H p x0 x1 x2) (q : ∀ H2, At_Keeper T H2 p y x1 x2 → Kp [p] H H2 → R H2) : SetK K "kept_times" y R (.ref p) H := by obtain ⟨dx, e⟩ := h; exact s_sdk e T.cl_Keeper T.na_Keeper_kept_times (by simp [fl_Keeper]) (gs := fl_Keeper y x1 x2) rfl fun H2 e2 k => q H2 ⟨dx, e2⟩ k
theorem u_Keeper_kept_times {T : Tx K mg} {H : Hp} {p : Addr} {x0 x1 x2 : V} {R : Addr → Addr → V → Hp → Prop} (h : At_Keeper T H p x0 x1 x2) (q : R p T.C_Keeper x0 H) : FaK K "kept_times" R (.ref p) H := by obtain ⟨dx, e⟩ := h; exact s_fak e T.cl_Keeper T.na_Keeper_kept_times rfl q
theorem w_Keeper_kept_times {T : Tx K mg} {H : Hp} {p : Addr} {x0 x1 x2 y : V} {R : Hp → Prop} (h : At_Keeper T H p x0 x1 x2) (q : ∀ H2, At_Keeper T H2 p y x1 x2 → Kp [p] H H2 → R H2) : FbK "kept_times" p T.C_Keeper R y H := by obtain ⟨dx, e⟩ := h; exact s_fbk e (by simp [fl_Keeper]) (gs := fl_Keeper y x1 x2) rfl fun H2 e2 k => q H2 ⟨dx, e2⟩ k
theorem g_Keeper_kept_shut {T : Tx K mg} {H : Hp} {p : Addr} {x0 x1 x2 : V} {Q : VK} (h : At_Keeper T H p x0 x1 x2) (q : Q x1 H) : FldK K "kept_shut" Q (.ref p) H := by obtain ⟨dx, e⟩ := h; exact s_fdk e T.cl_Keeper T.na_Keeper_kept_shut rfl q
theorem p_Keeper_kept_shut {T : Tx K mg} {H : Hp} {p : Addr} {x0 x1 x2 y : V} {R : Hp → Prop} (h : At_Keeper T H p x0 x1 x2) (q : ∀ H2, At_Keeper T H2 p x0 y x2 → Kp [p] H H2 → R H2) : SetK K "kept_shut" y R (.ref p) H := by obtain ⟨dx, e⟩ := h; exact s_sdk e T.cl_Keeper T.na_Keeper_kept_shut (by simp [fl_Keeper]) (gs := fl_Keeper x0 y x2) rfl fun H2 e2 k => q H2 ⟨dx, e2⟩ k
theorem u_Keeper_kept_shut {T : Tx K mg} {H : Hp} {p : Addr} {x0 x1 x2 : V} {R : Addr → Addr → V → Hp → Prop} (h : At_Keeper T H p x0 x1 x2) (q : R p T.C_Keeper x1 H) : FaK K "kept_shut" R (.ref p) H := by obtain ⟨dx, e⟩ := h; exact s_fak e T.cl_Keeper T.na_Keeper_kept_shut rfl q
theorem w_Keeper_kept_shut {T : Tx K mg} {H : Hp} {p : Addr} {x0 x1 x2 y : V} {R : Hp → Prop} (h : At_Keeper T H p x0 x1 x2) (q : ∀ H2, At_Keeper T H2 p x0 y x2 → Kp [p] H H2 → R H2) : FbK "kept_shut" p T.C_Keeper R y H := by obtain ⟨dx, e⟩ := h; exact s_fbk e (by simp [fl_Keeper]) (gs := fl_Keeper x0 y x2) rfl fun H2 e2 k => q H2 ⟨dx, e2⟩ k
theorem g_Keeper_kept_open {T : Tx K mg} {H : Hp} {p : Addr} {x0 x1 x2 : V} {Q : VK} (h : At_Keeper T H p x0 x1 x2) (q : Q x2 H) : FldK K "kept_open" Q (.ref p) H := by obtain ⟨dx, e⟩ := h; exact s_fdk e T.cl_Keeper T.na_Keeper_kept_open rfl q
theorem p_Keeper_kept_open {T : Tx K mg} {H : Hp} {p : Addr} {x0 x1 x2 y : V} {R : Hp → Prop} (h : At_Keeper T H p x0 x1 x2) (q : ∀ H2, At_Keeper T H2 p x0 x1 y → Kp [p] H H2 → R H2) : SetK K "kept_open" y R (.ref p) H := by obtain ⟨dx, e⟩ := h; exact s_sdk e T.cl_Keeper T.na_Keeper_kept_open (by simp [fl_Keeper]) (gs := fl_Keeper x0 x1 y) rfl fun H2 e2 k => q H2 ⟨dx, e2⟩ k
theorem u_Keeper_kept_open {T : Tx K mg} {H : Hp} {p : Addr} {x0 x1 x2 : V} {R : Addr → Addr → V → Hp → Prop} (h : At_Keeper T H p x0 x1 x2) (q : R p T.C_Keeper x2 H) : FaK K "kept_open" R (.ref p) H := by obtain ⟨dx, e⟩ := h; exact s_fak e T.cl_Keeper T.na_Keeper_kept_open rfl q
theorem w_Keeper_kept_open {T : Tx K mg} {H : Hp} {p : Addr} {x0 x1 x2 y : V} {R : Hp → Prop} (h : At_Keeper T H p x0 x1 x2) (q : ∀ H2, At_Keeper T H2 p x0 x1 y → Kp [p] H H2 → R H2) : FbK "kept_open" p T.C_Keeper R y H := by obtain ⟨dx, e⟩ := h; exact s_fbk e (by simp [fl_Keeper]) (gs := fl_Keeper x0 x1 y) rfl fun H2 e2 k => q H2 ⟨dx, e2⟩ k
theorem k_Keeper_lock {T : Tx K mg} {H : Hp} {p : Addr} {x0 x1 x2 : V} {R : V → Hp → Prop} (h : At_Keeper T H p x0 x1 x2) (q : R (.ref p) H) : MtK T.C_Keeper "lock" R (.ref p) H := by obtain ⟨dx, e⟩ := h; exact s_mtk e rfl q
theorem k_Keeper_locked {T : Tx K mg} {H : Hp} {p : Addr} {x0 x1 x2 : V} {R : V → Hp → Prop} (h : At_Keeper T H p x0 x1 x2) (q : R (.ref p) H) : MtK T.C_Keeper "locked" R (.ref p) H := by obtain ⟨dx, e⟩ := h; exact s_mtk e rfl q
theorem k_Keeper_is_this {T : Tx K mg} {H : Hp} {p : Addr} {x0 x1 x2 : V} {R : V → Hp → Prop} (h : At_Keeper T H p x0 x1 x2) (q : R (.ref p) H) : MtK T.C_Keeper "is_this" R (.ref p) H := by obtain ⟨dx, e⟩ := h; exact s_mtk e rfl q
theorem k_Keeper_opens {T : Tx K mg} {H : Hp} {p : Addr} {x0 x1 x2 : V} {R : V → Hp → Prop} (h : At_Keeper T H p x0 x1 x2) (q : R (.ref p) H) : MtK T.C_Keeper "opens" R (.ref p) H := by obtain ⟨dx, e⟩ := h; exact s_mtk e rfl q
theorem k_Keeper_is_open {T : Tx K mg} {H : Hp} {p : Addr} {x0 x1 x2 : V} {R : V → Hp → Prop} (h : At_Keeper T H p x0 x1 x2) (q : R (.ref p) H) : MtK T.C_Keeper "is_open" R (.ref p) H := by obtain ⟨dx, e⟩ := h; exact s_mtk e rfl q
theorem k_Keeper_let_go {T : Tx K mg} {H : Hp} {p : Addr} {x0 x1 x2 : V} {R : V → Hp → Prop} (h : At_Keeper T H p x0 x1 x2) (q : R (.ref p) H) : MtK T.C_Keeper "let_go" R (.ref p) H := by obtain ⟨dx, e⟩ := h; exact s_mtk e rfl q
theorem k_Keeper_unlock {T : Tx K mg} {H : Hp} {p : Addr} {x0 x1 x2 : V} {R : V → Hp → Prop} (h : At_Keeper T H p x0 x1 x2) (q : R (.ref p) H) : MtK T.C_Keeper "unlock" R (.ref p) H := by obtain ⟨dx, e⟩ := h; exact s_mtk e rfl q
theorem k_Keeper_ended {T : Tx K mg} {H : Hp} {p : Addr} {x0 x1 x2 : V} {R : V → Hp → Prop} (h : At_Keeper T H p x0 x1 x2) (q : R (.ref p) H) : MtK T.C_Keeper "ended" R (.ref p) H := by obtain ⟨dx, e⟩ := h; exact s_mtk e rfl q
theorem k_Keeper_times {T : Tx K mg} {H : Hp} {p : Addr} {x0 x1 x2 : V} {R : V → Hp → Prop} (h : At_Keeper T H p x0 x1 x2) (q : R (.ref p) H) : MtK T.C_Keeper "times" R (.ref p) H := by obtain ⟨dx, e⟩ := h; exact s_mtk e rfl q
theorem i_Keeper_kept_times {T : Tx K mg} {H : Hp} {p dx : Addr} {x0 : V} {R : Hp → Prop} (h : H p = some (.ins T.C_Keeper dx [])) (q : ∀ H2, H2 p = some (.ins T.C_Keeper dx [("kept_times", x0)]) → Kp [p] H H2 → R H2) : SetK K "kept_times" x0 R (.ref p) H := s_sdk h T.cl_Keeper T.na_Keeper_kept_times (by simp) rfl q
theorem i_Keeper_kept_shut {T : Tx K mg} {H : Hp} {p dx : Addr} {x0 x1 : V} {R : Hp → Prop} (h : H p = some (.ins T.C_Keeper dx [("kept_times", x0)])) (q : ∀ H2, H2 p = some (.ins T.C_Keeper dx [("kept_times", x0), ("kept_shut", x1)]) → Kp [p] H H2 → R H2) : SetK K "kept_shut" x1 R (.ref p) H := s_sdk h T.cl_Keeper T.na_Keeper_kept_shut (by simp) rfl q
theorem i_Keeper_kept_open {T : Tx K mg} {H : Hp} {p dx : Addr} {x0 x1 x2 : V} {R : Hp → Prop} (h : H p = some (.ins T.C_Keeper dx [("kept_times", x0), ("kept_shut", x1)])) (q : ∀ H2, H2 p = some (.ins T.C_Keeper dx [("kept_times", x0), ("kept_shut", x1), ("kept_open", x2)]) → Kp [p] H H2 → R H2) : SetK K "kept_open" x2 R (.ref p) H := s_sdk h T.cl_Keeper T.na_Keeper_kept_open (by simp) rfl q
def fl_Holder (x0 x1 x2 : V) : List (Str × V) := [("kept_greatest", x0), ("kept_right", x1), ("kept_note", x2)]
def At_Holder (T : Tx K mg) (H : Hp) (p : Addr) (x0 x1 x2 : V) : Prop := ∃ dx, H p = some (.ins T.C_Holder dx (fl_Holder x0 x1 x2))
theorem At_Holder.kp {T : Tx K mg} {H H2 : Hp} {p : Addr} {x0 x1 x2 : V} (h : At_Holder T H p x0 x1 x2) (k : Kp [] H H2) : At_Holder T H2 p x0 x1 x2 := by obtain ⟨dx, e⟩ := h; exact ⟨dx, k.get0 e⟩
theorem At_Holder.kpn {T : Tx K mg} {H H2 : Hp} {p : Addr} {ps : List Addr} {x0 x1 x2 : V} (h : At_Holder T H p x0 x1 x2) (k : Kp ps H H2) (n : p ∉ ps) : At_Holder T H2 p x0 x1 x2 := by obtain ⟨dx, e⟩ := h; exact ⟨dx, k.get e n⟩
theorem At_Holder.th {T : Tx K mg} {H : Hp} {p : Addr} {x0 x1 x2 : V} (h : At_Holder T H p x0 x1 x2) : Th H p 5 := by obtain ⟨dx, e⟩ := h; exact .ins e
theorem At_Holder.ne {T : Tx K mg} {H : Hp} {p l : Addr} {x0 x1 x2 : V} (h : At_Holder T H p x0 x1 x2) (n : H l = none) : l ≠ p := by obtain ⟨dx, e⟩ := h; exact (ne_of_none e n).symm
theorem At_Holder.nel {T : Tx K mg} {H : Hp} {p l : Addr} {x0 x1 x2 : V} {xs : List V} (h : At_Holder T H p x0 x1 x2) (n : H l = some (.lst xs)) : l ≠ p := by obtain ⟨dx, e⟩ := h; exact ne_of n e (by intro z; cases z)
theorem g_Holder_kept_greatest {T : Tx K mg} {H : Hp} {p : Addr} {x0 x1 x2 : V} {Q : VK} (h : At_Holder T H p x0 x1 x2) (q : Q x0 H) : FldK K "kept_greatest" Q (.ref p) H := by obtain ⟨dx, e⟩ := h; exact s_fdk e T.cl_Holder T.na_Holder_kept_greatest rfl q
theorem p_Holder_kept_greatest {T : Tx K mg} {H : Hp} {p : Addr} {x0 x1 x2 y : V} {R : Hp → Prop} (h : At_Holder T H p x0 x1 x2) (q : ∀ H2, At_Holder T H2 p y x1 x2 → Kp [p] H H2 → R H2) : SetK K "kept_greatest" y R (.ref p) H := by obtain ⟨dx, e⟩ := h; exact s_sdk e T.cl_Holder T.na_Holder_kept_greatest (by simp [fl_Holder]) (gs := fl_Holder y x1 x2) rfl fun H2 e2 k => q H2 ⟨dx, e2⟩ k
theorem u_Holder_kept_greatest {T : Tx K mg} {H : Hp} {p : Addr} {x0 x1 x2 : V} {R : Addr → Addr → V → Hp → Prop} (h : At_Holder T H p x0 x1 x2) (q : R p T.C_Holder x0 H) : FaK K "kept_greatest" R (.ref p) H := by obtain ⟨dx, e⟩ := h; exact s_fak e T.cl_Holder T.na_Holder_kept_greatest rfl q
theorem w_Holder_kept_greatest {T : Tx K mg} {H : Hp} {p : Addr} {x0 x1 x2 y : V} {R : Hp → Prop} (h : At_Holder T H p x0 x1 x2) (q : ∀ H2, At_Holder T H2 p y x1 x2 → Kp [p] H H2 → R H2) : FbK "kept_greatest" p T.C_Holder R y H := by obtain ⟨dx, e⟩ := h; exact s_fbk e (by simp [fl_Holder]) (gs := fl_Holder y x1 x2) rfl fun H2 e2 k => q H2 ⟨dx, e2⟩ k
theorem g_Holder_kept_right {T : Tx K mg} {H : Hp} {p : Addr} {x0 x1 x2 : V} {Q : VK} (h : At_Holder T H p x0 x1 x2) (q : Q x1 H) : FldK K "kept_right" Q (.ref p) H := by obtain ⟨dx, e⟩ := h; exact s_fdk e T.cl_Holder T.na_Holder_kept_right rfl q
theorem p_Holder_kept_right {T : Tx K mg} {H : Hp} {p : Addr} {x0 x1 x2 y : V} {R : Hp → Prop} (h : At_Holder T H p x0 x1 x2) (q : ∀ H2, At_Holder T H2 p x0 y x2 → Kp [p] H H2 → R H2) : SetK K "kept_right" y R (.ref p) H := by obtain ⟨dx, e⟩ := h; exact s_sdk e T.cl_Holder T.na_Holder_kept_right (by simp [fl_Holder]) (gs := fl_Holder x0 y x2) rfl fun H2 e2 k => q H2 ⟨dx, e2⟩ k
theorem u_Holder_kept_right {T : Tx K mg} {H : Hp} {p : Addr} {x0 x1 x2 : V} {R : Addr → Addr → V → Hp → Prop} (h : At_Holder T H p x0 x1 x2) (q : R p T.C_Holder x1 H) : FaK K "kept_right" R (.ref p) H := by obtain ⟨dx, e⟩ := h; exact s_fak e T.cl_Holder T.na_Holder_kept_right rfl q
theorem w_Holder_kept_right {T : Tx K mg} {H : Hp} {p : Addr} {x0 x1 x2 y : V} {R : Hp → Prop} (h : At_Holder T H p x0 x1 x2) (q : ∀ H2, At_Holder T H2 p x0 y x2 → Kp [p] H H2 → R H2) : FbK "kept_right" p T.C_Holder R y H := by obtain ⟨dx, e⟩ := h; exact s_fbk e (by simp [fl_Holder]) (gs := fl_Holder x0 y x2) rfl fun H2 e2 k => q H2 ⟨dx, e2⟩ k
theorem g_Holder_kept_note {T : Tx K mg} {H : Hp} {p : Addr} {x0 x1 x2 : V} {Q : VK} (h : At_Holder T H p x0 x1 x2) (q : Q x2 H) : FldK K "kept_note" Q (.ref p) H := by obtain ⟨dx, e⟩ := h; exact s_fdk e T.cl_Holder T.na_Holder_kept_note rfl q
theorem p_Holder_kept_note {T : Tx K mg} {H : Hp} {p : Addr} {x0 x1 x2 y : V} {R : Hp → Prop} (h : At_Holder T H p x0 x1 x2) (q : ∀ H2, At_Holder T H2 p x0 x1 y → Kp [p] H H2 → R H2) : SetK K "kept_note" y R (.ref p) H := by obtain ⟨dx, e⟩ := h; exact s_sdk e T.cl_Holder T.na_Holder_kept_note (by simp [fl_Holder]) (gs := fl_Holder x0 x1 y) rfl fun H2 e2 k => q H2 ⟨dx, e2⟩ k
theorem u_Holder_kept_note {T : Tx K mg} {H : Hp} {p : Addr} {x0 x1 x2 : V} {R : Addr → Addr → V → Hp → Prop} (h : At_Holder T H p x0 x1 x2) (q : R p T.C_Holder x2 H) : FaK K "kept_note" R (.ref p) H := by obtain ⟨dx, e⟩ := h; exact s_fak e T.cl_Holder T.na_Holder_kept_note rfl q
theorem w_Holder_kept_note {T : Tx K mg} {H : Hp} {p : Addr} {x0 x1 x2 y : V} {R : Hp → Prop} (h : At_Holder T H p x0 x1 x2) (q : ∀ H2, At_Holder T H2 p x0 x1 y → Kp [p] H H2 → R H2) : FbK "kept_note" p T.C_Holder R y H := by obtain ⟨dx, e⟩ := h; exact s_fbk e (by simp [fl_Holder]) (gs := fl_Holder x0 x1 y) rfl fun H2 e2 k => q H2 ⟨dx, e2⟩ k
theorem k_Holder_got {T : Tx K mg} {H : Hp} {p : Addr} {x0 x1 x2 : V} {R : V → Hp → Prop} (h : At_Holder T H p x0 x1 x2) (q : R (.ref p) H) : MtK T.C_Holder "got" R (.ref p) H := by obtain ⟨dx, e⟩ := h; exact s_mtk e rfl q
theorem k_Holder_right {T : Tx K mg} {H : Hp} {p : Addr} {x0 x1 x2 : V} {R : V → Hp → Prop} (h : At_Holder T H p x0 x1 x2) (q : R (.ref p) H) : MtK T.C_Holder "right" R (.ref p) H := by obtain ⟨dx, e⟩ := h; exact s_mtk e rfl q
theorem k_Holder_use {T : Tx K mg} {H : Hp} {p : Addr} {x0 x1 x2 : V} {R : V → Hp → Prop} (h : At_Holder T H p x0 x1 x2) (q : R (.ref p) H) : MtK T.C_Holder "use" R (.ref p) H := by obtain ⟨dx, e⟩ := h; exact s_mtk e rfl q
theorem k_Holder_give {T : Tx K mg} {H : Hp} {p : Addr} {x0 x1 x2 : V} {R : V → Hp → Prop} (h : At_Holder T H p x0 x1 x2) (q : R (.ref p) H) : MtK T.C_Holder "give" R (.ref p) H := by obtain ⟨dx, e⟩ := h; exact s_mtk e rfl q
theorem k_Holder_note {T : Tx K mg} {H : Hp} {p : Addr} {x0 x1 x2 : V} {R : V → Hp → Prop} (h : At_Holder T H p x0 x1 x2) (q : R (.ref p) H) : MtK T.C_Holder "note" R (.ref p) H := by obtain ⟨dx, e⟩ := h; exact s_mtk e rfl q
theorem k_Holder_seen {T : Tx K mg} {H : Hp} {p : Addr} {x0 x1 x2 : V} {R : V → Hp → Prop} (h : At_Holder T H p x0 x1 x2) (q : R (.ref p) H) : MtK T.C_Holder "seen" R (.ref p) H := by obtain ⟨dx, e⟩ := h; exact s_mtk e rfl q
theorem i_Holder_kept_greatest {T : Tx K mg} {H : Hp} {p dx : Addr} {x0 : V} {R : Hp → Prop} (h : H p = some (.ins T.C_Holder dx [])) (q : ∀ H2, H2 p = some (.ins T.C_Holder dx [("kept_greatest", x0)]) → Kp [p] H H2 → R H2) : SetK K "kept_greatest" x0 R (.ref p) H := s_sdk h T.cl_Holder T.na_Holder_kept_greatest (by simp) rfl q
theorem i_Holder_kept_right {T : Tx K mg} {H : Hp} {p dx : Addr} {x0 x1 : V} {R : Hp → Prop} (h : H p = some (.ins T.C_Holder dx [("kept_greatest", x0)])) (q : ∀ H2, H2 p = some (.ins T.C_Holder dx [("kept_greatest", x0), ("kept_right", x1)]) → Kp [p] H H2 → R H2) : SetK K "kept_right" x1 R (.ref p) H := s_sdk h T.cl_Holder T.na_Holder_kept_right (by simp) rfl q
theorem i_Holder_kept_note {T : Tx K mg} {H : Hp} {p dx : Addr} {x0 x1 x2 : V} {R : Hp → Prop} (h : H p = some (.ins T.C_Holder dx [("kept_greatest", x0), ("kept_right", x1)])) (q : ∀ H2, H2 p = some (.ins T.C_Holder dx [("kept_greatest", x0), ("kept_right", x1), ("kept_note", x2)]) → Kp [p] H H2 → R H2) : SetK K "kept_note" x2 R (.ref p) H := s_sdk h T.cl_Holder T.na_Holder_kept_note (by simp) rfl q
local macro_rules | `(tactic| walk_at "u2") => `(tactic| first
  | ((with_reducible refine' g_Keeper_kept_times ?uat ?_); (case uat => walk_at "g"))
  | ((with_reducible refine' u_Keeper_kept_times ?uat ?_); (case uat => walk_at "g"))
  | ((with_reducible refine' g_Keeper_kept_shut ?uat ?_); (case uat => walk_at "g"))
  | ((with_reducible refine' u_Keeper_kept_shut ?uat ?_); (case uat => walk_at "g"))
  | ((with_reducible refine' g_Keeper_kept_open ?uat ?_); (case uat => walk_at "g"))
  | ((with_reducible refine' u_Keeper_kept_open ?uat ?_); (case uat => walk_at "g"))
  | ((with_reducible refine' k_Keeper_lock ?uat ?_); (case uat => walk_at "g"))
  | ((with_reducible refine' k_Keeper_locked ?uat ?_); (case uat => walk_at "g"))
  | ((with_reducible refine' k_Keeper_is_this ?uat ?_); (case uat => walk_at "g"))
  | ((with_reducible refine' k_Keeper_opens ?uat ?_); (case uat => walk_at "g"))
  | ((with_reducible refine' k_Keeper_is_open ?uat ?_); (case uat => walk_at "g"))
  | ((with_reducible refine' k_Keeper_let_go ?uat ?_); (case uat => walk_at "g"))
  | ((with_reducible refine' k_Keeper_unlock ?uat ?_); (case uat => walk_at "g"))
  | ((with_reducible refine' k_Keeper_ended ?uat ?_); (case uat => walk_at "g"))
  | ((with_reducible refine' k_Keeper_times ?uat ?_); (case uat => walk_at "g"))
  | ((with_reducible refine' g_Holder_kept_greatest ?uat ?_); (case uat => walk_at "g"))
  | ((with_reducible refine' u_Holder_kept_greatest ?uat ?_); (case uat => walk_at "g"))
  | ((with_reducible refine' g_Holder_kept_right ?uat ?_); (case uat => walk_at "g"))
  | ((with_reducible refine' u_Holder_kept_right ?uat ?_); (case uat => walk_at "g"))
  | ((with_reducible refine' g_Holder_kept_note ?uat ?_); (case uat => walk_at "g"))
  | ((with_reducible refine' u_Holder_kept_note ?uat ?_); (case uat => walk_at "g"))
  | ((with_reducible refine' k_Holder_got ?uat ?_); (case uat => walk_at "g"))
  | ((with_reducible refine' k_Holder_right ?uat ?_); (case uat => walk_at "g"))
  | ((with_reducible refine' k_Holder_use ?uat ?_); (case uat => walk_at "g"))
  | ((with_reducible refine' k_Holder_give ?uat ?_); (case uat => walk_at "g"))
  | ((with_reducible refine' k_Holder_note ?uat ?_); (case uat => walk_at "g"))
  | ((with_reducible refine' k_Holder_seen ?uat ?_); (case uat => walk_at "g")))
local macro_rules | `(tactic| walk_at "g2") => `(tactic| first
  | ((refine' At_Keeper.kpn ?ugm ?ugk ?ugn); (case ugk => assumption); (case ugm => walk_at "g"); (case ugn => walk_at "n"))
  | ((refine' At_Holder.kpn ?ugm ?ugk ?ugn); (case ugk => assumption); (case ugm => walk_at "g"); (case ugn => walk_at "n")))
local macro_rules | `(tactic| walk_at "t2") => `(tactic| first
  | exact At_Keeper.th (by assumption)
  | exact At_Holder.th (by assumption))
theorem ok_NoNumber_init (T : Tx K mg) : FnOk P w K mg base (L2.CX P w) 1 T.a_NoNumber_init T.d_NoNumber_init ["self", "found"] (spE T.C_NoNumber "found") := by
  refine T.F_NoNumber_init.okX sc_NoNumber_init (fun vs H Q E h => ?_) (fun cd A o s H vs Q E hr h => ?_)
  · obtain ⟨v0, v1, rfl, h⟩ := h; rfl
  obtain ⟨v0, v1, rfl, a, rfl, ha, k⟩ := h
  refine ⟨_, (pss_cons (ps_expr (pe_se (K := K) rfl rfl T.m_StaffError T.rd_StaffError T.vi_StaffError (pa_cons (pv 0) (pa_cons pe_str pa_nil))))
    (pss_one (ps_os (K := K) rfl (pv 0) (pv 1)))), ?_⟩
  walk_at "u"
  refine s_sek T.er_NoNumber.oex ha ?_
  walk_at "u"
  exact ⟨a, T.C_NoNumber, rfl, T.er_NoNumber.oex, T.er_NoNumber.no, ha, k⟩
theorem ok_Shut_init (T : Tx K mg) : FnOk P w K mg base (L2.CX P w) 1 T.a_Shut_init T.d_Shut_init ["self", "found"] (spE T.C_Shut "found") := by
  refine T.F_Shut_init.okX sc_Shut_init (fun vs H Q E h => ?_) (fun cd A o s H vs Q E hr h => ?_)
  · obtain ⟨v0, v1, rfl, h⟩ := h; rfl
  obtain ⟨v0, v1, rfl, a, rfl, ha, k⟩ := h
  refine ⟨_, (pss_cons (ps_expr (pe_se (K := K) rfl rfl T.m_StaffError T.rd_StaffError T.vi_StaffError (pa_cons (pv 0) (pa_cons pe_str pa_nil))))
    (pss_one (ps_os (K := K) rfl (pv 0) (pv 1)))), ?_⟩
  walk_at "u"
  refine s_sek T.er_Shut.oex ha ?_
  walk_at "u"
  exact ⟨a, T.C_Shut, rfl, T.er_Shut.oex, T.er_Shut.no, ha, k⟩
theorem ok_NoRight_init (T : Tx K mg) : FnOk P w K mg base (L2.CX P w) 1 T.a_NoRight_init T.d_NoRight_init ["self", "found"] (spE T.C_NoRight "found") := by
  refine T.F_NoRight_init.okX sc_NoRight_init (fun vs H Q E h => ?_) (fun cd A o s H vs Q E hr h => ?_)
  · obtain ⟨v0, v1, rfl, h⟩ := h; rfl
  obtain ⟨v0, v1, rfl, a, rfl, ha, k⟩ := h
  refine ⟨_, (pss_cons (ps_expr (pe_se (K := K) rfl rfl T.m_StaffError T.rd_StaffError T.vi_StaffError (pa_cons (pv 0) (pa_cons pe_str pa_nil))))
    (pss_one (ps_os (K := K) rfl (pv 0) (pv 1)))), ?_⟩
  walk_at "u"
  refine s_sek T.er_NoRight.oex ha ?_
  walk_at "u"
  exact ⟨a, T.C_NoRight, rfl, T.er_NoRight.oex, T.er_NoRight.no, ha, k⟩
theorem ok_NotShut_init (T : Tx K mg) : FnOk P w K mg base (L2.CX P w) 1 T.a_NotShut_init T.d_NotShut_init ["self", "found"] (spE T.C_NotShut "found") := by
  refine T.F_NotShut_init.okX sc_NotShut_init (fun vs H Q E h => ?_) (fun cd A o s H vs Q E hr h => ?_)
  · obtain ⟨v0, v1, rfl, h⟩ := h; rfl
  obtain ⟨v0, v1, rfl, a, rfl, ha, k⟩ := h
  refine ⟨_, (pss_cons (ps_expr (pe_se (K := K) rfl rfl T.m_StaffError T.rd_StaffError T.vi_StaffError (pa_cons (pv 0) (pa_cons pe_str pa_nil))))
    (pss_one (ps_os (K := K) rfl (pv 0) (pv 1)))), ?_⟩
  walk_at "u"
  refine s_sek T.er_NotShut.oex ha ?_
  walk_at "u"
  exact ⟨a, T.C_NotShut, rfl, T.er_NotShut.oex, T.er_NotShut.no, ha, k⟩
/-- take: a number below many -/
def sp_law_take : Sp := sp2 fun x y H Q _ => ∃ (p : Addr) (m : Int) (n : Nat), x = .ref p ∧ y = .int m ∧ Box H p n ∧ n ≤ 1000000 ∧ 0 < m ∧ m < 10 ^ 40 ∧
  ∀ (d : Int) (H' : Hp), 0 ≤ d → d < m → Box H' p (n + 1) → Kp [p] H H' → Q (.int d) H'
set_option maxHeartbeats 16000000 in
theorem ok_law_take (T : Tx K mg) : FnOk P w K mg base (L2.CX P w) 1 T.a_law_take T.d_law_take ["_law_box_here", "_law_many"] (sp_law_take) := by
  refine T.F_law_take.okX sc_law_take (fun vs H Q E h => ?_) (fun cd A o s H vs Q E hr h => ?_)
  · obtain ⟨v0, v1, rfl, h⟩ := h; rfl
  obtain ⟨v0, v1, rfl, h⟩ := h
  obtain ⟨p, m, n, rfl, rfl, ⟨a, b, c, hp, ha, hb, hb2, hc, hc2⟩, hn, hm, hm2, k⟩ := h
  refine ⟨_, (pss_cons (ps_if (pt_cmpR o_gt (pe_ix (ix_u (K := K) rfl) (pv 0) pe_int (fun _ _ => rfl)) pe_int (nomark _))
    (pss_cons (ps_set (i := 3) sc_law_take.nd rfl (Or.inl rfl) (pe_op o_mod (pe_ix (ix_u (K := K) rfl) (pv 0) pe_int (fun _ _ => rfl)) (pv 1)))
    (pss_cons (ps_asg (pe_op o_div (pe_ix (ix_u (K := K) rfl) (pv 0) pe_int (fun _ _ => rfl)) (pv 1)) (pg_sub (pv 0) pe_int (set_u hr)))
    (pss_one (ps_ret (pv 3)))))
    pss_nil)
    (pss_cons (ps_asg (pe_op (o_add (K := K) rfl) (pe_ix (ix_u (K := K) rfl) (pv 0) pe_int (fun _ _ => rfl)) pe_int) (pg_sub (pv 0) pe_int (set_u hr)))
    (pss_cons (ps_set (i := 2) sc_law_take.nd rfl (Or.inl rfl) (pe_op o_mod (pe_op o_pow (pe_op (o_add (K := K) rfl) (pe_op (o_add (K := K) rfl) (pe_ix (ix_u (K := K) rfl) (pv 0) pe_int (fun _ _ => rfl)) (pe_op o_mul pe_int (pe_ix (ix_u (K := K) rfl) (pv 0) pe_int (fun _ _ => rfl)))) pe_int) pe_int) pe_int))
    (pss_cons (ps_set (i := 2) sc_law_take.nd rfl (Or.inl rfl) (pe_op o_mod (pe_op o_pow (pe_op (o_add (K := K) rfl) (pv 2) (pe_op o_mul pe_int (pe_ix (ix_u (K := K) rfl) (pv 0) pe_int (fun _ _ => rfl)))) pe_int) pe_int))
    (pss_one (ps_ret (pe_op o_mod (pe_op o_div (pv 2) pe_int) (pv 1)))))))), ?_⟩
  rw [st_law_take]
  walk_at "u"
  refine s_ite (fun h0 => ?_) (fun h0 => ?_)
  · walk_at "u"
    refine s_ul hp rfl rfl fun H1 e1 k1 => ?_
    walk_at "u"
    refine k _ _ (Int.emod_nonneg _ (by omega)) (Int.emod_lt_of_pos _ hm) ⟨_, _, _, e1, Int.ediv_nonneg ha (by omega), hb, hb2, hc, by omega⟩ k1
  · walk_at "u"
    refine s_ul hp rfl rfl fun H1 e1 k1 => ?_
    walk_at "u"
    have h1 : (0 : Int) ≤ (b + 6700417 * (c + 1) + 271) ^ 5 % 2147483647 := Int.emod_nonneg _ (by omega)
    have h2 : (b + 6700417 * (c + 1) + 271) ^ 5 % 2147483647 < 2147483647 := Int.emod_lt_of_pos _ (by omega)
    generalize (b + 6700417 * (c + 1) + 271) ^ 5 % 2147483647 = y at h1 h2 ⊢
    walk_at "u"
    refine k _ _ (Int.emod_nonneg _ (by omega)) (Int.emod_lt_of_pos _ hm) ⟨_, _, _, e1, ha, hb, hb2, by omega, by omega⟩ k1
theorem c_take {p : Addr} {m : Int} {n : Nat} {H : Hp} {Q : VK} {E : XK} (hB : Box H p n) (hn : n ≤ 1000000) (h0 : 0 < m) (h1 : m < 10 ^ 40)
    (k : ∀ (d : Int) (H' : Hp), 0 ≤ d → d < m → Box H' p (n + 1) → Kp [p] H H' → Q (.int d) H') : sp_law_take [.ref p, .int m] H Q E := ⟨_, _, rfl, p, m, n, rfl, rfl, hB, hn, h0, h1, k⟩
def sp_law_cell (K : PySem.W.Frag) : Sp := sp2 fun x y H Q _ => ∃ (a : Addr) (ns : List Int) (k : Int), x = .ref a ∧ y = .int k ∧ SqL K H a (ns.map V.int) ∧ 0 ≤ k ∧ k < 1000 ∧ ∀ c : Int, Q (.int c) H
set_option maxHeartbeats 16000000 in
theorem ok_law_cell (T : Tx K mg) : FnOk P w K mg base (L2.CX P w) 1 T.a_law_cell T.d_law_cell ["_law_script", "_law_k"] (sp_law_cell K) := by
  refine T.F_law_cell.okX sc_law_cell (fun vs H Q E h => ?_) (fun cd A o s H vs Q E hr h => ?_)
  · obtain ⟨v0, v1, rfl, h⟩ := h; rfl
  obtain ⟨v0, v1, rfl, h⟩ := h
  obtain ⟨a, ns, k, rfl, rfl, hS, h0, h1, q⟩ := h
  refine ⟨_, (pss_cons (ps_if (pt_cmpR o_lt (pv 1) (pe_callB (c_len (K := K) rfl) rfl T.z_len bt_len (pa_cons (pv 0) pa_nil)) (nomark _))
    (pss_one (ps_ret (pe_ix (ix_u (K := K) rfl) (pv 0) (pv 1) (fun _ _ => rfl))))
    pss_nil)
    (pss_one (ps_ret (pe_op (o_add (K := K) rfl) (pe_op o_mul pe_int (pv 1)) pe_int)))), ?_⟩
  rw [st_law_cell]
  walk_at "u"
  refine s_lenL hS ?_
  walk_at "u"
  rw [List.length_map]
  refine s_ite (fun h2 => ?_) (fun h2 => ?_)
  · walk_at "u"
    obtain ⟨z, e1, e2⟩ := at_int (xs := ns.map V.int) h0 (by rw [List.length_map]; exact h2)
    rw [List.getElem?_map] at e1
    obtain ⟨c, _, rfl⟩ := Option.map_eq_some_iff.mp e1
    refine s_ixL hS e2 ?_
    walk_at "u"
    exact q c
  · walk_at "u"
    exact q _
theorem c_cell {K : PySem.W.Frag} {a : Addr} {ns : List Int} {k : Int} {H : Hp} {Q : VK} {E : XK} (hS : SqL K H a (ns.map V.int)) (h0 : 0 ≤ k) (h1 : k < 1000) (q : ∀ c : Int, Q (.int c) H) : sp_law_cell K [.ref a, .int k] H Q E := ⟨_, _, rfl, a, ns, k, rfl, rfl, hS, h0, h1, q⟩
def sp_law_box : Sp := sp1 fun x H Q _ => ∃ (c : Int), x = .int c ∧ ∀ p H', H p = none → Kp [] H H' → Box H' p 0 → Q (.ref p) H'
set_option maxHeartbeats 16000000 in
theorem ok_law_box (T : Tx K mg) : FnOk P w K mg base (L2.CX P w) 1 T.a_law_box T.d_law_box ["_law_cell_here"] (sp_law_box) := by
  refine T.F_law_box.okX sc_law_box (fun vs H Q E h => ?_) (fun cd A o s H vs Q E hr h => ?_)
  · obtain ⟨v0, rfl, h⟩ := h; rfl
  obtain ⟨v0, rfl, h⟩ := h
  obtain ⟨c, rfl, k⟩ := h
  refine ⟨_, (pss_one (ps_ret (pe_lst (pa_cons (pe_callB (c_max rfl) rfl T.z_max bt_max (pa_cons pe_int (pa_cons (pe_op o_sub (pv 0) (pe_op o_pow pe_int pe_int)) pa_nil))) (pa_cons (pe_op o_mod (pv 0) pe_int) (pa_cons pe_int pa_nil)))))), ?_⟩
  rw [st_law_box]
  walk_at "u"
  refine s_newl (zle (by simp)) fun p H1 hp e1 k1 => k p _ hp k1 ⟨_, _, _, e1, ?_, Int.emod_nonneg _ (by decide), Int.emod_lt_of_pos _ (by decide), Int.le_refl _, Int.le_refl _⟩
  split <;> omega
theorem c_box {c : Int} {H : Hp} {Q : VK} {E : XK} (q : ∀ p H', H p = none → Kp [] H H' → Box H' p 0 → Q (.ref p) H') : sp_law_box [.int c] H Q E := ⟨_, rfl, c, rfl, q⟩
local macro_rules | `(tactic| walk_at "tk") => `(tactic| (refine c_take (by walk_at "g") (by omega) (by first | decide | omega) (by first | decide | omega) ?_))
local macro_rules | `(tactic| walk_at "cl") => `(tactic| (refine c_cell (by walk_at "g") (by omega) (by omega) ?_))

def isW (i lo hi : Int) : Bool := decide (lo ≤ i) && decide (i ≤ hi)
def sp_is_whole : Sp := sp3 fun x y z H Q _ => ∃ (i lo hi : Int), x = .int i ∧ y = .int lo ∧ z = .int hi ∧ Q (.bl (isW i lo hi)) H
set_option maxHeartbeats 16000000 in
theorem ok_is_whole (T : Tx K mg) : FnOk P w K mg base (L2.CX P w) 1 T.a_is_whole T.d_is_whole ["thing", "low", "high"] (sp_is_whole) := by
  refine T.F_is_whole.okX sc_is_whole (fun vs H Q E h => ?_) (fun cd A o s H vs Q E hr h => ?_)
  · obtain ⟨v0, v1, v2, rfl, h⟩ := h; rfl
  obtain ⟨v0, v1, v2, rfl, h⟩ := h
  obtain ⟨i, lo, hi, rfl, rfl, rfl, k⟩ := h
  refine ⟨_, (pss_one (ps_ret (pe_and (pe_callB (c_isi (K := K) rfl) rfl T.z_isinstance bt_isinstance (pa_cons (pv 0) (pa_cons (pe_ty rfl T.z_int bt_int) pa_nil))) (pe_and (pe_not (pe_callB (c_isi (K := K) rfl) rfl T.z_isinstance bt_isinstance (pa_cons (pv 0) (pa_cons (pe_ty rfl T.z_bool bt_bool) pa_nil)))) (pe_one (pe_chain o_le o_le (pv 1) (pv 0) (pv 2))))))), ?_⟩
  rw [st_is_whole]
  walk_at "u"
  refine s_ite (fun h1 => ?_) (fun h1 => ?_)
  · walk_at "u"
    rw [isW, decide_eq_true h1, Bool.true_and] at k
    exact k
  · rw [isW, decide_eq_false h1, Bool.false_and] at k
    exact k
abbrev Pair := Int × Str
def VisO (H : Hp) (v : V) (o : Option Pair) : Prop := match o with
  | none => v = .non
  | some q => ∃ b, v = .ref b ∧ H b = some (.tup [.int q.1, .str q.2])
theorem VisO.kpn {H H2 : Hp} {v : V} {o : Option Pair} {ps : List Addr} (h : VisO H v o) (k : Kp ps H H2) : VisO H2 v o := by
  cases o with
  | none => exact h
  | some q => obtain ⟨b, e, z⟩ := h; exact ⟨b, e, k.tp _ _ z⟩
theorem VisO.non {H : Hp} {v : V} {o : Option Pair} (h : VisO H v o) : v = .non → o = none := by
  cases o with
  | none => exact fun _ => rfl
  | some q => obtain ⟨b, e, z⟩ := h; intro y; rw [e] at y; cases y
/-- the lock and its state -/
def KpO (T : Tx K mg) (H : Hp) (p : Addr) (t : Int) (s : Option Pair) (b : Bool) : Prop := ∃ S, At_Keeper T H p (.int t) S (.bl b) ∧ VisO H S s
theorem KpO.kpn {T : Tx K mg} {H H2 : Hp} {p : Addr} {t : Int} {s : Option Pair} {b : Bool} {ps : List Addr} (h : KpO T H p t s b) (k : Kp ps H H2) (n : p ∉ ps) : KpO T H2 p t s b := by
  obtain ⟨S, a, v⟩ := h; exact ⟨S, a.kpn k n, v.kpn k⟩
/-- a place's rights -/
def HdO (T : Tx K mg) (H : Hp) (p : Addr) (g : Int) (r : Option Pair) : Prop := ∃ R N, At_Holder T H p (.int g) R N ∧ VisO H R r
theorem HdO.kpn {T : Tx K mg} {H H2 : Hp} {p : Addr} {g : Int} {r : Option Pair} {ps : List Addr} (h : HdO T H p g r) (k : Kp ps H H2) (n : p ∉ ps) : HdO T H2 p g r := by
  obtain ⟨R, N, a, v⟩ := h; exact ⟨R, N, a.kpn k n, v.kpn k⟩
theorem KpO.ne {T : Tx K mg} {H : Hp} {p q : Addr} {t g : Int} {s r : Option Pair} {b : Bool} (h : KpO T H p t s b) (h2 : HdO T H q g r) : p ≠ q := by
  rintro rfl
  obtain ⟨S, ⟨dx, e⟩, _⟩ := h
  obtain ⟨R, N, ⟨dy, e2⟩, _⟩ := h2
  rw [e] at e2
  injection e2 with e2
  injection e2 with _ _ e2
  simp only [fl_Keeper, fl_Holder, List.cons.injEq, Prod.mk.injEq] at e2
  exact absurd e2.1.1 (by decide)
theorem KpO.th {T : Tx K mg} {H : Hp} {p : Addr} {t : Int} {s : Option Pair} {b : Bool} (h : KpO T H p t s b) : Th H p 5 := by obtain ⟨S, a, _⟩ := h; exact a.th
theorem HdO.th {T : Tx K mg} {H : Hp} {p : Addr} {g : Int} {r : Option Pair} (h : HdO T H p g r) : Th H p 5 := by obtain ⟨R, N, a, _⟩ := h; exact a.th
def sp_Keeper_init (T : Tx K mg) : Sp := sp1 fun x H Q _ => ∃ p dx, x = .ref p ∧ H p = some (.ins T.C_Keeper dx []) ∧ ∀ H', KpO T H' p 0 none false → Kp [p] H H' → Q .non H'
set_option maxHeartbeats 16000000 in
theorem ok_Keeper_init (T : Tx K mg) : FnOk P w K mg base (L2.CX P w) 1 T.a_Keeper_init T.d_Keeper_init ["self"] (sp_Keeper_init T) := by
  refine T.F_Keeper_init.okX sc_Keeper_init (fun vs H Q E h => ?_) (fun cd A o s H vs Q E hr h => ?_)
  · obtain ⟨v0, rfl, h⟩ := h; rfl
  obtain ⟨v0, rfl, h⟩ := h
  obtain ⟨p, dx, rfl, hp, k⟩ := h
  refine ⟨_, (pss_cons (ps_fd (K := K) rfl (pv 0) pe_int rfl)
    (pss_cons (ps_fd (K := K) rfl (pv 0) pe_non rfl)
    (pss_one (ps_fd (K := K) rfl (pv 0) pe_bl rfl)))), ?_⟩
  rw [st_Keeper_init]
  walk_at "u"
  refine i_Keeper_kept_times hp fun H1 e1 k1 => ?_
  walk_at "u"
  refine i_Keeper_kept_shut e1 fun H2 e2 k2 => ?_
  walk_at "u"
  refine i_Keeper_kept_open e2 fun H3 e3 k3 => ?_
  walk_at "u"
  exact k _ ⟨_, ⟨_, e3⟩, rfl⟩ ((k1.trans k2).trans k3)
def sp_Keeper_lock (T : Tx K mg) : Sp := sp2 fun x y H Q E => ∃ p t s b z, x = .ref p ∧ y = .str z ∧ KpO T H p t s b ∧
  (∀ q, s = some q → ∀ d H', H d = none → H' d = some (.xd [("found", .str q.2)]) → Kp [] H H' → E (.ref T.C_Shut) (some d) H') ∧
  (s = none → ∀ H', KpO T H' p (t + 1) (some (t + 1, z)) false → Kp [p] H H' → Q (.int (t + 1)) H')
set_option maxHeartbeats 16000000 in
theorem ok_Keeper_lock (T : Tx K mg) : FnOk P w K mg base (L2.CX P w) 3 T.a_Keeper_lock T.d_Keeper_lock ["self", "to"] (sp_Keeper_lock T) := by
  have G_Shut_init := ok_Shut_init (P := P) (w := w) (base := base) T
  refine T.F_Keeper_lock.okX sc_Keeper_lock (fun vs H Q E h => ?_) (fun cd A o s H vs Q E hr h => ?_)
  · obtain ⟨v0, v1, rfl, h⟩ := h; rfl
  obtain ⟨v0, v1, rfl, h⟩ := h
  obtain ⟨p, t, s, b, z, rfl, rfl, ⟨S, hp, hS⟩, k1, k2⟩ := h
  refine ⟨_, (pss_cons (ps_if (pt_cmpR o_isnot (pe_fd (K := K) rfl (pv 0) rfl) pe_non (nomark _))
    (pss_one (ps_rz rfl T.er_Shut.oex T.er_Shut.iC T.er_Shut.tI G_Shut_init (hr.mono (by decide)) T.B_Shut_init rfl T.m_Shut (takes_of (E := E) rfl rfl rfl rfl) (pe_ix (ix_u (K := K) rfl) (pe_fd (K := K) rfl (pv 0) rfl) pe_int (fun _ _ => rfl))))
    pss_nil)
    (pss_cons (ps_fa (K := K) rfl (pv 0) pe_int in_add)
    (pss_cons (ps_fd (K := K) rfl (pv 0) (pe_tup (pa_cons (pe_fd (K := K) rfl (pv 0) rfl) (pa_cons (pv 1) pa_nil))) rfl)
    (pss_cons (ps_fd (K := K) rfl (pv 0) pe_bl rfl)
    (pss_one (ps_ret (pe_fd (K := K) rfl (pv 0) rfl))))))), ?_⟩
  rw [st_Keeper_lock]
  cases s with
  | some q =>
    obtain ⟨b, rfl, eb⟩ := hS
    walk_at "u"
    exact fun d H' => k1 q rfl d H'
  | none =>
    obtain rfl : S = .non := hS
    walk_at "u"
    refine w_Keeper_kept_times hp fun H1 a1 j1 => ?_
    walk_at "u"
    walk_at "na"
    intro a H2 f2 e2 j2
    have a2 := a1.kp j2
    walk_at "u"
    refine p_Keeper_kept_shut a2 fun H3 a3 j3 => ?_
    walk_at "u"
    refine p_Keeper_kept_open a3 fun H4 a4 j4 => ?_
    walk_at "u"
    exact k2 rfl _ ⟨_, a4, a, rfl, j4.tp _ _ (j3.tp _ _ e2)⟩ (((j1.trans j2.nil).trans j3).trans j4)
def sp_Keeper_locked (T : Tx K mg) : Sp := sp1 fun x H Q _ => ∃ p g R N, x = .ref p ∧ At_Keeper T H p g R N ∧ Q R H
set_option maxHeartbeats 16000000 in
theorem ok_Keeper_locked (T : Tx K mg) : FnOk P w K mg base (L2.CX P w) 1 T.a_Keeper_locked T.d_Keeper_locked ["self"] (sp_Keeper_locked T) := by
  refine T.F_Keeper_locked.okX sc_Keeper_locked (fun vs H Q E h => ?_) (fun cd A o s H vs Q E hr h => ?_)
  · obtain ⟨v0, rfl, h⟩ := h; rfl
  obtain ⟨v0, rfl, h⟩ := h
  obtain ⟨p, g, R, N, rfl, hp, k⟩ := h
  refine ⟨_, (pss_one (ps_ret (pe_fd (K := K) rfl (pv 0) rfl))), ?_⟩
  rw [st_Keeper_locked]
  walk_at "u"
  exact k
def sp_Keeper_is_open (T : Tx K mg) : Sp := sp1 fun x H Q _ => ∃ p g R N, x = .ref p ∧ At_Keeper T H p g R N ∧ Q N H
set_option maxHeartbeats 16000000 in
theorem ok_Keeper_is_open (T : Tx K mg) : FnOk P w K mg base (L2.CX P w) 1 T.a_Keeper_is_open T.d_Keeper_is_open ["self"] (sp_Keeper_is_open T) := by
  refine T.F_Keeper_is_open.okX sc_Keeper_is_open (fun vs H Q E h => ?_) (fun cd A o s H vs Q E hr h => ?_)
  · obtain ⟨v0, rfl, h⟩ := h; rfl
  obtain ⟨v0, rfl, h⟩ := h
  obtain ⟨p, g, R, N, rfl, hp, k⟩ := h
  refine ⟨_, (pss_one (ps_ret (pe_fd (K := K) rfl (pv 0) rfl))), ?_⟩
  rw [st_Keeper_is_open]
  walk_at "u"
  exact k
def sp_Keeper_times (T : Tx K mg) : Sp := sp1 fun x H Q _ => ∃ p g R N, x = .ref p ∧ At_Keeper T H p g R N ∧ Q g H
set_option maxHeartbeats 16000000 in
theorem ok_Keeper_times (T : Tx K mg) : FnOk P w K mg base (L2.CX P w) 1 T.a_Keeper_times T.d_Keeper_times ["self"] (sp_Keeper_times T) := by
  refine T.F_Keeper_times.okX sc_Keeper_times (fun vs H Q E h => ?_) (fun cd A o s H vs Q E hr h => ?_)
  · obtain ⟨v0, rfl, h⟩ := h; rfl
  obtain ⟨v0, rfl, h⟩ := h
  obtain ⟨p, g, R, N, rfl, hp, k⟩ := h
  refine ⟨_, (pss_one (ps_ret (pe_fd (K := K) rfl (pv 0) rfl))), ?_⟩
  rw [st_Keeper_times]
  walk_at "u"
  exact k
/-- the lock's number is this one -/
def isThis (s : Option Pair) (i : Int) : Bool := match s with | none => false | some q => decide (i = q.1)
/-- a number of the lock -/
abbrev Nb (i : Int) : Prop := 1 ≤ i ∧ i ≤ 1000000
def sp_Keeper_is_this (T : Tx K mg) : Sp := sp2 fun x y H Q _ => ∃ p t s b i, x = .ref p ∧ KpO T H p t s b ∧ y = .int i ∧ Nb i ∧ Q (.bl (isThis s i)) H
set_option maxHeartbeats 16000000 in
theorem ok_Keeper_is_this (T : Tx K mg) : FnOk P w K mg base (L2.CX P w) 2 T.a_Keeper_is_this T.d_Keeper_is_this ["self", "number"] (sp_Keeper_is_this T) := by
  have G_is_whole := ok_is_whole (P := P) (w := w) (base := base) T
  refine T.F_Keeper_is_this.okX sc_Keeper_is_this (fun vs H Q E h => ?_) (fun cd A o s H vs Q E hr h => ?_)
  · obtain ⟨v0, v1, rfl, h⟩ := h; rfl
  obtain ⟨v0, v1, rfl, h⟩ := h
  obtain ⟨p, t, s, b, i, rfl, ⟨S, hp, hS⟩, rfl, hi, k⟩ := h
  refine ⟨_, (pss_one (ps_ret (pe_and (pe_cmpR o_isnot (pe_fd (K := K) rfl (pv 0) rfl) pe_non (nomark _)) (pe_and (pe_co G_is_whole (hr.mono (by decide)) rfl T.m_is_whole T.F_is_whole.kp T.B_is_whole (takes_of (E := E) rfl rfl rfl rfl) (pa_cons (pv 1) (pa_cons pe_int (pa_cons (pe_glob rfl T.mc_GREATEST T.rc_GREATEST) pa_nil)))) (pe_one (pe_cmpR (o_eq (K := K) rfl hr) (pv 1) (pe_ix (ix_u (K := K) rfl) (pe_fd (K := K) rfl (pv 0) rfl) pe_int (fun _ _ => rfl)) (nomark _))))))), ?_⟩
  rw [st_Keeper_is_this]
  cases s with
  | none =>
    obtain rfl : S = .non := hS
    walk_at "u"
    exact k
  | some q =>
    obtain ⟨b, rfl, eb⟩ := hS
    walk_at "u"
    refine ⟨_, _, _, rfl, i, 1, _, rfl, rfl, rfl, ?_⟩
    rw [show isW i 1 1000000000000000000000000000000 = true by simp only [isW, Bool.and_eq_true, decide_eq_true_eq]; omega]
    walk_at "u"
    exact k
def sp_Keeper_opens (T : Tx K mg) : Sp := sp2 fun x y H Q _ => ∃ p t s b i, x = .ref p ∧ KpO T H p t s b ∧ y = .int i ∧ Nb i ∧ ((b || !isThis s i) = true → Q (.bl false) H) ∧
  ((b || !isThis s i) = false → ∀ H', KpO T H' p t s true → Kp [p] H H' → Q (.bl true) H')
set_option maxHeartbeats 16000000 in
theorem ok_Keeper_opens (T : Tx K mg) : FnOk P w K mg base (L2.CX P w) 3 T.a_Keeper_opens T.d_Keeper_opens ["self", "number"] (sp_Keeper_opens T) := by
  have G_Keeper_is_this := ok_Keeper_is_this (P := P) (w := w) (base := base) T
  refine T.F_Keeper_opens.okX sc_Keeper_opens (fun vs H Q E h => ?_) (fun cd A o s H vs Q E hr h => ?_)
  · obtain ⟨v0, v1, rfl, h⟩ := h; rfl
  obtain ⟨v0, v1, rfl, h⟩ := h
  obtain ⟨p, t, s, b, i, rfl, hk, rfl, hi, k1, k2⟩ := h
  refine ⟨_, (pss_cons (ps_if (PW.pt (pw_or (pt_val (pe_fd (K := K) rfl (pv 0) rfl)) (pw_or1 (pt_not (pt_val (pe_mo T.cl_Keeper T.M_Keeper_is_this G_Keeper_is_this (hr.mono (by decide)) T.B_Keeper_is_this (takes_of (E := E) rfl rfl rfl rfl) (pv 0) (pa_cons (pv 1) pa_nil)))))))
    (pss_one (ps_ret pe_bl))
    pss_nil)
    (pss_cons (ps_fd (K := K) rfl (pv 0) pe_bl rfl)
    (pss_one (ps_ret pe_bl)))), ?_⟩
  rw [st_Keeper_opens]
  have hk0 := hk
  obtain ⟨S, hp, hS⟩ := hk0
  walk_at "w"
  refine s_ifS (jT (fun c H1 => H1 = H ∧ c = (b || !isThis s i)) (fun c H1 => ?_) (fun _ key => ?_))
  · rintro ⟨rfl, rfl⟩
    refine s_itb (fun h => ?_) (fun h => ?_)
    · walk_at "u"
      exact k1 h
    · walk_at "u"
      refine p_Keeper_kept_open hp fun H3 a3 j3 => ?_
      walk_at "u"
      exact k2 h _ ⟨_, a3, hS.kpn j3⟩ j3
  · walk_at "u"
    refine s_itb (fun h => ?_) (fun h => ?_)
    · exact key _ _ ⟨rfl, by rw [h]; rfl⟩
    · walk_at "u"
      refine ⟨_, _, rfl, p, _, s, _, i, rfl, hk, rfl, hi, ?_⟩
      walk_at "u"
      exact key _ _ ⟨rfl, by rw [h]; rfl⟩
def sp_Keeper_let_go (T : Tx K mg) : Sp := sp1 fun x H Q _ => ∃ p t s b, x = .ref p ∧ KpO T H p t s b ∧ ∀ H', KpO T H' p t none false → Kp [p] H H' → Q .non H'
set_option maxHeartbeats 16000000 in
theorem ok_Keeper_let_go (T : Tx K mg) : FnOk P w K mg base (L2.CX P w) 1 T.a_Keeper_let_go T.d_Keeper_let_go ["self"] (sp_Keeper_let_go T) := by
  refine T.F_Keeper_let_go.okX sc_Keeper_let_go (fun vs H Q E h => ?_) (fun cd A o s H vs Q E hr h => ?_)
  · obtain ⟨v0, rfl, h⟩ := h; rfl
  obtain ⟨v0, rfl, h⟩ := h
  obtain ⟨p, t, s, b, rfl, ⟨S, hp, hS⟩, k⟩ := h
  refine ⟨_, (pss_cons (ps_fd (K := K) rfl (pv 0) pe_non rfl)
    (pss_one (ps_fd (K := K) rfl (pv 0) pe_bl rfl))), ?_⟩
  rw [st_Keeper_let_go]
  walk_at "u"
  refine p_Keeper_kept_shut hp fun H3 a3 j3 => ?_
  walk_at "u"
  refine p_Keeper_kept_open a3 fun H4 a4 j4 => ?_
  walk_at "u"
  exact k _ ⟨_, a4, rfl⟩ (j3.trans j4)
def sp_Keeper_unlock (T : Tx K mg) : Sp := sp1 fun x H Q E => ∃ p t s b, x = .ref p ∧ KpO T H p t s b ∧
  (s = none → ∀ d H', H d = none → H' d = some (.xd [("found", .non)]) → Kp [] H H' → E (.ref T.C_NotShut) (some d) H') ∧
  (∀ q, s = some q → b = false → ∀ d H', H d = none → H' d = some (.xd [("found", .int q.1)]) → Kp [] H H' → E (.ref T.C_NoRight) (some d) H') ∧
  (∀ q, s = some q → b = true → ∀ H', KpO T H' p t none false → Kp [p] H H' → Q .non H')
set_option maxHeartbeats 16000000 in
theorem ok_Keeper_unlock (T : Tx K mg) : FnOk P w K mg base (L2.CX P w) 3 T.a_Keeper_unlock T.d_Keeper_unlock ["self"] (sp_Keeper_unlock T) := by
  have G_Keeper_let_go := ok_Keeper_let_go (P := P) (w := w) (base := base) T
  have G_NotShut_init := ok_NotShut_init (P := P) (w := w) (base := base) T
  have G_NoRight_init := ok_NoRight_init (P := P) (w := w) (base := base) T
  refine T.F_Keeper_unlock.okX sc_Keeper_unlock (fun vs H Q E h => ?_) (fun cd A o s H vs Q E hr h => ?_)
  · obtain ⟨v0, rfl, h⟩ := h; rfl
  obtain ⟨v0, rfl, h⟩ := h
  obtain ⟨p, t, s, b, rfl, hk, k1, k2, k3⟩ := h
  refine ⟨_, (pss_cons (ps_if (pt_cmpR o_is (pe_fd (K := K) rfl (pv 0) rfl) pe_non (nomark _))
    (pss_one (ps_rz rfl T.er_NotShut.oex T.er_NotShut.iC T.er_NotShut.tI G_NotShut_init (hr.mono (by decide)) T.B_NotShut_init rfl T.m_NotShut (takes_of (E := E) rfl rfl rfl rfl) pe_non))
    pss_nil)
    (pss_cons (ps_if (pt_not (pt_val (pe_fd (K := K) rfl (pv 0) rfl)))
    (pss_one (ps_rz rfl T.er_NoRight.oex T.er_NoRight.iC T.er_NoRight.tI G_NoRight_init (hr.mono (by decide)) T.B_NoRight_init rfl T.m_NoRight (takes_of (E := E) rfl rfl rfl rfl) (pe_ix (ix_u (K := K) rfl) (pe_fd (K := K) rfl (pv 0) rfl) pe_int (fun _ _ => rfl))))
    pss_nil)
    (pss_one (ps_expr (pe_mo0 T.cl_Keeper T.M_Keeper_let_go G_Keeper_let_go (hr.mono (by decide)) T.B_Keeper_let_go (takes_of (E := E) rfl rfl rfl rfl) (pv 0)))))), ?_⟩
  rw [st_Keeper_unlock]
  have hk0 := hk
  obtain ⟨S, hp, hS⟩ := hk0
  cases s with
  | none =>
    obtain rfl : S = .non := hS
    walk_at "u"
    exact fun d H' => k1 rfl d H'
  | some q =>
    obtain ⟨c, rfl, eb⟩ := hS
    cases b with
    | false =>
      walk_at "u"
      exact fun d H' => k2 q rfl rfl d H'
    | true =>
      walk_at "u"
      refine ⟨_, rfl, p, _, _, _, rfl, hk, fun H' a' j' => ?_⟩
      walk_at "u"
      exact k3 q rfl rfl H' a' j'
def sp_Keeper_ended (T : Tx K mg) : Sp := sp2 fun x y H Q E => ∃ p t q b, x = .ref p ∧ KpO T H p t (some q) b ∧ y = .int q.1 ∧ Nb q.1 ∧
  (∀ H', KpO T H' p t none false → Kp [p] H H' → Q .non H')
set_option maxHeartbeats 16000000 in
theorem ok_Keeper_ended (T : Tx K mg) : FnOk P w K mg base (L2.CX P w) 3 T.a_Keeper_ended T.d_Keeper_ended ["self", "number"] (sp_Keeper_ended T) := by
  have G_Keeper_let_go := ok_Keeper_let_go (P := P) (w := w) (base := base) T
  have G_NotShut_init := ok_NotShut_init (P := P) (w := w) (base := base) T
  have G_Keeper_is_this := ok_Keeper_is_this (P := P) (w := w) (base := base) T
  have G_NoRight_init := ok_NoRight_init (P := P) (w := w) (base := base) T
  refine T.F_Keeper_ended.okX sc_Keeper_ended (fun vs H Q E h => ?_) (fun cd A o s H vs Q E hr h => ?_)
  · obtain ⟨v0, v1, rfl, h⟩ := h; rfl
  obtain ⟨v0, v1, rfl, h⟩ := h
  obtain ⟨p, t, q, b, rfl, hk, rfl, hi, k⟩ := h
  refine ⟨_, (pss_cons (ps_if (pt_cmpR o_is (pe_fd (K := K) rfl (pv 0) rfl) pe_non (nomark _))
    (pss_one (ps_rz rfl T.er_NotShut.oex T.er_NotShut.iC T.er_NotShut.tI G_NotShut_init (hr.mono (by decide)) T.B_NotShut_init rfl T.m_NotShut (takes_of (E := E) rfl rfl rfl rfl) pe_non))
    pss_nil)
    (pss_cons (ps_if (pt_not (pt_val (pe_mo T.cl_Keeper T.M_Keeper_is_this G_Keeper_is_this (hr.mono (by decide)) T.B_Keeper_is_this (takes_of (E := E) rfl rfl rfl rfl) (pv 0) (pa_cons (pv 1) pa_nil))))
    (pss_one (ps_rz rfl T.er_NoRight.oex T.er_NoRight.iC T.er_NoRight.tI G_NoRight_init (hr.mono (by decide)) T.B_NoRight_init rfl T.m_NoRight (takes_of (E := E) rfl rfl rfl rfl) (pe_ix (ix_u (K := K) rfl) (pe_fd (K := K) rfl (pv 0) rfl) pe_int (fun _ _ => rfl))))
    pss_nil)
    (pss_one (ps_expr (pe_mo0 T.cl_Keeper T.M_Keeper_let_go G_Keeper_let_go (hr.mono (by decide)) T.B_Keeper_let_go (takes_of (E := E) rfl rfl rfl rfl) (pv 0)))))), ?_⟩
  rw [st_Keeper_ended]
  have hk0 := hk
  obtain ⟨S, hp, c, rfl, eb⟩ := hk0
  walk_at "u"
  refine ⟨_, _, rfl, p, _, some q, _, _, rfl, hk, rfl, hi, ?_⟩
  rw [show isThis (some q) q.1 = true from decide_eq_true rfl]
  walk_at "u"
  refine ⟨_, rfl, p, _, _, _, rfl, hk, fun H' a' j' => ?_⟩
  walk_at "u"
  exact k H' a' j'
def sp_Holder_init (T : Tx K mg) : Sp := sp1 fun x H Q _ => ∃ p dx, x = .ref p ∧ H p = some (.ins T.C_Holder dx []) ∧ ∀ H', HdO T H' p 0 none → Kp [p] H H' → Q .non H'
set_option maxHeartbeats 16000000 in
theorem ok_Holder_init (T : Tx K mg) : FnOk P w K mg base (L2.CX P w) 1 T.a_Holder_init T.d_Holder_init ["self"] (sp_Holder_init T) := by
  refine T.F_Holder_init.okX sc_Holder_init (fun vs H Q E h => ?_) (fun cd A o s H vs Q E hr h => ?_)
  · obtain ⟨v0, rfl, h⟩ := h; rfl
  obtain ⟨v0, rfl, h⟩ := h
  obtain ⟨p, dx, rfl, hp, k⟩ := h
  refine ⟨_, (pss_cons (ps_fd (K := K) rfl (pv 0) pe_int rfl)
    (pss_cons (ps_fd (K := K) rfl (pv 0) pe_non rfl)
    (pss_one (ps_fd (K := K) rfl (pv 0) pe_non rfl)))), ?_⟩
  rw [st_Holder_init]
  walk_at "u"
  refine i_Holder_kept_greatest hp fun H1 e1 k1 => ?_
  walk_at "u"
  refine i_Holder_kept_right e1 fun H2 e2 k2 => ?_
  walk_at "u"
  refine i_Holder_kept_note e2 fun H3 e3 k3 => ?_
  walk_at "u"
  exact k _ ⟨_, _, ⟨_, e3⟩, rfl⟩ ((k1.trans k2).trans k3)
def sp_Holder_got (T : Tx K mg) : Sp := sp3 fun x y z H Q E => ∃ p g r n w, x = .ref p ∧ HdO T H p g r ∧ y = .int n ∧ z = .str w ∧ 1 ≤ n ∧
  (n ≤ g → Q (.bl false) H) ∧ (g < n → ∀ H', HdO T H' p n (some (n, w)) → Kp [p] H H' → Q (.bl true) H')
set_option maxHeartbeats 16000000 in
theorem ok_Holder_got (T : Tx K mg) : FnOk P w K mg base (L2.CX P w) 3 T.a_Holder_got T.d_Holder_got ["self", "number", "place"] (sp_Holder_got T) := by
  have G_is_whole := ok_is_whole (P := P) (w := w) (base := base) T
  have G_NoNumber_init := ok_NoNumber_init (P := P) (w := w) (base := base) T
  refine T.F_Holder_got.okX sc_Holder_got (fun vs H Q E h => ?_) (fun cd A o s H vs Q E hr h => ?_)
  · obtain ⟨v0, v1, v2, rfl, h⟩ := h; rfl
  obtain ⟨v0, v1, v2, rfl, h⟩ := h
  obtain ⟨p, g, r, n, w, rfl, ⟨R, N, hp, hR⟩, rfl, rfl, hn, k1, k2⟩ := h
  refine ⟨_, (pss_cons (ps_if (pt_not (pt_val (pe_co G_is_whole (hr.mono (by decide)) rfl T.m_is_whole T.F_is_whole.kp T.B_is_whole (takes_of (E := E) rfl rfl rfl rfl) (pa_cons (pv 1) (pa_cons pe_int (pa_cons (pv 1) pa_nil))))))
    (pss_one (ps_rz rfl T.er_NoNumber.oex T.er_NoNumber.iC T.er_NoNumber.tI G_NoNumber_init (hr.mono (by decide)) T.B_NoNumber_init rfl T.m_NoNumber (takes_of (E := E) rfl rfl rfl rfl) (pv 1)))
    pss_nil)
    (pss_cons (ps_if (pt_cmpR o_le (pv 1) (pe_fd (K := K) rfl (pv 0) rfl) (nomark _))
    (pss_one (ps_ret pe_bl))
    pss_nil)
    (pss_cons (ps_fd (K := K) rfl (pv 0) (pv 1) rfl)
    (pss_cons (ps_fd (K := K) rfl (pv 0) (pe_tup (pa_cons (pv 1) (pa_cons (pv 2) pa_nil))) rfl)
    (pss_one (ps_ret pe_bl)))))), ?_⟩
  rw [st_Holder_got]
  walk_at "u"
  refine ⟨_, _, _, rfl, n, 1, n, rfl, rfl, rfl, ?_⟩
  rw [show isW n 1 n = true by simp only [isW, Bool.and_eq_true, decide_eq_true_eq]; omega]
  walk_at "u"
  refine s_ite (fun h1 => ?_) (fun h1 => ?_)
  · walk_at "u"
    exact k1 h1
  · walk_at "u"
    refine p_Holder_kept_greatest hp fun H1 a1 j1 => ?_
    walk_at "u"
    walk_at "na"
    intro a H2 f2 e2 j2
    have a2 := a1.kp j2
    walk_at "u"
    refine p_Holder_kept_right a2 fun H3 a3 j3 => ?_
    walk_at "u"
    exact k2 (by omega) _ ⟨_, _, a3, a, rfl, j3.tp _ _ e2⟩ ((j1.trans j2.nil).trans j3)
def sp_Holder_right (T : Tx K mg) : Sp := sp1 fun x H Q _ => ∃ p g R N, x = .ref p ∧ At_Holder T H p g R N ∧ Q R H
set_option maxHeartbeats 16000000 in
theorem ok_Holder_right (T : Tx K mg) : FnOk P w K mg base (L2.CX P w) 1 T.a_Holder_right T.d_Holder_right ["self"] (sp_Holder_right T) := by
  refine T.F_Holder_right.okX sc_Holder_right (fun vs H Q E h => ?_) (fun cd A o s H vs Q E hr h => ?_)
  · obtain ⟨v0, rfl, h⟩ := h; rfl
  obtain ⟨v0, rfl, h⟩ := h
  obtain ⟨p, g, R, N, rfl, hp, k⟩ := h
  refine ⟨_, (pss_one (ps_ret (pe_fd (K := K) rfl (pv 0) rfl))), ?_⟩
  rw [st_Holder_right]
  walk_at "u"
  exact k
def sp_Holder_seen (T : Tx K mg) : Sp := sp1 fun x H Q _ => ∃ p g R N, x = .ref p ∧ At_Holder T H p g R N ∧ Q g H
set_option maxHeartbeats 16000000 in
theorem ok_Holder_seen (T : Tx K mg) : FnOk P w K mg base (L2.CX P w) 1 T.a_Holder_seen T.d_Holder_seen ["self"] (sp_Holder_seen T) := by
  refine T.F_Holder_seen.okX sc_Holder_seen (fun vs H Q E h => ?_) (fun cd A o s H vs Q E hr h => ?_)
  · obtain ⟨v0, rfl, h⟩ := h; rfl
  obtain ⟨v0, rfl, h⟩ := h
  obtain ⟨p, g, R, N, rfl, hp, k⟩ := h
  refine ⟨_, (pss_one (ps_ret (pe_fd (K := K) rfl (pv 0) rfl))), ?_⟩
  rw [st_Holder_seen]
  walk_at "u"
  exact k
def sp_Holder_use (T : Tx K mg) : Sp := sp1 fun x H Q E => ∃ p g r, x = .ref p ∧ HdO T H p g r ∧
  (∀ q, r = some q → ∀ b H', H b = some (.tup [.int q.1, .str q.2]) → HdO T H' p g none → Kp [p] H H' → Q (.ref b) H') ∧
  (r = none → ∀ d H', H d = none → H' d = some (.xd [("found", .non)]) → Kp [] H H' → E (.ref T.C_NoRight) (some d) H')
set_option maxHeartbeats 16000000 in
theorem ok_Holder_use (T : Tx K mg) : FnOk P w K mg base (L2.CX P w) 3 T.a_Holder_use T.d_Holder_use ["self"] (sp_Holder_use T) := by
  have G_NoRight_init := ok_NoRight_init (P := P) (w := w) (base := base) T
  refine T.F_Holder_use.okX sc_Holder_use (fun vs H Q E h => ?_) (fun cd A o s H vs Q E hr h => ?_)
  · obtain ⟨v0, rfl, h⟩ := h; rfl
  obtain ⟨v0, rfl, h⟩ := h
  obtain ⟨p, g, r, rfl, ⟨R, N, hp, hR⟩, k1, k2⟩ := h
  refine ⟨_, (pss_cons (ps_set (i := 1) sc_Holder_use.nd rfl (Or.inl rfl) (pe_fd (K := K) rfl (pv 0) rfl))
    (pss_cons (ps_if (pt_cmpR o_is (pv 1) pe_non (nomark _))
    (pss_one (ps_rz rfl T.er_NoRight.oex T.er_NoRight.iC T.er_NoRight.tI G_NoRight_init (hr.mono (by decide)) T.B_NoRight_init rfl T.m_NoRight (takes_of (E := E) rfl rfl rfl rfl) pe_non))
    pss_nil)
    (pss_cons (ps_fd (K := K) rfl (pv 0) pe_non rfl)
    (pss_one (ps_ret (pv 1)))))), ?_⟩
  rw [st_Holder_use]
  cases r with
  | none =>
    obtain rfl : R = .non := hR
    walk_at "u"
    exact fun d H' => k2 rfl d H'
  | some q =>
    obtain ⟨b, rfl, eb⟩ := hR
    walk_at "u"
    refine p_Holder_kept_right hp fun H1 a1 j1 => ?_
    walk_at "u"
    exact k1 q rfl b _ eb ⟨_, _, a1, rfl⟩ j1
def sp_Holder_note (T : Tx K mg) : Sp := sp3 fun x y z H Q _ => ∃ p g r, x = .ref p ∧ HdO T H p g r ∧ ∀ H', HdO T H' p g r → Kp [p] H H' → Q .non H'
set_option maxHeartbeats 16000000 in
theorem ok_Holder_note (T : Tx K mg) : FnOk P w K mg base (L2.CX P w) 1 T.a_Holder_note T.d_Holder_note ["self", "number", "place"] (sp_Holder_note T) := by
  refine T.F_Holder_note.okX sc_Holder_note (fun vs H Q E h => ?_) (fun cd A o s H vs Q E hr h => ?_)
  · obtain ⟨v0, v1, v2, rfl, h⟩ := h; rfl
  obtain ⟨v0, v1, v2, rfl, h⟩ := h
  obtain ⟨p, g, r, rfl, ⟨R, N, hp, hR⟩, k⟩ := h
  refine ⟨_, (pss_one (ps_fd (K := K) rfl (pv 0) (pe_tup (pa_cons (pv 1) (pa_cons (pv 2) pa_nil))) rfl)), ?_⟩
  rw [st_Holder_note]
  walk_at "u"
  walk_at "na"
  intro a H2 f2 e2 j2
  have a2 := hp.kp j2
  walk_at "u"
  refine p_Holder_kept_note a2 fun H3 a3 j3 => ?_
  walk_at "u"
  exact k _ ⟨_, _, a3, (hR.kpn j2).kpn j3⟩ (j2.nil.trans j3)
def sp_Holder_give (T : Tx K mg) : Sp := sp1 fun x H Q E => ∃ p g r, x = .ref p ∧ HdO T H p g r ∧
  (∀ q, r = some q → ∀ b H', H' b = some (.tup [.int q.1, .str q.2]) → HdO T H' p g none → Kp [p] H H' → Q (.ref b) H') ∧
  (r = none → ∀ d H', H d = none → H' d = some (.xd [("found", .non)]) → Kp [] H H' → E (.ref T.C_NoRight) (some d) H')
set_option maxHeartbeats 16000000 in
theorem ok_Holder_give (T : Tx K mg) : FnOk P w K mg base (L2.CX P w) 4 T.a_Holder_give T.d_Holder_give ["self"] (sp_Holder_give T) := by
  have G_Holder_use := ok_Holder_use (P := P) (w := w) (base := base) T
  have G_Holder_note := ok_Holder_note (P := P) (w := w) (base := base) T
  refine T.F_Holder_give.okX sc_Holder_give (fun vs H Q E h => ?_) (fun cd A o s H vs Q E hr h => ?_)
  · obtain ⟨v0, rfl, h⟩ := h; rfl
  obtain ⟨v0, rfl, h⟩ := h
  obtain ⟨p, g, r, rfl, hp, k1, k2⟩ := h
  refine ⟨_, (pss_cons (ps_set (i := 1) sc_Holder_give.nd rfl (Or.inl rfl) (pe_mo0 T.cl_Holder T.M_Holder_use G_Holder_use (hr.mono (by decide)) T.B_Holder_use (takes_of (E := E) rfl rfl rfl rfl) (pv 0)))
    (pss_cons (ps_expr (pe_mo T.cl_Holder T.M_Holder_note G_Holder_note (hr.mono (by decide)) T.B_Holder_note (takes_of (E := E) rfl rfl rfl rfl) (pv 0) (pa_cons (pe_ix (ix_u (K := K) rfl) (pv 1) pe_int (fun _ _ => rfl)) (pa_cons (pe_ix (ix_u (K := K) rfl) (pv 1) pe_int (fun _ _ => rfl)) pa_nil))))
    (pss_one (ps_ret (pv 1))))), ?_⟩
  rw [st_Holder_give]
  have hp0 := hp
  obtain ⟨R, N, ha, hR⟩ := hp0
  walk_at "u"
  refine ⟨_, rfl, p, g, r, rfl, hp, fun q e b H1 eb a1 j1 => ?_, k2⟩
  have eb1 := j1.tp _ _ eb
  have a1' := a1
  obtain ⟨R1, N1, ha1, hR1⟩ := a1'
  walk_at "u"
  refine ⟨_, _, _, rfl, p, g, none, rfl, a1, fun H2 a2 j2 => ?_⟩
  walk_at "u"
  exact k1 q e b _ (j2.tp _ _ eb1) a2 (j1.trans j2)

theorem letters_ss : SS ("abcdefghijklmnopqrstuvwxyz" : Str) 26 := SS.mk' (by decide +kernel)
theorem letters_at {i : Int} (h0 : 0 ≤ i) (h1 : i < 26) : ∃ c, atI ("abcdefghijklmnopqrstuvwxyz" : Str).cps.toList i = some c ∧ c < 1114112 := by
  obtain ⟨c, e, h, _⟩ := letters_ss.at h0 (by rw [show ("abcdefghijklmnopqrstuvwxyz" : Str).length = 26 by decide +kernel]; exact h1)
  exact ⟨c, e, h⟩
def sp_law_names : Sp := sp2 fun x y H Q _ => ∃ (p : Addr) (n many : Nat), x = .ref p ∧ y = .int many ∧ many ≤ 7 ∧ Box H p n ∧ n ≤ 900000 ∧ ∀ (l : Addr) (zs : List Str) (H' : Hp), H l = none → H' l = some (.lst (zs.map V.str)) → zs.length = many → (∀ z ∈ zs, SS z 20) → Box H' p (n + 10) → Kp [p] H H' → Q (.ref l) H'
set_option maxHeartbeats 16000000 in
theorem ok_law_names (T : Tx K mg) : FnOk P w K mg base (L2.CX P w) 2 T.a_law_names T.d_law_names ["_law_box_here", "_law_many"] (sp_law_names) := by
  have G_law_take := ok_law_take (P := P) (w := w) (base := base) T
  refine T.F_law_names.okX sc_law_names (fun vs H Q E h => ?_) (fun cd A o s H vs Q E hr h => ?_)
  · obtain ⟨v0, v1, rfl, h⟩ := h; rfl
  obtain ⟨v0, v1, rfl, h⟩ := h
  obtain ⟨p, n, many, rfl, rfl, hm, hB, hn, k⟩ := h
  refine ⟨_, (pss_cons (ps_set (i := 2) sc_law_names.nd rfl (Or.inr rfl) pe_str)
    (pss_cons (ps_set (i := 3) sc_law_names.nd rfl (Or.inr rfl) (pe_co G_law_take (hr.mono (by decide)) rfl T.m_law_take T.F_law_take.kp T.B_law_take (takes_of (E := E) rfl rfl rfl rfl) (pa_cons (pv 0) (pa_cons pe_int pa_nil))))
    (pss_cons (ps_set (i := 4) sc_law_names.nd rfl (Or.inr rfl) (pe_joinU (K := K) rfl pe_str (pe_lc (own := [("_law_k", 6)]) rfl sc_law_names.nd (pi_range1 rfl T.z_range (pa_cons pe_int pa_nil)) (blkOk_by (own := [("_law_k", 6)]) (N := N_law_names) (sc := defScope s_law_names) (by decide +kernel)) (fun _ _ _ _ _ => (pg_name (i := 6) sc_law_names.nd rfl (Or.inl rfl))) (fun _ _ _ _ _ => pts_nil) (fun _ _ _ _ _ => (pe_ix (ix_u (K := K) rfl) (pv 2) (pe_co G_law_take (hr.mono (by decide)) rfl T.m_law_take T.F_law_take.kp T.B_law_take takes0 (pa_cons (pv 0) (pa_cons pe_int pa_nil))) (fun _ _ => rfl))))))
    (pss_cons (ps_set (i := 5) sc_law_names.nd rfl (Or.inr rfl) (pe_co G_law_take (hr.mono (by decide)) rfl T.m_law_take T.F_law_take.kp T.B_law_take (takes_of (E := E) rfl rfl rfl rfl) (pa_cons (pv 0) (pa_cons pe_int pa_nil))))
    (pss_cons (ps_if (pt_cmpR (o_eq (K := K) rfl hr) (pe_co G_law_take (hr.mono (by decide)) rfl T.m_law_take T.F_law_take.kp T.B_law_take (takes_of (E := E) rfl rfl rfl rfl) (pa_cons (pv 0) (pa_cons pe_int pa_nil))) pe_int (nomark _))
    (pss_one (ps_ret (pe_lc (own := [("_law_k", 6)]) rfl sc_law_names.nd (pi_range1 rfl T.z_range (pa_cons (pv 1) pa_nil)) (blkOk_by (own := [("_law_k", 6)]) (N := N_law_names) (sc := defScope s_law_names) (by decide +kernel)) (fun _ _ _ _ _ => (pg_name (i := 6) sc_law_names.nd rfl (Or.inl rfl))) (fun _ _ _ _ _ => pts_nil) (fun _ _ _ _ _ => (pe_slice (sl_u (K := K) rfl) (pe_op (o_add (K := K) rfl) (pv 4) (pe_ix (ix_u (K := K) rfl) (pv 2) (pv 3) (fun _ _ => rfl))) po_none (po_some (pe_op (o_add (K := K) rfl) pe_int (pe_op o_mod (pe_op (o_add (K := K) rfl) (pv 3) (pe_op o_mul pe_int (pv 6))) pe_int))))))))
    pss_nil)
    (pss_one (ps_ret (pe_lc (own := [("_law_k", 6)]) rfl sc_law_names.nd (pi_range1 rfl T.z_range (pa_cons (pv 1) pa_nil)) (blkOk_by (own := [("_law_k", 6)]) (N := N_law_names) (sc := defScope s_law_names) (by decide +kernel)) (fun _ _ _ _ _ => (pg_name (i := 6) sc_law_names.nd rfl (Or.inl rfl))) (fun _ _ _ _ _ => pts_nil) (fun _ _ _ _ _ => (pe_op (o_add (K := K) rfl) (pe_op (o_add (K := K) rfl) (pe_slice (sl_u (K := K) rfl) (pv 4) po_none (po_some (pv 5))) (pe_ix (ix_u (K := K) rfl) (pv 2) (pe_op o_mod (pe_op (o_add (K := K) rfl) (pv 3) (pe_op o_mul pe_int (pv 6))) pe_int) (fun _ _ => rfl))) (pe_slice (sl_u (K := K) rfl) (pv 4) (po_some (pv 5)) po_none))))))))))), ?_⟩
  rw [st_law_names]
  walk_at "u"
  walk_at "tk"
  intro d H1 d0 d1 B1 k1
  walk_at "u"
  refine s_rng (by omega) (by omega) ?_
  intro D hD
  refine lc_R hD (fun i acc H' => Kp [p, D] H1 H' ∧ Box H' p (n + 1 + i) ∧ ∃ cs : List Nat, (∀ c ∈ cs, c < 1114112) ∧ cs.length = i ∧ acc = cs.map fun c => V.str ⟨#[c]⟩)
    (fun H2 e2 k2 => ⟨by walk_at "k", by walk_at "g", [], by simp, rfl, rfl⟩) ?_ ?_
  · rintro i acc H3 hi e ⟨kp, Bi, cs, hcs, hl, rfl⟩
    walk_at "u"
    refine ⟨rfl, ?_⟩
    walk_at "u"
    walk_at "tk"
    intro d2 H4 d20 d21 B4 k4
    walk_at "u"
    obtain ⟨c, hc, hc2⟩ := letters_at d20 d21
    refine s_ixs (by decide +kernel) hc ?_
    refine PvD.add (acc := cs.map fun c => V.str ⟨#[c]⟩) (by walk_at "g") (by simp; omega) fun H5 e5 k5 => ⟨by walk_at "k", by walk_at "g", cs ++ [c], ?_, by simp [hl], by simp⟩
    intro y hy
    rcases List.mem_append.mp hy with hy | hy
    · exact hcs y hy
    · rw [List.mem_singleton.mp hy]; exact hc2
  · rintro acc H2 e ⟨kp, Bi, cs, hcs, hl, rfl⟩
    walk_at "u"
    refine s_join (ys := cs.map fun c => ⟨#[c]⟩) (by rw [List.map_map]; exact e) ?_ ?_
    · rw [ones_len, List.length_map, show (Str.ofString "").length = 0 by decide +kernel]
      omega
    have hS : SS (Txt.join (Str.ofString "") (cs.map fun c => ⟨#[c]⟩)) 9 := (SS.ones hcs).mono (by omega)
    generalize Txt.join (Str.ofString "") (cs.map fun c => ⟨#[c]⟩) = z at hS ⊢
    have hz := hS.len
    clear hl
    walk_at "u"
    walk_at "tk"
    intro at' H3 a0 a1 B3 k3
    walk_at "u"
    walk_at "tk"
    intro d4 H4 d40 d41 B4 k4
    walk_at "u"
    refine s_ite (fun h1 => ?_) (fun h1 => ?_)
    · walk_at "u"
      refine s_rng (by omega) (by omega) ?_
      intro L hL
      refine lc_R hL (fun i acc H' => Kp [L] H4 H' ∧ ∃ zs : List Str, (∀ z ∈ zs, SS z 20) ∧ zs.length = i ∧ acc = zs.map V.str)
        (fun H5 e5 k5 => ⟨by walk_at "k", [], by simp, rfl, rfl⟩) ?_ ?_
      · rintro i acc H5 hi e5 ⟨kp5, zs, hzs, hl, rfl⟩
        walk_at "u"
        refine ⟨rfl, ?_⟩
        walk_at "u"
        obtain ⟨c, hc, hc2⟩ := letters_at d0 d1
        refine s_ixs (by decide +kernel) hc ?_
        have S1 := hS.app (SS.one hc2)
        walk_at "u"
        refine s_adds (zle (by have := S1.len; rw [Str.length_append] at this; omega)) ?_
        walk_at "u"
        refine s_sls (zle (by have := S1.len; omega)) ?_
        refine PvD.add e5 (by simp; omega) fun H6 e6 k6 => ⟨by walk_at "k", zs ++ [_], ?_, by simp [hl], by rw [List.map_append]; rfl⟩
        intro y hy
        rcases List.mem_append.mp hy with hy | hy
        · exact hzs y hy
        · rw [List.mem_singleton.mp hy]; exact S1.cut.mono (by omega)
      · rintro acc H5 e5 ⟨kp5, zs, hzs, hl, rfl⟩
        walk_at "u"
        have kz : Kz [p] H H5 := ⟨by walk_at "k"⟩
        exact k L zs H5 (by walk_at "f") e5 (by simpa using hl) hzs (Box.more (n := n + 1 + 5 + 2) (by walk_at "g") (by omega)) kz.k
    · walk_at "u"
      refine s_rng (by omega) (by omega) ?_
      intro L hL
      refine lc_R hL (fun i acc H' => Kp [L] H4 H' ∧ ∃ zs : List Str, (∀ z ∈ zs, SS z 20) ∧ zs.length = i ∧ acc = zs.map V.str)
        (fun H5 e5 k5 => ⟨by walk_at "k", [], by simp, rfl, rfl⟩) ?_ ?_
      · rintro i acc H5 hi e5 ⟨kp5, zs, hzs, hl, rfl⟩
        walk_at "u"
        refine ⟨rfl, ?_⟩
        walk_at "u"
        refine s_sls (zle (by omega)) ?_
        walk_at "u"
        obtain ⟨c, hc, hc2⟩ := letters_at (i := (d + 7 * (0 + (i : Int))) % 26) (Int.emod_nonneg _ (by decide)) (Int.emod_lt_of_pos _ (by decide))
        refine s_ixs (by decide +kernel) hc ?_
        have S0 : SS (cutS z none (some at')) 9 := hS.cut
        have S1 := S0.app (SS.one hc2)
        refine s_adds (zle (by have := S1.len; rw [Str.length_append] at this; omega)) ?_
        walk_at "u"
        refine s_sls (zle (by omega)) ?_
        have S2 : SS (cutS z (some at') none) 9 := hS.cut
        have S3 := S1.app S2
        refine s_adds (zle (by have := S3.len; rw [Str.length_append] at this; omega)) ?_
        refine PvD.add e5 (by simp; omega) fun H6 e6 k6 => ⟨by walk_at "k", zs ++ [_], ?_, by simp [hl], by rw [List.map_append]; rfl⟩
        intro y hy
        rcases List.mem_append.mp hy with hy | hy
        · exact hzs y hy
        · rw [List.mem_singleton.mp hy]; exact S3.mono (by omega)
      · rintro acc H5 e5 ⟨kp5, zs, hzs, hl, rfl⟩
        walk_at "u"
        have kz : Kz [p] H H5 := ⟨by walk_at "k"⟩
        exact k L zs H5 (by walk_at "f") e5 (by simpa using hl) hzs (Box.more (n := n + 1 + 5 + 2) (by walk_at "g") (by omega)) kz.k

structure St where
  t : Int
  s : Option Pair
  b : Bool
  ws : List (Bool × Int × Str)
  u : Option Pair
  g : Str → Int
  r : Str → Option Pair
def up {α : Type} (f : Str → α) (p : Str) (v : α) : Str → α := fun q => if q = p then v else f q
theorem up_same {α : Type} {f : Str → α} {p : Str} {v : α} : up f p v p = v := if_pos rfl
theorem up_ne {α : Type} {f : Str → α} {p q : Str} {v : α} (h : q ≠ p) : up f p v q = f q := if_neg h
structure Good (ns : List Str) (S : St) : Prop where
  t0 : 0 ≤ S.t
  iw : ∀ w ∈ S.ws, 1 ≤ w.2.1 ∧ w.2.1 ≤ S.t ∧ w.2.2 ∈ ns
  i1 : ∀ n p, S.s = some (n, p) → n = S.t ∧ 1 ≤ n
  i2 : ∀ m p, (false, m, p) ∈ S.ws → (m < S.t ∨ S.s = none → m ≤ S.g p) ∧ ∀ to, S.s = some (m, to) → p = to
  i3 : ∀ m p, (true, m, p) ∈ S.ws → (∀ q ∈ ns, ∀ x, S.r q = some x → x.1 ≠ m) ∧ (∀ x, S.u = some x → x.1 ≠ m) ∧ ∀ to, S.s = some (m, to) → m ≤ S.g to
  i4 : S.b = true → ∃ n to, S.s = some (n, to) ∧ n ≤ S.g to ∧ S.u = none ∧ ∀ q ∈ ns, S.r q = none
  i5 : ∀ q ∈ ns, ∀ x, S.r q = some x → S.s = some (x.1, q) ∧ S.g q = x.1 ∧ S.u = none ∧ ∀ p ∈ ns, p ≠ q → S.r p = none
  i6 : ∀ x, S.u = some x → S.s = some x ∧ x.1 ≤ S.g x.2 ∧ x.2 ∈ ns ∧ ∀ q ∈ ns, S.r q = none
  i8 : ∀ q ∈ ns, ∀ x, S.r q = some x → x.2 = "home"
  i9 : ∀ n p, S.s = some (n, p) → p ∈ ns
section
variable {ns : List Str} {S : St}
theorem Good.rnone (h : Good ns S) (e : S.s = none) : ∀ q ∈ ns, S.r q = none := fun q hq => by
  cases e2 : S.r q with
  | none => rfl
  | some x => have := (h.i5 q hq x e2).1; rw [e] at this; cases this
theorem Good.unone (h : Good ns S) (e : S.s = none) : S.u = none := by
  cases e2 : S.u with
  | none => rfl
  | some x => have := (h.i6 x e2).1; rw [e] at this; cases this
theorem lock_good (h : Good ns S) (e : S.s = none) {p : Str} (hp : p ∈ ns) : Good ns { S with t := S.t + 1, s := some (S.t + 1, p), b := false, ws := S.ws ++ [(false, S.t + 1, p)] } where
  t0 := by have := h.t0; show 0 ≤ S.t + 1; omega
  iw := fun w hw => by
    rcases List.mem_append.mp hw with hw | hw
    · obtain ⟨a, b, c⟩ := h.iw w hw; exact ⟨a, by show _ ≤ S.t + 1; omega, c⟩
    · rw [List.mem_singleton.mp hw]; have := h.t0; exact ⟨by show 1 ≤ S.t + 1; omega, Int.le_refl _, hp⟩
  i1 := fun n q z => by cases z; have := h.t0; exact ⟨rfl, by omega⟩
  i2 := fun m q hw => by
    rcases List.mem_append.mp hw with hw | hw
    · obtain ⟨_, b, _⟩ := h.iw _ hw
      refine ⟨fun _ => (h.i2 m q hw).1 (Or.inr e), fun to z => ?_⟩
      cases z
      simp only at b
      omega
    · cases List.mem_singleton.mp hw
      refine ⟨fun z => ?_, fun to z => by cases z; rfl⟩
      rcases z with z | z
      · exact absurd z (by simp)
      · cases z
  i3 := fun m q hw => by
    rcases List.mem_append.mp hw with hw | hw
    · obtain ⟨_, b, _⟩ := h.iw _ hw
      refine ⟨fun q hq x z => ?_, fun x z => ?_, fun to z => ?_⟩
      · have := h.rnone e q hq; rw [show S.r q = some x from z] at this; cases this
      · have := h.unone e; rw [show S.u = some x from z] at this; cases this
      · cases z; simp only at b; omega
    · cases List.mem_singleton.mp hw
  i4 := fun z => by cases z
  i5 := fun q hq x z => by have := h.rnone e q hq; rw [show S.r q = some x from z] at this; cases this
  i6 := fun x z => by have := h.unone e; rw [show S.u = some x from z] at this; cases this
  i8 := h.i8
  i9 := fun n q z => by cases z; exact hp
/-- the right of one place, taken away -/
theorem Good.alone (h : Good ns S) {p : Str} (hp : p ∈ ns) {x : Pair} (e : S.r p = some x) : ∀ q ∈ ns, up S.r p none q = none := fun q hq => by
  by_cases z : q = p
  · rw [z, up_same]
  · rw [up_ne z]; exact (h.i5 p hp x e).2.2.2 q hq z
theorem Good.shut (h : Good ns S) {p : Str} (hp : p ∈ ns) {x : Pair} (e : S.r p = some x) : S.b = false := by
  cases z : S.b with
  | false => rfl
  | true => obtain ⟨_, _, _, _, _, a⟩ := h.i4 z; have := a p hp; rw [e] at this; cases this
theorem use_good (h : Good ns S) {p : Str} (hp : p ∈ ns) {x : Pair} (e : S.r p = some x) : Good ns { S with r := up S.r p none, u := some (x.1, p) } where
  t0 := h.t0
  iw := h.iw
  i1 := h.i1
  i2 := h.i2
  i3 := fun m q hw => by
    obtain ⟨a, b, c⟩ := h.i3 m q hw
    refine ⟨fun q hq y z => ?_, fun y z => ?_, c⟩
    · have := h.alone hp e q hq; rw [show up S.r p none q = some y from z] at this; cases this
    · cases z; exact a p hp x e
  i4 := fun z => by have := h.shut hp e; rw [show S.b = true from z] at this; cases this
  i5 := fun q hq y z => by have := h.alone hp e q hq; rw [show up S.r p none q = some y from z] at this; cases this
  i6 := fun y z => by
    cases z
    obtain ⟨a, b, c, d⟩ := h.i5 p hp x e
    exact ⟨a, by show x.1 ≤ S.g p; rw [b]; exact Int.le_refl _, hp, h.alone hp e⟩
  i8 := fun q hq y z => by have := h.alone hp e q hq; rw [show up S.r p none q = some y from z] at this; cases this
  i9 := h.i9
theorem give_good (h : Good ns S) {p : Str} (hp : p ∈ ns) {x : Pair} (e : S.r p = some x) : Good ns { S with r := up S.r p none, ws := S.ws ++ [(true, x.1, p)] } := by
  obtain ⟨a, b, c, d⟩ := h.i5 p hp x e
  obtain ⟨n1, n2⟩ := h.i1 _ _ a
  refine ⟨h.t0, fun w hw => ?_, h.i1, fun m q hw => ?_, fun m q hw => ?_, fun z => ?_, fun q hq y z => ?_, fun y z => ?_, fun q hq y z => ?_, h.i9⟩
  · rcases List.mem_append.mp hw with hw | hw
    · exact h.iw w hw
    · rw [List.mem_singleton.mp hw]; exact ⟨n2, by show x.1 ≤ S.t; omega, hp⟩
  · rcases List.mem_append.mp hw with hw | hw
    · exact h.i2 m q hw
    · cases List.mem_singleton.mp hw
  · refine ⟨fun q hq y z => ?_, fun y z => ?_, fun to z => ?_⟩
    · have := h.alone hp e q hq; rw [show up S.r p none q = some y from z] at this; cases this
    · rw [show S.u = some y from z] at c; cases c
    · have z2 : S.s = some (m, to) := z
      rw [a] at z2
      cases z2
      exact Int.le_of_eq b.symm
  · have := h.shut hp e; rw [show S.b = true from z] at this; cases this
  · have := h.alone hp e q hq; rw [show up S.r p none q = some y from z] at this; cases this
  · rw [show S.u = some y from z] at c; cases c
  · have := h.alone hp e q hq; rw [show up S.r p none q = some y from z] at this; cases this
theorem unlock_good (h : Good ns S) (e : S.b = true) : Good ns { S with s := none, b := false } := by
  obtain ⟨n, to, a, b, c, d⟩ := h.i4 e
  obtain ⟨n1, n2⟩ := h.i1 _ _ a
  refine ⟨h.t0, h.iw, fun n p z => (by cases z), fun m q hw => ⟨fun _ => ?_, fun to z => (by cases z)⟩, fun m q hw => ?_, fun z => (by cases z), fun q hq y z => ?_, fun y z => ?_, h.i8, fun n p z => (by cases z)⟩
  · by_cases hm : m < S.t
    · exact (h.i2 m q hw).1 (Or.inl hm)
    · have hm2 : m ≤ S.t := (h.iw _ hw).2.1
      obtain rfl : m = n := by omega
      rw [(h.i2 m q hw).2 to a]
      exact b
  · obtain ⟨a, b, _⟩ := h.i3 m q hw
    exact ⟨a, b, fun to z => by cases z⟩
  · have := d q hq; rw [show S.r q = some y from z] at this; cases this
  · rw [show S.u = some y from z] at c; cases c
theorem end_good (h : Good ns S) {x : Pair} (e : S.u = some x) : Good ns { S with s := none, b := false, u := none } := by
  obtain ⟨a, b, c, d⟩ := h.i6 x e
  obtain ⟨n1, n2⟩ := h.i1 x.1 x.2 a
  refine ⟨h.t0, h.iw, fun n p z => (by cases z), fun m q hw => ⟨fun _ => ?_, fun to z => (by cases z)⟩, fun m q hw => ?_, fun z => (by cases z), fun q hq y z => ?_, fun y z => (by cases z), h.i8, fun n p z => (by cases z)⟩
  · by_cases hm : m < S.t
    · exact (h.i2 m q hw).1 (Or.inl hm)
    · have hm2 : m ≤ S.t := (h.iw _ hw).2.1
      obtain rfl : m = x.1 := by omega
      rw [(h.i2 _ q hw).2 x.2 a]
      exact b
  · obtain ⟨a, b, _⟩ := h.i3 m q hw
    exact ⟨a, fun x z => (by cases z), fun to z => by cases z⟩
  · have := d q hq; rw [show S.r q = some y from z] at this; cases this
theorem note_good (h : Good ns S) {x : Pair} (e : S.u = some x) : Good ns { S with ws := S.ws ++ [(true, x.1, x.2)], u := none } := by
  obtain ⟨x1, x2⟩ := x
  obtain ⟨a, b, c, d⟩ := h.i6 _ e
  obtain ⟨n1, n2⟩ := h.i1 x1 x2 a
  refine ⟨h.t0, fun w hw => ?_, h.i1, fun m q hw => ?_, fun m q hw => ?_, fun z => ?_, fun q hq y z => ?_, fun y z => (by cases z), h.i8, h.i9⟩
  · rcases List.mem_append.mp hw with hw | hw
    · exact h.iw w hw
    · rw [List.mem_singleton.mp hw]; exact ⟨n2, by show x1 ≤ S.t; omega, c⟩
  · rcases List.mem_append.mp hw with hw | hw
    · exact h.i2 m q hw
    · cases List.mem_singleton.mp hw
  · rcases List.mem_append.mp hw with hw | hw
    · obtain ⟨a1, _, c1⟩ := h.i3 m q hw
      exact ⟨a1, fun y z => (by cases z), c1⟩
    · cases List.mem_singleton.mp hw
      refine ⟨fun q hq y z => ?_, fun y z => (by cases z), fun to z => ?_⟩
      · have := d q hq; rw [show S.r q = some y from z] at this; cases this
      · have z2 : S.s = some (x1, to) := z
        rw [a] at z2
        cases z2
        exact b
  · obtain ⟨_, _, _, _, u, _⟩ := h.i4 z; rw [e] at u; cases u
  · have := d q hq; rw [show S.r q = some y from z] at this; cases this
/-- a word comes -/
def comeS (S : St) (w : Bool × Int × Str) : St :=
  if w.1 = true then (if (S.b || !isThis S.s w.2.1) = true then S else { S with b := true })
  else if w.2.1 ≤ S.g w.2.2 then S else { S with g := up S.g w.2.2 w.2.1, r := up S.r w.2.2 (some (w.2.1, "home")) }
theorem isThis_some {s : Option Pair} {m : Int} (h : isThis s m = true) : ∃ to, s = some (m, to) := by
  cases s with
  | none => cases h
  | some q => exact ⟨q.2, by rw [of_decide_eq_true (show decide (m = q.1) = true from h)]⟩
theorem come_good (h : Good ns S) {w : Bool × Int × Str} (hw : w ∈ S.ws) : Good ns (comeS S w) := by
  obtain ⟨o, m, p⟩ := w
  unfold comeS
  split
  · rename_i ho
    obtain rfl : o = true := ho
    split
    · exact h
    · rename_i hb
      simp only [Bool.or_eq_true, Bool.not_eq_true', not_or, Bool.not_eq_true, Bool.not_eq_false] at hb
      obtain ⟨to, es⟩ := isThis_some hb.2
      obtain ⟨a, b, c⟩ := h.i3 m p hw
      refine ⟨h.t0, h.iw, h.i1, h.i2, h.i3, fun _ => ⟨m, to, es, c to es, ?_, fun q hq => ?_⟩, h.i5, h.i6, h.i8, h.i9⟩
      · cases e : S.u with
        | none => rfl
        | some x =>
          have z := (h.i6 x e).1
          rw [es] at z
          cases z
          exact absurd rfl (b _ e)
      · cases e : S.r q with
        | none => rfl
        | some x =>
          have z := (h.i5 q hq x e).1
          rw [es] at z
          cases z
          exact absurd rfl (a _ hq x e)
  · rename_i ho
    obtain rfl : o = false := by simpa using ho
    split
    · exact h
    · rename_i hm
      simp only at hm ⊢
      obtain ⟨j1, j2, j3⟩ := h.iw _ hw
      simp only at j1 j2 j3
      obtain ⟨i1, i2⟩ := h.i2 m p hw
      have hs : S.s = some (m, p) := by
        cases e : S.s with
        | none => exact absurd (i1 (Or.inr e)) hm
        | some x =>
          obtain ⟨n, to⟩ := x
          have hn := (h.i1 n to e).1
          by_cases hm2 : m < S.t
          · exact absurd (i1 (Or.inl hm2)) hm
          · obtain rfl : m = n := by omega
            rw [i2 to e]
      have hu : S.u = none := by
        cases e : S.u with
        | none => rfl
        | some x =>
          obtain ⟨a, b, _⟩ := h.i6 x e
          rw [hs] at a
          cases a
          exact absurd b hm
      have hr : ∀ q ∈ ns, q ≠ p → S.r q = none := fun q hq z => by
        cases e : S.r q with
        | none => rfl
        | some x =>
          have a := (h.i5 q hq x e).1
          rw [hs] at a
          cases a
          exact absurd rfl z
      refine ⟨h.t0, h.iw, h.i1, fun m' q hw' => ⟨fun z => ?_, (h.i2 m' q hw').2⟩, fun m' q hw' => ?_, fun z => ?_, fun q hq x z => ?_, fun x z => ?_, fun q hq x z => ?_, h.i9⟩
      · have := (h.i2 m' q hw').1 z
        show m' ≤ up S.g p m q
        by_cases hq : q = p
        · subst hq; rw [up_same]; omega
        · rw [up_ne hq]; exact this
      · obtain ⟨a, b, c⟩ := h.i3 m' q hw'
        have nm : m ≠ m' := fun z => by subst z; exact hm (c p hs)
        refine ⟨fun q hq x z => ?_, b, fun to z => ?_⟩
        · by_cases hqp : q = p
          · subst hqp
            have z2 : up S.r q (some (m, "home")) q = some x := z
            rw [up_same] at z2
            cases z2
            exact nm
          · have z2 : up S.r p (some (m, "home")) q = some x := z
            rw [up_ne hqp, hr q hq hqp] at z2
            cases z2
        · have z2 : S.s = some (m', to) := z
          rw [hs] at z2
          cases z2
          exact absurd rfl nm
      · obtain ⟨n, to, a, b, _⟩ := h.i4 z
        rw [hs] at a
        cases a
        exact absurd b hm
      · have z2 : up S.r p (some (m, "home")) q = some x := z
        by_cases hqp : q = p
        · subst hqp
          rw [up_same] at z2
          cases z2
          refine ⟨hs, ?_, hu, fun p' hp' z3 => ?_⟩
          · show up S.g q m q = m
            rw [up_same]
          · show up S.r q _ p' = none
            rw [up_ne z3]; exact hr p' hp' z3
        · rw [up_ne hqp, hr q hq hqp] at z2
          cases z2
      · rw [show S.u = some x from z] at hu; cases hu
      · have z2 : up S.r p (some (m, "home")) q = some x := z
        by_cases hqp : q = p
        · subst hqp
          rw [up_same] at z2
          cases z2
          rfl
        · rw [up_ne hqp, hr q hq hqp] at z2
          cases z2
theorem come_old (h : Good ns S) {w : Bool × Int × Str} (hw : w ∈ S.ws) (ht : w.2.1 < S.t) : comeS S w = S := by
  obtain ⟨o, m, p⟩ := w
  unfold comeS
  simp only at ht
  split
  · split
    · rfl
    · rename_i hb
      simp only [Bool.or_eq_true, Bool.not_eq_true', not_or, Bool.not_eq_true, Bool.not_eq_false] at hb
      obtain ⟨to, es⟩ := isThis_some hb.2
      have := (h.i1 _ _ es).1
      omega
  · rename_i ho
    obtain rfl : o = false := by simpa using ho
    rw [if_pos ((h.i2 m p hw).1 (Or.inl ht))]
theorem start_good (ns : List Str) : Good ns ⟨0, none, false, [], none, fun _ => 0, fun _ => none⟩ :=
  ⟨Int.le_refl _, fun w hw => (by cases hw), fun n p z => (by cases z), fun m q hw => (by cases hw), fun m q hw => (by cases hw), fun z => (by cases z), fun q hq x z => (by cases z), fun x z => (by cases z), fun q hq x z => (by cases z), fun n p z => (by cases z)⟩
end

theorem s_eqb {a b : Bool} {H : Hp} {Q : VK} (q : Q (.bl (decide (a = b))) H) : uEq K (.bl a) (.bl b) H Q := Or.inl ⟨rfl, by
  rw [show decide (V.bl a = V.bl b) = decide (a = b) by cases a <;> cases b <;> rfl]; exact q⟩
/-- where the law's state stands -/
structure Fo where
  sd : Addr
  kp : Addr
  hd : Addr
  wl : Addr
abbrev kst (F : Fo) (U : V) : List (Key × V) := [((Sum.inr "keeper" : Key), V.ref F.kp), ((Sum.inr "holders" : Key), V.ref F.hd), ((Sum.inr "words" : Key), V.ref F.wl), ((Sum.inr "used" : Key), U)]
abbrev khd (ns : List Str) (ad : Str → Addr) : List (Key × V) := ns.map fun n => ((Sum.inr n : Key), V.ref (ad n))
def wname (o : Bool) : Str := if o then "open" else "lock"
def WsO (H : Hp) (vs : List V) (ws : List (Bool × Int × Str)) : Prop := vs.length = ws.length ∧ ∀ (i : Nat) (w : Bool × Int × Str), ws[i]? = some w → ∃ a, vs[i]? = some (.ref a) ∧ H a = some (.tup [.str (wname w.1), .int w.2.1, .str w.2.2])
structure Ss (T : Tx K mg) (H : Hp) (F : Fo) (ns : List Str) (ad : Str → Addr) (S : St) : Prop where
  us : ∃ U, H F.sd = some (.dK (kst F U)) ∧ VisO H U S.u
  kp : KpO T H F.kp S.t S.s S.b
  hd : H F.hd = some (.dK (khd ns ad))
  ho : ∀ n ∈ ns, HdO T H (ad n) (S.g n) (S.r n)
  wl : ∃ vs, H F.wl = some (.lst vs) ∧ WsO H vs S.ws
  inj : ∀ m ∈ ns, ∀ n ∈ ns, ad m = ad n → m = n
  ne : F.sd ≠ F.hd
def Fo.fp (F : Fo) (ns : List Str) (ad : Str → Addr) : List Addr := F.sd :: F.kp :: F.wl :: ns.map ad
section
variable {T : Tx K mg} {H H2 : Hp} {F : Fo} {ns : List Str} {ad : Str → Addr} {S : St} {ps : List Addr}
theorem WsO.kpn {vs : List V} {ws : List (Bool × Int × Str)} (h : WsO H vs ws) (k : Kp ps H H2) : WsO H2 vs ws := ⟨h.1, fun i w e => by
  obtain ⟨a, e1, e2⟩ := h.2 i w e
  exact ⟨a, e1, k.tp _ _ e2⟩⟩
theorem WsO.snoc {vs : List V} {ws : List (Bool × Int × Str)} {w : Bool × Int × Str} {a : Addr} (h : WsO H vs ws) (e : H a = some (.tup [.str (wname w.1), .int w.2.1, .str w.2.2])) : WsO H (vs ++ [.ref a]) (ws ++ [w]) := by
  refine ⟨by simp [h.1], fun i w' e' => ?_⟩
  rw [List.getElem?_append] at e'
  split at e'
  · rename_i hi
    obtain ⟨b, e1, e2⟩ := h.2 i w' e'
    exact ⟨b, by rw [List.getElem?_append_left (by rw [h.1]; exact hi)]; exact e1, e2⟩
  · rename_i hi
    have hi2 : i = ws.length := by
      have := (List.getElem?_eq_some_iff.mp e').1
      simp only [List.length_singleton] at this
      omega
    subst hi2
    simp only [Nat.sub_self, List.getElem?_cons_zero, Option.some.injEq] at e'
    subst e'
    exact ⟨a, by rw [List.getElem?_append_right (by rw [h.1]; exact Nat.le_refl _), h.1]; simp, e⟩
theorem Ss.tsd (h : Ss T H F ns ad S) : Th H F.sd 2 := by obtain ⟨U, e, _⟩ := h.us; exact .dK e
theorem Ss.twl (h : Ss T H F ns ad S) : Th H F.wl 0 := by obtain ⟨vs, e, _⟩ := h.wl; exact .lst e
theorem Ss.thd (h : Ss T H F ns ad S) : Th H F.hd 2 := .dK h.hd
/-- what is changed elsewhere -/
theorem Ss.kpo (h : Ss T H F ns ad S) (k : Kp ps H H2) (n : ∀ q ∈ ps, (∃ i, Th H q i ∧ Nat.beq i 2 = false ∧ Nat.beq i 5 = false ∧ q ≠ F.wl) ∨ H q = none) : Ss T H2 F ns ad S := by
  have ne : ∀ {a i}, Th H a i → (i = 2 ∨ i = 5) → a ∉ ps := fun t hi m => by
    rcases n _ m with ⟨j, t2, j2, j5, _⟩ | f
    · obtain ⟨o, e1, e2⟩ := t
      obtain ⟨o', e1', e2'⟩ := t2
      rw [e1] at e1'
      cases e1'
      subst e2
      rcases hi with hi | hi <;> (rw [hi] at e2'; subst e2'; first | exact absurd j2 (by decide) | exact absurd j5 (by decide))
    · obtain ⟨o, e1, _⟩ := t
      rw [f] at e1; cases e1
  obtain ⟨U, e1, e2⟩ := h.us
  obtain ⟨vs, e3, e4⟩ := h.wl
  refine ⟨⟨U, k.get e1 (ne h.tsd (Or.inl rfl)), e2.kpn k⟩, h.kp.kpn k (ne h.kp.th (Or.inr rfl)), k.get h.hd (ne h.thd (Or.inl rfl)), fun m hm => (h.ho m hm).kpn k (ne (h.ho m hm).th (Or.inr rfl)), ⟨vs, k.get e3 fun m => ?_, e4.kpn k⟩, h.inj, h.ne⟩
  rcases n _ m with ⟨j, t2, _, _, z⟩ | f
  · exact z rfl
  · rw [f] at e3; cases e3
theorem Ss.kp0 (h : Ss T H F ns ad S) (k : Kp [] H H2) : Ss T H2 F ns ad S := h.kpo k (by simp)
theorem Ss.kpb {p : Addr} (h : Ss T H F ns ad S) (k : Kp [p] H H2) (t : Th H p 0) (n : p ≠ F.wl) : Ss T H2 F ns ad S := h.kpo k (by simpa using Or.inl ⟨0, t, rfl, rfl, n⟩)
theorem Ss.fpn {p : Addr} (h : Ss T H F ns ad S) (t : Th H p 0) (n : p ≠ F.wl) : p ∉ F.fp ns ad := by
  simp only [Fo.fp, List.mem_cons, List.mem_map, not_or]
  refine ⟨t.nk h.tsd rfl, t.nk h.kp.th rfl, n, ?_⟩
  rintro ⟨m, hm, e⟩
  exact t.nk (h.ho m hm).th rfl e.symm
theorem Ss.fpf {p : Addr} (h : Ss T H F ns ad S) (f : H p = none) : p ∉ F.fp ns ad := by
  simp only [Fo.fp, List.mem_cons, List.mem_map, not_or]
  refine ⟨(h.tsd.ne f).symm, (h.kp.th.ne f).symm, (h.twl.ne f).symm, ?_⟩
  rintro ⟨m, hm, e⟩
  exact (h.ho m hm).th.ne f e
theorem Ss.setK {t : Int} {s : Option Pair} {b : Bool} (h : Ss T H F ns ad S) (k : Kp [F.kp] H H2) (o : KpO T H2 F.kp t s b) : Ss T H2 F ns ad { S with t := t, s := s, b := b } := by
  obtain ⟨U, e1, e2⟩ := h.us
  obtain ⟨vs, e3, e4⟩ := h.wl
  have tk := h.kp.th
  exact ⟨⟨U, k.get e1 (by simpa using h.tsd.nk tk rfl), e2.kpn k⟩, o, k.get h.hd (by simpa using h.thd.nk tk rfl), fun m hm => (h.ho m hm).kpn k (by simpa using (h.kp.ne (h.ho m hm)).symm), ⟨vs, k.get e3 (by simpa using h.twl.nk tk rfl), e4.kpn k⟩, h.inj, h.ne⟩
theorem Ss.setH {n : Str} {g : Int} {r : Option Pair} (h : Ss T H F ns ad S) (hn : n ∈ ns) (k : Kp [ad n] H H2) (o : HdO T H2 (ad n) g r) : Ss T H2 F ns ad { S with g := up S.g n g, r := up S.r n r } := by
  obtain ⟨U, e1, e2⟩ := h.us
  obtain ⟨vs, e3, e4⟩ := h.wl
  have tk := (h.ho n hn).th
  refine ⟨⟨U, k.get e1 (by simpa using h.tsd.nk tk rfl), e2.kpn k⟩, h.kp.kpn k (by simpa using h.kp.ne (h.ho n hn)), k.get h.hd (by simpa using h.thd.nk tk rfl), fun m hm => ?_, ⟨vs, k.get e3 (by simpa using h.twl.nk tk rfl), e4.kpn k⟩, h.inj, h.ne⟩
  by_cases z : m = n
  · subst z
    show HdO T H2 (ad m) (up S.g m g m) (up S.r m r m)
    rw [up_same, up_same]; exact o
  · show HdO T H2 (ad m) (up S.g n g m) (up S.r n r m)
    rw [up_ne z, up_ne z]
    exact (h.ho m hm).kpn k (by simpa using fun e => z (h.inj m hm n hn e))
theorem up_id {α : Type} {f : Str → α} {p : Str} : up f p (f p) = f := by
  funext q
  unfold up
  split
  · rename_i h; rw [h]
  · rfl
/-- a right is taken away -/
theorem Ss.setR {n : Str} (h : Ss T H F ns ad S) (hn : n ∈ ns) (k : Kp [ad n] H H2) (o : HdO T H2 (ad n) (S.g n) none) : Ss T H2 F ns ad { S with r := up S.r n none } := by
  have := h.setH hn k o
  rw [up_id] at this
  exact this
theorem Ss.addW {w : Bool × Int × Str} {a : Addr} {vs : List V} (h : Ss T H F ns ad S) (k : Kp [F.wl] H H2) (e : H2 F.wl = some (.lst (vs ++ [.ref a]))) (v : WsO H vs S.ws) (ea : H2 a = some (.tup [.str (wname w.1), .int w.2.1, .str w.2.2])) : Ss T H2 F ns ad { S with ws := S.ws ++ [w] } := by
  obtain ⟨U, e1, e2⟩ := h.us
  have tk := h.twl
  exact ⟨⟨U, k.get e1 (by simpa using h.tsd.nk tk rfl), e2.kpn k⟩, h.kp.kpn k (by simpa using h.kp.th.nk tk rfl), k.get h.hd (by simpa using h.thd.nk tk rfl), fun m hm => (h.ho m hm).kpn k (by simpa using (h.ho m hm).th.nk tk rfl), ⟨_, e, (v.kpn k).snoc ea⟩, h.inj, h.ne⟩
theorem Ss.setU {U : V} {u : Option Pair} (h : Ss T H F ns ad S) (k : Kp [F.sd] H H2) (e : H2 F.sd = some (.dK (kst F U))) (v : VisO H2 U u) : Ss T H2 F ns ad { S with u := u } := by
  obtain ⟨vs, e3, e4⟩ := h.wl
  have tk := h.tsd
  exact ⟨⟨U, e, v⟩, h.kp.kpn k (by simpa using h.kp.th.nk tk rfl), k.get h.hd (by simpa using h.ne.symm), fun m hm => (h.ho m hm).kpn k (by simpa using (h.ho m hm).th.nk tk rfl), ⟨vs, k.get e3 (by simpa using h.twl.nk tk rfl), e4.kpn k⟩, h.inj, h.ne⟩
theorem khd_val : ∀ {ns : List Str} {n : Str}, n ∈ ns → valV (khd ns ad) (Sum.inr n : Key) = some (V.ref (ad n)) := by
  intro ns n h
  induction ns with
  | nil => cases h
  | cons m ns ih =>
    by_cases e : m = n
    · subst e; exact valV_pos rfl
    · show valV ((_, _) :: khd ns ad) _ = _
      rw [valV_neg (by simpa using e)]
      rcases List.mem_cons.mp h with h | h
      · exact absurd h.symm e
      · exact ih h
end
inductive Wy | lock | use | give | unlock
def Wy.s : Wy → Str | .lock => "lock" | .use => "use" | .give => "give" | .unlock => "unlock"
def Wy.no (w : Wy) (s : Option Pair) (b : Bool) (r : Option Pair) : Prop := match w with | .lock => s ≠ none | .unlock => s = none ∨ b = false | _ => r = none
def sp_law_tried (T : Tx K mg) : Sp := sp4 fun x y z u H Q _ => ∃ (kp hp : Addr) (t : Int) (s : Option Pair) (b : Bool) (g : Int) (r : Option Pair) (w : Wy) (pl : Str), x = .ref kp ∧ y = .ref hp ∧ z = .str w.s ∧ u = .str pl ∧ KpO T H kp t s b ∧ HdO T H hp g r ∧
  (w.no s b r → ∀ H', Kp [] H H' → Q .non H') ∧
  (w = .lock → s = none → ∀ H', KpO T H' kp (t + 1) (some (t + 1, pl)) false → Kp [kp] H H' → Q (.int (t + 1)) H') ∧
  (w = .use ∨ w = .give → ∀ q, r = some q → ∀ a H', H' a = some (.tup [.int q.1, .str q.2]) → HdO T H' hp g none → Kp [hp] H H' → Q (.ref a) H') ∧
  (w = .unlock → b = true → s ≠ none → ∀ H', KpO T H' kp t none false → Kp [kp] H H' → Q (.bl true) H')
set_option maxHeartbeats 16000000 in
theorem ok_law_tried (T : Tx K mg) : FnOk P w K mg base (L2.CX P w) 5 T.a_law_tried T.d_law_tried ["_law_keeper", "_law_holder", "_law_way", "_law_place"] (sp_law_tried T) := by
  have G_Keeper_unlock := ok_Keeper_unlock (P := P) (w := w) (base := base) T
  have G_Keeper_lock := ok_Keeper_lock (P := P) (w := w) (base := base) T
  have G_Holder_use := ok_Holder_use (P := P) (w := w) (base := base) T
  have G_Holder_give := ok_Holder_give (P := P) (w := w) (base := base) T
  refine T.F_law_tried.okX sc_law_tried (fun vs H Q E h => ?_) (fun cd A o s H vs Q E hr h => ?_)
  · obtain ⟨v0, v1, v2, v3, rfl, h⟩ := h; rfl
  obtain ⟨v0, v1, v2, v3, rfl, h⟩ := h
  obtain ⟨kp, hp, t, s, b, g, r, w, pl, rfl, rfl, rfl, rfl, hk, hh, k0, kl, ku, kn⟩ := h
  refine ⟨_, (pss_cons (ps_try3 (K := K) rfl rfl rfl (fun W pn xe tk po => (pss_cons (ps_if (pt_cmpR (o_eq (K := K) rfl hr) (pv 2) pe_str (nomark _))
    (pss_one (ps_ret (pe_mo T.cl_Keeper T.M_Keeper_lock G_Keeper_lock (hr.mono (by decide)) T.B_Keeper_lock tk (pv 0) (pa_cons (pv 3) pa_nil))))
    pss_nil)
    (pss_cons (ps_if (pt_cmpR (o_eq (K := K) rfl hr) (pv 2) pe_str (nomark _))
    (pss_one (ps_ret (pe_mo0 T.cl_Holder T.M_Holder_use G_Holder_use (hr.mono (by decide)) T.B_Holder_use tk (pv 1))))
    pss_nil)
    (pss_cons (ps_if (pt_cmpR (o_eq (K := K) rfl hr) (pv 2) pe_str (nomark _))
    (pss_one (ps_ret (pe_mo0 T.cl_Holder T.M_Holder_give G_Holder_give (hr.mono (by decide)) T.B_Holder_give tk (pv 1))))
    pss_nil)
    (pss_one (ps_expr (pe_mo0 T.cl_Keeper T.M_Keeper_unlock G_Keeper_unlock (hr.mono (by decide)) T.B_Keeper_unlock tk (pv 0))))))))
    ⟨rfl, by decide, Or.inl T.m_Shut⟩ ⟨rfl, by decide, Or.inl T.m_NotShut⟩ ⟨rfl, by decide, Or.inl T.m_NoRight⟩ (fun a oe cls d pn hz hf => (pss_one (ps_ret pe_non))))
    (pss_one (ps_ret pe_bl))), ?_⟩
  rw [st_law_tried]
  have hk0 := hk
  obtain ⟨S, ak, hS⟩ := hk0
  have hh0 := hh
  obtain ⟨R, N, ah, hR⟩ := hh0
  walk_at "u"
  refine s_try3 ?_
  cases w with
  | lock =>
    walk_at "u"
    refine ⟨_, _, rfl, kp, t, s, b, pl, rfl, rfl, hk, fun q e d H1 fd ed jd => ⟨exm3 T.ex_Shut_Shut T.ex_Shut_NotShut T.ex_Shut_NoRight, fun a na => ?_⟩, fun e H1 a1 j1 => ?_⟩
    · walk_at "u"
      exact k0 (by simp [Wy.no, e]) _ jd
    · walk_at "u"
      exact kl rfl e _ a1 j1
  | use =>
    walk_at "u"
    refine ⟨_, rfl, hp, g, r, rfl, hh, fun q e a H1 ea a1 j1 => ?_, fun e d H1 fd ed jd => ⟨exm3 T.ex_NoRight_Shut T.ex_NoRight_NotShut T.ex_NoRight_NoRight, fun a na => ?_⟩⟩
    · walk_at "u"
      exact ku (Or.inl rfl) q e a _ (j1.tp _ _ ea) a1 j1
    · walk_at "u"
      exact k0 e _ jd
  | give =>
    walk_at "u"
    refine ⟨_, rfl, hp, g, r, rfl, hh, fun q e a H1 ea a1 j1 => ?_, fun e d H1 fd ed jd => ⟨exm3 T.ex_NoRight_Shut T.ex_NoRight_NotShut T.ex_NoRight_NoRight, fun a na => ?_⟩⟩
    · walk_at "u"
      exact ku (Or.inr rfl) q e a _ ea a1 j1
    · walk_at "u"
      exact k0 e _ jd
  | unlock =>
    walk_at "u"
    refine ⟨_, rfl, kp, t, s, b, rfl, hk, fun e d H1 fd ed jd => ⟨exm3 T.ex_NotShut_Shut T.ex_NotShut_NotShut T.ex_NotShut_NoRight, fun a na => ?_⟩, fun q e eb d H1 fd ed jd => ⟨exm3 T.ex_NoRight_Shut T.ex_NoRight_NotShut T.ex_NoRight_NoRight, fun a na => ?_⟩, fun q e eb H1 a1 j1 => ?_⟩
    · walk_at "u"
      exact k0 (Or.inl e) _ jd
    · walk_at "u"
      exact k0 (Or.inr eb) _ jd
    · walk_at "u"
      exact kn rfl eb (by simp [e]) _ a1 j1
theorem Fo.adm {F : Fo} {ns : List Str} {ad : Str → Addr} {n : Str} (h : n ∈ ns) : ∀ q ∈ [ad n], q ∈ F.fp ns ad := fun q hq => by
  rw [List.mem_singleton.mp hq]
  simp only [Fo.fp, List.mem_cons, List.mem_map]
  exact Or.inr (Or.inr (Or.inr ⟨n, h, rfl⟩))
def sp_law_come (T : Tx K mg) : Sp := sp2 fun x y H Q _ => ∃ (F : Fo) (ns : List Str) (ad : Str → Addr) (S : St) (i : Nat) (w : Bool × Int × Str), x = .ref F.sd ∧ y = .int i ∧ Ss T H F ns ad S ∧ Good ns S ∧ S.ws[i]? = some w ∧ S.t ≤ 1000000 ∧
  ∀ H', Ss T H' F ns ad (comeS S w) → Kp (F.fp ns ad) H H' → Q (.bl true) H'
set_option maxHeartbeats 16000000 in
theorem ok_law_come (T : Tx K mg) : FnOk P w K mg base (L2.CX P w) 4 T.a_law_come T.d_law_come ["_law_state", "_law_at"] (sp_law_come T) := by
  have G_Holder_seen := ok_Holder_seen (P := P) (w := w) (base := base) T
  have G_Holder_got := ok_Holder_got (P := P) (w := w) (base := base) T
  have G_Keeper_opens := ok_Keeper_opens (P := P) (w := w) (base := base) T
  have G_Keeper_locked := ok_Keeper_locked (P := P) (w := w) (base := base) T
  have G_Keeper_is_open := ok_Keeper_is_open (P := P) (w := w) (base := base) T
  refine T.F_law_come.okX sc_law_come (fun vs H Q E h => ?_) (fun cd A o s H vs Q E hr h => ?_)
  · obtain ⟨v0, v1, rfl, h⟩ := h; rfl
  obtain ⟨v0, v1, rfl, h⟩ := h
  obtain ⟨F, ns, ad, S, i, ⟨o, m, p⟩, rfl, rfl, hs, hg, hw, ht, k⟩ := h
  refine ⟨_, (pss_cons (ps_asg (pe_ix (ix_u (K := K) rfl) (pe_dg hr (pv 0) pe_str (fun _ _ => rfl)) (pv 1) (fun _ _ => rfl)) (pg_tupK (K := K) (n := 3) rfl rfl (pgs_cons (pg_name (i := 2) sc_law_come.nd rfl (Or.inl rfl)) (pgs_cons (pg_name (i := 3) sc_law_come.nd rfl (Or.inl rfl)) (pgs_cons (pg_name (i := 4) sc_law_come.nd rfl (Or.inl rfl)) pgs_nil)))))
    (pss_cons (ps_par (i := 5) (j := 6) rfl sc_law_come.nd rfl rfl (by decide) rfl rfl (pa_cons (pe_dg hr (pv 0) pe_str (fun _ _ => rfl)) (pa_cons (pe_dg hr (pv 0) pe_str (fun _ _ => rfl)) pa_nil)) rfl)
    (pss_cons (ps_if (pt_cmpR (o_eq (K := K) rfl hr) (pv 2) pe_str (nomark _))
    (pss_cons (ps_set (i := 9) sc_law_come.nd rfl (Or.inl rfl) (pe_and (pe_cmpR o_isnot (pe_mo0 T.cl_Keeper T.M_Keeper_locked G_Keeper_locked (hr.mono (by decide)) T.B_Keeper_locked (takes_of (E := E) rfl rfl rfl rfl) (pv 5)) pe_non (nomark _)) (pe_and (pe_cmpR (o_eq (K := K) rfl hr) (pe_ix (ix_u (K := K) rfl) (pe_mo0 T.cl_Keeper T.M_Keeper_locked G_Keeper_locked (hr.mono (by decide)) T.B_Keeper_locked (takes_of (E := E) rfl rfl rfl rfl) (pv 5)) pe_int (fun _ _ => rfl)) (pv 3) (nomark _)) (pe_one (pe_not (pe_mo0 T.cl_Keeper T.M_Keeper_is_open G_Keeper_is_open (hr.mono (by decide)) T.B_Keeper_is_open (takes_of (E := E) rfl rfl rfl rfl) (pv 5)))))))
    (pss_one (ps_ret (pe_cmpR (o_eq (K := K) rfl hr) (pe_mo T.cl_Keeper T.M_Keeper_opens G_Keeper_opens (hr.mono (by decide)) T.B_Keeper_opens (takes_of (E := E) rfl rfl rfl rfl) (pv 5) (pa_cons (pv 3) pa_nil)) (pv 9) (nomark _)))))
    pss_nil)
    (pss_cons (ps_set (i := 7) sc_law_come.nd rfl (Or.inl rfl) (pe_mo0 T.cl_Holder T.M_Holder_seen G_Holder_seen (hr.mono (by decide)) T.B_Holder_seen (takes_of (E := E) rfl rfl rfl rfl) (pe_dg hr (pv 6) (pv 4) (fun _ _ => rfl))))
    (pss_cons (ps_set (i := 8) sc_law_come.nd rfl (Or.inl rfl) (pe_mo T.cl_Holder T.M_Holder_got G_Holder_got (hr.mono (by decide)) T.B_Holder_got (takes_of (E := E) rfl rfl rfl rfl) (pe_dg hr (pv 6) (pv 4) (fun _ _ => rfl)) (pa_cons (pv 3) (pa_cons pe_str pa_nil))))
    (pss_one (ps_ret (pe_cmpR (o_eq (K := K) rfl hr) (pv 8) (pe_cmpR o_gt (pv 3) (pv 7) (nomark _)) (nomark _))))))))), ?_⟩
  rw [st_law_come]
  obtain ⟨U, eU, vU⟩ := hs.us
  obtain ⟨vs, ew, hws⟩ := hs.wl
  have ehd := hs.hd
  obtain ⟨w1, w2, w3⟩ := hg.iw _ (List.mem_of_getElem? hw)
  simp only at w1 w2 w3
  obtain ⟨a, ea, ta⟩ := hws.2 i _ hw
  have hk := hs.kp
  have hk0 := hk
  obtain ⟨SV, ak, hS⟩ := hk0
  walk_at "u"
  refine s_ixl ew (atI_nat ea) ?_
  walk_at "u"
  cases o with
  | true =>
    walk_at "u"
    refine ⟨_, rfl, F.kp, _, SV, _, rfl, ak, ?_⟩
    have fin1 : (S.b || !isThis S.s m) = true → Q (.bl true) H := fun h => by
      have hc : comeS S (true, m, p) = S := by unfold comeS; rw [if_pos rfl, if_pos h]
      rw [hc] at k
      exact k H hs Kp.refl
    have fin2 : (S.b || !isThis S.s m) = false → ∀ H1, KpO T H1 F.kp S.t S.s true → Kp [F.kp] H H1 → Q (.bl true) H1 := fun h H1 a1 j1 => by
      have hc : comeS S (true, m, p) = { S with b := true } := by unfold comeS; rw [if_pos rfl, if_neg (by rw [h]; decide)]
      rw [hc] at k
      exact k H1 (hs.setK j1 a1) (j1.mono (by simp [Fo.fp]))
    cases es : S.s with
    | none =>
      rw [es] at hS
      obtain rfl : SV = .non := hS
      walk_at "u"
      refine ⟨_, _, rfl, F.kp, _, S.s, _, m, rfl, hk, rfl, ⟨w1, by omega⟩, fun h => ?_, fun h H1 a1 j1 => ?_⟩
      · walk_at "u"
        refine s_eqb ?_
        walk_at "u"
        exact fin1 h
      · rw [es] at h
        simp [isThis] at h
    | some q =>
      rw [es] at hS
      obtain ⟨c, rfl, ec⟩ := hS
      walk_at "u"
      refine ⟨_, rfl, F.kp, _, _, _, rfl, ak, ?_⟩
      walk_at "u"
      refine s_ite (fun h1 => ?_) (fun h1 => ?_)
      · walk_at "u"
        refine ⟨_, rfl, F.kp, _, _, _, rfl, ak, ?_⟩
        walk_at "u"
        refine ⟨_, _, rfl, F.kp, _, S.s, _, m, rfl, hk, rfl, ⟨w1, by omega⟩, fun h => ?_, fun h H1 a1 j1 => ?_⟩
        · walk_at "u"
          refine s_eqb ?_
          walk_at "u"
          have hb : S.b = true := by
            rw [es, show isThis (some q) m = true from decide_eq_true h1.symm] at h
            simpa using h
          rw [hb]
          exact fin1 h
        · walk_at "u"
          refine s_eqb ?_
          walk_at "u"
          have hb : S.b = false := by
            cases e : S.b with
            | false => rfl
            | true => rw [e] at h; cases h
          rw [hb]
          exact fin2 h H1 a1 j1
      · walk_at "u"
        have h0 : isThis S.s m = false := by rw [es]; exact decide_eq_false fun z => h1 z.symm
        refine ⟨_, _, rfl, F.kp, _, S.s, _, m, rfl, hk, rfl, ⟨w1, by omega⟩, fun h => ?_, fun h H1 a1 j1 => ?_⟩
        · walk_at "u"
          refine s_eqb ?_
          walk_at "u"
          exact fin1 h
        · rw [h0] at h
          simp at h
  | false =>
    have hh := hs.ho p w3
    have hh0 := hh
    obtain ⟨R, N, ah, hR⟩ := hh0
    walk_at "u"
    refine s_dgs ehd (khd_val w3) ?_
    walk_at "u"
    refine ⟨_, rfl, ad p, _, _, _, rfl, ah, ?_⟩
    walk_at "u"
    refine s_dgs ehd (khd_val w3) ?_
    walk_at "u"
    refine ⟨_, _, _, rfl, ad p, S.g p, S.r p, m, "home", rfl, hh, rfl, rfl, w1, fun h => ?_, fun h H1 a1 j1 => ?_⟩
    · walk_at "u"
      refine s_eqb ?_
      walk_at "u"
      have hc : comeS S (false, m, p) = S := by unfold comeS; rw [if_neg (by simp), if_pos h]
      rw [hc] at k
      have hd : decide (S.g p < m) = false := decide_eq_false (by omega)
      rw [hd]
      exact k H hs Kp.refl
    · walk_at "u"
      refine s_eqb ?_
      walk_at "u"
      have hc : comeS S (false, m, p) = { S with g := up S.g p m, r := up S.r p (some (m, "home")) } := by unfold comeS; rw [if_neg (by simp), if_neg (by simp only; omega)]
      rw [hc] at k
      have hd : decide (S.g p < m) = true := decide_eq_true h
      rw [hd]
      exact k H1 (hs.setH w3 j1 a1) (j1.mono (Fo.adm w3))

inductive Wo | w (x : Wy) | over | come
def Wo.s : Wo → Str | .w x => x.s | .over => "over" | .come => "come"
theorem wo_mem {v : V} (h : v ∈ [V.str "lock", V.str "lock", V.str "use", V.str "give", V.str "unlock", V.str "over", V.str "come", V.str "come", V.str "come"]) : ∃ w : Wo, v = .str w.s := by
  simp only [List.mem_cons, List.mem_nil_iff, or_false] at h
  rcases h with h | h | h | h | h | h | h | h | h <;> subst h
  · exact ⟨.w .lock, rfl⟩
  · exact ⟨.w .lock, rfl⟩
  · exact ⟨.w .use, rfl⟩
  · exact ⟨.w .give, rfl⟩
  · exact ⟨.w .unlock, rfl⟩
  · exact ⟨.over, rfl⟩
  · exact ⟨.come, rfl⟩
  · exact ⟨.come, rfl⟩
  · exact ⟨.come, rfl⟩
theorem Ss.setN {T : Tx K mg} {H H2 : Hp} {F : Fo} {ns : List Str} {ad : Str → Addr} {S : St} {n : Str} (h : Ss T H F ns ad S) (hn : n ∈ ns) (k : Kp [ad n] H H2) (o : HdO T H2 (ad n) (S.g n) (S.r n)) : Ss T H2 F ns ad S := by
  have := h.setH hn k o
  rw [up_id, up_id] at this
  exact this
theorem come_ts (S : St) (w : Bool × Int × Str) : (comeS S w).t = S.t ∧ (comeS S w).ws = S.ws := by
  unfold comeS
  split <;> split <;> exact ⟨rfl, rfl⟩
def sp_law_done (T : Tx K mg) : Sp := sp3 fun x y z H Q _ => ∃ (p nl : Addr) (n : Nat) (F : Fo) (ns : List Str) (ad : Str → Addr) (S : St) (zs : List Str), x = .ref p ∧ y = .ref F.sd ∧ z = .ref nl ∧ Box H p n ∧ n ≤ 900000 ∧ H nl = some (.lst (zs.map V.str)) ∧ 1 ≤ zs.length ∧ zs.length ≤ 7 ∧ (∀ z ∈ zs, z ∈ ns) ∧
  Ss T H F ns ad S ∧ Good ns S ∧ S.t ≤ 10000 ∧ S.ws.length ≤ 10000 ∧ p ≠ F.wl ∧ nl ≠ p ∧
  ∀ H' S', Ss T H' F ns ad S' → Good ns S' → S'.t ≤ S.t + 1 → S'.ws.length ≤ S.ws.length + 1 → Box H' p (n + 4) → Kp (p :: F.fp ns ad) H H' → Q (.bl true) H'
set_option maxHeartbeats 16000000 in
theorem ok_law_done (T : Tx K mg) : FnOk P w K mg base (L2.CX P w) 6 T.a_law_done T.d_law_done ["_law_box_here", "_law_state", "_law_names_here"] (sp_law_done T) := by
  have G_law_take := ok_law_take (P := P) (w := w) (base := base) T
  have G_law_come := ok_law_come (P := P) (w := w) (base := base) T
  have G_law_tried := ok_law_tried (P := P) (w := w) (base := base) T
  have G_Keeper_ended := ok_Keeper_ended (P := P) (w := w) (base := base) T
  have G_Holder_note := ok_Holder_note (P := P) (w := w) (base := base) T
  refine T.F_law_done.okX sc_law_done (fun vs H Q E h => ?_) (fun cd A o s H vs Q E hr h => ?_)
  · obtain ⟨v0, v1, v2, rfl, h⟩ := h; rfl
  obtain ⟨v0, v1, v2, rfl, h⟩ := h
  obtain ⟨p, nl, n, F, ns, ad, S, zs, rfl, rfl, rfl, hB, hn, hnl, hz1, hz7, hzs, hs, hg, ht, hws7, np, nlp, k⟩ := h
  refine ⟨_, (pss_cons (ps_par3 (i := 3) (j := 4) (l := 5) rfl sc_law_done.nd rfl rfl rfl (by decide) (by decide) (by decide) rfl rfl rfl (pa_cons (pe_dg hr (pv 1) pe_str (fun _ _ => rfl)) (pa_cons (pe_dg hr (pv 1) pe_str (fun _ _ => rfl)) (pa_cons (pe_dg hr (pv 1) pe_str (fun _ _ => rfl)) pa_nil))) rfl)
    (pss_cons (ps_set (i := 6) sc_law_done.nd rfl (Or.inl rfl) (pe_ix (ix_u (K := K) rfl) (pv 2) (pe_co G_law_take (hr.mono (by decide)) rfl T.m_law_take T.F_law_take.kp T.B_law_take (takes_of (E := E) rfl rfl rfl rfl) (pa_cons (pv 0) (pa_cons (pe_callB (c_len (K := K) rfl) rfl T.z_len bt_len (pa_cons (pv 2) pa_nil)) pa_nil))) (fun _ _ => rfl)))
    (pss_cons (ps_set (i := 7) sc_law_done.nd rfl (Or.inl rfl) (pe_ix (ix_u (K := K) rfl) (pe_lst (pa_cons pe_str (pa_cons pe_str (pa_cons pe_str (pa_cons pe_str (pa_cons pe_str (pa_cons pe_str (pa_cons pe_str (pa_cons pe_str (pa_cons pe_str pa_nil)))))))))) (pe_co G_law_take (hr.mono (by decide)) rfl T.m_law_take T.F_law_take.kp T.B_law_take (takes_of (E := E) rfl rfl rfl rfl) (pa_cons (pv 0) (pa_cons pe_int pa_nil))) (fun _ _ => rfl)))
    (pss_cons (ps_set (i := 8) sc_law_done.nd rfl (Or.inl rfl) (pe_co G_law_take (hr.mono (by decide)) rfl T.m_law_take T.F_law_take.kp T.B_law_take (takes_of (E := E) rfl rfl rfl rfl) (pa_cons (pv 0) (pa_cons (pe_op (o_add (K := K) rfl) (pe_callB (c_len (K := K) rfl) rfl T.z_len bt_len (pa_cons (pv 5) pa_nil)) pe_int) pa_nil))))
    (pss_cons (ps_set (i := 9) sc_law_done.nd rfl (Or.inl rfl) (pe_co G_law_take (hr.mono (by decide)) rfl T.m_law_take T.F_law_take.kp T.B_law_take (takes_of (E := E) rfl rfl rfl rfl) (pa_cons (pv 0) (pa_cons pe_int pa_nil))))
    (pss_cons (ps_if (PW.pt (pw_and (pt_cmpR (o_eq (K := K) rfl hr) (pv 7) pe_str (nomark _)) (pw_and1 (pt_cmpR o_lt (pv 8) (pe_callB (c_len (K := K) rfl) rfl T.z_len bt_len (pa_cons (pv 5) pa_nil)) (nomark _)))))
    (pss_one (ps_ret (pe_co G_law_come (hr.mono (by decide)) rfl T.m_law_come T.F_law_come.kp T.B_law_come (takes_of (E := E) rfl rfl rfl rfl) (pa_cons (pv 1) (pa_cons (pv 8) pa_nil)))))
    pss_nil)
    (pss_cons (ps_set (i := 10) sc_law_done.nd rfl (Or.inl rfl) (pe_dg hr (pv 1) pe_str (fun _ _ => rfl)))
    (pss_cons (ps_if (PW.pt (pw_and (pt_cmpR (o_eq (K := K) rfl hr) (pv 7) pe_str (nomark _)) (pw_and1 (pt_cmpR o_isnot (pv 10) pe_non (nomark _)))))
    (pss_cons (ps_if (pt_cmpR (o_eq (K := K) rfl hr) (pv 9) pe_int (nomark _))
    (pss_one (ps_expr (pe_mo T.cl_Keeper T.M_Keeper_ended G_Keeper_ended (hr.mono (by decide)) T.B_Keeper_ended (takes_of (E := E) rfl rfl rfl rfl) (pv 3) (pa_cons (pe_ix (ix_u (K := K) rfl) (pv 10) pe_int (fun _ _ => rfl)) pa_nil))))
    (pss_cons (ps_expr (pe_mo T.cl_Holder T.M_Holder_note G_Holder_note (hr.mono (by decide)) T.B_Holder_note (takes_of (E := E) rfl rfl rfl rfl) (pe_dg hr (pv 4) (pe_ix (ix_u (K := K) rfl) (pv 10) pe_int (fun _ _ => rfl)) (fun _ _ => rfl)) (pa_cons (pe_ix (ix_u (K := K) rfl) (pv 10) pe_int (fun _ _ => rfl)) (pa_cons pe_str pa_nil))))
    (pss_one (ps_expr (pe_bm PySem.F.plainAttrs_list PySem.F.slot_list_append PySem.F.type_list_append mt_append (pv 5) (pa_cons (pe_tup (pa_cons pe_str (pa_cons (pe_ix (ix_u (K := K) rfl) (pv 10) pe_int (fun _ _ => rfl)) (pa_cons (pe_ix (ix_u (K := K) rfl) (pv 10) pe_int (fun _ _ => rfl)) pa_nil)))) pa_nil))))))
    (pss_one (ps_asg pe_non (pg_sub (pv 1) pe_str (set_u hr)))))
    pss_nil)
    (pss_cons (ps_set (i := 11) sc_law_done.nd rfl (Or.inl rfl) (pe_ifExp (pt_cmpR (o_in (K := K) rfl) (pv 7) (pe_tup (pa_cons pe_str (pa_cons pe_str (pa_cons pe_str (pa_cons pe_str pa_nil))))) rfl) (pe_co G_law_tried (hr.mono (by decide)) rfl T.m_law_tried T.F_law_tried.kp T.B_law_tried (takes_of (E := E) rfl rfl rfl rfl) (pa_cons (pv 3) (pa_cons (pe_dg hr (pv 4) (pv 6) (fun _ _ => rfl)) (pa_cons (pv 7) (pa_cons (pv 6) pa_nil))))) pe_non))
    (pss_cons (ps_if (PW.pt (pw_and (pt_cmpR (o_eq (K := K) rfl hr) (pv 7) pe_str (nomark _)) (pw_and1 (pt_cmpR o_isnot (pv 11) pe_non (nomark _)))))
    (pss_one (ps_expr (pe_bm PySem.F.plainAttrs_list PySem.F.slot_list_append PySem.F.type_list_append mt_append (pv 5) (pa_cons (pe_tup (pa_cons pe_str (pa_cons (pv 11) (pa_cons (pv 6) pa_nil)))) pa_nil))))
    (pss_one (ps_if (PW.pt (pw_and (pt_cmpR (o_eq (K := K) rfl hr) (pv 7) pe_str (nomark _)) (pw_and1 (pt_cmpR o_isnot (pv 11) pe_non (nomark _)))))
    (pss_one (ps_asg (pe_tup (pa_cons (pe_ix (ix_u (K := K) rfl) (pv 11) pe_int (fun _ _ => rfl)) (pa_cons (pv 6) pa_nil))) (pg_sub (pv 1) pe_str (set_u hr))))
    (pss_one (ps_if (PW.pt (pw_and (pt_cmpR (o_eq (K := K) rfl hr) (pv 7) pe_str (nomark _)) (pw_and1 (pt_cmpR o_isnot (pv 11) pe_non (nomark _)))))
    (pss_one (ps_expr (pe_bm PySem.F.plainAttrs_list PySem.F.slot_list_append PySem.F.type_list_append mt_append (pv 5) (pa_cons (pe_tup (pa_cons pe_str (pa_cons (pe_ix (ix_u (K := K) rfl) (pv 11) pe_int (fun _ _ => rfl)) (pa_cons (pv 6) pa_nil)))) pa_nil))))
    pss_nil)))))
    (pss_one (ps_ret pe_bl)))))))))))), ?_⟩
  rw [st_law_done]
  obtain ⟨U, eU, vU⟩ := hs.us
  have ehd := hs.hd
  obtain ⟨vs, ewl, hws⟩ := hs.wl
  have npw := np.symm
  walk_at "u"
  refine s_par3 ?_
  walk_at "u"
  refine s_three ?_
  walk_at "u"
  refine s_lenL (SqL.of hnl) ?_
  walk_at "u"
  rw [List.length_map]
  walk_at "tk"
  intro d2 H2 d20 d21 B2 k2
  obtain ⟨v2, hv2, ev2⟩ := ix_mem (xs := zs.map V.str) d20 (by simpa using d21)
  obtain ⟨pl, hpl, rfl⟩ := List.mem_map.mp hv2
  have hp := hzs pl hpl
  refine s_ixl (by walk_at "g") ev2 ?_
  walk_at "u"
  walk_at "na"
  intro a3 H3 f3 e3 k3
  walk_at "u"
  walk_at "tk"
  intro d4 H4 d40 d41 B4 k4
  obtain ⟨v4, hv4, ev4⟩ := ix_mem (xs := [V.str "lock", V.str "lock", V.str "use", V.str "give", V.str "unlock", V.str "over", V.str "come", V.str "come", V.str "come"]) d40 (by simpa using d41)
  obtain ⟨w, rfl⟩ := wo_mem hv4
  refine s_ixl (by walk_at "g") ev4 ?_
  walk_at "u"
  refine s_lenL (xs := vs) (by walk_at "g") ?_
  have hvl : vs.length ≤ 10000 := by rw [hws.1]; exact hws7
  walk_at "u"
  walk_at "tk"
  intro d5 H5 d50 d51 B5 k5
  obtain ⟨i, rfl⟩ : ∃ j : Nat, d5 = j := ⟨d5.toNat, by omega⟩
  walk_at "u"
  walk_at "tk"
  intro d6 H6 d60 d61 B6 k6
  have kz : Kz [p] H H6 := ⟨by walk_at "k"⟩
  have s6 := hs.kpb kz.k hB.th np
  have k6' := kz.k
  clear k2 k3 k4 k5 k6
  obtain ⟨U, eU, vU⟩ := s6.us
  have ehd := s6.hd
  obtain ⟨vs6, ewl, hws6⟩ := s6.wl
  have sub1 : ∀ q ∈ F.fp ns ad, q ∈ p :: F.fp ns ad := fun q hq => List.mem_cons_of_mem _ hq
  have done0 : Q (.bl true) H6 := k H6 S s6 hg (by omega) (by omega) (B6.more (by omega)) (k6'.mono (by simp))
  have nsk : F.sd ≠ F.kp := s6.tsd.nk s6.kp.th rfl
  have nsw : F.sd ≠ F.wl := s6.tsd.nk s6.twl rfl
  have nhk : F.hd ≠ F.kp := s6.thd.nk s6.kp.th rfl
  have nhw : F.hd ≠ F.wl := s6.thd.nk s6.twl rfl
  have nwk : F.wl ≠ F.kp := s6.twl.nk s6.kp.th rfl
  have nsa : ∀ q ∈ ns, F.sd ≠ ad q := fun q hq => s6.tsd.nk (s6.ho q hq).th rfl
  have nwa : ∀ q ∈ ns, F.wl ≠ ad q := fun q hq => s6.twl.nk (s6.ho q hq).th rfl
  have hk6 := s6.kp
  obtain ⟨SV, ak, hS⟩ := hk6
  have fin : ∀ H' S', Ss T H' F ns ad S' → Good ns S' → S'.t ≤ S.t + 1 → S'.ws.length ≤ S.ws.length + 1 → Kp (F.fp ns ad) H6 H' → Q (.bl true) H' := fun H' S' s' g' t' w' k' =>
    k H' S' s' g' t' w' ((B6.kpn k' (s6.fpn B6.th np)).more (by omega)) ((k6'.mono (by simp)).trans (k'.mono sub1))
  have msd : ∀ q ∈ [F.sd], q ∈ F.fp ns ad := by simp [Fo.fp]
  have mkp : ∀ q ∈ [F.kp], q ∈ F.fp ns ad := by simp [Fo.fp]
  have mwl : ∀ q ∈ [F.wl], q ∈ F.fp ns ad := by simp [Fo.fp]
  have hl6 : vs6.length ≤ 10000 := by rw [hws6.1]; exact hws7
  clear done0
  cases w with
  | come =>
    walk_at "u"
    refine s_lenL (xs := vs6) (SqL.of ewl) ?_
    walk_at "u"
    refine s_ite (fun h1 => ?_) (fun h1 => ?_)
    · walk_at "u"
      obtain ⟨w, hw⟩ : ∃ w, S.ws[i]? = some w := ⟨_, List.getElem?_eq_getElem (by have := hws6.1; omega)⟩
      have hm := List.mem_of_getElem? hw
      refine ⟨_, _, rfl, F, ns, ad, S, i, w, rfl, rfl, s6, hg, hw, by omega, fun H' s' k' => ?_⟩
      walk_at "u"
      exact fin H' _ s' (come_good hg hm) (by rw [(come_ts S w).1]; omega) (by rw [(come_ts S w).2]; omega) k'
    · walk_at "u"
      walk_at "na"
      intro a7 H7 f7 e7 k7
      walk_at "u"
      refine s_inT (zs := ["lock", "use", "give", "unlock"]) (SqT.of e7) ?_
      walk_at "u"
      exact fin H7 S (s6.kp0 k7) hg (by omega) (by omega) k7.nil
  | over =>
    walk_at "u"
    cases hu : S.u with
    | none =>
      rw [hu] at vU
      obtain rfl : U = .non := vU
      walk_at "u"
      walk_at "na"
      intro a7 H7 f7 e7 k7
      walk_at "u"
      refine s_inT (zs := ["lock", "use", "give", "unlock"]) (SqT.of e7) ?_
      walk_at "u"
      exact fin H7 S (s6.kp0 k7) hg (by omega) (by omega) k7.nil
    | some x =>
      rw [hu] at vU
      obtain ⟨c, rfl, ec⟩ := vU
      obtain ⟨u1, u2, u3, u4⟩ := hg.i6 x hu
      obtain ⟨y1, y2⟩ := hg.i1 x.1 x.2 u1
      walk_at "u"
      refine s_ite (fun h1 => ?_) (fun h1 => ?_)
      · walk_at "u"
        refine ⟨_, _, rfl, F.kp, S.t, x, S.b, rfl, by rw [← u1]; exact s6.kp, rfl, ⟨y2, by omega⟩, fun H8 a8 k8 => ?_⟩
        have s8 := s6.setK k8 a8
        walk_at "u"
        refine s_uds (by walk_at "g") (zlt (by simp)) rfl fun H9 e9 k9 => ?_
        have s9 := s8.setU (U := .non) (u := none) k9 e9 rfl
        walk_at "u"
        walk_at "na"
        intro a7 H7 f7 e7 k7
        walk_at "u"
        refine s_inT (zs := ["lock", "use", "give", "unlock"]) (SqT.of e7) ?_
        walk_at "u"
        exact fin H7 _ (s9.kp0 k7) (end_good (S := S) hg hu) (by simp only; omega) (by simp only; omega) (((k8.mono mkp).trans (k9.mono msd)).trans k7.nil)
      · obtain ⟨R, N, ah, hR⟩ := s6.ho x.2 u3
        have nsx := nsa x.2 u3
        have nwx := nwa x.2 u3
        walk_at "u"
        refine s_dgs ehd (khd_val u3) ?_
        walk_at "u"
        refine ⟨_, _, _, rfl, ad x.2, S.g x.2, S.r x.2, rfl, s6.ho x.2 u3, fun H8 a8 k8 => ?_⟩
        have s8 := s6.setN u3 k8 a8
        walk_at "u"
        walk_at "na"
        intro a9 H9 f9 e9 k9
        have s9 := s8.kp0 k9
        walk_at "u"
        refine s_app (xs := vs6) (by walk_at "g") (zlt (by omega)) fun H10 e10 k10 => ?_
        have s10 := s9.addW (w := (true, x.1, x.2)) k10 e10 ((hws6.kpn k8).kpn k9) (k10.tp _ _ e9)
        walk_at "u"
        refine s_uds (by walk_at "g") (zlt (by simp)) rfl fun H11 e11 k11 => ?_
        have s11 := s10.setU (U := .non) (u := none) k11 e11 rfl
        walk_at "u"
        walk_at "na"
        intro a7 H7 f7 e7 k7
        walk_at "u"
        refine s_inT (zs := ["lock", "use", "give", "unlock"]) (SqT.of e7) ?_
        walk_at "u"
        exact fin H7 _ (s11.kp0 k7) (note_good hg hu) (by simp only; omega) (by simp) (((((k8.mono (Fo.adm u3)).trans k9.nil).trans (k10.mono mwl)).trans (k11.mono msd)).trans k7.nil)
  | w x =>
    have hop := s6.ho pl hp
    obtain ⟨R, N, ah, hR⟩ := hop
    have nsx := nsa pl hp
    have nwx := nwa pl hp
    cases x with
    | lock =>
      walk_at "u"
      walk_at "na"
      intro a7 H7 f7 e7 k7
      walk_at "u"
      refine s_inT (zs := ["lock", "use", "give", "unlock"]) (SqT.of e7) ?_
      walk_at "u"
      refine s_dgs (by walk_at "g") (khd_val hp) ?_
      walk_at "u"
      have s7 := s6.kp0 k7
      refine ⟨_, _, _, _, rfl, F.kp, ad pl, S.t, S.s, S.b, S.g pl, S.r pl, .lock, pl, rfl, rfl, rfl, rfl, s7.kp, s7.ho pl hp, fun no H8 k8 => ?_, fun e1 e2 H8 a8 k8 => ?_, fun e1 q e2 c H8 ec a8 k8 => ?_, fun e1 e2 e3 H8 a8 k8 => ?_⟩
      · walk_at "u"
        exact fin H8 S (s7.kp0 k8) hg (by omega) (by omega) (k7.nil.trans k8.nil)
      · have s8 := s7.setK k8 a8
        walk_at "u"
        walk_at "na"
        intro a9 H9 f9 e9 k9
        have s9 := s8.kp0 k9
        walk_at "u"
        refine s_app (xs := vs6) (by walk_at "g") (zlt (by omega)) fun H10 e10 k10 => ?_
        have s10 := s9.addW (w := (false, S.t + 1, pl)) k10 e10 (((hws6.kpn k7).kpn k8).kpn k9) (k10.tp _ _ e9)
        walk_at "u"
        exact fin H10 _ s10 (lock_good hg e2 hp) (by simp only; omega) (by simp) (((k7.nil.trans (k8.mono mkp)).trans k9.nil).trans (k10.mono mwl))
      · rcases e1 with e1 | e1 <;> cases e1
      · cases e1
    | unlock =>
      walk_at "u"
      walk_at "na"
      intro a7 H7 f7 e7 k7
      walk_at "u"
      refine s_inT (zs := ["lock", "use", "give", "unlock"]) (SqT.of e7) ?_
      walk_at "u"
      refine s_dgs (by walk_at "g") (khd_val hp) ?_
      walk_at "u"
      have s7 := s6.kp0 k7
      refine ⟨_, _, _, _, rfl, F.kp, ad pl, S.t, S.s, S.b, S.g pl, S.r pl, .unlock, pl, rfl, rfl, rfl, rfl, s7.kp, s7.ho pl hp, fun no H8 k8 => ?_, fun e1 e2 H8 a8 k8 => ?_, fun e1 q e2 c H8 ec a8 k8 => ?_, fun e1 e2 e3 H8 a8 k8 => ?_⟩
      · walk_at "u"
        exact fin H8 S (s7.kp0 k8) hg (by omega) (by omega) (k7.nil.trans k8.nil)
      · cases e1
      · rcases e1 with e1 | e1 <;> cases e1
      · have s8 := s7.setK k8 a8
        walk_at "u"
        exact fin H8 _ s8 (unlock_good hg e2) (by simp only; omega) (by simp only; omega) (k7.nil.trans (k8.mono mkp))
    | use =>
      walk_at "u"
      walk_at "na"
      intro a7 H7 f7 e7 k7
      walk_at "u"
      refine s_inT (zs := ["lock", "use", "give", "unlock"]) (SqT.of e7) ?_
      walk_at "u"
      refine s_dgs (by walk_at "g") (khd_val hp) ?_
      walk_at "u"
      have s7 := s6.kp0 k7
      refine ⟨_, _, _, _, rfl, F.kp, ad pl, S.t, S.s, S.b, S.g pl, S.r pl, .use, pl, rfl, rfl, rfl, rfl, s7.kp, s7.ho pl hp, fun no H8 k8 => ?_, fun e1 e2 H8 a8 k8 => ?_, fun e1 q e2 c H8 ec a8 k8 => ?_, fun e1 e2 e3 H8 a8 k8 => ?_⟩
      · walk_at "u"
        exact fin H8 S (s7.kp0 k8) hg (by omega) (by omega) (k7.nil.trans k8.nil)
      · cases e1
      · have s8 := s7.setR hp k8 a8
        walk_at "u"
        walk_at "na"
        intro a9 H9 f9 e9 k9
        have s9 := s8.kp0 k9
        walk_at "u"
        refine s_uds (by walk_at "g") (zlt (by simp)) rfl fun H10 e10 k10 => ?_
        have s10 := s9.setU (U := .ref a9) (u := some (q.1, pl)) k10 e10 ⟨a9, rfl, k10.tp _ _ e9⟩
        walk_at "u"
        exact fin H10 _ s10 (use_good hg hp e2) (by simp only; omega) (by simp only; omega) (((k7.nil.trans (k8.mono (Fo.adm hp))).trans k9.nil).trans (k10.mono msd))
      · cases e1
    | give =>
      walk_at "u"
      walk_at "na"
      intro a7 H7 f7 e7 k7
      walk_at "u"
      refine s_inT (zs := ["lock", "use", "give", "unlock"]) (SqT.of e7) ?_
      walk_at "u"
      refine s_dgs (by walk_at "g") (khd_val hp) ?_
      walk_at "u"
      have s7 := s6.kp0 k7
      refine ⟨_, _, _, _, rfl, F.kp, ad pl, S.t, S.s, S.b, S.g pl, S.r pl, .give, pl, rfl, rfl, rfl, rfl, s7.kp, s7.ho pl hp, fun no H8 k8 => ?_, fun e1 e2 H8 a8 k8 => ?_, fun e1 q e2 c H8 ec a8 k8 => ?_, fun e1 e2 e3 H8 a8 k8 => ?_⟩
      · walk_at "u"
        exact fin H8 S (s7.kp0 k8) hg (by omega) (by omega) (k7.nil.trans k8.nil)
      · cases e1
      · have s8 := s7.setR hp k8 a8
        walk_at "u"
        walk_at "na"
        intro a9 H9 f9 e9 k9
        have s9 := s8.kp0 k9
        walk_at "u"
        refine s_app (xs := vs6) (by walk_at "g") (zlt (by omega)) fun H10 e10 k10 => ?_
        have s10 := s9.addW (w := (true, q.1, pl)) k10 e10 (((hws6.kpn k7).kpn k8).kpn k9) (k10.tp _ _ e9)
        walk_at "u"
        exact fin H10 _ s10 (give_good hg hp e2) (by simp only; omega) (by simp) (((k7.nil.trans (k8.mono (Fo.adm hp))).trans k9.nil).trans (k10.mono mwl))
      · cases e1

theorem s_lockS {H : Hp} {σ : L2.St} {d : Addr} {t : TS} {D : Ends} {u : HO} (e : H d = some u) (mu : Mut (some u)) (nt : ∀ xs, u ≠ .tup xs)
    (h : ∀ od H1, H1 d = some (.frz od u) → Lk d u H H1 → (∀ H', Kp [] H1 H' → Kp [] H (upd H' d u)) →
      t ⟨fun σ' H' => H' d = some (.frz od u) ∧ D.nx σ' (upd H' d u), fun v H' => H' d = some (.frz od u) ∧ D.rt v (upd H' d u), fun σ' H' => H' d = some (.frz od u) ∧ D.bk σ' (upd H' d u), fun σ' H' => H' d = some (.frz od u) ∧ D.ct σ' (upd H' d u)⟩ σ H1) : tLock t D σ H :=
  ⟨d, u, e, mu, fun od => h od _ upd_same ⟨⟨od, upd_same⟩, fun b ob hb eb => by rw [upd_ne hb]; exact eb, fun b hb => by
    by_cases z : b = d
    · rw [z, upd_same] at hb; cases hb
    · rwa [upd_ne z] at hb⟩ fun H' k => unlock_kp e nt k (by simp)⟩
theorem Rw_upd {H : Hp} {d : Addr} {o : Obj} {u w : HO} {vs : List V} {rs : List (List V)} (e : H d = some (.frz o u)) (h : Rw H vs rs) : Rw (upd H d w) vs rs := by
  induction h with
  | nil => exact .nil
  | @cons b r vs rs e1 _ ih =>
    refine .cons ?_ ih
    rw [upd_ne (fun z => by subst z; rw [e] at e1; cases e1)]
    exact e1
/-- the rights that are held -/
def fdS (S : St) (ns : List Str) : List Pair := ns.filterMap fun n => (S.r n).map fun x => (x.1, n)
def rw2 (q : Pair) : List V := [.int q.1, .str q.2]
theorem fdS_snoc {S : St} {ns : List Str} {i : Nat} {n : Str} (e : ns[i]? = some n) : fdS S (ns.take (i + 1)) = fdS S (ns.take i) ++ (match S.r n with | none => [] | some x => [(x.1, n)]) := by
  rw [List.take_add_one, e]
  simp only [Option.toList, fdS, List.filterMap_append, List.filterMap_cons, List.filterMap_nil]
  cases S.r n <;> rfl
theorem fdS_none {S : St} : ∀ {ns : List Str}, (∀ q ∈ ns, S.r q = none) → fdS S ns = [] := by
  intro ns h
  induction ns with
  | nil => rfl
  | cons m ns ih =>
    unfold fdS
    rw [List.filterMap_cons, h m (by simp)]
    exact ih fun q hq => h q (List.mem_cons_of_mem _ hq)
theorem fdS_one {S : St} {q : Str} {x : Pair} : ∀ {ns : List Str}, ns.Nodup → q ∈ ns → S.r q = some x → (∀ p ∈ ns, p ≠ q → S.r p = none) → fdS S ns = [(x.1, q)] := by
  intro ns nd h e o
  induction ns with
  | nil => cases h
  | cons m ns ih =>
    obtain ⟨nm, nd⟩ := List.nodup_cons.mp nd
    by_cases z : m = q
    · subst z
      have : fdS S ns = [] := fdS_none fun p hp => o p (List.mem_cons_of_mem _ hp) (fun z => nm (z ▸ hp))
      show (List.filterMap _ (m :: ns)) = _
      rw [List.filterMap_cons, e]
      show (x.1, m) :: fdS S ns = _
      rw [this]
    · show (List.filterMap _ (m :: ns)) = _
      rw [List.filterMap_cons, o m (by simp) z]
      refine ih nd ?_ fun p hp => o p (List.mem_cons_of_mem _ hp)
      rcases List.mem_cons.mp h with h | h
      · exact absurd h.symm z
      · exact h
/-- what is told of one place, or none -/
theorem tot {ns : List Str} {S : St} (h : Good ns S) (nd : ns.Nodup) : (S.u = none ∧ (fdS S ns = [] ∨ ∃ q, S.s = some q ∧ fdS S ns = [q])) ∨ ∃ q, S.u = some q ∧ S.s = some q ∧ fdS S ns = [] := by
  cases e : S.u with
  | some x =>
    obtain ⟨a, _, _, d⟩ := h.i6 x e
    exact Or.inr ⟨x, rfl, a, fdS_none d⟩
  | none =>
    refine Or.inl ⟨rfl, ?_⟩
    by_cases z : ∀ q ∈ ns, S.r q = none
    · exact Or.inl (fdS_none z)
    · obtain ⟨q, hq⟩ := Classical.not_forall.mp z
      obtain ⟨hq, hr⟩ := Classical.not_imp.mp hq
      cases er : S.r q with
      | none => exact absurd er hr
      | some x =>
        obtain ⟨a, _, _, d⟩ := h.i5 q hq x er
        exact Or.inr ⟨_, a, fdS_one nd hq er d⟩
theorem strOk_of {z : Str} {n : Nat} (h : SS z n) : PyData.strOk z = true := by
  simp only [PyData.strOk, Array.all_eq_true', decide_eq_true_eq]
  exact fun c hc => h.ok c (by simpa using hc)
theorem shp1 {q : Pair} (h : SS q.2 20) : SeqAt.shaped (.list [.tuple [.int q.1, .str q.2]]) = true := by
  have h : PyData.strOk q.2 = true := strOk_of h
  unfold SeqAt.shaped
  simp only [PyData.canLay0, PyData.canLayAll0, PyData.depth, PyData.depthAll, Bool.and_true, h]
  rfl
theorem khd_at {ns : List Str} {ad : Str → Addr} {i : Nat} {k : Key} {x : V} (e : (khd ns ad)[i]? = some (k, x)) : ∃ n, ns[i]? = some n ∧ k = Sum.inr n ∧ x = .ref (ad n) := by
  rw [List.getElem?_map] at e
  obtain ⟨n, e1, e2⟩ := Option.map_eq_some_iff.mp e
  cases e2
  exact ⟨n, e1, rfl, rfl⟩
def sp_law_safe (T : Tx K mg) : Sp := sp1 fun x H Q _ => ∃ (F : Fo) (ns : List Str) (ad : Str → Addr) (S : St), x = .ref F.sd ∧ Ss T H F ns ad S ∧ Good ns S ∧ ns.Nodup ∧ ns.length ≤ 100 ∧ (∀ n ∈ ns, SS n 20) ∧ ∀ H', Kp [] H H' → Q (.bl true) H'
set_option maxHeartbeats 16000000 in
theorem ok_law_safe (T : Tx K mg) : FnOk P w K mg base (L2.CX P w) 2 T.a_law_safe T.d_law_safe ["_law_state"] (sp_law_safe T) := by
  have G_Keeper_locked := ok_Keeper_locked (P := P) (w := w) (base := base) T
  have G_Holder_right := ok_Holder_right (P := P) (w := w) (base := base) T
  refine T.F_law_safe.okX sc_law_safe (fun vs H Q E h => ?_) (fun cd A o s H vs Q E hr h => ?_)
  · obtain ⟨v0, rfl, h⟩ := h; rfl
  obtain ⟨v0, rfl, h⟩ := h
  obtain ⟨F, ns, ad, S, rfl, hs, hg, nd, hl, hss, k⟩ := h
  refine ⟨_, (pss_cons (ps_set (i := 1) sc_law_safe.nd rfl (Or.inl rfl) (pe_mo0 T.cl_Keeper T.M_Keeper_locked G_Keeper_locked (hr.mono (by decide)) T.B_Keeper_locked (takes_of (E := E) rfl rfl rfl rfl) (pe_dg hr (pv 0) pe_str (fun _ _ => rfl))))
    (pss_cons (ps_lock (ps_setLc (i := 2) (own := [("_law_place", 3), ("_law_one", 4)]) rfl sc_law_safe.nd rfl rfl (sw_true rfl rfl rfl (by decide +kernel)) (pi_items (pe_dg hr (pv 0) pe_str (fun _ _ => rfl))) (blkOk_by (own := [("_law_place", 3), ("_law_one", 4)]) (N := N_law_safe) (sc := defScope s_law_safe) (by decide +kernel)) (fun _ _ _ _ _ => (pg_tupK (K := K) (n := 2) rfl rfl (pgs_cons (pg_name (i := 3) sc_law_safe.nd rfl (Or.inl rfl)) (pgs_cons (pg_name (i := 4) sc_law_safe.nd rfl (Or.inl rfl)) pgs_nil)))) (fun _ _ _ _ _ => (pts_one (pt_cmpR o_isnot (pe_mo0 T.cl_Holder T.M_Holder_right G_Holder_right (hr.mono (by decide)) T.B_Holder_right takes0 (pv 4)) pe_non (nomark _)))) (fun _ _ _ _ _ => (pe_tup (pa_cons (pe_ix (ix_u (K := K) rfl) (pe_mo0 T.cl_Holder T.M_Holder_right G_Holder_right (hr.mono (by decide)) T.B_Holder_right takes0 (pv 4)) pe_int (fun _ _ => rfl)) (pa_cons (pv 3) pa_nil))))))
    (pss_cons (ps_if (pt_cmpR o_isnot (pe_dg hr (pv 0) pe_str (fun _ _ => rfl)) pe_non (nomark _))
    (pss_one (ps_expr (pe_bm PySem.F.plainAttrs_list PySem.F.slot_list_append PySem.F.type_list_append mt_append (pv 2) (pa_cons (pe_dg hr (pv 0) pe_str (fun _ _ => rfl)) pa_nil))))
    pss_nil)
    (pss_one (ps_ret (pe_or (pe_cmpR (o_eq (K := K) rfl hr) (pv 2) (pe_lst pa_nil) (nomark _)) (pe_one (pe_and (pe_cmpR o_isnot (pv 1) pe_non (nomark _)) (pe_one (pe_cmpR (o_eq (K := K) rfl hr) (pv 2) (pe_lst (pa_cons (pe_tup (pa_cons (pe_ix (ix_u (K := K) rfl) (pv 1) pe_int (fun _ _ => rfl)) (pa_cons (pe_ix (ix_u (K := K) rfl) (pv 1) pe_int (fun _ _ => rfl)) pa_nil))) pa_nil)) (nomark _))))))))))), ?_⟩
  rw [st_law_safe]
  obtain ⟨U, eU, vU⟩ := hs.us
  have ehd := hs.hd
  have hk := hs.kp
  obtain ⟨SV, ak, hS⟩ := hk
  walk_at "u"
  refine ⟨_, rfl, F.kp, _, SV, _, rfl, ak, ?_⟩
  walk_at "u"
  refine s_lockS ehd trivial (fun xs z => by cases z) fun od H1 e1 lk kp1 => ?_
  have eU1 := lk.keep _ _ hs.ne eU
  have hh1 : ∀ n ∈ ns, HdO T H1 (ad n) (S.g n) (S.r n) := fun n hn => by
    obtain ⟨R, N, ⟨dx, ea⟩, vR⟩ := hs.ho n hn
    refine ⟨R, N, ⟨dx, lk.keep _ _ (fun z => ?_) ea⟩, ?_⟩
    · rw [z, ehd] at ea; cases ea
    · cases er : S.r n with
      | none => rw [er] at vR; exact vR
      | some q =>
        rw [er] at vR
        obtain ⟨b, eb, tb⟩ := vR
        exact ⟨b, eb, lk.keep _ _ (fun z => by rw [z, ehd] at tb; cases tb) tb⟩
  walk_at "u"
  refine s_iitems ?_
  walk_at "u"
  refine s_frzd e1 ?_
  intro D hD
  have nhD : F.hd ≠ D := fun z => by rw [← z, e1] at hD; cases hD
  refine lc_I e1 hD (fun i acc H' => Kp [D] H1 H' ∧ Rw H' acc ((fdS S (ns.take i)).map rw2)) (fun H2 e2 k2 => ⟨by walk_at "k", .nil⟩) ?_ ?_ ?_
  · rintro i acc H2 ⟨k2, _⟩ o eo
    exact k2.get eo (by simpa using nhD)
  · rintro i kk x acc H2 A H3 ex e2 ⟨k2, r2⟩ f3 e3 k3
    obtain ⟨n, en, rfl, rfl⟩ := khd_at ex
    have hn := List.mem_of_getElem? en
    have hi : i < ns.length := (List.getElem?_eq_some_iff.mp en).1
    have e3' : H3 A = some (.tup [.str n, .ref (ad n)]) := e3
    obtain ⟨R, N, ah, vR⟩ := hh1 n hn
    walk_at "u"
    refine ⟨rfl, ?_⟩
    walk_at "u"
    refine ⟨_, rfl, ad n, _, _, _, rfl, by walk_at "g", ?_⟩
    have hsn := fdS_snoc (S := S) en
    cases er : S.r n with
    | none =>
      rw [er] at vR hsn
      obtain rfl : R = .non := vR
      walk_at "u"
      exact ⟨acc, by walk_at "g", by walk_at "k", by rw [hsn, List.append_nil]; exact r2.kp k3⟩
    | some q =>
      rw [er] at vR hsn
      obtain ⟨b, rfl, tb⟩ := vR
      walk_at "u"
      refine ⟨_, rfl, ad n, _, _, _, rfl, by walk_at "g", ?_⟩
      walk_at "u"
      walk_at "na"
      intro a4 H4 f4 e4 k4
      have hal : acc.length ≤ i := by
        rw [r2.len, List.length_map]
        exact Nat.le_trans (List.length_filterMap_le _ _) (by rw [List.length_take]; omega)
      refine PvD.add (by walk_at "g") (by omega) fun H5 e5 k5 => ⟨by walk_at "k", ?_⟩
      rw [hsn, List.map_append]
      exact (((r2.kp k3).kp k4).kp k5).app (Rw.one (k5.tp _ _ e4))
  · rintro acc H2 e2 ⟨k2, r2⟩
    rw [show (khd ns ad).length = ns.length from List.length_map _, List.take_length] at r2
    have kq : Kp [] H1 H2 := k2.drop hD
    have k9 := kp1 H2 kq
    have r9 := Rw_upd (w := .dK (khd ns ad)) (kq.get0 e1) r2
    have nD : D ≠ F.hd := fun z => by rw [z, e1] at hD; cases hD
    have e9 : upd H2 F.hd (.dK (khd ns ad)) D = some (.lst acc) := by rw [upd_ne nD]; exact e2
    walk_at "u"
    refine ⟨kq.get0 e1, ?_⟩
    generalize upd H2 F.hd (.dK (khd ns ad)) = H9 at k9 r9 e9 ⊢
    have tD := Th.lst e9
    have fD : Fz H D := ⟨lk.none_ D hD⟩
    have eU9 := k9.get0 eU
    have hS9 := hS.kpn k9
    have vU9 := vU.kpn k9
    have eqq : ∀ (q : Pair) {H' : Hp} {a b : Addr}, H' a = some (.tup [.int q.1, .str q.2]) → H' b = some (.lst [.ref a]) → Dn K H' (.ref b) (.list [.tuple [.int q.1, .str q.2]]) := fun q H' a b ea eb =>
      .lst (Or.inl eb) (.cons (.tup (SqT.of ea) (.cons (.int _) (.cons (.str _) .nil))) .nil)
    rcases tot hg nd with ⟨eu, ef | ⟨q, es, ef⟩⟩ | ⟨q, eu, es, ef⟩
    · rw [eu] at vU
      obtain rfl : U = .non := vU
      rw [ef] at r9
      cases r9
      walk_at "u"
      walk_at "na"
      intro b1 H11 f11 e11 k11
      walk_at "u"
      refine s_eqN (.lst (Or.inl (k11.get0 e9)) .nil) e11 (by rfl) ?_
      walk_at "u"
      exact k _ (k9.trans k11)
    · rw [eu] at vU
      obtain rfl : U = .non := vU
      rw [ef] at r9
      cases r9 with
      | cons ta r9 =>
        cases r9
        have hq := shp1 (q := q) (hss _ (hg.i9 q.1 q.2 es))
        have vS := hS9
        rw [es] at vS
        obtain ⟨c2, rfl, tc2⟩ := vS
        walk_at "u"
        walk_at "na"
        intro b1 H11 f11 e11 k11
        walk_at "u"
        refine s_eqN (eqq q (k11.tp _ _ ta) (k11.get0 e9)) e11 hq ?_
        walk_at "u"
        walk_at "na"
        intro b2 H12 f12 e12 k12
        walk_at "u"
        walk_at "na"
        intro b3 H13 f13 e13 k13
        walk_at "u"
        refine s_eqR (eqq q (k13.tp _ _ (k12.tp _ _ (k11.tp _ _ ta))) (k13.get0 (k12.get0 (k11.get0 e9)))) (eqq q (k13.tp _ _ e12) e13) hq ?_
        walk_at "u"
        exact k _ (((k9.trans k11).trans k12).trans k13)
    · rw [eu] at vU9
      obtain ⟨c, rfl, tc⟩ := vU9
      rw [ef] at r9
      cases r9
      walk_at "u"
      refine s_app e9 (zlt (by simp)) fun H10 e10 k10 => ?_
      have kz : Kz [] H H10 := ⟨by walk_at "k"⟩
      have hq := shp1 (q := q) (hss _ (hg.i9 q.1 q.2 es))
      have vS := hS9.kpn k10
      rw [es] at vS
      obtain ⟨c2, rfl, tc2⟩ := vS
      walk_at "u"
      walk_at "na"
      intro b1 H11 f11 e11 k11
      walk_at "u"
      refine s_eqN (eqq q (k11.tp _ _ (k10.tp _ _ tc)) (k11.get0 e10)) e11 hq ?_
      walk_at "u"
      walk_at "na"
      intro b2 H12 f12 e12 k12
      walk_at "u"
      walk_at "na"
      intro b3 H13 f13 e13 k13
      walk_at "u"
      refine s_eqR (eqq q (k13.tp _ _ (k12.tp _ _ (k11.tp _ _ (k10.tp _ _ tc)))) (k13.get0 (k12.get0 (k11.get0 e10)))) (eqq q (k13.tp _ _ e12) e13) hq ?_
      walk_at "u"
      exact k _ (((kz.k.trans k11).trans k12).trans k13)

theorem hid_sub {ps qs : List Addr} {H : Hp} (h : ∀ q ∈ qs, q ∈ ps) : Kp [] (hid ps H) (hid qs H) := ⟨fun b o e _ => by
    obtain ⟨e1, m⟩ := hid_some e
    exact hid_of e1 fun z => m (h b z), fun b i ⟨o, e, r⟩ => by
    obtain ⟨e1, m⟩ := hid_some e
    exact ⟨o, hid_of e1 fun z => m (h b z), r⟩, fun b xs e => by
    obtain ⟨e1, m⟩ := hid_some e
    exact hid_of e1 fun z => m (h b z)⟩
theorem hid_upd {ps : List Addr} {H : Hp} {d : Addr} {u : HO} (h : d ∈ ps) : hid ps (upd H d u) = hid ps H := by
  funext b
  unfold hid
  split
  · rfl
  · rename_i m
    exact upd_ne fun z => m (z ▸ h)
theorem Ss.fpt {T : Tx K mg} {H : Hp} {F : Fo} {ns : List Str} {ad : Str → Addr} {S : St} {p : Addr} (h : Ss T H F ns ad S) (t : Th H p 1) : p ∉ F.fp ns ad := by
  simp only [Fo.fp, List.mem_cons, List.mem_map, not_or]
  refine ⟨t.nk h.tsd rfl, t.nk h.kp.th rfl, t.nk h.twl rfl, ?_⟩
  rintro ⟨m, hm, e⟩
  exact t.nk (h.ho m hm).th rfl e.symm
def optD (o : Option Pair) : PyData := match o with | none => .none | some q => .tuple [.int q.1, .str q.2]
def tw (S : St) (n : Str) : PyData := .list [optD (S.r n), .int (S.g n)]
def tdS (S : St) (ns : List Str) : PyData := .list (optD S.s :: .bool S.b :: ns.map (tw S))
theorem opt_lay {o : Option Pair} (h : ∀ q, o = some q → SS q.2 20) : PyData.canLay0 (optD o) = true ∧ (optD o).depth ≤ 2 := by
  cases o with
  | none => exact ⟨rfl, by simp [optD, PyData.depth]⟩
  | some q =>
    have h1 : PyData.strOk q.2 = true := strOk_of (h q rfl)
    refine ⟨?_, ?_⟩
    · simp only [optD, PyData.canLay0, PyData.canLayAll0, Bool.and_true, h1]
    · simp only [optD, PyData.depth, PyData.depthAll]; omega
theorem tw_lay {S : St} {ns : List Str} (h : ∀ n ∈ ns, ∀ q, S.r n = some q → SS q.2 20) : PyData.canLayAll0 (ns.map (tw S)) = true ∧ PyData.depthAll (ns.map (tw S)) ≤ 4 := by
  induction ns with
  | nil => exact ⟨rfl, by simp [PyData.depthAll]⟩
  | cons n ns ih =>
    obtain ⟨h1, h2⟩ := ih fun m hm => h m (List.mem_cons_of_mem _ hm)
    obtain ⟨g1, g2⟩ := opt_lay (o := S.r n) (h n (by simp))
    refine ⟨?_, ?_⟩
    · simp only [List.map_cons, PyData.canLayAll0, PyData.canLay0, tw, h1, g1, Bool.and_true]
    · simp only [List.map_cons, tw, PyData.depthAll, PyData.depth]; omega
theorem home_ss : SS ("home" : Str) 20 := SS.mk' (by decide +kernel)
theorem td_shp {S : St} {ns : List Str} (hg : Good ns S) (hss : ∀ n ∈ ns, SS n 20) : SeqAt.shaped (tdS S ns) = true := by
  obtain ⟨h1, h2⟩ := tw_lay (S := S) (ns := ns) fun n hn q e => by rw [hg.i8 n hn q e]; exact home_ss
  obtain ⟨g1, g2⟩ := opt_lay (o := S.s) fun q e => hss _ (hg.i9 q.1 q.2 e)
  unfold SeqAt.shaped
  rw [Bool.and_eq_true]
  refine ⟨?_, decide_eq_true ?_⟩
  · simp only [tdS, PyData.canLay0, PyData.canLayAll0, h1, g1, Bool.and_true]
  · simp only [tdS, PyData.depth, PyData.depthAll]; omega
theorem opt_dn {H : Hp} {R : V} {o : Option Pair} {ps : List Addr} (v : VisO H R o) (n : ∀ b, R = .ref b → b ∉ ps) : Dn K (hid ps H) R (optD o) := by
  cases o with
  | none => rw [show R = .non from v]; exact .non
  | some q =>
    obtain ⟨b, rfl, e⟩ := v
    exact .tup (SqT.of (hid_of e (n b rfl))) (.cons (.int _) (.cons (.str _) .nil))
theorem VisO.t1 {H : Hp} {R : V} {o : Option Pair} {b : Addr} (v : VisO H R o) (e : R = .ref b) : Th H b 1 := by
  cases o with
  | none => rw [show R = .non from v] at e; cases e
  | some q => obtain ⟨c, e1, e2⟩ := v; rw [e1] at e; cases e; exact .tup e2
theorem putK_khd {ns : List Str} {ad : Str → Addr} {z : Str} {q : Addr} : putK (khd ns ad) (Sum.inr z : Key) (V.ref q) = khd (if z ∈ ns then ns else ns ++ [z]) (up ad z q) := by
  have hany : ((khd ns ad).any fun kv => decide (kv.1 = (Sum.inr z : Key))) = decide (z ∈ ns) := by
    induction ns with
    | nil => rfl
    | cons m ns ih =>
      show (decide ((Sum.inr m : Key) = Sum.inr z) || (khd ns ad).any _) = _
      rw [ih]
      by_cases e : m = z
      · subst e; simp
      · rw [decide_eq_false (by simpa using e)]
        simp [List.mem_cons, Ne.symm e]
  unfold putK
  rw [hany]
  by_cases e : z ∈ ns
  · rw [if_pos (decide_eq_true e), if_pos e]
    simp only [khd, List.map_map]
    refine List.map_congr_left fun m _ => ?_
    show (if (Sum.inr m : Key) = Sum.inr z then ((Sum.inr m : Key), V.ref q) else (Sum.inr m, V.ref (ad m))) = (Sum.inr m, V.ref (up ad z q m))
    by_cases h : m = z
    · rw [if_pos (by rw [h]), h, up_same]
    · rw [if_neg (by simpa using h), up_ne h]
  · rw [if_neg (by simpa using e), if_neg e]
    simp only [khd, List.map_append, List.map_cons, List.map_nil]
    congr 1
    · refine List.map_congr_left fun m hm => ?_
      rw [up_ne (fun (h : m = z) => e (h ▸ hm))]
    · rw [up_same]
abbrev S0 : St := ⟨0, none, false, [], none, fun _ => 0, fun _ => none⟩
theorem Ss.addH {T : Tx K mg} {H H2 : Hp} {F : Fo} {ns : List Str} {ad : Str → Addr} {z : Str} {q : Addr} (h : Ss T H F ns ad S0) (nq : ∀ n ∈ ns, ad n ≠ q) (o : HdO T H q 0 none) (k : Kp [F.hd] H H2) (e : H2 F.hd = some (.dK (putK (khd ns ad) (Sum.inr z : Key) (V.ref q)))) :
    Ss T H2 F (if z ∈ ns then ns else ns ++ [z]) (up ad z q) S0 := by
  obtain ⟨U, e1, e2⟩ := h.us
  obtain ⟨vs, e3, e4⟩ := h.wl
  have td := h.thd
  have mem : ∀ {m}, m ∈ (if z ∈ ns then ns else ns ++ [z]) → m = z ∨ (m ≠ z ∧ m ∈ ns) := fun {m} hm => by
    by_cases e : m = z
    · exact Or.inl e
    · refine Or.inr ⟨e, ?_⟩
      split at hm
      · exact hm
      · rcases List.mem_append.mp hm with hm | hm
        · exact hm
        · exact absurd (List.mem_singleton.mp hm) e
  refine ⟨⟨U, k.get e1 (by simpa using h.ne), e2.kpn k⟩, h.kp.kpn k (by simpa using h.kp.th.nk td rfl), by rw [← putK_khd]; exact e, fun m hm => ?_, ⟨vs, k.get e3 (by simpa using h.twl.nk td rfl), e4.kpn k⟩, fun m hm n hn eq => ?_, h.ne⟩
  · rcases mem hm with rfl | ⟨hz, hm⟩
    · rw [up_same]; exact o.kpn k (by simpa using o.th.nk td rfl)
    · rw [up_ne hz]; exact (h.ho m hm).kpn k (by simpa using (h.ho m hm).th.nk td rfl)
  · rcases mem hm with rfl | ⟨hz, hm'⟩ <;> rcases mem hn with rfl | ⟨hz2, hn'⟩
    · rfl
    · rw [up_same, up_ne hz2] at eq; exact absurd eq.symm (nq n hn')
    · rw [up_same, up_ne hz] at eq; exact absurd eq (nq m hm')
    · rw [up_ne hz, up_ne hz2] at eq; exact h.inj m hm' n hn' eq
theorem many_k (n : Nat) (lo hi : Int) (h0 : 0 ≤ lo) (h : lo ≤ hi) : ∃ j : Nat, (if (if hi < (n : Int) then hi else (n : Int)) > lo then (if hi < (n : Int) then hi else (n : Int)) else lo) = (j : Int) ∧ lo ≤ j ∧ j ≤ hi := by
  refine ⟨(if (if hi < (n : Int) then hi else (n : Int)) > lo then (if hi < (n : Int) then hi else (n : Int)) else lo).toNat, ?_, ?_, ?_⟩ <;> (split <;> split <;> omega)
def sp_law (K : PySem.W.Frag) : Sp := sp1 fun x H Q _ => ∃ (a : Addr) (ns : List Int), x = .ref a ∧ SqL K H a (ns.map V.int) ∧ ns.length ≤ 63 ∧ ∀ H', Q (.bl true) H'
set_option maxHeartbeats 16000000 in
theorem ok_law (T : Tx K mg) : FnOk P w K mg base (L2.CX P w) 7 T.a_law T.d_law ["_law_script"] (sp_law K) := by
  have G_law_box := ok_law_box (P := P) (w := w) (base := base) T
  have G_law_names := ok_law_names (P := P) (w := w) (base := base) T
  have G_law_cell := ok_law_cell (P := P) (w := w) (base := base) T
  have G_Keeper_init := ok_Keeper_init (P := P) (w := w) (base := base) T
  have G_Holder_init := ok_Holder_init (P := P) (w := w) (base := base) T
  have G_law_take := ok_law_take (P := P) (w := w) (base := base) T
  have G_Keeper_locked := ok_Keeper_locked (P := P) (w := w) (base := base) T
  have G_Keeper_is_open := ok_Keeper_is_open (P := P) (w := w) (base := base) T
  have G_law_come := ok_law_come (P := P) (w := w) (base := base) T
  have G_law_done := ok_law_done (P := P) (w := w) (base := base) T
  have G_law_safe := ok_law_safe (P := P) (w := w) (base := base) T
  have G_Holder_right := ok_Holder_right (P := P) (w := w) (base := base) T
  have G_Holder_seen := ok_Holder_seen (P := P) (w := w) (base := base) T
  have G_Keeper_times := ok_Keeper_times (P := P) (w := w) (base := base) T
  refine T.F_law.okX sc_law (fun vs H Q E h => ?_) (fun cd A o s H vs Q E hr h => ?_)
  · obtain ⟨v0, rfl, h⟩ := h; rfl
  obtain ⟨v0, rfl, h⟩ := h
  obtain ⟨a, cs, rfl, hS, hl63, k⟩ := h
  refine ⟨_, (pss_cons (ps_set (i := 1) sc_law.nd rfl (Or.inl rfl) (pe_co G_law_box (hr.mono (by decide)) rfl T.m_law_box T.F_law_box.kp T.B_law_box (takes_of (E := E) rfl rfl rfl rfl) (pa_cons (pe_co G_law_cell (hr.mono (by decide)) rfl T.m_law_cell T.F_law_cell.kp T.B_law_cell (takes_of (E := E) rfl rfl rfl rfl) (pa_cons (pv 0) (pa_cons pe_int pa_nil))) pa_nil)))
    (pss_cons (ps_set (i := 2) sc_law.nd rfl (Or.inl rfl) (pe_co G_law_names (hr.mono (by decide)) rfl T.m_law_names T.F_law_names.kp T.B_law_names (takes_of (E := E) rfl rfl rfl rfl) (pa_cons (pv 1) (pa_cons (pe_op (o_add (K := K) rfl) pe_int (pe_co G_law_take (hr.mono (by decide)) rfl T.m_law_take T.F_law_take.kp T.B_law_take (takes_of (E := E) rfl rfl rfl rfl) (pa_cons (pv 1) (pa_cons pe_int pa_nil)))) pa_nil))))
    (pss_cons (ps_set (i := 3) sc_law.nd rfl (Or.inr rfl) (pe_dd (pps_cons pe_str (pe_nw0 T.mk_Keeper G_Keeper_init (hr.mono (by decide)) rfl T.m_Keeper T.B_Keeper_init (takes_of (E := E) rfl rfl rfl rfl)) (pps_cons pe_str pe_dnewK (pps_cons pe_str (pe_lst pa_nil) (pps_cons pe_str pe_non pps_nil)))) rfl rfl (by simp) (by decide)))
    (pss_cons (ps_for PassesOwn.leaving rfl (pi_lst (K := K) rfl (pv 2)) (pg_name (i := 4) sc_law.nd rfl (Or.inl rfl))
    (pss_one (ps_asg (pe_nw0 T.mk_Holder G_Holder_init (hr.mono (by decide)) rfl T.m_Holder T.B_Holder_init (takes_of (E := E) rfl rfl rfl rfl)) (pg_sub (pe_dg hr (pv 3) pe_str (fun _ _ => rfl)) (pv 4) (set_u hr)))))
    (pss_cons (ps_for PassesOwn.leaving rfl (pi_range2 rfl T.z_range (pa_cons pe_int (pa_cons (pe_callB (c_max rfl) rfl T.z_max bt_max (pa_cons pe_int (pa_cons (pe_callB (c_min rfl) rfl T.z_min bt_min (pa_cons (pe_callB (c_len (K := K) rfl) rfl T.z_len bt_len (pa_cons (pv 0) pa_nil)) (pa_cons pe_int pa_nil))) pa_nil))) pa_nil))) (pg_name (i := 5) sc_law.nd rfl (Or.inl rfl))
    (pss_cons (ps_set (i := 1) sc_law.nd rfl (Or.inl rfl) (pe_co G_law_box (hr.mono (by decide)) rfl T.m_law_box T.F_law_box.kp T.B_law_box (takes_of (E := E) rfl rfl rfl rfl) (pa_cons (pe_co G_law_cell (hr.mono (by decide)) rfl T.m_law_cell T.F_law_cell.kp T.B_law_cell (takes_of (E := E) rfl rfl rfl rfl) (pa_cons (pv 0) (pa_cons (pv 5) pa_nil))) pa_nil)))
    (pss_cons (ps_for PassesOwn.leaving rfl (pi_range1 rfl T.z_range (pa_cons (pe_op (o_add (K := K) rfl) pe_int (pe_co G_law_take (hr.mono (by decide)) rfl T.m_law_take T.F_law_take.kp T.B_law_take (takes_of (E := E) rfl rfl rfl rfl) (pa_cons (pv 1) (pa_cons pe_int pa_nil)))) pa_nil)) (pg_name (i := 6) sc_law.nd rfl (Or.inl rfl))
    (pss_one (ps_if (PW.pt (pw_or (pt_not (pt_val (pe_co G_law_done (hr.mono (by decide)) rfl T.m_law_done T.F_law_done.kp T.B_law_done (takes_of (E := E) rfl rfl rfl rfl) (pa_cons (pv 1) (pa_cons (pv 3) (pa_cons (pv 2) pa_nil)))))) (pw_or1 (pt_not (pt_val (pe_co G_law_safe (hr.mono (by decide)) rfl T.m_law_safe T.F_law_safe.kp T.B_law_safe (takes_of (E := E) rfl rfl rfl rfl) (pa_cons (pv 3) pa_nil)))))))
    (pss_one (ps_ret pe_bl))
    pss_nil)))
    (pss_cons (ps_set (i := 7) sc_law.nd rfl (Or.inl rfl) (pe_lst (pa_cons (pe_mo0 T.cl_Keeper T.M_Keeper_locked G_Keeper_locked (hr.mono (by decide)) T.B_Keeper_locked (takes_of (E := E) rfl rfl rfl rfl) (pe_dg hr (pv 3) pe_str (fun _ _ => rfl))) (pa_cons (pe_mo0 T.cl_Keeper T.M_Keeper_is_open G_Keeper_is_open (hr.mono (by decide)) T.B_Keeper_is_open (takes_of (E := E) rfl rfl rfl rfl) (pe_dg hr (pv 3) pe_str (fun _ _ => rfl))) pa_nil))))
    (pss_cons (ps_expr (pe_bm PySem.F.plainAttrs_list PySem.F.slot_list_extend PySem.F.type_list_extend mt_extend (pv 7) (pa_cons (pe_lock (pe_lc (own := [("_law_one", 12)]) rfl sc_law.nd (pi_values (pe_dg hr (pv 3) pe_str (fun _ _ => rfl))) (blkOk_by (own := [("_law_one", 12)]) (N := N_law) (sc := defScope s_law) (by decide +kernel)) (fun _ _ _ _ _ => (pg_name (i := 12) sc_law.nd rfl (Or.inl rfl))) (fun _ _ _ _ _ => pts_nil) (fun _ _ _ _ _ => (pe_lst (pa_cons (pe_mo0 T.cl_Holder T.M_Holder_right G_Holder_right (hr.mono (by decide)) T.B_Holder_right takes0 (pv 12)) (pa_cons (pe_mo0 T.cl_Holder T.M_Holder_seen G_Holder_seen (hr.mono (by decide)) T.B_Holder_seen takes0 (pv 12)) pa_nil)))))) pa_nil)))
    (pss_cons (ps_setLc (i := 8) (own := [("_law_at", 9), ("_law_word", 11)]) rfl sc_law.nd rfl rfl (sw_true rfl rfl rfl (by decide +kernel)) (pi_enumL (K := K) rfl rfl T.z_enumerate (pa_cons (pe_dg hr (pv 3) pe_str (fun _ _ => rfl)) pa_nil)) (blkOk_by (own := [("_law_at", 9), ("_law_word", 11)]) (N := N_law) (sc := defScope s_law) (by decide +kernel)) (fun _ _ _ _ _ => (pg_tupK (K := K) (n := 2) rfl rfl (pgs_cons (pg_name (i := 9) sc_law.nd rfl (Or.inl rfl)) (pgs_cons (pg_name (i := 11) sc_law.nd rfl (Or.inl rfl)) pgs_nil)))) (fun _ _ _ _ _ => (pts_one (pt_cmpR o_lt (pe_ix (ix_u (K := K) rfl) (pv 11) pe_int (fun _ _ => rfl)) (pe_mo0 T.cl_Keeper T.M_Keeper_times G_Keeper_times (hr.mono (by decide)) T.B_Keeper_times takes0 (pe_dg hr (pv 3) pe_str (fun _ _ => rfl))) (nomark _)))) (fun _ _ _ _ _ => (pv 9)))
    (pss_cons (ps_for PassesOwn.leaving rfl (pi_lst (K := K) rfl (pe_slice (sl_u (K := K) rfl) (pv 8) (po_some (pe_un un_neg pe_int)) po_none)) (pg_name (i := 9) sc_law.nd rfl (Or.inl rfl))
    (pss_one (ps_if (pt_not (pt_val (pe_co G_law_come (hr.mono (by decide)) rfl T.m_law_come T.F_law_come.kp T.B_law_come (takes_of (E := E) rfl rfl rfl rfl) (pa_cons (pv 3) (pa_cons (pv 9) pa_nil)))))
    (pss_one (ps_ret pe_bl))
    pss_nil)))
    (pss_cons (ps_set (i := 10) sc_law.nd rfl (Or.inl rfl) (pe_lst (pa_cons (pe_mo0 T.cl_Keeper T.M_Keeper_locked G_Keeper_locked (hr.mono (by decide)) T.B_Keeper_locked (takes_of (E := E) rfl rfl rfl rfl) (pe_dg hr (pv 3) pe_str (fun _ _ => rfl))) (pa_cons (pe_mo0 T.cl_Keeper T.M_Keeper_is_open G_Keeper_is_open (hr.mono (by decide)) T.B_Keeper_is_open (takes_of (E := E) rfl rfl rfl rfl) (pe_dg hr (pv 3) pe_str (fun _ _ => rfl))) pa_nil))))
    (pss_cons (ps_expr (pe_bm PySem.F.plainAttrs_list PySem.F.slot_list_extend PySem.F.type_list_extend mt_extend (pv 10) (pa_cons (pe_lock (pe_lc (own := [("_law_one", 12)]) rfl sc_law.nd (pi_values (pe_dg hr (pv 3) pe_str (fun _ _ => rfl))) (blkOk_by (own := [("_law_one", 12)]) (N := N_law) (sc := defScope s_law) (by decide +kernel)) (fun _ _ _ _ _ => (pg_name (i := 12) sc_law.nd rfl (Or.inl rfl))) (fun _ _ _ _ _ => pts_nil) (fun _ _ _ _ _ => (pe_lst (pa_cons (pe_mo0 T.cl_Holder T.M_Holder_right G_Holder_right (hr.mono (by decide)) T.B_Holder_right takes0 (pv 12)) (pa_cons (pe_mo0 T.cl_Holder T.M_Holder_seen G_Holder_seen (hr.mono (by decide)) T.B_Holder_seen takes0 (pv 12)) pa_nil)))))) pa_nil)))
    (pss_one (ps_if (pt_cmpR (o_ne (K := K) rfl hr) (pv 10) (pv 7) (nomark _))
    (pss_one (ps_ret pe_bl))
    pss_nil)))))))))))
    (pss_one (ps_ret pe_bl))))))), ?_⟩
  rw [st_law]
  walk_at "u"
  walk_at "cl"
  intro q0
  walk_at "u"
  refine c_box fun p H1 f1 k1 B1 => ?_
  walk_at "u"
  walk_at "tk"
  intro d H2 d0 d1 B2 k2
  walk_at "u"
  obtain ⟨m, em, m1, m2⟩ : ∃ m : Nat, 1 + d = (m : Int) ∧ 1 ≤ m ∧ m ≤ 2 := ⟨(1 + d).toNat, by omega, by omega, by omega⟩
  refine ⟨_, _, rfl, p, 1, m, rfl, by rw [em], by omega, B2, by omega, fun nl zs H3 f3 e3 hz hss B3 k3 => ?_⟩
  walk_at "u"
  refine s_dd fun sd H4 f4 e4 k4 => ?_
  walk_at "u"
  intro kp dx H5 f5 e5 k5
  refine ⟨_, rfl, kp, dx, rfl, e5, fun H6 K6 k6 => ⟨rfl, ?_⟩⟩
  have t6 := K6.th
  walk_at "u"
  refine s_dnew fun hd H7 f7 e7 k7 => ?_
  walk_at "u"
  walk_at "na"
  intro wl H8 f8 e8 k8
  walk_at "u"
  refine s_ddk (kvs := kst ⟨sd, kp, hd, wl⟩ .non) (by walk_at "g") rfl (by simp) rfl fun H9 e9 k9 => ?_
  walk_at "u"
  have nks : kp ≠ sd := by walk_at "ne"
  have s9 : Ss T H9 ⟨sd, kp, hd, wl⟩ [] (fun _ => sd) S0 :=
    ⟨⟨.non, e9, rfl⟩, ((K6.kpn k7 (by simp)).kpn k8 (by simp)).kpn k9 (by simpa using nks), by show H9 hd = some (.dK []); walk_at "g", fun n hn => (by cases hn), ⟨[], by show H9 wl = some (.lst []); walk_at "g", rfl, fun i w e => by simp at e⟩, fun m hm => (by cases hm), by show sd ≠ hd; walk_at "ne"⟩
  have e39 : H9 nl = some (.lst (zs.map V.str)) := by walk_at "g"
  have z9 : Kz [] H H9 := ⟨by walk_at "k"⟩
  have fsd : Fz H sd := ⟨by walk_at "f"⟩
  have fkp : Fz H kp := ⟨by walk_at "f"⟩
  have fhd : Fz H hd := ⟨by walk_at "f"⟩
  have fwl : Fz H wl := ⟨by walk_at "f"⟩
  have nlw : nl ≠ wl := by walk_at "ne"
  have nlh : nl ≠ hd := by walk_at "ne"
  obtain ⟨z9⟩ := z9
  obtain ⟨fsd⟩ := fsd
  obtain ⟨fkp⟩ := fkp
  obtain ⟨fhd⟩ := fhd
  obtain ⟨fwl⟩ := fwl
  clear k1 k2 k3 k4 k5 k6 k7 k8 k9 K6 e4 e5 e7 e8 e9 e3 B1 B2 B3 f1 f4 f5 f7 f8 t6 nks
  generalize hF : (⟨sd, kp, hd, wl⟩ : Fo) = F at s9
  obtain rfl : F.sd = sd := by rw [← hF]
  obtain rfl : F.kp = kp := by rw [← hF]
  obtain rfl : F.hd = hd := by rw [← hF]
  obtain rfl : F.wl = wl := by rw [← hF]
  clear hF
  refine s_ilst (SqL.of e39) ?_
  refine for_L e39 (fun i σ H' => (∃ ns ad, Ss T H' F ns ad S0 ∧ ns.Nodup ∧ (∀ z ∈ zs.take i, z ∈ ns) ∧ (∀ n ∈ ns, n ∈ zs) ∧ (∀ n ∈ ns, H (ad n) = none) ∧ ns.length ≤ i) ∧ Kp [F.hd] H9 H' ∧ ∃ u4, σ = [some (.ref a), some (.ref p), some (.ref nl), some (.ref F.sd), u4, none, none, none, none, none, none, none, none])
    ⟨⟨[], _, s9, List.nodup_nil, by simp, by simp, by simp, by simp⟩, Kp.refl, _, rfl⟩ (fun i σ' H' p o e => p.2.1.get e (by simpa using nlh)) ?_ ?_
  · rintro i x σ H1 ex ⟨⟨ns, ad, s1, nd, hzn, hnz, hfr, hnl⟩, k1, u4, rfl⟩
    rw [List.getElem?_map] at ex
    obtain ⟨z, ez, rfl⟩ := Option.map_eq_some_iff.mp ex
    obtain ⟨U, eU, vU⟩ := s1.us
    walk_at "u"
    intro h dx H2 f2 e2 k2
    refine ⟨_, rfl, h, dx, rfl, e2, fun H3 O3 k3 => ⟨rfl, ?_⟩⟩
    have kz : Kp [] H1 H3 := (k2.nil.trans k3).drop f2
    have s3 := s1.kp0 kz
    have eU3 := kz.get0 eU
    have nh : ∀ n ∈ ns, ad n ≠ h := fun n hn => (s1.ho n hn).th.ne f2
    have fh : H h = none := z9.fresh0 (k1.dom _ f2)
    walk_at "u"
    refine s_uds s3.hd (zlt (by rw [List.length_map]; have := (List.getElem?_eq_some_iff.mp ez).1; omega)) rfl fun H4 e4 k4 => ?_
    have s4 := s3.addH nh O3 k4 e4
    refine ⟨⟨_, _, s4, ?_, ?_, ?_, ?_, ?_⟩, (k1.trans kz.nil).trans k4, _, rfl⟩
    · split
      · exact nd
      · rename_i hz2
        exact List.nodup_append.mpr ⟨nd, by simp, fun x hx y hy e => hz2 (by rw [← List.mem_singleton.mp hy, ← e]; exact hx)⟩
    · intro y hy
      rw [List.take_add_one, ez] at hy
      rcases List.mem_append.mp hy with hy | hy
      · split
        · exact hzn y hy
        · exact List.mem_append_left _ (hzn y hy)
      · obtain rfl : y = z := by simpa using hy
        split
        · assumption
        · simp
    · intro n hn
      split at hn
      · exact hnz n hn
      · rcases List.mem_append.mp hn with hn | hn
        · exact hnz n hn
        · rw [List.mem_singleton.mp hn]; exact List.mem_of_getElem? ez
    · intro n hn
      by_cases e : n = z
      · rw [e, up_same]; exact fh
      · rw [up_ne e]
        refine hfr n ?_
        split at hn
        · exact hn
        · rcases List.mem_append.mp hn with hn | hn
          · exact hn
          · exact absurd (List.mem_singleton.mp hn) e
    · split
      · omega
      · simp only [List.length_append, List.length_singleton]; omega
  rintro σ H10 ⟨⟨ns, ad, s10, nd, hzn, hnz, hfr, hnl⟩, k10, u4, rfl⟩
  rw [List.length_map] at hzn hnl
  rw [List.take_length] at hzn
  have e310 : H10 nl = some (.lst (zs.map V.str)) := k10.get e39 (by simpa using nlh)
  have z10 : Kp [] H H10 := z9.step k10 (by simpa using fhd)
  have hss' : ∀ n ∈ ns, SS n 20 := fun n hn => hss n (hnz n hn)
  have ffp : ∀ q ∈ F.fp ns ad, q ∈ ([] : List Addr) ∨ H q = none := by
    intro q hq
    simp only [Fo.fp, List.mem_cons, List.mem_map] at hq
    rcases hq with rfl | rfl | rfl | ⟨n, hn, rfl⟩
    · exact Or.inr fsd
    · exact Or.inr fkp
    · exact Or.inr fwl
    · exact Or.inr (hfr n hn)
  clear s9 z9 k10 e39
  walk_at "u"
  refine s_lenL (SqL.kpn z10 hS (by simp)) ?_
  walk_at "u"
  rw [List.length_map]
  obtain ⟨j, ej, hj2, hj⟩ := many_k cs.length 3 61 (by omega) (by omega)
  rw [ej]
  refine s_rn2 (by omega) ?_
  refine for_R (fun i σ H' => (∃ S, Ss T H' F ns ad S ∧ Good ns S ∧ S.t ≤ 5 * i ∧ S.ws.length ≤ 5 * i) ∧ Kp [] H H' ∧ H' nl = some (.lst (zs.map V.str)) ∧ ∃ u1 u4 u5 u6 u7 u8 u9 u10 u11 u12, σ = [some (.ref a), u1, some (.ref nl), some (.ref F.sd), u4, u5, u6, u7, u8, u9, u10, u11, u12])
    ⟨⟨S0, s10, start_good ns, by simp, by simp⟩, z10, e310, _, _, _, _, _, _, _, _, _, _, rfl⟩ ?_ ?_
  rotate_left
  · rintro σ H1 ⟨_, _, _, u1, u4, u5, u6, u7, u8, u9, u10, u11, u12, rfl⟩
    walk_at "u"
    exact k _
  clear s10 z10 e310
  rintro i σ H1 hi ⟨⟨S, s1, g1, t1, w1⟩, z1, en1, u1, u4, u5, u6, u7, u8, u9, u10, u11, u12, rfl⟩
  walk_at "u"
  refine c_cell (SqL.kpn z1 hS (by simp)) (by omega) (by omega) ?_
  intro q1
  walk_at "u"
  refine c_box fun p H2 f2 k2 B2 => ?_
  have npw : p ≠ F.wl := (s1.twl.ne f2).symm
  have nlp : nl ≠ p := fun z => by rw [z, f2] at en1; cases en1
  have fp : H p = none := z1.fresh0 f2
  walk_at "u"
  walk_at "tk"
  intro d3 H3 d30 d31 B3 k3
  walk_at "u"
  refine s_rng (by omega) (by omega) ?_
  have k23 : Kp [p] H1 H3 := k2.nil.trans k3
  have s3 := (s1.kp0 k2).kpb k3 B2.th npw
  refine for_R (fun i' σ H' => (∃ S, Ss T H' F ns ad S ∧ Good ns S ∧ S.t ≤ 5 * i + i' ∧ S.ws.length ≤ 5 * i + i') ∧ Box H' p (1 + 4 * i') ∧ Kp [] H H' ∧ H' nl = some (.lst (zs.map V.str)) ∧ ∃ u6, σ = [some (.ref a), some (.ref p), some (.ref nl), some (.ref F.sd), u4, some (.int (1 + (i : Int))), u6, u7, u8, u9, u10, u11, u12])
    ⟨⟨S, s3, g1, by simpa using t1, by simpa using w1⟩, B3, z1.step k23 (by simpa using fp), k23.get en1 (by simpa using nlp), _, rfl⟩ ?_ ?_
  · clear s1 g1 t1 w1 z1 en1 f2 k2 B2 B3 k3 k23 s3
    rintro i' σ H1 hi' ⟨⟨S, s1, g1, t1, w1⟩, B1, z1, en1, u6, rfl⟩
    walk_at "u"
    refine ⟨_, _, _, rfl, p, nl, _, F, ns, ad, S, zs, rfl, rfl, rfl, B1, by omega, en1, by omega, by omega, hzn, s1, g1, by omega, by omega, npw, nlp, fun H2 S2 s2 g2 t2 w2 B2 k2 => ?_⟩
    have z2 : Kp [] H H2 := z1.step k2 (fun q hq => (List.mem_cons.mp hq).elim (fun e => Or.inr (e ▸ fp)) (ffp q))
    have en2 : H2 nl = some (.lst (zs.map V.str)) := k2.get en1 (fun m => (List.mem_cons.mp m).elim nlp (s1.fpn (.lst en1) nlw))
    walk_at "u"
    refine ⟨_, rfl, F, ns, ad, S2, rfl, s2, g2, nd, by omega, hss', fun H3 k3 => ?_⟩
    walk_at "u"
    exact ⟨⟨S2, s2.kp0 k3, g2, by omega, by omega⟩, Box.more (n := 1 + 4 * i' + 4) (B2.kpn k3 (by simp)) (by omega), z2.trans k3, k3.get0 en2, _, rfl⟩
  clear s1 g1 t1 w1 z1 en1 f2 k2 B2 B3 k3 k23 s3 S
  rintro σ H1 ⟨⟨S, s1, g1, t1, w1⟩, _, z1, en1, u6, rfl⟩
  have t5 : S.t ≤ 5 * (i + 1 : Nat) := by omega
  have w5 : S.ws.length ≤ 5 * (i + 1) := by omega
  have sB1 := s1
  obtain ⟨U1, eU1, vU1⟩ := sB1.us
  obtain ⟨SV1, ak1, vS1⟩ := id sB1.kp
  walk_at "u"
  refine ⟨_, rfl, F.kp, _, SV1, _, rfl, ak1, ?_⟩
  walk_at "u"
  refine ⟨_, rfl, F.kp, _, SV1, _, rfl, ak1, ?_⟩
  walk_at "u"
  walk_at "na"
  intro tl1 HA1 fA1 eA1 kA1
  have sA1 := sB1.kp0 kA1
  have ehA1 := sA1.hd
  walk_at "u"
  refine s_lockE ehA1 trivial (fun xs z => by cases z) fun od1 HC1 eC1 lk1 kp1 => ?_
  have eUC1 := lk1.keep _ _ sA1.ne (kA1.get0 eU1)
  have hhC1 : ∀ n ∈ ns, ∃ R N, At_Holder T HC1 (ad n) (.int (S.g n)) R N ∧ VisO HA1 R (S.r n) ∧ VisO HC1 R (S.r n) := fun n hn => by
    obtain ⟨R, N, ⟨dx, ea⟩, vR⟩ := sA1.ho n hn
    refine ⟨R, N, ⟨dx, lk1.keep _ _ (fun z => ?_) ea⟩, vR, ?_⟩
    · rw [z, ehA1] at ea; cases ea
    · cases er : S.r n with
      | none => rw [er] at vR; exact vR
      | some q =>
        rw [er] at vR
        obtain ⟨b, eb, tb⟩ := vR
        exact ⟨b, eb, lk1.keep _ _ (fun z => by rw [z, ehA1] at tb; cases tb) tb⟩
  walk_at "u"
  refine s_ivals ?_
  walk_at "u"
  refine s_frzd eC1 ?_
  intro D1 hD1
  have nhD1 : F.hd ≠ D1 := fun z => by rw [← z, eC1] at hD1; cases hD1
  have hDA1 := lk1.none_ D1 hD1
  have ntD1 : tl1 ≠ D1 := fun z => by rw [← z, eA1] at hDA1; cases hDA1
  refine lc_V eC1 hD1 (fun i acc H' => Kp [D1] HC1 H' ∧ DnA K (hid (tl1 :: D1 :: F.hd :: F.fp ns ad) H') acc ((ns.take i).map (tw S))) (fun H3 e3 k3 => ⟨by walk_at "k", .nil⟩) ?_ ?_ ?_
  · rintro i acc H3 ⟨k3, _⟩ o eo
    exact k3.get eo (by simpa using nhD1)
  · rintro i kk x acc H3 ex e3 ⟨k3, r3⟩
    obtain ⟨n, en, rfl, rfl⟩ := khd_at ex
    have hn := List.mem_of_getElem? en
    have hi : i < ns.length := (List.getElem?_eq_some_iff.mp en).1
    obtain ⟨R, N, ah, vA, vC⟩ := hhC1 n hn
    walk_at "u"
    refine ⟨rfl, ?_⟩
    walk_at "u"
    refine ⟨_, rfl, ad n, _, _, _, rfl, by walk_at "g", ?_⟩
    walk_at "u"
    refine ⟨_, rfl, ad n, _, _, _, rfl, by walk_at "g", ?_⟩
    walk_at "u"
    walk_at "na"
    intro a4 H4 f4 e4 k4
    have hal : acc.length ≤ i := by
      have := dna_len r3
      rw [this, List.length_map, List.length_take]
      omega
    refine PvD.add (by walk_at "g") (by omega) fun H5 e5 k5 => ⟨by walk_at "k", ?_⟩
    have fa : HA1 a4 = none := lk1.none_ a4 (k3.dom _ f4)
    have na4D : a4 ≠ D1 := fun z => by rw [z, e3] at f4; cases f4
    have na4 : a4 ∉ (tl1 :: D1 :: F.hd :: F.fp ns ad) := by
      simp only [List.mem_cons, not_or]
      exact ⟨fun z => (by rw [z, eA1] at fa; cases fa), na4D, fun z => (by rw [z, ehA1] at fa; cases fa), sA1.fpf fa⟩
    have v5 : VisO H5 R (S.r n) := ((vC.kpn k3).kpn k4).kpn k5
    rw [List.take_add_one, en]
    simp only [Option.toList, List.map_append, List.map_cons, List.map_nil]
    refine ((r3.kp (hid_kp k4 (by simp))).kp (hid_kp k5 (by simp))).app (.cons (.lst (Or.inl (hid_of (k5.get1 e4 na4D) na4)) (.cons (opt_dn v5 fun b eb => ?_) (.cons (.int _) .nil))) .nil)
    have tb := vA.t1 eb
    simp only [List.mem_cons, not_or]
    exact ⟨tb.nk (.lst eA1) rfl, tb.ne hDA1, tb.nk sA1.thd rfl, sA1.fpt tb⟩
  rintro acc1 H31 e31 ⟨k31, r31⟩
  rw [show (khd ns ad).length = ns.length from List.length_map _, List.take_length] at r31
  have kq1 : Kp [] HC1 H31 := k31.drop hD1
  have k91 := kp1 H31 kq1
  have e91 : upd H31 F.hd (.dK (khd ns ad)) D1 = some (.lst acc1) := by rw [upd_ne nhD1.symm]; exact e31
  rw [← hid_upd (d := F.hd) (u := .dK (khd ns ad)) (by simp)] at r31
  walk_at "u"
  refine ⟨kq1.get0 eC1, ?_⟩
  generalize upd H31 F.hd (.dK (khd ns ad)) = H91 at k91 r31 e91 ⊢
  walk_at "u"
  have hal1 : acc1.length ≤ 10 := by
    have := dna_len r31
    rw [this, List.length_map]
    omega
  refine s_ext (k91.get0 eA1) e91 (zle (by simp only [List.length_cons, List.length_nil]; omega)) fun HT1 eT1 kT1 => ?_
  have kB1 : Kp [] H1 HT1 := (kA1.trans k91).step kT1 (by simpa using fA1)
  have sT1 := sB1.kp0 kB1
  have dT1 : Dx (F.hd :: F.fp ns ad) K HT1 (.ref tl1) (tdS S ns) := by
    refine .lst (Or.inl (hid_of eT1 ?_)) (.cons (opt_dn (vS1.kpn kB1) fun b eb => ?_) (.cons (.bl _) ((r31.kp (hid_kp kT1 (by simp))).kp (hid_sub fun q hq => List.mem_cons_of_mem _ (List.mem_cons_of_mem _ hq)))))
    · simp only [List.mem_cons, not_or]
      exact ⟨fun z => (by rw [z, sB1.hd] at fA1; cases fA1), sB1.fpf fA1⟩
    · have tb := vS1.t1 eb
      simp only [List.mem_cons, not_or]
      exact ⟨tb.nk sB1.thd rfl, sB1.fpt tb⟩
  clear eA1 kA1 sA1 ehA1 lk1 kp1 eUC1 hhC1 eC1 hD1 nhD1 hDA1 ntD1 e31 k31 r31 kq1 k91 e91 kT1
  have z2 : Kp [] H HT1 := z1.trans kB1
  have en2 := kB1.get0 en1
  clear s1 z1 en1 sB1 ak1 vS1 eU1 vU1
  obtain ⟨U, eU, vU⟩ := sT1.us
  obtain ⟨vs, ew, hws⟩ := sT1.wl
  obtain ⟨SV, ak, vS⟩ := id sT1.kp
  walk_at "u"
  intro E hE
  refine lc_eL ew hE (fun i acc H' => Kp [E] HT1 H' ∧ ∃ js : List Nat, acc = js.map (fun (j : Nat) => V.int j) ∧ js.length ≤ i ∧ ∀ j ∈ js, ∃ w, S.ws[j]? = some w ∧ w.2.1 < S.t)
    (fun H3 e3 k3 => ⟨by walk_at "k", [], rfl, by simp, by simp⟩) ?_ ?_ ?_
  · rintro i' acc H3 ⟨k3, _⟩ o eo
    exact k3.get eo (by simpa using fun z => by rw [← z, ew] at hE; cases hE)
  · rintro i' x acc H3 A H4 ex e3 ⟨k3, js, rfl, hjl, hjs⟩ f4 e4 k4
    have hi2 : i' < vs.length := (List.getElem?_eq_some_iff.mp ex).1
    obtain ⟨w, hw⟩ : ∃ w, S.ws[i']? = some w := ⟨_, List.getElem?_eq_getElem (by rw [← hws.1]; exact hi2)⟩
    obtain ⟨b, eb, tb⟩ := hws.2 i' w hw
    rw [ex] at eb
    obtain rfl := Option.some.inj eb
    walk_at "u"
    refine ⟨rfl, ?_⟩
    walk_at "u"
    refine ⟨_, rfl, F.kp, _, _, _, rfl, by walk_at "g", ?_⟩
    walk_at "u"
    have hlv : vs.length ≤ 5 * (i + 1) := by rw [hws.1]; exact w5
    refine s_ite (fun h1 => ?_) (fun h1 => ?_)
    · walk_at "u"
      refine PvD.add (acc := js.map (fun (j : Nat) => V.int j)) (by walk_at "g") (by simp only [List.length_map]; omega) fun H5 e5 k5 => ⟨by walk_at "k", js ++ [i'], by simp, by simp only [List.length_append, List.length_singleton]; omega, fun j hj => ?_⟩
      rcases List.mem_append.mp hj with hj | hj
      · exact hjs j hj
      · rw [List.mem_singleton.mp hj]; exact ⟨w, hw, h1⟩
    · exact ⟨_, by walk_at "g", by walk_at "k", js, rfl, by omega, hjs⟩
  rintro acc H3 e3 ⟨k3, js, rfl, hjl, hjs⟩
  have k33 : Kp [] HT1 H3 := k3.drop hE
  walk_at "u"
  refine s_sll (SqL.of e3) fun l4 H4 f4 e4 k4 => ?_
  walk_at "u"
  have k34 : Kp [] HT1 H4 := k33.trans k4
  have s4 := sT1.kp0 k34
  have dx4 := Dx.kpn dT1 k34 (by simp)
  have z4 := z2.trans k34
  have en4 := k34.get0 en2
  have n4w : l4 ≠ F.wl := fun z => by rw [z, k33.get0 ew] at f4; cases f4
  clear k3 k33 k34 k4 e3 dT1 sT1 z2 en2 f4 hE ak vS eU vU ew hws kB1
  refine s_ilst (SqL.of e4) ?_
  refine for_L e4 (fun i' σ H' => Ss T H' F ns ad S ∧ Kp (F.fp ns ad) H4 H' ∧ ∃ u9, σ = [some (.ref a), some (.ref p), some (.ref nl), some (.ref F.sd), u4, some (.int (1 + (i : Int))), u6, some (.ref tl1), some (.ref E), u9, u10, u11, u12])
    ⟨s4, Kp.refl, _, rfl⟩ (fun i σ' H' p o e => p.2.1.get e (s4.fpn (.lst e4) n4w)) ?_ ?_
  · rintro i' x σ H5 ex ⟨s5, k5, u9, rfl⟩
    have hx := cut_sub (List.mem_of_getElem? ex)
    obtain ⟨j', hj', rfl⟩ := List.mem_map.mp hx
    obtain ⟨w, hw, hwt⟩ := hjs j' hj'
    have hm := List.mem_of_getElem? hw
    walk_at "u"
    refine ⟨_, _, rfl, F, ns, ad, S, j', w, rfl, rfl, s5, g1, hw, by omega, fun H6 s6 k6 => ?_⟩
    rw [come_old g1 hm hwt] at s6
    walk_at "u"
    exact ⟨s6, k5.trans k6, _, rfl⟩
  rintro σ H5 ⟨s5, k5, u9, rfl⟩
  have dx5 := Dx.kpn dx4 k5 (fun q hq => Or.inl (List.mem_cons_of_mem _ hq))
  have z5 : Kp [] H H5 := z4.step k5 ffp
  have en5 := k5.get en4 (s4.fpn (.lst en4) nlw)
  clear s4 dx4 z4 en4 k5 e4
  have sB2 := s5
  obtain ⟨U2, eU2, vU2⟩ := sB2.us
  obtain ⟨SV2, ak2, vS2⟩ := id sB2.kp
  walk_at "u"
  refine ⟨_, rfl, F.kp, _, SV2, _, rfl, ak2, ?_⟩
  walk_at "u"
  refine ⟨_, rfl, F.kp, _, SV2, _, rfl, ak2, ?_⟩
  walk_at "u"
  walk_at "na"
  intro tl2 HA2 fA2 eA2 kA2
  have sA2 := sB2.kp0 kA2
  have ehA2 := sA2.hd
  walk_at "u"
  refine s_lockE ehA2 trivial (fun xs z => by cases z) fun od2 HC2 eC2 lk2 kp2 => ?_
  have eUC2 := lk2.keep _ _ sA2.ne (kA2.get0 eU2)
  have hhC2 : ∀ n ∈ ns, ∃ R N, At_Holder T HC2 (ad n) (.int (S.g n)) R N ∧ VisO HA2 R (S.r n) ∧ VisO HC2 R (S.r n) := fun n hn => by
    obtain ⟨R, N, ⟨dx, ea⟩, vR⟩ := sA2.ho n hn
    refine ⟨R, N, ⟨dx, lk2.keep _ _ (fun z => ?_) ea⟩, vR, ?_⟩
    · rw [z, ehA2] at ea; cases ea
    · cases er : S.r n with
      | none => rw [er] at vR; exact vR
      | some q =>
        rw [er] at vR
        obtain ⟨b, eb, tb⟩ := vR
        exact ⟨b, eb, lk2.keep _ _ (fun z => by rw [z, ehA2] at tb; cases tb) tb⟩
  walk_at "u"
  refine s_ivals ?_
  walk_at "u"
  refine s_frzd eC2 ?_
  intro D2 hD2
  have nhD2 : F.hd ≠ D2 := fun z => by rw [← z, eC2] at hD2; cases hD2
  have hDA2 := lk2.none_ D2 hD2
  have ntD2 : tl2 ≠ D2 := fun z => by rw [← z, eA2] at hDA2; cases hDA2
  refine lc_V eC2 hD2 (fun i acc H' => Kp [D2] HC2 H' ∧ DnA K (hid (tl2 :: D2 :: F.hd :: F.fp ns ad) H') acc ((ns.take i).map (tw S))) (fun H3 e3 k3 => ⟨by walk_at "k", .nil⟩) ?_ ?_ ?_
  · rintro i acc H3 ⟨k3, _⟩ o eo
    exact k3.get eo (by simpa using nhD2)
  · rintro i kk x acc H3 ex e3 ⟨k3, r3⟩
    obtain ⟨n, en, rfl, rfl⟩ := khd_at ex
    have hn := List.mem_of_getElem? en
    have hi : i < ns.length := (List.getElem?_eq_some_iff.mp en).1
    obtain ⟨R, N, ah, vA, vC⟩ := hhC2 n hn
    walk_at "u"
    refine ⟨rfl, ?_⟩
    walk_at "u"
    refine ⟨_, rfl, ad n, _, _, _, rfl, by walk_at "g", ?_⟩
    walk_at "u"
    refine ⟨_, rfl, ad n, _, _, _, rfl, by walk_at "g", ?_⟩
    walk_at "u"
    walk_at "na"
    intro a4 H4 f4 e4 k4
    have hal : acc.length ≤ i := by
      have := dna_len r3
      rw [this, List.length_map, List.length_take]
      omega
    refine PvD.add (by walk_at "g") (by omega) fun H5 e5 k5 => ⟨by walk_at "k", ?_⟩
    have fa : HA2 a4 = none := lk2.none_ a4 (k3.dom _ f4)
    have na4D : a4 ≠ D2 := fun z => by rw [z, e3] at f4; cases f4
    have na4 : a4 ∉ (tl2 :: D2 :: F.hd :: F.fp ns ad) := by
      simp only [List.mem_cons, not_or]
      exact ⟨fun z => (by rw [z, eA2] at fa; cases fa), na4D, fun z => (by rw [z, ehA2] at fa; cases fa), sA2.fpf fa⟩
    have v5 : VisO H5 R (S.r n) := ((vC.kpn k3).kpn k4).kpn k5
    rw [List.take_add_one, en]
    simp only [Option.toList, List.map_append, List.map_cons, List.map_nil]
    refine ((r3.kp (hid_kp k4 (by simp))).kp (hid_kp k5 (by simp))).app (.cons (.lst (Or.inl (hid_of (k5.get1 e4 na4D) na4)) (.cons (opt_dn v5 fun b eb => ?_) (.cons (.int _) .nil))) .nil)
    have tb := vA.t1 eb
    simp only [List.mem_cons, not_or]
    exact ⟨tb.nk (.lst eA2) rfl, tb.ne hDA2, tb.nk sA2.thd rfl, sA2.fpt tb⟩
  rintro acc2 H32 e32 ⟨k32, r32⟩
  rw [show (khd ns ad).length = ns.length from List.length_map _, List.take_length] at r32
  have kq2 : Kp [] HC2 H32 := k32.drop hD2
  have k92 := kp2 H32 kq2
  have e92 : upd H32 F.hd (.dK (khd ns ad)) D2 = some (.lst acc2) := by rw [upd_ne nhD2.symm]; exact e32
  rw [← hid_upd (d := F.hd) (u := .dK (khd ns ad)) (by simp)] at r32
  walk_at "u"
  refine ⟨kq2.get0 eC2, ?_⟩
  generalize upd H32 F.hd (.dK (khd ns ad)) = H92 at k92 r32 e92 ⊢
  walk_at "u"
  have hal2 : acc2.length ≤ 10 := by
    have := dna_len r32
    rw [this, List.length_map]
    omega
  refine s_ext (k92.get0 eA2) e92 (zle (by simp only [List.length_cons, List.length_nil]; omega)) fun HT2 eT2 kT2 => ?_
  have kB2 : Kp [] H5 HT2 := (kA2.trans k92).step kT2 (by simpa using fA2)
  have sT2 := sB2.kp0 kB2
  have dT2 : Dx (F.hd :: F.fp ns ad) K HT2 (.ref tl2) (tdS S ns) := by
    refine .lst (Or.inl (hid_of eT2 ?_)) (.cons (opt_dn (vS2.kpn kB2) fun b eb => ?_) (.cons (.bl _) ((r32.kp (hid_kp kT2 (by simp))).kp (hid_sub fun q hq => List.mem_cons_of_mem _ (List.mem_cons_of_mem _ hq)))))
    · simp only [List.mem_cons, not_or]
      exact ⟨fun z => (by rw [z, sB2.hd] at fA2; cases fA2), sB2.fpf fA2⟩
    · have tb := vS2.t1 eb
      simp only [List.mem_cons, not_or]
      exact ⟨tb.nk sB2.thd rfl, sB2.fpt tb⟩
  clear eA2 kA2 sA2 ehA2 lk2 kp2 eUC2 hhC2 eC2 hD2 nhD2 hDA2 ntD2 e32 k32 r32 kq2 k92 e92 kT2
  have z6 : Kp [] H HT2 := z5.trans kB2
  have en6 := kB2.get0 en5
  have dx6 := Dx.kpn dx5 kB2 (by simp)
  walk_at "u"
  refine s_neR (Dn.unhid dT2) (Dn.unhid dx6) (td_shp g1 hss') ?_
  walk_at "u"
  exact ⟨⟨S, sT2, g1, t5, w5⟩, z6, en6, _, _, _, _, _, _, _, _, _, _, rfl⟩

theorem all_mk {l : PySem.W.OpenLaw} {w : World} {K : PySem.W.Frag} {h : Heap} {mg : Str → Option Value} {fa : Addr} (X : K.In h) (G : h.Ns mainGlobals mg) (hfa : mg "law" = some (.ref fa))
    {C_Keeper : Addr} (n_Keeper : PySem.W.nsIn K mainGlobals "Keeper" = some (some (.ref C_Keeper)))
    {C_Holder : Addr} (n_Holder : PySem.W.nsIn K mainGlobals "Holder" = some (some (.ref C_Holder)))
    {C_NoNumber : Addr} (n_NoNumber : PySem.W.nsIn K mainGlobals "NoNumber" = some (some (.ref C_NoNumber)))
    {C_Shut : Addr} (n_Shut : PySem.W.nsIn K mainGlobals "Shut" = some (some (.ref C_Shut)))
    {C_NoRight : Addr} (n_NoRight : PySem.W.nsIn K mainGlobals "NoRight" = some (some (.ref C_NoRight)))
    {C_NotShut : Addr} (n_NotShut : PySem.W.nsIn K mainGlobals "NotShut" = some (some (.ref C_NotShut)))
    {C_StaffError : Addr} (n_StaffError : PySem.W.nsIn K mainGlobals "StaffError" = some (some (.ref C_StaffError)))
    {f1 : Addr} {od1 an1 : Option Addr} {sl1 : Array (Option Value)} {oc1 kV1 dc1 pm1 cd1 ct1 : Value}
    (a1 : PySem.W.findIn K (.ref C_NoNumber) "__init__" = some (some (.ref f1)))
    (l1 : K.lookup f1 = some ⟨oc1, od1, .func (PySem.W.fnOf "__init__" "NoNumber.__init__" (defArgs s_NoNumber_init) (defBody s_NoNumber_init) (defScope s_NoNumber_init) .none kV1 dc1 pm1 an1 cd1 ct1), sl1⟩) (c1 : PySem.W.codeIn K cd1 "NoNumber.__init__" = true) (k1 : PySem.W.keepIn K (.ref f1) = true)
    {f2 : Addr} {od2 an2 : Option Addr} {sl2 : Array (Option Value)} {oc2 kV2 dc2 pm2 cd2 ct2 : Value}
    (a2 : PySem.W.findIn K (.ref C_Shut) "__init__" = some (some (.ref f2)))
    (l2 : K.lookup f2 = some ⟨oc2, od2, .func (PySem.W.fnOf "__init__" "Shut.__init__" (defArgs s_Shut_init) (defBody s_Shut_init) (defScope s_Shut_init) .none kV2 dc2 pm2 an2 cd2 ct2), sl2⟩) (c2 : PySem.W.codeIn K cd2 "Shut.__init__" = true) (k2 : PySem.W.keepIn K (.ref f2) = true)
    {f3 : Addr} {od3 an3 : Option Addr} {sl3 : Array (Option Value)} {oc3 kV3 dc3 pm3 cd3 ct3 : Value}
    (a3 : PySem.W.findIn K (.ref C_NoRight) "__init__" = some (some (.ref f3)))
    (l3 : K.lookup f3 = some ⟨oc3, od3, .func (PySem.W.fnOf "__init__" "NoRight.__init__" (defArgs s_NoRight_init) (defBody s_NoRight_init) (defScope s_NoRight_init) .none kV3 dc3 pm3 an3 cd3 ct3), sl3⟩) (c3 : PySem.W.codeIn K cd3 "NoRight.__init__" = true) (k3 : PySem.W.keepIn K (.ref f3) = true)
    {f4 : Addr} {od4 an4 : Option Addr} {sl4 : Array (Option Value)} {oc4 kV4 dc4 pm4 cd4 ct4 : Value}
    (a4 : PySem.W.findIn K (.ref C_NotShut) "__init__" = some (some (.ref f4)))
    (l4 : K.lookup f4 = some ⟨oc4, od4, .func (PySem.W.fnOf "__init__" "NotShut.__init__" (defArgs s_NotShut_init) (defBody s_NotShut_init) (defScope s_NotShut_init) .none kV4 dc4 pm4 an4 cd4 ct4), sl4⟩) (c4 : PySem.W.codeIn K cd4 "NotShut.__init__" = true) (k4 : PySem.W.keepIn K (.ref f4) = true)
    {f5 : Addr} {od5 an5 : Option Addr} {sl5 : Array (Option Value)} {oc5 kV5 dc5 pm5 cd5 ct5 : Value}
    (a5 : PySem.W.nsIn K mainGlobals "is_whole" = some (some (.ref f5)))
    (l5 : K.lookup f5 = some ⟨oc5, od5, .func (PySem.W.fnOf "is_whole" "is_whole" (defArgs s_is_whole) (defBody s_is_whole) (defScope s_is_whole) .none kV5 dc5 pm5 an5 cd5 ct5), sl5⟩) (c5 : PySem.W.codeIn K cd5 "is_whole" = true) (k5 : PySem.W.keepIn K (.ref f5) = true)
    {f6 : Addr} {od6 an6 : Option Addr} {sl6 : Array (Option Value)} {oc6 kV6 dc6 pm6 cd6 ct6 : Value}
    (a6 : PySem.W.findIn K (.ref C_Keeper) "__init__" = some (some (.ref f6)))
    (l6 : K.lookup f6 = some ⟨oc6, od6, .func (PySem.W.fnOf "__init__" "Keeper.__init__" (defArgs s_Keeper_init) (defBody s_Keeper_init) (defScope s_Keeper_init) .none kV6 dc6 pm6 an6 cd6 ct6), sl6⟩) (c6 : PySem.W.codeIn K cd6 "Keeper.__init__" = true) (k6 : PySem.W.keepIn K (.ref f6) = true)
    {f7 : Addr} {od7 an7 : Option Addr} {sl7 : Array (Option Value)} {oc7 kV7 dc7 pm7 cd7 ct7 : Value}
    (a7 : PySem.W.findIn K (.ref C_Keeper) "lock" = some (some (.ref f7)))
    (l7 : K.lookup f7 = some ⟨oc7, od7, .func (PySem.W.fnOf "lock" "Keeper.lock" (defArgs s_Keeper_lock) (defBody s_Keeper_lock) (defScope s_Keeper_lock) .none kV7 dc7 pm7 an7 cd7 ct7), sl7⟩) (c7 : PySem.W.codeIn K cd7 "Keeper.lock" = true) (k7 : PySem.W.keepIn K (.ref f7) = true)
    {f8 : Addr} {od8 an8 : Option Addr} {sl8 : Array (Option Value)} {oc8 kV8 dc8 pm8 cd8 ct8 : Value}
    (a8 : PySem.W.findIn K (.ref C_Keeper) "locked" = some (some (.ref f8)))
    (l8 : K.lookup f8 = some ⟨oc8, od8, .func (PySem.W.fnOf "locked" "Keeper.locked" (defArgs s_Keeper_locked) (defBody s_Keeper_locked) (defScope s_Keeper_locked) .none kV8 dc8 pm8 an8 cd8 ct8), sl8⟩) (c8 : PySem.W.codeIn K cd8 "Keeper.locked" = true) (k8 : PySem.W.keepIn K (.ref f8) = true)
    {f9 : Addr} {od9 an9 : Option Addr} {sl9 : Array (Option Value)} {oc9 kV9 dc9 pm9 cd9 ct9 : Value}
    (a9 : PySem.W.findIn K (.ref C_Keeper) "is_this" = some (some (.ref f9)))
    (l9 : K.lookup f9 = some ⟨oc9, od9, .func (PySem.W.fnOf "is_this" "Keeper.is_this" (defArgs s_Keeper_is_this) (defBody s_Keeper_is_this) (defScope s_Keeper_is_this) .none kV9 dc9 pm9 an9 cd9 ct9), sl9⟩) (c9 : PySem.W.codeIn K cd9 "Keeper.is_this" = true) (k9 : PySem.W.keepIn K (.ref f9) = true)
    {f10 : Addr} {od10 an10 : Option Addr} {sl10 : Array (Option Value)} {oc10 kV10 dc10 pm10 cd10 ct10 : Value}
    (a10 : PySem.W.findIn K (.ref C_Keeper) "opens" = some (some (.ref f10)))
    (l10 : K.lookup f10 = some ⟨oc10, od10, .func (PySem.W.fnOf "opens" "Keeper.opens" (defArgs s_Keeper_opens) (defBody s_Keeper_opens) (defScope s_Keeper_opens) .none kV10 dc10 pm10 an10 cd10 ct10), sl10⟩) (c10 : PySem.W.codeIn K cd10 "Keeper.opens" = true) (k10 : PySem.W.keepIn K (.ref f10) = true)
    {f11 : Addr} {od11 an11 : Option Addr} {sl11 : Array (Option Value)} {oc11 kV11 dc11 pm11 cd11 ct11 : Value}
    (a11 : PySem.W.findIn K (.ref C_Keeper) "is_open" = some (some (.ref f11)))
    (l11 : K.lookup f11 = some ⟨oc11, od11, .func (PySem.W.fnOf "is_open" "Keeper.is_open" (defArgs s_Keeper_is_open) (defBody s_Keeper_is_open) (defScope s_Keeper_is_open) .none kV11 dc11 pm11 an11 cd11 ct11), sl11⟩) (c11 : PySem.W.codeIn K cd11 "Keeper.is_open" = true) (k11 : PySem.W.keepIn K (.ref f11) = true)
    {f12 : Addr} {od12 an12 : Option Addr} {sl12 : Array (Option Value)} {oc12 kV12 dc12 pm12 cd12 ct12 : Value}
    (a12 : PySem.W.findIn K (.ref C_Keeper) "let_go" = some (some (.ref f12)))
    (l12 : K.lookup f12 = some ⟨oc12, od12, .func (PySem.W.fnOf "let_go" "Keeper.let_go" (defArgs s_Keeper_let_go) (defBody s_Keeper_let_go) (defScope s_Keeper_let_go) .none kV12 dc12 pm12 an12 cd12 ct12), sl12⟩) (c12 : PySem.W.codeIn K cd12 "Keeper.let_go" = true) (k12 : PySem.W.keepIn K (.ref f12) = true)
    {f13 : Addr} {od13 an13 : Option Addr} {sl13 : Array (Option Value)} {oc13 kV13 dc13 pm13 cd13 ct13 : Value}
    (a13 : PySem.W.findIn K (.ref C_Keeper) "unlock" = some (some (.ref f13)))
    (l13 : K.lookup f13 = some ⟨oc13, od13, .func (PySem.W.fnOf "unlock" "Keeper.unlock" (defArgs s_Keeper_unlock) (defBody s_Keeper_unlock) (defScope s_Keeper_unlock) .none kV13 dc13 pm13 an13 cd13 ct13), sl13⟩) (c13 : PySem.W.codeIn K cd13 "Keeper.unlock" = true) (k13 : PySem.W.keepIn K (.ref f13) = true)
    {f14 : Addr} {od14 an14 : Option Addr} {sl14 : Array (Option Value)} {oc14 kV14 dc14 pm14 cd14 ct14 : Value}
    (a14 : PySem.W.findIn K (.ref C_Keeper) "ended" = some (some (.ref f14)))
    (l14 : K.lookup f14 = some ⟨oc14, od14, .func (PySem.W.fnOf "ended" "Keeper.ended" (defArgs s_Keeper_ended) (defBody s_Keeper_ended) (defScope s_Keeper_ended) .none kV14 dc14 pm14 an14 cd14 ct14), sl14⟩) (c14 : PySem.W.codeIn K cd14 "Keeper.ended" = true) (k14 : PySem.W.keepIn K (.ref f14) = true)
    {f15 : Addr} {od15 an15 : Option Addr} {sl15 : Array (Option Value)} {oc15 kV15 dc15 pm15 cd15 ct15 : Value}
    (a15 : PySem.W.findIn K (.ref C_Keeper) "times" = some (some (.ref f15)))
    (l15 : K.lookup f15 = some ⟨oc15, od15, .func (PySem.W.fnOf "times" "Keeper.times" (defArgs s_Keeper_times) (defBody s_Keeper_times) (defScope s_Keeper_times) .none kV15 dc15 pm15 an15 cd15 ct15), sl15⟩) (c15 : PySem.W.codeIn K cd15 "Keeper.times" = true) (k15 : PySem.W.keepIn K (.ref f15) = true)
    {f16 : Addr} {od16 an16 : Option Addr} {sl16 : Array (Option Value)} {oc16 kV16 dc16 pm16 cd16 ct16 : Value}
    (a16 : PySem.W.findIn K (.ref C_Holder) "__init__" = some (some (.ref f16)))
    (l16 : K.lookup f16 = some ⟨oc16, od16, .func (PySem.W.fnOf "__init__" "Holder.__init__" (defArgs s_Holder_init) (defBody s_Holder_init) (defScope s_Holder_init) .none kV16 dc16 pm16 an16 cd16 ct16), sl16⟩) (c16 : PySem.W.codeIn K cd16 "Holder.__init__" = true) (k16 : PySem.W.keepIn K (.ref f16) = true)
    {f17 : Addr} {od17 an17 : Option Addr} {sl17 : Array (Option Value)} {oc17 kV17 dc17 pm17 cd17 ct17 : Value}
    (a17 : PySem.W.findIn K (.ref C_Holder) "got" = some (some (.ref f17)))
    (l17 : K.lookup f17 = some ⟨oc17, od17, .func (PySem.W.fnOf "got" "Holder.got" (defArgs s_Holder_got) (defBody s_Holder_got) (defScope s_Holder_got) .none kV17 dc17 pm17 an17 cd17 ct17), sl17⟩) (c17 : PySem.W.codeIn K cd17 "Holder.got" = true) (k17 : PySem.W.keepIn K (.ref f17) = true)
    {f18 : Addr} {od18 an18 : Option Addr} {sl18 : Array (Option Value)} {oc18 kV18 dc18 pm18 cd18 ct18 : Value}
    (a18 : PySem.W.findIn K (.ref C_Holder) "right" = some (some (.ref f18)))
    (l18 : K.lookup f18 = some ⟨oc18, od18, .func (PySem.W.fnOf "right" "Holder.right" (defArgs s_Holder_right) (defBody s_Holder_right) (defScope s_Holder_right) .none kV18 dc18 pm18 an18 cd18 ct18), sl18⟩) (c18 : PySem.W.codeIn K cd18 "Holder.right" = true) (k18 : PySem.W.keepIn K (.ref f18) = true)
    {f19 : Addr} {od19 an19 : Option Addr} {sl19 : Array (Option Value)} {oc19 kV19 dc19 pm19 cd19 ct19 : Value}
    (a19 : PySem.W.findIn K (.ref C_Holder) "use" = some (some (.ref f19)))
    (l19 : K.lookup f19 = some ⟨oc19, od19, .func (PySem.W.fnOf "use" "Holder.use" (defArgs s_Holder_use) (defBody s_Holder_use) (defScope s_Holder_use) .none kV19 dc19 pm19 an19 cd19 ct19), sl19⟩) (c19 : PySem.W.codeIn K cd19 "Holder.use" = true) (k19 : PySem.W.keepIn K (.ref f19) = true)
    {f20 : Addr} {od20 an20 : Option Addr} {sl20 : Array (Option Value)} {oc20 kV20 dc20 pm20 cd20 ct20 : Value}
    (a20 : PySem.W.findIn K (.ref C_Holder) "give" = some (some (.ref f20)))
    (l20 : K.lookup f20 = some ⟨oc20, od20, .func (PySem.W.fnOf "give" "Holder.give" (defArgs s_Holder_give) (defBody s_Holder_give) (defScope s_Holder_give) .none kV20 dc20 pm20 an20 cd20 ct20), sl20⟩) (c20 : PySem.W.codeIn K cd20 "Holder.give" = true) (k20 : PySem.W.keepIn K (.ref f20) = true)
    {f21 : Addr} {od21 an21 : Option Addr} {sl21 : Array (Option Value)} {oc21 kV21 dc21 pm21 cd21 ct21 : Value}
    (a21 : PySem.W.findIn K (.ref C_Holder) "note" = some (some (.ref f21)))
    (l21 : K.lookup f21 = some ⟨oc21, od21, .func (PySem.W.fnOf "note" "Holder.note" (defArgs s_Holder_note) (defBody s_Holder_note) (defScope s_Holder_note) .none kV21 dc21 pm21 an21 cd21 ct21), sl21⟩) (c21 : PySem.W.codeIn K cd21 "Holder.note" = true) (k21 : PySem.W.keepIn K (.ref f21) = true)
    {f22 : Addr} {od22 an22 : Option Addr} {sl22 : Array (Option Value)} {oc22 kV22 dc22 pm22 cd22 ct22 : Value}
    (a22 : PySem.W.findIn K (.ref C_Holder) "seen" = some (some (.ref f22)))
    (l22 : K.lookup f22 = some ⟨oc22, od22, .func (PySem.W.fnOf "seen" "Holder.seen" (defArgs s_Holder_seen) (defBody s_Holder_seen) (defScope s_Holder_seen) .none kV22 dc22 pm22 an22 cd22 ct22), sl22⟩) (c22 : PySem.W.codeIn K cd22 "Holder.seen" = true) (k22 : PySem.W.keepIn K (.ref f22) = true)
    {f23 : Addr} {od23 an23 : Option Addr} {sl23 : Array (Option Value)} {oc23 kV23 dc23 pm23 cd23 ct23 : Value}
    (a23 : PySem.W.nsIn K mainGlobals "_law_cell" = some (some (.ref f23)))
    (l23 : K.lookup f23 = some ⟨oc23, od23, .func (PySem.W.fnOf "_law_cell" "_law_cell" (defArgs s_law_cell) (defBody s_law_cell) (defScope s_law_cell) .none kV23 dc23 pm23 an23 cd23 ct23), sl23⟩) (c23 : PySem.W.codeIn K cd23 "_law_cell" = true) (k23 : PySem.W.keepIn K (.ref f23) = true)
    {f24 : Addr} {od24 an24 : Option Addr} {sl24 : Array (Option Value)} {oc24 kV24 dc24 pm24 cd24 ct24 : Value}
    (a24 : PySem.W.nsIn K mainGlobals "_law_box" = some (some (.ref f24)))
    (l24 : K.lookup f24 = some ⟨oc24, od24, .func (PySem.W.fnOf "_law_box" "_law_box" (defArgs s_law_box) (defBody s_law_box) (defScope s_law_box) .none kV24 dc24 pm24 an24 cd24 ct24), sl24⟩) (c24 : PySem.W.codeIn K cd24 "_law_box" = true) (k24 : PySem.W.keepIn K (.ref f24) = true)
    {f25 : Addr} {od25 an25 : Option Addr} {sl25 : Array (Option Value)} {oc25 kV25 dc25 pm25 cd25 ct25 : Value}
    (a25 : PySem.W.nsIn K mainGlobals "_law_take" = some (some (.ref f25)))
    (l25 : K.lookup f25 = some ⟨oc25, od25, .func (PySem.W.fnOf "_law_take" "_law_take" (defArgs s_law_take) (defBody s_law_take) (defScope s_law_take) .none kV25 dc25 pm25 an25 cd25 ct25), sl25⟩) (c25 : PySem.W.codeIn K cd25 "_law_take" = true) (k25 : PySem.W.keepIn K (.ref f25) = true)
    {f26 : Addr} {od26 an26 : Option Addr} {sl26 : Array (Option Value)} {oc26 kV26 dc26 pm26 cd26 ct26 : Value}
    (a26 : PySem.W.nsIn K mainGlobals "_law_names" = some (some (.ref f26)))
    (l26 : K.lookup f26 = some ⟨oc26, od26, .func (PySem.W.fnOf "_law_names" "_law_names" (defArgs s_law_names) (defBody s_law_names) (defScope s_law_names) .none kV26 dc26 pm26 an26 cd26 ct26), sl26⟩) (c26 : PySem.W.codeIn K cd26 "_law_names" = true) (k26 : PySem.W.keepIn K (.ref f26) = true)
    {f27 : Addr} {od27 an27 : Option Addr} {sl27 : Array (Option Value)} {oc27 kV27 dc27 pm27 cd27 ct27 : Value}
    (a27 : PySem.W.nsIn K mainGlobals "_law_tried" = some (some (.ref f27)))
    (l27 : K.lookup f27 = some ⟨oc27, od27, .func (PySem.W.fnOf "_law_tried" "_law_tried" (defArgs s_law_tried) (defBody s_law_tried) (defScope s_law_tried) .none kV27 dc27 pm27 an27 cd27 ct27), sl27⟩) (c27 : PySem.W.codeIn K cd27 "_law_tried" = true) (k27 : PySem.W.keepIn K (.ref f27) = true)
    {f28 : Addr} {od28 an28 : Option Addr} {sl28 : Array (Option Value)} {oc28 kV28 dc28 pm28 cd28 ct28 : Value}
    (a28 : PySem.W.nsIn K mainGlobals "_law_come" = some (some (.ref f28)))
    (l28 : K.lookup f28 = some ⟨oc28, od28, .func (PySem.W.fnOf "_law_come" "_law_come" (defArgs s_law_come) (defBody s_law_come) (defScope s_law_come) .none kV28 dc28 pm28 an28 cd28 ct28), sl28⟩) (c28 : PySem.W.codeIn K cd28 "_law_come" = true) (k28 : PySem.W.keepIn K (.ref f28) = true)
    {f29 : Addr} {od29 an29 : Option Addr} {sl29 : Array (Option Value)} {oc29 kV29 dc29 pm29 cd29 ct29 : Value}
    (a29 : PySem.W.nsIn K mainGlobals "_law_done" = some (some (.ref f29)))
    (l29 : K.lookup f29 = some ⟨oc29, od29, .func (PySem.W.fnOf "_law_done" "_law_done" (defArgs s_law_done) (defBody s_law_done) (defScope s_law_done) .none kV29 dc29 pm29 an29 cd29 ct29), sl29⟩) (c29 : PySem.W.codeIn K cd29 "_law_done" = true) (k29 : PySem.W.keepIn K (.ref f29) = true)
    {f30 : Addr} {od30 an30 : Option Addr} {sl30 : Array (Option Value)} {oc30 kV30 dc30 pm30 cd30 ct30 : Value}
    (a30 : PySem.W.nsIn K mainGlobals "_law_safe" = some (some (.ref f30)))
    (l30 : K.lookup f30 = some ⟨oc30, od30, .func (PySem.W.fnOf "_law_safe" "_law_safe" (defArgs s_law_safe) (defBody s_law_safe) (defScope s_law_safe) .none kV30 dc30 pm30 an30 cd30 ct30), sl30⟩) (c30 : PySem.W.codeIn K cd30 "_law_safe" = true) (k30 : PySem.W.keepIn K (.ref f30) = true)
    {f31 : Addr} {od31 an31 : Option Addr} {sl31 : Array (Option Value)} {oc31 kV31 dc31 pm31 cd31 ct31 : Value}
    (a31 : PySem.W.nsIn K mainGlobals "law" = some (some (.ref f31)))
    (l31 : K.lookup f31 = some ⟨oc31, od31, .func (PySem.W.fnOf "law" "law" (defArgs s_law) (defBody s_law) (defScope s_law) .none kV31 dc31 pm31 an31 cd31 ct31), sl31⟩) (c31 : PySem.W.codeIn K cd31 "law" = true) (k31 : PySem.W.keepIn K (.ref f31) = true)
    (pg_Keeper : PySem.W.plainGet K C_Keeper Str.empty = true) (hd_Keeper : PySem.W.hasDictIn K C_Keeper = true) (po_Keeper : PySem.W.plainOver K C_Keeper = true) (sa_Keeper : PySem.W.findIn K (.ref C_Keeper) "__setattr__" = some (some (.builtin "object.__setattr__"))) (mk_Keeper : PySem.W.makesIn K C_Keeper = true) (kc_Keeper : PySem.W.keepIn K (.ref C_Keeper) = true)
    (if_Keeper : PySem.W.isFn K (.ref f6) = true)
    (na_Keeper_kept_times : PySem.W.findIn K (.ref C_Keeper) "kept_times" = some none)
    (na_Keeper_kept_shut : PySem.W.findIn K (.ref C_Keeper) "kept_shut" = some none)
    (na_Keeper_kept_open : PySem.W.findIn K (.ref C_Keeper) "kept_open" = some none)
    (fn_Keeper_lock : PySem.W.isFn K (.ref f7) = true)
    (fn_Keeper_locked : PySem.W.isFn K (.ref f8) = true)
    (fn_Keeper_is_this : PySem.W.isFn K (.ref f9) = true)
    (fn_Keeper_opens : PySem.W.isFn K (.ref f10) = true)
    (fn_Keeper_is_open : PySem.W.isFn K (.ref f11) = true)
    (fn_Keeper_let_go : PySem.W.isFn K (.ref f12) = true)
    (fn_Keeper_unlock : PySem.W.isFn K (.ref f13) = true)
    (fn_Keeper_ended : PySem.W.isFn K (.ref f14) = true)
    (fn_Keeper_times : PySem.W.isFn K (.ref f15) = true)
    (pg_Holder : PySem.W.plainGet K C_Holder Str.empty = true) (hd_Holder : PySem.W.hasDictIn K C_Holder = true) (po_Holder : PySem.W.plainOver K C_Holder = true) (sa_Holder : PySem.W.findIn K (.ref C_Holder) "__setattr__" = some (some (.builtin "object.__setattr__"))) (mk_Holder : PySem.W.makesIn K C_Holder = true) (kc_Holder : PySem.W.keepIn K (.ref C_Holder) = true)
    (if_Holder : PySem.W.isFn K (.ref f16) = true)
    (na_Holder_kept_greatest : PySem.W.findIn K (.ref C_Holder) "kept_greatest" = some none)
    (na_Holder_kept_right : PySem.W.findIn K (.ref C_Holder) "kept_right" = some none)
    (na_Holder_kept_note : PySem.W.findIn K (.ref C_Holder) "kept_note" = some none)
    (fn_Holder_got : PySem.W.isFn K (.ref f17) = true)
    (fn_Holder_right : PySem.W.isFn K (.ref f18) = true)
    (fn_Holder_use : PySem.W.isFn K (.ref f19) = true)
    (fn_Holder_give : PySem.W.isFn K (.ref f20) = true)
    (fn_Holder_note : PySem.W.isFn K (.ref f21) = true)
    (fn_Holder_seen : PySem.W.isFn K (.ref f22) = true)
    {nm_NoNumber q_NoNumber : Str} {N_NoNumber : Addr} {bs_NoNumber bm_NoNumber sub_NoNumber : List Value} {sn_NoNumber : List Str} {ab_NoNumber : Bool} {col_NoNumber : Option Bool} {dd_NoNumber : Option Addr} {e0_NoNumber e1_NoNumber e2_NoNumber e3_NoNumber e5_NoNumber : Option Value}
    (xL_NoNumber : K.lookup C_NoNumber = some (excClassObj nm_NoNumber q_NoNumber C_NoNumber N_NoNumber bs_NoNumber bm_NoNumber true sn_NoNumber sub_NoNumber ab_NoNumber col_NoNumber dd_NoNumber e0_NoNumber e1_NoNumber e2_NoNumber e3_NoNumber e5_NoNumber "ValueError.__new__")) (ve_NoNumber : PySem.HandSPX.refsVE bm_NoNumber = true)
    (sa_NoNumber : PySem.W.findIn K (.ref C_NoNumber) "__setattr__" = some (some (.builtin "object.__setattr__")))
    (ga_NoNumber : PySem.W.findIn K (.ref C_NoNumber) "__getattribute__" = some (some (.builtin "BaseException.__getattribute__")))
    (gg_NoNumber : PySem.W.findIn K (.ref C_NoNumber) "__getattr__" = some none)
    (no_NoNumber : PySem.W.findIn K (.ref C_NoNumber) "found" = some none)
    (ex_NoNumber : PySem.W.subIn K (.ref C_NoNumber) (.type "BaseException") = some true)
    (ty_NoNumber : PySem.W.typeIn K (.ref C_NoNumber) = some (.type "type"))
    (kC_NoNumber : PySem.W.keepIn K (.ref C_NoNumber) = true)
    (hd_NoNumber : PySem.W.hasDictIn K C_NoNumber = true)
    (ha_NoNumber : PySem.W.findIn K (.ref C_NoNumber) "__class__" = some (some (.builtin "object.__class__")))
    (hm_NoNumber : PySem.W.mroIn K C_NoNumber (.type "object") = some true)
    (ti_NoNumber : PySem.W.typeIn K (.ref f1) = some (.type "function"))
    {nm_Shut q_Shut : Str} {N_Shut : Addr} {bs_Shut bm_Shut sub_Shut : List Value} {sn_Shut : List Str} {ab_Shut : Bool} {col_Shut : Option Bool} {dd_Shut : Option Addr} {e0_Shut e1_Shut e2_Shut e3_Shut e5_Shut : Option Value}
    (xL_Shut : K.lookup C_Shut = some (excClassObj nm_Shut q_Shut C_Shut N_Shut bs_Shut bm_Shut true sn_Shut sub_Shut ab_Shut col_Shut dd_Shut e0_Shut e1_Shut e2_Shut e3_Shut e5_Shut "ValueError.__new__")) (ve_Shut : PySem.HandSPX.refsVE bm_Shut = true)
    (sa_Shut : PySem.W.findIn K (.ref C_Shut) "__setattr__" = some (some (.builtin "object.__setattr__")))
    (ga_Shut : PySem.W.findIn K (.ref C_Shut) "__getattribute__" = some (some (.builtin "BaseException.__getattribute__")))
    (gg_Shut : PySem.W.findIn K (.ref C_Shut) "__getattr__" = some none)
    (no_Shut : PySem.W.findIn K (.ref C_Shut) "found" = some none)
    (ex_Shut : PySem.W.subIn K (.ref C_Shut) (.type "BaseException") = some true)
    (ty_Shut : PySem.W.typeIn K (.ref C_Shut) = some (.type "type"))
    (kC_Shut : PySem.W.keepIn K (.ref C_Shut) = true)
    (hd_Shut : PySem.W.hasDictIn K C_Shut = true)
    (ha_Shut : PySem.W.findIn K (.ref C_Shut) "__class__" = some (some (.builtin "object.__class__")))
    (hm_Shut : PySem.W.mroIn K C_Shut (.type "object") = some true)
    (ti_Shut : PySem.W.typeIn K (.ref f2) = some (.type "function"))
    {nm_NoRight q_NoRight : Str} {N_NoRight : Addr} {bs_NoRight bm_NoRight sub_NoRight : List Value} {sn_NoRight : List Str} {ab_NoRight : Bool} {col_NoRight : Option Bool} {dd_NoRight : Option Addr} {e0_NoRight e1_NoRight e2_NoRight e3_NoRight e5_NoRight : Option Value}
    (xL_NoRight : K.lookup C_NoRight = some (excClassObj nm_NoRight q_NoRight C_NoRight N_NoRight bs_NoRight bm_NoRight true sn_NoRight sub_NoRight ab_NoRight col_NoRight dd_NoRight e0_NoRight e1_NoRight e2_NoRight e3_NoRight e5_NoRight "ValueError.__new__")) (ve_NoRight : PySem.HandSPX.refsVE bm_NoRight = true)
    (sa_NoRight : PySem.W.findIn K (.ref C_NoRight) "__setattr__" = some (some (.builtin "object.__setattr__")))
    (ga_NoRight : PySem.W.findIn K (.ref C_NoRight) "__getattribute__" = some (some (.builtin "BaseException.__getattribute__")))
    (gg_NoRight : PySem.W.findIn K (.ref C_NoRight) "__getattr__" = some none)
    (no_NoRight : PySem.W.findIn K (.ref C_NoRight) "found" = some none)
    (ex_NoRight : PySem.W.subIn K (.ref C_NoRight) (.type "BaseException") = some true)
    (ty_NoRight : PySem.W.typeIn K (.ref C_NoRight) = some (.type "type"))
    (kC_NoRight : PySem.W.keepIn K (.ref C_NoRight) = true)
    (hd_NoRight : PySem.W.hasDictIn K C_NoRight = true)
    (ha_NoRight : PySem.W.findIn K (.ref C_NoRight) "__class__" = some (some (.builtin "object.__class__")))
    (hm_NoRight : PySem.W.mroIn K C_NoRight (.type "object") = some true)
    (ti_NoRight : PySem.W.typeIn K (.ref f3) = some (.type "function"))
    {nm_NotShut q_NotShut : Str} {N_NotShut : Addr} {bs_NotShut bm_NotShut sub_NotShut : List Value} {sn_NotShut : List Str} {ab_NotShut : Bool} {col_NotShut : Option Bool} {dd_NotShut : Option Addr} {e0_NotShut e1_NotShut e2_NotShut e3_NotShut e5_NotShut : Option Value}
    (xL_NotShut : K.lookup C_NotShut = some (excClassObj nm_NotShut q_NotShut C_NotShut N_NotShut bs_NotShut bm_NotShut true sn_NotShut sub_NotShut ab_NotShut col_NotShut dd_NotShut e0_NotShut e1_NotShut e2_NotShut e3_NotShut e5_NotShut "ValueError.__new__")) (ve_NotShut : PySem.HandSPX.refsVE bm_NotShut = true)
    (sa_NotShut : PySem.W.findIn K (.ref C_NotShut) "__setattr__" = some (some (.builtin "object.__setattr__")))
    (ga_NotShut : PySem.W.findIn K (.ref C_NotShut) "__getattribute__" = some (some (.builtin "BaseException.__getattribute__")))
    (gg_NotShut : PySem.W.findIn K (.ref C_NotShut) "__getattr__" = some none)
    (no_NotShut : PySem.W.findIn K (.ref C_NotShut) "found" = some none)
    (ex_NotShut : PySem.W.subIn K (.ref C_NotShut) (.type "BaseException") = some true)
    (ty_NotShut : PySem.W.typeIn K (.ref C_NotShut) = some (.type "type"))
    (kC_NotShut : PySem.W.keepIn K (.ref C_NotShut) = true)
    (hd_NotShut : PySem.W.hasDictIn K C_NotShut = true)
    (ha_NotShut : PySem.W.findIn K (.ref C_NotShut) "__class__" = some (some (.builtin "object.__class__")))
    (hm_NotShut : PySem.W.mroIn K C_NotShut (.type "object") = some true)
    (ti_NotShut : PySem.W.typeIn K (.ref f4) = some (.type "function"))
    (rd_StaffError : PySem.W.readsIn K C_StaffError (.type "type") = true) (rg_StaffError : PySem.W.specialIn K (.ref C_StaffError) "__getattribute__" = some (some (.builtin "type.__getattribute__"))) (vi_StaffError : PySem.W.findCls K (.ref C_StaffError) (.type "type") "__init__" = some (.val (.builtin "ValueError.__init__")))
    (oc_get : PySem.W.specialIn K (.builtin "object.__class__") "__get__" = some (some (.builtin "getset_descriptor.__get__"))) (oc_take : PySem.W.takesIn K (.builtin "object.__class__") = some true)
    (ex_Shut_Shut : PySem.W.exmOne K (.ref C_Shut) (.ref C_Shut) = some true)
    (ex_Shut_NotShut : PySem.W.exmOne K (.ref C_Shut) (.ref C_NotShut) = some false)
    (ex_Shut_NoRight : PySem.W.exmOne K (.ref C_Shut) (.ref C_NoRight) = some false)
    (ex_NotShut_Shut : PySem.W.exmOne K (.ref C_NotShut) (.ref C_Shut) = some false)
    (ex_NotShut_NotShut : PySem.W.exmOne K (.ref C_NotShut) (.ref C_NotShut) = some true)
    (ex_NotShut_NoRight : PySem.W.exmOne K (.ref C_NotShut) (.ref C_NoRight) = some false)
    (ex_NoRight_Shut : PySem.W.exmOne K (.ref C_NoRight) (.ref C_Shut) = some false)
    (ex_NoRight_NotShut : PySem.W.exmOne K (.ref C_NoRight) (.ref C_NotShut) = some false)
    (ex_NoRight_NoRight : PySem.W.exmOne K (.ref C_NoRight) (.ref C_NoRight) = some true)
    {u_GREATEST : Value} (g_GREATEST : PySem.W.nsIn K mainGlobals "GREATEST" = some (some u_GREATEST)) (r_GREATEST : RelV (V.int 1000000000000000000000000000000) u_GREATEST)
    (z_bool : PySem.W.nsIn K mainGlobals "bool" = some none)
    (z_enumerate : PySem.W.nsIn K mainGlobals "enumerate" = some none)
    (z_int : PySem.W.nsIn K mainGlobals "int" = some none)
    (z_isinstance : PySem.W.nsIn K mainGlobals "isinstance" = some none)
    (z_len : PySem.W.nsIn K mainGlobals "len" = some none)
    (z_max : PySem.W.nsIn K mainGlobals "max" = some none)
    (z_min : PySem.W.nsIn K mainGlobals "min" = some none)
    (z_range : PySem.W.nsIn K mainGlobals "range" = some none) :
    ∃ fd : FuncData, (∀ (s : Shared) (v : Value), BindsTo s fd ⟨[v], []⟩ [("_law_script", v)]) ∧ ∀ base : Heap, K.In base → base.Ns mainGlobals mg → (∃ mm, base.Ns sysModules mm) → FnG l.prog w K mg base (L2.CX l.prog w) 7 fa fd ["_law_script"] (sp_law K) := by
  have e : fa = f31 := by
    have z := hfa.symm.trans (PySem.W.mg_of X G a31)
    injection z with z; injection z
  let T : Tx K mg := {
    C_Keeper := C_Keeper, m_Keeper := PySem.W.mg_of X G n_Keeper,
    C_Holder := C_Holder, m_Holder := PySem.W.mg_of X G n_Holder,
    C_NoNumber := C_NoNumber, m_NoNumber := PySem.W.mg_of X G n_NoNumber,
    C_Shut := C_Shut, m_Shut := PySem.W.mg_of X G n_Shut,
    C_NoRight := C_NoRight, m_NoRight := PySem.W.mg_of X G n_NoRight,
    C_NotShut := C_NotShut, m_NotShut := PySem.W.mg_of X G n_NotShut,
    C_StaffError := C_StaffError, m_StaffError := PySem.W.mg_of X G n_StaffError,
    a_NoNumber_init := f1, d_NoNumber_init := _, F_NoNumber_init := fun_mk (st := s_NoNumber_init) l1 c1 k1, B_NoNumber_init := (fun_mk (st := s_NoNumber_init) l1 c1 k1).binds (ps := ["self", "found"]) (fun _ _ _ _ _ _ us hl => match us, hl with | [_, _], _ => rfl),
    a_Shut_init := f2, d_Shut_init := _, F_Shut_init := fun_mk (st := s_Shut_init) l2 c2 k2, B_Shut_init := (fun_mk (st := s_Shut_init) l2 c2 k2).binds (ps := ["self", "found"]) (fun _ _ _ _ _ _ us hl => match us, hl with | [_, _], _ => rfl),
    a_NoRight_init := f3, d_NoRight_init := _, F_NoRight_init := fun_mk (st := s_NoRight_init) l3 c3 k3, B_NoRight_init := (fun_mk (st := s_NoRight_init) l3 c3 k3).binds (ps := ["self", "found"]) (fun _ _ _ _ _ _ us hl => match us, hl with | [_, _], _ => rfl),
    a_NotShut_init := f4, d_NotShut_init := _, F_NotShut_init := fun_mk (st := s_NotShut_init) l4 c4 k4, B_NotShut_init := (fun_mk (st := s_NotShut_init) l4 c4 k4).binds (ps := ["self", "found"]) (fun _ _ _ _ _ _ us hl => match us, hl with | [_, _], _ => rfl),
    a_is_whole := f5, d_is_whole := _, F_is_whole := fun_mk (st := s_is_whole) l5 c5 k5, B_is_whole := (fun_mk (st := s_is_whole) l5 c5 k5).binds (ps := ["thing", "low", "high"]) (fun _ _ _ _ _ _ us hl => match us, hl with | [_, _, _], _ => rfl), m_is_whole := PySem.W.mg_of X G a5,
    a_Keeper_init := f6, d_Keeper_init := _, F_Keeper_init := fun_mk (st := s_Keeper_init) l6 c6 k6, B_Keeper_init := (fun_mk (st := s_Keeper_init) l6 c6 k6).binds (ps := ["self"]) (fun _ _ _ _ _ _ us hl => match us, hl with | [_], _ => rfl),
    a_Keeper_lock := f7, d_Keeper_lock := _, F_Keeper_lock := fun_mk (st := s_Keeper_lock) l7 c7 k7, B_Keeper_lock := (fun_mk (st := s_Keeper_lock) l7 c7 k7).binds (ps := ["self", "to"]) (fun _ _ _ _ _ _ us hl => match us, hl with | [_, _], _ => rfl),
    a_Keeper_locked := f8, d_Keeper_locked := _, F_Keeper_locked := fun_mk (st := s_Keeper_locked) l8 c8 k8, B_Keeper_locked := (fun_mk (st := s_Keeper_locked) l8 c8 k8).binds (ps := ["self"]) (fun _ _ _ _ _ _ us hl => match us, hl with | [_], _ => rfl),
    a_Keeper_is_this := f9, d_Keeper_is_this := _, F_Keeper_is_this := fun_mk (st := s_Keeper_is_this) l9 c9 k9, B_Keeper_is_this := (fun_mk (st := s_Keeper_is_this) l9 c9 k9).binds (ps := ["self", "number"]) (fun _ _ _ _ _ _ us hl => match us, hl with | [_, _], _ => rfl),
    a_Keeper_opens := f10, d_Keeper_opens := _, F_Keeper_opens := fun_mk (st := s_Keeper_opens) l10 c10 k10, B_Keeper_opens := (fun_mk (st := s_Keeper_opens) l10 c10 k10).binds (ps := ["self", "number"]) (fun _ _ _ _ _ _ us hl => match us, hl with | [_, _], _ => rfl),
    a_Keeper_is_open := f11, d_Keeper_is_open := _, F_Keeper_is_open := fun_mk (st := s_Keeper_is_open) l11 c11 k11, B_Keeper_is_open := (fun_mk (st := s_Keeper_is_open) l11 c11 k11).binds (ps := ["self"]) (fun _ _ _ _ _ _ us hl => match us, hl with | [_], _ => rfl),
    a_Keeper_let_go := f12, d_Keeper_let_go := _, F_Keeper_let_go := fun_mk (st := s_Keeper_let_go) l12 c12 k12, B_Keeper_let_go := (fun_mk (st := s_Keeper_let_go) l12 c12 k12).binds (ps := ["self"]) (fun _ _ _ _ _ _ us hl => match us, hl with | [_], _ => rfl),
    a_Keeper_unlock := f13, d_Keeper_unlock := _, F_Keeper_unlock := fun_mk (st := s_Keeper_unlock) l13 c13 k13, B_Keeper_unlock := (fun_mk (st := s_Keeper_unlock) l13 c13 k13).binds (ps := ["self"]) (fun _ _ _ _ _ _ us hl => match us, hl with | [_], _ => rfl),
    a_Keeper_ended := f14, d_Keeper_ended := _, F_Keeper_ended := fun_mk (st := s_Keeper_ended) l14 c14 k14, B_Keeper_ended := (fun_mk (st := s_Keeper_ended) l14 c14 k14).binds (ps := ["self", "number"]) (fun _ _ _ _ _ _ us hl => match us, hl with | [_, _], _ => rfl),
    a_Keeper_times := f15, d_Keeper_times := _, F_Keeper_times := fun_mk (st := s_Keeper_times) l15 c15 k15, B_Keeper_times := (fun_mk (st := s_Keeper_times) l15 c15 k15).binds (ps := ["self"]) (fun _ _ _ _ _ _ us hl => match us, hl with | [_], _ => rfl),
    a_Holder_init := f16, d_Holder_init := _, F_Holder_init := fun_mk (st := s_Holder_init) l16 c16 k16, B_Holder_init := (fun_mk (st := s_Holder_init) l16 c16 k16).binds (ps := ["self"]) (fun _ _ _ _ _ _ us hl => match us, hl with | [_], _ => rfl),
    a_Holder_got := f17, d_Holder_got := _, F_Holder_got := fun_mk (st := s_Holder_got) l17 c17 k17, B_Holder_got := (fun_mk (st := s_Holder_got) l17 c17 k17).binds (ps := ["self", "number", "place"]) (fun _ _ _ _ _ _ us hl => match us, hl with | [_, _, _], _ => rfl),
    a_Holder_right := f18, d_Holder_right := _, F_Holder_right := fun_mk (st := s_Holder_right) l18 c18 k18, B_Holder_right := (fun_mk (st := s_Holder_right) l18 c18 k18).binds (ps := ["self"]) (fun _ _ _ _ _ _ us hl => match us, hl with | [_], _ => rfl),
    a_Holder_use := f19, d_Holder_use := _, F_Holder_use := fun_mk (st := s_Holder_use) l19 c19 k19, B_Holder_use := (fun_mk (st := s_Holder_use) l19 c19 k19).binds (ps := ["self"]) (fun _ _ _ _ _ _ us hl => match us, hl with | [_], _ => rfl),
    a_Holder_give := f20, d_Holder_give := _, F_Holder_give := fun_mk (st := s_Holder_give) l20 c20 k20, B_Holder_give := (fun_mk (st := s_Holder_give) l20 c20 k20).binds (ps := ["self"]) (fun _ _ _ _ _ _ us hl => match us, hl with | [_], _ => rfl),
    a_Holder_note := f21, d_Holder_note := _, F_Holder_note := fun_mk (st := s_Holder_note) l21 c21 k21, B_Holder_note := (fun_mk (st := s_Holder_note) l21 c21 k21).binds (ps := ["self", "number", "place"]) (fun _ _ _ _ _ _ us hl => match us, hl with | [_, _, _], _ => rfl),
    a_Holder_seen := f22, d_Holder_seen := _, F_Holder_seen := fun_mk (st := s_Holder_seen) l22 c22 k22, B_Holder_seen := (fun_mk (st := s_Holder_seen) l22 c22 k22).binds (ps := ["self"]) (fun _ _ _ _ _ _ us hl => match us, hl with | [_], _ => rfl),
    a_law_cell := f23, d_law_cell := _, F_law_cell := fun_mk (st := s_law_cell) l23 c23 k23, B_law_cell := (fun_mk (st := s_law_cell) l23 c23 k23).binds (ps := ["_law_script", "_law_k"]) (fun _ _ _ _ _ _ us hl => match us, hl with | [_, _], _ => rfl), m_law_cell := PySem.W.mg_of X G a23,
    a_law_box := f24, d_law_box := _, F_law_box := fun_mk (st := s_law_box) l24 c24 k24, B_law_box := (fun_mk (st := s_law_box) l24 c24 k24).binds (ps := ["_law_cell_here"]) (fun _ _ _ _ _ _ us hl => match us, hl with | [_], _ => rfl), m_law_box := PySem.W.mg_of X G a24,
    a_law_take := f25, d_law_take := _, F_law_take := fun_mk (st := s_law_take) l25 c25 k25, B_law_take := (fun_mk (st := s_law_take) l25 c25 k25).binds (ps := ["_law_box_here", "_law_many"]) (fun _ _ _ _ _ _ us hl => match us, hl with | [_, _], _ => rfl), m_law_take := PySem.W.mg_of X G a25,
    a_law_names := f26, d_law_names := _, F_law_names := fun_mk (st := s_law_names) l26 c26 k26, B_law_names := (fun_mk (st := s_law_names) l26 c26 k26).binds (ps := ["_law_box_here", "_law_many"]) (fun _ _ _ _ _ _ us hl => match us, hl with | [_, _], _ => rfl), m_law_names := PySem.W.mg_of X G a26,
    a_law_tried := f27, d_law_tried := _, F_law_tried := fun_mk (st := s_law_tried) l27 c27 k27, B_law_tried := (fun_mk (st := s_law_tried) l27 c27 k27).binds (ps := ["_law_keeper", "_law_holder", "_law_way", "_law_place"]) (fun _ _ _ _ _ _ us hl => match us, hl with | [_, _, _, _], _ => rfl), m_law_tried := PySem.W.mg_of X G a27,
    a_law_come := f28, d_law_come := _, F_law_come := fun_mk (st := s_law_come) l28 c28 k28, B_law_come := (fun_mk (st := s_law_come) l28 c28 k28).binds (ps := ["_law_state", "_law_at"]) (fun _ _ _ _ _ _ us hl => match us, hl with | [_, _], _ => rfl), m_law_come := PySem.W.mg_of X G a28,
    a_law_done := f29, d_law_done := _, F_law_done := fun_mk (st := s_law_done) l29 c29 k29, B_law_done := (fun_mk (st := s_law_done) l29 c29 k29).binds (ps := ["_law_box_here", "_law_state", "_law_names_here"]) (fun _ _ _ _ _ _ us hl => match us, hl with | [_, _, _], _ => rfl), m_law_done := PySem.W.mg_of X G a29,
    a_law_safe := f30, d_law_safe := _, F_law_safe := fun_mk (st := s_law_safe) l30 c30 k30, B_law_safe := (fun_mk (st := s_law_safe) l30 c30 k30).binds (ps := ["_law_state"]) (fun _ _ _ _ _ _ us hl => match us, hl with | [_], _ => rfl), m_law_safe := PySem.W.mg_of X G a30,
    a_law := f31, d_law := _, F_law := fun_mk (st := s_law) l31 c31 k31, B_law := (fun_mk (st := s_law) l31 c31 k31).binds (ps := ["_law_script"]) (fun _ _ _ _ _ _ us hl => match us, hl with | [_], _ => rfl), m_law := PySem.W.mg_of X G a31,
    cl_Keeper := ⟨pg_Keeper, hd_Keeper, po_Keeper, sa_Keeper⟩,
    mk_Keeper := ⟨mk_Keeper, a6, if_Keeper, kc_Keeper⟩,
    na_Keeper_kept_times := na_Keeper_kept_times,
    na_Keeper_kept_shut := na_Keeper_kept_shut,
    na_Keeper_kept_open := na_Keeper_kept_open,
    M_Keeper_lock := ⟨a7, fn_Keeper_lock, k7⟩,
    M_Keeper_locked := ⟨a8, fn_Keeper_locked, k8⟩,
    M_Keeper_is_this := ⟨a9, fn_Keeper_is_this, k9⟩,
    M_Keeper_opens := ⟨a10, fn_Keeper_opens, k10⟩,
    M_Keeper_is_open := ⟨a11, fn_Keeper_is_open, k11⟩,
    M_Keeper_let_go := ⟨a12, fn_Keeper_let_go, k12⟩,
    M_Keeper_unlock := ⟨a13, fn_Keeper_unlock, k13⟩,
    M_Keeper_ended := ⟨a14, fn_Keeper_ended, k14⟩,
    M_Keeper_times := ⟨a15, fn_Keeper_times, k15⟩,
    cl_Holder := ⟨pg_Holder, hd_Holder, po_Holder, sa_Holder⟩,
    mk_Holder := ⟨mk_Holder, a16, if_Holder, kc_Holder⟩,
    na_Holder_kept_greatest := na_Holder_kept_greatest,
    na_Holder_kept_right := na_Holder_kept_right,
    na_Holder_kept_note := na_Holder_kept_note,
    M_Holder_got := ⟨a17, fn_Holder_got, k17⟩,
    M_Holder_right := ⟨a18, fn_Holder_right, k18⟩,
    M_Holder_use := ⟨a19, fn_Holder_use, k19⟩,
    M_Holder_give := ⟨a20, fn_Holder_give, k20⟩,
    M_Holder_note := ⟨a21, fn_Holder_note, k21⟩,
    M_Holder_seen := ⟨a22, fn_Holder_seen, k22⟩,
    er_NoNumber := ⟨⟨⟨_, _, _, _, _, _, _, _, _, _, _, _, _, _, _, xL_NoNumber, ve_NoNumber⟩, sa_NoNumber, ex_NoNumber, ty_NoNumber, kC_NoNumber⟩, ⟨ga_NoNumber, gg_NoNumber, ex_NoNumber, hd_NoNumber⟩, no_NoNumber, a1, ti_NoNumber, ha_NoNumber, hm_NoNumber⟩,
    er_Shut := ⟨⟨⟨_, _, _, _, _, _, _, _, _, _, _, _, _, _, _, xL_Shut, ve_Shut⟩, sa_Shut, ex_Shut, ty_Shut, kC_Shut⟩, ⟨ga_Shut, gg_Shut, ex_Shut, hd_Shut⟩, no_Shut, a2, ti_Shut, ha_Shut, hm_Shut⟩,
    er_NoRight := ⟨⟨⟨_, _, _, _, _, _, _, _, _, _, _, _, _, _, _, xL_NoRight, ve_NoRight⟩, sa_NoRight, ex_NoRight, ty_NoRight, kC_NoRight⟩, ⟨ga_NoRight, gg_NoRight, ex_NoRight, hd_NoRight⟩, no_NoRight, a3, ti_NoRight, ha_NoRight, hm_NoRight⟩,
    er_NotShut := ⟨⟨⟨_, _, _, _, _, _, _, _, _, _, _, _, _, _, _, xL_NotShut, ve_NotShut⟩, sa_NotShut, ex_NotShut, ty_NotShut, kC_NotShut⟩, ⟨ga_NotShut, gg_NotShut, ex_NotShut, hd_NotShut⟩, no_NotShut, a4, ti_NotShut, ha_NotShut, hm_NotShut⟩,
    rd_StaffError := ⟨rd_StaffError, rg_StaffError⟩, vi_StaffError := vi_StaffError,
    oc_get := oc_get, oc_take := oc_take,
    ex_Shut_Shut := ex_Shut_Shut,
    ex_Shut_NotShut := ex_Shut_NotShut,
    ex_Shut_NoRight := ex_Shut_NoRight,
    ex_NotShut_Shut := ex_NotShut_Shut,
    ex_NotShut_NotShut := ex_NotShut_NotShut,
    ex_NotShut_NoRight := ex_NotShut_NoRight,
    ex_NoRight_Shut := ex_NoRight_Shut,
    ex_NoRight_NotShut := ex_NoRight_NotShut,
    ex_NoRight_NoRight := ex_NoRight_NoRight,
    c_GREATEST := u_GREATEST, mc_GREATEST := PySem.W.mg_of X G g_GREATEST, rc_GREATEST := r_GREATEST,
    z_bool := PySem.W.mg_none_of X G z_bool,
    z_enumerate := PySem.W.mg_none_of X G z_enumerate,
    z_int := PySem.W.mg_none_of X G z_int,
    z_isinstance := PySem.W.mg_none_of X G z_isinstance,
    z_len := PySem.W.mg_none_of X G z_len,
    z_max := PySem.W.mg_none_of X G z_max,
    z_min := PySem.W.mg_none_of X G z_min,
    z_range := PySem.W.mg_none_of X G z_range }
  rw [e]
  exact ⟨T.d_law, fun s v => .of_eq rfl, fun base _ _ hs => FnG.of (ok_law T)⟩
theorem walk {l : PySem.W.OpenLaw} {q : Program} {lo : List Str} {XP : (Str → Option Value) → Heap → Prop} {YP : World → Heap → Prop} {d : DefRec} {K : Params → PySem.W.Frag} (hn : l.most = some 63) (hdf : d.params.defaults = []) (hi : PyProof.Rows.importsNone q = true)
    (hY : ∀ (w : World) (h : Heap), YP w h → (K w.params).In h)
    (F : ∀ (w : World) (mg : Str → Option Value) (fa : Addr) (h : Heap), (K w.params).In h → h.Ns mainGlobals mg → mg d.name = some (.ref fa) →
      ∃ fd : FuncData, (∀ (s : Shared) (u : Value), BindsTo s fd ⟨[u], []⟩ [("_law_script", u)]) ∧ ∀ base : Heap, (K w.params).In base → base.Ns mainGlobals mg → (∃ mm, base.Ns sysModules mm) → FnG l.prog w (K w.params) mg base (L2.CX l.prog w) 7 fa fd ["_law_script"] (sp_law (K w.params))) :
    PySem.W.WalkO q lo XP YP l.row.toRowW d [] (fun f vs => PySem.call f vs) :=
  walkG (n := 63) (k := 7) (x := "_law_script") (cx := fun w => L2.CX l.prog w) (sp := fun w => sp_law (K w.params)) hn (by decide) hdf ⟨rfl, by decide, by decide⟩ hi hY F (fun _ _ a ns hl _ hS => ⟨_, rfl, a, ns, rfl, hS, hl, fun _ => rfl⟩) fun _ _ _ _ _ z => by obtain ⟨_, _, _, _, _, _, _, _, _, _, _, _, y⟩ := z; exact y
end K23
open PySem PySem.W PyProof.Rows
set_option maxRecDepth 100000 in
set_option maxHeartbeats 0 in
theorem PySem.Challenge.cw_onestaff_k23_whole_one_right_holds : PySem.Challenge.rw_onestaff_k23_whole_one_right.Holds := by
  w_on; o_law; k_head; (case hw => w_witness2)
  k_fill
  refine K23.walk (l := PySem.Challenge.rw_onestaff_k23_whole_one_right) rfl rfl rfl (fun w h Y => PySem.W.kIn_of Y) ?F
  case F =>
    intro w mg fa h KX G hmg
    refine' K23.all_mk KX G hmg ?n_Keeper ?n_Holder ?n_NoNumber ?n_Shut ?n_NoRight ?n_NotShut ?n_StaffError ?a1 ?l1 ?c1 ?k1 ?a2 ?l2 ?c2 ?k2 ?a3 ?l3 ?c3 ?k3 ?a4 ?l4 ?c4 ?k4 ?a5 ?l5 ?c5 ?k5 ?a6 ?l6 ?c6 ?k6 ?a7 ?l7 ?c7 ?k7 ?a8 ?l8 ?c8 ?k8 ?a9 ?l9 ?c9 ?k9 ?a10 ?l10 ?c10 ?k10 ?a11 ?l11 ?c11 ?k11 ?a12 ?l12 ?c12 ?k12 ?a13 ?l13 ?c13 ?k13 ?a14 ?l14 ?c14 ?k14 ?a15 ?l15 ?c15 ?k15 ?a16 ?l16 ?c16 ?k16 ?a17 ?l17 ?c17 ?k17 ?a18 ?l18 ?c18 ?k18 ?a19 ?l19 ?c19 ?k19 ?a20 ?l20 ?c20 ?k20 ?a21 ?l21 ?c21 ?k21 ?a22 ?l22 ?c22 ?k22 ?a23 ?l23 ?c23 ?k23 ?a24 ?l24 ?c24 ?k24 ?a25 ?l25 ?c25 ?k25 ?a26 ?l26 ?c26 ?k26 ?a27 ?l27 ?c27 ?k27 ?a28 ?l28 ?c28 ?k28 ?a29 ?l29 ?c29 ?k29 ?a30 ?l30 ?c30 ?k30 ?a31 ?l31 ?c31 ?k31 ?pg_Keeper ?hd_Keeper ?po_Keeper ?sa_Keeper ?mk_Keeper ?kc_Keeper ?if_Keeper ?na_Keeper_kept_times ?na_Keeper_kept_shut ?na_Keeper_kept_open ?fn_Keeper_lock ?fn_Keeper_locked ?fn_Keeper_is_this ?fn_Keeper_opens ?fn_Keeper_is_open ?fn_Keeper_let_go ?fn_Keeper_unlock ?fn_Keeper_ended ?fn_Keeper_times ?pg_Holder ?hd_Holder ?po_Holder ?sa_Holder ?mk_Holder ?kc_Holder ?if_Holder ?na_Holder_kept_greatest ?na_Holder_kept_right ?na_Holder_kept_note ?fn_Holder_got ?fn_Holder_right ?fn_Holder_use ?fn_Holder_give ?fn_Holder_note ?fn_Holder_seen ?xL_NoNumber ?ve_NoNumber ?sa_NoNumber ?ga_NoNumber ?gg_NoNumber ?no_NoNumber ?ex_NoNumber ?ty_NoNumber ?kC_NoNumber ?hd_NoNumber ?ha_NoNumber ?hm_NoNumber ?ti_NoNumber ?xL_Shut ?ve_Shut ?sa_Shut ?ga_Shut ?gg_Shut ?no_Shut ?ex_Shut ?ty_Shut ?kC_Shut ?hd_Shut ?ha_Shut ?hm_Shut ?ti_Shut ?xL_NoRight ?ve_NoRight ?sa_NoRight ?ga_NoRight ?gg_NoRight ?no_NoRight ?ex_NoRight ?ty_NoRight ?kC_NoRight ?hd_NoRight ?ha_NoRight ?hm_NoRight ?ti_NoRight ?xL_NotShut ?ve_NotShut ?sa_NotShut ?ga_NotShut ?gg_NotShut ?no_NotShut ?ex_NotShut ?ty_NotShut ?kC_NotShut ?hd_NotShut ?ha_NotShut ?hm_NotShut ?ti_NotShut ?rd_StaffError ?rg_StaffError ?vi_StaffError ?oc_get ?oc_take ?ex_Shut_Shut ?ex_Shut_NotShut ?ex_Shut_NoRight ?ex_NotShut_Shut ?ex_NotShut_NotShut ?ex_NotShut_NoRight ?ex_NoRight_Shut ?ex_NoRight_NotShut ?ex_NoRight_NoRight ?g_GREATEST ?r_GREATEST ?z_bool ?z_enumerate ?z_int ?z_isinstance ?z_len ?z_max ?z_min ?z_range
    (case n_Keeper => k_is)
    (case n_Holder => k_is)
    (case n_NoNumber => k_is)
    (case n_Shut => k_is)
    (case n_NoRight => k_is)
    (case n_NotShut => k_is)
    (case n_StaffError => k_is)
    (case a1 => k_is)
    (case l1 => k_is)
    (case c1 => k_is)
    (case k1 => k_is)
    (case a2 => k_is)
    (case l2 => k_is)
    (case c2 => k_is)
    (case k2 => k_is)
    (case a3 => k_is)
    (case l3 => k_is)
    (case c3 => k_is)
    (case k3 => k_is)
    (case a4 => k_is)
    (case l4 => k_is)
    (case c4 => k_is)
    (case k4 => k_is)
    (case a5 => k_is)
    (case l5 => k_is)
    (case c5 => k_is)
    (case k5 => k_is)
    (case a6 => k_is)
    (case l6 => k_is)
    (case c6 => k_is)
    (case k6 => k_is)
    (case a7 => k_is)
    (case l7 => k_is)
    (case c7 => k_is)
    (case k7 => k_is)
    (case a8 => k_is)
    (case l8 => k_is)
    (case c8 => k_is)
    (case k8 => k_is)
    (case a9 => k_is)
    (case l9 => k_is)
    (case c9 => k_is)
    (case k9 => k_is)
    (case a10 => k_is)
    (case l10 => k_is)
    (case c10 => k_is)
    (case k10 => k_is)
    (case a11 => k_is)
    (case l11 => k_is)
    (case c11 => k_is)
    (case k11 => k_is)
    (case a12 => k_is)
    (case l12 => k_is)
    (case c12 => k_is)
    (case k12 => k_is)
    (case a13 => k_is)
    (case l13 => k_is)
    (case c13 => k_is)
    (case k13 => k_is)
    (case a14 => k_is)
    (case l14 => k_is)
    (case c14 => k_is)
    (case k14 => k_is)
    (case a15 => k_is)
    (case l15 => k_is)
    (case c15 => k_is)
    (case k15 => k_is)
    (case a16 => k_is)
    (case l16 => k_is)
    (case c16 => k_is)
    (case k16 => k_is)
    (case a17 => k_is)
    (case l17 => k_is)
    (case c17 => k_is)
    (case k17 => k_is)
    (case a18 => k_is)
    (case l18 => k_is)
    (case c18 => k_is)
    (case k18 => k_is)
    (case a19 => k_is)
    (case l19 => k_is)
    (case c19 => k_is)
    (case k19 => k_is)
    (case a20 => k_is)
    (case l20 => k_is)
    (case c20 => k_is)
    (case k20 => k_is)
    (case a21 => k_is)
    (case l21 => k_is)
    (case c21 => k_is)
    (case k21 => k_is)
    (case a22 => k_is)
    (case l22 => k_is)
    (case c22 => k_is)
    (case k22 => k_is)
    (case a23 => k_is)
    (case l23 => k_is)
    (case c23 => k_is)
    (case k23 => k_is)
    (case a24 => k_is)
    (case l24 => k_is)
    (case c24 => k_is)
    (case k24 => k_is)
    (case a25 => k_is)
    (case l25 => k_is)
    (case c25 => k_is)
    (case k25 => k_is)
    (case a26 => k_is)
    (case l26 => k_is)
    (case c26 => k_is)
    (case k26 => k_is)
    (case a27 => k_is)
    (case l27 => k_is)
    (case c27 => k_is)
    (case k27 => k_is)
    (case a28 => k_is)
    (case l28 => k_is)
    (case c28 => k_is)
    (case k28 => k_is)
    (case a29 => k_is)
    (case l29 => k_is)
    (case c29 => k_is)
    (case k29 => k_is)
    (case a30 => k_is)
    (case l30 => k_is)
    (case c30 => k_is)
    (case k30 => k_is)
    (case a31 => k_is)
    (case l31 => k_is)
    (case c31 => k_is)
    (case k31 => k_is)
    (case pg_Keeper => k_is)
    (case hd_Keeper => k_is)
    (case po_Keeper => k_is)
    (case sa_Keeper => k_is)
    (case mk_Keeper => k_is)
    (case kc_Keeper => k_is)
    (case if_Keeper => k_is)
    (case na_Keeper_kept_times => k_is)
    (case na_Keeper_kept_shut => k_is)
    (case na_Keeper_kept_open => k_is)
    (case fn_Keeper_lock => k_is)
    (case fn_Keeper_locked => k_is)
    (case fn_Keeper_is_this => k_is)
    (case fn_Keeper_opens => k_is)
    (case fn_Keeper_is_open => k_is)
    (case fn_Keeper_let_go => k_is)
    (case fn_Keeper_unlock => k_is)
    (case fn_Keeper_ended => k_is)
    (case fn_Keeper_times => k_is)
    (case pg_Holder => k_is)
    (case hd_Holder => k_is)
    (case po_Holder => k_is)
    (case sa_Holder => k_is)
    (case mk_Holder => k_is)
    (case kc_Holder => k_is)
    (case if_Holder => k_is)
    (case na_Holder_kept_greatest => k_is)
    (case na_Holder_kept_right => k_is)
    (case na_Holder_kept_note => k_is)
    (case fn_Holder_got => k_is)
    (case fn_Holder_right => k_is)
    (case fn_Holder_use => k_is)
    (case fn_Holder_give => k_is)
    (case fn_Holder_note => k_is)
    (case fn_Holder_seen => k_is)
    (case xL_NoNumber => k_is)
    (case ve_NoNumber => rfl)
    (case sa_NoNumber => k_is)
    (case ga_NoNumber => k_is)
    (case gg_NoNumber => k_is)
    (case no_NoNumber => k_is)
    (case ex_NoNumber => k_is)
    (case ty_NoNumber => k_is)
    (case kC_NoNumber => k_is)
    (case hd_NoNumber => k_is)
    (case ha_NoNumber => k_is)
    (case hm_NoNumber => k_is)
    (case ti_NoNumber => k_is)
    (case xL_Shut => k_is)
    (case ve_Shut => rfl)
    (case sa_Shut => k_is)
    (case ga_Shut => k_is)
    (case gg_Shut => k_is)
    (case no_Shut => k_is)
    (case ex_Shut => k_is)
    (case ty_Shut => k_is)
    (case kC_Shut => k_is)
    (case hd_Shut => k_is)
    (case ha_Shut => k_is)
    (case hm_Shut => k_is)
    (case ti_Shut => k_is)
    (case xL_NoRight => k_is)
    (case ve_NoRight => rfl)
    (case sa_NoRight => k_is)
    (case ga_NoRight => k_is)
    (case gg_NoRight => k_is)
    (case no_NoRight => k_is)
    (case ex_NoRight => k_is)
    (case ty_NoRight => k_is)
    (case kC_NoRight => k_is)
    (case hd_NoRight => k_is)
    (case ha_NoRight => k_is)
    (case hm_NoRight => k_is)
    (case ti_NoRight => k_is)
    (case xL_NotShut => k_is)
    (case ve_NotShut => rfl)
    (case sa_NotShut => k_is)
    (case ga_NotShut => k_is)
    (case gg_NotShut => k_is)
    (case no_NotShut => k_is)
    (case ex_NotShut => k_is)
    (case ty_NotShut => k_is)
    (case kC_NotShut => k_is)
    (case hd_NotShut => k_is)
    (case ha_NotShut => k_is)
    (case hm_NotShut => k_is)
    (case ti_NotShut => k_is)
    (case rd_StaffError => k_is)
    (case rg_StaffError => k_is)
    (case vi_StaffError => k_is)
    (case oc_get => k_is)
    (case oc_take => k_is)
    (case ex_Shut_Shut => kts_exm)
    (case ex_Shut_NotShut => kts_exm)
    (case ex_Shut_NoRight => kts_exm)
    (case ex_NotShut_Shut => kts_exm)
    (case ex_NotShut_NotShut => kts_exm)
    (case ex_NotShut_NoRight => kts_exm)
    (case ex_NoRight_Shut => kts_exm)
    (case ex_NoRight_NotShut => kts_exm)
    (case ex_NoRight_NoRight => kts_exm)
    (case g_GREATEST => k_is)
    (case r_GREATEST => exact ⟨_, rfl⟩)
    (case z_bool => k_is)
    (case z_enumerate => k_is)
    (case z_int => k_is)
    (case z_isinstance => k_is)
    (case z_len => k_is)
    (case z_max => k_is)
    (case z_min => k_is)
    (case z_range => k_is)
#print axioms PySem.Challenge.cw_onestaff_k23_whole_one_right_holds

