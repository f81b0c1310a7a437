import PyProof.Rows.All
import Wide.All
import OpenK.AllK
import Wide.FinOn
import HandS.ForMost
import KE.RegKTryMore
import KE.RegKIsAll
import PyProof.ReprRoads
import HandS.EndBits
import PyProof.ReprBulk
import PyProof.StrLaws
import HandS.Wide
import HandS.IsInst
import HandS.TupAny
import HandS.Walk
import HandS.Small
import HandS.ForExc
import HandS.ExcInit
import HandS.ExcField
import HandS.ClsMeth
import HandS.Codes
import KE.KExcIs
import HandS.SortInts
import PyProof.P3Eq
import HandS.TupLe
import HandS.Defaults
import HandS.Iter
import KE.GoesEnum
import HandS.TryOnly
import HandS.Conv
import HandS.Sort
import PyProof.RangeFor
import PyProof.EqKinds
import HandS.Deep
import HandS.Text
import HandS.FStr
import HandS.Strs
import PyProof.StrLawsTight
import HandS.Zip
import HandS.RaiseMore
import HandS.HeadHook3
import KE.GoesZip
import KE.GoesMore
import HandS.Replace
import PyProof.StrBlock2
import PyProof.ListStr
import HandS.Style
import HandS.SetFor
import HandS.Head0
import HandS.Head1
import HandS.Head2
import HandS.HeadHook2
import KE.KRevSl
import HandS.RevTup
import KE.KDictZip
import HandS.Flow
import HandS.Words
import HandS.ExcIs
import HandS.ExcValue
import PySem.Challenge.RW_onestaff_k09_refusals_apart
set_option Elab.async false
set_option linter.all false
set_option maxRecDepth 100000
set_option maxHeartbeats 4000000

namespace U
open PySem L2 PySem.Spec PyProof.Rows

/-! a def's promise where no repr is under way around it -/
section
variable (P : Program) (w : World) (K : PySem.W.Frag) (mg : Str → Option Value) (base : Heap)
structure FnG (cx : CXT) (k : Nat) (f : Addr) (fd : FuncData) (ps : List Str) (sp : Sp) : Prop where
  len : ∀ vs H Q E, sp vs H Q E → vs.length = ps.length
  run : ∀ (A : Around) (o : List Env) (s : Shared) (H : Hp) (ar : Args) (us : List Value) (vs : List V) (Q : VK) (E : XK),
    A.guards = some [] → Room k A → Env0 P w K mg base A o s H → BindsTo s fd ar (ps.zip us) → Vals vs us → sp vs H Q E →
    codeAny (model P w) A (.call (.ref f) ar) (CR cx o P w H s Q E) s
end
section
variable {P : Program} {w : World} {K : PySem.W.Frag} {mg : Str → Option Value} {base : Heap} {cx : CXT} {k : Nat} {f : Addr} {fd : FuncData} {ps : List Str} {sp : Sp}
theorem FnG.of (F : FnOk P w K mg base cx k f fd ps sp) : FnG P w K mg base cx k f fd ps sp :=
  ⟨F.len, fun A o s H ar us vs Q E _ => F.run A o s H ar us vs Q E⟩
theorem FnG.mono {j : Nat} (F : FnG P w K mg base cx j f fd ps sp) (h : j ≤ k) : FnG P w K mg base cx k f fd ps sp :=
  ⟨F.len, fun A o s H ar us vs Q E g r => F.run A o s H ar us vs Q E g (r.mono h)⟩

theorem fnG_of {nm ql : Str} {pr : Arguments} {bd : List Stmt} {sc : Scope} {dV kV dc pm cd ct oc : Value} {an od : Option Addr} {os : Array (Option Value)} {N : List Str}
    (lk : K.lookup f = some ⟨oc, od, .func (PySem.W.fnOf nm ql pr bd sc dV kV dc pm an cd ct), os⟩) (hc : PySem.W.codeIn K cd ql = true) (S : FnScope N ps sc)
    (len : ∀ vs H Q E, sp vs H Q E → vs.length = ps.length)
    (hb : ∀ (A : Around) (o : List Env) (s : Shared) (H : Hp) (vs : List V) (Q : VK) (E : XK), A.guards = some [] → Room k (A.deeper (envOfC ql sc s.heap.objs.size f cd)) → sp vs H Q E →
      ∃ t, PSs (cxOf cx P w K mg base N ql sc f cd A o s H E) bd t ∧ t { nx := fun _ H' => Q .non H', rt := Q } (start N vs) H) :
    FnG P w K mg base cx (k + 1) f (PySem.W.fnOf nm ql pr bd sc dV kV dc pm an cd ct) ps sp where
  len := len
  run := by
    intro A o s H ar us vs Q E hg hr e0 bi vv q
    have hl := len vs H Q E q
    have kp : ∀ b ob, base.get? b = some ob → s.heap.get? b = some ob := fun b ob e => (e0.bs b ob e).1
    have KX : K.In s.heap := e0.mod.kin.keeps kp
    have nl : s.heap.NoLimit := e0.mod.nolimit.keeps kp
    refine codeAny_call_function hr.depth (KX f _ lk) rfl S.co S.gen rfl (PySem.W.codeRec_of KX hc) (bi _ _ _ _ ?_)
    refine wpAny_newFunctionEnv_cells S.kind (fun y hy => ?_) fun ev he s1 x => ?_
    · obtain ⟨n, v⟩ := y
      rcases S.par n (List.of_mem_zip hy).1 with e | e
      · exact Or.inl e
      · exact Or.inr ⟨e, PySem.W.cellsFrom_some _ _ _ (Or.inl e)⟩
    · subst he
      obtain ⟨t, ht, z⟩ := hb A o s H vs Q E hg (hr.deeper _) q
      have J0 : Inv (cxOf cx P w K mg base N ql sc f cd A o s H E) [] (start N vs) H s1 := inv_start S hr.hd e0 hl vv x
      refine ⟨nl.keeps x.toInCall.keep, codeAny_func (wpAny_mono (ht.run [] s1 (start N vs) H _ J0 z) (fun fl s2 h2 => ?_) fun _ _ h2 => h2)⟩
      cases fl with
      | brk => obtain ⟨_, _, _, z⟩ := h2; exact z.elim
      | cont => obtain ⟨_, _, _, z⟩ := h2; exact z.elim
      | next =>
        obtain ⟨σ2, H2, J, z⟩ := h2
        exact ⟨V.non, H2, J.os, J.bare, J.base, J.hok, rfl, z⟩
      | ret u =>
        obtain ⟨v, σ2, H2, J, rv, z⟩ := h2
        exact ⟨v, H2, J.os, J.bare, J.base, J.hok, rv, z⟩
theorem okG {nm ql : Str} {st : Stmt} {N : List Str} (F : Fun K nm ql st f fd) (S : FnScope N ps (defScope st)) (len : ∀ vs H Q E, sp vs H Q E → vs.length = ps.length)
    (hb : ∀ (cd : Value) (A : Around) (o : List Env) (s : Shared) (H : Hp) (vs : List V) (Q : VK) (E : XK), A.guards = some [] → Room k (A.deeper (envOfC ql (defScope st) s.heap.objs.size f cd)) → sp vs H Q E →
      ∃ t, PSs (cxOf cx P w K mg base N ql (defScope st) f cd A o s H E) (defBody st) t ∧ t { nx := fun _ H' => Q .non H', rt := Q } (start N vs) H) :
    FnG P w K mg base cx (k + 1) f fd ps sp := by
  obtain ⟨_, _, _, _, _, _, cd, _, _, rfl, lk, hc⟩ := F.ex
  exact fnG_of lk hc S len fun A o s H vs Q E g r q => hb cd A o s H vs Q E g r q
theorem okG0 {nm ql : Str} {st : Stmt} {N : List Str} (F : Fun K nm ql st f fd) (S : FnScope N ps (defScope st)) (len : ∀ vs H Q E, sp vs H Q E → vs.length = ps.length)
    (hb : ∀ (cd : Value) (A : Around) (o : List Env) (s : Shared) (H : Hp) (vs : List V) (Q : VK) (E : XK), A.guards = some [] → Room k (A.deeper (envOfC ql (defScope st) s.heap.objs.size f cd)) → sp vs H Q E →
      ∃ t, PSs (cxOf CX0 P w K mg base N ql (defScope st) f cd A o s H E).nox (defBody st) t ∧ t { nx := fun _ H' => Q .non H', rt := Q } (start N vs) H) :
    FnG P w K mg base CX0 (k + 1) f fd ps sp :=
  okG F S len fun cd A o s H vs Q E g r q => by
    obtain ⟨t, h, z⟩ := hb cd A o s H vs Q E g r q
    exact ⟨t, h.nox, z⟩
end

section
variable {X : Cx} {cx : CXT} {k : Nat} {f : Addr} {fd : FuncData} {ps : List Str} {sp : Sp} {E : XK} {x : Str} {p pos : Pos} {e : Expr} {es : List Expr} {t : TA}
theorem run_fnG {pins : List (Addr × Obj)} {σ : L2.St} {H : Hp} {s : Shared} {Q : VK} {us : List Value} {vs : List V} (F : FnG X.prog X.w X.K X.mg X.base cx k f fd ps sp) (hg : X.A.guards = some []) (hr : Room k X.A) (hb : Binds X.K fd ps [])
    (hx : Passes cx X E) (I : Inv X pins σ H s) (r : Vals vs us) (h : sp vs H Q E) : wpAny (model X.prog X.w) X.A (call (.ref f) us) (EP X pins σ Q) X.xe s := by
  have e1 : us ++ [] = us := List.append_nil us
  have hl : (us ++ []).length = ps.length := by rw [e1, ← r.length]; exact F.len _ _ _ _ h
  have b1 := hb s us I.kIn hl
  rw [e1] at b1
  refine wpAny_call (codeAny_mono (F.run X.A X.stack s H ⟨us, []⟩ us vs Q E hg hr I.env0 b1 r h) fun rr s' hq => ?_)
  match rr, hq with
  | .error er, hq => exact hx pins σ H s er s' I hq
  | .ok (.ret u), hq => exact I.after hq
  | .ok .next, hq => exact False.elim hq
  | .ok .brk, hq => exact False.elim hq
  | .ok .cont, hq => exact False.elim hq
def tGo (sp : Sp) (E : XK) (t : TA) : TE := fun σ H Q => t σ H fun vs H1 => sp vs H1 Q E
/-- f(e, ..) -/
theorem pe_go (F : FnG X.prog X.w X.K X.mg X.base cx k f fd ps sp) (hg : X.A.guards = some []) (hr : Room k X.A) (gl : Gl X x) (hm : X.mg x = some (.ref f)) (hk : PySem.W.keepIn X.K (.ref f) = true) (hb : Binds X.K fd ps []) (hx : Passes cx X E)
    (ha : PA X (e :: es) t) (h1 : (x == ("__debug__" : Str)) = false := by decide) (h2 : starEach (e :: es) X.env = (false, eval e X.env) :: starEach es X.env := by rfl) (h3 : (backTo pos (starEach es X.env)).any (·.1) = false := by rfl) :
    PE X (.Call (.Name x p) (e :: es) [] pos) (tGo sp E t) := by
  refine ⟨fun pi s σ H Q I h => wpAny_Call_Name_kw (ld_glob I gl hm ?_ h1)⟩
  refine PySem.W.callWith_K (h₀ := X.base) I.ok.mod.kin hk (thn (ha.run pos pi s σ H _ I h) ?_) h2 h3
  rintro us s1 ⟨vs, H1, I1, r, q⟩
  exact ⟨I1.kIn, run_fnG F hg hr hb hx I1 r q⟩
theorem pe_go0 (F : FnG X.prog X.w X.K X.mg X.base cx k f fd ps sp) (hg : X.A.guards = some []) (hr : Room k X.A) (gl : Gl X x) (hm : X.mg x = some (.ref f)) (hk : PySem.W.keepIn X.K (.ref f) = true) (hb : Binds X.K fd ps []) (hx : Passes cx X E)
    (h1 : (x == ("__debug__" : Str)) = false := by decide) : PE X (.Call (.Name x p) [] [] pos) (tGo sp E tNil) := by
  refine ⟨fun pi s σ H Q I h => wpAny_Call_Name_kw (ld_glob I gl hm ?_ h1)⟩
  exact PySem.W.callWith_K0 I.kIn hk (run_fnG (us := []) F hg hr hb hx I .nil h)
end

/-! the law's own call -/
section
variable {P : Program} {w : World} {K : PySem.W.Frag} {mg mb : Str → Option Value} {cx : CXT} {k : Nat} {fa a : Addr} {fd : FuncData} {x : Str} {sp : Sp} {s1 : Shared} {vs : List Value} {ns : List Int}
/-- the heap at the entry: the script alone is tracked, as it stands -/
def Hin (K : PySem.W.Frag) (a : Addr) (o : Obj) (ns : List Int) : Hp := fun b => if b = a ∧ K.lookup a = none then some (.frz o (.lst (ns.map V.int))) else none
theorem law_callG (KX : K.In s1.heap) (hns : s1.heap.Ns mainGlobals mg) (hb : s1.heap.Ns builtinsNs mb) (hbb : ∀ x : Str, x ≠ "__name__" → mb x = bootBuiltins x) (hlim : s1.heap.NoLimit) (hsy : ∃ mm, s1.heap.Ns sysModules mm) (hg : s1.gens = #[])
    (ha : s1.heap.get? a = some { cls := .type "list", data := .seq vs.toArray }) (hi : IntsAre vs ns) (hl : ns.length ≤ sizeLine) (hr : Room k callerA)
    (F : ∀ base : Heap, K.In base → base.Ns mainGlobals mg → (∃ mm, base.Ns sysModules mm) → FnG P w K mg base cx k fa fd [x] sp)
    (hbind : ∀ (s : Shared) (u : Value), BindsTo s fd ⟨[u], []⟩ [(x, u)])
    (hsp : ∀ H : Hp, SqL K H a (ns.map V.int) → sp [.ref a] H (fun v _ => v = .bl true) fun _ _ _ => False)
    (hcx : ∀ H e s', cx [] H s1 (fun _ _ _ => False) e s' → False) :
    codeAny (model P w) callerA (.call (.ref fa) ⟨[.ref a], []⟩) (fun r s' => r = .ok (.ret (.bool true)) ∧ OldK s1.heap s'.heap ∧ s'.os = s1.os ∧ AllBare s'.gens) s1 := by
  generalize ho : ({ cls := .type "list", data := .seq vs.toArray } : Obj) = o at ha
  have rv := vals_ints hi
  have hlen := hi.length
  have hH : ∀ b u, Hin K a o ns b = some u → b = a ∧ K.lookup a = none ∧ u = .frz o (.lst (ns.map V.int)) := fun b u e => by
    unfold Hin at e
    by_cases c : b = a ∧ K.lookup a = none
    · rw [if_pos c] at e; exact ⟨c.1, c.2, (Option.some.inj e).symm⟩
    · rw [if_neg c] at e; cases e
  have hok : HOk P w (Hin K a o ns) s1.heap := fun b u e => by
    obtain ⟨rfl, _, rfl⟩ := hH b u e
    exact ⟨ha, by rw [List.length_map]; exact hl, vs, _, rv, by rw [ha, ← ho]⟩
  have hS : SqL K (Hin K a o ns) a (ns.map V.int) := by
    cases hk : K.lookup a with
    | none => exact Or.inl (Or.inr ⟨o, if_pos ⟨rfl, hk⟩⟩)
    | some o2 =>
      have e := KX a o2 hk
      rw [ha] at e
      cases e
      exact Or.inr ⟨_, vs.toArray, 0, hk, by rw [← ho], by rw [← ho], by rw [← ho], by rw [List.size_toArray, hlen]; exact hl, rv⟩
  have toB : ∀ {b : Addr} {ob : Obj}, s1.heap.get? b = some ob → Hin K a o ns b = none → (hidT s1.heap (Hin K a o ns)).get? b = some ob := fun e n => hidT_get e n
  have dictN : ∀ {b : Addr} {ob : Obj}, s1.heap.get? b = some ob → (∀ it n, ob.data ≠ .seq it n) → Hin K a o ns b = none := fun {b ob} e d => by
    cases q : Hin K a o ns b with
    | none => rfl
    | some u =>
      obtain ⟨rfl, _, _⟩ := hH b u q
      rw [ha] at e
      cases e
      exact (d vs.toArray 0 (by rw [← ho])).elim
  have nsB : ∀ {b : Addr} {m : Str → Option Value}, s1.heap.Ns b m → (hidT s1.heap (Hin K a o ns)).Ns b m := fun {b m} h => by
    obtain ⟨ob, es, ep, e, d, r⟩ := h
    exact ⟨ob, es, ep, toB e (dictN e fun it n z => by rw [d] at z; cases z), d, r⟩
  have KB : K.In (hidT s1.heap (Hin K a o ns)) := fun b ob e => toB (KX b ob e) (by
    cases q : Hin K a o ns b with
    | none => rfl
    | some u =>
      obtain ⟨rfl, z, _⟩ := hH b u q
      rw [z] at e; cases e)
  have lim : (hidT s1.heap (Hin K a o ns)).NoLimit := by
    obtain ⟨mc, h1, h2⟩ := hlim
    exact ⟨mc, nsB h1, h2⟩
  have M : Mod K mg (hidT s1.heap (Hin K a o ns)) := ⟨KB, nsB hns, ⟨mb, nsB hb, hbb⟩, lim⟩
  have e0 : Env0 P w K mg (hidT s1.heap (Hin K a o ns)) callerA [] s1 (Hin K a o ns) :=
    ⟨rfl, M, fun b ob e => of_hidT e, Nat.le_of_eq (hidT_size _ _), trivial, fun b z => (nomatch z), hok, .of_eq hg⟩
  have G := F _ KB (nsB hns) (by obtain ⟨mm, z⟩ := hsy; exact ⟨mm, nsB z⟩)
  refine codeAny_mono (G.run callerA [] s1 _ ⟨[.ref a], []⟩ [.ref a] [.ref a] _ _ rfl hr e0 (hbind s1 (.ref a)) (.cons rfl .nil) (hsp _ hS)) fun r s2 h => ?_
  match r, h with
  | .error er, h => exact (hcx _ er s2 h).elim
  | .ok .next, h => exact False.elim h
  | .ok .brk, h => exact False.elim h
  | .ok .cont, h => exact False.elim h
  | .ok (.ret u), h =>
    obtain ⟨v, H2, os, br, un, hok2, r2, q⟩ := h
    have q2 : v = .bl true := q
    subst q2
    obtain rfl : u = Value.bool true := r2
    refine ⟨rfl, OldK.of_keep fun b ob e => ?_, os, br⟩
    cases z : Hin K a o ns b with
    | none => exact un.keep b ob e z (fun m => nomatch m) (fun m => nomatch m)
    | some u =>
      obtain ⟨rfl, _, rfl⟩ := hH b u z
      obtain ⟨y, _⟩ := hok2 b _ (un.frzs b _ _ z)
      rw [ha] at e
      cases e
      exact y
end
/-- the end of a law: what k_head leaves, from the law's promise -/
theorem walkG {l : PySem.W.OpenLaw} {n k : Nat} {q : Program} {lo : List Str} {XP : (Str → Option Value) → Heap → Prop} {YP : World → Heap → Prop} {d : DefRec} {K : Params → PySem.W.Frag} {cx : World → CXT} {sp : World → Sp} {x : Str}
    (hn : l.most = some n) (hn2 : n ≤ sizeLine) (hdf : d.params.defaults = []) (hr : Room k callerA) (him : importsNone q = true)
    (hY : ∀ (w : World) (h : Heap), YP w h → (K w.params).In h)
    (F : ∀ (w : World) (mg : Str → Option Value) (fa : Addr) (h : Heap), (K w.params).In h → h.Ns mainGlobals mg → mg d.name = some (.ref fa) →
      ∃ fd : FuncData, (∀ (s : Shared) (u : Value), BindsTo s fd ⟨[u], []⟩ [(x, u)]) ∧
        ∀ base : Heap, (K w.params).In base → base.Ns mainGlobals mg → (∃ mm, base.Ns sysModules mm) → FnG l.prog w (K w.params) mg base (cx w) k fa fd [x] (sp w))
    (hsp : ∀ (w : World) (H : Hp) (a : Addr) (ns : List Int), ns.length ≤ n → (∀ z ∈ ns, Builtin.Int.intBits z ≤ 1048576) → SqL (K w.params) H a (ns.map V.int) → sp w [.ref a] H (fun v _ => v = .bl true) fun _ _ _ => False)
    (hcx : ∀ (w : World) (H : Hp) (s : Shared) (e : Value) (s' : Shared), cx w [] H s (fun _ _ _ => False) e s' → False) :
    PySem.W.WalkO q lo XP YP l.row.toRowW d [] (fun f vs => PySem.call f vs) := by
  refine Att.attach_callB hn hdf ?_
  intro w s0 s1 mg mb fa o pm cd doc a vs ns G Y ho hd hcd hmg hob hin hle hbi hge
  obtain ⟨fd, hb, hF⟩ := F w mg fa _ (hY w _ Y) G.T.g hmg
  have hsy : ∃ mm, s1.heap.Ns sysModules mm := by
    obtain ⟨mm, z, _⟩ := (G.T.seer him).mods
    exact ⟨mm, z⟩
  exact law_callG (hY w _ Y) G.T.g G.T.b G.T.builtins G.T.nolimit hsy hge hob hin (Nat.le_trans hle hn2) hr hF hb (fun H hS => hsp w H a ns hle hbi hS) fun H e s' => hcx w H s1 e s'

/-! data, by what repr shows -/
def keyD (k : Key) : PyData := match k with | .inl i => PyData.int i | .inr x => PyData.str x
mutual
inductive Dn (K : PySem.W.Frag) (H : Hp) : V → PyData → Prop
  | non : Dn K H .non .none
  | bl (b : Bool) : Dn K H (.bl b) (.bool b)
  | int (i : Int) : Dn K H (.int i) (.int i)
  | str (x : Str) : Dn K H (.str x) (.str x)
  | lst {a : Addr} {xs : List V} {ds : List PyData} : Rd H a (.lst xs) → DnA K H xs ds → Dn K H (.ref a) (.list ds)
  | tup {a : Addr} {xs : List V} {ds : List PyData} : SqT K H a xs → DnA K H xs ds → Dn K H (.ref a) (.tuple ds)
  | dic {a : Addr} {kvs : List (Key × V)} {ds : List PyData} : Rd H a (.dK kvs) → DnA K H (kvs.map (·.2)) ds → Dn K H (.ref a) (.dict ((kvs.map fun p => keyD p.1).zip ds))
inductive DnA (K : PySem.W.Frag) (H : Hp) : List V → List PyData → Prop
  | nil : DnA K H [] []
  | cons {v : V} {vs : List V} {d : PyData} {ds : List PyData} : Dn K H v d → DnA K H vs ds → DnA K H (v :: vs) (d :: ds)
end
end U

namespace U
open PySem L2 PySem.Spec PyProof.Rows

section
variable {X : Cx} {pins : List (Addr × Obj)} {σ : L2.St} {H : Hp} {s : Shared}
theorem rd_low (I : Inv X pins σ H s) (hs : ∃ mm, X.base.Ns sysModules mm) {a : Addr} {u : HO} (r : Rd H a u) : a ≠ sysModules := by
  rintro rfl
  obtain ⟨mm, ob, es, ep, e, _⟩ := hs
  have n := (I.bs _ ob e).2
  rcases r with r | ⟨o, r⟩ <;> (rw [n] at r; cases r)
theorem pairs_reads {P : Program} {w : World} {h : Heap} : ∀ {es : List DictEntry} {kvs : List (Key × V)} {vs : List (Key × Value)}, Pairs (mixKind P w) es vs → KV kvs vs →
    ReadsAll h (es.map (·.key)) (kvs.map fun p => keyD p.1) [] ∧ Vals (kvs.map (·.2)) (es.map (·.val))
  | _, _, _, .nil, .nil => ⟨.nil, .nil⟩
  | e :: es, (k, v) :: kvs, (k2, u) :: vs, .cons h1 h2 h3, .cons ⟨q1, q2⟩ h4 => by
    obtain ⟨r1, r2⟩ := pairs_reads (h := h) h3 h4
    have q1 : k = k2 := q1
    subst q1
    refine ⟨?_, .cons (show RelV v e.val by rw [h2]; exact q2) r2⟩
    show ReadsAll h (e.key :: _) (keyD k :: _) ([] ++ [])
    refine .cons ?_ r1
    rcases keyIs_shape h1 with ⟨i, t, z, y⟩ | ⟨x, t, z, y⟩
    · have z : k = Sum.inl i := z
      rw [y, z]; exact Reads.int i t
    · have z : k = Sum.inr x := z
      rw [y, z]; exact Reads.str x t
mutual
theorem Dn.reads (I : Inv X pins σ H s) (hs : ∃ mm, X.base.Ns sysModules mm) : ∀ {v : V} {d : PyData} {u : Value}, Dn X.K H v d → RelV v u → ∃ as, Reads s.heap u d as ∧ sysModules ∉ as
  | _, _, _, .non, r => by cases r; exact ⟨[], Reads.none, by simp⟩
  | _, _, _, .bl b, r => by cases r; exact ⟨[], Reads.bool b, by simp⟩
  | _, _, _, .int i, r => by obtain ⟨t, rfl⟩ := r; exact ⟨[], Reads.int i t, by simp⟩
  | _, _, _, .str x, r => by obtain ⟨t, rfl⟩ := r; exact ⟨[], Reads.str x t, by simp⟩
  | _, _, _, .lst h1 h2, r => by
    cases r
    obtain ⟨its, rv, ⟨o, n, ho, hc, _, hd⟩, _⟩ := I.list (Or.inl h1)
    obtain ⟨as, q1, q2⟩ := DnA.reads I hs h2 rv
    exact ⟨_, Reads.list ho hc hd q1, fun m => (List.mem_cons.mp m).elim (fun e => rd_low I hs h1 e.symm) q2⟩
  | _, _, _, .tup h1 h2, r => by
    cases r
    obtain ⟨its, rv, ⟨o, ho, hc, n, hd⟩, _⟩ := I.tuple h1
    obtain ⟨as, q1, q2⟩ := DnA.reads I hs h2 rv
    exact ⟨_, Reads.tuple ho hc hd q1, q2⟩
  | _, _, _, .dic (kvs := kvs) (ds := ds) h1 h2, r => by
    cases r
    obtain ⟨_, low, vs, kv, o, es, ep, ho, hc, hd, _, hp, _⟩ := h1.ok I.hok
    obtain ⟨q1, q2⟩ := pairs_reads (h := s.heap) hp kv
    obtain ⟨as, q3, q4⟩ := DnA.reads I hs h2 q2
    have el : ds.length = kvs.length := by
      have e1 := DnA.len h2
      rw [List.length_map] at e1
      exact e1.symm
    have z1 : ((kvs.map fun p => keyD p.1).zip ds).map (·.1) = kvs.map fun p => keyD p.1 := by
      rw [List.map_fst_zip]; rw [List.length_map]; omega
    have z2 : ((kvs.map fun p => keyD p.1).zip ds).map (·.2) = ds := by
      rw [List.map_snd_zip]; rw [List.length_map]; omega
    refine ⟨_, Reads.dict ho hc.1 hd (kvs := (kvs.map fun p => keyD p.1).zip ds) (as := []) (bs := as) ?_ ?_, ?_⟩
    · rw [z1]; exact q1
    · rw [z2]; exact q3
    · intro m
      rcases List.mem_cons.mp m with e | e
      · exact rd_low I hs h1 e.symm
      · exact q4 (by simpa using e)
theorem DnA.reads (I : Inv X pins σ H s) (hs : ∃ mm, X.base.Ns sysModules mm) : ∀ {vs : List V} {ds : List PyData} {us : List Value}, DnA X.K H vs ds → Vals vs us → ∃ as, ReadsAll s.heap us ds as ∧ sysModules ∉ as
  | _, _, _, .nil, r => by cases r; exact ⟨[], ReadsAll.nil, by simp⟩
  | _, _, _, .cons h1 h2, r => by
    cases r with
    | cons r1 r2 =>
      obtain ⟨as, q1, q2⟩ := Dn.reads I hs h1 r1
      obtain ⟨bs, q3, q4⟩ := DnA.reads I hs h2 r2
      exact ⟨_, ReadsAll.cons q1 q3, fun m => (List.mem_append.mp m).elim q2 q4⟩
theorem DnA.len {K : PySem.W.Frag} : ∀ {vs : List V} {ds : List PyData}, DnA K H vs ds → vs.length = ds.length
  | _, _, .nil => rfl
  | _, _, .cons _ h => by rw [List.length_cons, List.length_cons, DnA.len h]
end
end
/-! what may be shown, and how long it is -/
mutual
def good : PyData → Prop
  | .none => True
  | .bool _ => True
  | .int i => i.natAbs < 10 ^ 100
  | .str x => ∀ c ∈ x.cps.toList, c < 4294967296
  | .list xs => goodA xs
  | .tuple xs => goodA xs
  | .dict kvs => goodK kvs
def goodA : List PyData → Prop
  | [] => True
  | x :: xs => good x ∧ goodA xs
def goodK : List (PyData × PyData) → Prop
  | [] => True
  | (k, v) :: r => good k ∧ good v ∧ goodK r
end
mutual
def sz : PyData → Nat
  | .none => 4
  | .bool _ => 5
  | .int _ => 102
  | .str x => 10 * x.length + 2
  | .list xs => szA xs + 3
  | .tuple xs => szA xs + 3
  | .dict kvs => szK kvs + 3
def szA : List PyData → Nat
  | [] => 0
  | x :: xs => sz x + 2 + szA xs
def szK : List (PyData × PyData) → Nat
  | [] => 0
  | (k, v) :: r => sz k + sz v + 4 + szK r
end
theorem int_len {i : Int} (h : i.natAbs < 10 ^ 100) : (Str.ofString (toString i)).length ≤ 102 := by
  have e := int_text_length_le10 (k := 100) (by decide) h
  rw [PySem.ofString_length]
  omega
mutual
theorem good_show : ∀ {d : PyData}, good d → d.showable = true ∧ d.shown.length ≤ sz d
  | .none, _ => ⟨rfl, by decide +kernel⟩
  | .bool b, _ => ⟨rfl, by cases b <;> decide +kernel⟩
  | .int i, h => by
    refine ⟨?_, ?_⟩
    · simp only [PyData.showable, decide_eq_true_eq]
      have h : i.natAbs < 10 ^ 100 := by simpa only [good] using h
      refine log2_small (Nat.lt_of_lt_of_le h ?_)
      decide +kernel
    · have h : i.natAbs < 10 ^ 100 := by simpa only [good] using h
      exact int_len h
  | .str x, h => by
    refine ⟨rfl, ?_⟩
    have h : ∀ c ∈ x.cps.toList, c < 4294967296 := by simpa only [good] using h
    simp only [PyData.shown, sz]
    exact StrLaws.reprText_len x h
  | .list xs, h => by
    have q := goodA_show (ds := xs) (by simpa only [good] using h)
    refine ⟨by simpa only [PyData.showable] using q.1, ?_⟩
    simp only [PyData.shown, sz]
    have := listText_len_le (PyData.shownAll xs)
    have e : (PyData.shownAll xs).length = xs.length := q.2.2
    omega
  | .tuple xs, h => by
    have q := goodA_show (ds := xs) (by simpa only [good] using h)
    refine ⟨by simpa only [PyData.showable] using q.1, ?_⟩
    simp only [PyData.shown, sz]
    have := tupleText_len_le (PyData.shownAll xs)
    have e : (PyData.shownAll xs).length = xs.length := q.2.2
    omega
  | .dict kvs, h => by
    have q := goodK_show (ds := kvs) (by simpa only [good] using h)
    refine ⟨by simpa only [PyData.showable] using q.1, ?_⟩
    simp only [PyData.shown, sz]
    have := dictText_len_le (PyData.shownKv kvs)
    have e : (PyData.shownKv kvs).length = kvs.length := q.2.2
    omega
theorem goodA_show : ∀ {ds : List PyData}, goodA ds → PyData.showableAll ds = true ∧ ((PyData.shownAll ds).map (·.length)).sum + 2 * ds.length ≤ szA ds ∧ (PyData.shownAll ds).length = ds.length
  | [], _ => ⟨rfl, by simp [PyData.shownAll, szA], rfl⟩
  | x :: xs, h => by
    obtain ⟨h1, h2⟩ : good x ∧ goodA xs := by simpa only [goodA] using h
    obtain ⟨a1, a2⟩ := good_show h1
    obtain ⟨b1, b2, b3⟩ := goodA_show h2
    refine ⟨by simp only [PyData.showableAll, a1, b1, Bool.and_self], ?_, by simp only [PyData.shownAll, List.length_cons, b3]⟩
    simp only [PyData.shownAll, szA, List.map_cons, List.sum_cons, List.length_cons]
    omega
theorem goodK_show : ∀ {ds : List (PyData × PyData)}, goodK ds → PyData.showableKv ds = true ∧ ((PyData.shownKv ds).map (·.length)).sum + 2 * ds.length ≤ szK ds ∧ (PyData.shownKv ds).length = ds.length
  | [], _ => ⟨rfl, by simp [PyData.shownKv, szK], rfl⟩
  | (k, v) :: r, h => by
    obtain ⟨h1, h2, h3⟩ : good k ∧ good v ∧ goodK r := by simpa only [goodK] using h
    obtain ⟨a1, a2⟩ := good_show h1
    obtain ⟨c1, c2⟩ := good_show h2
    obtain ⟨b1, b2, b3⟩ := goodK_show h3
    refine ⟨by simp only [PyData.showableKv, a1, c1, b1, Bool.and_self], ?_, by simp only [PyData.shownKv, List.length_cons, b3]⟩
    have e : (": " : Str).length = 2 := by decide +kernel
    simp only [PyData.shownKv, szK, List.map_cons, List.sum_cons, List.length_cons, Str.length_append]
    have e : (Str.ofString ": ").length = 2 := by decide +kernel
    omega
end
/-- repr -/
def rRepr (K : PySem.W.Frag) : List V → Hp → VK → Prop := fun xs H Q => ∃ v d, xs = [v] ∧ Dn K H v d ∧ good d ∧ d.depth ≤ 100 ∧ sz d ≤ 16000000 ∧ Q (.str d.shown) H
theorem call_repr {X : Cx} {k : Nat} (hg : X.A.guards = some []) (hr : Room k X.A) (hs : ∃ mm, X.base.Ns sysModules mm) : CallR X (.builtin "repr") (rRepr X.K) := by
  rintro pi s σ H xs us Q I vv ⟨v, d, rfl, hd, g, dp, zz, q⟩
  obtain ⟨u, rfl, rv⟩ := Vals.one vv
  obtain ⟨sh, le⟩ := good_show g
  have le2 : d.shown.length ≤ sizeLine := Nat.le_trans (Nat.le_trans le zz) (by decide)
  have hu := hr.un
  cases hd with
  | non => cases rv; exact PySem.P.repr_of_none ⟨.str _, H, I.tok _, ⟨_, rfl⟩, q⟩
  | bl b => cases rv; exact PySem.P.repr_of_bool ⟨.str _, H, I.tok _, ⟨_, rfl⟩, q⟩
  | int i =>
    obtain ⟨t, rfl⟩ := rv
    simp only [PyData.showable, decide_eq_true_eq] at sh
    exact PySem.P.repr_of_int sh ⟨.str _, H, I.tok _, ⟨_, rfl⟩, q⟩
  | str x =>
    obtain ⟨t, rfl⟩ := rv
    exact PySem.P.repr_of_str ⟨.str _, H, I.tok _, ⟨_, rfl⟩, q⟩ le2
  | lst h1 h2 =>
    obtain ⟨as, r1, r2⟩ := Dn.reads I hs (.lst h1 h2) rv
    cases rv
    exact repr_of_reads' r1 sh (fun _ => r2) hg (by omega) (fun _ _ e => e) (fun h' u tk hk => ⟨.str _, H, I.kept hk, ⟨_, rfl⟩, q⟩) le2
  | tup h1 h2 =>
    obtain ⟨as, r1, r2⟩ := Dn.reads I hs (.tup h1 h2) rv
    cases rv
    exact repr_of_reads' r1 sh (fun _ => r2) hg (by omega) (fun _ _ e => e) (fun h' u tk hk => ⟨.str _, H, I.kept hk, ⟨_, rfl⟩, q⟩) le2
  | dic h1 h2 =>
    obtain ⟨as, r1, r2⟩ := Dn.reads I hs (.dic h1 h2) rv
    cases rv
    exact repr_of_reads' r1 sh (fun _ => r2) hg (by omega) (fun _ _ e => e) (fun h' u tk hk => ⟨.str _, H, I.kept hk, ⟨_, rfl⟩, q⟩) le2
end U

namespace U
open PySem L2 PySem.Spec PyProof.Rows

/-! operators, whatever the values -/
def rStrCat : R2 := fun x y H Q => ∃ i j, x = .str i ∧ y = .str j ∧ i.length + j.length ≤ sizeLine ∧ Q (.str (i ++ j)) H
def uAdd (K : PySem.W.Frag) : R2 := fun x y H Q => (rI0 fun i j => .int (i + j)) x y H Q ∨ rStrCat x y H Q ∨ rCat x y H Q ∨ rCatA K x y H Q
def uSub : R2 := rI0 fun i j => .int (i - j)
def uMul : R2 := fun x y H Q => (rI CMul fun i j => .int (i * j)) x y H Q ∨ rRep x y H Q
def uMod : R2 := rI (fun _ j => 0 < j) fun i j => .int (i % j)
def uDiv : R2 := rI CDivW fun i j => .int (i / j)
def uPow : R2 := rI CPow fun i j => .int (i ^ j.toNat)
def uLt : R2 := rI0 fun i j => .bl (decide (i < j))
def uLe : R2 := rI0 fun i j => .bl (decide (i ≤ j))
def uGt : R2 := rI0 fun i j => .bl (decide (j < i))
def uGe : R2 := rI0 fun i j => .bl (decide (j ≤ i))
def uEq (K : PySem.W.Frag) : R2 := fun x y H Q => rEq x y H Q ∨ rEqD K x y H Q
def uNe (K : PySem.W.Frag) : R2 := fun x y H Q => rNe x y H Q ∨ rNeD K x y H Q
def rInSign (ng : Bool) : R2 := fun x y H Q => ∃ (c : Nat) (z : Str), x = .str ⟨#[c]⟩ ∧ y = .str z ∧ Q (.bl (if ng then !decide (c ∈ z.cps.toList) else decide (c ∈ z.cps.toList))) H
def uIn (K : PySem.W.Frag) (ng : Bool) : R2 := fun x y H Q => rInSign ng x y H Q ∨ rIn K ng x y H Q
def uIs : R2 := fun x y H Q => y = .non ∧ Q (.bl (decide (x = .non))) H
def uIsNot : R2 := fun x y H Q => y = .non ∧ Q (.bl (!decide (x = .non))) H
section
variable {X : Cx} {k : Nat} {K : PySem.W.Frag}
theorem o_add (hK : X.K = K) : OpR X (binaryOp .Add) (uAdd K) := hK ▸ op_add.or (op_add_str.or (op_cat.or op_catA))
theorem o_sub : OpR X (binaryOp .Sub) uSub := op_sub
theorem o_mul : OpR X (binaryOp .Mult) uMul := op_mul.or op_rep
theorem o_mod : OpR X (binaryOp .Mod) uMod := op_mod
theorem o_div : OpR X (binaryOp .FloorDiv) uDiv := op_fdivW
theorem o_pow : OpR X (binaryOp .Pow) uPow := op_pow
theorem o_lt : OpR X (compareOp .Lt) uLt := op_lt
theorem o_le : OpR X (compareOp .LtE) uLe := op_le
theorem o_gt : OpR X (compareOp .Gt) uGt := op_gt
theorem o_ge : OpR X (compareOp .GtE) uGe := op_ge
theorem o_eq (hK : X.K = K) (hr : Room k X.A) : OpR X (compareOp .Eq) (uEq K) := hK ▸ op_eq.or (op_eqD hr.units)
theorem o_ne (hK : X.K = K) (hr : Room k X.A) : OpR X (compareOp .NotEq) (uNe K) := hK ▸ op_ne.or (op_neD hr.units)
theorem o_in (hK : X.K = K) : OpR X (compareOp .In) (uIn K false) := hK ▸ op_in_sign.or op_in_seq
theorem o_notin (hK : X.K = K) : OpR X (compareOp .NotIn) (uIn K true) := hK ▸ op_notIn_sign.or op_notIn_seq
theorem o_is : OpR X (compareOp .Is) uIs := op_isN
theorem o_isnot : OpR X (compareOp .IsNot) uIsNot := op_notN
/-- a built-in type's name as a value -/
theorem pe_ty {x : Str} {n : String} {pos : Pos} (hg : Gl X x) (hm : X.mg x = none) (hv : bootBuiltins x = some (.type n)) (hn : x ≠ "__name__" := by decide) (hd : (x == ("__debug__" : Str)) = false := by decide) : PE X (.Name x pos) (tC (.ty n)) :=
  pe_bltn hg hm hv rfl hn hd
def uSl (K : PySem.W.Frag) : V → Option Int → Option Int → Hp → VK → Prop := fun x lo hi H Q => rSlL K x lo hi H Q ∨ rSlS x lo hi H Q ∨ rSlA K x lo hi H Q
theorem ix_u (hK : X.K = K) : IxR X (rIx K) := hK ▸ ix_seq
theorem sl_u (hK : X.K = K) : SlR X (uSl K) := hK ▸ sl_list.or (sl_str.or sl_tupA)
end

/-! steps -/
section
variable {K : PySem.W.Frag} {σ : L2.St} {H : Hp} {Q : VK} {D : Ends} {t u : TS} {ta tb tc te : TE} {tA tB' : TT} {r r' : R2} {x y v : V} {i : Nat} {n m : Int} {a b : Str}
theorem s_seq (h : t { D with nx := u D } σ H) : tSeq t u D σ H := h
theorem s_next (h : D.nx σ H) : tNext D σ H := h
theorem s_brk (h : D.bk σ H) : tBreak D σ H := h
theorem s_cnt (h : D.ct σ H) : tCont D σ H := h
theorem s_retN (h : D.rt .non H) : tRetN D σ H := h
theorem s_var (h : σ[i]? = some (some v)) (q : Q v H) : tVar i σ H Q := ⟨v, h, q⟩
theorem s_c (q : Q v H) : tC v σ H Q := q
theorem s_op (h : ta σ H fun x H1 => tb σ H1 fun y H2 => r x y H2 Q) : tOp r ta tb σ H Q := h
theorem s_un {r : V → Hp → VK → Prop} (h : ta σ H fun x H1 => r x H1 Q) : tUn r ta σ H Q := h
theorem s_neg (q : Q (.int (-n)) H) : (rU fun i => .int (-i)) (.int n) H Q := ⟨n, rfl, q⟩
theorem s_test {Q : Bool → Hp → Prop} (h : te σ H fun x H' => ∃ k, x = .bl k ∧ Q k H') : tTest te σ H Q := h
theorem s_B {Q : Bool → Hp → Prop} (h : te σ H fun x H' => ∃ k, x = .bl k ∧ Q k H') : tB te σ H Q := h
theorem s_bl {P : Bool → Prop} {k : Bool} (q : P k) : ∃ c, V.bl k = .bl c ∧ P c := ⟨k, rfl, q⟩
theorem s_chain (h : ta σ H fun x H1 => tb σ H1 fun y H2 => r x y H2 fun z H3 => ∃ k, z = .bl k ∧ (if k = true then tc σ H3 fun w' H4 => r' y w' H4 Q else Q (.bl false) H3)) : tChain r r' ta tb tc σ H Q := h
theorem s_asg {g : TG} (h : te σ H fun x H1 => g x σ H1 D.nx) : tAsg te g D σ H := h
theorem s_name {R : L2.St → Hp → Prop} (h : R (σ.set i (some v)) H) : gName i v σ H R := h
theorem s_ret (h : te σ H D.rt) : tRet te D σ H := h
theorem s_drop (h : te σ H fun _ H1 => D.nx σ H1) : tDrop te D σ H := h
theorem s_ifS (h : tA σ H fun b H1 => if b = true then t D σ H1 else u D σ H1) : tIfS tA t u D σ H := h
theorem s_and {Q : Bool → Hp → Prop} (h : tA σ H fun c H1 => if c = true then tB' σ H1 Q else Q false H1) : tAnd tA tB' σ H Q := h
theorem s_or {Q : Bool → Hp → Prop} (h : tA σ H fun c H1 => if c = true then Q true H1 else tB' σ H1 Q) : tOr tA tB' σ H Q := h
theorem s_not {Q : Bool → Hp → Prop} (h : tA σ H fun c H1 => Q (!c) H1) : tNot tA σ H Q := h
theorem s_andV (h : ta σ H fun x H1 => ∃ c, x = .bl c ∧ if c = true then tb σ H1 Q else Q (.bl false) H1) : tAndV ta tb σ H Q := h
theorem s_orV (h : ta σ H fun x H1 => ∃ c, x = .bl c ∧ if c = true then Q (.bl true) H1 else tb σ H1 Q) : tOrV ta tb σ H Q := h
theorem s_notV (h : ta σ H fun x H1 => ∃ c, x = .bl c ∧ Q (.bl (!c)) H1) : tNotV ta σ H Q := h
theorem s_if (h : tA σ H fun c H1 => if c = true then ta σ H1 Q else tb σ H1 Q) : tIf tA ta tb σ H Q := h
theorem s_add (q : Q (.int (n + m)) H) : uAdd K (.int n) (.int m) H Q := Or.inl ⟨n, m, rfl, rfl, q⟩
theorem s_adds (h : a.length + b.length ≤ sizeLine) (q : Q (.str (a ++ b)) H) : uAdd K (.str a) (.str b) H Q := Or.inr (Or.inl ⟨a, b, rfl, rfl, h, q⟩)
theorem s_sub (q : Q (.int (n - m)) H) : uSub (.int n) (.int m) H Q := ⟨n, m, rfl, rfl, q⟩
theorem s_mul (h : CMul n m) (q : Q (.int (n * m)) H) : uMul (.int n) (.int m) H Q := Or.inl ⟨n, m, rfl, rfl, h, q⟩
theorem s_mod (h : 0 < m) (q : Q (.int (n % m)) H) : uMod (.int n) (.int m) H Q := ⟨n, m, rfl, rfl, h, q⟩
theorem s_div (h : CDivW n m) (q : Q (.int (n / m)) H) : uDiv (.int n) (.int m) H Q := ⟨n, m, rfl, rfl, h, q⟩
theorem s_pow {r : Int} (h : CPow n m) (e : n ^ m.toNat = r) (q : Q (.int r) H) : uPow (.int n) (.int m) H Q := ⟨n, m, rfl, rfl, h, (show Q (.int (n ^ m.toNat)) H by rw [e]; exact q)⟩
theorem cpow {i j : Int} (h0 : 0 ≤ i) (h1 : i < 9223372036854775808) (h2 : 0 ≤ j) (h3 : j ≤ 1000000) : CPow i j := ⟨h2, h3, by omega⟩
theorem cdiv {i j : Int} (h0 : 0 < j) (h1 : j < 100000000000000000000000000000000000000000) : CDivW i j := wide_div (b := 200) h0 (by
  have e : ((j.natAbs : Nat) : Int) < ((2 ^ 200 : Nat) : Int) := by
    rw [Int.natAbs_of_nonneg (by omega)]
    exact Int.lt_trans h1 (by decide)
  exact Int.ofNat_lt.mp e) (by decide) (by decide)
theorem cmulL {i j : Int} (h1 : -9223372036854775808 < i) (h2 : i < 9223372036854775808) : CMul i j := Or.inl ⟨by omega, by omega⟩
theorem cmulR {i j : Int} (h1 : -9223372036854775808 < j) (h2 : j < 9223372036854775808) : CMul i j := Or.inr ⟨by omega, by omega⟩
theorem s_lt (q : Q (.bl (decide (n < m))) H) : uLt (.int n) (.int m) H Q := ⟨n, m, rfl, rfl, q⟩
theorem s_le (q : Q (.bl (decide (n ≤ m))) H) : uLe (.int n) (.int m) H Q := ⟨n, m, rfl, rfl, q⟩
theorem s_gt (q : Q (.bl (decide (m < n))) H) : uGt (.int n) (.int m) H Q := ⟨n, m, rfl, rfl, q⟩
theorem s_ge (q : Q (.bl (decide (m ≤ n))) H) : uGe (.int n) (.int m) H Q := ⟨n, m, rfl, rfl, q⟩
theorem dec_int {n m : Int} : decide (V.int n = V.int m) = decide (n = m) := by
  by_cases h : n = m
  · subst h; simp
  · rw [decide_eq_false h]; exact decide_eq_false fun q => h (V.int.inj q)
theorem dec_str {n m : Str} : decide (V.str n = V.str m) = decide (n = m) := by
  by_cases h : n = m
  · subst h; simp
  · rw [decide_eq_false h]; exact decide_eq_false fun q => h (V.str.inj q)
theorem s_eqi (q : Q (.bl (decide (n = m))) H) : uEq K (.int n) (.int m) H Q := Or.inl ⟨rfl, by rw [dec_int]; exact q⟩
theorem s_nei (q : Q (.bl (!decide (n = m))) H) : uNe K (.int n) (.int m) H Q := Or.inl ⟨rfl, by rw [dec_int]; exact q⟩
theorem s_eqs (q : Q (.bl (decide (a = b))) H) : uEq K (.str a) (.str b) H Q := Or.inl ⟨rfl, by rw [dec_str]; exact q⟩
theorem s_nes (q : Q (.bl (!decide (a = b))) H) : uNe K (.str a) (.str b) H Q := Or.inl ⟨rfl, by rw [dec_str]; exact q⟩
theorem s_in1 {c : Nat} {z : Str} (q : Q (.bl (decide (c ∈ z.cps.toList))) H) : uIn K false (.str ⟨#[c]⟩) (.str z) H Q := Or.inl ⟨c, z, rfl, rfl, q⟩
theorem s_notin1 {c : Nat} {z : Str} (q : Q (.bl (!decide (c ∈ z.cps.toList))) H) : uIn K true (.str ⟨#[c]⟩) (.str z) H Q := Or.inl ⟨c, z, rfl, rfl, q⟩
theorem s_is (q : Q (.bl (decide (x = .non))) H) : uIs x .non H Q := ⟨rfl, q⟩
theorem s_isnot (q : Q (.bl (!decide (x = .non))) H) : uIsNot x .non H Q := ⟨rfl, q⟩
/-- items of lists -/
theorem s_nil {Q : List V → Hp → Prop} (q : Q [] H) : tNil σ H Q := q
theorem s_cons {Q : List V → Hp → Prop} {tr : TA} (h : te σ H fun x H1 => tr σ H1 fun xs H2 => Q (x :: xs) H2) : tCons te tr σ H Q := h
def LstK (Q : VK) (xs : List V) (H : Hp) : Prop := xs.length ≤ sizeLine ∧ ∀ p, H p = none → Q (.ref p) (upd H p (.lst xs))
def TupK (Q : VK) (xs : List V) (H : Hp) : Prop := xs.length ≤ sizeLine ∧ ∀ p, H p = none → Q (.ref p) (upd H p (.tup xs))
theorem s_lst {t : TA} (h : t σ H (LstK Q)) : tLst t σ H Q := h
theorem s_tup {t : TA} (h : t σ H (TupK Q)) : tTup t σ H Q := h
theorem s_cb {r : List V → Hp → VK → Prop} {t : TA} (h : t σ H fun vs H1 => r vs H1 Q) : tCB r t σ H Q := h
theorem s_go {sp : Sp} {E : XK} {t : TA} (h : t σ H fun vs H1 => sp vs H1 Q E) : tGo sp E t σ H Q := h
theorem s_max (q : Q (.int (if m > n then m else n)) H) : (fun xs H Q => ∃ i j, xs = [V.int i, V.int j] ∧ Q (.int (if j > i then j else i)) H : List V → Hp → VK → Prop) [.int n, .int m] H Q := ⟨n, m, rfl, q⟩
theorem at_nat {α : Type} {xs : List α} {j : Nat} {z : α} (h : xs[j]? = some z) : atI xs (j : Int) = some z := by
  have hj : j < xs.length := (List.getElem?_eq_some_iff.mp h).1
  unfold atI ixN
  rw [if_pos (by omega), if_pos (by omega)]
  simpa using h
theorem at_int {α : Type} {xs : List α} {j : Int} (h0 : 0 ≤ j) (h1 : j < xs.length) : ∃ z, xs[j.toNat]? = some z ∧ atI xs j = some z := by
  refine ⟨xs[j.toNat]'(by omega), by simp, ?_⟩
  have := at_nat (xs := xs) (j := j.toNat) (z := xs[j.toNat]'(by omega)) (by simp)
  rwa [Int.toNat_of_nonneg h0] at this
theorem s_ixL {p : Addr} {xs : List V} (h : SqL K H p xs) (ha : atI xs n = some v) (q : Q v H) : rIx K (.ref p) (.int n) H Q := Or.inl ⟨p, xs, n, v, rfl, rfl, h, ha, q⟩
theorem s_ixl {p : Addr} {xs : List V} (h : H p = some (.lst xs)) (ha : atI xs n = some v) (q : Q v H) : rIx K (.ref p) (.int n) H Q := Or.inl ⟨p, xs, n, v, rfl, rfl, SqL.of h, ha, q⟩
theorem s_ixt {p : Addr} {xs : List V} (h : H p = some (.tup xs)) (ha : atI xs n = some v) (q : Q v H) : rIx K (.ref p) (.int n) H Q := Or.inr (Or.inl ⟨p, xs, n, v, rfl, rfl, SqT.of h, ha, q⟩)
theorem s_ixs {z : Str} {c : Nat} (hz : z.length ≤ sizeLine) (ha : atI z.cps.toList n = some c) (q : Q (.str ⟨#[c]⟩) H) : rIx K (.str z) (.int n) H Q := Or.inr (Or.inr ⟨z, n, c, rfl, rfl, hz, ha, q⟩)
theorem s_sub2 {to ti : TE} {t : V → V → V → Hp → (Hp → Prop) → Prop} {R : L2.St → Hp → Prop} (h : to σ H fun o H1 => ti σ H1 fun i H2 => t o i v H2 fun H3 => R σ H3) : gSub to ti t v σ H R := h
theorem s_setl {p : Addr} {xs ys : List V} {j : Nat} {R : Hp → Prop} (h : H p = some (.lst xs)) (hj : ixN xs.length n = some j) (e : xs.set j v = ys) (q : R (upd H p (.lst ys))) : rSetL (.ref p) (.int n) v H R := ⟨p, xs, n, j, rfl, rfl, h, hj, by rw [e]; exact q⟩
theorem s_ite {p : Prop} [Decidable p] {A B : Prop} (h1 : p → A) (h2 : ¬p → B) : if decide p = true then A else B := by
  by_cases h : p
  · rw [decide_eq_true h, if_pos rfl]; exact h1 h
  · rw [decide_eq_false h, if_neg Bool.false_ne_true]; exact h2 h
theorem s_itn {p : Prop} [Decidable p] {A B : Prop} (h1 : ¬p → A) (h2 : p → B) : if (!decide p) = true then A else B := by
  by_cases h : p
  · rw [decide_eq_true h]; exact h2 h
  · rw [decide_eq_false h]; exact h1 h
theorem s_itt {A B : Prop} (h : A) : if true = true then A else B := h
theorem s_itf {A B : Prop} (h : B) : if false = true then A else B := h
theorem s_itb {k : Bool} {A B : Prop} (h1 : k = true → A) (h2 : k = false → B) : if k = true then A else B := by
  cases k with
  | true => exact h1 rfl
  | false => exact h2 rfl
end

/-! heaps: what stands still stands -/
section
variable {K : PySem.W.Frag} {H H1 H2 : Hp} {ps qs : List Addr} {a b p : Addr} {o u : HO}
/-- the kind of what stands -/
def ko : HO → Nat
  | .lst _ => 0 | .tup _ => 1 | .dK _ => 2 | .dT _ => 3 | .set _ _ => 4 | .ins _ _ _ => 5 | .own _ => 6 | .xd _ => 7 | .met _ _ => 8 | .rng _ _ => 9 | .frz _ _ => 10 | .tbl _ => 11
  | _ => 12
def Th (H : Hp) (a : Addr) (i : Nat) : Prop := ∃ o, H a = some o ∧ ko o = i
theorem Th.of (h : H a = some o) : Th H a (ko o) := ⟨o, h, rfl⟩
theorem Th.lst {xs : List V} (h : H a = some (.lst xs)) : Th H a 0 := ⟨_, h, rfl⟩
theorem Th.tup {xs : List V} (h : H a = some (.tup xs)) : Th H a 1 := ⟨_, h, rfl⟩
theorem Th.dK {xs : List (Key × V)} (h : H a = some (.dK xs)) : Th H a 2 := ⟨_, h, rfl⟩
theorem Th.ins {C dx : Addr} {xs : List (Str × V)} (h : H a = some (.ins C dx xs)) : Th H a 5 := ⟨_, h, rfl⟩
theorem Th.xd {xs : List (Str × V)} (h : H a = some (.xd xs)) : Th H a 7 := ⟨_, h, rfl⟩
/-- all that stood, but at the places ps, stands as it stood; and what stood stands, of its kind -/
structure Kp (ps : List Addr) (H H' : Hp) : Prop where
  keep : ∀ b o, H b = some o → b ∉ ps → H' b = some o
  kd : ∀ b i, Th H b i → Th H' b i
  tp : ∀ b xs, H b = some (.tup xs) → H' b = some (.tup xs)
theorem Kp.dom (h : Kp ps H H1) (b : Addr) (n : H1 b = none) : H b = none := by
  cases e : H b with
  | none => rfl
  | some o =>
    obtain ⟨o', e', _⟩ := h.kd b _ (Th.of e)
    rw [e'] at n; cases n
theorem Kp.refl : Kp ps H H := ⟨fun _ _ e _ => e, fun _ _ e => e, fun _ _ e => e⟩
theorem Kp.trans (h : Kp ps H H1) (g : Kp ps H1 H2) : Kp ps H H2 := ⟨fun b o e n => g.keep b o (h.keep b o e n) n, fun b i e => g.kd b i (h.kd b i e), fun b xs e => g.tp b xs (h.tp b xs e)⟩
theorem Kp.mono (h : Kp ps H H1) (g : ∀ a ∈ ps, a ∈ qs) : Kp qs H H1 := ⟨fun b o e n => h.keep b o e fun m => n (g b m), h.kd, h.tp⟩
theorem Kp.nil (h : Kp [] H H1) : Kp ps H H1 := h.mono fun _ m => nomatch m
theorem Kp.get (h : Kp ps H H1) (e : H b = some o) (n : b ∉ ps) : H1 b = some o := h.keep b o e n
theorem Kp.get0 (h : Kp [] H H1) (e : H b = some o) : H1 b = some o := h.keep b o e (by simp)
theorem Kp.get1 (h : Kp [p] H H1) (e : H b = some o) (n : b ≠ p) : H1 b = some o := h.keep b o e (by simpa using n)
theorem Kp.new (h : Kp ps H H1) (n : H1 p = none) : Kp ps H (upd H1 p u) := ⟨fun b o e m => by
  have e1 := h.keep b o e m
  rw [upd_ne (ne_of_none e1 n)]
  exact e1, fun b i e => by
  obtain ⟨o, e1, r⟩ := h.kd b i e
  exact ⟨o, by rw [upd_ne (ne_of_none e1 n)]; exact e1, r⟩, fun b xs e => by
  have e1 := h.tp b xs e
  rw [upd_ne (ne_of_none e1 n)]
  exact e1⟩
theorem Kp.put (h : Kp ps H H1) (m : p ∈ ps) (z : Th H1 p (ko u)) (y : Nat.beq (ko u) 1 = false := by rfl) : Kp ps H (upd H1 p u) := ⟨fun b o e n => by
  rw [upd_ne (fun z => n (by rw [z]; exact m))]
  exact h.keep b o e n, fun b i e => by
  by_cases y : b = p
  · subst y
    obtain ⟨o1, e1, r1⟩ := z
    obtain ⟨o2, e2, r2⟩ := h.kd b i e
    rw [e1] at e2
    cases e2
    exact ⟨u, upd_same, by rw [← r1, r2]⟩
  · obtain ⟨o2, e2, r2⟩ := h.kd b i e
    exact ⟨o2, by rw [upd_ne y]; exact e2, r2⟩, fun b xs e => by
  have e1 := h.tp b xs e
  have n : b ≠ p := fun x => by
    subst x
    obtain ⟨o1, e2, r1⟩ := z
    rw [e1] at e2
    cases e2
    rw [← r1] at y
    cases y
  rw [upd_ne n]
  exact e1⟩
theorem Kp.tgt {xs : List V} (h : Kp ps H H1) (e : H b = some (.tup xs)) : H1 b = some (.tup xs) := h.tp b xs e
theorem Kp.fresh (h : Kp ps H H1) (n : H1 p = none) : H p = none := h.dom p n
theorem Kp.fresh0 (h : Kp [] H H1) (n : H1 p = none) : H p = none := h.dom p n
/-- a place that did not stand may have changed -/
theorem Kp.drop (h : Kp (p :: ps) H H1) (n : H p = none) : Kp ps H H1 := ⟨fun b o e m => h.keep b o e (by
  intro z
  rcases List.mem_cons.mp z with z | z
  · subst z; rw [n] at e; cases e
  · exact m z), h.kd, h.tp⟩
/-- a new object, the heap behind it as a letter -/
theorem new_abs {o : HO} {R : Addr → Hp → Prop} (h : ∀ p H', H p = none → H' p = some o → Kp [] H H' → R p H') : ∀ p, H p = none → R p (upd H p o) :=
  fun p f => h p _ f upd_same (Kp.refl.new f)
theorem s_newl {Q : VK} {xs : List V} (hz : xs.length ≤ sizeLine) (h : ∀ p H', H p = none → H' p = some (.lst xs) → Kp [] H H' → Q (.ref p) H') : LstK Q xs H := ⟨hz, new_abs h⟩
theorem s_newt {Q : VK} {xs : List V} (hz : xs.length ≤ sizeLine) (h : ∀ p H', H p = none → H' p = some (.tup xs) → Kp [] H H' → Q (.ref p) H') : TupK Q xs H := ⟨hz, new_abs h⟩
theorem s_addl {Q : VK} {p q : Addr} {xs ys : List V} (h1 : H p = some (.lst xs)) (h2 : H q = some (.lst ys)) (h : xs.length + ys.length ≤ sizeLine)
    (z : ∀ p' H', H p' = none → H' p' = some (.lst (xs ++ ys)) → Kp [] H H' → Q (.ref p') H') : uAdd K (.ref p) (.ref q) H Q :=
  Or.inr (Or.inr (Or.inl ⟨p, q, xs, ys, rfl, rfl, h1, h2, h, new_abs z⟩))
theorem Kp.rd (h : Kp [] H H1) (e : Rd H a u) : Rd H1 a u := by
  rcases e with e | ⟨o, e⟩
  · exact Or.inl (h.get0 e)
  · exact Or.inr ⟨o, h.get0 e⟩
theorem Kp.sql {xs : List V} (h : Kp [] H H1) (e : SqL K H a xs) : SqL K H1 a xs := by
  rcases e with e | e
  · exact Or.inl (h.rd e)
  · exact Or.inr e
theorem Kp.sqt {xs : List V} (h : Kp [] H H1) (e : SqT K H a xs) : SqT K H1 a xs := by
  rcases e with e | e
  · exact Or.inl (h.rd e)
  · exact Or.inr e
end
end U

namespace U
open PySem L2 PySem.Spec PyProof.Rows

/-! promises by the number of arguments -/
abbrev P0 := Hp → VK → XK → Prop
def sp0 (F : P0) : Sp := fun vs H Q E => vs = [] ∧ F H Q E
def sp1 (F : V → P0) : Sp := fun vs H Q E => ∃ a, vs = [a] ∧ F a H Q E
def sp2 (F : V → V → P0) : Sp := fun vs H Q E => ∃ a b, vs = [a, b] ∧ F a b H Q E
def sp3 (F : V → V → V → P0) : Sp := fun vs H Q E => ∃ a b c, vs = [a, b, c] ∧ F a b c H Q E
def sp4 (F : V → V → V → V → P0) : Sp := fun vs H Q E => ∃ a b c d, vs = [a, b, c, d] ∧ F a b c d H Q E
def sp5 (F : V → V → V → V → V → P0) : Sp := fun vs H Q E => ∃ a b c d e, vs = [a, b, c, d, e] ∧ F a b c d e H Q E
def sp6 (F : V → V → V → V → V → V → P0) : Sp := fun vs H Q E => ∃ a b c d e f, vs = [a, b, c, d, e, f] ∧ F a b c d e f H Q E
section
variable {H : Hp} {Q : VK} {E : XK} {a b c d e f : V}
theorem s_sp0 {F : P0} (h : F H Q E) : sp0 F [] H Q E := ⟨rfl, h⟩
theorem s_sp1 {F : V → P0} (h : F a H Q E) : sp1 F [a] H Q E := ⟨a, rfl, h⟩
theorem s_sp2 {F : V → V → P0} (h : F a b H Q E) : sp2 F [a, b] H Q E := ⟨a, b, rfl, h⟩
theorem s_sp3 {F : V → V → V → P0} (h : F a b c H Q E) : sp3 F [a, b, c] H Q E := ⟨a, b, c, rfl, h⟩
theorem s_sp4 {F : V → V → V → V → P0} (h : F a b c d H Q E) : sp4 F [a, b, c, d] H Q E := ⟨a, b, c, d, rfl, h⟩
theorem s_sp5 {F : V → V → V → V → V → P0} (h : F a b c d e H Q E) : sp5 F [a, b, c, d, e] H Q E := ⟨a, b, c, d, e, rfl, h⟩
theorem s_sp6 {F : V → V → V → V → V → V → P0} (h : F a b c d e f H Q E) : sp6 F [a, b, c, d, e, f] H Q E := ⟨a, b, c, d, e, f, rfl, h⟩
end

/-! built-in names -/
theorem bt_len : bootBuiltins "len" = some (.builtin "len") := by decide +kernel
theorem bt_max : bootBuiltins "max" = some (.builtin "max") := by decide +kernel
theorem bt_min : bootBuiltins "min" = some (.builtin "min") := by decide +kernel
theorem bt_all : bootBuiltins "all" = some (.builtin "all") := by decide +kernel
theorem bt_any : bootBuiltins "any" = some (.builtin "any") := by decide +kernel
theorem bt_repr : bootBuiltins "repr" = some (.builtin "repr") := by decide +kernel
theorem bt_sorted : bootBuiltins "sorted" = some (.builtin "sorted") := by decide +kernel
theorem bt_sum : bootBuiltins "sum" = some (.builtin "sum") := by decide +kernel
theorem bt_isinstance : bootBuiltins "isinstance" = some (.builtin "isinstance") := by decide +kernel
theorem bt_int : bootBuiltins "int" = some (.type "int") := by decide +kernel
theorem bt_bool : bootBuiltins "bool" = some (.type "bool") := by decide +kernel
theorem bt_str : bootBuiltins "str" = some (.type "str") := by decide +kernel
theorem bt_list : bootBuiltins "list" = some (.type "list") := by decide +kernel
theorem bt_tuple : bootBuiltins "tuple" = some (.type "tuple") := by decide +kernel
theorem bt_dict : bootBuiltins "dict" = some (.type "dict") := by decide +kernel
theorem bt_set : bootBuiltins "set" = some (.type "set") := by decide +kernel
theorem bt_range : bootBuiltins "range" = some (.type "range") := by decide +kernel

section
variable {X : Cx} {K : PySem.W.Frag}
def uLen (K : PySem.W.Frag) : List V → Hp → VK → Prop := fun xs H Q => (∃ x n, xs = [x] ∧ LenV K x H n ∧ Q (.int n) H) ∨ ∃ a kvs, xs = [V.ref a] ∧ H a = some (.dK kvs) ∧ Q (.int kvs.length) H
theorem c_len (hK : X.K = K) : CallR X (.builtin "len") (uLen K) := hK ▸ call_len.or call_lenD
def uMax : List V → Hp → VK → Prop := fun xs H Q => ∃ i j, xs = [.int i, .int j] ∧ Q (.int (if j > i then j else i)) H
def uMin : List V → Hp → VK → Prop := fun xs H Q => ∃ i j, xs = [.int i, .int j] ∧ Q (.int (if j < i then j else i)) H
theorem c_max (hc : X.calm = true) : CallR X (.builtin "max") uMax := call_max2 hc
theorem c_min (hc : X.calm = true) : CallR X (.builtin "min") uMin := call_min2 hc
def uStr : List V → Hp → VK → Prop := fun xs H Q => ∃ i, xs = [.int i] ∧ i.natAbs.log2 < 1920 ∧ Q (.str (toString i)) H
theorem c_isi (hK : X.K = K) : CallR X (.builtin "isinstance") (rIsi K) := hK ▸ call_isi
theorem c_all (hK : X.K = K) (hc : X.calm = true) : CallR X (.builtin "all") (rAll K) := hK ▸ cr_all hc
theorem c_any (hK : X.K = K) (hc : X.calm = true) : CallR X (.builtin "any") (rAny K) := hK ▸ cr_any hc
theorem c_repr {k : Nat} (hK : X.K = K) (hg : X.A.guards = some []) (hr : Room k X.A) (hs : ∃ mm, X.base.Ns sysModules mm) : CallR X (.builtin "repr") (rRepr K) := hK ▸ call_repr hg hr hs
theorem c_str : CallR X (.type "str") uStr := call_str_int
end

def uJoin (K : PySem.W.Frag) : V → List V → Hp → VK → Prop := fun x xs H Q => ∃ a p, ∃ ys : List Str, x = .str a ∧ xs = [.ref p] ∧ (SqL K H p (ys.map V.str) ∨ SqT K H p (ys.map V.str)) ∧
  (ys.map (·.length)).sum + ys.length * a.length ≤ 16777216 ∧ Q (.str (Txt.join a ys)) H
theorem pe_joinU {X : Cx} {K : PySem.W.Frag} {o e : Expr} {to te : TE} {ap pos : Pos} (hK : X.K = K) (ho : PE X o to) (he : PE X e te) (h1 : starEach [e] X.env = [(false, eval e X.env)] := by rfl) (h2 : attributeBase o "join" X.env (eval o X.env) = eval o X.env := by rfl)
    (h3 : (ap.endLine == pos.line) = true := by rfl) : PE X (.Call (.Attribute o "join" ap) [e] [] pos) (tM1 (uJoin K) to te) := hK ▸ pe_join ho he h1 h2 h3

theorem pi_lst {X : Cx} {K : PySem.W.Frag} {tg l : Expr} {tl : TE} (hK : X.K = K) (hl : PE X l tl) : PI X tg l (iList K tl) := hK ▸ pi_list hl
theorem pi_tpl {X : Cx} {K : PySem.W.Frag} {tg l : Expr} {tl : TE} (hK : X.K = K) (hl : PE X l tl) : PI X tg l (iTup K tl) := hK ▸ pi_tup hl

/-! more steps -/
theorem zle {n : Nat} (h : n ≤ 1000000) : n ≤ sizeLine := Nat.le_trans h (by decide)
/-- what kind of thing a value is -/
inductive Kd | non | bl | int | str | lst | tup | dic
def Kd.nm : Kd → String
  | .non => "NoneType" | .bl => "bool" | .int => "int" | .str => "str" | .lst => "list" | .tup => "tuple" | .dic => "dict"
inductive TyN (H : Hp) : V → Kd → Prop
  | non : TyN H .non .non
  | bl {b : Bool} : TyN H (.bl b) .bl
  | int {i : Int} : TyN H (.int i) .int
  | str {z : Str} : TyN H (.str z) .str
  | lst {a : Addr} {xs : List V} : H a = some (.lst xs) → TyN H (.ref a) .lst
  | tup {a : Addr} {xs : List V} : H a = some (.tup xs) → TyN H (.ref a) .tup
  | dic {a : Addr} {kvs : List (Key × V)} : H a = some (.dK kvs) → TyN H (.ref a) .dic
theorem TyN.ty {K : PySem.W.Frag} {H : Hp} {v : V} {n : Kd} (h : TyN H v n) : TyX K H v (.type n.nm) := by
  cases h with
  | non => exact .base .non
  | bl => exact .base (.bl _)
  | int => exact .base (.int _)
  | str => exact .base (.str _)
  | lst e => exact .base (.lst e)
  | tup e => exact .base (.tup e)
  | dic e => exact .base (.dK e)
theorem TyN.kp {H H' : Hp} {v : V} {n : Kd} (h : TyN H v n) (k : Kp [] H H') : TyN H' v n := by
  cases h with
  | non => exact .non
  | bl => exact .bl
  | int => exact .int
  | str => exact .str
  | lst e => exact .lst (k.get0 e)
  | tup e => exact .tup (k.get0 e)
  | dic e => exact .dic (k.get0 e)
def Kd.isInt : Kd → Bool | .int => true | .bl => true | _ => false
def Kd.isBool : Kd → Bool | .bl => true | _ => false
def Kd.isStr : Kd → Bool | .str => true | _ => false
def Kd.isList : Kd → Bool | .lst => true | _ => false
def Kd.isTup : Kd → Bool | .tup => true | _ => false
def Kd.isDict : Kd → Bool | .dic => true | _ => false
theorem kb_int (t : Kd) : kitB t.nm "int" = some t.isInt := by cases t <;> decide +kernel
theorem kb_bool (t : Kd) : kitB t.nm "bool" = some t.isBool := by cases t <;> decide +kernel
theorem kb_str (t : Kd) : kitB t.nm "str" = some t.isStr := by cases t <;> decide +kernel
theorem kb_list (t : Kd) : kitB t.nm "list" = some t.isList := by cases t <;> decide +kernel
theorem kb_tup (t : Kd) : kitB t.nm "tuple" = some t.isTup := by cases t <;> decide +kernel
theorem kb_dict (t : Kd) : kitB t.nm "dict" = some t.isDict := by cases t <;> decide +kernel
section
variable {K : PySem.W.Frag} {σ : L2.St} {H : Hp} {Q : VK} {D : Ends} {x y v : V} {i : Nat} {n m : Int} {a b : Str}
theorem s_max2 (q : Q (.int (if m > n then m else n)) H) : uMax [.int n, .int m] H Q := ⟨n, m, rfl, q⟩
theorem s_min2 (q : Q (.int (if m < n then m else n)) H) : uMin [.int n, .int m] H Q := ⟨n, m, rfl, q⟩
theorem s_lens (h : a.length ≤ sizeLine) (q : Q (.int a.length) H) : uLen K [.str a] H Q := Or.inl ⟨_, a.length, rfl, ⟨h, rfl⟩, q⟩
theorem s_lenL {p : Addr} {xs : List V} (h : SqL K H p xs) (q : Q (.int xs.length) H) : uLen K [.ref p] H Q := Or.inl ⟨_, xs.length, rfl, Or.inl ⟨xs, h, rfl⟩, q⟩
theorem s_lenl {p : Addr} {xs : List V} (h : H p = some (.lst xs)) (q : Q (.int xs.length) H) : uLen K [.ref p] H Q := s_lenL (SqL.of h) q
theorem s_lent {p : Addr} {xs : List V} (h : H p = some (.tup xs)) (q : Q (.int xs.length) H) : uLen K [.ref p] H Q := Or.inl ⟨_, xs.length, rfl, Or.inr ⟨xs, SqT.of h, rfl⟩, q⟩
theorem s_lend {p : Addr} {xs : List (Key × V)} (h : H p = some (.dK xs)) (q : Q (.int xs.length) H) : uLen K [.ref p] H Q := Or.inr ⟨p, xs, rfl, h, q⟩
theorem s_str (h : n.natAbs.log2 < 1920) (q : Q (.str (toString n)) H) : uStr [.int n] H Q := ⟨n, rfl, h, q⟩
theorem s_isi0 {s t : String} {k : Bool} (h : TyX K H v (.type s)) (hk : kitB s t = some k) (q : Q (.bl k) H) : rIsi K [v, .ty t] H Q := ⟨v, .ty t, .type s, .type t, k, rfl, .ty t, h, kit_ty hk, q⟩
theorem s_isInt {t : Kd} (h : TyN H v t) (q : Q (.bl t.isInt) H) : rIsi K [v, .ty "int"] H Q := s_isi0 h.ty (kb_int t) q
theorem s_isBool {t : Kd} (h : TyN H v t) (q : Q (.bl t.isBool) H) : rIsi K [v, .ty "bool"] H Q := s_isi0 h.ty (kb_bool t) q
theorem s_isStr {t : Kd} (h : TyN H v t) (q : Q (.bl t.isStr) H) : rIsi K [v, .ty "str"] H Q := s_isi0 h.ty (kb_str t) q
theorem s_isList {t : Kd} (h : TyN H v t) (q : Q (.bl t.isList) H) : rIsi K [v, .ty "list"] H Q := s_isi0 h.ty (kb_list t) q
theorem s_isTup {t : Kd} (h : TyN H v t) (q : Q (.bl t.isTup) H) : rIsi K [v, .ty "tuple"] H Q := s_isi0 h.ty (kb_tup t) q
theorem s_isDict {t : Kd} (h : TyN H v t) (q : Q (.bl t.isDict) H) : rIsi K [v, .ty "dict"] H Q := s_isi0 h.ty (kb_dict t) q
theorem s_itT {k : Bool} {A B : Prop} (e : k = true) (h : A) : if k = true then A else B := by subst e; exact h
theorem s_itF {k : Bool} {A B : Prop} (e : k = false) (h : B) : if k = true then A else B := by subst e; exact h
theorem s_sl {r : V → Option Int → Option Int → Hp → VK → Prop} {te : TE} {tl th : TO} (h : te σ H fun x H1 => tl σ H1 fun l H2 => th σ H2 fun u H3 => r x l u H3 Q) : tSl r te tl th σ H Q := h
theorem s_nopart {Q : Option Int → Hp → Prop} (q : Q none H) : tNoPart σ H Q := q
theorem s_part {Q : Option Int → Hp → Prop} {t : TE} (h : t σ H fun x H1 => ∃ i, x = .int i ∧ Q (some i) H1) : tPart t σ H Q := h
theorem s_int {P : Int → Prop} (q : P n) : ∃ i, V.int n = .int i ∧ P i := ⟨n, rfl, q⟩
theorem s_sls {lo hi : Option Int} (h : a.length ≤ sizeLine) (q : Q (.str (cutS a lo hi)) H) : uSl K (.str a) lo hi H Q := Or.inr (Or.inl ⟨a, rfl, h, q⟩)
theorem s_sll {lo hi : Option Int} {p : Addr} {xs : List V} (h : SqL K H p xs) (q : ∀ p' H', H p' = none → H' p' = some (.lst (cutV xs lo hi)) → Kp [] H H' → Q (.ref p') H') : uSl K (.ref p) lo hi H Q := Or.inl ⟨p, xs, rfl, h, new_abs q⟩
theorem s_m1 {r : V → List V → Hp → VK → Prop} {to te : TE} (h : to σ H fun x H1 => (∃ a, x = .str a) ∧ te σ H1 fun y H2 => r x [y] H2 Q) : tM1 r to te σ H Q := h
theorem s_isstr {R : Prop} (h : R) : (∃ b, V.str a = .str b) ∧ R := ⟨⟨a, rfl⟩, h⟩
theorem s_join {p : Addr} {ys : List Str} (h : H p = some (.lst (ys.map V.str))) (hz : (ys.map (·.length)).sum + ys.length * a.length ≤ 16777216) (q : Q (.str (Txt.join a ys)) H) : uJoin K (.str a) [.ref p] H Q :=
  ⟨a, p, ys, rfl, rfl, Or.inl (SqL.of h), hz, q⟩
theorem s_rng1 {ta : TA} {R : It → Hp → Prop} (h : ta σ H fun vs H1 => ∃ j : Int, vs = [.int j] ∧ -(2 ^ 62) ≤ j ∧ j < 2 ^ 62 ∧ R (Itr 0 j.toNat) H1) : iRng1 ta σ H R := h
theorem s_rng {R : Int → Prop} (h1 : -(2 ^ 62) ≤ n) (h2 : n < 2 ^ 62) (q : R n) : ∃ j : Int, [V.int n] = [.int j] ∧ -(2 ^ 62) ≤ j ∧ j < 2 ^ 62 ∧ R j := ⟨n, rfl, h1, h2, q⟩
theorem s_ilist {tl : TE} {R : It → Hp → Prop} (h : tl σ H fun x H1 => ∃ a, x = .ref a ∧ (∃ xs, SqL K H1 a xs) ∧ R (Itl K a) H1) : iList K tl σ H R := h
theorem s_ilst {p : Addr} {xs : List V} {R : Addr → Prop} (h : SqL K H p xs) (q : R p) : ∃ a, V.ref p = .ref a ∧ (∃ xs, SqL K H a xs) ∧ R a := ⟨p, rfl, ⟨xs, h⟩, q⟩
theorem s_istr {te : TE} {R : It → Hp → Prop} (h : te σ H fun v H1 => ∃ x, v = .str x ∧ R (Its x) H1) : iStr te σ H R := h
theorem s_istr1 {R : Str → Prop} (q : R a) : ∃ x, V.str a = .str x ∧ R x := ⟨a, rfl, q⟩
theorem s_dnew (h : ∀ d H', H d = none → H' d = some (.dK []) → Kp [] H H' → Q (.ref d) H') : tDNewK σ H Q := new_abs (R := fun d H' => Q (.ref d) H') h
theorem s_all {p : Addr} {bs : List Bool} (h : H p = some (.lst (bs.map V.bl))) (q : Q (.bl (bs.all id)) H) : rAll K [.ref p] H Q := ⟨p, bs, rfl, SqL.of h, q⟩
theorem s_yes {Q : Bool → Hp → Prop} (q : Q true H) : tYes σ H Q := q
theorem dpa_strs : ∀ zs : List Str, DpAll K H (zs.map V.str) (zs.map PyData.str)
  | [] => .nil
  | z :: zs => .cons (.str z) (dpa_strs zs)
theorem lay_strs : ∀ {zs : List Str}, (∀ z ∈ zs, ∀ c ∈ z.cps.toList, c < 1114112) → PyData.canLayAll0 (zs.map PyData.str) = true ∧ PyData.depthAll (zs.map PyData.str) ≤ 1
  | [], _ => ⟨rfl, by simp [PyData.depthAll]⟩
  | z :: zs, h => by
    obtain ⟨h1, h2⟩ := lay_strs (zs := zs) fun y hy => h y (List.mem_cons_of_mem _ hy)
    refine ⟨?_, ?_⟩
    · simp only [List.map_cons, PyData.canLayAll0, PyData.canLay0, h1, Bool.and_true, PyData.strOk, Array.all_eq_true', decide_eq_true_eq]
      intro c hc
      exact h z List.mem_cons_self c (by simpa using hc)
    · simp only [List.map_cons, PyData.depthAll, PyData.depth]
      omega
theorem shp_strs {zs : List Str} (h : ∀ z ∈ zs, ∀ c ∈ z.cps.toList, c < 1114112) : SeqAt.shaped (.list (zs.map PyData.str)) = true := by
  obtain ⟨h1, h2⟩ := lay_strs h
  unfold SeqAt.shaped
  rw [Bool.and_eq_true]
  refine ⟨by simpa only [PyData.canLay0] using h1, decide_eq_true ?_⟩
  simp only [PyData.depth]
  omega
theorem s_eqNil {p q : Addr} {zs : List Str} (h1 : H p = some (.lst (zs.map V.str))) (h2 : H q = some (.lst [])) (ok : ∀ z ∈ zs, ∀ c ∈ z.cps.toList, c < 1114112) (k : Q (.bl zs.isEmpty) H) : uEq K (.ref p) (.ref q) H Q := by
  refine Or.inr ⟨_, _, .lst (SqL.of h1) (dpa_strs zs), .lst (SqL.of h2) .nil, shp_strs ok, by decide +kernel, ?_⟩
  have e : PyData.eqv (.list (zs.map PyData.str)) (.list []) = zs.isEmpty := by
    cases zs <;> simp [PyData.eqv, PyData.eqvAll]
  rw [e]
  exact k
/-- a comprehension -/
theorem s_lc {wi : TI} {g : TG} {tt : TT} {te : TE} {vs : List Nat} (h : wi σ H fun J H1 => ∀ D, H1 D = none → ∃ W : Nat → Nat → Hp → Prop, (∃ m, W 0 m (upd H1 D (.lst []))) ∧ ∀ i m H, W i m H →
    (J.stop i H ∧ Q (.ref D) H) ∨ (J.go i H ∧ ∃ Nx : Hp → Prop, (∀ H', Nx H' → ∃ m', m' < m ∧ W (i + 1) m' H') ∧ ∀ x H', J.yld i H x H' → g x (wipe σ vs) H' fun σ2 H2 => wipe σ2 vs = wipe σ vs ∧ tt σ2 H2 fun b H3 =>
      if b = true then te σ2 H3 fun y H4 => ∃ acc, H4 D = some (.lst acc) ∧ acc.length < sizeLine ∧ Nx (upd H4 D (.lst (acc ++ [y]))) else Nx H3)) : tLc wi g tt te vs σ H Q := h
/-- a loop -/
theorem s_for {wi : TI} {g : TG} {tb : TS} (h : wi σ H fun J H1 => ∃ W : Nat → Nat → L2.St → Hp → Prop, (∃ m, W 0 m σ H1) ∧ ∀ i m σ H, W i m σ H →
    (J.stop i H ∧ D.nx σ H) ∨ (J.go i H ∧ ∃ N : L2.St → Hp → Prop, (∀ σ' H', N σ' H' → ∃ m', m' < m ∧ W (i + 1) m' σ' H') ∧ ∀ x H', J.yld i H x H' → g x σ H' fun σ2 H2 => tb { D with nx := N, ct := N, bk := D.nx } σ2 H2)) : tFor wi g tb D σ H := h
/-- a comprehension's invariant, by the items made so far -/
def PvD (D : Addr) (Pv : Nat → List V → Hp → Prop) (i : Nat) (H : Hp) : Prop := ∃ acc, H D = some (.lst acc) ∧ Pv i acc H
theorem PvD.start {D : Addr} {Pv : Nat → List V → Hp → Prop} (h : Pv 0 [] (upd H D (.lst []))) : PvD D Pv 0 (upd H D (.lst [])) := ⟨[], upd_same, h⟩
theorem PvD.more {D : Addr} {Pv : Nat → List V → Hp → Prop} {acc : List V} (e : H D = some (.lst acc)) (hz : acc.length < sizeLine) (h : Pv i (acc ++ [y]) (upd H D (.lst (acc ++ [y])))) :
    ∃ acc, H D = some (.lst acc) ∧ acc.length < sizeLine ∧ PvD D Pv i (upd H D (.lst (acc ++ [y]))) := ⟨acc, e, hz, acc ++ [y], upd_same, h⟩
theorem PvD.skip {D : Addr} {Pv : Nat → List V → Hp → Prop} {acc : List V} (e : H D = some (.lst acc)) (h : Pv i acc H) : PvD D Pv i H := ⟨acc, e, h⟩
end
end U

namespace U
open PySem L2 PySem.Spec PyProof.Rows
theorem log2s {m : Nat} (h : m < 10 ^ 100) : m.log2 < 1920 := log2_small (Nat.lt_of_lt_of_le h (by decide +kernel))
/-- a text of at most n signs -/
structure SS (z : Str) (n : Nat) : Prop where
  len : z.length ≤ n
  ok : ∀ c ∈ z.cps.toList, c < 1114112
theorem SS.mono {z : Str} {n m : Nat} (h : SS z n) (e : n ≤ m) : SS z m := ⟨Nat.le_trans h.len e, h.ok⟩
theorem SS.app {a b : Str} {n m : Nat} (h : SS a n) (g : SS b m) : SS (a ++ b) (n + m) := by
  refine ⟨by rw [Str.length_append]; have := h.len; have := g.len; omega, fun c hc => ?_⟩
  rw [Str.cps_append, Array.toList_append, List.mem_append] at hc
  rcases hc with hc | hc
  · exact h.ok c hc
  · exact g.ok c hc
theorem SS.cut {a : Str} {n : Nat} {lo hi : Option Int} (h : SS a n) : SS (cutS a lo hi) n := by
  refine ⟨?_, fun c hc => ?_⟩
  · show (List.toArray _).size ≤ n
    rw [List.size_toArray, List.length_take, List.length_drop, Array.length_toList]
    have : a.cps.size ≤ n := h.len
    omega
  · have hc : c ∈ (List.take (HT.sIx a.length a.length hi - HT.sIx a.length 0 lo) (List.drop (HT.sIx a.length 0 lo) a.cps.toList)) := by simpa [cutS] using hc
    exact h.ok c (List.mem_of_mem_drop (List.mem_of_mem_take hc))
theorem SS.one {c : Nat} (h : c < 1114112) : SS ⟨#[c]⟩ 1 := ⟨by simp [Str.length], fun d hd => by
  have : d = c := by simpa using hd
  subst this; exact h⟩
theorem SS.mk' {z : Str} {n : Nat} (h : z.length ≤ n ∧ ∀ c ∈ z.cps.toList, c < 1114112) : SS z n := ⟨h.1, h.2⟩
theorem join_ones : ∀ cs : List Nat, Txt.join (Str.ofString "") (cs.map fun c => ⟨#[c]⟩) = ⟨cs.toArray⟩ := fun cs => by
  rw [show ∀ y l, Txt.join y l = Str.join y l from fun y l => StrLaws.glued_eq_join y l]
  have e0 : Str.ofString "" = Str.empty := by decide +kernel
  rw [e0]
  induction cs with
  | nil => rfl
  | cons c cs ih =>
    cases cs with
    | nil => rfl
    | cons d cs =>
      show (⟨#[c]⟩ : Str) ++ Str.empty ++ Str.join Str.empty ((d :: cs).map fun c => ⟨#[c]⟩) = _
      rw [ih]
      refine Str.ext' ?_
      simp [Str.cps_append, Str.empty]
theorem SS.ones {cs : List Nat} (h : ∀ c ∈ cs, c < 1114112) : SS (Txt.join (Str.ofString "") (cs.map fun c => ⟨#[c]⟩)) cs.length := by
  rw [join_ones]
  exact ⟨by simp [Str.length], by simpa using h⟩
theorem SS.num {i : Int} (h : i.natAbs < 10 ^ 100) : SS (Str.ofString (toString i)) 102 := by
  refine ⟨int_len h, fun c hc => ?_⟩
  rw [Str.ofString_eq_toList] at hc
  have hc : c ∈ (toString i).toList.map Char.toNat := by simpa using hc
  obtain ⟨d, _, rfl⟩ := List.mem_map.mp hc
  have h2 : d.toNat.isValidChar := d.valid
  unfold Nat.isValidChar at h2
  omega
theorem SS.at {z : Str} {n : Nat} {i : Int} (h : SS z n) (h0 : 0 ≤ i) (h1 : i < z.length) : ∃ c, atI z.cps.toList i = some c ∧ c < 1114112 ∧ c ∈ z.cps.toList := by
  obtain ⟨c, e1, e2⟩ := at_int (xs := z.cps.toList) h0 (by rw [Array.length_toList]; exact h1)
  have m := List.mem_of_getElem? e1
  exact ⟨c, e2, h.ok c m, m⟩
theorem ones_len (cs : List Nat) : ((cs.map fun c => (⟨#[c]⟩ : Str)).map (·.length)).sum = cs.length := by
  induction cs with
  | nil => rfl
  | cons c cs ih =>
    rw [List.map_cons, List.map_cons, List.sum_cons, ih, List.length_cons]
    simp [Str.length]
    omega
end U

namespace U
open PySem L2 PySem.Spec PyProof.Rows

theorem peImp {X : Cx} {e : Expr} {t u : TE} (h : PE X e t) (w : ∀ σ H (Q : VK), u σ H Q → ∃ Q0 : VK, t σ H Q0 ∧ ∀ x H1, Q0 x H1 → Q x H1) : PE X e u :=
  ⟨fun pi s σ H Q I q => by
    obtain ⟨Q0, q0, z⟩ := w σ H Q q
    exact thn (h.run pi s σ H Q0 I q0) fun a s1 ⟨x, H1, I1, r1, q1⟩ => ⟨x, H1, I1, r1, z x H1 q1⟩⟩
def tMo (t : TE) : TE := fun σ H Q => ∃ Q0 : VK, t σ H Q0 ∧ ∀ x H1, Q0 x H1 → Q x H1
theorem peMo {X : Cx} {e : Expr} {t : TE} (h : PE X e t) : PE X e (tMo t) := peImp h fun _ _ _ q => q
def tMa (t : TA) : TA := fun σ H Q => ∃ Q0 : List V → Hp → Prop, t σ H Q0 ∧ ∀ x H1, Q0 x H1 → Q x H1
theorem paMo {X : Cx} {es : List Expr} {t : TA} (h : PA X es t) : PA X es (tMa t) :=
  ⟨fun pos pi s σ H Q I ⟨Q0, q0, z⟩ => thn (h.run pos pi s σ H Q0 I q0) fun a s1 ⟨x, H1, I1, r1, q1⟩ => ⟨x, H1, I1, r1, z x H1 q1⟩⟩
theorem psImp {X : Cx} {st : Stmt} {t u : TS} (h : PS X st t) (w : ∀ D σ H, u D σ H → t D σ H) : PS X st u :=
  ⟨fun pi s σ H D I q => h.run pi s σ H D I (w D σ H q)⟩

/-! what is raised passes -/
section
variable {X : Cx} {E : XK}
theorem passF : Passes (L2.CX X.prog X.w) X (fun _ _ _ => False) := fun _ _ _ _ _ _ _ c => by
  obtain ⟨_, _, _, _, _, _, _, _, _, _, _, _, z⟩ := c
  exact z.elim
/-- the wish of a def's body -/
abbrev wE (E : XK) : WX := fun cls d _ H => E cls d H
abbrev wNo : WX := fun _ _ _ _ => False
end

/-! calls -/
section
variable {X : Cx} {k : Nat} {f C : Addr} {fd : FuncData} {ps : List Str} {sp : Sp} {W : WX} {x m : Str} {p ap pos : Pos} {e o : Expr} {es : List Expr} {t : TA} {ta : TE} {K : PySem.W.Frag}
variable {pi : List (Addr × Obj)} {σ : L2.St} {H : Hp} {s : Shared} {Q : VK} {us : List Value} {vs : List V}
theorem bind0 (hb : Binds X.K fd ps []) (I : Inv X pi σ H s) (r : Vals vs us) (l : vs.length = ps.length) : BindsTo s fd ⟨us, []⟩ (ps.zip us) := by
  have e1 : us ++ [] = us := List.append_nil us
  have b1 := hb s us I.kIn (by rw [e1, ← r.length]; exact l)
  rw [e1] at b1
  exact b1
theorem run_o (F : FnOk X.prog X.w X.K X.mg X.base (L2.CX X.prog X.w) k f fd ps sp) (hr : Room k X.A) (hb : Binds X.K fd ps []) (tk : Takes X W) (I : Inv X pi σ H s) (r : Vals vs us) (h : sp vs H Q (fun cls d H' => W cls d σ H')) :
    wpAny (model X.prog X.w) X.A (call (.ref f) us) (EP X pi σ Q) X.xe s := by
  refine wpAny_call (codeAny_mono (F.run X.A X.stack s H ⟨us, []⟩ us vs Q _ hr I.env0 (bind0 hb I r (F.len _ _ _ _ h)) r h) fun rr s' hq => ?_)
  match rr, hq with
  | .error er, z => exact tk er s' (XE.of_call I (fun _ _ _ y => y) z)
  | .ok (.ret u), z => exact I.after z
  | .ok .next, z => exact z.elim
  | .ok .brk, z => exact z.elim
  | .ok .cont, z => exact z.elim
theorem run_g (F : FnG X.prog X.w X.K X.mg X.base (L2.CX X.prog X.w) k f fd ps sp) (hg : X.A.guards = some []) (hr : Room k X.A) (hb : Binds X.K fd ps []) (tk : Takes X W) (I : Inv X pi σ H s) (r : Vals vs us) (h : sp vs H Q (fun cls d H' => W cls d σ H')) :
    wpAny (model X.prog X.w) X.A (call (.ref f) us) (EP X pi σ Q) X.xe s := by
  refine wpAny_call (codeAny_mono (F.run X.A X.stack s H ⟨us, []⟩ us vs Q _ hg hr I.env0 (bind0 hb I r (F.len _ _ _ _ h)) r h) fun rr s' hq => ?_)
  match rr, hq with
  | .error er, z => exact tk er s' (XE.of_call I (fun _ _ _ y => y) z)
  | .ok (.ret u), z => exact I.after z
  | .ok .next, z => exact z.elim
  | .ok .brk, z => exact z.elim
  | .ok .cont, z => exact z.elim
def tCo (sp : Sp) (W : WX) (t : TA) : TE := fun σ H Q => t σ H fun vs H1 => sp vs H1 Q fun cls d H' => W cls d σ H'
/-- f(e, ..), f of a promise that asks nothing of what is around -/
theorem pe_co (F : FnOk X.prog X.w X.K X.mg X.base (L2.CX X.prog X.w) k f fd ps sp) (hr : Room k X.A) (gl : Gl X x) (hm : X.mg x = some (.ref f)) (hk : PySem.W.keepIn X.K (.ref f) = true) (hb : Binds X.K fd ps []) (tk : Takes X W)
    (ha : PA X (e :: es) t) (h1 : (x == ("__debug__" : Str)) = false := by decide) (h2 : starEach (e :: es) X.env = (false, eval e X.env) :: starEach es X.env := by rfl) (h3 : (backTo pos (starEach es X.env)).any (·.1) = false := by rfl) :
    PE X (.Call (.Name x p) (e :: es) [] pos) (tCo sp W t) := by
  refine ⟨fun pi s σ H Q I h => wpAny_Call_Name_kw (ld_glob I gl hm ?_ h1)⟩
  refine PySem.W.callWith_K (h₀ := X.base) I.ok.mod.kin hk (thn (ha.run pos pi s σ H _ I h) ?_) h2 h3
  rintro us s1 ⟨vs, H1, I1, r, q⟩
  exact ⟨I1.kIn, run_o F hr hb tk I1 r q⟩
theorem pe_co0 (F : FnOk X.prog X.w X.K X.mg X.base (L2.CX X.prog X.w) k f fd ps sp) (hr : Room k X.A) (gl : Gl X x) (hm : X.mg x = some (.ref f)) (hk : PySem.W.keepIn X.K (.ref f) = true) (hb : Binds X.K fd ps []) (tk : Takes X W)
    (h1 : (x == ("__debug__" : Str)) = false := by decide) : PE X (.Call (.Name x p) [] [] pos) (tCo sp W tNil) :=
  ⟨fun pi s σ H Q I h => wpAny_Call_Name_kw (ld_glob I gl hm (PySem.W.callWith_K0 I.kIn hk (run_o (us := []) F hr hb tk I .nil h)) h1)⟩
/-- .. where no repr is under way -/
theorem pe_cg (F : FnG X.prog X.w X.K X.mg X.base (L2.CX X.prog X.w) k f fd ps sp) (hg : X.A.guards = some []) (hr : Room k X.A) (gl : Gl X x) (hm : X.mg x = some (.ref f)) (hk : PySem.W.keepIn X.K (.ref f) = true) (hb : Binds X.K fd ps []) (tk : Takes X W)
    (ha : PA X (e :: es) t) (h1 : (x == ("__debug__" : Str)) = false := by decide) (h2 : starEach (e :: es) X.env = (false, eval e X.env) :: starEach es X.env := by rfl) (h3 : (backTo pos (starEach es X.env)).any (·.1) = false := by rfl) :
    PE X (.Call (.Name x p) (e :: es) [] pos) (tCo sp W t) := by
  refine ⟨fun pi s σ H Q I h => wpAny_Call_Name_kw (ld_glob I gl hm ?_ h1)⟩
  refine PySem.W.callWith_K (h₀ := X.base) I.ok.mod.kin hk (thn (ha.run pos pi s σ H _ I h) ?_) h2 h3
  rintro us s1 ⟨vs, H1, I1, r, q⟩
  exact ⟨I1.kIn, run_g F hg hr hb tk I1 r q⟩
theorem pe_cg0 (F : FnG X.prog X.w X.K X.mg X.base (L2.CX X.prog X.w) k f fd ps sp) (hg : X.A.guards = some []) (hr : Room k X.A) (gl : Gl X x) (hm : X.mg x = some (.ref f)) (hk : PySem.W.keepIn X.K (.ref f) = true) (hb : Binds X.K fd ps []) (tk : Takes X W)
    (h1 : (x == ("__debug__" : Str)) = false := by decide) : PE X (.Call (.Name x p) [] [] pos) (tCo sp W tNil) :=
  ⟨fun pi s σ H Q I h => wpAny_Call_Name_kw (ld_glob I gl hm (PySem.W.callWith_K0 I.kIn hk (run_g (us := []) F hg hr hb tk I .nil h)) h1)⟩
/-- o.m(e, ..) -/
def MtK (C : Addr) (m : Str) (R : V → Hp → Prop) (x : V) (H : Hp) : Prop := ∃ a dx fs, x = .ref a ∧ H a = some (.ins C dx fs) ∧ fs.lookup m = none ∧ R x H
def tMt (C : Addr) (m : Str) (sp : Sp) (W : WX) (ta : TE) (t : TA) : TE := fun σ H Q => ta σ H (MtK C m fun x H1 => t σ H1 fun vs H2 => sp (x :: vs) H2 Q fun cls d H' => W cls d σ H')
theorem pe_mo {pl : Sem Bool} (c : Cls X.K C) (hm : Meth X.K C m f) (F : FnOk X.prog X.w X.K X.mg X.base (L2.CX X.prog X.w) k f fd ps sp) (hr : Room k X.A) (hb : Binds X.K fd ps []) (tk : Takes X W) (he : PE X o ta) (ha : PA X (e :: es) t)
    (h2 : starEach (e :: es) X.env = (false, eval e X.env) :: starEach es X.env := by rfl) (h3 : (backTo pos (starEach es X.env)).any (·.1) = false := by rfl)
    (h4 : eval (.Call (.Attribute o m ap) (e :: es) [] pos) X.env = (do
      let ov ← eval o X.env
      standAt ap.atName
      let (f, first) ← holding [ov] (getMethod ov m pl)
      callWith pos f first (backTo pos (starEach (e :: es) X.env)) (backToKw pos (keywordEach [] X.env))) := by rfl) :
    PE X (.Call (.Attribute o m ap) (e :: es) [] pos) (tMt C m sp W ta t) := by
  refine ⟨fun pi s σ H Q I h => PySem.W.methodCall_KW (pl := pl) (thn (he.run pi s σ H _ I h) ?_) h4⟩
  rintro u s1 ⟨x, H1, I1, rx, a, dx, fs, rfl, ea, l, q⟩
  obtain rfl : u = Value.ref a := rx
  refine getmeth_ok I1 ea c hm l (PySem.W.callWith_K (first := [.ref a]) (h₀ := X.base) I.ok.mod.kin hm.kp (thn (ha.run pos pi s1 σ H1 _ I1 q) ?_) h2 h3)
  rintro us s2 ⟨vs, H2, I2, r, q2⟩
  exact ⟨I2.kIn, run_o (us := .ref a :: us) (vs := .ref a :: vs) F hr hb tk I2 (.cons rfl r) q2⟩
theorem pe_mo0 {pl : Sem Bool} (c : Cls X.K C) (hm : Meth X.K C m f) (F : FnOk X.prog X.w X.K X.mg X.base (L2.CX X.prog X.w) k f fd ps sp) (hr : Room k X.A) (hb : Binds X.K fd ps []) (tk : Takes X W) (he : PE X o ta)
    (h4 : eval (.Call (.Attribute o m ap) [] [] pos) X.env = (do
      let ov ← eval o X.env
      standAt ap.atName
      let (f, first) ← holding [ov] (getMethod ov m pl)
      callWith pos f first (backTo pos (starEach [] X.env)) (backToKw pos (keywordEach [] X.env))) := by rfl) :
    PE X (.Call (.Attribute o m ap) [] [] pos) (tMt C m sp W ta tNil) := by
  refine ⟨fun pi s σ H Q I h => PySem.W.methodCall_KW (pl := pl) (thn (he.run pi s σ H _ I h) ?_) h4⟩
  rintro u s1 ⟨x, H1, I1, rx, a, dx, fs, rfl, ea, l, q⟩
  obtain rfl : u = Value.ref a := rx
  exact getmeth_ok I1 ea c hm l (PySem.W.callWith_K0 (first := [.ref a]) I1.kIn hm.kp (run_o (us := [.ref a]) (vs := [.ref a]) F hr hb tk I1 (.cons rfl .nil) q))
/-- C(e, ..) -/
def NewK (C : Addr) (sp : Sp) (E : XK) (Q : VK) (vs : List V) (H : Hp) : Prop := ∀ x dx H', H x = none → H' x = some (.ins C dx []) → Kp [] H H' → sp (.ref x :: vs) H' (fun v H2 => v = .non ∧ Q (.ref x) H2) E
def tNw (C : Addr) (sp : Sp) (W : WX) (t : TA) : TE := fun σ H Q => t σ H (NewK C sp (fun cls d H' => W cls d σ H') Q)
theorem run_nw (M : Mk X.K C f) (F : FnOk X.prog X.w X.K X.mg X.base (L2.CX X.prog X.w) k f fd ps sp) (hr : Room (k + 1) X.A) (hb : Binds X.K fd ps []) (tk : Takes X W) (I : Inv X pi σ H s) (r : Vals vs us)
    (h : NewK C sp (fun cls d H' => W cls d σ H') Q vs H) : wpAny (model X.prog X.w) X.A (call (.ref C) us) (EP X pi σ Q) X.xe s := by
  have n1 : H (s.heap.objs.size + 1) = none := I.hok.fresh (Nat.le_succ _)
  have n0 : H s.heap.objs.size = none := I.hok.fresh (Nat.le_refl _)
  have hq := h (s.heap.objs.size + 1) s.heap.objs.size _ n1 upd_same ((Kp.refl.new (u := .own (s.heap.objs.size + 1)) n0).new (by rw [upd_ne (Nat.succ_ne_self _)]; exact n1))
  have I2 := Inv.made (C := C) I
  have r2 : Vals (V.ref (s.heap.objs.size + 1) :: vs) (Value.ref (s.heap.objs.size + 1) :: us) := .cons rfl r
  refine wpAny_call (make_map (f := f) I.kIn M.makes M.init (beq_iff_eq.mp M.fn) (codeAny_mono (F.run _ X.stack _ _ ⟨Value.ref (s.heap.objs.size + 1) :: us, []⟩ (Value.ref (s.heap.objs.size + 1) :: us) _ _ _ (hr.make C us [])
    (I2.env0.make C us []) (bind0 hb I2 r2 (F.len _ _ _ _ hq)) r2 hq) fun rr s' z => ?_))
  match rr, z with
  | .error er, z => exact tk er s' (XE.of_call I2 (fun _ _ _ y => y) z)
  | .ok (.ret u), z =>
    obtain ⟨v, H', I3, rv, ev, q3⟩ := I2.after z
    subst ev
    exact ⟨rv, ⟨V.ref (s.heap.objs.size + 1), H', I3, rfl, q3⟩⟩
  | .ok .next, z => exact z.elim
  | .ok .brk, z => exact z.elim
  | .ok .cont, z => exact z.elim
theorem pe_nw (M : Mk X.K C f) (F : FnOk X.prog X.w X.K X.mg X.base (L2.CX X.prog X.w) k f fd ps sp) (hr : Room (k + 1) X.A) (gl : Gl X x) (hm : X.mg x = some (.ref C)) (hb : Binds X.K fd ps []) (tk : Takes X W)
    (ha : PA X (e :: es) t) (h1 : (x == ("__debug__" : Str)) = false := by decide) (h2 : starEach (e :: es) X.env = (false, eval e X.env) :: starEach es X.env := by rfl) (h3 : (backTo pos (starEach es X.env)).any (·.1) = false := by rfl) :
    PE X (.Call (.Name x p) (e :: es) [] pos) (tNw C sp W t) := by
  refine ⟨fun pi s σ H Q I h => wpAny_Call_Name_kw (ld_glob I gl hm ?_ h1)⟩
  refine PySem.W.callWith_K (h₀ := X.base) I.ok.mod.kin M.kp (thn (ha.run pos pi s σ H _ I h) ?_) h2 h3
  rintro us s1 ⟨vs, H1, I1, r, q⟩
  exact ⟨I1.kIn, run_nw M F hr hb tk I1 r q⟩
theorem pe_nw0 (M : Mk X.K C f) (F : FnOk X.prog X.w X.K X.mg X.base (L2.CX X.prog X.w) k f fd ps sp) (hr : Room (k + 1) X.A) (gl : Gl X x) (hm : X.mg x = some (.ref C)) (hb : Binds X.K fd ps []) (tk : Takes X W)
    (h1 : (x == ("__debug__" : Str)) = false := by decide) : PE X (.Call (.Name x p) [] [] pos) (tNw C sp W tNil) :=
  ⟨fun pi s σ H Q I h => wpAny_Call_Name_kw (ld_glob I gl hm (PySem.W.callWith_K0 I.kIn M.kp (run_nw (us := []) M F hr hb tk I .nil h)) h1)⟩
/-- e.f -/
def FldK (K : PySem.W.Frag) (f : Str) (Q : VK) (x : V) (H : Hp) : Prop := ∃ a C dx fs v, x = .ref a ∧ H a = some (.ins C dx fs) ∧ Cls K C ∧ NoAttr K C f ∧ fs.lookup f = some v ∧ Q v H
def tFd (K : PySem.W.Frag) (ta : TE) (f : Str) : TE := fun σ H Q => ta σ H (FldK K f Q)
theorem pe_fd {f : Str} (hK : X.K = K) (he : PE X e ta) (hb : attributeBase e f X.env (eval e X.env) = eval e X.env) : PE X (.Attribute e f pos) (tFd K ta f) := hK ▸ pe_fld he hb
/-- e.f = v -/
def SetK (K : PySem.W.Frag) (f : Str) (y : V) (R : Hp → Prop) (x : V) (H : Hp) : Prop := ∃ a C dx fs, x = .ref a ∧ H a = some (.ins C dx fs) ∧ Cls K C ∧ NoAttr K C f ∧ fs.length < 1000 ∧ R (upd H a (.ins C dx (putF f y fs)))
def tSd (K : PySem.W.Frag) (ta tv : TE) (f : Str) : TS := fun D σ H => tv σ H fun y H1 => ta σ H1 (SetK K f y (D.nx σ))
theorem ps_fd {f : Str} {value : Expr} {tv : TE} {pos' : Pos} (hK : X.K = K) (he : PE X o ta) (hv : PE X value tv) (hs : swapsWith value (some (.Attribute o f pos')) pos.line X.env = pure false) : PS X (.Assign [.Attribute o f pos'] value pos) (tSd K ta tv f) :=
  hK ▸ ps_fld he hv hs
end

/-! steps -/
section
variable {K : PySem.W.Frag} {σ : L2.St} {H : Hp} {Q : VK} {D : Ends} {x y v : V} {C p : Addr} {m f : Str} {ta tv : TE} {t : TA} {sp : Sp} {W : WX}
theorem s_co (h : t σ H fun vs H1 => sp vs H1 Q fun cls d H' => W cls d σ H') : tCo sp W t σ H Q := h
theorem s_mt (h : ta σ H (MtK C m fun x H1 => t σ H1 fun vs H2 => sp (x :: vs) H2 Q fun cls d H' => W cls d σ H')) : tMt C m sp W ta t σ H Q := h
theorem s_mtk {R : V → Hp → Prop} {dx : Addr} {fs : List (Str × V)} (h : H p = some (.ins C dx fs)) (l : fs.lookup m = none) (q : R (.ref p) H) : MtK C m R (.ref p) H := ⟨p, dx, fs, rfl, h, l, q⟩
theorem s_nw (h : t σ H (NewK C sp (fun cls d H' => W cls d σ H') Q)) : tNw C sp W t σ H Q := h
theorem s_fd (h : ta σ H (FldK K f Q)) : tFd K ta f σ H Q := h
theorem s_fdk {dx : Addr} {fs : List (Str × V)} (h : H p = some (.ins C dx fs)) (c : Cls K C) (n : NoAttr K C f) (l : fs.lookup f = some v) (q : Q v H) : FldK K f Q (.ref p) H := ⟨p, C, dx, fs, v, rfl, h, c, n, l, q⟩
theorem s_sd (h : tv σ H fun y H1 => ta σ H1 (SetK K f y (D.nx σ))) : tSd K ta tv f D σ H := h
/-- an object is changed, the heap behind it as a letter -/
theorem put_abs {o o0 : HO} {R : Hp → Prop} (e : H p = some o0) (z : ko o0 = ko o) (h : ∀ H', H' p = some o → Kp [p] H H' → R H') (y : Nat.beq (ko o) 1 = false := by rfl) : R (upd H p o) := h _ upd_same (Kp.refl.put (by simp) ⟨o0, e, z⟩ y)
theorem s_sdk {dx : Addr} {fs gs : List (Str × V)} {R : Hp → Prop} (h : H p = some (.ins C dx fs)) (c : Cls K C) (n : NoAttr K C f) (z : fs.length < 1000) (e : putF f y fs = gs) (q : ∀ H', H' p = some (.ins C dx gs) → Kp [p] H H' → R H') : SetK K f y R (.ref p) H :=
  ⟨p, C, dx, fs, rfl, h, c, n, z, by rw [e]; exact put_abs h rfl q⟩
end

/-! an error with one field -/
/-- __init__ of an error: its field, the class's -/
def spE (C : Addr) (f : Str) : Sp := sp2 fun x y H Q _ => ∃ a, x = .ref a ∧ H a = some (exo a C none) ∧ ∀ dx, H dx = none → dx ≠ a → Q .non (upd (upd H dx (exd dx [(f, y)])) a (exo a C (some dx)))
section
variable {X : Cx} {C S fI : Addr} {f x : Str} {e : Expr} {es : List Expr} {ta : TA} {te to : TE} {p p1 p2 pos pos' : Pos} {K : PySem.W.Frag}
/-- a class that is read -/
structure RdC (K : PySem.W.Frag) (C : Addr) : Prop where
  rd : PySem.W.readsIn K C (.type "type") = true
  ga : PySem.W.specialIn K (.ref C) "__getattribute__" = some (some (.builtin "type.__getattribute__"))
/-- S.__init__(self, ..), S a class over ValueError without an __init__ of its own -/
def SeK (K : PySem.W.Frag) (Q : VK) (vs : List V) (H : Hp) : Prop := ∃ (a C : Addr) (ws : List V), vs = .ref a :: ws ∧ ws.length ≤ 1000 ∧ OexC K C ∧ H a = some (exo a C none) ∧ Q .non H
def tSe (K : PySem.W.Frag) (ta : TA) : TE := fun σ H Q => ta σ H (SeK K Q)
theorem pe_se {pl : Sem Bool} (hK : X.K = K) (gl : Gl X x) (hm : X.mg x = some (.ref S)) (r : RdC X.K S) (vV : PySem.W.findCls X.K (.ref S) (.type "type") "__init__" = some (.val (.builtin "ValueError.__init__"))) (ha : PA X (e :: es) ta)
    (h1 : (x == ("__debug__" : Str)) = false := by decide)
    (hc : eval (.Call (.Attribute (.Name x p1) "__init__" p2) (e :: es) [] pos) X.env = (do
      let ov ← eval (.Name x p1) X.env
      standAt p2.atName
      let (f, first) ← holding [ov] (getMethod ov "__init__" pl)
      callWith pos f first (backTo pos (starEach (e :: es) X.env)) (backToKw pos (keywordEach [] X.env))) := by rfl)
    (h2 : starEach (e :: es) X.env = (false, eval e X.env) :: starEach es X.env := by rfl) (h3 : (backTo pos (starEach es X.env)).any (·.1) = false := by rfl) :
    PE X (.Call (.Attribute (.Name x p1) "__init__" p2) (e :: es) [] pos) (tSe K ta) := by
  subst hK
  refine ⟨fun pi s σ H Q I h => PySem.W.methodCall_KW (ld_glob I gl hm ?_ h1) hc⟩
  refine PySem.W.method_cls I.kIn r.ga (PySem.W.cls_value I.kIn r.rd vV (by decide +kernel) ?_)
  refine PyProof.Rows.callWith_method1 (thn (ha.run pos pi _ σ H _ (I.tok _) h) ?_) h2 h3
  rintro us s1 ⟨vs, H1, I1, r1, a, D, ws, rfl, hl, T, ea, q⟩
  cases r1 with
  | @cons _ u0 _ ur ra rw' =>
    obtain rfl : u0 = Value.ref a := ra
    have z := Paired.length rw'
    exact oinit_ok T I1 ea (by rw [sizeLine_eq]; omega) fun s' J => ⟨.non, H1, J, rfl, q⟩
/-- self.f = e in such an __init__ -/
def OsK (K : PySem.W.Frag) (f : Str) (y : V) (R : Hp → Prop) (x : V) (H : Hp) : Prop := ∃ a C : Addr, x = .ref a ∧ OexC K C ∧ PySem.W.findIn K (.ref C) f = some none ∧ H a = some (exo a C none) ∧ ∀ dx, H dx = none → dx ≠ a → R (upd (upd H dx (exd dx [(f, y)])) a (exo a C (some dx)))
def tOs (K : PySem.W.Frag) (f : Str) (to te : TE) : TS := fun D σ H => te σ H fun y H1 => to σ H1 (OsK K f y (D.nx σ))
theorem ps_os {o : Expr} (hK : X.K = K) (ho : PE X o to) (he : PE X e te) (hs : swapsWith e (some (.Attribute o f p')) pos.line X.env = pure false := by rfl) : PS X (.Assign [.Attribute o f p'] e pos) (tOs K f to te) := by
  subst hK
  refine psImp (ps_ost (f := f) (peMo ho) (peMo he) hs) fun D σ H q => ⟨_, q, fun y H1 z => ⟨_, z, fun x H2 w => ?_⟩⟩
  obtain ⟨a, C, rfl, h1, h2, h3, h4⟩ := w
  exact ⟨a, C, rfl, h1, h2, Or.inl ⟨h3, h4⟩⟩
/-- raise C(e) -/
def RzK (C : Addr) (f : Str) (R : Value → Option Addr → Hp → Prop) (v : V) (H : Hp) : Prop := ∀ d H', H d = none → H' d = some (.xd [(f, v)]) → Kp [] H H' → R (.ref C) (some d) H'
def tRz (C : Addr) (f : Str) (W : WX) (te : TE) : TS := fun _ σ H => te σ H (RzK C f fun cls d H' => W cls d σ H')
theorem ps_rz {k : Nat} {fd : FuncData} {ps : List Str} {W : WX} (hc : X.calm = true) (T : OexC X.K C) (iC : PySem.W.findIn X.K (.ref C) "__init__" = some (some (.ref fI))) (tI : PySem.W.typeIn X.K (.ref fI) = some (.type "function"))
    (F : FnOk X.prog X.w X.K X.mg X.base (L2.CX X.prog X.w) k fI fd ps (spE C f)) (hr : Room (k + 1) X.A) (hb : Binds X.K fd ps []) (gl : Gl X x) (hm : X.mg x = some (.ref C)) (tk : Takes X W) (he : PE X e te)
    (h1 : (x == ("__debug__" : Str)) = false := by decide) (h2 : starEach [e] X.env = [(false, eval e X.env)] := by rfl) :
    PS X (.Raise (some (.Call (.Name x p) [e] [] pos)) none pos') (tRz C f W te) := by
  refine psImp (ps_raise hc tk (pmk_oex T iC tI F hr hb .nil passF gl hm (pa_cons (peMo he) pa_nil h2) h1 h2 rfl)) fun D σ H q => ?_
  refine ⟨_, q, fun v H1 z => ⟨by simp, fun a na => ⟨_, _, rfl, a, rfl, upd_same, fun dx nd ne => ⟨rfl, dx, [(f, v)], upd_same, ?_, ?_, ?_⟩⟩⟩⟩
  · rw [upd_ne ne, upd_same]
  · rw [upd_ne ne] at nd; exact nd
  · rw [upd_ne ne] at nd
    refine z dx _ nd upd_same ⟨fun b o eb _ => ?_, fun b i eb => ?_, fun b xs eb => ?_⟩
    · have nb : b ≠ dx := ne_of_none eb nd
      have nb2 : b ≠ a := ne_of_none eb na
      rw [upd_ne nb, del_ne nb2, upd_ne nb2, upd_ne nb, upd_ne nb2]
      exact eb
    · obtain ⟨o1, e1, r1⟩ := eb
      have nb : b ≠ dx := ne_of_none e1 nd
      have nb2 : b ≠ a := ne_of_none e1 na
      refine ⟨o1, ?_, r1⟩
      rw [upd_ne nb, del_ne nb2, upd_ne nb2, upd_ne nb, upd_ne nb2]
      exact e1
    · have nb : b ≠ dx := ne_of_none eb nd
      have nb2 : b ≠ a := ne_of_none eb na
      rw [upd_ne nb, del_ne nb2, upd_ne nb2, upd_ne nb, upd_ne nb2]
      exact eb
end
end U

namespace U
open PySem L2 PySem.Spec PyProof.Rows
/-! try with clauses of any number, with names or without -/
/-- a clause: its class, the slot of its name, its suite's reading -/
abbrev Clause := Value × Option Nat × (Addr → Value → Option Addr → TS)
def dropS (i : Option Nat) (σ : L2.St) : L2.St := match i with | none => σ | some i => σ.set i none
def putS (i : Option Nat) (a : Addr) (σ : L2.St) : L2.St := match i with | none => σ | some i => σ.set i (some (.ref a))
def endS (i : Option Nat) (D : Ends) : Ends := { nx := fun σ H => D.nx (dropS i σ) H, rt := D.rt, bk := fun σ H => D.bk (dropS i σ) H, ct := fun σ H => D.ct (dropS i σ) H }
def wCl (K : PySem.W.Frag) (Wout : WX) (D : Ends) : List Clause → WX
  | [] => Wout
  | (c, i, ts) :: r => fun cls d σ H => ∃ b, PySem.W.exmOne K cls c = some b ∧ (b = true → ∀ a, H a = none → ts a cls d (endS i D) (putS i a σ) H) ∧ (b = false → wCl K Wout D r cls d σ H)
inductive ClOk (X : Cx) : List ExceptHandler → List Clause → Prop
  | nil : ClOk X [] []
  | only {x : Str} {c : Value} {ts : Addr → Value → Option Addr → TS} {b0 : Stmt} {su : List Stmt} {np p' : Pos} {hds : List ExceptHandler} {l : List Clause} (hc : Names X x c)
      (hsu : ∀ (a : Addr) (oe : Obj) (cls : Value) (d : Option Addr) (pn : List (Addr × Obj)), Zc cls d oe → (∃ vs, oe.data = .fields vs) → PSs (X.suite a ((a, oe) :: pn)) (b0 :: su) (ts a cls d)) (r : ClOk X hds l) :
      ClOk X (.ExceptHandler (some (.Name x np)) none (b0 :: su) p' :: hds) ((c, none, ts) :: l)
  | as {x n : Str} {i : Nat} {c : Value} {ts : Addr → Value → Option Addr → TS} {b0 : Stmt} {su : List Stmt} {np p' : Pos} {hds : List ExceptHandler} {l : List Clause} (hc : Names X x c) (hi : X.N[i]? = some n) (hln : X.env.kindOf n = some .local)
      (hsu : ∀ (a : Addr) (oe : Obj) (cls : Value) (d : Option Addr) (pn : List (Addr × Obj)), Zc cls d oe → (∃ vs, oe.data = .fields vs) → PSs (X.suite a ((a, oe) :: pn)) (b0 :: su) (ts a cls d)) (r : ClOk X hds l) :
      ClOk X (.ExceptHandler (some (.Name x np)) (some n) (b0 :: su) p' :: hds) ((c, some i, ts) :: l)
section
variable {X : Cx} {body : List Stmt} {h0 : ExceptHandler} {hds : List ExceptHandler} {l : List Clause} {pos : Pos} {tb : WX → TS} {Wout : WX} {K : PySem.W.Frag}
def tTry (K : PySem.W.Frag) (Wout : WX) (l : List Clause) (tb : WX → TS) : TS := fun D σ H => tb (wCl K Wout D l) D σ H
theorem ps_try (hK : X.K = K) (hs : X.stack = X.env :: X.outer) (hf : X.env.frame = some X.env.locals) (hN : X.N.Nodup) (tk : Takes X Wout)
    (hb : ∀ (W : WX) (pn : List (Addr × Obj)) (xe : Value → Shared → Prop), Takes (X.tr pn xe) W → PassesOwn (model X.prog X.w) X.A X.env xe → PSs (X.tr pn xe) body (tb W))
    (hh : ClOk X (h0 :: hds) l) : PS X (.Try body (h0 :: hds) [] [] pos) (tTry K Wout l tb) := by
  subst hK
  refine ⟨fun pi s σ H D I h => wpAny_Try_except ?_⟩
  have ok := I.ok
  have hfr : X.A.frames = some (X.env :: X.outer) := by rw [ok.frames, hs]
  let xe : Value → Shared → Prop := fun e s1 => wpAny (model X.prog X.w) X.A (noteFrame e X.env) (fun _ s2 => wpAny (model X.prog X.w) X.A (setFlight e none)
    (fun _ s3 => wpAny (model X.prog X.w) X.A (handleBy e X.env (h0 :: hds)) (SP X pi D) X.xe s3) X.xe s2) X.xe s1
  have tkx : Takes (X.tr (X.pn ++ pi) xe) (wCl X.K Wout D l) := by
    rintro u s1 ⟨a, B, sI, pins1, σ1, H1, cls, d, rfl, J1, nb, up, sky, na, os, ag, w⟩
    have J : Inv X pi σ1 H1 sI := J1.ofTry ok
    have sky1 : Sky B (X.env :: X.outer) a (Zc cls d) X.env.locals s1.heap := hs ▸ sky
    show wpAny (model X.prog X.w) X.A (noteFrame (.ref a) X.env) _ _ _
    refine Sky.land Zc.steady hfr hf sky1 fun h3 f3 u3 => ?_
    have J3 : Inv X pi σ1 H1 { s1 with heap := h3 } := J.landed nb f3.1 (up.trans u3) os ag
    obtain ⟨oe3, vs3, he3, hz3, hd3⟩ := f3.there
    have nfr : a ∉ frs (X.env :: X.outer) := fun hm => by
      obtain ⟨_, o', e', hnf⟩ := f3.2.2.1.mem hm
      rw [he3] at e'; cases e'
      exact hnf _ hd3
    have nL : a ≠ X.env.locals := fun z => nfr (List.mem_filterMap.mpr ⟨X.env, List.mem_cons_self, by rw [hf, z]⟩)
    have nF : a ∉ X.fs := fun hm => by
      obtain ⟨e, he, q⟩ := List.mem_filterMap.mp hm
      exact nfr (List.mem_filterMap.mpr ⟨e, List.mem_cons_of_mem _ he, q⟩)
    have S3 := J3.suite he3 hd3 na nL nF
    have LT : PySem.W.Looks (model X.prog X.w) h3 (typeOf (.ref a)) cls := fun A Q E s k q => wpAny_typeOf_ref (k _ _ he3) (by rw [hz3.1]; exact q)
    have test : ∀ {x : Str} {c : Value} {np : Pos} {Q : Value → Shared → Prop} {E : Value → Shared → Prop}, Names X x c → Q c { s1 with heap := h3 } →
        wpAny (model X.prog X.w) (X.A.mark (some (.ref a))) (eval (.Name x np) X.env) Q E { s1 with heap := h3 } := fun {x c np Q E} hc q => by
      obtain ⟨hg, hdb, hm | ⟨hm, hv, hnn⟩⟩ := hc
      · exact ld_glob (X := X.suite a ((a, oe3) :: (X.pn ++ pi))) S3 hg hm q hdb
      · exact ld_blt (X := X.suite a ((a, oe3) :: (X.pn ++ pi))) S3 hg hm hv q hnn hdb
    have go : ∀ {hds' : List ExceptHandler} {l' : List Clause}, ClOk X hds' l' → wCl X.K Wout D l' cls d σ1 H1 →
        wpAny (model X.prog X.w) X.A (handleBy (.ref a) X.env hds') (SP X pi D) X.xe { s1 with heap := h3 } := by
      intro hds' l' hk
      induction hk with
      | nil =>
        intro w
        refine wpAny_handleBy_nil ?_
        obtain ⟨_, _, _, oe, vs, T, oT, ts', he, hz, hd, h1, hr⟩ := id f3
        unfold PySem.passOn
        refine wpAny_bind (wpAny_field he hd h1 ?_)
        rw [if_neg (show ¬ ((Value.ref T == Value.none) = true) from by simp)]
        have fin : wpAny (model X.prog X.w) X.A (setFlight (.ref a) X.env.frame) (fun _ s4 => wpAny (model X.prog X.w) X.A (throw (.ref a) : Sem Flow) (SP X pi D) X.xe s4) X.xe { s1 with heap := h3 } := by
          rw [hf]
          refine HandSPX.setFlight_upZ f3 fun h4 hh4 up4 => wpAny_throw (tk _ _ ?_)
          exact ⟨a, B, sI, pi, σ1, H1, cls, d, rfl, J, nb, (up.trans u3).trans up4, Or.inr (Or.inr (by rw [hs]; exact hh4)), na, os, ag, w⟩
        first
          | exact wpAny_bind (wpAny_pure (wpAny_bind fin))
          | exact wpAny_bind fin
      | @only x c ts b0 su np p' hds2 l2 hc hsu r ih =>
        rintro ⟨b, hb1, yes, no⟩
        refine wpAny_handleBy_cons (codeAny_handlers_test (test hc ((PySem.W.exm_one (M := model X.prog X.w) J3.kIn LT hb1).here ?_))) (by intro q; cases q)
        cases b with
        | false => exact ih (no rfl)
        | true =>
          refine codeAny_handlers_suite (HandSPX.lands_againZ f3 fun h4 fl4 up4 => ?_)
          have J4 : Inv X pi σ1 H1 { s1 with heap := h4 } := J.landed nb fl4.1 ((up.trans u3).trans up4) os ag
          obtain ⟨oe4, vs4, he4, hz4, hd4⟩ := fl4.there
          refine wpAny_mono ((hsu a oe4 cls d (X.pn ++ pi) hz4 ⟨_, hd4⟩).run [] _ _ H1 _ (J4.suite he4 hd4 na nL nF) (yes rfl a na)) (fun f s6 hsp => ?_) (fun _ _ z => False.elim z)
          match f, hsp with
          | .next, ⟨_, _, S6, q6⟩ => exact ⟨_, _, S6.unsuite ok, q6⟩
          | .brk, ⟨_, _, S6, q6⟩ => exact ⟨_, _, S6.unsuite ok, q6⟩
          | .cont, ⟨_, _, S6, q6⟩ => exact ⟨_, _, S6.unsuite ok, q6⟩
          | .ret u, ⟨_, _, _, S6, r6, q6⟩ => exact ⟨_, _, _, S6.unsuite ok, r6, q6⟩
      | @as x n i c ts b0 su np p' hds2 l2 hc hi hln hsu r ih =>
        rintro ⟨b, hb1, yes, no⟩
        refine wpAny_handleBy_cons (codeAny_handlers_test (test hc ((PySem.W.exm_one (M := model X.prog X.w) J3.kIn LT hb1).here ?_))) (by intro q; cases q)
        cases b with
        | false => exact ih (no rfl)
        | true =>
          refine codeAny_handlers_suite_as (HandSPX.lands_againZ f3 fun h4 fl4 up4 => ?_)
          have J4 : Inv X pi σ1 H1 { s1 with heap := h4 } := J.landed nb fl4.1 ((up.trans u3).trans up4) os ag
          obtain ⟨oe4, vs4, he4, hz4, hd4⟩ := fl4.there
          refine store_ok (X := X.suite a ((a, oe4) :: (X.pn ++ pi))) (v := .ref a) (J4.suite he4 hd4 na nL nF) hN hi (Or.inl hln) rfl (fun s5 S5 => ?_) (Or.inr hln)
          refine wpAny_mono ((hsu a oe4 cls d (X.pn ++ pi) hz4 ⟨_, hd4⟩).run [] s5 _ H1 _ S5 (yes rfl a na)) (fun f s6 hsp => ?_) (fun _ _ z => False.elim z)
          have gone : ∀ {σ6 : L2.St} {H6 : Hp} {Q : Shared → Prop}, Inv (X.suite a ((a, oe4) :: (X.pn ++ pi))) [] σ6 H6 s6 → (∀ s7, Inv X pi (σ6.set i none) H6 s7 → Q s7) →
              wpAny (model X.prog X.w) X.A (do bindName X.env n .none; unbindBehindTheSuite X.env n p') (fun _ s7 => Q s7) X.xe s6 := fun S6 hq => gone_ok (S6.unsuite ok) hN hi hln hq
          match f, hsp with
          | .next, ⟨_, _, S6, q6⟩ => exact gone S6 fun s7 J7 => ⟨_, _, J7, q6⟩
          | .brk, ⟨_, _, S6, q6⟩ => exact gone S6 fun s7 J7 => ⟨_, _, J7, q6⟩
          | .cont, ⟨_, _, S6, q6⟩ => exact gone S6 fun s7 J7 => ⟨_, _, J7, q6⟩
          | .ret u, ⟨_, _, _, S6, r6, q6⟩ => exact gone S6 fun s7 J7 => ⟨_, _, _, J7, r6, q6⟩
    exact go hh w
  refine wpAny_mono ((hb _ (X.pn ++ pi) xe tkx PassesOwn.looking).run [] s σ H D (I.toTry _) h) (fun f s1 hsp => ?_) (fun e s1 he => he)
  match f, hsp with
  | .next, ⟨σ1, H1, J1, q⟩ => exact wpAny_execs_nil ⟨σ1, H1, J1.ofTry ok, q⟩
  | .brk, ⟨σ1, H1, J1, q⟩ => exact ⟨σ1, H1, J1.ofTry ok, q⟩
  | .cont, ⟨σ1, H1, J1, q⟩ => exact ⟨σ1, H1, J1.ofTry ok, q⟩
  | .ret u, ⟨v, σ1, H1, J1, r, q⟩ => exact ⟨v, σ1, H1, J1.ofTry ok, r, q⟩
end
end U

namespace U
open PySem L2 PySem.Spec PyProof.Rows
/-- what the written part says of an error's class at C, its __init__ at fI, its field f -/
structure ErrC (K : PySem.W.Frag) (C fI : Addr) (f : Str) : Prop where
  oex : OexC K C
  xf : XfC K C
  no : PySem.W.findIn K (.ref C) f = some none
  iC : PySem.W.findIn K (.ref C) "__init__" = some (some (.ref fI))
  tI : PySem.W.typeIn K (.ref fI) = some (.type "function")
  ha : PySem.W.findIn K (.ref C) "__class__" = some (some (.builtin "object.__class__"))
  hm : PySem.W.mroIn K C (.type "object") = some true
section
variable {X : Cx} {a C fI : Addr} {oe : Obj} {cls : Value} {d : Option Addr} {pn : List (Addr × Obj)} {e : Expr} {te : TE} {pos : Pos} {f : Str} {K : PySem.W.Frag}
/-- e.f += v -/
def FaK (K : PySem.W.Frag) (f : Str) (R : Addr → Addr → V → Hp → Prop) (x : V) (H : Hp) : Prop := ∃ a C dx fs v, x = .ref a ∧ H a = some (.ins C dx fs) ∧ Cls K C ∧ NoAttr K C f ∧ fs.lookup f = some v ∧ R a C v H
def FbK (f : Str) (a C : Addr) (R : Hp → Prop) (z : V) (H : Hp) : Prop := ∃ dx fs, H a = some (.ins C dx fs) ∧ fs.length < 1000 ∧ R (upd H a (.ins C dx (putF f z fs)))
def tFa (K : PySem.W.Frag) (ta tv : TE) (rd : V → V → Hp → VK → Prop) (f : Str) : TS := fun D σ H => ta σ H (FaK K f fun a C v H1 => tv σ H1 fun y H2 => rd v y H2 (FbK f a C (D.nx σ)))
theorem ps_fa {o value : Expr} {op : Operator} {ta tv : TE} {rd : V → V → Hp → VK → Prop} {tp : Pos} (hK : X.K = K) (ha : PE X o ta) (hv : PE X value tv) (hop : InOp X op rd) : PS X (.AugAssign (.Attribute o f tp) op value pos) (tFa K ta tv rd f) :=
  hK ▸ ps_fldaug ha hv hop
/-- err.f in its suite -/
def XfK (a : Addr) (cls : Value) (d : Option Addr) (C : Addr) (f : Str) (Q : VK) (x : V) (H : Hp) : Prop := x = .ref a ∧ cls = .ref C ∧ ∃ (dd : Addr) (fs : List (Str × V)) (v : V), d = some dd ∧ H dd = some (.xd fs) ∧ fs.lookup f = some v ∧ Q v H
def tXe (a : Addr) (cls : Value) (d : Option Addr) (C : Addr) (f : Str) (te : TE) : TE := fun σ H Q => te σ H (XfK a cls d C f Q)
theorem pe_xe (T : ErrC X.K C fI f) (hz : Zc cls d oe) (hf : ∃ vs, oe.data = .fields vs) (he : PE (X.suite a ((a, oe) :: pn)) e te) (hb : attributeBase e f X.env (eval e X.env) = eval e X.env := by rfl) :
    PE (X.suite a ((a, oe) :: pn)) (.Attribute e f pos) (tXe a cls d C f te) := pe_xf T.xf T.no hz hf he hb
/-- isinstance(err, T) in its suite -/
def rIsX (K : PySem.W.Frag) (a : Addr) (cls : Value) (d : Option Addr) (C : Addr) : List V → Hp → VK → Prop := fun xs H Q => ∃ (c : V) (cv : Value) (b : Bool) (dd : Addr) (fs : List (Str × V)), xs = [.ref a, c] ∧ ClsV c cv ∧ cls = .ref C ∧ d = some dd ∧ H dd = some (.xd fs) ∧
  PySem.W.kitOne K (.ref C) cv = some b ∧ Q (.bl b) H
theorem c_isx (hK : X.K = K) (T : ErrC X.K C fI f) (hn : PySem.W.specialIn X.K (.builtin "object.__class__") "__get__" = some (some (.builtin "getset_descriptor.__get__"))) (ht : PySem.W.takesIn X.K (.builtin "object.__class__") = some true)
    (hz : Zc cls d oe) (hf : ∃ vs, oe.data = .fields vs) : CallR (X.suite a ((a, oe) :: pn)) (.builtin "isinstance") (rIsX K a cls d C) := by
  subst hK
  rintro pi s σ H xs us Q I vv ⟨c, cv, b, dd, fs, rfl, hc, rfl, rfl, hd, e, q⟩
  cases vv with
  | cons rx rr =>
    cases rr with
    | cons rt rr =>
      cases rr
      cases rx
      obtain rfl := hc.eq rt
      obtain ⟨hget, _⟩ := I.pin (a, oe) (List.mem_append.mpr (Or.inl List.mem_cons_self))
      obtain ⟨vs, hv⟩ := hf
      have hx : ObjOk X.prog X.w H s.heap dd (.xd fs) := I.hok dd _ hd
      obtain ⟨mA, hns, _⟩ := hx
      obtain ⟨od, ho, _⟩ := lookIn_ns hns
      have J : PySem.W.InstAt s.heap a oe C (some od) := ⟨hget, hz.1, by unfold PySem.W.notCls; rw [hv] <;> rfl, by rw [hz.2]; exact ho⟩
      have hcl : (PySem.W.clsIn X.K C).isSome = true := by
        have z := T.xf.hdC
        unfold PySem.W.hasDictIn at z
        cases y : PySem.W.clsIn X.K C with
        | none => rw [y] at z; simp at z
        | some _ => rfl
      exact PySem.W.kia_one (PySem.W.kitx_exc hcl T.xf.ga T.xf.gg T.xf.exC T.ha hn ht T.hm) I.kIn J e (fun z => nomatch z) fun tk => ⟨.bl b, H, I.kept (t' := tk) fun _ _ z => z, rfl, q⟩
end
section
variable {K : PySem.W.Frag} {σ : L2.St} {H : Hp} {Q : VK} {D : Ends} {a C dd : Addr} {f : Str} {v : V} {te to : TE} {t : TA}
theorem s_fa {tv : TE} {rd : V → V → Hp → VK → Prop} (h : te σ H (FaK K f fun a C v H1 => tv σ H1 fun y H2 => rd v y H2 (FbK f a C (D.nx σ)))) : tFa K te tv rd f D σ H := h
theorem s_fak {R : Addr → Addr → V → Hp → Prop} {dx : Addr} {fs : List (Str × V)} (h : H a = some (.ins C dx fs)) (c : Cls K C) (n : NoAttr K C f) (l : fs.lookup f = some v) (q : R a C v H) : FaK K f R (.ref a) H := ⟨a, C, dx, fs, v, rfl, h, c, n, l, q⟩
theorem s_fbk {R : Hp → Prop} {dx : Addr} {fs gs : List (Str × V)} (h : H a = some (.ins C dx fs)) (z : fs.length < 1000) (e : putF f v fs = gs) (q : ∀ H', H' a = some (.ins C dx gs) → Kp [a] H H' → R H') : FbK f a C R v H := ⟨dx, fs, h, z, by rw [e]; exact put_abs h rfl q⟩
theorem s_radd {n m : Int} (q : Q (.int (n + m)) H) : rAdd (.int n) (.int m) H Q := ⟨n, m, rfl, rfl, q⟩
theorem s_rsub {n m : Int} (q : Q (.int (n - m)) H) : rSub (.int n) (.int m) H Q := ⟨n, m, rfl, rfl, q⟩
theorem s_xe {cls : Value} {d : Option Addr} (h : te σ H (XfK a cls d C f Q)) : tXe a cls d C f te σ H Q := h
theorem s_xek {fs : List (Str × V)} (h : H dd = some (.xd fs)) (l : fs.lookup f = some v) (q : Q v H) : XfK a (.ref C) (some dd) C f Q (.ref a) H := ⟨rfl, rfl, dd, fs, v, rfl, h, l, q⟩
theorem s_isx {C2 : Addr} {b : Bool} {fs : List (Str × V)} (h : H dd = some (.xd fs)) (e : PySem.W.kitOne K (.ref C) (.ref C2) = some b) (q : Q (.bl b) H) : rIsX K a (.ref C) (some dd) C [.ref a, .ref C2] H Q := ⟨.ref C2, .ref C2, b, dd, fs, rfl, .own C2, rfl, rfl, h, e, q⟩
theorem s_se (h : t σ H (SeK K Q)) : tSe K t σ H Q := h
theorem s_sek {z : V} (T : OexC K C) (h : H a = some (exo a C none)) (q : Q .non H) : SeK K Q [.ref a, z] H := ⟨a, C, [z], rfl, by simp, T, h, q⟩
theorem s_os (h : te σ H fun y H1 => to σ H1 (OsK K f y (D.nx σ))) : tOs K f to te D σ H := h
theorem s_rz {W : WX} (h : te σ H (RzK C f fun cls d H' => W cls d σ H')) : tRz C f W te D σ H := h
theorem s_try {Wout : WX} {l : List Clause} {tb : WX → TS} (h : tb (wCl K Wout D l) D σ H) : tTry K Wout l tb D σ H := h
end
end U

namespace U
open PySem L2 PySem.Spec PyProof.Rows
/-! dicts -/
section
variable {X : Cx} {k : Nat} {K : PySem.W.Frag} {o i e value : Expr} {pos p' ap : Pos} {td ty tv : TE} {trs : List (TE × TE)} {keys : List (Option Expr)} {values : List Expr}
def DdK (Q : VK) (p : Addr) (ps : List (V × V)) (H : Hp) : Prop := H p = some (.dK []) ∧ ∃ kvs : List (Key × V), ps = kvs.map (fun kv => (kV kv.1, kv.2)) ∧ kvs.length ≤ 15 ∧ Q (.ref p) (upd H p (.dK (mergeK [] kvs)))
def tDd (trs : List (TE × TE)) : TE := fun σ H Q => ∀ p, H p = none → tPairs trs σ (upd H p (.dK [])) (DdK Q p)
theorem pe_dd (h : PPs X pos keys values trs) (h1 : keys.all (·.isSome) = true) (h2 : keys.length = values.length) (h3 : keys ≠ []) (h4 : keys.length ≤ 15) : PE X (.Dict keys values pos) (tDd trs) := pe_disp h h1 h2 h3 h4
def DgK (x : V) (Q : VK) (y : V) (H : Hp) : Prop := ∃ a v, x = .ref a ∧ DGet H a y (some v) ∧ Q v H
def tDg (td ty : TE) : TE := fun σ H Q => td σ H fun x H1 => ty σ H1 (DgK x Q)
theorem pe_dg (hr : Room k X.A) (ho : PE X o td) (hi : PE X i ty) (hs : NoSl i) : PE X (.Subscript o i pos) (tDg td ty) := pe_dget (hu_of hr) ho hi hs
def DnK (ng : Bool) (y : V) (Q : VK) (x : V) (H : Hp) : Prop := ∃ a r, x = .ref a ∧ DGet H a y r ∧ Q (.bl (if ng then !r.isSome else r.isSome)) H
def tDn (ng : Bool) (ty td : TE) : TE := fun σ H Q => ty σ H fun y H1 => td σ H1 (DnK ng y Q)
theorem pc_in (hr : Room k X.A) (hi : PE X i ty) (ho : PE X o td) : PC X .In i o (tDn false ty td) := pc_din (hu_of hr) hi ho
theorem pc_nin (hr : Room k X.A) (hi : PE X i ty) (ho : PE X o td) : PC X .NotIn i o (tDn true ty td) := pc_dnotin (hu_of hr) hi ho
/-- o[i] = v, of a list or a dict -/
def uSet : V → V → V → Hp → (Hp → Prop) → Prop := fun o i v H Q => rSetL o i v H Q ∨ rSetD o i v H Q
theorem set_u (hr : Room k X.A) : PSet X uSet := by
  intro pi s σ H o i v ov iv u Q I ro ri rv h
  rcases h with h | h
  · exact set_list pi s σ H o i v ov iv u Q I ro ri rv h
  · exact set_dict (hu_of hr) pi s σ H o i v ov iv u Q I ro ri rv h
def PopK (a : Addr) (Q : VK) (y : V) (H : Hp) : Prop := ∃ kvs k v, H a = some (.dK kvs) ∧ y = kV k ∧ valV kvs k = some v ∧ Q v (upd H a (.dK (dropK kvs k)))
def PopJ (ty : TE) (σ : L2.St) (Q : VK) (x : V) (H : Hp) : Prop := ∃ a, x = .ref a ∧ IsD H a ∧ ty σ H (PopK a Q)
def tPop (td ty : TE) : TE := fun σ H Q => td σ H (PopJ ty σ Q)
theorem pe_pop (ho : PE X o td) (he : PE X e ty) (m : M1 X o "pop" ap e pos) : PE X (.Call (.Attribute o "pop" ap) [e] [] pos) (tPop td ty) := pe_dpop1 ho he m
def uDict : List V → Hp → VK → Prop := fun xs H Q => ∃ (a : Addr) (kvs : List (Key × V)), xs = [.ref a] ∧ Rd H a (.dK kvs) ∧ ∀ p, H p = none → Q (.ref p) (upd H p (.dK kvs))
theorem c_dict : CallR X (.type "dict") uDict := call_dictD
def uList (K : PySem.W.Frag) : List V → Hp → VK → Prop := fun xs H Q => ∃ p ys, xs = [.ref p] ∧ (SqL K H p ys ∨ SqT K H p ys) ∧ ∀ l, H l = none → Q (.ref l) (upd H l (.lst ys))
end
section
variable {K : PySem.W.Frag} {σ : L2.St} {H : Hp} {Q : VK} {D : Ends} {x y v : V} {p : Addr} {n : Int} {z : Str} {kvs ks : List (Key × V)} {td ty : TE} {trs : List (TE × TE)}
theorem s_dd (h : ∀ p H', H p = none → H' p = some (.dK []) → Kp [] H H' → tPairs trs σ H' (DdK Q p)) : tDd trs σ H Q := fun p f => h p _ f upd_same (Kp.refl.new f)
theorem s_ddk {ps : List (V × V)} (h : H p = some (.dK [])) (e : ps = kvs.map (fun kv => (kV kv.1, kv.2))) (hl : kvs.length ≤ 15) (m : mergeK [] kvs = ks) (q : ∀ H', H' p = some (.dK ks) → Kp [p] H H' → Q (.ref p) H') : DdK Q p ps H :=
  ⟨h, kvs, e, hl, by rw [m]; exact put_abs h rfl (R := fun H' => Q (.ref p) H') q⟩
theorem s_dg (h : td σ H fun x H1 => ty σ H1 (DgK x Q)) : tDg td ty σ H Q := h
theorem s_dgi (h : H p = some (.dK kvs)) (e : valV kvs (Sum.inl n : Key) = some v) (q : Q v H) : DgK (.ref p) Q (.int n) H := ⟨p, v, rfl, by rw [← e]; exact DGet.k (k := Sum.inl n) h, q⟩
theorem s_dgs (h : H p = some (.dK kvs)) (e : valV kvs (Sum.inr z : Key) = some v) (q : Q v H) : DgK (.ref p) Q (.str z) H := ⟨p, v, rfl, by rw [← e]; exact DGet.k (k := Sum.inr z) h, q⟩
theorem s_dn {ng : Bool} (h : ty σ H fun y H1 => td σ H1 (DnK ng y Q)) : tDn ng ty td σ H Q := h
theorem s_dni {ng : Bool} (h : H p = some (.dK kvs)) (q : Q (.bl (if ng then !(valV kvs (Sum.inl n : Key)).isSome else (valV kvs (Sum.inl n : Key)).isSome)) H) : DnK ng (.int n) Q (.ref p) H := ⟨p, _, rfl, DGet.k (k := Sum.inl n) h, q⟩
theorem s_dns {ng : Bool} (h : H p = some (.dK kvs)) (q : Q (.bl (if ng then !(valV kvs (Sum.inr z : Key)).isSome else (valV kvs (Sum.inr z : Key)).isSome)) H) : DnK ng (.str z) Q (.ref p) H := ⟨p, _, rfl, DGet.k (k := Sum.inr z) h, q⟩
theorem s_ul {xs ys : List V} {j : Nat} {R : Hp → Prop} (h : H p = some (.lst xs)) (hj : ixN xs.length n = some j) (e : xs.set j v = ys) (q : ∀ H', H' p = some (.lst ys) → Kp [p] H H' → R H') : uSet (.ref p) (.int n) v H R := Or.inl ⟨p, xs, n, j, rfl, rfl, h, hj, by rw [e]; exact put_abs h rfl q⟩
theorem s_uds {R : Hp → Prop} (h : H p = some (.dK kvs)) (hl : kvs.length < sizeLine) (e : putK kvs (Sum.inr z : Key) v = ks) (q : ∀ H', H' p = some (.dK ks) → Kp [p] H H' → R H') : uSet (.ref p) (.str z) v H R :=
  Or.inr ⟨p, _, rfl, DPut.k (k := Sum.inr z) h hl, by rw [e]; exact put_abs h rfl q⟩
theorem s_udi {R : Hp → Prop} (h : H p = some (.dK kvs)) (hl : kvs.length < sizeLine) (e : putK kvs (Sum.inl n : Key) v = ks) (q : ∀ H', H' p = some (.dK ks) → Kp [p] H H' → R H') : uSet (.ref p) (.int n) v H R :=
  Or.inr ⟨p, _, rfl, DPut.k (k := Sum.inl n) h hl, by rw [e]; exact put_abs h rfl q⟩
theorem s_pop (h : td σ H (PopJ ty σ Q)) : tPop td ty σ H Q := h
theorem s_popj (h : H p = some (.dK kvs)) (q : ty σ H (PopK p Q)) : PopJ ty σ Q (.ref p) H := ⟨p, rfl, Or.inl ⟨kvs, Or.inl h⟩, q⟩
theorem s_popk (h : H p = some (.dK kvs)) (e : valV kvs (Sum.inl n : Key) = some v) (m : dropK kvs (Sum.inl n : Key) = ks) (q : ∀ H', H' p = some (.dK ks) → Kp [p] H H' → Q v H') : PopK p Q (.int n) H :=
  ⟨kvs, Sum.inl n, v, h, rfl, e, by rw [m]; exact put_abs h rfl (R := fun H' => Q v H') q⟩
theorem s_dict (h : H p = some (.dK kvs)) (q : ∀ l H', H l = none → H' l = some (.dK kvs) → Kp [] H H' → Q (.ref l) H') : uDict [.ref p] H Q := ⟨p, kvs, rfl, Or.inl h, fun l f => q l _ f upd_same (Kp.refl.new f)⟩
theorem s_list {ys : List V} (h : SqL K H p ys) (q : ∀ l H', H l = none → H' l = some (.lst ys) → Kp [] H H' → Q (.ref l) H') : uList K [.ref p] H Q := ⟨p, ys, rfl, Or.inl h, fun l f => q l _ f upd_same (Kp.refl.new f)⟩
end
theorem c_list {X : Cx} {K : PySem.W.Frag} (hK : X.K = K) : CallR X (.type "list") (uList K) := hK ▸ call_list_of
end U

namespace U
open PySem L2 PySem.Spec PyProof.Rows
/-- may be shown -/
structure Sh (K : PySem.W.Frag) (H : Hp) (v : V) (d : PyData) : Prop where
  dn : Dn K H v d
  good : U.good d
  depth : d.depth ≤ 100
  sz : U.sz d ≤ 16000000
section
variable {K : PySem.W.Frag} {σ : L2.St} {H : Hp} {Q : VK} {D : Ends} {x y v : V} {p : Addr} {n : Int} {z : Str} {to te : TE} {t : TA} {r : V → List V → Hp → VK → Prop} {T : String} {xs : List V}
theorem s_rep {d : PyData} (h : Sh K H v d) (q : Q (.str d.shown) H) : rRepr K [v] H Q := ⟨v, d, rfl, h.dn, h.good, h.depth, h.sz, q⟩
theorem s_bm (h : to σ H fun x H1 => tyV K T x H1 ∧ t σ H1 fun xs H2 => r x xs H2 Q) : tBM K T r to t σ H Q := h
theorem s_bm0 (h : to σ H fun x H1 => tyV K T x H1 ∧ r x [] H1 Q) : tBM0 K T r to σ H Q := h
theorem s_tyl {R : Prop} (h : H p = some (.lst xs)) (q : R) : tyV K "list" (.ref p) H ∧ R := ⟨Or.inl ⟨rfl, xs, SqL.of h⟩, q⟩
theorem s_tys {R : Prop} (q : R) : tyV K "str" (.str z) H ∧ R := ⟨rfl, q⟩
theorem s_tyd {R : Prop} {kvs : List (Key × V)} (h : H p = some (.dK kvs)) (q : R) : tyV K "dict" (.ref p) H ∧ R := ⟨Or.inr (Or.inr (Or.inl ⟨rfl, Or.inl ⟨kvs, h⟩⟩)), q⟩
theorem s_app (h : H p = some (.lst xs)) (hz : xs.length < sizeLine) (q : ∀ H', H' p = some (.lst (xs ++ [y])) → Kp [p] H H' → Q .non H') : rAppend (.ref p) [y] H Q :=
  ⟨p, xs, y, rfl, rfl, h, hz, put_abs h rfl (R := fun H' => Q .non H') q⟩
theorem s_pnil {Q : List (V × V) → Hp → Prop} (q : Q [] H) : tPairs [] σ H Q := q
theorem s_pcons {Q : List (V × V) → Hp → Prop} {tk tv : TE} {r : List (TE × TE)} (h : tk σ H fun x H1 => tv σ H1 fun y H2 => tPairs r σ H2 fun ps H3 => Q ((x, y) :: ps) H3) : tPairs ((tk, tv) :: r) σ H Q := h
/-! a meeting of ways -/
theorem meetT {tt : TT} {Q : Bool → Hp → Prop} (R : Bool → Hp → Prop) (key : ∀ b H1, R b H1 → Q b H1) (w : (∀ b H1, R b H1 → Q b H1) → tt σ H Q) : tt σ H Q := w key
theorem meetE (R : V → Hp → Prop) (key : ∀ b H1, R b H1 → Q b H1) (w : (∀ b H1, R b H1 → Q b H1) → te σ H Q) : te σ H Q := w key
theorem meetS {t u : TS} (R : L2.St → Hp → Prop) (key : ∀ σ1 H1, R σ1 H1 → u D σ1 H1) (w : (∀ σ1 H1, R σ1 H1 → u D σ1 H1) → t { D with nx := u D } σ H) : tSeq t u D σ H := w key
theorem zlt {n : Nat} (h : n ≤ 1000000) : n < sizeLine := Nat.lt_of_le_of_lt h (by decide)
end
section
variable {K : PySem.W.Frag} {H H' : Hp}
mutual
theorem Dn.kp (k : Kp [] H H') : ∀ {v : V} {d : PyData}, Dn K H v d → Dn K H' v d
  | _, _, .non => .non
  | _, _, .bl b => .bl b
  | _, _, .int i => .int i
  | _, _, .str x => .str x
  | _, _, .lst r a => .lst (k.rd r) (DnA.kp k a)
  | _, _, .tup r a => .tup (k.sqt r) (DnA.kp k a)
  | _, _, .dic r a => .dic (k.rd r) (DnA.kp k a)
theorem DnA.kp (k : Kp [] H H') : ∀ {vs : List V} {ds : List PyData}, DnA K H vs ds → DnA K H' vs ds
  | _, _, .nil => .nil
  | _, _, .cons a b => .cons (Dn.kp k a) (DnA.kp k b)
end
theorem Sh.kp (k : Kp [] H H') {v : V} {d : PyData} (h : Sh K H v d) : Sh K H' v d := ⟨h.dn.kp k, h.good, h.depth, h.sz⟩
end
end U

namespace U
open PySem L2 PySem.Spec PyProof.Rows
section
variable {K : PySem.W.Frag} {σ : L2.St} {H H' : Hp} {Q : VK} {D : Ends} {x y v : V} {p : Addr} {n : Int} {xs vs : List V} {ps : List Addr}
theorem s_gtu {R : L2.St → Hp → Prop} {t : TGs} {k : Nat} (h : H p = some (.tup xs)) (hl : xs.length = k) (q : t xs σ H R) : gTup K k t (.ref p) σ H R := ⟨p, xs, rfl, SqT.of h, hl, q⟩
theorem s_gn {R : L2.St → Hp → Prop} (q : R σ H) : gNil [] σ H R := ⟨rfl, q⟩
theorem s_gc {R : L2.St → Hp → Prop} {t : TG} {u : TGs} (q : t v σ H fun σ1 H1 => u vs σ1 H1 R) : gCons t u (v :: vs) σ H R := ⟨v, vs, rfl, q⟩
theorem s_rng2 {ta : TA} {R : It → Hp → Prop} (h : ta σ H fun vs H1 => ∃ i j : Int, vs = [.int i, .int j] ∧ (-(2 ^ 62) ≤ i ∧ i < 2 ^ 62 ∧ -(2 ^ 62) ≤ j ∧ j < 2 ^ 62) ∧ R (Itr i (j - i).toNat) H1) : iRng2 ta σ H R := h
theorem s_rn2 {i j : Int} {R : Int → Int → Prop} (h : -(2 ^ 62) ≤ i ∧ i < 2 ^ 62 ∧ -(2 ^ 62) ≤ j ∧ j < 2 ^ 62) (q : R i j) : ∃ i' j' : Int, [V.int i, V.int j] = [.int i', .int j'] ∧ (-(2 ^ 62) ≤ i' ∧ i' < 2 ^ 62 ∧ -(2 ^ 62) ≤ j' ∧ j' < 2 ^ 62) ∧ R i' j' := ⟨i, j, rfl, h, q⟩
/-! a meeting of ways, what is behind it a letter -/
theorem jT {tt : TT} {Q : Bool → Hp → Prop} (R : Bool → Hp → Prop) (key : ∀ b H1, R b H1 → Q b H1) (w : ∀ Q' : Bool → Hp → Prop, (∀ b H1, R b H1 → Q' b H1) → tt σ H Q') : tt σ H Q := w _ key
theorem jE {te : TE} (R : V → Hp → Prop) (key : ∀ b H1, R b H1 → Q b H1) (w : ∀ Q' : VK, (∀ b H1, R b H1 → Q' b H1) → te σ H Q') : te σ H Q := w _ key
theorem jS {t u : TS} (R : L2.St → Hp → Prop) (key : ∀ σ1 H1, R σ1 H1 → u D σ1 H1) (w : ∀ u' : L2.St → Hp → Prop, (∀ σ1 H1, R σ1 H1 → u' σ1 H1) → t { D with nx := u' } σ H) : tSeq t u D σ H := w _ key
/-- no tuple -/
def Nt (H : Hp) (p : Addr) : Prop := ∀ xs, H p ≠ some (.tup xs)
theorem Nt.lst (h : H p = some (.lst xs)) : Nt H p := fun ys e => by rw [h] at e; cases e
theorem Nt.ins {C dx : Addr} {fs : List (Str × V)} (h : H p = some (.ins C dx fs)) : Nt H p := fun ys e => by rw [h] at e; cases e
theorem Nt.none (h : H p = none) : Nt H p := fun ys e => by rw [h] at e; cases e
theorem Kp.tup (k : Kp ps H H') (n : ∀ q ∈ ps, Nt H q) (e : H p = some (.tup xs)) : H' p = some (.tup xs) := k.get e fun m => n p m xs e
/-- new since -/
theorem Kp.all (k : Kp ps H H') (f : ∀ q ∈ ps, H q = none) : Kp [] H H' := ⟨fun b o e _ => k.keep b o e fun m => (by rw [f b m] at e; cases e), k.kd, k.tp⟩
end
end U

namespace U
open PySem L2 PySem.Spec PyProof.Rows
/-! xs[a:] = ys -/
theorem bounds_tail {a n : Nat} (h : a ≤ n) : sliceBounds (some (a : Int)) none none n = ((a : Int), (n : Int), 1) := by
  simp only [sliceBounds, Option.getD_none]
  have h1 : ¬ ((a : Int) < 0) := by omega
  simp only [h1, if_false, show (1 : Int) > 0 by decide, if_true]
  congr 1
  omega
section
variable {prog : Program} {w : World} {A : Around} {s : Shared} {E : Value → Shared → Prop}
theorem setItem_tail {l b sl : Addr} {items new : Array Value} {n n2 : Nat} {vl : Value} {a : Nat} {Q : Unit → Shared → Prop}
    (e : s.heap.get? l = some { cls := .type "list", data := .seq items n }) (e2 : s.heap.get? b = some { cls := .type "list", data := .seq new n2 }) (hne : l ≠ b)
    (hs : s.heap.IsSliceOf sl vl .none .none) (pl : IsPart vl (some (a : Int))) (ha : a ≤ items.size) (hsz : items.size + new.size ≤ sizeLine)
    (h : Q () { s with heap := s.heap.update l (Obj.mapSeq fun xs => xs.extract 0 a ++ new ++ xs.extract items.size xs.size) }) :
    wpAny (model prog w) A (setItem (.ref l) (.ref sl) (.ref b)) Q E s := by
  have hl : s.heap.IsList l items := PySem.IsL.isList e
  have hb : s.heap.IsList b new := PySem.IsL.isList e2
  obtain ⟨os, hos, hcs, hds⟩ := id hs
  have hTs : s.TypeIs (.ref sl) "slice" := ⟨os, hos, hcs⟩
  have hsame : Builtin.List.listSameRef (.ref l) (.ref b) = false := by
    unfold Builtin.List.listSameRef
    exact beq_eq_false_iff_ne.mpr hne
  have hmax : (max (a : Int) (items.size : Int)).toNat = items.size := by omega
  have hz' : ((fun xs : Array Value => xs.extract 0 a ++ new ++ xs.extract items.size xs.size) items).size ≤ sizeLine + 1 := by
    simp only [Array.size_append, Array.size_extract]
    omega
  unfold setItem
  try with_reducible refine wpAny_holding ?_
  first | refine wpAny_bind (wpAny_pure ?_) | skip
  refine wpAny_bind (wpAny_sequenceKey hl.typeIs (by decide) ?_)
  refine wpAny_bind (wpAny_callSpecial?_slot (name := Str.ofString "__setitem__") hl.typeIs slot_list_setitem (wpAny_call_entry slot_list_setitem hl.typeIs entry_list_setitem ?_ (args_list_setitem _ _ _)))
  show wpAny _ _ (Builtin.List.listSubscript? (.ref sl) >>= _) _ _ s
  refine wpAny_bind ?_
  unfold Builtin.List.listSubscript?
  refine wpAny_bind (wpAny_specialOf hTs slice_no_index ?_)
  simp only [Option.isNone_none, if_true]
  refine wpAny_pure ?_
  show wpAny _ _ (typeOf (.ref sl) >>= _) _ _ s
  refine wpAny_bind (wpAny_typeOf hTs ?_)
  first
    | rw [if_neg (by decide)]
    | refine PySem.W.KFB.if_not (by decide) ?_
  rw [listSliceParts_eq]
  refine wpAny_bind (wpAny_bind (wpAny_field hos hds (x := .none) rfl (wpAny_bind (wpAny_listPart .none ?_))))
  rw [if_neg (show ¬ ((rawPart none == rawInt 0) = true) from Bool.false_ne_true)]
  refine wpAny_bind (wpAny_field hos hds (x := vl) rfl (wpAny_bind (wpAny_listPart pl ?_)))
  refine wpAny_bind (wpAny_field hos hds (x := .none) rfl (wpAny_bind (wpAny_listPart .none (wpAny_pure ?_))))
  first
    | simp only [hsame, Bool.false_eq_true, if_false]
    | refine PySem.W.KFB.if_not hsame ?_
    | (dsimp only
       rw [if_neg (by rw [hsame]; exact Bool.false_ne_true)])
  refine wpAny_bind (m := Builtin.List.listAllItems (.ref b) "must assign iterable to extended slice") ?_
  unfold Builtin.List.listAllItems
  refine wpAny_bind (wpAny_typeOf hb.typeIs ?_)
  first
    | refine PySem.W.KFB.if_so (by decide) ?_
    | rw [if_pos (by decide)]
    | simp only [beq_self_eq_true, Bool.true_or, if_true]
  unfold Builtin.List.listItems
  refine wpAny_bind (wpAny_seqItems e2 rfl (wpAny_pure ?_))
  refine wpAny_bind (wpAny_bind (wpAny_seqItems e rfl (wpAny_pure ?_)))
  refine wpAny_bind (wpAny_of_eq ((sliceIndices_raw (some (a : Int)) none none items.size (by simp)).trans (congrArg (pure : Int × Int × Int → Sem (Int × Int × Int)) (bounds_tail ha))) ?_)
  show wpAny _ _ (if ((1 : Int) == 1) = true then _ else _) _ _ s
  rw [if_pos (by decide)]
  refine wpAny_bind (wpAny_rule ?_)
  first
    | simp only [notLongL hsz, Bool.false_eq_true, if_false]
    | refine PySem.W.KFB.if_not (notLongL hsz) ?_
  first | refine wpAny_bind (wpAny_pure ?_) | skip
  show wpAny _ _ (updateSeq l (fun xs => xs.extract 0 ((a : Int)).toNat ++ new ++ xs.extract (max (a : Int) (items.size : Int)).toNat xs.size) >>= _) _ _ s
  rw [hmax, Int.toNat_natCast]
  refine wpAny_bind (wpAny_updateSeq (hz := Nat.le_trans (Nat.le_add_right _ _) hsz) (_hz' := hz') e rfl ?_)
  refine wpAny_bind (wpAny_letGo ?_)
  first
    | exact wpAny_bind (wpAny_pure (wpAny_pure ⟨.none, rfl, wpAny_pure h⟩))
    | exact wpAny_pure ⟨.none, rfl, wpAny_pure h⟩
end
section
variable {X : Cx} {o lo : Expr} {to tl : TE} {pos p2 : Pos}
def TlK (x v : V) (R : Hp → Prop) (y : V) (H : Hp) : Prop := ∃ (l b : Addr) (xs ys : List V) (a : Int), x = .ref l ∧ v = .ref b ∧ y = .int a ∧ H l = some (.lst xs) ∧ H b = some (.lst ys) ∧ l ≠ b ∧ 0 ≤ a ∧ a ≤ xs.length ∧ xs.length + ys.length ≤ sizeLine ∧ R (upd H l (.lst (xs.take a.toNat ++ ys)))
def gTl (to tl : TE) : TG := fun v σ H R => to σ H fun x H1 => tl σ H1 (TlK x v (R σ))
theorem pg_tail (ho : PE X o to) (hl : PE X lo tl)
    (ha : ∀ v, assign (.Subscript o (.Slice (some lo) none none p2) pos) X.env v = (do
      let ov ← holding [v] (eval o X.env)
      let iv ← holding [v, ov] (eval (.Slice (some lo) none none p2) X.env)
      standAt pos
      holding [v, ov, iv] (setItem ov iv v)
      release [iv, v, ov] []) := by intro _; rfl) : PG X (.Subscript o (.Slice (some lo) none none p2) pos) (gTl to tl) := by
  refine ⟨fun pins s σ H v u Q I r h => ?_⟩
  rw [ha]
  refine wpAny_bind (wpAny_holding (thn (ho.run pins s σ H _ I h) fun ov s1 ⟨x, H1, I1, r1, q1⟩ => ?_))
  have hpo := po_some (peMo hl)
  refine wpAny_bind (wpAny_holding (wpAny_Slice (thn (hpo.run pins s1 σ H1 (fun o H2 => ∃ a, o = some a ∧ TlK x v (Q σ) (.int a) H2) I1 ⟨_, q1, fun y H2 z => ?_⟩) fun vl s2 ⟨a0, H2, I2, pl, a, ea, q2⟩ => ?_)))
  · obtain ⟨l, b, xs, ys, a, e1, e2, rfl, z⟩ := z
    exact ⟨a, rfl, a, rfl, l, b, xs, ys, a, e1, e2, rfl, z⟩
  subst ea
  refine thn (po_none.run pins s2 σ H2 (fun o H3 => o = none ∧ H3 = H2) I2 ⟨rfl, rfl⟩) fun vu s3 ⟨u', H3, I3, pu, eu, e3⟩ => ?_
  subst eu
  subst e3
  cases pu
  rw [evalPart_none]
  refine wpAny_pure ?_
  have I4 : Inv X pins σ H3 { s3 with heap := s3.heap.push { cls := .type "slice", data := .fields #[vl, .none, .none] } } := I3.kept (t' := s3.toks) fun b ob q => Heap.get?_push_of_some _ q
  obtain ⟨l, b, xs, ys, a', rfl, rfl, ea, hH, hB, hne, h0, h1, hz, q⟩ := q2
  cases ea
  cases r1
  cases r
  obtain ⟨z, its, n, rr, hl', e⟩ := I4.lstM hH
  obtain ⟨z2, its2, n2, r2, hl2, e2⟩ := I4.lstM hB
  obtain ⟨a', rfl⟩ := Int.eq_ofNat_of_zero_le h0
  simp only [Int.toNat_natCast] at q
  refine wpAny_bind (wpAny_standAt (wpAny_bind (wpAny_holding (setItem_tail (a := a') e e2 hne (Heap.IsSliceOf.new ..) pl (by rw [List.size_toArray]; omega) (by rw [List.size_toArray, List.size_toArray]; omega) ?_))))
  refine wpAny_release ⟨σ, _, I4.lset (its' := its.take a' ++ its2) (t' := s3.toks) hH e ?_ ((rr.take _).append r2) ?_, q⟩
  · have := splice_eq its its2 a' its.length
    rw [List.drop_length, List.append_nil] at this
    rw [List.size_toArray]
    exact this
  · rw [List.length_append, List.length_take]
    omega
section
variable {σ : L2.St} {H : Hp} {v x y : V} {l b : Addr} {xs ys zs : List V} {a : Int}
theorem s_tl {R : L2.St → Hp → Prop} (h : to σ H fun x H1 => tl σ H1 (TlK x v (R σ))) : gTl to tl v σ H R := h
theorem s_tlk {R : Hp → Prop} (h1 : H l = some (.lst xs)) (h2 : H b = some (.lst ys)) (n : l ≠ b) (h0 : 0 ≤ a) (ha : a ≤ xs.length) (hz : xs.length + ys.length ≤ sizeLine) (e : xs.take a.toNat ++ ys = zs)
    (q : ∀ H', H' l = some (.lst zs) → Kp [l] H H' → R H') : TlK (.ref l) (.ref b) R (.int a) H := ⟨l, b, xs, ys, a, rfl, rfl, rfl, h1, h2, n, h0, ha, hz, by rw [e]; exact put_abs h1 rfl q⟩
end
end
end U

namespace U
open PySem L2 PySem.Spec PyProof.Rows
section
variable {X : Cx}
/-- sorted(d), a dict with int keys, any number of them -/
def uSortD : List V → Hp → VK → Prop := fun xs H Q => ∃ (a : Addr) (kvs : List (Key × V)) (ks : List Int), xs = [.ref a] ∧ Rd H a (.dK kvs) ∧ kvs.map (·.1) = ks.map Sum.inl ∧
    ∀ (ys : List Int) (p : Addr), ys.Perm ks → ys.Pairwise (· ≤ ·) → H p = none → Q (.ref p) (upd H p (.lst (ys.map V.int)))
theorem c_sortD (hcalm : X.calm = true) : CallR X (.builtin "sorted") uSortD := by
  intro pins s σ H xs us Q I r q
  obtain ⟨a, kvs, ks, ex, hd, hks, q⟩ := q
  subst ex
  obtain ⟨u, eu, rx⟩ := vals1 r
  subst eu
  cases rx
  obtain ⟨z, lo, vs, rel, dd⟩ := dk_rd I.hok hd
  obtain ⟨ep, hat⟩ := dd.dictAt
  have hkeys : vs.map (·.1) = ks.map Sum.inl := rel.keys.symm.trans hks
  have hl : vs.length = ks.length := by
    have e := congrArg List.length hkeys
    rwa [List.length_map, List.length_map] at e
  have h16 : vs.length ≤ sizeLine := by rw [← rel.length]; exact z
  refine Calls.call_function_entry PyProof.Rows.kind_sorted PyProof.Rows.plain_sorted PyProof.Rows.entry_sorted (PyProof.Rows.args_sorted1 _) ?_
  unfold Builtin.«sorted»
  refine wpAny_bind (m := checkCount "sorted" 1 1 _) (wpAny_pure ?_)
  refine wpAny_bind (PySem.W.kdu_collect (A := X.A.in1) (PySem.W.kdl_dict (knd := mixKind X.prog X.w) (kvs := vs) (ep := ep) lo) (I.ok.hd hcalm) hat h16 fun h' tk acc hk hacc => ?_)
  have hal : acc.toList.length = ks.length := by rw [Array.length_toList, hacc.1, hl]
  have hS : IntsAre acc.toList ks := ints_each hal fun j v e => by
    obtain ⟨k, x, e1, e2⟩ := hacc.2 j v (by rw [← Array.getElem?_toList]; exact e)
    have e3 : (vs.map (·.1))[j]? = some k := by rw [List.getElem?_map, e1]; rfl
    rw [hkeys, List.getElem?_map] at e3
    obtain ⟨y, e4, rfl⟩ := Option.map_eq_some_iff.mp e3
    rcases keyIs_shape (show keyIs (Sum.inl y) v = true from e2) with ⟨i, t, ek, ev⟩ | ⟨z, t, ek, ev⟩
    · cases ek
      exact ⟨_, t, e4, ev⟩
    · cases ek
  have I1 : Inv X pins σ H { s with heap := h', toks := tk } := I.kept hk
  refine wpAny_bind (wpAny_newList ?_ (by rw [hal, ← hl]; exact h16))
  have hoL : (h'.push (seqObj "list" acc.toList.toArray 0)).get? h'.objs.size = some (seqObj "list" acc.toList.toArray 0) := Heap.get?_push_size _ rfl
  show wpAny _ _ _ _ _ { s with heap := h'.push (seqObj "list" acc.toList.toArray 0), toks := tk }
  refine wpAny_bind (wpAny_holding (wpAny_call_entry PyProof.Rows.slot_list_sort ⟨_, hoL, rfl⟩ PyProof.Rows.entry_list_sort
    (SrtO.list_sort_ord (s := { s with heap := h'.push (seqObj "list" acc.toList.toArray 0), toks := tk }) SrtO.swo_int hoL (by rw [hal, ← hl]; exact h16) (fun h2 => SrtO.ints_sortable hS h2) fun out h1 h2 => ⟨_, rfl, ?_⟩) (PyProof.Rows.args_list_sort _)))
  obtain ⟨g1, g2, g3⟩ := SrtO.ints_out hS h1 h2
  obtain ⟨e', he'⟩ := PyProof.Rows.sortedHeap_at (vs := acc.toList) (out := out.toArray) hoL
  have hlen : ((out.map SrtO.iv).map V.int).length ≤ sizeLine := by
    rw [List.length_map, g2.length_eq, ← hl]
    exact h16
  refine wpAny_pure ⟨_, rfl, .ref h'.objs.size, upd H h'.objs.size (.lst ((out.map SrtO.iv).map V.int)), I1.laid (t' := tk) (fun b u e => ?_) (Nat.le_refl _)
    (show ObjOk X.prog X.w _ _ _ (.lst ((out.map SrtO.iv).map V.int)) from ⟨hlen, out, e', vals_of_ints g1, he'⟩), rfl, q _ _ g2 g3 (I1.hok.fresh (Nat.le_refl _))⟩
  have hb : b < h'.objs.size := Heap.lt_size e
  rw [PyProof.Rows.sortedHeap_old (Nat.ne_of_lt hb) (by rw [size_push']; exact Nat.lt_succ_of_lt hb)]
  exact Heap.get?_push_of_some _ e
end
/-! d.update(e), another dict -/
section
variable {X : Cx}
theorem merge_len : ∀ (more kvs : List (Key × V)), (mergeK kvs more).length ≤ kvs.length + more.length
  | [], kvs => by simp [mergeK]
  | p :: r, kvs => by
    have h1 := merge_len r (putK kvs p.1 p.2)
    have h2 := length_putK kvs p.1 p.2
    have e : mergeK kvs (p :: r) = mergeK (putK kvs p.1 p.2) r := rfl
    rw [e, List.length_cons]
    omega
def rUpd : V → List V → Hp → VK → Prop := fun x xs H Q => ∃ (a b : Addr) (kvs more : List (Key × V)), x = .ref a ∧ xs = [.ref b] ∧ H a = some (.dK kvs) ∧ H b = some (.dK more) ∧ a ≠ b ∧ kvs.length + more.length ≤ sizeLine ∧ Q .non (upd H a (.dK (mergeK kvs more)))
theorem mt_update : MtR X "dict.update" rUpd := by
  intro pins s σ H x xs v us Q I rx rxs h
  obtain ⟨a, b, kvs, more, rfl, rfl, ha, hb, hne, hz, q⟩ := h
  cases rx
  obtain rfl := Vals.ref1 rxs
  obtain ⟨z, hd, vs, rel, dd⟩ := dk_of I.hok ha
  obtain ⟨z2, hd2, rs, rel2, dd2⟩ := dk_of I.hok hb
  refine call_meetsIn PySem.F.slot_dict_update dd.typeIs PySem.F.entry_dict_update (PySem.F.args_dict_update_2 _ _) (meets_dict_update (mixKind X.prog X.w) a b hne hd2) ⟨vs, rs, dd, dd2, by rw [← rel.length, ← rel2.length]; exact hz, fun h' dd' _ hs => ?_⟩
  have he : ∃ q, h'.get? a = some q := let ⟨q, _, _, hq, _⟩ := dd'; ⟨q, hq⟩
  exact ⟨.non, _, d_write (t' := s.toks) I (by rw [ha]; exact True.intro) hs he (dk_new (Nat.le_trans (merge_len _ _) hz) hd (KV.merge rel2 rel) dd'), rfl, q⟩
end
section
variable {K : PySem.W.Frag} {σ : L2.St} {H : Hp} {Q : VK} {a b : Addr} {kvs more ks : List (Key × V)}
theorem s_upd (ha : H a = some (.dK kvs)) (hb : H b = some (.dK more)) (n : a ≠ b) (hz : kvs.length + more.length ≤ sizeLine) (e : mergeK kvs more = ks) (q : ∀ H', H' a = some (.dK ks) → Kp [a] H H' → Q .non H') : rUpd (.ref a) [.ref b] H Q :=
  ⟨a, b, kvs, more, rfl, rfl, ha, hb, n, hz, by rw [e]; exact put_abs ha rfl (R := fun H' => Q .non H') q⟩
end
section
variable {K : PySem.W.Frag} {σ : L2.St} {H : Hp} {Q : VK} {p : Addr} {kvs : List (Key × V)} {ks : List Int}
theorem s_sortD (h : H p = some (.dK kvs)) (e : kvs.map (·.1) = ks.map Sum.inl) (q : ∀ (ys : List Int) l H', ys.Perm ks → ys.Pairwise (· ≤ ·) → H l = none → H' l = some (.lst (ys.map V.int)) → Kp [] H H' → Q (.ref l) H') : uSortD [.ref p] H Q :=
  ⟨p, kvs, ks, rfl, Or.inl h, e, fun ys l hp hs f => q ys l _ hp hs f upd_same (Kp.refl.new f)⟩
end
end U

namespace U
open PySem L2 PySem.Spec PyProof.Rows
/-! what the stepping words lean on: where things stand, by search -/
section
variable {K : PySem.W.Frag} {H H1 H2 : Hp} {ps qs : List Addr} {a b p q : Addr} {o u : HO} {i j : Nat}
theorem Kp.step (h : Kp ps H H1) (k : Kp qs H1 H2) (n : ∀ q ∈ qs, q ∈ ps ∨ H q = none) : Kp ps H H2 := ⟨fun b o e m => by
  refine k.keep b o (h.keep b o e m) fun z => ?_
  rcases n b z with y | y
  · exact m y
  · (rw [y] at e; cases e), fun b i e => k.kd b i (h.kd b i e), fun b xs e => k.tp b xs (h.tp b xs e)⟩
/-- told of heaps that are further apart (no step of the search) -/
structure Kz (ps : List Addr) (H H' : Hp) : Prop where
  k : Kp ps H H'
/-- told for later: it did not stand -/
structure Fz (H : Hp) (p : Addr) : Prop where
  f : H p = none
theorem nt1 {H : Hp} {p : Addr} (h : Nt H p) : ∀ q ∈ [p], Nt H q := by simpa using h
theorem nm0 : a ∉ ([] : List Addr) := by simp
theorem nmc (h : a ≠ p) (g : a ∉ ps) : a ∉ p :: ps := by simp [h, g]
theorem al0 {P : Addr → Prop} : ∀ q ∈ ([] : List Addr), P q := by simp
theorem alc {P : Addr → Prop} (h : P p) (g : ∀ q ∈ ps, P q) : ∀ q ∈ p :: ps, P q := by simpa using ⟨h, g⟩
/-- what stands was none before -/
def Dm (H H1 : Hp) : Prop := ∀ b, H1 b = none → H b = none
theorem Dm.refl : Dm H H := fun _ e => e
theorem Dm.step (h : Dm H H1) (k : Kp ps H1 H2) : Dm H H2 := fun b e => h b (k.dom b e)
theorem Dm.fr (n : H1 p = none) (h : Dm H H1) : H p = none := h p n
theorem Th.kp (k : Kp ps H H1) (h : Th H a i) : Th H1 a i := k.kd a i h
theorem Th.ne (h : Th H a i) (f : H p = none) : a ≠ p := by obtain ⟨o, e, r⟩ := h; exact ne_of_none e f
theorem Th.nk (h : Th H a i) (g : Th H p j) (d : Nat.beq i j = false) : a ≠ p := fun z => by
  subst z
  obtain ⟨o, e, rfl⟩ := h
  obtain ⟨o', e', rfl⟩ := g
  rw [e] at e'
  cases e'
  exact Nat.ne_of_beq_eq_false d rfl
theorem Th.nt (h : Th H a i) (d : Nat.beq i 1 = false) : Nt H a := fun xs e => by
  obtain ⟨o, e2, rfl⟩ := h
  rw [e] at e2
  cases e2
  cases d
theorem SqL.kpn {xs : List V} (k : Kp ps H H1) (h : SqL K H a xs) (n : a ∉ ps) : SqL K H1 a xs := by
  rcases h with (e | ⟨o, e⟩) | e
  · exact Or.inl (Or.inl (k.get e n))
  · exact Or.inl (Or.inr ⟨o, k.get e n⟩)
  · exact Or.inr e
theorem TyN.kpn {v : V} {t : Kd} (h : TyN H v t) (k : Kp ps H H1) (n : ∀ q ∈ ps, v ≠ .ref q) : TyN H1 v t := by
  cases h with
  | non => exact .non
  | bl => exact .bl
  | int => exact .int
  | str => exact .str
  | lst e => exact .lst (k.get e fun m => n _ m rfl)
  | tup e => exact .tup (k.get e fun m => n _ m rfl)
  | dic e => exact .dic (k.get e fun m => n _ m rfl)
theorem kn {a b : Str} (h : decide (a = b) = false) : ¬ ((Sum.inr a : Key) = Sum.inr b) := fun z => by
  injection z with z
  exact absurd z (of_decide_eq_false h)
/-- the box: a list of three numbers, the last one at most n -/
structure Box (H : Hp) (p : Addr) (n : Nat) : Prop where
  ex : ∃ a b c : Int, H p = some (.lst [.int a, .int b, .int c]) ∧ 0 ≤ a ∧ 0 ≤ b ∧ b < 2147483629 ∧ 0 ≤ c ∧ c ≤ n
theorem Box.th {n : Nat} (h : Box H p n) : Th H p 0 := by obtain ⟨a, b, c, e, r⟩ := h.ex; exact .lst e
theorem Box.kp {n : Nat} (h : Box H p n) (k : Kp [] H H1) : Box H1 p n := by
  obtain ⟨a, b, c, e, r⟩ := h.ex
  exact ⟨a, b, c, k.get0 e, r⟩
theorem Box.kpn {n : Nat} (h : Box H p n) (k : Kp ps H H1) (z : p ∉ ps) : Box H1 p n := by
  obtain ⟨a, b, c, e, r⟩ := h.ex
  exact ⟨a, b, c, k.get e z, r⟩
theorem Box.ne {l : Addr} {n : Nat} (h : Box H p n) (hl : H l = none) : l ≠ p := (h.th.ne hl).symm
theorem Box.more {n m : Nat} (h : Box H p n) (e : n ≤ m) : Box H p m := by
  obtain ⟨a, b, c, e1, h1, h2, h3, h4, h5⟩ := h.ex
  exact ⟨a, b, c, e1, h1, h2, h3, h4, by omega⟩
theorem Box.nt {n : Nat} (h : Box H p n) : Nt H p := by
  obtain ⟨a, b, c, e, r⟩ := h.ex
  exact Nt.lst e
theorem PvD.begin {H : Hp} {D : Addr} {Pv : Nat → List V → Hp → Prop} (f : H D = none) (h : ∀ H', H' D = some (.lst []) → Kp [] H H' → Pv 0 [] H') : PvD D Pv 0 (upd H D (.lst [])) := ⟨[], upd_same, h _ upd_same (Kp.refl.new f)⟩
theorem PvD.add {H : Hp} {D : Addr} {Pv : Nat → List V → Hp → Prop} {acc : List V} {y : V} {i : Nat} (e : H D = some (.lst acc)) (hz : acc.length ≤ 1000000) (h : ∀ H', H' D = some (.lst (acc ++ [y])) → Kp [D] H H' → Pv i (acc ++ [y]) H') :
    ∃ acc, H D = some (.lst acc) ∧ acc.length < sizeLine ∧ PvD D Pv i (upd H D (.lst (acc ++ [y]))) := ⟨acc, e, zlt hz, acc ++ [y], upd_same, h _ upd_same (Kp.refl.put (by simp) (.lst e))⟩
theorem many_j (n : Nat) (lo hi : Int) (h0 : 0 ≤ lo) (h : lo ≤ hi) : ∃ j : Nat, (if (if (n : Int) < hi then (n : Int) else hi) > lo then (if (n : Int) < hi then (n : Int) else hi) else lo) = (j : Int) ∧ lo ≤ j ∧ j ≤ hi := by
  refine ⟨(if (if (n : Int) < hi then (n : Int) else hi) > lo then (if (n : Int) < hi then (n : Int) else hi) else lo).toNat, ?_, ?_, ?_⟩ <;> (split <;> split <;> omega)
end
end U

namespace U
open PySem L2 PySem.Spec PyProof.Rows
/-! == and != of data -/
section
variable {K : PySem.W.Frag} {H H1 : Hp} {Q : VK} {x y : V} {d e : PyData} {ps qs : List Addr}
mutual
theorem Dn.dp : ∀ {v : V} {d : PyData}, d.canLay0 = true → Dn K H v d → Dp K H v d
  | _, _, _, .non => .non
  | _, _, _, .bl b => .bl b
  | _, _, _, .int i => .int i
  | _, _, _, .str x => .str x
  | _, _, h, .lst r a => .lst (Or.inl r) (DnA.dp (by simpa only [PyData.canLay0] using h) a)
  | _, _, h, .tup r a => .tup r (DnA.dp (by simpa only [PyData.canLay0] using h) a)
  | _, _, h, .dic r a => by simp [PyData.canLay0] at h
theorem DnA.dp : ∀ {vs : List V} {ds : List PyData}, PyData.canLayAll0 ds = true → DnA K H vs ds → DpAll K H vs ds
  | _, _, _, .nil => .nil
  | _, _, h, .cons a b => by
    rw [PyData.canLayAll0, Bool.and_eq_true] at h
    exact .cons (Dn.dp h.1 a) (DnA.dp h.2 b)
end
theorem shp {d : PyData} (h : SeqAt.shaped d = true) : d.canLay0 = true := by
  unfold SeqAt.shaped at h
  rw [Bool.and_eq_true] at h
  exact h.1
theorem s_eqD (h1 : Dn K H x d) (h2 : Dn K H y e) (s1 : SeqAt.shaped d = true) (s2 : SeqAt.shaped e = true) (q : Q (.bl (PyData.eqv d e)) H) : uEq K x y H Q :=
  Or.inr ⟨d, e, h1.dp (shp s1), h2.dp (shp s2), s1, s2, q⟩
theorem s_neD (h1 : Dn K H x d) (h2 : Dn K H y e) (s1 : SeqAt.shaped d = true) (s2 : SeqAt.shaped e = true) (q : Q (.bl (!PyData.eqv d e)) H) : uNe K x y H Q :=
  Or.inr ⟨d, e, h1.dp (shp s1), h2.dp (shp s2), s1, s2, q⟩
theorem s_eqR (h1 : Dn K H x d) (h2 : Dn K H y d) (s1 : SeqAt.shaped d = true) (q : Q (.bl true) H) : uEq K x y H Q :=
  s_eqD h1 h2 s1 s1 (by rw [PySem.SeqAt.eqv_refl d (shp s1)]; exact q)
theorem s_neR (h1 : Dn K H x d) (h2 : Dn K H y d) (s1 : SeqAt.shaped d = true) (q : Q (.bl false) H) : uNe K x y H Q :=
  s_neD h1 h2 s1 s1 (by rw [PySem.SeqAt.eqv_refl d (shp s1)]; exact q)
/-- a list against [] -/
theorem s_neN {p r : Addr} {ds : List PyData} (h1 : Dn K H (.ref p) (.list ds)) (h2 : H r = some (.lst [])) (s1 : SeqAt.shaped (.list ds) = true) (q : Q (.bl (!ds.isEmpty)) H) : uNe K (.ref p) (.ref r) H Q := by
  refine s_neD h1 (.lst (Or.inl h2) .nil) s1 (by decide +kernel) ?_
  have e : PyData.eqv (.list ds) (.list []) = ds.isEmpty := by
    cases ds <;> simp [PyData.eqv, PyData.eqvAll]
  rw [e]
  exact q
theorem s_eqN {p r : Addr} {ds : List PyData} (h1 : Dn K H (.ref p) (.list ds)) (h2 : H r = some (.lst [])) (s1 : SeqAt.shaped (.list ds) = true) (q : Q (.bl ds.isEmpty) H) : uEq K (.ref p) (.ref r) H Q := by
  refine s_eqD h1 (.lst (Or.inl h2) .nil) s1 (by decide +kernel) ?_
  have e : PyData.eqv (.list ds) (.list []) = ds.isEmpty := by
    cases ds <;> simp [PyData.eqv, PyData.eqvAll]
  rw [e]
  exact q
/-! data of the part of the heap that is not at ps -/
def hid (ps : List Addr) (H : Hp) : Hp := fun a => if a ∈ ps then none else H a
theorem hid_some {a : Addr} {o : HO} (h : hid ps H a = some o) : H a = some o ∧ a ∉ ps := by
  unfold hid at h
  by_cases m : a ∈ ps
  · rw [if_pos m] at h; cases h
  · rw [if_neg m] at h; exact ⟨h, m⟩
theorem hid_of {a : Addr} {o : HO} (h : H a = some o) (m : a ∉ ps) : hid ps H a = some o := by
  unfold hid; rw [if_neg m]; exact h
theorem hid_kp (k : Kp qs H H1) (n : ∀ q ∈ qs, q ∈ ps ∨ H q = none) : Kp [] (hid ps H) (hid ps H1) := ⟨fun b o e _ => by
  obtain ⟨e1, m⟩ := hid_some e
  refine hid_of (k.get e1 fun z => ?_) m
  rcases n b z with y | y
  · exact m y
  · (rw [y] at e1; cases e1), fun b i e => by
  obtain ⟨o, e, r⟩ := e
  obtain ⟨e1, m⟩ := hid_some e
  obtain ⟨o', e', r'⟩ := k.kd b i ⟨o, e1, r⟩
  exact ⟨o', hid_of e' m, r'⟩, fun b xs e => by
  obtain ⟨e1, m⟩ := hid_some e
  exact hid_of (k.tp b xs e1) m⟩
/-- a thing that is data, no part of it at ps -/
def Dx (ps : List Addr) (K : PySem.W.Frag) (H : Hp) (v : V) (d : PyData) : Prop := Dn K (hid ps H) v d
theorem Dx.kpn (h : Dx ps K H x d) (k : Kp qs H H1) (n : ∀ q ∈ qs, q ∈ ps ∨ H q = none) : Dx ps K H1 x d := Dn.kp (hid_kp k n) h
theorem rdh {a : Addr} {u : HO} (r : Rd (hid ps H) a u) : Rd H a u := by
  rcases r with r | ⟨o, r⟩
  · exact Or.inl (hid_some r).1
  · exact Or.inr ⟨o, (hid_some r).1⟩
mutual
theorem Dn.unhid : ∀ {v : V} {d : PyData}, Dn K (hid ps H) v d → Dn K H v d
  | _, _, .non => .non
  | _, _, .bl b => .bl b
  | _, _, .int i => .int i
  | _, _, .str x => .str x
  | _, _, .lst r a => .lst (rdh r) (DnA.unhid a)
  | _, _, .tup r a => .tup (r.elim (fun z => Or.inl (rdh z)) Or.inr) (DnA.unhid a)
  | _, _, .dic r a => .dic (rdh r) (DnA.unhid a)
theorem DnA.unhid : ∀ {vs : List V} {ds : List PyData}, DnA K (hid ps H) vs ds → DnA K H vs ds
  | _, _, .nil => .nil
  | _, _, .cons a b => .cons (Dn.unhid a) (DnA.unhid b)
end
end
def uIsB : R2 := fun x y H Q => ∃ a b : Bool, x = .bl a ∧ y = .bl b ∧ Q (.bl (decide (a = b))) H
theorem o_isb {X : Cx} : OpR X (compareOp .Is) uIsB := op_is_bl
theorem s_isb {a b : Bool} {H : Hp} {Q : VK} (q : Q (.bl (decide (a = b))) H) : uIsB (.bl a) (.bl b) H Q := ⟨a, b, rfl, rfl, q⟩
section
variable {K : PySem.W.Frag} {σ : L2.St} {H : Hp} {Q : VK} {p : Addr} {xs : List V} {X : Cx}
def uTuple (K : PySem.W.Frag) : List V → Hp → VK → Prop := fun xs H Q => ∃ p ys, xs = [.ref p] ∧ ((SqL K H p ys ∧ ∀ l, H l = none → Q (.ref l) (upd H l (.tup ys))) ∨ (SqT K H p ys ∧ Q (.ref p) H))
theorem c_tuple (hK : X.K = K) : CallR X (.type "tuple") (uTuple K) := hK ▸ call_tuple_of
theorem s_tuple (h : SqL K H p xs) (q : ∀ l H', H l = none → H' l = some (.tup xs) → Kp [] H H' → Q (.ref l) H') : uTuple K [.ref p] H Q := ⟨p, xs, rfl, Or.inl ⟨h, new_abs (R := fun l H' => Q (.ref l) H') q⟩⟩
theorem s_tupleT (h : H p = some (.tup xs)) (q : Q (.ref p) H) : uTuple K [.ref p] H Q := ⟨p, xs, rfl, Or.inr ⟨SqT.of h, q⟩⟩
theorem s_rev (h : H p = some (.lst xs)) (q : ∀ H', H' p = some (.lst xs.reverse) → Kp [p] H H' → Q .non H') : rReverse (.ref p) [] H Q := ⟨p, xs, rfl, rfl, h, put_abs h rfl (R := fun H' => Q .non H') q⟩
end
theorem ix_mem {xs : List V} {i : Int} (h0 : 0 ≤ i) (h1 : i < xs.length) : ∃ v, v ∈ xs ∧ atI xs i = some v := by
  obtain ⟨v, e1, e2⟩ := at_int h0 h1
  exact ⟨v, List.mem_of_getElem? e1, e2⟩
theorem natAbs_lt {i : Int} {n : Nat} (h1 : -(n : Int) < i) (h2 : i < n) : i.natAbs < n := by omega
theorem s_par {i j : Nat} {ta : TA} {D : Ends} {σ : L2.St} {H : Hp} (h : ta σ H fun vs H1 => ∃ u v, vs = [u, v] ∧ D.nx ((σ.set i (some u)).set j (some v)) H1) : tPar i j ta D σ H := h
theorem s_two {u v : V} {R : V → V → Prop} (q : R u v) : ∃ u' v', [u, v] = [u', v'] ∧ R u' v' := ⟨u, v, rfl, q⟩
theorem at_last {α : Type} {xs : List α} (h : xs ≠ []) : ∃ v, v ∈ xs ∧ atI xs (-1) = some v := by
  have hp := List.length_pos_iff.mpr h
  refine ⟨xs[xs.length - 1]'(by omega), List.getElem_mem _, ?_⟩
  unfold atI ixN
  rw [if_neg (by omega), if_pos (by omega)]
  have e : (-1 + (xs.length : Int)).toNat = xs.length - 1 := by omega
  simp [e]
end U

namespace U
open PySem L2 PySem.Spec PyProof.Rows
/-! a def whose last parameter has the default None -/
section
variable {P : Program} {w : World} {K : PySem.W.Frag} {mg : Str → Option Value} {base : Heap} {x ql : Str} {st : Stmt} {f : Addr} {fd : FuncData} {N ps : List Str} {k : Nat} {sp : Sp}
abbrev FunN (K : PySem.W.Frag) (x ql : Str) (st : Stmt) (f : Addr) (fd : FuncData) : Prop := FunD K x ql (defArgs st) (defBody st) (defScope st) [.non] [] f fd
theorem funN_okX (F : FunN K x ql st f fd) (S : FnScope N ps (defScope st)) (len : ∀ vs H Q E, sp vs H Q E → vs.length = ps.length)
    (hb : ∀ (cdv : Value) (A : Around) (outer : List Env) (s : Shared) (H : Hp) (vs : List V) (Q : VK) (E : XK), Room k (A.deeper (envOfC ql (defScope st) s.heap.objs.size f cdv)) → sp vs H Q E →
      ∃ t, PSs (cxOf (L2.CX P w) P w K mg base N ql (defScope st) f cdv A outer s H E) (defBody st) t ∧ t { nx := fun _ H' => Q .non H', rt := Q } (start N vs) H) : FnOk P w K mg base (L2.CX P w) (k + 1) f fd ps sp :=
  F.ok S len hb
theorem funN_full (F : FunN K x ql st f fd) (n : Nat) (hn : n = ps.length)
    (h : ∀ (T : Addr) (kV doc pm : Value) (an : Option Addr) (cdv ct : Value) (us its : List Value), us.length = n → its.length = 1 →
      ∃ k, bindArgs (PySem.W.fnOf x ql (defArgs st) (defBody st) (defScope st) (.ref T) kV doc pm an cdv ct) ⟨us, []⟩ = seqItems? (.ref T) >>= k ∧ k (some its.toArray) = pure (ps.zip (us ++ its.drop 1))) : Binds K fd ps [] := by
  obtain ⟨ds, v, b⟩ := F.binds1 (ps := ps) n 1 (by simp) (by simp [hn]) h
  cases v
  exact b
theorem funN_part (F : FunN K x ql st f fd) (n : Nat) (hn : n + 1 = ps.length)
    (h : ∀ (T : Addr) (kV doc pm : Value) (an : Option Addr) (cdv ct : Value) (us its : List Value), us.length = n → its.length = 1 →
      ∃ k, bindArgs (PySem.W.fnOf x ql (defArgs st) (defBody st) (defScope st) (.ref T) kV doc pm an cdv ct) ⟨us, []⟩ = seqItems? (.ref T) >>= k ∧ k (some its.toArray) = pure (ps.zip (us ++ its.drop 0))) : Binds K fd ps [.none] := by
  obtain ⟨ds, v, b⟩ := F.binds1 (ps := ps) n 0 (by simp) (by simp [hn]) h
  cases v with
  | cons a r =>
    cases r
    cases a
    exact b
theorem funN_mk {oc : Value} {od an : Option Addr} {osl : Array (Option Value)} {kV doc pm cdv ct : Value} {T : Addr} {oT : Obj} {nT : Nat} (l : K.lookup f = some ⟨oc, od, .func (PySem.W.fnOf x ql (defArgs st) (defBody st) (defScope st) (.ref T) kV doc pm an cdv ct), osl⟩)
    (c : PySem.W.codeIn K cdv ql = true) (k : PySem.W.keepIn K (.ref f) = true) (lT : K.lookup T = some oT) (dT : oT.data = .seq #[Value.none] nT) : FunN K x ql st f (PySem.W.fnOf x ql (defArgs st) (defBody st) (defScope st) (.ref T) kV doc pm an cdv ct) :=
  ⟨⟨oc, od, _, kV, doc, pm, an, cdv, ct, osl, rfl, l, c, Or.inr ⟨by simp, T, oT, [.none], nT, rfl, lT, dT, .cons rfl .nil⟩, Or.inl rfl⟩, k⟩
end
/-! a walk over a list or a tuple -/
section
variable {X : Cx} {K : PySem.W.Frag} {tg l : Expr} {tl : TE}
def iSeq (K : PySem.W.Frag) (tl : TE) : TI := fun σ H R => tl σ H fun x H1 => ∃ a, x = .ref a ∧ (((∃ xs, SqL K H1 a xs) ∧ R (Itl K a) H1) ∨ ((∃ xs, SqT K H1 a xs) ∧ R (Itt K a) H1))
theorem pi_seq (hK : X.K = K) (hl : PE X l tl) : PI X tg l (iSeq K tl) := by
  subst hK
  refine ⟨fun pins s σ H R I h => ?_⟩
  refine thn (hl.run pins s σ H _ I h) fun v s1 ⟨x, H1, I1, r1, q1⟩ => ?_
  obtain ⟨a, e, q1⟩ := q1
  subst e
  cases r1
  rcases q1 with ⟨⟨xs, hq⟩, q⟩ | ⟨⟨xs, hq⟩, q⟩
  · obtain ⟨its, rv, p, hz⟩ := I1.list hq
    refine wpAny_pyIter_list p.isList ?_
    refine ⟨s1.heap.objs.size, [s1.heap.objs.size], _, _, H1, rfl, I1.kept (t' := s1.toks) fun b o e => Heap.get?_push_of_some _ e, turn_list a _, ⟨_, Heap.get?_push_size _ rfl, rfl, rfl⟩, fun b hb => ?_, q⟩
    have e : b = s1.heap.objs.size := by simpa using hb
    subst e
    exact I1.fpOk (Nat.le_refl _) (I1.hok.fresh (Nat.le_refl _))
  · obtain ⟨its, rv, p, hz⟩ := I1.tuple hq
    refine wpAny_pyIter_tuple (show s1.heap.IsTuple a its.toArray from p) ?_
    refine ⟨s1.heap.objs.size, [s1.heap.objs.size], _, _, H1, rfl, I1.kept (t' := s1.toks) fun b o e => Heap.get?_push_of_some _ e, turn_tuple a _, ⟨_, Heap.get?_push_size _ rfl, rfl, rfl⟩, fun b hb => ?_, q⟩
    have e : b = s1.heap.objs.size := by simpa using hb
    subst e
    exact I1.fpOk (Nat.le_refl _) (I1.hok.fresh (Nat.le_refl _))
variable {σ : L2.St} {H : Hp} {R : It → Hp → Prop}
theorem s_iseq (h : tl σ H fun x H1 => ∃ a, x = .ref a ∧ (((∃ xs, SqL K H1 a xs) ∧ R (Itl K a) H1) ∨ ((∃ xs, SqT K H1 a xs) ∧ R (Itt K a) H1))) : iSeq K tl σ H R := h
theorem s_isqT {p : Addr} {xs : List V} {S L : Addr → Prop} (h : H p = some (.tup xs)) (q : S p) : ∃ a, V.ref p = .ref a ∧ (((∃ xs, SqL K H a xs) ∧ L a) ∨ ((∃ xs, SqT K H a xs) ∧ S a)) := ⟨p, rfl, Or.inr ⟨⟨xs, SqT.of h⟩, q⟩⟩
theorem s_isqL {p : Addr} {xs : List V} {S L : Addr → Prop} (h : H p = some (.lst xs)) (q : L p) : ∃ a, V.ref p = .ref a ∧ (((∃ xs, SqL K H a xs) ∧ L a) ∨ ((∃ xs, SqT K H a xs) ∧ S a)) := ⟨p, rfl, Or.inl ⟨⟨xs, SqL.of h⟩, q⟩⟩
theorem s_itup (h : tl σ H fun x H1 => ∃ a, x = .ref a ∧ (∃ xs, SqT K H1 a xs) ∧ R (Itt K a) H1) : iTup K tl σ H R := h
theorem s_itp {p : Addr} {xs : List V} {S : Addr → Prop} (h : H p = some (.tup xs)) (q : S p) : ∃ a, V.ref p = .ref a ∧ (∃ xs, SqT K H a xs) ∧ S a := ⟨p, rfl, ⟨xs, SqT.of h⟩, q⟩
end
/-! isinstance(x, (list, tuple)) -/
section
variable {X : Cx} {K : PySem.W.Frag} {H : Hp} {Q : VK}
theorem c_isiT (hK : X.K = K) : CallR X (.builtin "isinstance") (rIsiT K) := hK ▸ call_isiT
def Kd.isSeq : Kd → Bool | .lst => true | .tup => true | _ => false
theorem kb_seq (t : Kd) : PySem.W.kitAny K (.type t.nm) [.type "list", .type "tuple"] = some t.isSeq := by cases t <;> rfl
theorem s_isSeq {v : V} {t : Kd} {tp : Addr} (h : TyN H v t) (e : H tp = some (.tup [.ty "list", .ty "tuple"])) (q : Q (.bl t.isSeq) H) : rIsiT K [v, .ref tp] H Q :=
  ⟨v, tp, _, _, _, _, rfl, e, .cons (.ty _) (.cons (.ty _) .nil), h.ty, kb_seq t, q⟩
def uAbs : List V → Hp → VK → Prop := fun xs H Q => ∃ i, xs = [.int i] ∧ Q (.int (if i < 0 then -i else i)) H
theorem c_abs : CallR X (.builtin "abs") uAbs := call_abs
theorem s_abs {i : Int} (q : Q (.int (if i < 0 then -i else i)) H) : uAbs [.int i] H Q := ⟨i, rfl, q⟩
theorem bt_abs : bootBuiltins "abs" = some (.builtin "abs") := by decide +kernel
theorem bt_enumerate : bootBuiltins "enumerate" = some (.type "enumerate") := by decide +kernel
end
end U

namespace U
open PySem L2 PySem.Spec PyProof.Rows
/-! enumerate(t), t a tuple -/
def IteT (K : PySem.W.Frag) (a : Addr) : It :=
  ⟨fun i H => ∃ (xs : List V) (x : V), SqT K H a xs ∧ xs[i]? = some x, fun i H v H' => ∃ T x, v = .ref T ∧ H T = none ∧ H' = upd H T (.tup [.int (i : Nat), x]) ∧ ∀ xs, SqT K H a xs → xs[i]? = some x, fun i H => ∃ xs : List V, SqT K H a xs ∧ xs.length ≤ i⟩
theorem turn_enumT {P : Program} {w : World} {K : PySem.W.Frag} {elts : List Expr} {kk : Nat} {tpos : Pos} (a e it : Addr) :
    Turn P w K (.Tuple elts kk tpos) (IteT K a) [e, it] e (fun i h => (∃ old, IsEnum h e it ((i : Nat) : Int) old) ∧ h.IsTupleIter it a i ∧ e ≠ it) where
  mem := by simp
  obj := fun i h st b hb => by
    obtain ⟨⟨old, he⟩, ⟨o, ho, hc, hd⟩, _⟩ := st
    have e' : b = e ∨ b = it := by simpa using hb
    rcases e' with z | z
    · rw [z]; exact ⟨_, he, fun v q => nomatch q⟩
    · rw [z]; exact ⟨o, ho, fun v q => by rw [hd] at q; cases q⟩
  keep := fun i h h' st k => let ⟨⟨old, he⟩, hi, hne⟩ := st; ⟨⟨old, k e (by simp) _ he⟩, hi.at fun o q => k it (by simp) o q, hne⟩
  item := by
    intro X hP hw hK hc i pins s σ H E I hf st hg
    subst hP hw hK
    obtain ⟨⟨old, he⟩, hit, hne⟩ := st
    obtain ⟨xs, x, hq, hx⟩ := hg
    obtain ⟨its, rv, p, hz⟩ := I.tuple hq
    obtain ⟨u, hu, ru⟩ := rv.get hx
    have p' : s.heap.IsTuple a its.toArray := p
    have nai : a ≠ it := fun z => by
      subst z
      obtain ⟨o1, e1, c1, _⟩ := p'
      obtain ⟨o2, e2, c2, _⟩ := hit
      rw [e1] at e2; cases e2
      rw [c1] at c2; exact absurd c2 (by simp)
    have nae : a ≠ e := fun z => by
      subst z
      obtain ⟨o1, e1, c1, _⟩ := p'
      have he' := he
      unfold IsEnum at he'
      rw [e1] at he'
      cases he'
      exact absurd c1 (by simp)
    have hel : e < s.heap.objs.size := Heap.lt_size he
    have hil : it < s.heap.objs.size := by obtain ⟨_, q, _⟩ := hit; exact Heap.lt_size q
    have hi : i < its.toArray.size := by
      rw [List.size_toArray]
      exact (List.getElem?_eq_some_iff.mp hu).1
    refine wpAny_pyNext_enum_itemD (Draws.tuple (A := X.A.in1) (show X.A.in1.handled = none from I.ok.hd hc) it a nai its.toArray) he ⟨hit, p'⟩ hi hne (by simp; exact ⟨hne, nae.symm⟩) fun x' h' tk hP ho hst' hT hsz hk => ?_
    obtain ⟨hit', _⟩ := hst'
    have ex : x' = u := by
      have hP' : its.toArray[i]? = some x' := hP
      rw [List.getElem?_toArray, hu] at hP'
      exact (Option.some.inj hP').symm
    subst ex
    refine ⟨_, rfl, wpAny_letOwnedTupleGo_enum (s := { s with heap := h', toks := tk + 1 }) ho fun h'' he' sb => ?_⟩
    have hT2 : h''.get? s.heap.objs.size = some { cls := .type "tuple", data := .seq #[.int i tk, x'] } := (sb.2 _ (Nat.ne_of_gt hel)).trans hT
    have new : ObjOk X.prog X.w (upd H s.heap.objs.size (.tup [.int (i : Nat), x])) h'' s.heap.objs.size (.tup [.int (i : Nat), x]) :=
      ⟨by show 2 ≤ sizeLine; decide, [.int i tk, x'], .cons ⟨_, rfl⟩ (.cons ru .nil), ⟨_, hT2, rfl, _, rfl⟩⟩
    have I1 : Inv X pins σ (upd H s.heap.objs.size (.tup [.int (i : Nat), x])) { s with heap := h'', toks := tk + 1 } :=
      I.turnedNew (ch := [e, it]) (fun b ob hb q => (sb.2 b (fun z => hb (by simp [z]))).trans (hk b ob (fun z => hb (by simp [z])) (fun z => hb (by simp [z])) q)) hf (Nat.le_refl _) new
    refine ⟨.ref s.heap.objs.size, _, I1, rfl, ⟨_, x, rfl, I.hok.fresh (Nat.le_refl _), rfl, fun ys hy => by rw [I.tuple_inj hy hq]; exact hx⟩, ⟨⟨x', ?_⟩, hit'.at fun o q => (sb.2 it (Ne.symm hne)).trans q, hne⟩, fun b hb => ?_⟩
    · have e1 : ((i + 1 : Nat) : Int) = (i : Int) + 1 := by omega
      rw [e1]; exact he'
    · have hb' : b < s.heap.objs.size := by
        have e' : b = e ∨ b = it := by simpa using hb
        rcases e' with z | z
        · rw [z]; exact hel
        · rw [z]; exact hil
      rw [upd_ne (Nat.ne_of_lt hb')]
      exact (hf b hb).1
  done := by
    intro X hP hw hK hc i pins s σ H E I hf st hg
    subst hP hw hK
    obtain ⟨⟨old, he⟩, hit, hne⟩ := st
    obtain ⟨xs, hq, hx⟩ := hg
    obtain ⟨its, rv, p, hz⟩ := I.tuple hq
    obtain ⟨f0, f1, f2, f3, f4, f5⟩ := hf it (by simp)
    have hl := rv.length
    have p' : s.heap.IsTuple a its.toArray := p
    refine (?_ : wpAny (model X.prog X.w) X.A (pyNext (.ref e)) _ _ s)
    have hT : s.TypeIs (.ref e) "enumerate" := ⟨_, he, rfl⟩
    unfold pyNext
    refine wpAny_bind (wpAny_attempt (wpAny_callSpecial?_slot (name := Str.ofString "__next__") hT F.slot_enumerate_next
      (wpAny_call_entry F.slot_enumerate_next hT F.entry_enumerate_next ?_ (F.args_enumerate_next_1 _))))
    show wpAny _ _ (field (.ref e) 2 >>= _) _ _ _
    refine wpAny_bind (wpAny_field he rfl (x := .ref it) rfl ?_)
    refine wpAny_bind (wpAny_nextOf_tuple_end (I.ok.hd hc) hit p' (by simp; omega) fun h' x he' hx' => ?_)
    obtain ⟨o, ho, hc'⟩ := hx'
    refine wpAny_bind (wpAny_isInstance (T := "StopIteration") (b := true) ⟨o, ho, hc'⟩ isSubtype_stop ?_)
    exact wpAny_pure ⟨rfl, I.turned (t' := s.toks) (fun b o hb q => he' b o hb q) f0 f1 f3 f4 f5⟩
  self := fun A i s Q E st h => let ⟨⟨_, he⟩, _⟩ := st; wpAny_pyIter_enum he h
theorem meets_enum1 {v : Value} {o : Obj} {H : Heap → Prop} (B : Begins v o H) :
    Meets (Builtin.«enumerate.__new__» ⟨[.type "enumerate", v], []⟩) (fun _ R s => H s.heap ∧
      R (.ok (.ret (.ref (s.heap.push o).objs.size))) { s with heap := (s.heap.push o).push { cls := .type "enumerate", data := .fields #[.none, .bool false, .ref s.heap.objs.size, rawInt 0, .none, .none] } }) :=
  .of_wp fun prog w A R s h => by
    obtain ⟨hp, g, d, tk, os⟩ := s; obtain ⟨h1, h⟩ := h
    have hsub := sub_enumerate
    have q1 : ∀ {A' : Around} {E : Value → Shared → Prop} {Q : Value → Shared → Prop}, Q (.ref hp.objs.size) ⟨hp.push o, g, d, tk, os⟩ → wpAny (model prog w) A' (pyIter v) Q E ⟨hp, g, d, tk, os⟩ :=
      fun q => B.iter prog w _ _ ⟨hp, g, d, tk, os⟩ _ h1 q
    wp_walk using q1
    refine wpAny_stack_any fun st => wpAny_pure ?_
    split
    · rename_i c _ _ _ _ _
      cases (c == Value.type "enumerate")
      · wp_walk using q1
        exact ⟨_, rfl, h⟩
      · wp_walk using q1
        exact ⟨_, rfl, h⟩
    · wp_walk using q1
      exact ⟨_, rfl, h⟩
section
variable {prog : Program} {w : World} {A : Around} {E : Value → Shared → Prop} {s : Shared}
theorem enum_begins1 {v : Value} {o : Obj} {H : Heap → Prop} {Q : Value → Shared → Prop} (B : Begins v o H) (h1 : H s.heap)
    (h : ∀ h', IsEnum h' (s.heap.objs.size + 1) s.heap.objs.size 0 .none → h'.get? s.heap.objs.size = some o → h'.objs.size = s.heap.objs.size + 2 →
      (∀ b o, s.heap.get? b = some o → h'.get? b = some o) → Q (.ref (s.heap.objs.size + 1)) { s with heap := h' }) :
    wpAny (model prog w) A (call (.type "enumerate") [v]) Q E s := by
  refine callType_new F.called_enumerate (by decide) (F.typeCall_enumerate_1 _) (F.newCall_enumerate_1 _) (fun obj => F.args_object_init_2 obj _) F.entry_enumerate_new
    (meets_enum1 B) ⟨h1, ?_⟩
  have hz : (s.heap.push o).objs.size = s.heap.objs.size + 1 := Heap.size_push ..
  show _ ∧ _
  rw [hz]
  have he : IsEnum ((s.heap.push o).push { cls := .type "enumerate", data := .fields #[.none, .bool false, .ref s.heap.objs.size, rawInt 0, .none, .none] }) (s.heap.objs.size + 1) s.heap.objs.size 0 .none := by
    have := Heap.get?_push_size (s.heap.push o) (o := { cls := .type "enumerate", data := .fields #[.none, .bool false, .ref s.heap.objs.size, rawInt 0, .none, .none] }) rfl
    rw [hz] at this; exact this
  refine ⟨⟨_, he, rfl⟩, h _ he (Heap.get?_push_of_some _ (Heap.get?_push_size _ B.free)) (by rw [Heap.size_push, hz]) fun b o x => Heap.get?_push_of_some _ (Heap.get?_push_of_some _ x)⟩
end
def iEnumT (K : PySem.W.Frag) (ta : TA) : TI := fun σ H R => ta σ H fun vs H1 => ∃ a xs, vs = [.ref a] ∧ SqT K H1 a xs ∧ R (IteT K a) H1
theorem pi_enumT {X : Cx} {K : PySem.W.Frag} {e : Expr} {ta : TA} {p pos tpos : Pos} {elts : List Expr} {kk : Nat} (hK : X.K = K) (hg : Gl X "enumerate") (hm : X.mg "enumerate" = none) (ha : PA X [e] ta) (hs : starEach [e] X.env = [(false, eval e X.env)] := by rfl) :
    PI X (.Tuple elts kk tpos) (.Call (.Name "enumerate" p) [e] [] pos) (iEnumT K ta) := by
  subst hK
  refine ⟨fun pins s σ H R I h => ?_⟩
  refine Call_ (ld_blt I hg hm boot_enumerate (PyProof.Rows.callWith_type1 (thn (ha.run pos pins s σ H _ I h) fun us s1 ⟨vs, H1, I1, r1, q1⟩ => ?_) hs rfl))
  obtain ⟨a, xs, ex, hq, q⟩ := q1
  subst ex
  cases r1 with
  | cons r rr =>
    cases rr
    cases r
    obtain ⟨its, rv, p', hz⟩ := I1.tuple hq
    refine enum_begins1 (begins_tuple a its.toArray) (show s1.heap.IsTuple a its.toArray from p') fun h' he hit hsz hk => wpAny_pyIter_enum he ?_
    have I2 : Inv X pins σ H1 { s1 with heap := h' } := I1.kept (t' := s1.toks) hk
    refine ⟨s1.heap.objs.size + 1, [s1.heap.objs.size + 1, s1.heap.objs.size], _, _, H1, rfl, I2, turn_enumT a (s1.heap.objs.size + 1) s1.heap.objs.size, ⟨⟨.none, he⟩, ⟨_, hit, rfl, rfl⟩, Nat.succ_ne_self _⟩, fun b hb => ?_, q⟩
    have e' : b = s1.heap.objs.size + 1 ∨ b = s1.heap.objs.size := by simpa using hb
    have hle : s1.heap.objs.size ≤ b := by
      rcases e' with z | z
      · rw [z]; exact Nat.le_add_right _ _
      · rw [z]; exact Nat.le_refl _
    exact I1.fpOk hle (I1.hok.fresh hle)
theorem walk_enumT {K : PySem.W.Frag} {a : Addr} {xs : List V} : Walk (IteT K a) xs.length (fun H => SqT K H a xs) (YPair (fun i => some (.int (i : Nat))) (fun i => xs[i]?)) := by
  refine ⟨fun i _ hi q => ⟨xs, xs[i], q, by simp [hi]⟩, fun _ q => ⟨xs, q, Nat.le_refl _⟩, fun i H v H' _ q y => ?_⟩
  obtain ⟨T, x, h1, h2, h3, h4⟩ := y
  exact ⟨T, .int (i : Nat), x, h1, h2, h3, rfl, h4 xs q⟩
theorem pi_enumL {X : Cx} {K : PySem.W.Frag} {e : Expr} {ta : TA} {p pos tpos : Pos} {elts : List Expr} {kk : Nat} (hK : X.K = K) (hg : Gl X "enumerate") (hm : X.mg "enumerate" = none) (ha : PA X [e] ta) (hs : starEach [e] X.env = [(false, eval e X.env)] := by rfl) :
    PI X (.Tuple elts kk tpos) (.Call (.Name "enumerate" p) [e] [] pos) (iEnum K ta) := hK ▸ pi_enum hg hm ha hs
section
variable {K : PySem.W.Frag} {σ : L2.St} {H : Hp} {R : It → Hp → Prop} {ta : TA} {a : Addr} {xs : List V}
theorem s_ienT (h : ta σ H fun vs H1 => ∃ a xs, vs = [.ref a] ∧ SqT K H1 a xs ∧ R (IteT K a) H1) : iEnumT K ta σ H R := h
theorem s_ienL (h : ta σ H fun vs H1 => ∃ a xs, vs = [.ref a] ∧ SqL K H1 a xs ∧ R (Ite K a) H1) : iEnum K ta σ H R := h
theorem s_eT {S : Addr → Prop} (h : H a = some (.tup xs)) (q : S a) : ∃ a' xs', [V.ref a] = [.ref a'] ∧ SqT K H a' xs' ∧ S a' := ⟨a, xs, rfl, SqT.of h, q⟩
theorem s_eL {S : Addr → Prop} (h : H a = some (.lst xs)) (q : S a) : ∃ a' xs', [V.ref a] = [.ref a'] ∧ SqL K H a' xs' ∧ S a' := ⟨a, xs, rfl, SqL.of h, q⟩
end
/-! lists of texts -/
section
variable {K : PySem.W.Frag} {H : Hp} {Q : VK} {p : Addr} {zs : List Str} {z : Str}
theorem flat_strs (zs : List Str) : (zs.map V.str).all flatV = true := by
  rw [List.all_eq_true]
  intro x hx
  obtain ⟨y, _, rfl⟩ := List.mem_map.mp hx
  rfl
theorem eqV_str {a b : Str} : eqV (.str a) (.str b) = decide (a = b) := by
  first
    | (show decide (V.str a = V.str b) = _; exact U.dec_str)
    | rfl
    | simp [eqV]
theorem inV_strs : inV (.str z) (zs.map V.str) = decide (z ∈ zs) := by
  induction zs with
  | nil => rfl
  | cons y zs ih =>
    unfold inV at ih ⊢
    rw [List.map_cons, List.any_cons, ih, eqV_str]
    by_cases h : y = z
    · subst h; simp
    · simp [h, Ne.symm h]
theorem s_inS (h : SqL K H p (zs.map V.str)) (q : Q (.bl (decide (z ∈ zs))) H) : uIn K false (.str z) (.ref p) H Q := Or.inr ⟨p, _, rfl, Or.inl h, rfl, flat_strs zs, by rw [inV_strs]; exact q⟩
theorem s_ninS (h : SqL K H p (zs.map V.str)) (q : Q (.bl (!decide (z ∈ zs))) H) : uIn K true (.str z) (.ref p) H Q := Or.inr ⟨p, _, rfl, Or.inl h, rfl, flat_strs zs, by rw [inV_strs]; exact q⟩
theorem s_inT (h : SqT K H p (zs.map V.str)) (q : Q (.bl (decide (z ∈ zs))) H) : uIn K false (.str z) (.ref p) H Q := Or.inr ⟨p, _, rfl, Or.inr h, rfl, flat_strs zs, by rw [inV_strs]; exact q⟩
theorem s_ninT (h : SqT K H p (zs.map V.str)) (q : Q (.bl (!decide (z ∈ zs))) H) : uIn K true (.str z) (.ref p) H Q := Or.inr ⟨p, _, rfl, Or.inr h, rfl, flat_strs zs, by rw [inV_strs]; exact q⟩
theorem mt_ix {X : Cx} (hK : X.K = K) : MtR X "list.index" (rIndex K) := hK ▸ mt_index
theorem s_indexS {j : Nat} (h : SqL K H p (zs.map V.str)) (e : zs[j]? = some z) (nd : zs.Nodup) (q : Q (.int j) H) : rIndex K (.ref p) [.str z] H Q := by
  refine ⟨p, _, .str z, j, .str z, rfl, rfl, h, rfl, flat_strs zs, by rw [List.getElem?_map, e]; rfl, by rw [eqV_str]; simp, fun m z' hm hz' => ?_, q⟩
  rw [List.getElem?_map] at hz'
  obtain ⟨y, ey, rfl⟩ := Option.map_eq_some_iff.mp hz'
  rw [eqV_str]
  refine decide_eq_false fun hy => ?_
  subst hy
  have := (List.getElem?_inj (List.getElem?_eq_some_iff.mp ey).1 nd).mp (ey.trans e.symm)
  omega
end
end U

namespace U
open PySem L2 PySem.Spec PyProof.Rows
section
variable {K : PySem.W.Frag} {σ : L2.St} {H : Hp} {a : Addr} {vs : List V} {g : TG} {tb : TS} {D : Ends}
/-- for x in a list or a tuple -/
theorem for_sq (e : H a = some (.lst vs) ∨ H a = some (.tup vs)) (Pv : Nat → L2.St → Hp → Prop) (h0 : Pv 0 σ H) (hG : ∀ i σ' H', Pv i σ' H' → ∀ o, H a = some o → H' a = some o)
    (hs : ∀ i x σ' H', vs[i]? = some x → Pv i σ' H' → g x σ' H' fun σ2 H2 => tb { D with nx := Pv (i + 1), ct := Pv (i + 1), bk := D.nx } σ2 H2) (hd : ∀ σ' H', Pv vs.length σ' H' → D.nx σ' H') :
    ∃ a', V.ref a = .ref a' ∧ (((∃ xs, SqL K H a' xs) ∧ ∃ W : Nat → Nat → L2.St → Hp → Prop, (∃ m, W 0 m σ H) ∧ ∀ i m σ H, W i m σ H →
      ((Itl K a').stop i H ∧ D.nx σ H) ∨ ((Itl K a').go i H ∧ ∃ N : L2.St → Hp → Prop, (∀ σ' H', N σ' H' → ∃ m', m' < m ∧ W (i + 1) m' σ' H') ∧ ∀ x H', (Itl K a').yld i H x H' → g x σ H' fun σ2 H2 => tb { D with nx := N, ct := N, bk := D.nx } σ2 H2)) ∨
      ((∃ xs, SqT K H a' xs) ∧ ∃ W : Nat → Nat → L2.St → Hp → Prop, (∃ m, W 0 m σ H) ∧ ∀ i m σ H, W i m σ H →
      ((Itt K a').stop i H ∧ D.nx σ H) ∨ ((Itt K a').go i H ∧ ∃ N : L2.St → Hp → Prop, (∀ σ' H', N σ' H' → ∃ m', m' < m ∧ W (i + 1) m' σ' H') ∧ ∀ x H', (Itt K a').yld i H x H' → g x σ H' fun σ2 H2 => tb { D with nx := N, ct := N, bk := D.nx } σ2 H2))) := by
  refine ⟨a, rfl, ?_⟩
  rcases e with e | e
  · refine Or.inl ⟨⟨vs, SqL.of e⟩, for_it (walk_list (xs := vs)) Pv h0 (fun i σ' H' _ p => SqL.of (hG i σ' H' p _ e)) (fun i x σ' H1 H2 hi p y => ?_) hd⟩
    obtain ⟨rfl, ex⟩ := y
    exact hs i x σ' H2 ex p
  · refine Or.inr ⟨⟨vs, SqT.of e⟩, for_it (walk_tup (xs := vs)) Pv h0 (fun i σ' H' _ p => SqT.of (hG i σ' H' p _ e)) (fun i x σ' H1 H2 hi p y => ?_) hd⟩
    obtain ⟨rfl, ex⟩ := y
    exact hs i x σ' H2 ex p
theorem for_L (e : H a = some (.lst vs)) (Pv : Nat → L2.St → Hp → Prop) (h0 : Pv 0 σ H) (hG : ∀ i σ' H', Pv i σ' H' → ∀ o, H a = some o → H' a = some o)
    (hs : ∀ i x σ' H', vs[i]? = some x → Pv i σ' H' → g x σ' H' fun σ2 H2 => tb { D with nx := Pv (i + 1), ct := Pv (i + 1), bk := D.nx } σ2 H2) (hd : ∀ σ' H', Pv vs.length σ' H' → D.nx σ' H') :
    ∃ W : Nat → Nat → L2.St → Hp → Prop, (∃ m, W 0 m σ H) ∧ ∀ i m σ H, W i m σ H →
      ((Itl K a).stop i H ∧ D.nx σ H) ∨ ((Itl K a).go i H ∧ ∃ N : L2.St → Hp → Prop, (∀ σ' H', N σ' H' → ∃ m', m' < m ∧ W (i + 1) m' σ' H') ∧ ∀ x H', (Itl K a).yld i H x H' → g x σ H' fun σ2 H2 => tb { D with nx := N, ct := N, bk := D.nx } σ2 H2) :=
  for_it (walk_list (xs := vs)) Pv h0 (fun i σ' H' _ p => SqL.of (hG i σ' H' p _ e)) (fun i x σ' H1 H2 hi p y => by
    obtain ⟨rfl, ex⟩ := y
    exact hs i x σ' H2 ex p) hd
/-- for j, x in enumerate(tuple): the pair T is new -/
theorem for_eT (e : H a = some (.tup vs)) (Pv : Nat → L2.St → Hp → Prop) (h0 : Pv 0 σ H) (hG : ∀ i σ' H', Pv i σ' H' → ∀ xs, H a = some (.tup xs) → H' a = some (.tup xs))
    (hs : ∀ i x σ' H' T H2, vs[i]? = some x → Pv i σ' H' → H' T = none → H2 T = some (.tup [.int (i : Nat), x]) → Kp [] H' H2 → g (.ref T) σ' H2 fun σ2 H3 => tb { D with nx := Pv (i + 1), ct := Pv (i + 1), bk := D.nx } σ2 H3) (hd : ∀ σ' H', Pv vs.length σ' H' → D.nx σ' H') :
    ∃ W : Nat → Nat → L2.St → Hp → Prop, (∃ m, W 0 m σ H) ∧ ∀ i m σ H, W i m σ H →
      ((IteT K a).stop i H ∧ D.nx σ H) ∨ ((IteT K a).go i H ∧ ∃ N : L2.St → Hp → Prop, (∀ σ' H', N σ' H' → ∃ m', m' < m ∧ W (i + 1) m' σ' H') ∧ ∀ x H', (IteT K a).yld i H x H' → g x σ H' fun σ2 H2 => tb { D with nx := N, ct := N, bk := D.nx } σ2 H2) :=
  for_it (walk_enumT (xs := vs)) Pv h0 (fun i σ' H' _ p => SqT.of (hG i σ' H' p _ e)) (fun i x σ' H1 H2 hi p y => by
    obtain ⟨T, x1, x2, rfl, f, rfl, e1, e2⟩ := y
    cases Option.some.inj e1
    exact hs i x2 σ' H1 T _ e2 p f upd_same (Kp.refl.new f)) hd
theorem for_eL (e : H a = some (.lst vs)) (Pv : Nat → L2.St → Hp → Prop) (h0 : Pv 0 σ H) (hG : ∀ i σ' H', Pv i σ' H' → ∀ o, H a = some o → H' a = some o)
    (hs : ∀ i x σ' H' T H2, vs[i]? = some x → Pv i σ' H' → H' T = none → H2 T = some (.tup [.int (i : Nat), x]) → Kp [] H' H2 → g (.ref T) σ' H2 fun σ2 H3 => tb { D with nx := Pv (i + 1), ct := Pv (i + 1), bk := D.nx } σ2 H3) (hd : ∀ σ' H', Pv vs.length σ' H' → D.nx σ' H') :
    ∃ W : Nat → Nat → L2.St → Hp → Prop, (∃ m, W 0 m σ H) ∧ ∀ i m σ H, W i m σ H →
      ((Ite K a).stop i H ∧ D.nx σ H) ∨ ((Ite K a).go i H ∧ ∃ N : L2.St → Hp → Prop, (∀ σ' H', N σ' H' → ∃ m', m' < m ∧ W (i + 1) m' σ' H') ∧ ∀ x H', (Ite K a).yld i H x H' → g x σ H' fun σ2 H2 => tb { D with nx := N, ct := N, bk := D.nx } σ2 H2) :=
  for_it (walk_enum (xs := vs)) Pv h0 (fun i σ' H' _ p => SqL.of (hG i σ' H' p _ e)) (fun i x σ' H1 H2 hi p y => by
    obtain ⟨T, x1, x2, rfl, f, rfl, e1, e2⟩ := y
    cases Option.some.inj e1
    exact hs i x2 σ' H1 T _ e2 p f upd_same (Kp.refl.new f)) hd
variable {tt : TT} {te : TE} {ns : List Nat} {A : Addr} {Qd : Hp → Prop} {Pv : Nat → List V → Hp → Prop}
/-- a comprehension over a tuple / a list -/
theorem lc_T (e : H a = some (.tup vs)) (hA : H A = none) (Pv : Nat → List V → Hp → Prop) (h0 : ∀ H', H' A = some (.lst []) → Kp [] H H' → Pv 0 [] H') (hG : ∀ i acc H', Pv i acc H' → ∀ xs, H a = some (.tup xs) → H' a = some (.tup xs))
    (hs : ∀ i x acc H', vs[i]? = some x → H' A = some (.lst acc) → Pv i acc H' → g x (wipe σ ns) H' fun σ2 H2 => wipe σ2 ns = wipe σ ns ∧ tt σ2 H2 fun b H3 =>
      if b = true then te σ2 H3 fun y H4 => ∃ acc, H4 A = some (.lst acc) ∧ acc.length < sizeLine ∧ PvD A Pv (i + 1) (upd H4 A (.lst (acc ++ [y]))) else PvD A Pv (i + 1) H3) (hd : ∀ acc H', H' A = some (.lst acc) → Pv vs.length acc H' → Qd H') :
    ∃ W : Nat → Nat → Hp → Prop, (∃ m, W 0 m (upd H A (.lst []))) ∧ ∀ i m H, W i m H →
      ((Itt K a).stop i H ∧ Qd H) ∨ ((Itt K a).go i H ∧ ∃ Nx : Hp → Prop, (∀ H', Nx H' → ∃ m', m' < m ∧ W (i + 1) m' H') ∧ ∀ x H', (Itt K a).yld i H x H' → g x (wipe σ ns) H' fun σ2 H2 => wipe σ2 ns = wipe σ ns ∧ tt σ2 H2 fun b H3 =>
        if b = true then te σ2 H3 fun y H4 => ∃ acc, H4 A = some (.lst acc) ∧ acc.length < sizeLine ∧ Nx (upd H4 A (.lst (acc ++ [y]))) else Nx H3) :=
  lc_it (walk_tup (xs := vs)) (PvD A Pv) (PvD.begin hA h0) (fun i H' _ p => by
    obtain ⟨acc, _, p⟩ := p
    exact SqT.of (hG i acc H' p _ e)) (fun i x H1 H2 hi p y => by
    obtain ⟨rfl, ex⟩ := y
    obtain ⟨acc, ea, p⟩ := p
    exact hs i x acc H2 ex ea p) (fun H' p => by
    obtain ⟨acc, ea, p⟩ := p
    exact hd acc H' ea p)
theorem lc_L (e : H a = some (.lst vs)) (hA : H A = none) (Pv : Nat → List V → Hp → Prop) (h0 : ∀ H', H' A = some (.lst []) → Kp [] H H' → Pv 0 [] H') (hG : ∀ i acc H', Pv i acc H' → ∀ o, H a = some o → H' a = some o)
    (hs : ∀ i x acc H', vs[i]? = some x → H' A = some (.lst acc) → Pv i acc H' → g x (wipe σ ns) H' fun σ2 H2 => wipe σ2 ns = wipe σ ns ∧ tt σ2 H2 fun b H3 =>
      if b = true then te σ2 H3 fun y H4 => ∃ acc, H4 A = some (.lst acc) ∧ acc.length < sizeLine ∧ PvD A Pv (i + 1) (upd H4 A (.lst (acc ++ [y]))) else PvD A Pv (i + 1) H3) (hd : ∀ acc H', H' A = some (.lst acc) → Pv vs.length acc H' → Qd H') :
    ∃ W : Nat → Nat → Hp → Prop, (∃ m, W 0 m (upd H A (.lst []))) ∧ ∀ i m H, W i m H →
      ((Itl K a).stop i H ∧ Qd H) ∨ ((Itl K a).go i H ∧ ∃ Nx : Hp → Prop, (∀ H', Nx H' → ∃ m', m' < m ∧ W (i + 1) m' H') ∧ ∀ x H', (Itl K a).yld i H x H' → g x (wipe σ ns) H' fun σ2 H2 => wipe σ2 ns = wipe σ ns ∧ tt σ2 H2 fun b H3 =>
        if b = true then te σ2 H3 fun y H4 => ∃ acc, H4 A = some (.lst acc) ∧ acc.length < sizeLine ∧ Nx (upd H4 A (.lst (acc ++ [y]))) else Nx H3) :=
  lc_it (walk_list (xs := vs)) (PvD A Pv) (PvD.begin hA h0) (fun i H' _ p => by
    obtain ⟨acc, _, p⟩ := p
    exact SqL.of (hG i acc H' p _ e)) (fun i x H1 H2 hi p y => by
    obtain ⟨rfl, ex⟩ := y
    obtain ⟨acc, ea, p⟩ := p
    exact hs i x acc H2 ex ea p) (fun H' p => by
    obtain ⟨acc, ea, p⟩ := p
    exact hd acc H' ea p)
theorem lc_eL (e : H a = some (.lst vs)) (hA : H A = none) (Pv : Nat → List V → Hp → Prop) (h0 : ∀ H', H' A = some (.lst []) → Kp [] H H' → Pv 0 [] H') (hG : ∀ i acc H', Pv i acc H' → ∀ o, H a = some o → H' a = some o)
    (hs : ∀ i x acc H' T H2, vs[i]? = some x → H' A = some (.lst acc) → Pv i acc H' → H' T = none → H2 T = some (.tup [.int (i : Nat), x]) → Kp [] H' H2 → g (.ref T) (wipe σ ns) H2 fun σ2 H2 => wipe σ2 ns = wipe σ ns ∧ tt σ2 H2 fun b H3 =>
      if b = true then te σ2 H3 fun y H4 => ∃ acc, H4 A = some (.lst acc) ∧ acc.length < sizeLine ∧ PvD A Pv (i + 1) (upd H4 A (.lst (acc ++ [y]))) else PvD A Pv (i + 1) H3) (hd : ∀ acc H', H' A = some (.lst acc) → Pv vs.length acc H' → Qd H') :
    ∃ W : Nat → Nat → Hp → Prop, (∃ m, W 0 m (upd H A (.lst []))) ∧ ∀ i m H, W i m H →
      ((Ite K a).stop i H ∧ Qd H) ∨ ((Ite K a).go i H ∧ ∃ Nx : Hp → Prop, (∀ H', Nx H' → ∃ m', m' < m ∧ W (i + 1) m' H') ∧ ∀ x H', (Ite K a).yld i H x H' → g x (wipe σ ns) H' fun σ2 H2 => wipe σ2 ns = wipe σ ns ∧ tt σ2 H2 fun b H3 =>
        if b = true then te σ2 H3 fun y H4 => ∃ acc, H4 A = some (.lst acc) ∧ acc.length < sizeLine ∧ Nx (upd H4 A (.lst (acc ++ [y]))) else Nx H3) :=
  lc_it (walk_enum (xs := vs)) (PvD A Pv) (PvD.begin hA h0) (fun i H' _ p => by
    obtain ⟨acc, _, p⟩ := p
    exact SqL.of (hG i acc H' p _ e)) (fun i x H1 H2 hi p y => by
    obtain ⟨T, x1, x2, rfl, f, rfl, e1, e2⟩ := y
    cases Option.some.inj e1
    obtain ⟨acc, ea, p⟩ := p
    exact hs i x2 acc H1 T _ e2 ea p f upd_same (Kp.refl.new f)) (fun H' p => by
    obtain ⟨acc, ea, p⟩ := p
    exact hd acc H' ea p)
/-- in range(n) -/
theorem lc_R {lo : Int} {n : Nat} (hA : H A = none) (Pv : Nat → List V → Hp → Prop) (h0 : ∀ H', H' A = some (.lst []) → Kp [] H H' → Pv 0 [] H')
    (hs : ∀ i acc H', i < n → H' A = some (.lst acc) → Pv i acc H' → g (.int (lo + i)) (wipe σ ns) H' fun σ2 H2 => wipe σ2 ns = wipe σ ns ∧ tt σ2 H2 fun b H3 =>
      if b = true then te σ2 H3 fun y H4 => ∃ acc, H4 A = some (.lst acc) ∧ acc.length < sizeLine ∧ PvD A Pv (i + 1) (upd H4 A (.lst (acc ++ [y]))) else PvD A Pv (i + 1) H3) (hd : ∀ acc H', H' A = some (.lst acc) → Pv n acc H' → Qd H') :
    ∃ W : Nat → Nat → Hp → Prop, (∃ m, W 0 m (upd H A (.lst []))) ∧ ∀ i m H, W i m H →
      ((Itr lo n).stop i H ∧ Qd H) ∨ ((Itr lo n).go i H ∧ ∃ Nx : Hp → Prop, (∀ H', Nx H' → ∃ m', m' < m ∧ W (i + 1) m' H') ∧ ∀ x H', (Itr lo n).yld i H x H' → g x (wipe σ ns) H' fun σ2 H2 => wipe σ2 ns = wipe σ ns ∧ tt σ2 H2 fun b H3 =>
        if b = true then te σ2 H3 fun y H4 => ∃ acc, H4 A = some (.lst acc) ∧ acc.length < sizeLine ∧ Nx (upd H4 A (.lst (acc ++ [y]))) else Nx H3) :=
  lc_it walk_range (PvD A Pv) (PvD.begin hA h0) (fun _ _ _ _ => trivial) (fun i x H1 H2 hi p y => by
    obtain ⟨rfl, rfl⟩ := y
    obtain ⟨acc, ea, p⟩ := p
    exact hs i acc H2 hi ea p) (fun H' p => by
    obtain ⟨acc, ea, p⟩ := p
    exact hd acc H' ea p)
theorem for_R {lo : Int} {n : Nat} (Pv : Nat → L2.St → Hp → Prop) (h0 : Pv 0 σ H)
    (hs : ∀ i σ' H', i < n → Pv i σ' H' → g (.int (lo + i)) σ' H' fun σ2 H2 => tb { D with nx := Pv (i + 1), ct := Pv (i + 1), bk := D.nx } σ2 H2) (hd : ∀ σ' H', Pv n σ' H' → D.nx σ' H') :
    ∃ W : Nat → Nat → L2.St → Hp → Prop, (∃ m, W 0 m σ H) ∧ ∀ i m σ H, W i m σ H →
      ((Itr lo n).stop i H ∧ D.nx σ H) ∨ ((Itr lo n).go i H ∧ ∃ N : L2.St → Hp → Prop, (∀ σ' H', N σ' H' → ∃ m', m' < m ∧ W (i + 1) m' σ' H') ∧ ∀ x H', (Itr lo n).yld i H x H' → g x σ H' fun σ2 H2 => tb { D with nx := N, ct := N, bk := D.nx } σ2 H2) :=
  for_it walk_range Pv h0 (fun _ _ _ _ _ => trivial) (fun i x σ' H1 H2 hi p y => by
    obtain ⟨rfl, rfl⟩ := y
    exact hs i σ' H2 hi p) hd
end
theorem pg_tupK {X : Cx} {K : PySem.W.Frag} {es : List Expr} {k n : Nat} {t : TGs} {pos : Pos} (hK : X.K = K) (hc : X.calm = true) (h : PGs X es t)
    (hn : (assignEach es X.env).length = n := by rfl) (hst : (assignEach es X.env).findIdx? (·.1) = none := by rfl) : PG X (.Tuple es k pos) (gTup K n t) := hK ▸ pg_tup hc h hn hst
theorem s_nameR {σ τ : L2.St} {H : Hp} {i : Nat} {v : V} {R : L2.St → Hp → Prop} (e : σ.set i (some v) = τ) (h : R τ H) : gName i v σ H R := by subst e; exact h
/-! rows: things that stand for tuples -/
inductive Rw (H : Hp) : List V → List (List V) → Prop
  | nil : Rw H [] []
  | cons {u : Addr} {r : List V} {vs : List V} {rs : List (List V)} : H u = some (.tup r) → Rw H vs rs → Rw H (.ref u :: vs) (r :: rs)
section
variable {H H1 : Hp} {vs ws : List V} {rs ss : List (List V)} {ps : List Addr}
theorem Rw.kp (h : Rw H vs rs) (k : Kp ps H H1) : Rw H1 vs rs := by
  induction h with
  | nil => exact .nil
  | cons e _ ih => exact .cons (k.tgt e) ih
theorem Rw.len (h : Rw H vs rs) : vs.length = rs.length := by
  induction h with
  | nil => rfl
  | cons e _ ih => simp [ih]
theorem Rw.app (h : Rw H vs rs) (g : Rw H ws ss) : Rw H (vs ++ ws) (rs ++ ss) := by
  induction h with
  | nil => exact g
  | cons e _ ih => exact .cons e ih
theorem Rw.one {u : Addr} {r : List V} (e : H u = some (.tup r)) : Rw H [.ref u] [r] := .cons e .nil
theorem Rw.at (h : Rw H vs rs) {i : Nat} {x : V} (e : vs[i]? = some x) : ∃ u r, x = .ref u ∧ rs[i]? = some r ∧ H u = some (.tup r) := by
  induction h generalizing i with
  | nil => simp at e
  | @cons u r vs rs e1 _ ih =>
    cases i with
    | zero => exact ⟨u, r, by simpa using e.symm, rfl, e1⟩
    | succ i => exact ih (by simpa using e)
theorem Rw.take (h : Rw H vs rs) (n : Nat) : Rw H (vs.take n) (rs.take n) := by
  induction h generalizing n with
  | nil => cases n <;> exact .nil
  | cons e _ ih => cases n with
    | zero => exact .nil
    | succ n => exact .cons e (ih n)
end
end U

namespace U
open PySem L2 PySem.Spec PyProof.Rows
theorem pg_lstK {X : Cx} {K : PySem.W.Frag} {es : List Expr} {k n : Nat} {t : TGs} {pos : Pos} (hK : X.K = K) (hc : X.calm = true) (h : PGs X es t)
    (hn : (assignEach es X.env).length = n := by rfl) (hst : (assignEach es X.env).findIdx? (·.1) = none := by rfl) : PG X (.Tuple es k pos) (gLst K n t) := hK ▸ pg_lst hc h hn hst
theorem s_glu {K : PySem.W.Frag} {σ : L2.St} {H : Hp} {p : Addr} {xs : List V} {R : L2.St → Hp → Prop} {t : TGs} {k : Nat} (h : H p = some (.lst xs)) (hl : xs.length = k) (q : t xs σ H R) : gLst K k t (.ref p) σ H R := ⟨p, xs, rfl, SqL.of h, hl, q⟩
theorem at_head {xs : List V} {v : V} : atI (xs ++ [v]) 0 = some (xs.head?.getD v) := by
  cases xs with
  | nil => rfl
  | cons x r =>
    unfold atI ixN
    rw [if_pos (by decide), if_pos (by simp; omega)]
    rfl
/-! texts by their signs -/
def S (cs : List Nat) : Str := ⟨cs.toArray⟩
theorem S_of (z : Str) : S z.cps.toList = z := by
  unfold S; simp
theorem S_len (cs : List Nat) : (S cs).length = cs.length := by simp [S, Str.length]
theorem S_app (a b : List Nat) : S a ++ S b = S (a ++ b) := Str.ext' (by simp [S, Str.cps_append])
theorem S_inj {a b : List Nat} (h : S a = S b) : a = b := by
  have := congrArg (fun z : Str => z.cps.toList) h
  simpa [S] using this
theorem S_cps (cs : List Nat) : (S cs).cps.toList = cs := by simp [S]
theorem S_cut (cs : List Nat) (lo hi : Option Int) : cutS (S cs) lo hi = S ((cs.drop (HT.sIx cs.length 0 lo)).take (HT.sIx cs.length cs.length hi - HT.sIx cs.length 0 lo)) := by
  unfold cutS
  rw [S_cps, S_len]
  rfl
theorem S_pre (cs : List Nat) {n : Int} (h0 : 0 ≤ n) : cutS (S cs) none (some n) = S (cs.take n.toNat) := by
  rw [S_cut]
  congr 1
  obtain ⟨k, rfl⟩ := Int.eq_ofNat_of_zero_le h0
  rw [HT.sIx_none, HT.sIx_nat, List.drop_zero]
  simp
theorem S_mid (cs : List Nat) {n m : Int} (h0 : 0 ≤ n) (h1 : 0 ≤ m) : cutS (S cs) (some n) (some m) = S ((cs.drop n.toNat).take (m.toNat - n.toNat)) := by
  rw [S_cut]
  congr 1
  obtain ⟨k, rfl⟩ := Int.eq_ofNat_of_zero_le h0
  obtain ⟨l, rfl⟩ := Int.eq_ofNat_of_zero_le h1
  rw [HT.sIx_nat, HT.sIx_nat]
  simp only [Int.toNat_natCast]
  apply List.ext_getElem?
  intro i
  simp only [List.getElem?_take, List.getElem?_drop]
  by_cases c : k + i < cs.length
  · have e1 : min k cs.length = k := by omega
    rw [e1]
    by_cases d : i < l - k
    · rw [if_pos (by omega), if_pos d]
    · rw [if_neg (by omega), if_neg d]
  · have e2 : cs[k + i]? = none := List.getElem?_eq_none (by omega)
    have e3 : cs[min k cs.length + i]? = none := List.getElem?_eq_none (by omega)
    rw [e2, e3]
    split <;> split <;> rfl
theorem S_join (cs : List Nat) : Txt.join (Str.ofString "") (cs.map fun c => ⟨#[c]⟩) = S cs := join_ones cs
theorem SS.S {cs : List Nat} {n : Nat} (h : cs.length ≤ n) (g : ∀ c ∈ cs, c < 1114112) : SS (S cs) n := ⟨by rw [S_len]; exact h, by rw [S_cps]; exact g⟩
theorem range_snoc {α : Type} (f : Nat → α) (i : Nat) : (List.range (i + 1)).map f = (List.range i).map f ++ [f i] := by
  rw [List.range_succ, List.map_append]
  rfl
theorem range_nodup {f : Nat → Str} {n : Nat} (h : ∀ i j, i < n → j < n → f i = f j → i = j) : ((List.range n).map f).Nodup := by
  rw [List.nodup_iff_pairwise_ne, List.pairwise_map]
  refine List.Pairwise.imp_of_mem ?_ (List.nodup_iff_pairwise_ne.mp List.nodup_range)
  intro a b ha hb hne e
  exact hne (h a b (List.mem_range.mp ha) (List.mem_range.mp hb) e)
section
variable {H : Hp} {ps : List Addr} {l : Addr} {vs : List V} {rs : List (List V)}
theorem hid_le : Kp [] (hid ps H) H := ⟨fun b o e _ => (hid_some e).1, fun b i ⟨o, e, r⟩ => ⟨o, (hid_some e).1, r⟩, fun b xs e => (hid_some e).1⟩
theorem hid_tup {b : Addr} {xs : List V} (e : H b = some (.tup xs)) (t : Th H l 0) : hid [l] H b = some (.tup xs) := hid_of e (by simpa using (Th.tup e).nk t rfl)
theorem Rw.hid (h : Rw H vs rs) (t : Th H l 0) : Rw (U.hid [l] H) vs rs := by
  induction h with
  | nil => exact .nil
  | cons e _ ih => exact .cons (hid_tup e t) ih
theorem cut_sub {lo hi : Option Int} {v : V} (h : v ∈ cutV vs lo hi) : v ∈ vs := List.mem_of_mem_drop (List.mem_of_mem_take h)
end
end U

namespace U
open PySem L2 PySem.Spec PyProof.Rows
/-! list(range(a, b)) -/
section
variable {X : Cx} {K : PySem.W.Frag} {H : Hp} {Q : VK} {p : Addr} {i j : Int}
def rngV (i : Int) (n : Nat) : List V := (List.range n).map fun k => V.int (i + (k : Nat))
def uRange : List V → Hp → VK → Prop := fun vs H Q => ∃ i j, vs = [V.int i, V.int j] ∧ ∀ p, H p = none → Q (.ref p) (upd H p (.rng i j))
theorem c_range2 : CallR X (.type "range") uRange := cr_range2
def uListR : List V → Hp → VK → Prop := fun xs H Q => ∃ p i j, xs = [.ref p] ∧ H p = some (.rng i j) ∧ -(2 ^ 30) ≤ i ∧ i < 2 ^ 30 ∧ -(2 ^ 30) ≤ j ∧ j < 2 ^ 30 ∧ (j - i).toNat ≤ 2 ^ 20 ∧ ∀ l, H l = none → Q (.ref l) (upd H l (.lst (rngV i (j - i).toNat)))
theorem c_listR (hc : X.calm = true) : CallR X (.type "list") uListR := by
  intro pins s σ H xs us Q I r h
  obtain ⟨p, i, j, rfl, hp, i0, i1, j0, j1, hn, q⟩ := h
  obtain ⟨u, eu, rx⟩ := vals1 r
  subst eu
  obtain rfl : u = Value.ref p := rx
  obtain ⟨t, u, v, e⟩ := (show ObjOk X.prog X.w H s.heap p (.rng i j) from I.hok p _ hp)
  have hsm : Builtin.Range.small i j 1 = true := small_one (by omega) (by omega) (by omega) (by omega)
  have hsz : Builtin.Range.rangeSize i j 1 = (j - i).toNat := by
    unfold Builtin.Range.rangeSize
    simp
    split <;> omega
  refine call_list_range (I.ok.hd hc) e hsm hsz (Nat.le_trans hn (by decide)) fun h' tk acc' c' hk hS hacc => ?_
  refine ⟨.ref s.heap.objs.size, upd H s.heap.objs.size (.lst (rngV i (j - i).toNat)), I.laid hk (Nat.le_refl _) (show ObjOk X.prog X.w _ _ _ (.lst (rngV i (j - i).toNat)) from ⟨?_, acc'.toList, c', ?_, ?_⟩), rfl, q _ (I.hok.fresh (Nat.le_refl _))⟩
  · rw [rngV, List.length_map, List.length_range]
    exact Nat.le_trans hn (by decide)
  · refine vals_of_at (by rw [rngV, List.length_map, List.length_range, Array.length_toList, hacc.1]) fun m x w h1 h2 => ?_
    obtain ⟨tk', ew⟩ := hacc.2 m w (by rw [← Array.getElem?_toList]; exact h2)
    rw [rngV, List.getElem?_map] at h1
    obtain ⟨m', e1, rfl⟩ := Option.map_eq_some_iff.mp h1
    have : m' = m := by
      have hm := (List.getElem?_eq_some_iff.mp e1)
      obtain ⟨h3, h4⟩ := hm
      rw [List.getElem_range] at h4
      exact h4.symm
    subst this
    refine ⟨tk', ?_⟩
    rw [ew]
    congr 1
    omega
  · simpa using hS
theorem s_rngN (q : ∀ p H', H p = none → H' p = some (.rng i j) → Kp [] H H' → Q (.ref p) H') : uRange [.int i, .int j] H Q := ⟨i, j, rfl, new_abs (R := fun p H' => Q (.ref p) H') q⟩
theorem s_listR (h : H p = some (.rng i j)) (b : -(2 ^ 30) ≤ i ∧ i < 2 ^ 30 ∧ -(2 ^ 30) ≤ j ∧ j < 2 ^ 30 ∧ (j - i).toNat ≤ 2 ^ 20) (q : ∀ l H', H l = none → H' l = some (.lst (rngV i (j - i).toNat)) → Kp [] H H' → Q (.ref l) H') : uListR [.ref p] H Q :=
  ⟨p, i, j, rfl, h, b.1, b.2.1, b.2.2.1, b.2.2.2.1, b.2.2.2.2, new_abs (R := fun p H' => Q (.ref p) H') q⟩
end
end U

namespace U
open PySem L2 PySem.Spec PyProof.Rows
/-! C(e, ..), the last one left out (its default is None) -/
section
variable {X : Cx} {k : Nat} {f C : Addr} {fd : FuncData} {ps : List Str} {sp : Sp} {W : WX} {x : Str} {p pos : Pos} {e : Expr} {es : List Expr} {t : TA}
variable {pi : List (Addr × Obj)} {σ : L2.St} {H : Hp} {s : Shared} {Q : VK} {us : List Value} {vs : List V}
def tNwD (C : Addr) (sp : Sp) (W : WX) (t : TA) : TE := fun σ H Q => t σ H fun vs H1 => NewK C sp (fun cls d H' => W cls d σ H') Q (vs ++ [.non]) H1
theorem run_nwD (M : Mk X.K C f) (F : FnOk X.prog X.w X.K X.mg X.base (L2.CX X.prog X.w) k f fd ps sp) (hr : Room (k + 1) X.A) (hb : Binds X.K fd ps [.none]) (tk : Takes X W) (I : Inv X pi σ H s) (r : Vals vs us)
    (h : NewK C sp (fun cls d H' => W cls d σ H') Q (vs ++ [.non]) H) : wpAny (model X.prog X.w) X.A (call (.ref C) us) (EP X pi σ Q) X.xe s := by
  have n1 : H (s.heap.objs.size + 1) = none := I.hok.fresh (Nat.le_succ _)
  have n0 : H s.heap.objs.size = none := I.hok.fresh (Nat.le_refl _)
  have hq := h (s.heap.objs.size + 1) s.heap.objs.size _ n1 upd_same ((Kp.refl.new (u := .own (s.heap.objs.size + 1)) n0).new (by rw [upd_ne (Nat.succ_ne_self _)]; exact n1))
  have I2 := Inv.made (C := C) I
  have r2 : Vals (V.ref (s.heap.objs.size + 1) :: (vs ++ [.non])) (Value.ref (s.heap.objs.size + 1) :: us ++ [.none]) := .cons rfl (r.append (.cons rfl .nil))
  have b : BindsTo _ fd ⟨Value.ref (s.heap.objs.size + 1) :: us, []⟩ (ps.zip (Value.ref (s.heap.objs.size + 1) :: us ++ [.none])) := hb _ (Value.ref (s.heap.objs.size + 1) :: us) I2.kIn (by rw [← r2.length]; exact F.len _ _ _ _ hq)
  refine wpAny_call (make_map (f := f) I.kIn M.makes M.init (beq_iff_eq.mp M.fn) (codeAny_mono (F.run _ X.stack _ _ ⟨Value.ref (s.heap.objs.size + 1) :: us, []⟩ (Value.ref (s.heap.objs.size + 1) :: us ++ [.none]) _ _ _ (hr.make C us [])
    (I2.env0.make C us []) b r2 hq) fun rr s' z => ?_))
  match rr, z with
  | .error er, z => exact tk er s' (XE.of_call I2 (fun _ _ _ y => y) z)
  | .ok (.ret u), z =>
    obtain ⟨v, H', I3, rv, ev, q3⟩ := I2.after z
    subst ev
    exact ⟨rv, ⟨V.ref (s.heap.objs.size + 1), H', I3, rfl, q3⟩⟩
  | .ok .next, z => exact z.elim
  | .ok .brk, z => exact z.elim
  | .ok .cont, z => exact z.elim
theorem pe_nwD (M : Mk X.K C f) (F : FnOk X.prog X.w X.K X.mg X.base (L2.CX X.prog X.w) k f fd ps sp) (hr : Room (k + 1) X.A) (gl : Gl X x) (hm : X.mg x = some (.ref C)) (hb : Binds X.K fd ps [.none]) (tk : Takes X W)
    (ha : PA X (e :: es) t) (h1 : (x == ("__debug__" : Str)) = false := by decide) (h2 : starEach (e :: es) X.env = (false, eval e X.env) :: starEach es X.env := by rfl) (h3 : (backTo pos (starEach es X.env)).any (·.1) = false := by rfl) :
    PE X (.Call (.Name x p) (e :: es) [] pos) (tNwD C sp W t) := by
  refine ⟨fun pi s σ H Q I h => wpAny_Call_Name_kw (ld_glob I gl hm ?_ h1)⟩
  refine PySem.W.callWith_K (h₀ := X.base) I.ok.mod.kin M.kp (thn (ha.run pos pi s σ H _ I h) ?_) h2 h3
  rintro us s1 ⟨vs, H1, I1, r, q⟩
  exact ⟨I1.kIn, run_nwD M F hr hb tk I1 r q⟩
theorem s_nwD {C : Addr} {sp : Sp} {W : WX} {t : TA} {σ : L2.St} {H : Hp} {Q : VK} (h : t σ H fun vs H1 => NewK C sp (fun cls d H' => W cls d σ H') Q (vs ++ [.non]) H1) : tNwD C sp W t σ H Q := h
end
theorem s_clear {H : Hp} {Q : VK} {p : Addr} {xs : List V} (h : H p = some (.lst xs)) (q : ∀ H', H' p = some (.lst []) → Kp [p] H H' → Q .non H') : rClear (.ref p) [] H Q := ⟨p, xs, rfl, rfl, h, put_abs h rfl (R := fun H' => Q .non H') q⟩
end U

namespace U
open PySem L2 PySem.Spec PyProof.Rows
/-! things that are data, by the places of their lists and dicts -/
section
variable {K : PySem.W.Frag} {H H1 H2 : Hp} {F G ps qs : List Addr} {a b p : Addr} {v y : V} {d e : PyData} {xs ys : List V} {ds : List PyData} {kvs : List (Key × V)}
def isTu : HO → Bool | .tup _ => true | _ => false
/-- the tuples, and what stands at F -/
def vis (F : List Addr) (H : Hp) : Hp := fun a => match H a with | none => none | some o => if isTu o = true ∨ a ∈ F then some o else none
theorem vis_some {o : HO} (h : vis F H a = some o) : H a = some o ∧ (isTu o = true ∨ a ∈ F) := by
  unfold vis at h
  cases e : H a with
  | none => rw [e] at h; cases h
  | some o' =>
    rw [e] at h
    simp only at h
    split at h
    · cases h; rename_i c; exact ⟨rfl, c⟩
    · cases h
theorem vis_of {o : HO} (h : H a = some o) (c : isTu o = true ∨ a ∈ F) : vis F H a = some o := by
  unfold vis
  rw [h]
  simp only
  rw [if_pos c]
theorem vis_tup (h : H a = some (.tup xs)) : vis F H a = some (.tup xs) := vis_of h (Or.inl rfl)
theorem ko_tu {o u : HO} (h : ko o = ko u) (c : isTu o = true) : isTu u = true := by
  cases o <;> simp [isTu] at c
  cases u <;> simp [ko, isTu] at h ⊢
theorem vis_kp (k : Kp ps H H1) (n : ∀ a ∈ ps, a ∉ F) : Kp [] (vis F H) (vis F H1) := ⟨fun b o e _ => by
  obtain ⟨e1, c⟩ := vis_some e
  rcases c with c | c
  · cases o <;> simp [isTu] at c
    exact vis_tup (k.tp b _ e1)
  · exact vis_of (k.get e1 fun m => n b m c) (Or.inr c), fun b i e => by
  obtain ⟨o, e, r⟩ := e
  obtain ⟨e1, c⟩ := vis_some e
  obtain ⟨o', e', r'⟩ := k.kd b i ⟨o, e1, r⟩
  exact ⟨o', vis_of e' (c.imp (fun z => ko_tu (r.trans r'.symm) z) id), r'⟩, fun b xs e => vis_tup (k.tp b xs (vis_some e).1)⟩
theorem vis_le : Kp [] (vis F H) H := ⟨fun b o e _ => (vis_some e).1, fun b i ⟨o, e, r⟩ => ⟨o, (vis_some e).1, r⟩, fun b xs e => (vis_some e).1⟩
theorem vis_mono (h : ∀ a ∈ F, a ∈ G) : Kp [] (vis F H) (vis G H) := ⟨fun b o e _ => by
  obtain ⟨e1, c⟩ := vis_some e
  exact vis_of e1 (c.imp id (h b)), fun b i ⟨o, e, r⟩ => by
  obtain ⟨e1, c⟩ := vis_some e
  exact ⟨o, vis_of e1 (c.imp id (h b)), r⟩, fun b xs e => vis_tup (vis_some e).1⟩
/-- a thing, its lists and dicts at F -/
inductive Od (K : PySem.W.Frag) (H : Hp) : V → PyData → List Addr → Prop
  | flat {v : V} {d : PyData} {F : List Addr} {kd : Kd} : Dn K (vis F H) v d → TyN H v kd → kd.isList = false → kd.isDict = false → Od K H v d F
  | lst {a : Addr} {xs : List V} {ds : List PyData} {F : List Addr} : H a = some (.lst xs) → a ∉ F → DnA K (vis F H) xs ds → Od K H (.ref a) (.list ds) (a :: F)
  | dic {a : Addr} {kvs : List (Key × V)} {ds : List PyData} {F : List Addr} : H a = some (.dK kvs) → a ∉ F → DnA K (vis F H) (kvs.map (·.2)) ds → Od K H (.ref a) (.dict ((kvs.map fun p => keyD p.1).zip ds)) (a :: F)
theorem TyN.kpt {kd : Kd} (h : TyN H v kd) (h1 : kd.isList = false) (h2 : kd.isDict = false) (k : Kp ps H H1) : TyN H1 v kd := by
  cases h with
  | non => exact .non
  | bl => exact .bl
  | int => exact .int
  | str => exact .str
  | lst e => cases h1
  | tup e => exact .tup (k.tp _ _ e)
  | dic e => cases h2
theorem Od.kpn (h : Od K H v d F) (k : Kp ps H H1) (n : ∀ a ∈ ps, a ∉ F) : Od K H1 v d F := by
  cases h with
  | flat a b c e => exact .flat (a.kp (vis_kp k n)) (b.kpt c e k) c e
  | lst a b c => exact .lst (k.get a fun m => n _ m List.mem_cons_self) b (c.kp (vis_kp k fun x m z => n x m (List.mem_cons_of_mem _ z)))
  | dic a b c => exact .dic (k.get a fun m => n _ m List.mem_cons_self) b (c.kp (vis_kp k fun x m z => n x m (List.mem_cons_of_mem _ z)))
theorem Od.kp (h : Od K H v d F) (k : Kp [] H H1) : Od K H1 v d F := h.kpn k (by simp)
theorem Od.dnv (h : Od K H v d F) : Dn K (vis F H) v d := by
  cases h with
  | flat a b c e => exact a
  | lst a b c => exact .lst (Or.inl (vis_of a (Or.inr List.mem_cons_self))) (c.kp (vis_mono fun x m => List.mem_cons_of_mem _ m))
  | dic a b c => exact .dic (Or.inl (vis_of a (Or.inr List.mem_cons_self))) (c.kp (vis_mono fun x m => List.mem_cons_of_mem _ m))
theorem Od.dn (h : Od K H v d F) : Dn K H v d := h.dnv.kp vis_le
theorem Od.ty (h : Od K H v d F) : ∃ kd, TyN H v kd := by
  cases h with
  | flat a b c e => exact ⟨_, b⟩
  | lst a b c => exact ⟨_, .lst a⟩
  | dic a b c => exact ⟨_, .dic a⟩
theorem Od.int {i : Int} : Od K H (.int i) (.int i) [] := .flat (.int _) .int rfl rfl
theorem Od.non : Od K H .non .none [] := .flat .non .non rfl rfl
theorem Od.bl {i : Bool} : Od K H (.bl i) (.bool i) [] := .flat (.bl _) .bl rfl rfl
theorem Od.str {i : Str} : Od K H (.str i) (.str i) [] := .flat (.str _) .str rfl rfl
theorem Od.tup (h : H a = some (.tup xs)) (g : DnA K (vis F H) xs ds) : Od K H (.ref a) (.tuple ds) F := .flat (.tup (SqT.of (vis_tup h)) g) (.tup h) rfl rfl
theorem DnA.app : ∀ {xs ys : List V} {ds es : List PyData}, DnA K H xs ds → DnA K H ys es → DnA K H (xs ++ ys) (ds ++ es)
  | _, _, _, _, .nil, h => h
  | _, _, _, _, .cons a b, h => .cons a (DnA.app b h)
theorem Od.more {dy : PyData} (e : H1 a = some (.lst (xs ++ [y]))) (n : a ∉ F) (c : DnA K (vis F H) xs ds) (k : Kp [a] H H1) (hy : ∀ H, Dn K H y dy) : Od K H1 (.ref a) (.list (ds ++ [dy])) (a :: F) :=
  .lst e n ((c.kp (vis_kp k (by simpa using n))).app (.cons (hy _) .nil))
/-- what repr may show -/
structure Bd (d : PyData) (n : Nat) : Prop where
  good : U.good d
  depth : d.depth ≤ 90
  sz : U.sz d ≤ n
theorem Bd.mono {n m : Nat} (h : Bd d n) (e : n ≤ m) : Bd d m := ⟨h.good, h.depth, Nat.le_trans h.sz e⟩
theorem Bd.sh {n : Nat} (h : Bd d n) (g : Dn K H v d) (e : n ≤ 16000000) : Sh K H v d := ⟨g, h.good, Nat.le_trans h.depth (by decide), Nat.le_trans h.sz e⟩
theorem good_app : ∀ {ds es : List PyData}, goodA ds → goodA es → goodA (ds ++ es)
  | [], _, _, h => h
  | _ :: _, _, ⟨a, b⟩, h => ⟨a, good_app b h⟩
theorem depth_app : ∀ (ds es : List PyData), PyData.depthAll (ds ++ es) = max (PyData.depthAll ds) (PyData.depthAll es)
  | [], es => by simp [PyData.depthAll]
  | d :: ds, es => by
    rw [List.cons_append, PyData.depthAll, PyData.depthAll, depth_app ds es]
    omega
theorem sz_app : ∀ (ds es : List PyData), szA (ds ++ es) = szA ds + szA es
  | [], es => by simp [szA]
  | d :: ds, es => by
    rw [List.cons_append, szA, szA, sz_app ds es]
    omega
theorem Bd.more {n m : Nat} (h : Bd (.list ds) n) (g : Bd e m) (z : e.depth ≤ 80) : Bd (.list (ds ++ [e])) (n + m + 2) := by
  obtain ⟨h1, h2, h3⟩ := h
  obtain ⟨g1, g2, g3⟩ := g
  refine ⟨good_app h1 ⟨g1, trivial⟩, ?_, ?_⟩
  · simp only [PyData.depth, depth_app, PyData.depthAll] at h2 ⊢
    omega
  · simp only [U.sz, sz_app, szA] at h3 ⊢
    omega
theorem Bd.int {i : Int} (h : i.natAbs < 10 ^ 100) : Bd (.int i) 102 := ⟨h, by simp [PyData.depth], by simp [U.sz]⟩
theorem Bd.non : Bd .none 4 := ⟨trivial, by simp [PyData.depth], by simp [U.sz]⟩
theorem Bd.bl {i : Bool} : Bd (.bool i) 5 := ⟨trivial, by simp [PyData.depth], by simp [U.sz]⟩
theorem Bd.str {z : Str} {n : Nat} (h : SS z n) : Bd (.str z) (10 * n + 2) := ⟨fun c hc => Nat.lt_trans (h.ok c hc) (by decide), by simp [PyData.depth], by have := h.len; simp only [U.sz]; omega⟩
end
end U

namespace U
open PySem L2 PySem.Spec PyProof.Rows
/-! range(n) as a value; whole numbers in lists -/
section
variable {X : Cx} {K : PySem.W.Frag} {H : Hp} {Q : VK} {p : Addr} {i j : Int} {ns : List Int}
def uRange1 : List V → Hp → VK → Prop := fun vs H Q => ∃ j, vs = [V.int j] ∧ ∀ p, H p = none → Q (.ref p) (upd H p (.rng 0 j))
theorem c_range1 : CallR X (.type "range") uRange1 := by
  intro pins s σ H vs us Q I r h
  obtain ⟨j, rfl, q⟩ := h
  obtain ⟨u1, rfl, rj⟩ := vals1 r
  obtain ⟨u, rfl⟩ := rj
  refine call_range_1 ⟨.ref s.heap.objs.size, upd H s.heap.objs.size (.rng 0 j), I.laid (t' := s.toks + 1 + 1) (fun b o e => Heap.get?_push_of_some _ e) (Nat.le_refl _) ?_, rfl, q _ (I.hok.fresh (Nat.le_refl _))⟩
  exact ⟨s.toks, u, s.toks + 1, Heap.get?_push_size _ rfl⟩
theorem s_rngN1 (q : ∀ p H', H p = none → H' p = some (.rng 0 j) → Kp [] H H' → Q (.ref p) H') : uRange1 [.int j] H Q := ⟨j, rfl, new_abs (R := fun p H' => Q (.ref p) H') q⟩
theorem flat_ints (ns : List Int) : (ns.map V.int).all flatV = true := by
  rw [List.all_eq_true]
  intro x hx
  obtain ⟨y, _, rfl⟩ := List.mem_map.mp hx
  rfl
theorem eqV_int {a b : Int} : eqV (.int a) (.int b) = decide (a = b) := by
  first
    | (show decide (V.int a = V.int b) = _; exact U.dec_int)
    | rfl
    | simp [eqV]
theorem inV_ints : inV (.int i) (ns.map V.int) = decide (i ∈ ns) := by
  induction ns with
  | nil => rfl
  | cons y zs ih =>
    unfold inV at ih ⊢
    rw [List.map_cons, List.any_cons, ih, eqV_int]
    by_cases h : y = i
    · subst h; simp
    · simp [h, Ne.symm h]
theorem s_inI (h : SqL K H p (ns.map V.int)) (q : Q (.bl (decide (i ∈ ns))) H) : uIn K false (.int i) (.ref p) H Q := Or.inr ⟨p, _, rfl, Or.inl h, rfl, flat_ints ns, by rw [inV_ints]; exact q⟩
theorem s_ninI (h : SqL K H p (ns.map V.int)) (q : Q (.bl (!decide (i ∈ ns))) H) : uIn K true (.int i) (.ref p) H Q := Or.inr ⟨p, _, rfl, Or.inl h, rfl, flat_ints ns, by rw [inV_ints]; exact q⟩
end
/-! a thing to which more may be added: an item to a list, an entry of one key to a dict -/
section
variable {K : PySem.W.Frag} {H H1 : Hp} {F ps : List Addr} {a : Addr} {kvs c : List (Key × V)} {ds es : List PyData} {key : Str} {v y : V} {d dv dy : PyData} {xs : List V} {n m : Nat}
def noKey (key : Str) (c : List (Key × V)) : Prop := (c.any fun kv => decide (kv.1 = (Sum.inr key : Key))) = false
theorem put_new (h : noKey key c) : putK c (Sum.inr key : Key) v = c ++ [(Sum.inr key, v)] := by
  unfold putK
  rw [if_neg (by rw [h]; exact Bool.false_ne_true)]
theorem put_old {w : V} (h : noKey key c) : putK (c ++ [((Sum.inr key : Key), w)]) (Sum.inr key : Key) v = c ++ [(Sum.inr key, v)] := by
  unfold putK
  rw [if_pos (by simp), List.map_append]
  congr 1
  · unfold noKey at h
    rw [List.any_eq_false] at h
    calc c.map _ = c.map id := List.map_congr_left fun kv hk => by
          have := h kv hk
          simp only [decide_eq_true_eq] at this
          rw [if_neg this]; rfl
      _ = c := List.map_id c
  · simp
inductive Ot (K : PySem.W.Frag) (H : Hp) (key : Str) : V → PyData → List Addr → Prop
  | od {v : V} {d : PyData} {F : List Addr} : Od K H v d F → (∀ a kvs, v = .ref a → H a = some (.dK kvs) → noKey key kvs) → Ot K H key v d F
  | put {a : Addr} {c : List (Key × V)} {ds : List PyData} {F : List Addr} {v : V} {dv : PyData} : H a = some (.dK (c ++ [(Sum.inr key, v)])) → noKey key c → a ∉ F → DnA K (vis F H) (c.map (·.2)) ds → (∀ H, Dn K H v dv) →
      Ot K H key (.ref a) (.dict (((c ++ [((Sum.inr key : Key), v)]).map fun p => keyD p.1).zip (ds ++ [dv]))) (a :: F)
theorem Ot.kpn (h : Ot K H key v d F) (k : Kp ps H H1) (n : ∀ a ∈ ps, a ∉ F) : Ot K H1 key v d F := by
  cases h with
  | od a b =>
    refine .od (a.kpn k n) fun x kvs e h1 => ?_
    subst e
    cases a with
    | flat z1 z2 z3 z4 =>
      cases z2 with
      | lst e => cases z3
      | dic e => cases z4
      | tup e => rw [k.tp _ _ e] at h1; cases h1
    | lst z1 z2 z3 => rw [k.get z1 fun m => n _ m List.mem_cons_self] at h1; cases h1
    | dic z1 z2 z3 =>
      rw [k.get z1 fun m => n _ m List.mem_cons_self] at h1
      cases h1
      exact b _ _ rfl z1
  | put a b c e f => exact .put (k.get a fun m => n _ m List.mem_cons_self) b c (e.kp (vis_kp k fun x m z => n x m (List.mem_cons_of_mem _ z))) f
theorem Ot.kp (h : Ot K H key v d F) (k : Kp [] H H1) : Ot K H1 key v d F := h.kpn k (by simp)
theorem Ot.dn (h : Ot K H key v d F) : Dn K H v d := by
  cases h with
  | od a b => exact a.dn
  | put a b c e f =>
    refine .dic (Or.inl a) ?_
    rw [List.map_append]
    exact (e.kp vis_le).app (.cons (f _) .nil)
theorem Ot.ty (h : Ot K H key v d F) : ∃ kd, TyN H v kd := by
  cases h with
  | od a b => exact a.ty
  | put a b c e f => exact ⟨_, .dic a⟩
theorem dna_len : ∀ {vs : List V} {ds : List PyData}, DnA K H vs ds → vs.length = ds.length
  | _, _, .nil => rfl
  | _, _, .cons _ b => by rw [List.length_cons, List.length_cons, dna_len b]
theorem sz_len : ∀ ds : List PyData, 2 * ds.length ≤ szA ds
  | [] => by simp [szA]
  | d :: ds => by
    have := sz_len ds
    rw [szA, List.length_cons]
    omega
theorem szK_len : ∀ ds : List (PyData × PyData), 4 * ds.length ≤ szK ds
  | [] => by simp [szK]
  | (k, d) :: ds => by
    have := szK_len ds
    rw [szK, List.length_cons]
    omega
theorem goodK_app : ∀ {ds es : List (PyData × PyData)}, goodK (ds ++ es) ↔ goodK ds ∧ goodK es
  | [], es => by simp [goodK]
  | (k, d) :: ds, es => by
    rw [List.cons_append, goodK, goodK, goodK_app (ds := ds) (es := es)]
    simp only [and_assoc]
theorem depthK_app : ∀ (ds es : List (PyData × PyData)), PyData.depthKv (ds ++ es) = max (PyData.depthKv ds) (PyData.depthKv es)
  | [], es => by simp [PyData.depthKv]
  | (k, d) :: ds, es => by
    rw [List.cons_append, PyData.depthKv, PyData.depthKv, depthK_app ds es]
    omega
theorem szK_app : ∀ (ds es : List (PyData × PyData)), szK (ds ++ es) = szK ds + szK es
  | [], es => by simp [szK]
  | (k, d) :: ds, es => by
    rw [List.cons_append, szK, szK, szK_app ds es]
    omega
theorem zip_snoc (hl : DnA K H (c.map (·.2)) ds) : ((c ++ [((Sum.inr key : Key), v)]).map fun p => keyD p.1).zip (ds ++ [dv]) = ((c.map fun p => keyD p.1).zip ds) ++ [(.str key, dv)] := by
  have e : ds.length = c.length := by
    have := dna_len hl
    rw [List.length_map] at this
    exact this.symm
  rw [List.map_append, List.zip_append (by rw [List.length_map, e])]
  rfl
theorem Bd.putK {l : List (PyData × PyData)} (h : Bd (.dict l) n) (g : Bd dy m) (z : dy.depth ≤ 80) (s : SS key 20) : Bd (.dict (l ++ [(.str key, dy)])) (n + m + 300) := by
  obtain ⟨h1, h2, h3⟩ := h
  obtain ⟨g1, g2, g3⟩ := g
  refine ⟨goodK_app.mpr ⟨h1, fun c hc => Nat.lt_trans (s.ok c hc) (by decide), g1, trivial⟩, ?_, ?_⟩
  · simp only [PyData.depth, depthK_app, PyData.depthKv] at h2 ⊢
    omega
  · have := s.len
    simp only [U.sz, szK_app, szK] at h3 ⊢
    omega
theorem Bd.dropK {l : List (PyData × PyData)} {x : PyData × PyData} (h : Bd (.dict (l ++ [x])) n) : Bd (.dict l) n := by
  obtain ⟨h1, h2, h3⟩ := h
  obtain ⟨x1, x2⟩ := x
  refine ⟨(goodK_app.mp h1).1, ?_, ?_⟩
  · simp only [PyData.depth, depthK_app, PyData.depthKv] at h2 ⊢
    omega
  · simp only [U.sz, szK_app, szK] at h3 ⊢
    omega
theorem Ot.cs (h : Ot K H key v d F) (s : SS key 20) : (∃ kd, TyN H v kd ∧ kd.isList = false ∧ kd.isDict = false) ∨
    (∃ a xs, v = .ref a ∧ a ∈ F ∧ H a = some (.lst xs) ∧ (∀ n, Bd d n → xs.length ≤ n) ∧ ∀ y dy H1, (∀ H, Dn K H y dy) → H1 a = some (.lst (xs ++ [y])) → Kp [a] H H1 → ∃ d', Ot K H1 key v d' F ∧ ∀ n m, Bd d n → Bd dy m → dy.depth ≤ 80 → Bd d' (n + m + 300)) ∨
    (∃ a kvs, v = .ref a ∧ a ∈ F ∧ H a = some (.dK kvs) ∧ (∀ n, Bd d n → kvs.length ≤ n) ∧ ∀ y dy H1, (∀ H, Dn K H y dy) → H1 a = some (.dK (L2.putK kvs (Sum.inr key : Key) y)) → Kp [a] H H1 → ∃ d', Ot K H1 key v d' F ∧ ∀ n m, Bd d n → Bd dy m → dy.depth ≤ 80 → Bd d' (n + m + 300)) := by
  cases h with
  | od a b =>
    cases a with
    | flat z1 z2 z3 z4 => exact Or.inl ⟨_, z2, z3, z4⟩
    | @lst a xs ds F z1 z2 z3 =>
      refine Or.inr (Or.inl ⟨a, xs, rfl, List.mem_cons_self, z1, fun n g => ?_, fun y dy H1 hy e k => ⟨_, .od (Od.more e z2 z3 k hy) (fun x kvs e1 e2 => ?_), fun n m g1 g2 g3 => (g1.more g2 g3).mono (by omega)⟩⟩)
      · have := sz_len ds
        have := g.sz
        simp only [U.sz] at this
        have := dna_len z3
        omega
      · cases e1
        rw [e] at e2
        cases e2
    | @dic a kvs ds F z1 z2 z3 =>
      refine Or.inr (Or.inr ⟨a, kvs, rfl, List.mem_cons_self, z1, fun n g => ?_, fun y dy H1 hy e k => ?_⟩)
      · have := szK_len ((kvs.map fun p => keyD p.1).zip ds)
        have := g.sz
        simp only [U.sz] at this
        have e := dna_len z3
        rw [List.length_map] at e
        have : ((kvs.map fun p => keyD p.1).zip ds).length = kvs.length := by rw [List.length_zip, List.length_map, ← e]; omega
        omega
      · have nk := b _ _ rfl z1
        rw [put_new nk] at e
        refine ⟨_, .put e nk z2 (z3.kp (vis_kp k (by simpa using z2))) hy, fun n m g1 g2 g3 => ?_⟩
        rw [zip_snoc z3]
        exact g1.putK g2 g3 s
  | @put a c ds F v dv z1 nk z2 z3 z4 =>
    refine Or.inr (Or.inr ⟨a, _, rfl, List.mem_cons_self, z1, fun n g => ?_, fun y dy H1 hy e k => ?_⟩)
    · rw [zip_snoc z3] at g
      have := szK_len ((c.map fun p => keyD p.1).zip ds ++ [(.str key, dv)])
      have := g.sz
      simp only [U.sz] at this
      have e := dna_len z3
      rw [List.length_map] at e
      have : ((c.map fun p => keyD p.1).zip ds).length = c.length := by rw [List.length_zip, List.length_map, ← e]; omega
      rw [List.length_append] at *
      simp only [List.length_cons, List.length_nil] at *
      omega
    · rw [put_old nk] at e
      refine ⟨_, .put e nk z2 (z3.kp (vis_kp k (by simpa using z2))) hy, fun n m g1 g2 g3 => ?_⟩
      rw [zip_snoc z3] at g1 ⊢
      exact g1.dropK.putK g2 g3 s
end
theorem s_slT {K : PySem.W.Frag} {H : Hp} {p : Addr} {xs ys : List V} {lo hi : Option Int} {Q : VK} (h : H p = some (.tup xs)) (ey : cutV xs lo hi = ys) (q : ∀ p' H', H' p' = some (.tup ys) → Kp [] H H' → Q (.ref p') H') : uSl K (.ref p) lo hi H Q := by
  subst ey
  refine Or.inr (Or.inr ⟨p, xs, rfl, SqT.of h, fun e => ?_, fun _ => new_abs (R := fun l H' => Q (.ref l) H') fun p' H' _ e k => q p' H' e k⟩)
  have : cutV xs lo hi = xs := by
    unfold cutV
    rw [e.1, e.2]
    simp
  exact q p H (by rw [this]; exact h) Kp.refl
theorem int_shw {K : PySem.W.Frag} {H : Hp} {i : Int} (h0 : 0 ≤ i) (h1 : i ≤ 1000000000) : Sh K H (.int i) (.int i) :=
  ⟨.int i, Nat.lt_of_le_of_lt (show i.natAbs ≤ 1000000000 by omega) (by decide +kernel), by simp [PyData.depth], by simp [sz]⟩
end U

namespace U
open PySem L2 PySem.Spec PyProof.Rows PySem.SeqAt
/-! a dict beside texts -/
theorem dict_eq_declines_str (l : Addr) (es : Array DictEntry) (n : Nat) (dd : Option Addr) (sl : Array (Option Value)) (b : Str) (u : Tok) :
    Meets (Builtin.«dict.__eq__» ⟨[.ref l, .str b u], []⟩) (fun _ R s => s.heap.get? l = some { cls := .type "dict", dict := dd, data := .dict es n, slots := sl } ∧ R (.ok (.ret .notImplemented)) s) :=
  .of_wp fun prog w A R s h => by obtain ⟨hp, g, d, tk, os⟩ := s; obtain ⟨hl, h⟩ := h; have f1 := F.sub_str_dict; wp_walk using wpAny_loadPart' hl; exact ⟨_, rfl, h⟩
theorem str_eq_declines_dict (b : Str) (u : Tok) (l : Addr) (c : Value) (es : Array DictEntry) (n : Nat) (dd : Option Addr) (sl : Array (Option Value)) :
    Meets (Builtin.«str.__eq__» ⟨[.str b u, .ref l], []⟩) (fun _ R s => s.heap.get? l = some { cls := c, dict := dd, data := .dict es n, slots := sl } ∧ R (.ok (.ret .notImplemented)) s) :=
  .of_wp fun prog w A R s h => by obtain ⟨hp, g, d, tk, os⟩ := s; obtain ⟨hl, h⟩ := h; wp_walk using wpAny_loadPart' hl, wpAny_load hl; exact ⟨_, rfl, h⟩
theorem eqAt_str_dict {A : Around} {s : Shared} {l : Addr} {o : Obj} {es : Array DictEntry} {n : Nat} (b : Str) (u : Tok) (ho : s.heap.get? l = some o) (hc : o.cls = .type "dict") (hd : o.data = .dict es n) (hu : A.units < cLine) : EqAt A s (.str b u) (.ref l) false := fun prog w E Q h => by
  obtain ⟨cls, dd, data, sl⟩ := o
  simp only at hc hd
  subst hc hd
  unfold eqBool
  refine wpAny_holding ?_
  refine wpAny_ite_split (fun hab => absurd (eq_of_beq hab) nofun) (fun _ => ?_)
  refine wpAny_bind (?_ : wpAny (model prog w) A (richCompare .Eq (.str b u) (.ref l)) _ E s)
  refine rc_eq_decline_or (k := false) (typeIs_str s b u) ⟨_, ho, rfl⟩ (by decide) F.sub_dict_str F.slot_str_eq F.slot_dict_eq_refl
    (fun _ hq => call_meets F.slot_str_eq (typeIs_str s b u) F.entry_str_eq (F.args_str_eq_2 _ _) (str_eq_declines_dict b u l (.type "dict") es n dd sl) ⟨ho, hq⟩)
    (fun _ hq => call_meets F.slot_dict_eq_refl ⟨_, ho, rfl⟩ F.entry_dict_eq (F.args_dict_eq_2 _ _) (dict_eq_declines_str l es n dd sl b u) ⟨ho, hq⟩)
    (fun _ hq => wpAny_of_eq (rfl : isSame (.str b u) (.ref l) = pure false) hq) (.inr hu) (wpAny_truthy_bool h)
/-! x in a list of texts, x any data -/
def rInX (K : PySem.W.Frag) (ng : Bool) : R2 := fun x y H Q => ∃ (p a : Addr) (zs : List Str) (kvs : List (Key × V)), x = .ref a ∧ H a = some (.dK kvs) ∧ y = .ref p ∧ SqL K H p (zs.map V.str) ∧ Q (.bl ng) H
def rInY (K : PySem.W.Frag) (ng : Bool) : R2 := fun x y H Q => ∃ d ds, Dp K H x d ∧ Dp K H y (.list ds) ∧ SeqAt.shaped d = true ∧ SeqAt.shaped (.list ds) = true ∧ Q (.bl (if ng then !ds.any fun z => PyData.eqv z d else ds.any fun z => PyData.eqv z d)) H
def uInX (K : PySem.W.Frag) (ng : Bool) : R2 := fun x y H Q => uIn K ng x y H Q ∨ rInX K ng x y H Q ∨ rInY K ng x y H Q
section
variable {X : Cx} {k : Nat} {K : PySem.W.Frag}
theorem strs_eqAt {A : Around} {s : Shared} {l : Addr} {o : Obj} {es : Array DictEntry} {n : Nat} (ho : s.heap.get? l = some o) (hc : o.cls = .type "dict") (hd : o.data = .dict es n) (hu : A.units < cLine) : ∀ {zs : List Str} {us : List Value}, Vals (zs.map V.str) us → ∀ u ∈ us, EqAt A s u (.ref l) false
  | [], _, .nil => fun u hu => by cases hu
  | z :: zs, _, .cons r t => fun u' hu' => by
    rcases List.mem_cons.mp hu' with rfl | hm
    · obtain ⟨tk, rfl⟩ := r
      exact eqAt_str_dict z tk ho hc hd hu
    · exact strs_eqAt ho hc hd hu t u' hm
theorem op_inX (hr : Room k X.A) : OpR X (compareOp .In) (rInX X.K false) := by
  intro pins s σ H x y v u Q I rx ry h
  obtain ⟨p, a, zs, kvs, rfl, ea, rfl, hq, q⟩ := h
  cases rx
  cases ry
  obtain ⟨z, hd, vs, rel, o, es, ep, h1, h2, h3, h4⟩ := dk_of I.hok ea
  obtain ⟨its, r, pl, hz⟩ := I.list hq
  refine SeqAt.in_listAt (fun _ => false) pl.isList (fun w hw => strs_eqAt h1 h2.1 h3 (hu_of hr) r w (by simpa using hw)) ⟨.bl _, H, I, rfl, ?_⟩
  rw [show its.toArray.any (fun _ => false) = false by simp]
  exact q
theorem op_notInX (hr : Room k X.A) : OpR X (compareOp .NotIn) (rInX X.K true) := by
  intro pins s σ H x y v u Q I rx ry h
  obtain ⟨p, a, zs, kvs, rfl, ea, rfl, hq, q⟩ := h
  cases rx
  cases ry
  obtain ⟨z, hd, vs, rel, o, es, ep, h1, h2, h3, h4⟩ := dk_of I.hok ea
  obtain ⟨its, r, pl, hz⟩ := I.list hq
  refine SeqAt.notIn_listAt (fun _ => false) pl.isList (fun w hw => strs_eqAt h1 h2.1 h3 (hu_of hr) r w (by simpa using hw)) ⟨.bl _, H, I, rfl, ?_⟩
  rw [show its.toArray.any (fun _ => false) = false by simp]
  exact q
theorem o_inX (hK : X.K = K) (hr : Room k X.A) : OpR X (compareOp .In) (uInX K false) := by
  subst hK
  exact (o_in rfl).or ((op_inX hr).or (op_inD (by have := hr.un; omega)))
theorem o_notinX (hK : X.K = K) (hr : Room k X.A) : OpR X (compareOp .NotIn) (uInX K true) := by
  subst hK
  exact (o_notin rfl).or ((op_notInX hr).or (op_notInD (by have := hr.un; omega)))
end
section
variable {K : PySem.W.Frag} {σ : L2.St} {H : Hp} {Q : VK} {p a : Addr} {zs : List Str} {ng : Bool} {x y : V} {d : PyData}
/-- a thing that is no text is in no list of texts -/
def noStr : PyData → Bool | .str _ => false | _ => true
theorem any_noStr (h : noStr d = true) : ∀ zs : List Str, ((zs.map PyData.str).any fun z => PyData.eqv z d) = false
  | [] => rfl
  | z :: zs => by
    rw [List.map_cons, List.any_cons, any_noStr h zs, Bool.or_false]
    cases d <;> first | rfl | (simp [noStr] at h) | simp [PyData.eqv]
theorem s_iX (h : uIn K ng x y H Q) : uInX K ng x y H Q := Or.inl h
theorem s_iXD {kvs : List (Key × V)} (h : H a = some (.dK kvs)) (g : SqL K H p (zs.map V.str)) (q : Q (.bl ng) H) : uInX K ng (.ref a) (.ref p) H Q := Or.inr (Or.inl ⟨p, a, zs, kvs, rfl, h, rfl, g, q⟩)
theorem s_iXY (h : Dn K H x d) (s : SeqAt.shaped d = true) (nd : noStr d = true) (g : SqL K H p (zs.map V.str)) (ok : ∀ z ∈ zs, ∀ c ∈ z.cps.toList, c < 1114112) (q : Q (.bl ng) H) : uInX K ng x (.ref p) H Q := by
  refine Or.inr (Or.inr ⟨d, zs.map PyData.str, h.dp (shp s), .lst g (dpa_strs zs), s, shp_strs ok, ?_⟩)
  rw [any_noStr nd zs]
  cases ng <;> exact q
theorem s_m0 {r : V → List V → Hp → VK → Prop} {to : TE} (h : to σ H fun x H1 => (∃ a, x = .str a) ∧ r x [] H1 Q) : tM0 r to σ H Q := h
theorem s_upper {z : Str} (h : z.length ≤ 5592405) (q : Q (.str (Txt.upper z)) H) : ∃ a, V.str z = .str a ∧ ([] : List V) = [] ∧ a.length ≤ 5592405 ∧ Q (.str (Txt.upper a)) H := ⟨z, rfl, rfl, h, q⟩
theorem up_let : ∀ c ∈ List.range' 97 26, Unicode.upperOf c = [c - 32] := by decide +kernel
theorem up_ss {z : Str} {n : Nat} (h : SS z n) (g : ∀ c ∈ z.cps.toList, 97 ≤ c ∧ c ≤ 122) : SS (Txt.upper z) (3 * n) := by
  refine ⟨Nat.le_trans (len_upper z) (by have := h.len; omega), fun c hc => ?_⟩
  have hc : c ∈ (PySem.placed z fun _ c => Unicode.upperOf c) := by simpa [Txt.upper] using hc
  unfold PySem.placed at hc
  obtain ⟨xs, hx, hc⟩ := Array.mem_flatten.mp hc
  obtain ⟨i, hi, rfl⟩ := Array.mem_mapIdx.mp hx
  have hm : z.cps[i] ∈ z.cps.toList := by simp
  have b := g _ hm
  simp only [] at hc
  rw [up_let _ (by rw [List.mem_range']; exact ⟨z.cps[i] - 97, by omega, by omega⟩)] at hc
  simp at hc
  omega
def uInt : List V → Hp → VK → Prop := fun xs H Q => (∃ i, xs = [.int i] ∧ Q (.int i) H) ∨ ∃ k : Bool, xs = [.bl k] ∧ Q (.int (if k then 1 else 0)) H
theorem c_int {X : Cx} : CallR X (.type "int") uInt := call_int1
theorem s_intB {k : Bool} (q : Q (.int (if k then 1 else 0)) H) : uInt [.bl k] H Q := Or.inr ⟨k, rfl, q⟩
end
end U

namespace U
open PySem L2 PySem.Spec PyProof.Rows
/-! enumerate(list, c) -/
def IteS (K : PySem.W.Frag) (a : Addr) (c : Int) : It :=
  ⟨fun i H => ∃ (xs : List V) (x : V), SqL K H a xs ∧ xs[i]? = some x, fun i H v H' => ∃ T x, v = .ref T ∧ H T = none ∧ H' = upd H T (.tup [.int (c + (i : Nat)), x]) ∧ ∀ xs, SqL K H a xs → xs[i]? = some x, fun i H => ∃ xs : List V, SqL K H a xs ∧ xs.length ≤ i⟩
theorem turn_enumS {P : Program} {w : World} {K : PySem.W.Frag} {elts : List Expr} {kk : Nat} {tpos : Pos} (a e it : Addr) (c : Int) :
    Turn P w K (.Tuple elts kk tpos) (IteS K a c) [e, it] e (fun i h => (∃ old, IsEnum h e it (c + ((i : Nat) : Int)) old) ∧ h.IsListIter it a i ∧ e ≠ it) where
  mem := by simp
  obj := fun i h st b hb => by
    obtain ⟨⟨old, he⟩, ⟨o, ho, hc, hd⟩, _⟩ := st
    have e' : b = e ∨ b = it := by simpa using hb
    rcases e' with z | z
    · rw [z]; exact ⟨_, he, fun v q => nomatch q⟩
    · rw [z]; exact ⟨o, ho, fun v q => by rw [hd] at q; cases q⟩
  keep := fun i h h' st k => let ⟨⟨old, he⟩, hi, hne⟩ := st; ⟨⟨old, k e (by simp) _ he⟩, hi.at fun o q => k it (by simp) o q, hne⟩
  item := by
    intro X hP hw hK hc i pins s σ H E I hf st hg
    subst hP hw hK
    obtain ⟨⟨old, he⟩, hit, hne⟩ := st
    obtain ⟨xs, x, hq, hx⟩ := hg
    obtain ⟨its, rv, p, hz⟩ := I.list hq
    obtain ⟨u, hu, ru⟩ := rv.get hx
    have p' : s.heap.IsList a its.toArray := p.isList
    have nai : a ≠ it := fun z => by
      subst z
      obtain ⟨o1, e1, c1, _⟩ := p'
      obtain ⟨o2, e2, c2, _⟩ := hit
      rw [e1] at e2; cases e2
      rw [c1] at c2; exact absurd c2 (by simp)
    have nae : a ≠ e := fun z => by
      subst z
      obtain ⟨o1, e1, c1, _⟩ := p'
      have he' := he
      unfold IsEnum at he'
      rw [e1] at he'
      cases he'
      exact absurd c1 (by simp)
    have hel : e < s.heap.objs.size := Heap.lt_size he
    have hil : it < s.heap.objs.size := by obtain ⟨_, q, _⟩ := hit; exact Heap.lt_size q
    have hi : i < its.toArray.size := by
      rw [List.size_toArray]
      exact (List.getElem?_eq_some_iff.mp hu).1
    refine wpAny_pyNext_enum_itemC (Draws.list (A := X.A.in1) (show X.A.in1.handled = none from I.ok.hd hc) it a nai its.toArray) he ⟨hit, p'⟩ hi hne (by simp; exact ⟨hne, nae.symm⟩) fun x' h' tk hP ho hst' hT hsz hk => ?_
    obtain ⟨hit', _⟩ := hst'
    have ex : x' = u := by
      have hP' : its.toArray[i]? = some x' := hP
      rw [List.getElem?_toArray, hu] at hP'
      exact (Option.some.inj hP').symm
    subst ex
    refine ⟨_, rfl, wpAny_letOwnedTupleGo_enum (s := { s with heap := h', toks := tk + 1 }) ho fun h'' he' sb => ?_⟩
    have hT2 : h''.get? s.heap.objs.size = some { cls := .type "tuple", data := .seq #[.int (c + i) tk, x'] } := (sb.2 _ (Nat.ne_of_gt hel)).trans hT
    have new : ObjOk X.prog X.w (upd H s.heap.objs.size (.tup [.int (c + (i : Nat)), x])) h'' s.heap.objs.size (.tup [.int (c + (i : Nat)), x]) :=
      ⟨by show 2 ≤ sizeLine; decide, [.int (c + i) tk, x'], .cons ⟨_, rfl⟩ (.cons ru .nil), ⟨_, hT2, rfl, _, rfl⟩⟩
    have I1 : Inv X pins σ (upd H s.heap.objs.size (.tup [.int (c + (i : Nat)), x])) { s with heap := h'', toks := tk + 1 } :=
      I.turnedNew (ch := [e, it]) (fun b ob hb q => (sb.2 b (fun z => hb (by simp [z]))).trans (hk b ob (fun z => hb (by simp [z])) (fun z => hb (by simp [z])) q)) hf (Nat.le_refl _) new
    refine ⟨.ref s.heap.objs.size, _, I1, rfl, ⟨_, x, rfl, I.hok.fresh (Nat.le_refl _), rfl, fun ys hy => by rw [I.list_inj hy hq]; exact hx⟩, ⟨⟨x', ?_⟩, hit'.at fun o q => (sb.2 it (Ne.symm hne)).trans q, hne⟩, fun b hb => ?_⟩
    · have e1 : c + ((i + 1 : Nat) : Int) = c + (i : Int) + 1 := by omega
      rw [e1]; exact he'
    · have hb' : b < s.heap.objs.size := by
        have e' : b = e ∨ b = it := by simpa using hb
        rcases e' with z | z
        · rw [z]; exact hel
        · rw [z]; exact hil
      rw [upd_ne (Nat.ne_of_lt hb')]
      exact (hf b hb).1
  done := by
    intro X hP hw hK hc i pins s σ H E I hf st hg
    subst hP hw hK
    obtain ⟨⟨old, he⟩, hit, hne⟩ := st
    obtain ⟨xs, hq, hx⟩ := hg
    obtain ⟨its, rv, p, hz⟩ := I.list hq
    obtain ⟨f0, f1, f2, f3, f4, f5⟩ := hf it (by simp)
    have hl := rv.length
    have p' : s.heap.IsList a its.toArray := p.isList
    refine (?_ : wpAny (model X.prog X.w) X.A (pyNext (.ref e)) _ _ s)
    have hT : s.TypeIs (.ref e) "enumerate" := ⟨_, he, rfl⟩
    unfold pyNext
    refine wpAny_bind (wpAny_attempt (wpAny_callSpecial?_slot (name := Str.ofString "__next__") hT F.slot_enumerate_next
      (wpAny_call_entry F.slot_enumerate_next hT F.entry_enumerate_next ?_ (F.args_enumerate_next_1 _))))
    show wpAny _ _ (field (.ref e) 2 >>= _) _ _ _
    refine wpAny_bind (wpAny_field he rfl (x := .ref it) rfl ?_)
    refine wpAny_bind (wpAny_nextOf_list_end (I.ok.hd hc) hit p' (by simp; omega) fun h' x he' hx' => ?_)
    obtain ⟨o, ho, hc'⟩ := hx'
    refine wpAny_bind (wpAny_isInstance (T := "StopIteration") (b := true) ⟨o, ho, hc'⟩ isSubtype_stop ?_)
    exact wpAny_pure ⟨rfl, I.turned (t' := s.toks) (fun b o hb q => he' b o hb q) f0 f1 f3 f4 f5⟩
  self := fun A i s Q E st h => let ⟨⟨_, he⟩, _⟩ := st; wpAny_pyIter_enum he h
def iEnumS (K : PySem.W.Frag) (ta : TA) : TI := fun σ H R => ta σ H fun vs H1 => ∃ a xs c, vs = [.ref a, .int c] ∧ SqL K H1 a xs ∧ (-(2 ^ 62) ≤ c ∧ c < 2 ^ 62) ∧ R (IteS K a c) H1
theorem pi_enumS {X : Cx} {K : PySem.W.Frag} {e e2 : Expr} {ta : TA} {p pos tpos : Pos} {elts : List Expr} {kk : Nat} (hK : X.K = K) (hg : Gl X "enumerate") (hm : X.mg "enumerate" = none) (ha : PA X [e, e2] ta) (hs : starEach [e, e2] X.env = (false, eval e X.env) :: starEach [e2] X.env := by rfl) (hs2 : (backTo pos (starEach [e2] X.env)).any (·.1) = false := by rfl) :
    PI X (.Tuple elts kk tpos) (.Call (.Name "enumerate" p) [e, e2] [] pos) (iEnumS K ta) := by
  subst hK
  refine ⟨fun pins s σ H R I h => ?_⟩
  refine Call_ (ld_blt I hg hm boot_enumerate (PyProof.Rows.callWith_type1 (thn (ha.run pos pins s σ H _ I h) fun us s1 ⟨vs, H1, I1, r1, q1⟩ => ?_) hs hs2))
  obtain ⟨a, xs, c, ex, hq, hc, q⟩ := q1
  subst ex
  cases r1 with
  | cons r rr =>
    cases rr with
    | cons r2 rr =>
      cases rr
      cases r
      obtain ⟨tk, rfl⟩ := r2
      obtain ⟨its, rv, p', hz⟩ := I1.list hq
      refine enum_begins (begins_list a its.toArray) (show s1.heap.IsList a its.toArray from p'.isList) (by omega) (by omega) fun h' he hit hsz hk => wpAny_pyIter_enum he ?_
      have I2 : Inv X pins σ H1 { s1 with heap := h' } := I1.kept (t' := s1.toks) hk
      refine ⟨s1.heap.objs.size + 1, [s1.heap.objs.size + 1, s1.heap.objs.size], _, _, H1, rfl, I2, turn_enumS a (s1.heap.objs.size + 1) s1.heap.objs.size c, ⟨⟨.none, by simpa using he⟩, ⟨_, hit, rfl, rfl⟩, Nat.succ_ne_self _⟩, fun b hb => ?_, q⟩
      have e' : b = s1.heap.objs.size + 1 ∨ b = s1.heap.objs.size := by simpa using hb
      have hle : s1.heap.objs.size ≤ b := by
        rcases e' with z | z
        · rw [z]; exact Nat.le_add_right _ _
        · rw [z]; exact Nat.le_refl _
      exact I1.fpOk hle (I1.hok.fresh hle)
theorem walk_enumS {K : PySem.W.Frag} {a : Addr} {xs : List V} {c : Int} : Walk (IteS K a c) xs.length (fun H => SqL K H a xs) (YPair (fun i => some (.int (c + (i : Nat)))) (fun i => xs[i]?)) := by
  refine ⟨fun i _ hi q => ⟨xs, xs[i], q, by simp [hi]⟩, fun _ q => ⟨xs, q, Nat.le_refl _⟩, fun i H v H' _ q y => ?_⟩
  obtain ⟨T, x, h1, h2, h3, h4⟩ := y
  exact ⟨T, .int (c + (i : Nat)), x, h1, h2, h3, rfl, h4 xs q⟩
section
variable {K : PySem.W.Frag} {σ : L2.St} {H : Hp} {a : Addr} {vs : List V} {g : TG} {tb : TS} {D : Ends} {c : Int} {R : It → Hp → Prop} {ta : TA} {xs : List V}
theorem for_eS (e : H a = some (.lst vs)) (Pv : Nat → L2.St → Hp → Prop) (h0 : Pv 0 σ H) (hG : ∀ i σ' H', Pv i σ' H' → ∀ o, H a = some o → H' a = some o)
    (hs : ∀ i x σ' H' T H2, vs[i]? = some x → Pv i σ' H' → H' T = none → H2 T = some (.tup [.int (c + (i : Nat)), x]) → Kp [] H' H2 → g (.ref T) σ' H2 fun σ2 H3 => tb { D with nx := Pv (i + 1), ct := Pv (i + 1), bk := D.nx } σ2 H3) (hd : ∀ σ' H', Pv vs.length σ' H' → D.nx σ' H') :
    ∃ W : Nat → Nat → L2.St → Hp → Prop, (∃ m, W 0 m σ H) ∧ ∀ i m σ H, W i m σ H →
      ((IteS K a c).stop i H ∧ D.nx σ H) ∨ ((IteS K a c).go i H ∧ ∃ N : L2.St → Hp → Prop, (∀ σ' H', N σ' H' → ∃ m', m' < m ∧ W (i + 1) m' σ' H') ∧ ∀ x H', (IteS K a c).yld i H x H' → g x σ H' fun σ2 H2 => tb { D with nx := N, ct := N, bk := D.nx } σ2 H2) :=
  for_it (walk_enumS (xs := vs)) Pv h0 (fun i σ' H' _ p => SqL.of (hG i σ' H' p _ e)) (fun i x σ' H1 H2 hi p y => by
    obtain ⟨T, x1, x2, rfl, f, rfl, e1, e2⟩ := y
    cases Option.some.inj e1
    exact hs i x2 σ' H1 T _ e2 p f upd_same (Kp.refl.new f)) hd
theorem s_ienS (h : ta σ H fun vs H1 => ∃ a xs c, vs = [.ref a, .int c] ∧ SqL K H1 a xs ∧ (-(2 ^ 62) ≤ c ∧ c < 2 ^ 62) ∧ R (IteS K a c) H1) : iEnumS K ta σ H R := h
theorem s_eS {S : Addr → Int → Prop} (h : H a = some (.lst xs)) (b : -(2 ^ 62) ≤ c ∧ c < 2 ^ 62) (q : S a c) : ∃ a' xs' c', [V.ref a, V.int c] = [.ref a', .int c'] ∧ SqL K H a' xs' ∧ (-(2 ^ 62) ≤ c' ∧ c' < 2 ^ 62) ∧ S a' c' := ⟨a, xs, c, rfl, SqL.of h, b, q⟩
end
end U

namespace U
open PySem L2 PySem.Spec PyProof.Rows
/-! texts that are joined, and split again -/
def jl (c : Nat) : List (List Nat) → List Nat
  | [] => []
  | [w] => w
  | w :: v :: r => w ++ c :: jl c (v :: r)
theorem app_inj {c : Nat} : ∀ {a b x y : List Nat}, c ∉ a → c ∉ b → a ++ c :: x = b ++ c :: y → a = b ∧ x = y
  | [], [], _, _, _, _, h => ⟨rfl, by simpa using h⟩
  | [], b :: bs, _, _, _, hb, h => by
    simp only [List.nil_append, List.cons_append, List.cons.injEq] at h
    exact (hb (by rw [h.1]; exact List.mem_cons_self)).elim
  | a :: as, [], _, _, ha, _, h => by
    simp only [List.nil_append, List.cons_append, List.cons.injEq] at h
    exact (ha (by rw [← h.1]; exact List.mem_cons_self)).elim
  | a :: as, b :: bs, x, y, ha, hb, h => by
    simp only [List.cons_append, List.cons.injEq] at h
    obtain ⟨h1, h2⟩ := app_inj (fun m => ha (List.mem_cons_of_mem _ m)) (fun m => hb (List.mem_cons_of_mem _ m)) h.2
    exact ⟨by rw [h.1, h1], h2⟩
theorem jl_inj {c : Nat} : ∀ {as bs : List (List Nat)}, as ≠ [] → bs ≠ [] → (∀ a ∈ as, c ∉ a) → (∀ b ∈ bs, c ∉ b) → jl c as = jl c bs → as = bs
  | [], _, h, _, _, _, _ => (h rfl).elim
  | _ :: _, [], _, h, _, _, _ => (h rfl).elim
  | [a], [b], _, _, _, _, h => by rw [show a = b from h]
  | [a], b :: b' :: r, _, _, ha, _, h => by
    have h : a = b ++ c :: jl c (b' :: r) := h
    exact (ha a List.mem_cons_self (by rw [h]; simp)).elim
  | a :: a' :: r, [b], _, _, _, hb, h => by
    have h : a ++ c :: jl c (a' :: r) = b := h
    exact (hb b List.mem_cons_self (by rw [← h]; simp)).elim
  | a :: a' :: r, b :: b' :: s, _, _, ha, hb, h => by
    have h : a ++ c :: jl c (a' :: r) = b ++ c :: jl c (b' :: s) := h
    obtain ⟨h1, h2⟩ := app_inj (ha a List.mem_cons_self) (hb b List.mem_cons_self) h
    rw [h1, jl_inj (by simp) (by simp) (fun x m => ha x (List.mem_cons_of_mem _ m)) (fun x m => hb x (List.mem_cons_of_mem _ m)) h2]
theorem join_jl (c : Nat) : ∀ ws : List Str, (Str.join ⟨#[c]⟩ ws).cps.toList = jl c (ws.map fun w => w.cps.toList)
  | [] => rfl
  | [w] => rfl
  | w :: v :: r => by
    have ih := join_jl c (v :: r)
    have e : Str.join ⟨#[c]⟩ (w :: v :: r) = w ++ ⟨#[c]⟩ ++ Str.join ⟨#[c]⟩ (v :: r) := rfl
    rw [e, Str.cps_append, Str.cps_append, Array.toList_append, Array.toList_append, ih]
    show (w.cps.toList ++ [c]) ++ _ = w.cps.toList ++ c :: _
    rw [List.append_assoc]
    rfl
theorem tj (y : Str) (l : List Str) : Txt.join y l = Str.join y l := StrLaws.glued_eq_join y l
theorem split_join {c : Nat} {ws : List Str} (hne : ws ≠ []) (h : ∀ w ∈ ws, c ∉ w.cps.toList) : Txt.split (Txt.join ⟨#[c]⟩ ws) ⟨#[c]⟩ = ws := by
  rw [tj]
  generalize hx : Str.join ⟨#[c]⟩ ws = x
  have h1 : Str.join ⟨#[c]⟩ (Txt.split x ⟨#[c]⟩) = Str.join ⟨#[c]⟩ ws := by rw [StrLaws.join_split, hx]
  have h2 := congrArg (fun z : Str => z.cps.toList) h1
  simp only [join_jl] at h2
  have h3 := jl_inj (by
    intro z
    have := PyProof.Rows.split_pos x ⟨#[c]⟩
    rw [List.map_eq_nil_iff] at z
    rw [z] at this
    simp at this) (by simpa using hne) (by
    intro a ha
    obtain ⟨p, hp, rfl⟩ := List.mem_map.mp ha
    exact StrLaws.split_free x c p hp) (by
    intro a ha
    obtain ⟨p, hp, rfl⟩ := List.mem_map.mp ha
    exact h p hp) h2
  exact (List.map_inj_right (fun a b (e : a.cps.toList = b.cps.toList) => Str.ext' (Array.toList_inj.mp e))).mp h3
theorem sp_eq : (" " : Str) = ⟨#[32]⟩ := by decide +kernel
theorem nl_eq : ("\n" : Str) = ⟨#[10]⟩ := by decide +kernel
section
variable {K : PySem.W.Frag} {σ : L2.St} {H : Hp} {Q : VK} {z sep acc y : Str} {ws : List Str} {p : Addr} {xs ys : List V} {n : Int} {v : V} {te : TE} {ts : List TE} {q : Str → Hp → Prop} {X : Cx}
theorem s_spl (h0 : (sep.length == 0) = false) (hz : z.length + 2 ≤ sizeLine) (e : Txt.split z sep = ws) (q : ∀ p H', H p = none → H' p = some (.lst (ws.map V.str)) → Kp [] H H' → Q (.ref p) H') :
    ∃ b, [V.str sep] = [V.str b] ∧ (b.length == 0) = false ∧ z.length + 2 ≤ sizeLine ∧ rNewStrs (Txt.split z b) H Q := by
  refine ⟨sep, rfl, h0, hz, ?_⟩
  rw [e]
  exact new_abs (R := fun l H' => Q (.ref l) H') q
/-! f-strings -/
def tJo (ts : List TE) : TE := fun σ H Q => tJs ts Str.empty σ H fun out H1 => Q (.str out) H1
theorem pe_jo {v1 v2 : Expr} {rest : List Expr} {pos : Pos} (h : PJ X (v1 :: v2 :: rest) ts) : PE X (.JoinedStr (v1 :: v2 :: rest) pos) (tJo ts) := pe_joined h
theorem s_jo (h : tJs ts Str.empty σ H fun out H1 => Q (.str out) H1) : tJo ts σ H Q := h
theorem s_js0 (h : q acc H) : tJs [] acc σ H q := h
theorem s_jsC (h : (acc ++ z).length ≤ sizeLine) (k : tJs ts (acc ++ z) σ H q) : tJs (tC (.str z) :: ts) acc σ H q := ⟨z, rfl, h, k⟩
def FmK (ts : List TE) (acc : Str) (σ : L2.St) (q : Str → Hp → Prop) : V → Hp → Prop := fun x H1 => (∃ y : Str, x = .str y ∧ y.length ≤ sizeLine ∧ ∃ y', V.str y = .str y' ∧ (acc ++ y').length ≤ sizeLine ∧ tJs ts (acc ++ y') σ H1 q) ∨
  ∃ i : Int, x = .int i ∧ i.natAbs.log2 < 1920 ∧ ∃ y', V.str (toString i) = .str y' ∧ (acc ++ y').length ≤ sizeLine ∧ tJs ts (acc ++ y') σ H1 q
theorem s_jsF (h : te σ H (FmK ts acc σ q)) : tJs (tFmt te :: ts) acc σ H q := h
theorem s_fmS (h : y.length ≤ sizeLine) (h2 : (acc ++ y).length ≤ sizeLine) (k : tJs ts (acc ++ y) σ H q) : FmK ts acc σ q (.str y) H := Or.inl ⟨y, rfl, h, y, rfl, h2, k⟩
theorem s_fmI (h : n.natAbs.log2 < 1920) (h2 : (acc ++ (toString n : Str)).length ≤ sizeLine) (k : tJs ts (acc ++ (toString n : Str)) σ H q) : FmK ts acc σ q (.int n) H := Or.inr ⟨n, rfl, h, _, rfl, h2, k⟩
/-! tuples of the module's top -/
structure KT (K : PySem.W.Frag) (a : Addr) (xs : List V) : Prop where
  ex : ∃ (o : Obj) (its : Array Value) (n : Nat), K.lookup a = some o ∧ (o.cls = .type "tuple" ∧ o.dict = none) ∧ o.data = .seq its n ∧ its.size ≤ sizeLine ∧ Vals xs its.toList
theorem KT.mk' {a : Addr} {o : Obj} (l : K.lookup a = some o) (h : (o.cls = .type "tuple" ∧ o.dict = none) ∧ ∃ (its : Array Value) (n : Nat), o.data = .seq its n ∧ its.size ≤ sizeLine ∧ Vals xs its.toList) : KT K a xs := by
  obtain ⟨h1, its, n, h2, h3, h4⟩ := h
  exact ⟨o, its, n, l, h1, h2, h3, h4⟩
theorem KT.sq (h : KT K p xs) : SqT K H p xs := by
  obtain ⟨o, its, n, l, h1, h2, h3, h4⟩ := h.ex
  exact Or.inr ⟨o, its, n, l, h1.1, h2, h3, h4⟩
theorem s_ixK (h : KT K p xs) (ha : atI xs n = some v) (q : Q v H) : rIx K (.ref p) (.int n) H Q := Or.inr (Or.inl ⟨p, xs, n, v, rfl, rfl, h.sq, ha, q⟩)
theorem s_tyK {R : Prop} (h : KT K p xs) (q : R) : tyV K "tuple" (.ref p) H ∧ R := by
  obtain ⟨o, its, n, l, h1, h2, h3, h4⟩ := h.ex
  exact ⟨Or.inr (Or.inl ⟨rfl, o, l, h1.1, h1.2⟩), q⟩
def rTIx (K : PySem.W.Frag) : V → List V → Hp → VK → Prop := fun x xs H Q => ∃ p, ∃ ys : List Str, ∃ z j, x = .ref p ∧ xs = [.str z] ∧ SqT K H p (ys.map V.str) ∧ ys[j]? = some z ∧ (∀ m, m < j → ys[m]? ≠ some z) ∧ Q (.int (j : Nat)) H
theorem mt_tix (hK : X.K = K) : MtR X "tuple.index" (rTIx K) := hK ▸ mt_tup_index
theorem s_tix {zs : List Str} {j : Nat} (h : KT K p (zs.map V.str)) (e : zs[j]? = some z) (nd : ∀ m, m < j → zs[m]? ≠ some z) (q : Q (.int (j : Nat)) H) : rTIx K (.ref p) [.str z] H Q := ⟨p, zs, z, j, rfl, rfl, h.sq, e, nd, q⟩
theorem s_ext {l b : Addr} (hl : H l = some (.lst xs)) (hb : H b = some (.lst ys)) (hz : xs.length + ys.length ≤ sizeLine) (q : ∀ H', H' l = some (.lst (xs ++ ys)) → Kp [l] H H' → Q .non H') : rExtend (.ref l) [.ref b] H Q :=
  ⟨l, b, xs, ys, rfl, rfl, hl, hb, hz, put_abs hl rfl (R := fun H' => Q .non H') q⟩
def uIntS : List V → Hp → VK → Prop := fun xs H Q => ∃ a n, xs = [.str a] ∧ PySem.intText? a = some n ∧ a.length ≤ 640 ∧ Q (.int n) H
theorem c_intS : CallR X (.type "int") uIntS := call_int_str
theorem s_intS (e : PySem.intText? z = some n) (h : z.length ≤ 640) (q : Q (.int n) H) : uIntS [.str z] H Q := ⟨z, n, rfl, e, h, q⟩
end
end U

namespace U
open PySem L2 PySem.Spec PyProof.Rows
section
variable {K : PySem.W.Frag} {H : Hp} {Q : VK} {p : Addr} {y : V} {d z : PyData} {ds : List PyData} {j : Nat} {X : Cx} {k : Nat} {ng : Bool}
/-- data in a list of data -/
theorem mt_ixD (hK : X.K = K) (hr : Room k X.A) : MtR X "list.index" (rIndexD K) := hK ▸ mt_indexD (by have := hr.un; omega)
theorem s_ixD (hl : Dn K H (.ref p) (.list ds)) (hy : Dn K H y d) (sl : SeqAt.shaped (.list ds) = true) (sd : SeqAt.shaped d = true) (e : ds[j]? = some z) (ez : PyData.eqv z d = true) (no : ∀ (m : Nat) (z' : PyData), m < j → ds[m]? = some z' → PyData.eqv z' d = false) (q : Q (.int (j : Nat)) H) : rIndexD K (.ref p) [y] H Q :=
  ⟨p, y, d, ds, j, z, rfl, rfl, hl.dp (shp sl), hy.dp (shp sd), sl, sd, e, ez, no, q⟩
theorem s_inD (hl : Dn K H (.ref p) (.list ds)) (hy : Dn K H y d) (sl : SeqAt.shaped (.list ds) = true) (sd : SeqAt.shaped d = true) (q : Q (.bl (ds.any fun z => PyData.eqv z d)) H) : uInX K false y (.ref p) H Q :=
  Or.inr (Or.inr ⟨d, ds, hy.dp (shp sd), hl.dp (shp sl), sd, sl, q⟩)
end
/-! texts are put together -/
theorem sa (a b c : Str) : a ++ b ++ c = a ++ (b ++ c) := Str.ext' (by simp [Str.cps_append])
theorem sj1 (a : Str) : Txt.join " " [a] = a := by rw [tj]; rfl
theorem sj2 (a b : Str) : Txt.join " " [a, b] = a ++ " " ++ b := by rw [tj]; rfl
theorem sj3 (a b c : Str) : Txt.join " " [a, b, c] = a ++ " " ++ (b ++ " " ++ c) := by rw [tj]; rfl
theorem sj4 (a b c d : Str) : Txt.join " " [a, b, c, d] = a ++ " " ++ (b ++ " " ++ (c ++ " " ++ d)) := by rw [tj]; rfl
theorem e_app (a : Str) : Str.empty ++ a = a := Str.ext' (by simp [Str.cps_append, Str.empty])
theorem join_len {a : Str} {ws : List Str} {n : Nat} (h : ∀ w ∈ ws, w.length ≤ n) : (Txt.join a ws).length ≤ ws.length * (n + a.length) := by
  rw [tj]
  refine Nat.le_trans (StrLaws.join_length_le a ws) ?_
  have : (ws.map (·.length)).sum ≤ ws.length * n := by
    induction ws with
    | nil => simp
    | cons w ws ih =>
      have h1 := h w List.mem_cons_self
      have h2 := ih fun x hx => h x (List.mem_cons_of_mem _ hx)
      rw [List.map_cons, List.sum_cons, List.length_cons, Nat.succ_mul]
      omega
  rw [Nat.mul_add]
  omega
theorem join_mem {c : Nat} {a : Str} : ∀ {ws : List Str}, c ∈ (Txt.join a ws).cps.toList → c ∈ a.cps.toList ∨ ∃ w ∈ ws, c ∈ w.cps.toList
  | [], h => by rw [tj] at h; simp [Str.join, Str.empty] at h
  | [w], h => by rw [tj] at h; exact Or.inr ⟨w, List.mem_cons_self, h⟩
  | w :: v :: r, h => by
    have e : Txt.join a (w :: v :: r) = w ++ a ++ Txt.join a (v :: r) := by rw [tj, tj]; rfl
    rw [e, Str.cps_append, Str.cps_append, Array.toList_append, Array.toList_append, List.mem_append, List.mem_append] at h
    rcases h with (h | h) | h
    · exact Or.inr ⟨w, List.mem_cons_self, h⟩
    · exact Or.inl h
    · rcases join_mem h with h | ⟨x, hx, h⟩
      · exact Or.inl h
      · exact Or.inr ⟨x, List.mem_cons_of_mem _ hx, h⟩
/-- what is said of a class whose instances isinstance is asked of -/
structure IsC (K : PySem.W.Frag) (C : Addr) : Prop where
  cl : Cls K C
  ha : PySem.W.findIn K (.ref C) "__class__" = some (some (.builtin "object.__class__"))
  hn : PySem.W.specialIn K (.builtin "object.__class__") "__get__" = some (some (.builtin "getset_descriptor.__get__"))
  tk : PySem.W.takesIn K (.builtin "object.__class__") = some true
  hm : PySem.W.mroIn K C (.type "object") = some true
theorem s_isO {K : PySem.W.Frag} {H : Hp} {Q : VK} {p C C2 dx : Addr} {fs : List (Str × V)} {b : Bool} (h : H p = some (.ins C dx fs)) (c : IsC K C) (ki : PySem.W.kitOne K (.ref C) (.ref C2) = some b) (q : Q (.bl b) H) : rIsi K [.ref p, .ref C2] H Q :=
  ⟨.ref p, .ref C2, .ref C, .ref C2, b, rfl, .own C2, .base (.ins h c.cl c.ha c.hn c.tk c.hm), ki, q⟩
section
variable {X : Cx} {K : PySem.W.Frag} {T id : String} {name : Str} {r : V → List V → Hp → VK → Prop} {o e : Expr} {es : List Expr} {to : TE} {t : TA} {apos cpos : Pos}
theorem pe_bmK (hK : X.K = K) (pa : PlainAttrs T) (slot : Slot T name id) (hty : typeOf (.builtin id) = pure (.type "method_descriptor")) (hm : MtR X id r) (ho : PE X o to) (ha : PA X (e :: es) t)
    (hbase : attributeBase o name X.env (eval o X.env) = eval o X.env := by rfl)
    (hfew : ((backTo cpos (starEach (e :: es) X.env)).all (fun x => !x.1) && (backToKw cpos (keywordEach [] X.env)).all (fun x => x.1.isSome)
      && decide ((e :: es).length + ([] : List Keyword).length + (if ([] : List Keyword).isEmpty then 0 else 1) < 30)) = true := by rfl)
    (hline : (apos.endLine == cpos.line) = true := by rfl) (hs : starEach (e :: es) X.env = (false, eval e X.env) :: starEach es X.env := by rfl) (hplain : (backTo cpos (starEach es X.env)).any (·.1) = false := by rfl) :
    PE X (.Call (.Attribute o name apos) (e :: es) [] cpos) (tBM K T r to t) := hK ▸ pe_bm pa slot hty hm ho ha hbase hfew hline hs hplain
theorem pe_bm0K (hK : X.K = K) (pa : PlainAttrs T) (slot : Slot T name id) (hty : typeOf (.builtin id) = pure (.type "method_descriptor")) (hm : MtR X id r) (ho : PE X o to)
    (hbase : attributeBase o name X.env (eval o X.env) = eval o X.env := by rfl) (hline : (apos.endLine == cpos.line) = true := by rfl) : PE X (.Call (.Attribute o name apos) [] [] cpos) (tBM0 K T r to) := hK ▸ pe_bm0 pa slot hty hm ho hbase hline
end
end U

namespace U
open PySem L2 PySem.Spec PyProof.Rows
/-! zip of lists and tuples in any mix (true: a tuple) -/
def SqB (K : PySem.W.Frag) (b : Bool) (H : Hp) (a : Addr) (xs : List V) : Prop := match b with
  | false => SqL K H a xs
  | true => SqT K H a xs
def IterB (b : Bool) (h : Heap) (i a : Addr) (n : Nat) : Prop := match b with
  | false => h.IsListIter i a n
  | true => h.IsTupleIter i a n
def IsB (b : Bool) (h : Heap) (a : Addr) (its : Array Value) : Prop := match b with
  | false => h.IsList a its
  | true => h.IsTuple a its
def oB (b : Bool) (a : Addr) : Obj := match b with
  | false => { cls := .type "list_iterator", data := .fields #[.ref a, .int 0 0] }
  | true => { cls := .type "tuple_iterator", data := .fields #[.ref a, .int 0 0] }
theorem beginsB (b : Bool) (a : Addr) (its : Array Value) : Begins (.ref a) (oB b a) fun h => IsB b h a its := by
  cases b
  · exact begins_list a its
  · exact begins_tuple a its
theorem iterB0 {b : Bool} {h : Heap} {i a : Addr} (e : h.get? i = some (oB b a)) : IterB b h i a 0 := by
  cases b
  · exact ⟨_, e, rfl, rfl⟩
  · exact ⟨_, e, rfl, rfl⟩
theorem drawsB {prog : Program} {w : World} {A : Around} (b : Bool) (hh : A.handled = none) (it l : Addr) (hne : l ≠ it) (its : Array Value) :
    Draws prog w A it [it, l] its.size (fun i v => its[i]? = some v) (fun i h => IterB b h it l i ∧ IsB b h l its) := by
  cases b
  · exact Draws.list hh it l hne its
  · exact Draws.tuple hh it l hne its
theorem IterB.obj {b : Bool} {h : Heap} {i a : Addr} {n : Nat} (x : IterB b h i a n) : ∃ o, h.get? i = some o ∧ o.data = .fields #[.ref a, .int n 0] := by
  cases b
  · obtain ⟨o, e, _, d⟩ := x; exact ⟨o, e, d⟩
  · obtain ⟨o, e, _, d⟩ := x; exact ⟨o, e, d⟩
theorem IterB.at {b : Bool} {h h' : Heap} {i a : Addr} {n : Nat} (x : IterB b h i a n) (k : ∀ o, h.get? i = some o → h'.get? i = some o) : IterB b h' i a n := by
  cases b
  · obtain ⟨o, e, c⟩ := x; exact ⟨o, k o e, c⟩
  · obtain ⟨o, e, c⟩ := x; exact ⟨o, k o e, c⟩
theorem IsB.lt {b : Bool} {h : Heap} {a : Addr} {its : Array Value} (x : IsB b h a its) : a < h.objs.size := by
  cases b
  · obtain ⟨o, e, _⟩ := x; exact Heap.lt_size e
  · obtain ⟨o, e, _⟩ := x; exact Heap.lt_size e
section
variable {X : Cx} {pins : List (Addr × Obj)} {σ : L2.St} {H : Hp} {s : Shared}
theorem seqB {b : Bool} {a : Addr} {xs : List V} (I : Inv X pins σ H s) (h : SqB X.K b H a xs) : ∃ its, Vals xs its ∧ IsB b s.heap a its.toArray := by
  cases b
  · obtain ⟨its, rv, p, _⟩ := I.list h; exact ⟨its, rv, p.isList⟩
  · obtain ⟨its, rv, p, _⟩ := I.tuple h; exact ⟨its, rv, p⟩
theorem seqB_inj {b : Bool} {a : Addr} {xs ys : List V} (I : Inv X pins σ H s) (h : SqB X.K b H a xs) (g : SqB X.K b H a ys) : xs = ys := by
  cases b
  · exact I.list_inj h g
  · exact I.tuple_inj h g
end
def ItzB (K : PySem.W.Frag) (b1 b2 : Bool) (a b : Addr) : It :=
  ⟨fun i H => ∃ (xs ys : List V) (x y : V), SqB K b1 H a xs ∧ SqB K b2 H b ys ∧ xs[i]? = some x ∧ ys[i]? = some y,
    fun i H v H' => ∃ T x y, v = .ref T ∧ H T = none ∧ H' = upd H T (.tup [x, y]) ∧ (∀ xs, SqB K b1 H a xs → xs[i]? = some x) ∧ ∀ ys, SqB K b2 H b ys → ys[i]? = some y,
    fun i H => ∃ xs ys : List V, SqB K b1 H a xs ∧ SqB K b2 H b ys ∧ i ≤ xs.length ∧ i ≤ ys.length ∧ (xs.length ≤ i ∨ ys.length ≤ i)⟩
theorem sep_of {z TI TO i1 i2 a b : Addr} (D : ZipApart z TI TO i1 i2 a b) : ZipSep2 z TI TO i1 i2 [i1, a] [i2, b] where
  TIz := D.TIz
  TOz := D.TOz
  TITO := D.TITO
  TIi1 := D.TIi1
  mem1 := by simp
  zf1 := by simp; exact ⟨D.i1z.symm, D.l1z.symm⟩
  Tf1 := by simp; exact ⟨D.TOi1, D.l1TO.symm⟩
  TIi2 := D.TIi2
  mem2 := by simp
  zf2 := by simp; exact ⟨D.i2z.symm, D.l2z.symm⟩
  Tf2 := by simp; exact ⟨D.TOi2, D.l2TO.symm⟩
  sep1_2 := by simp; exact ⟨D.i12, D.l2i1.symm⟩
  sep2_1 := by simp; exact ⟨D.i12.symm, D.l1i2.symm⟩
theorem turn_zipB {P : Program} {w : World} {K : PySem.W.Frag} {elts : List Expr} {kk : Nat} {tpos : Pos} {b1 b2 : Bool} {a b z TI TO i1 i2 : Addr} (D : ZipApart z TI TO i1 i2 a b) :
    Turn P w K (.Tuple elts kk tpos) (ItzB K b1 b2 a b) [z, TI, TO, i1, i2] z (fun i h => IsZip h z TI TO .none ∧ IsTupOf2 h TI (.ref i1) (.ref i2) ∧ (∃ x y, IsTupOf2 h TO x y) ∧ IterB b1 h i1 a i ∧ IterB b2 h i2 b i) where
  mem := by simp
  obj := fun i h st c hc => by
    obtain ⟨hz, hTI, ⟨x, y, hTO⟩, h1, h2⟩ := st
    obtain ⟨o1, e1, d1⟩ := h1.obj
    obtain ⟨o2, e2, d2⟩ := h2.obj
    have e' : c = z ∨ c = TI ∨ c = TO ∨ c = i1 ∨ c = i2 := by simpa using hc
    rcases e' with q | q | q | q | q
    · rw [q]; exact ⟨_, hz, fun v q => nomatch q⟩
    · rw [q]; exact ⟨_, hTI, fun v q => nomatch q⟩
    · rw [q]; exact ⟨_, hTO, fun v q => nomatch q⟩
    · rw [q]; exact ⟨o1, e1, fun v q => by rw [d1] at q; cases q⟩
    · rw [q]; exact ⟨o2, e2, fun v q => by rw [d2] at q; cases q⟩
  keep := fun i h h' st k => by
    obtain ⟨hz, hTI, ⟨x, y, hTO⟩, h1, h2⟩ := st
    exact ⟨k z (by simp) _ hz, k TI (by simp) _ hTI, ⟨x, y, k TO (by simp) _ hTO⟩, h1.at fun o q => k i1 (by simp) o q, h2.at fun o q => k i2 (by simp) o q⟩
  item := by
    intro X hP hw hK hc i pins s σ H E I hf st hg
    subst hP hw hK
    obtain ⟨hz, hTI, ⟨x0, y0, hTO⟩, h1, h2⟩ := st
    obtain ⟨xs, ys, x, y, hqx, hqy, hx, hy⟩ := hg
    obtain ⟨its, rv, p⟩ := seqB I hqx
    obtain ⟨its2, rv2, p2⟩ := seqB I hqy
    obtain ⟨u, hu, ru⟩ := rv.get hx
    obtain ⟨u2, hu2, ru2⟩ := rv2.get hy
    have hzl : z < s.heap.objs.size := Heap.lt_size hz
    have hh : X.A.in1.handled = none := I.ok.hd hc
    refine wpAny_pyNext_zipD2_item (sep_of D) (drawsB b1 hh i1 a D.l1i1 its.toArray) (drawsB b2 hh i2 b D.l2i2 its2.toArray) hz hTI hTO ⟨h1, p⟩ ⟨h2, p2⟩
      (by rw [List.size_toArray]; exact (List.getElem?_eq_some_iff.mp hu).1) (by rw [List.size_toArray]; exact (List.getElem?_eq_some_iff.mp hu2).1) fun x1 x2 h' tk hP1 hP2 z' TO' s1' s2' hT hsz hk => ?_
    have ex1 : x1 = u := by
      have hP' : its.toArray[i]? = some x1 := hP1
      rw [List.getElem?_toArray, hu] at hP'
      exact (Option.some.inj hP').symm
    have ex2 : x2 = u2 := by
      have hP' : its2.toArray[i]? = some x2 := hP2
      rw [List.getElem?_toArray, hu2] at hP'
      exact (Option.some.inj hP').symm
    subst ex1 ex2
    obtain ⟨h1', _⟩ := s1'
    obtain ⟨h2', _⟩ := s2'
    refine ⟨_, rfl, wpAny_letOwnedTupleGo_zip (s := { s with heap := h', toks := tk }) z' fun h'' z'' sb => ?_⟩
    have hT2 : h''.get? s.heap.objs.size = some { cls := .type "tuple", data := .seq #[x1, x2] } := (sb.2 _ (Nat.ne_of_gt hzl)).trans hT
    have new : ObjOk X.prog X.w (upd H s.heap.objs.size (.tup [x, y])) h'' s.heap.objs.size (.tup [x, y]) :=
      ⟨by show 2 ≤ sizeLine; decide, [x1, x2], .cons ru (.cons ru2 .nil), ⟨_, hT2, rfl, _, rfl⟩⟩
    have I1 : Inv X pins σ (upd H s.heap.objs.size (.tup [x, y])) { s with heap := h'', toks := tk } :=
      I.turnedNew (t' := tk) (ch := [z, TI, TO, i1, i2]) (fun c o hb q => (sb.2 c (fun q' => hb (by simp [q']))).trans (hk c o (fun q' => hb (by simp [q'])) (fun q' => hb (by simp [q'])) (fun q' => hb (by simp [q'])) (fun q' => hb (by simp [q'])) q)) hf (Nat.le_refl _) new
    refine ⟨.ref s.heap.objs.size, _, I1, rfl, ⟨_, x, y, rfl, I.hok.fresh (Nat.le_refl _), rfl, fun l hl => by rw [seqB_inj I hl hqx]; exact hx, fun l hl => by rw [seqB_inj I hl hqy]; exact hy⟩, ⟨z'', ?_, ⟨x1, x2, ?_⟩, ?_, ?_⟩, fun c hcm => ?_⟩
    · exact (sb.2 _ D.TIz).trans (hk _ _ D.TIz D.TITO D.TIi1 D.TIi2 hTI)
    · exact (sb.2 _ D.TOz).trans TO'
    · exact h1'.at fun o q => (sb.2 _ D.i1z).trans q
    · exact h2'.at fun o q => (sb.2 _ D.i2z).trans q
    · have hlt : c < s.heap.objs.size := by
        obtain ⟨o1, e1, _⟩ := h1.obj
        obtain ⟨o2, e2, _⟩ := h2.obj
        have e' : c = z ∨ c = TI ∨ c = TO ∨ c = i1 ∨ c = i2 := by simpa using hcm
        rcases e' with q | q | q | q | q
        · rw [q]; exact hzl
        · rw [q]; exact Heap.lt_size hTI
        · rw [q]; exact Heap.lt_size hTO
        · rw [q]; exact Heap.lt_size e1
        · rw [q]; exact Heap.lt_size e2
      rw [upd_ne (Nat.ne_of_lt hlt)]
      exact (hf c hcm).1
  done := by
    intro X hP hw hK hc i pins s σ H E I hf st hg
    subst hP hw hK
    obtain ⟨hz, hTI, ⟨x0, y0, hTO⟩, h1, h2⟩ := st
    obtain ⟨xs, ys, hqx, hqy, hle1, hle2, hend⟩ := hg
    obtain ⟨its, rv, p⟩ := seqB I hqx
    obtain ⟨its2, rv2, p2⟩ := seqB I hqy
    have l1 := rv.length
    have l2 := rv2.length
    have hh : X.A.in1.handled = none := I.ok.hd hc
    exact wpAny_pyNext_zipD2_end (sep_of D) (drawsB b1 hh i1 a D.l1i1 its.toArray) (drawsB b2 hh i2 b D.l2i2 its2.toArray) hz hTI hTO ⟨h1, p⟩ ⟨h2, p2⟩ (by simp; omega) (by simp; omega) (by simp; omega) fun h' tk hk =>
      ⟨rfl, I.turnedL (t' := tk) (ch := [z, TI, TO, i1, i2]) (fun c o hb q => hk c o (fun q' => hb (by simp [q'])) (fun q' => hb (by simp [q'])) (fun q' => hb (by simp [q'])) (fun q' => hb (by simp [q'])) q) hf⟩
  self := fun A i s Q E st h => wpAny_pyIter_zip st.1 h
def iZipB (K : PySem.W.Frag) (ta : TA) : TI := fun σ H R => ta σ H fun vs H1 => ∃ a b b1 b2 xs ys, vs = [.ref a, .ref b] ∧ SqB K b1 H1 a xs ∧ SqB K b2 H1 b ys ∧ R (ItzB K b1 b2 a b) H1
theorem pi_zipB {X : Cx} {K : PySem.W.Frag} {e e2 : Expr} {ta : TA} {p pos tpos : Pos} {elts : List Expr} {kk : Nat} (hK : X.K = K) (hg : Gl X "zip") (hm : X.mg "zip" = none) (ha : PA X [e, e2] ta)
    (hs : starEach [e, e2] X.env = (false, eval e X.env) :: starEach [e2] X.env := by rfl) (hpl : (backTo pos (starEach [e2] X.env)).any (·.1) = false := by rfl) :
    PI X (.Tuple elts kk tpos) (.Call (.Name "zip" p) [e, e2] [] pos) (iZipB K ta) := by
  subst hK
  refine ⟨fun pins s σ H R I h => ?_⟩
  refine Call_ (ld_blt I hg hm PyProof.Rows.boot_zip (PyProof.Rows.callWith_type1 (thn (ha.run pos pins s σ H _ I h) fun us s1 ⟨vs, H1, I1, r1, q1⟩ => ?_) hs hpl))
  obtain ⟨a, b, b1, b2, xs, ys, ex, hqx, hqy, q⟩ := q1
  subst ex
  cases r1 with
  | cons r rr =>
    cases rr with
    | cons r' rr =>
      cases rr
      cases r
      cases r'
      have fresh5 : ∀ c, c ∈ [s1.heap.objs.size + 4, s1.heap.objs.size + 2, s1.heap.objs.size + 3, s1.heap.objs.size, s1.heap.objs.size + 1] → FpOk X pins H1 c := fun c hcm => by
        have e' : c = s1.heap.objs.size + 4 ∨ c = s1.heap.objs.size + 2 ∨ c = s1.heap.objs.size + 3 ∨ c = s1.heap.objs.size ∨ c = s1.heap.objs.size + 1 := by simpa using hcm
        have hle : s1.heap.objs.size ≤ c := by
          rcases e' with z | z | z | z | z
          · rw [z]; exact Nat.le_add_right _ _
          · rw [z]; exact Nat.le_add_right _ _
          · rw [z]; exact Nat.le_add_right _ _
          · rw [z]; exact Nat.le_refl _
          · rw [z]; exact Nat.le_add_right _ _
        exact I1.fpOk hle (I1.hok.fresh hle)
      obtain ⟨its, rv, p1⟩ := seqB I1 hqx
      obtain ⟨its2, rv2, p2⟩ := seqB I1 hqy
      refine zip_begins2 (beginsB b1 a its.toArray) (beginsB b2 b its2.toArray) p1 p2 fun h' hz hTI hTO h1 h2 hsz hk => wpAny_pyIter_zip hz ?_
      have I2 : Inv X pins σ H1 { s1 with heap := h' } := I1.kept (t' := s1.toks) hk
      exact ⟨s1.heap.objs.size + 4, [s1.heap.objs.size + 4, s1.heap.objs.size + 2, s1.heap.objs.size + 3, s1.heap.objs.size, s1.heap.objs.size + 1], _, _, H1, rfl, I2, turn_zipB (PySem.W.ktu_apart s1.heap.objs.size a b p1.lt p2.lt), ⟨hz, hTI, ⟨_, _, hTO⟩, iterB0 h1, iterB0 h2⟩, fresh5, q⟩
theorem walk_zipB {K : PySem.W.Frag} {b1 b2 : Bool} {a b : Addr} {xs ys : List V} {n : Nat} (hn : n = min xs.length ys.length) : Walk (ItzB K b1 b2 a b) n (fun H => SqB K b1 H a xs ∧ SqB K b2 H b ys) (YPair (fun i => xs[i]?) (fun i => ys[i]?)) := by
  subst hn
  refine ⟨fun i _ hi q => ?_, fun _ q => ⟨xs, ys, q.1, q.2, by omega, by omega, by omega⟩, fun i H v H' _ q y => ?_⟩
  · have h1 : i < xs.length := by omega
    have h2 : i < ys.length := by omega
    exact ⟨xs, ys, xs[i], ys[i], q.1, q.2, by simp [h1], by simp [h2]⟩
  · obtain ⟨T, x, z, h1, h2, h3, h4, h5⟩ := y
    exact ⟨T, x, z, h1, h2, h3, h4 xs q.1, h5 ys q.2⟩
end U

namespace U
open PySem L2 PySem.Spec PyProof.Rows
section
variable {K : PySem.W.Frag} {σ : L2.St} {H : Hp} {a b A : Addr} {b1 b2 : Bool} {vs xs ys : List V} {g : TG} {tb : TS} {D : Ends} {R : It → Hp → Prop} {ta : TA} {tl : TE}
variable {tt : TT} {te : TE} {ns : List Nat} {Qd : Hp → Prop} {n : Nat}
/-! zip -/
theorem for_zB (hn : n = min xs.length ys.length) (Pv : Nat → L2.St → Hp → Prop) (h0 : Pv 0 σ H) (hG : ∀ i σ' H', Pv i σ' H' → SqB K b1 H' a xs ∧ SqB K b2 H' b ys)
    (hs : ∀ i x y σ' H' T H2, xs[i]? = some x → ys[i]? = some y → Pv i σ' H' → H' T = none → H2 T = some (.tup [x, y]) → Kp [] H' H2 → g (.ref T) σ' H2 fun σ2 H3 => tb { D with nx := Pv (i + 1), ct := Pv (i + 1), bk := D.nx } σ2 H3) (hd : ∀ σ' H', Pv n σ' H' → D.nx σ' H') :
    ∃ W : Nat → Nat → L2.St → Hp → Prop, (∃ m, W 0 m σ H) ∧ ∀ i m σ H, W i m σ H →
      ((ItzB K b1 b2 a b).stop i H ∧ D.nx σ H) ∨ ((ItzB K b1 b2 a b).go i H ∧ ∃ N : L2.St → Hp → Prop, (∀ σ' H', N σ' H' → ∃ m', m' < m ∧ W (i + 1) m' σ' H') ∧ ∀ x H', (ItzB K b1 b2 a b).yld i H x H' → g x σ H' fun σ2 H2 => tb { D with nx := N, ct := N, bk := D.nx } σ2 H2) :=
  for_it (walk_zipB hn) Pv h0 (fun i σ' H' _ p => hG i σ' H' p) (fun i x σ' H1 H2 hi p y => by
    obtain ⟨T, x1, x2, rfl, f, rfl, e1, e2⟩ := y
    exact hs i x1 x2 σ' H1 T _ e1 e2 p f upd_same (Kp.refl.new f)) hd
theorem lc_zB (hn : n = min xs.length ys.length) (hA : H A = none) (Pv : Nat → List V → Hp → Prop) (h0 : ∀ H', H' A = some (.lst []) → Kp [] H H' → Pv 0 [] H') (hG : ∀ i acc H', H' A = some (.lst acc) → Pv i acc H' → SqB K b1 H' a xs ∧ SqB K b2 H' b ys)
    (hs : ∀ i x y acc H' T H2, xs[i]? = some x → ys[i]? = some y → H' A = some (.lst acc) → Pv i acc H' → H' T = none → H2 T = some (.tup [x, y]) → Kp [] H' H2 → g (.ref T) (wipe σ ns) H2 fun σ2 H2 => wipe σ2 ns = wipe σ ns ∧ tt σ2 H2 fun b H3 =>
      if b = true then te σ2 H3 fun y H4 => ∃ acc, H4 A = some (.lst acc) ∧ acc.length < sizeLine ∧ PvD A Pv (i + 1) (upd H4 A (.lst (acc ++ [y]))) else PvD A Pv (i + 1) H3) (hd : ∀ acc H', H' A = some (.lst acc) → Pv n acc H' → Qd H') :
    ∃ W : Nat → Nat → Hp → Prop, (∃ m, W 0 m (upd H A (.lst []))) ∧ ∀ i m H, W i m H →
      ((ItzB K b1 b2 a b).stop i H ∧ Qd H) ∨ ((ItzB K b1 b2 a b).go i H ∧ ∃ Nx : Hp → Prop, (∀ H', Nx H' → ∃ m', m' < m ∧ W (i + 1) m' H') ∧ ∀ x H', (ItzB K b1 b2 a b).yld i H x H' → g x (wipe σ ns) H' fun σ2 H2 => wipe σ2 ns = wipe σ ns ∧ tt σ2 H2 fun b H3 =>
        if b = true then te σ2 H3 fun y H4 => ∃ acc, H4 A = some (.lst acc) ∧ acc.length < sizeLine ∧ Nx (upd H4 A (.lst (acc ++ [y]))) else Nx H3) :=
  lc_it (walk_zipB hn) (PvD A Pv) (PvD.begin hA h0) (fun i H' _ p => by
    obtain ⟨acc, ea, p⟩ := p
    exact hG i acc H' ea p) (fun i x H1 H2 hi p y => by
    obtain ⟨T, x1, x2, rfl, f, rfl, e1, e2⟩ := y
    obtain ⟨acc, ea, p⟩ := p
    exact hs i x1 x2 acc H1 T _ e1 e2 ea p f upd_same (Kp.refl.new f)) (fun H' p => by
    obtain ⟨acc, ea, p⟩ := p
    exact hd acc H' ea p)
theorem s_izB (h : ta σ H fun vs H1 => ∃ a b b1 b2 xs ys, vs = [.ref a, .ref b] ∧ SqB K b1 H1 a xs ∧ SqB K b2 H1 b ys ∧ R (ItzB K b1 b2 a b) H1) : iZipB K ta σ H R := h
theorem s_zB {S : Addr → Addr → Bool → Bool → Prop} (b1 b2 : Bool) (xs ys : List V) (h1 : SqB K b1 H a xs) (h2 : SqB K b2 H b ys) (q : S a b b1 b2) : ∃ a' b' b1 b2 xs ys, [V.ref a, V.ref b] = [.ref a', .ref b'] ∧ SqB K b1 H a' xs ∧ SqB K b2 H b' ys ∧ S a' b' b1 b2 := ⟨a, b, b1, b2, xs, ys, rfl, h1, h2, q⟩
theorem sqb_L (h : H a = some (.lst xs)) : SqB K false H a xs := SqL.of h
theorem sqb_T (h : H a = some (.tup xs)) : SqB K true H a xs := SqT.of h
theorem sqb_K (h : KT K a xs) : SqB K true H a xs := h.sq
/-! walks over tuples of the module -/
theorem s_itK {S : Addr → Prop} (h : KT K a xs) (q : S a) : ∃ a', V.ref a = .ref a' ∧ (∃ xs, SqT K H a' xs) ∧ S a' := ⟨a, rfl, ⟨xs, h.sq⟩, q⟩
theorem for_K (e : KT K a vs) (Pv : Nat → L2.St → Hp → Prop) (h0 : Pv 0 σ H)
    (hs : ∀ i x σ' H', vs[i]? = some x → Pv i σ' H' → g x σ' H' fun σ2 H2 => tb { D with nx := Pv (i + 1), ct := Pv (i + 1), bk := D.nx } σ2 H2) (hd : ∀ σ' H', Pv vs.length σ' H' → D.nx σ' H') :
    ∃ W : Nat → Nat → L2.St → Hp → Prop, (∃ m, W 0 m σ H) ∧ ∀ i m σ H, W i m σ H →
      ((Itt K a).stop i H ∧ D.nx σ H) ∨ ((Itt K a).go i H ∧ ∃ N : L2.St → Hp → Prop, (∀ σ' H', N σ' H' → ∃ m', m' < m ∧ W (i + 1) m' σ' H') ∧ ∀ x H', (Itt K a).yld i H x H' → g x σ H' fun σ2 H2 => tb { D with nx := N, ct := N, bk := D.nx } σ2 H2) :=
  for_it (walk_tup (xs := vs)) Pv h0 (fun i σ' H' _ p => e.sq) (fun i x σ' H1 H2 hi p y => by
    obtain ⟨rfl, ex⟩ := y
    exact hs i x σ' H2 ex p) hd
theorem lc_K (e : KT K a vs) (hA : H A = none) (Pv : Nat → List V → Hp → Prop) (h0 : ∀ H', H' A = some (.lst []) → Kp [] H H' → Pv 0 [] H')
    (hs : ∀ i x acc H', vs[i]? = some x → H' A = some (.lst acc) → Pv i acc H' → g x (wipe σ ns) H' fun σ2 H2 => wipe σ2 ns = wipe σ ns ∧ tt σ2 H2 fun b H3 =>
      if b = true then te σ2 H3 fun y H4 => ∃ acc, H4 A = some (.lst acc) ∧ acc.length < sizeLine ∧ PvD A Pv (i + 1) (upd H4 A (.lst (acc ++ [y]))) else PvD A Pv (i + 1) H3) (hd : ∀ acc H', H' A = some (.lst acc) → Pv vs.length acc H' → Qd H') :
    ∃ W : Nat → Nat → Hp → Prop, (∃ m, W 0 m (upd H A (.lst []))) ∧ ∀ i m H, W i m H →
      ((Itt K a).stop i H ∧ Qd H) ∨ ((Itt K a).go i H ∧ ∃ Nx : Hp → Prop, (∀ H', Nx H' → ∃ m', m' < m ∧ W (i + 1) m' H') ∧ ∀ x H', (Itt K a).yld i H x H' → g x (wipe σ ns) H' fun σ2 H2 => wipe σ2 ns = wipe σ ns ∧ tt σ2 H2 fun b H3 =>
        if b = true then te σ2 H3 fun y H4 => ∃ acc, H4 A = some (.lst acc) ∧ acc.length < sizeLine ∧ Nx (upd H4 A (.lst (acc ++ [y]))) else Nx H3) :=
  lc_it (walk_tup (xs := vs)) (PvD A Pv) (PvD.begin hA h0) (fun i H' _ p => e.sq) (fun i x H1 H2 hi p y => by
    obtain ⟨rfl, ex⟩ := y
    obtain ⟨acc, ea, p⟩ := p
    exact hs i x acc H2 ex ea p) (fun H' p => by
    obtain ⟨acc, ea, p⟩ := p
    exact hd acc H' ea p)
end
/-! written dicts of the module: texts to tuples of texts -/
structure KF (K : PySem.W.Frag) (w : World) (a : Addr) (f : Str → Option (List Str)) : Prop where
  ex : ∃ es n, KDict K w a es n
  hit : ∀ z xs, f z = some xs → ∃ t, PySem.W.nsIn K a z = some (some (.ref t)) ∧ KT K t (xs.map V.str)
  miss : ∀ z, f z = none → PySem.W.nsIn K a z = some none
def lk (l : List (Str × List Str)) (z : Str) : Option (List Str) := (l.find? fun p => p.1 == z).map Prod.snd
def Ents (K : PySem.W.Frag) (P : Params) : List DictEntry → List (Str × List Str) → Prop
  | [], [] => True
  | e :: r, kx :: s => ((∃ tk, e.key = .str kx.1 tk) ∧ e.hash = PyData.keyHash P kx.1 ∧ ∃ t, e.val = .ref t ∧ KT K t (kx.2.map V.str)) ∧ Ents K P r s
  | _, _ => False
theorem Ents.nil {K : PySem.W.Frag} {P : Params} : Ents K P [] [] := trivial
theorem Ents.cons {K : PySem.W.Frag} {P : Params} {e : DictEntry} {r : List DictEntry} {k : Str} {xs : List Str} {s : List (Str × List Str)} {t : Addr} (h1 : ∃ tk, e.key = .str k tk) (h2 : e.hash = PyData.keyHash P k) (h3 : e.val = .ref t) (h4 : KT K t (xs.map V.str)) (h5 : Ents K P r s) : Ents K P (e :: r) ((k, xs) :: s) :=
  ⟨⟨h1, h2, t, h3, h4⟩, h5⟩
theorem Ents.lit {K : PySem.W.Frag} {P : Params} : ∀ {es : List DictEntry} {l : List (Str × List Str)}, Ents K P es l → PySem.W.KeysLit P es
  | [], _, _ => trivial
  | _ :: _, [], h => h.elim
  | e :: r, kx :: s, ⟨⟨⟨tk, h1⟩, h2, _⟩, h3⟩ => ⟨⟨kx.1, tk, h1, h2⟩, Ents.lit h3⟩
theorem Ents.noref {K : PySem.W.Frag} {P : Params} : ∀ {es : List DictEntry} {l : List (Str × List Str)}, Ents K P es l → es.any (·.refKey) = false
  | [], _, _ => rfl
  | _ :: _, [], h => h.elim
  | e :: r, kx :: s, ⟨⟨⟨tk, h1⟩, h2, _⟩, h3⟩ => by
    rw [List.any_cons, Ents.noref h3, Bool.or_false]
    unfold DictEntry.refKey
    rw [h1]
theorem Ents.find {K : PySem.W.Frag} {P : Params} (z : Str) : ∀ {es : List DictEntry} {l : List (Str × List Str)}, Ents K P es l → match lk l z with
    | none => es.find? (·.key.isStr z) = none
    | some xs => ∃ e t, es.find? (·.key.isStr z) = some e ∧ e.val = .ref t ∧ KT K t (xs.map V.str)
  | [], [], _ => rfl
  | [], _ :: _, h => h.elim
  | _ :: _, [], h => h.elim
  | e :: r, kx :: s, ⟨⟨⟨tk, h1⟩, h2, t, h4, h5⟩, h3⟩ => by
    have hs : e.key.isStr z = (kx.1 == z) := by rw [h1]; rfl
    have ih := Ents.find z h3
    unfold lk at ih ⊢
    cases hb : (kx.1 == z) with
    | true =>
      rw [List.find?_cons_of_pos (by exact hb)]
      exact ⟨e, t, by rw [List.find?_cons_of_pos (by rw [hs]; exact hb)], h4, h5⟩
    | false =>
      rw [List.find?_cons_of_neg (by rw [hb]; simp), List.find?_cons_of_neg (by rw [hs, hb]; simp)]
      exact ih
theorem KF.mk' {K : PySem.W.Frag} {w : World} {a : Addr} {l : List (Str × List Str)} {es : Array DictEntry} {n : Nat} (hl : K.lookup a = some ⟨.type "dict", none, .dict es n, #[]⟩) (low : (a == sysModules) = false) (h : Ents K w.params es.toList l) : KF K w a (lk l) := by
  refine ⟨⟨es, n, hl, h.lit, low⟩, fun z xs e => ?_, fun z e => ?_⟩
  · have f := h.find z
    rw [e] at f
    obtain ⟨d, t, f1, f2, f3⟩ := f
    refine ⟨t, ?_, f3⟩
    unfold PySem.W.nsIn
    rw [hl]
    dsimp only
    rw [f1]
    dsimp only
    rw [f2]
  · have f := h.find z
    rw [e] at f
    unfold PySem.W.nsIn
    rw [hl]
    dsimp only
    rw [f]
    dsimp only
    rw [h.noref]
    rfl
def rInF (K : PySem.W.Frag) (w : World) (ng : Bool) : R2 := fun x y H Q => ∃ (d : Addr) (es : Array DictEntry) (n : Nat) (z : Str) (r : Option Value), x = .str z ∧ y = .ref d ∧ KDict K w d es n ∧ PySem.W.nsIn K d z = some r ∧ Q (.bl (xor ng r.isSome)) H
section
variable {X : Cx} {K : PySem.W.Frag} {w : World} {H : Hp} {Q : VK} {d : Addr} {f : Str → Option (List Str)} {z : Str} {xs : List Str}
theorem o_inF (hK : X.K = K) (hw : X.w = w) : OpR X (compareOp .In) (rInF K w false) := by
  subst hK hw
  intro pins s σ H x y v u Q I rx ry h
  obtain ⟨d, es, n, z, r, rfl, rfl, D, e, q⟩ := h
  exact op_in_kd D pins s σ H _ _ v u Q I rx ry ⟨z, r, rfl, rfl, e, by simpa using q⟩
theorem o_notinF (hK : X.K = K) (hw : X.w = w) : OpR X (compareOp .NotIn) (rInF K w true) := by
  subst hK hw
  intro pins s σ H x y v u Q I rx ry h
  obtain ⟨d, es, n, z, r, rfl, rfl, D, e, q⟩ := h
  exact op_notIn_kd D pins s σ H _ _ v u Q I rx ry ⟨z, r, rfl, rfl, e, by simpa using q⟩
theorem s_inF {ng : Bool} (h : KF K w d f) (q : Q (.bl (xor ng (f z).isSome)) H) : rInF K w ng (.str z) (.ref d) H Q := by
  obtain ⟨es, n, D⟩ := h.ex
  cases e : f z with
  | none => exact ⟨d, es, n, z, none, rfl, rfl, D, h.miss z e, by rw [e] at q; exact q⟩
  | some xs =>
    obtain ⟨t, e1, _⟩ := h.hit z xs e
    exact ⟨d, es, n, z, _, rfl, rfl, D, e1, by rw [e] at q; exact q⟩
theorem ix_F (hK : X.K = K) (hw : X.w = w) : IxR X (rIxD K w) := by
  subst hK hw
  exact ix_kdict
theorem s_ixF (h : KF K w d f) (e : f z = some xs) (q : ∀ t, KT K t (xs.map V.str) → Q (.ref t) H) : rIxD K w (.ref d) (.str z) H Q := by
  obtain ⟨es, n, D⟩ := h.ex
  obtain ⟨t, e1, e2⟩ := h.hit z xs e
  exact ⟨d, z, .ref t, rfl, rfl, ⟨es, n, _, D.at_, D.lit, e1, rfl⟩, q t e2⟩
end
/-! list.pop(0), str(x), tuple + tuple, isdigit, len of a tuple -/
section
variable {X : Cx} {K : PySem.W.Frag} {H : Hp} {Q : VK} {p a b : Addr} {xs ys : List V} {x : V} {z : Str} {n : Int} {o : Expr} {to : TE}
theorem s_pop0 (h : H p = some (.lst (x :: xs))) (q : ∀ H', H' p = some (.lst xs) → Kp [p] H H' → Q x H') : rPopAt (.ref p) [.int 0] H Q :=
  ⟨p, x :: xs, 0, 0, x, rfl, rfl, h, by decide, by decide, (by simp [seqIndex?]), rfl, put_abs h rfl (R := fun H' => Q x H') q⟩
def uStrA : List V → Hp → VK → Prop := fun xs H Q => uStr xs H Q ∨ ∃ a, xs = [.str a] ∧ Q (.str a) H
theorem c_strA : CallR X (.type "str") uStrA := by
  intro pins s σ H xs us Q I r h
  rcases h with h | h
  · exact c_str pins s σ H xs us Q I r h
  · exact SkE.call_str_str pins s σ H xs us Q I r h
theorem s_strS (q : Q (.str z) H) : uStrA [.str z] H Q := Or.inr ⟨z, rfl, q⟩
theorem s_cat (ha : H a = some (.tup xs)) (hb : H b = some (.tup ys)) (n1 : xs ≠ []) (n2 : ys ≠ []) (hz : xs.length + ys.length ≤ sizeLine) (q : ∀ p H', H p = none → H' p = some (.tup (xs ++ ys)) → Kp [] H H' → Q (.ref p) H') : uAdd K (.ref a) (.ref b) H Q :=
  Or.inr (Or.inr (Or.inr ⟨a, b, xs, ys, rfl, rfl, SqT.of ha, SqT.of hb, hz, fun e => (n1 e).elim, fun _ e => (n2 e).elim, fun _ _ => new_abs (R := fun p H' => Q (.ref p) H') q⟩))
theorem pe_isdg {apos pos : Pos} (ho : PE X o to) (hbase : attributeBase o "isdigit" X.env (eval o X.env) = eval o X.env := by rfl) (hline : (apos.endLine == pos.line) = true := by rfl) :
    PE X (.Call (.Attribute o "isdigit" apos) [] [] pos) (tM0 (fun x xs H Q => ∃ a, x = .str a ∧ xs = [] ∧ True ∧ Q (.bl (Txt.isdigit a)) H) to) :=
  pe_m0 F.slot_str_isdigit F.type_str_isdigit mt_isdigit ho hbase hline
theorem s_isdg (q : Q (.bl (Txt.isdigit z)) H) : ∃ a, V.str z = .str a ∧ ([] : List V) = [] ∧ True ∧ Q (.bl (Txt.isdigit a)) H := ⟨z, rfl, rfl, trivial, q⟩
end
/-! x == (), x a tuple of any things -/
def uEqE (K : PySem.W.Frag) : R2 := fun x y H Q => ∃ a b xs, x = .ref a ∧ y = .ref b ∧ SqT K H a xs ∧ SqT K H b [] ∧ Q (.bl xs.isEmpty) H
section
variable {X : Cx} {K : PySem.W.Frag} {H : Hp} {Q : VK} {a b : Addr} {xs : List V} {k : Nat}
theorem o_eqE (hK : X.K = K) (hr : Room k X.A) : OpR X (compareOp .Eq) (uEqE K) := by
  subst hK
  intro pins s σ H x y v u Q I rx ry h
  obtain ⟨a, b, xs, rfl, rfl, h1, h2, q⟩ := h
  cases rx
  cases ry
  obtain ⟨its, rv, p, _⟩ := I.tuple h1
  obtain ⟨its2, rv2, p2, _⟩ := I.tuple h2
  have e2 : its2 = [] := by cases rv2; rfl
  subst e2
  refine SeqAt.eq_tupleAt (e := fun _ => true) p p2 (Nat.lt_of_succ_lt (hu_of hr)) (fun j _ h => absurd h (by simp)) ⟨.bl xs.isEmpty, H, I, ?_, q⟩
  cases rv with
  | nil => rfl
  | cons r rr => exact congrArg Value.bool (by simp)
theorem s_eqE (h1 : H a = some (.tup xs)) (h2 : H b = some (.tup [])) (q : Q (.bl xs.isEmpty) H) : uEqE K (.ref a) (.ref b) H Q := ⟨a, b, xs, rfl, rfl, SqT.of h1, SqT.of h2, q⟩
end
end U

namespace U
open PySem L2 PySem.Spec PyProof.Rows
section
variable {K : PySem.W.Frag} {H H1 : Hp} {Q : VK} {p a b : Addr} {xs ys : List V} {z : Str}
/-- tuple + tuple, of any lengths -/
theorem s_catG (ha : H a = some (.tup xs)) (hb : H b = some (.tup ys)) (hz : xs.length + ys.length ≤ sizeLine) (q : ∀ p H', H' p = some (.tup (xs ++ ys)) → Kp [] H H' → Q (.ref p) H') : uAdd K (.ref a) (.ref b) H Q :=
  Or.inr (Or.inr (Or.inr ⟨a, b, xs, ys, rfl, rfl, SqT.of ha, SqT.of hb, hz, fun e => q b H (by rw [e]; exact hb) Kp.refl, fun _ e => q a H (by rw [e, List.append_nil]; exact ha) Kp.refl, fun _ _ => new_abs (R := fun p H' => Q (.ref p) H') fun p H' _ e k => q p H' e k⟩))
/-- list + list -/
theorem s_addL (h1 : H a = some (.lst xs)) (h2 : H b = some (.lst ys)) (h : xs.length + ys.length ≤ sizeLine)
    (z : ∀ p' H', H p' = none → H' p' = some (.lst (xs ++ ys)) → Kp [] H H' → Q (.ref p') H') : uAdd K (.ref a) (.ref b) H Q := s_addl h1 h2 h z
/-- list(tuple) -/
theorem s_listT (h : H p = some (.tup xs)) (q : ∀ l H', H l = none → H' l = some (.lst xs) → Kp [] H H' → Q (.ref l) H') : uList K [.ref p] H Q := ⟨p, xs, rfl, Or.inr (SqT.of h), fun l f => q l _ f upd_same (Kp.refl.new f)⟩
theorem dna_strs : ∀ zs : List Str, DnA K H (zs.map V.str) (zs.map PyData.str)
  | [] => .nil
  | z :: zs => .cons (.str z) (dna_strs zs)
theorem dna_rep {j : Int} : ∀ m : Nat, DnA K H (List.replicate m (V.int j)) (List.replicate m (.int j))
  | 0 => .nil
  | m + 1 => by rw [List.replicate_succ, List.replicate_succ]; exact .cons (.int j) (dna_rep m)
theorem lay_rep {j : Int} : ∀ m : Nat, PyData.canLayAll0 (List.replicate m (.int j)) = true ∧ PyData.depthAll (List.replicate m (.int j)) ≤ 1
  | 0 => ⟨rfl, by simp [PyData.depthAll]⟩
  | m + 1 => by
    obtain ⟨h1, h2⟩ := lay_rep (j := j) m
    rw [List.replicate_succ]
    refine ⟨by simp only [PyData.canLayAll0, PyData.canLay0, h1, Bool.and_self], ?_⟩
    simp only [PyData.depthAll, PyData.depth]
    omega
theorem shp_rep {j : Int} (m : Nat) : SeqAt.shaped (.list (List.replicate m (.int j))) = true := by
  obtain ⟨h1, h2⟩ := lay_rep (j := j) m
  unfold SeqAt.shaped
  rw [Bool.and_eq_true]
  refine ⟨by simpa only [PyData.canLay0] using h1, decide_eq_true ?_⟩
  simp only [PyData.depth]
  omega
theorem map_one (cs : List Nat) : cs.map (fun c => V.str ⟨#[c]⟩) = (cs.map fun c => (⟨#[c]⟩ : Str)).map V.str := by rw [List.map_map]; rfl
end
theorem cut_pre (xs : List V) {n : Int} (h0 : 0 ≤ n) : cutV xs none (some n) = xs.take n.toNat := by
  obtain ⟨k, rfl⟩ := Int.eq_ofNat_of_zero_le h0
  unfold cutV
  rw [HT.sIx_none, HT.sIx_nat, List.drop_zero]
  simp
theorem cut_tail (xs : List V) {n : Int} (h0 : 0 ≤ n) : cutV xs (some n) none = xs.drop n.toNat := by
  obtain ⟨k, rfl⟩ := Int.eq_ofNat_of_zero_le h0
  unfold cutV
  rw [HT.sIx_none, HT.sIx_nat]
  apply List.ext_getElem?
  intro i
  simp [List.getElem?_take, List.getElem?_drop]
  by_cases h : k ≤ xs.length
  · rw [Nat.min_eq_left h]
    by_cases h2 : i < xs.length - k
    · rw [if_pos h2]
    · rw [if_neg h2, List.getElem?_eq_none (by omega)]
  · rw [Nat.min_eq_right (by omega), if_neg (by omega), List.getElem?_eq_none (by omega)]
theorem S_tail (cs : List Nat) {n : Int} (h0 : 0 ≤ n) : cutS (S cs) (some n) none = S (cs.drop n.toNat) := by
  rw [S_cut]
  congr 1
  obtain ⟨k, rfl⟩ := Int.eq_ofNat_of_zero_le h0
  rw [HT.sIx_none, HT.sIx_nat]
  apply List.ext_getElem?
  intro i
  simp [List.getElem?_take, List.getElem?_drop]
  by_cases h : k ≤ cs.length
  · rw [Nat.min_eq_left h]
    by_cases h2 : i < cs.length - k
    · rw [if_pos h2]
    · rw [if_neg h2, List.getElem?_eq_none (by omega)]
  · rw [Nat.min_eq_right (by omega), if_neg (by omega), List.getElem?_eq_none (by omega)]
end U

namespace U
open PySem L2 PySem.Spec PyProof.Rows
/-! repr where an error is being handled -/
section
theorem call_reprU {X : Cx} (hg : X.A.guards = some []) (hu : X.A.units + 200 < cLine) (hs : ∃ mm, X.base.Ns sysModules mm) : CallR X (.builtin "repr") (rRepr X.K) := by
  rintro pi s σ H xs us Q I vv ⟨v, d, rfl, hd, g, dp, zz, q⟩
  obtain ⟨u, rfl, rv⟩ := Vals.one vv
  obtain ⟨sh, le⟩ := good_show g
  have le2 : d.shown.length ≤ sizeLine := Nat.le_trans (Nat.le_trans le zz) (by decide)
  cases hd with
  | non => cases rv; exact PySem.P.repr_of_none ⟨.str _, H, I.tok _, ⟨_, rfl⟩, q⟩
  | bl b => cases rv; exact PySem.P.repr_of_bool ⟨.str _, H, I.tok _, ⟨_, rfl⟩, q⟩
  | int i =>
    obtain ⟨t, rfl⟩ := rv
    simp only [PyData.showable, decide_eq_true_eq] at sh
    exact PySem.P.repr_of_int sh ⟨.str _, H, I.tok _, ⟨_, rfl⟩, q⟩
  | str x =>
    obtain ⟨t, rfl⟩ := rv
    exact PySem.P.repr_of_str ⟨.str _, H, I.tok _, ⟨_, rfl⟩, q⟩ le2
  | lst h1 h2 =>
    obtain ⟨as, r1, r2⟩ := Dn.reads I hs (.lst h1 h2) rv
    cases rv
    exact repr_of_reads' r1 sh (fun _ => r2) hg (by omega) (fun _ _ e => e) (fun h' u tk hk => ⟨.str _, H, I.kept hk, ⟨_, rfl⟩, q⟩) le2
  | tup h1 h2 =>
    obtain ⟨as, r1, r2⟩ := Dn.reads I hs (.tup h1 h2) rv
    cases rv
    exact repr_of_reads' r1 sh (fun _ => r2) hg (by omega) (fun _ _ e => e) (fun h' u tk hk => ⟨.str _, H, I.kept hk, ⟨_, rfl⟩, q⟩) le2
  | dic h1 h2 =>
    obtain ⟨as, r1, r2⟩ := Dn.reads I hs (.dic h1 h2) rv
    cases rv
    exact repr_of_reads' r1 sh (fun _ => r2) hg (by omega) (fun _ _ e => e) (fun h' u tk hk => ⟨.str _, H, I.kept hk, ⟨_, rfl⟩, q⟩) le2
theorem hu200 {k : Nat} {A : Around} {h : Option Value} (r : Room k A) : (A.mark h).units + 200 < cLine := by have := r.un; show A.units + 200 < cLine; omega
theorem o_eqU {X : Cx} {K : PySem.W.Frag} (hK : X.K = K) (hu : X.A.units + 200 < cLine) : OpR X (compareOp .Eq) (uEq K) := hK ▸ op_eq.or (op_eqD (by omega))
theorem o_neU {X : Cx} {K : PySem.W.Frag} (hK : X.K = K) (hu : X.A.units + 200 < cLine) : OpR X (compareOp .NotEq) (uNe K) := hK ▸ op_ne.or (op_neD (by omega))
theorem c_reprU {X : Cx} {K : PySem.W.Frag} (hK : X.K = K) (hg : X.A.guards = some []) (hu : X.A.units + 200 < cLine) (hs : ∃ mm, X.base.Ns sysModules mm) : CallR X (.builtin "repr") (rRepr K) := hK ▸ call_reprU hg hu hs
end
end U

namespace U
open PySem L2 PySem.Spec PyProof.Rows
/-! text * number; text.index(sign) -/
def rSmul : R2 := fun x y H Q => ∃ (a : Str) (n : Int), x = .str a ∧ y = .int n ∧ MulOk a n ∧ Q (.str (Txt.mul a n)) H
section
variable {X : Cx} {K : PySem.W.Frag} {H : Hp} {Q : VK} {z : Str}
theorem op_smul : OpR X (binaryOp .Mult) rSmul := by
  intro pins s σ H x y v u Q I rx ry h
  obtain ⟨a, n, rfl, rfl, hm, q⟩ := h
  obtain ⟨t, rfl⟩ := rx
  obtain ⟨u', rfl⟩ := ry
  exact SB.mul hm fun t' k => ⟨.str _, H, I.kept (h' := s.heap) (t' := k) fun _ _ e => e, ⟨_, rfl⟩, q⟩
def uMulS : R2 := fun x y H Q => uMul x y H Q ∨ rSmul x y H Q
theorem o_mulS : OpR X (binaryOp .Mult) uMulS := o_mul.or op_smul
theorem s_mulS0 (q : Q (.str Str.empty) H) : uMulS (.str z) (.int 0) H Q := Or.inr ⟨z, 0, rfl, rfl, ⟨by decide, fun h => absurd (by decide : (0 : Int) < 1) h, fun h => absurd (by decide : (0 : Int) < 1) h⟩, q⟩
theorem s_mulS1 (q : Q (.str z) H) : uMulS (.str z) (.int 1) H Q := Or.inr ⟨z, 1, rfl, rfl, ⟨by decide, fun _ h => by simp at h, fun _ h => by simp at h⟩, by
  have : Txt.mul z 1 = z := by unfold Txt.mul; simp
  rw [this]; exact q⟩
theorem s_mulI (h : uMul (.int i) (.int j) H Q) : uMulS (.int i) (.int j) H Q := Or.inl h
/-- list * number -/
theorem s_repL {l : Addr} {k : Int} {xs : List V} (h : H l = some (.lst xs)) (h0 : 0 ≤ k) (h1 : k ≤ 1000) (hz : xs.length * k.toNat ≤ 1000000) (q : ∀ p H', H p = none → H' p = some (.lst (List.replicate k.toNat xs).flatten) → Kp [] H H' → Q (.ref p) H') : uMul (.ref l) (.int k) H Q :=
  Or.inr ⟨l, k, xs, rfl, rfl, h, by omega, by omega, zle hz, new_abs (R := fun p H' => Q (.ref p) H') q⟩
theorem pe_sidx {o e : Expr} {to te : TE} {apos pos : Pos} (ho : PE X o to) (he : PE X e te) (h1 : starEach [e] X.env = [(false, eval e X.env)] := by rfl) (h2 : attributeBase o "index" X.env (eval o X.env) = eval o X.env := by rfl) (hline : (apos.endLine == pos.line) = true := by rfl) :
    PE X (.Call (.Attribute o "index" apos) [e] [] pos) (tM1 (fun x xs H Q => ∃ a b i rest, x = .str a ∧ xs = [.str b] ∧ Builtin.Str.occurrences a b 0 a.length 1 = i :: rest ∧ Q (.int (i : Nat)) H) to te) :=
  pe_m1 F.slot_str_index F.type_str_index mt_sindex ho he h1 h2 hline
theorem dig_occ : ∀ c ∈ List.range' 48 10, Builtin.Str.occurrences "0123456789" ⟨#[c]⟩ 0 ("0123456789" : Str).length 1 = [c - 48] := by decide +kernel
theorem s_digI {c : Nat} (h0 : 48 ≤ c) (h1 : c ≤ 57) (q : Q (.int ((c - 48 : Nat) : Int)) H) : ∃ a b i rest, V.str ("0123456789" : Str) = .str a ∧ [V.str (⟨#[c]⟩ : Str)] = [.str b] ∧ Builtin.Str.occurrences a b 0 a.length 1 = i :: rest ∧ Q (.int (i : Nat)) H :=
  ⟨_, _, c - 48, [], rfl, rfl, dig_occ c (by rw [List.mem_range']; exact ⟨c - 48, by omega, by omega⟩), q⟩
end
end U

namespace U
open PySem L2 PySem.Spec PyProof.Rows
/-! any list against [] -/
def uNeE (K : PySem.W.Frag) : R2 := fun x y H Q => ∃ a b xs, x = .ref a ∧ y = .ref b ∧ SqL K H a xs ∧ SqL K H b [] ∧ Q (.bl (!xs.isEmpty)) H
section
variable {X : Cx} {K : PySem.W.Frag} {H : Hp} {Q : VK} {a b : Addr} {xs : List V} {k : Nat}
theorem o_neE (hK : X.K = K) (hr : Room k X.A) : OpR X (compareOp .NotEq) (uNeE K) := by
  subst hK
  intro pins s σ H x y v u Q I rx ry h
  obtain ⟨a, b, xs, rfl, rfl, h1, h2, q⟩ := h
  cases rx
  cases ry
  obtain ⟨its, rv, p, _⟩ := I.list h1
  obtain ⟨its2, rv2, p2, _⟩ := I.list h2
  have e2 : its2 = [] := by cases rv2; rfl
  subst e2
  have p := p.isList
  have p2 := p2.isList
  have hu : X.A.units < cLine := Nat.lt_of_succ_lt (hu_of hr)
  cases rv with
  | nil => exact SeqAt.RcNeAt.lists (e := fun _ => false) p p2 rfl hu (fun j h _ => absurd h (by simp)) _ _ _ _ ⟨.bl false, H, I, rfl, q⟩
  | cons r rr => exact SeqAt.RcNeAt.lists_lengths p p2 (by simp) hu _ _ _ _ ⟨.bl true, H, I, rfl, q⟩
theorem s_neE (h1 : H a = some (.lst xs)) (h2 : H b = some (.lst [])) (q : Q (.bl (!xs.isEmpty)) H) : uNeE K (.ref a) (.ref b) H Q := ⟨a, b, xs, rfl, rfl, SqL.of h1, SqL.of h2, q⟩
end
/-! text * number, any small ones -/
theorem s_mulSn {H : Hp} {Q : VK} {z : Str} {n : Nat} (h1 : 1 < n) (h2 : n ≤ 1000) (hz : z.length ≤ 1000) (h0 : 0 < z.length) (q : ∀ r : Str, r.length = z.length * n → (∀ c ∈ r.cps.toList, c ∈ z.cps.toList) → Q (.str r) H) : uMulS (.str z) (.int (n : Int)) H Q := by
  have hp : z.length * n ≤ 1000 * 1000 := Nat.mul_le_mul hz h2
  refine Or.inr ⟨z, n, rfl, rfl, ⟨?_, fun _ _ => ?_, fun _ _ => ?_⟩, ?_⟩
  · simp only [Bool.or_eq_false_iff, decide_eq_false_iff_not]
    omega
  · have : (2 ^ 63 - 1) / 1000 ≤ (2 ^ 63 - 1) / (n : Int) := by
      apply Int.le_ediv_of_mul_le (by omega)
      have : ((2 ^ 63 - 1) / 1000 : Int) * (n : Int) ≤ ((2 ^ 63 - 1) / 1000 : Int) * 1000 := Int.mul_le_mul_of_nonneg_left (by omega) (by decide)
      omega
    have e : ((2 ^ 63 - 1) / 1000 : Int) = 9223372036854775 := by decide
    omega
  · unfold Builtin.Str.tooLong
    have : z.length * (n : Int).toNat ≤ sizeLine := zle (by rw [Int.toNat_natCast]; omega)
    simpa using this
  · have e : Txt.mul z n = ⟨(List.replicate n z.cps).foldl (· ++ ·) #[]⟩ := by
      unfold Txt.mul
      rw [if_neg (by omega), if_neg (by
        simp only [Bool.or_eq_true, beq_iff_eq]
        omega), Int.toNat_natCast]
    have key : ∀ (m : Nat) (acc : Array Nat), ((List.replicate m z.cps).foldl (· ++ ·) acc).toList = acc.toList ++ (List.replicate m z.cps.toList).flatten := by
      intro m
      induction m with
      | zero => intro acc; simp
      | succ m ih => intro acc; rw [List.replicate_succ, List.foldl_cons, ih, List.replicate_succ]; simp
    rw [e]
    refine q _ ?_ fun c hc => ?_
    · have := congrArg List.length (key n #[])
      rw [Array.length_toList] at this
      show Array.size _ = _
      rw [this]
      have e2 : z.cps.size = z.length := rfl
      simp [e2, Nat.mul_comm]
    · have hc : c ∈ ((List.replicate n z.cps).foldl (· ++ ·) #[]).toList := hc
      rw [key] at hc
      simp only [List.nil_append, List.mem_flatten, List.mem_replicate] at hc
      obtain ⟨l, ⟨_, rfl⟩, hc⟩ := hc
      exact hc
end U

namespace U
open PySem L2 PySem.Spec PyProof.Rows
/-! list(text) -/
def uListZ : List V → Hp → VK → Prop := fun xs H Q => ∃ z : Str, xs = [.str z] ∧ z.length ≤ sizeLine ∧ ∀ l, H l = none → Q (.ref l) (upd H l (.lst (z.cps.toList.map fun c => V.str ⟨#[c]⟩)))
section
variable {X : Cx} {K : PySem.W.Frag} {H : Hp} {Q : VK}
theorem c_listZ (hc : X.calm = true) : CallR X (.type "list") uListZ := by
  intro pins s σ H xs us Q I r h
  obtain ⟨z, rfl, hz, q⟩ := h
  obtain ⟨u, eu, rx⟩ := vals1 r
  subst eu
  obtain ⟨tz, rfl⟩ := rx
  refine call_list_str (I.ok.hd hc) z _ (hn := hz) fun h' tk acc' c' hk hS hacc => ?_
  refine ⟨.ref s.heap.objs.size, upd H s.heap.objs.size (.lst (z.cps.toList.map fun c => V.str ⟨#[c]⟩)), I.laid hk (Nat.le_refl _) (show ObjOk X.prog X.w _ _ _ (.lst (z.cps.toList.map fun c => V.str ⟨#[c]⟩)) from ⟨?_, acc'.toList, c', ?_, ?_⟩), rfl, q _ (I.hok.fresh (Nat.le_refl _))⟩
  · rw [List.length_map, Array.length_toList]
    exact hz
  · refine vals_of_at (by rw [List.length_map, Array.length_toList, Array.length_toList, hacc.1]) fun m x w h1 h2 => ?_
    obtain ⟨c, tk', ec, ew⟩ := hacc.2 m w (by rw [← Array.getElem?_toList]; exact h2)
    rw [List.getElem?_map, Array.getElem?_toList, ec] at h1
    cases h1
    subst ew
    exact ⟨tk', rfl⟩
  · simpa using hS
theorem s_listZ {z : Str} (h : z.length ≤ sizeLine) (q : ∀ l H', H l = none → H' l = some (.lst (z.cps.toList.map fun c => V.str ⟨#[c]⟩)) → Kp [] H H' → Q (.ref l) H') : uListZ [.str z] H Q :=
  ⟨z, rfl, h, new_abs (R := fun p H' => Q (.ref p) H') q⟩
end
end U

namespace U
open PySem L2 PySem.Spec PyProof.Rows
/-! an error that leaves a list comprehension -/
section
variable {X : Cx} {pins : List (Addr × Obj)} {σ : L2.St} {H : Hp} {s : Shared}
theorem Inv.xe {xe : Value → Shared → Prop} (I : Inv X pins σ H s) : Inv { X with xe := xe } pins σ H s := by
  obtain ⟨ok, a1, a2, a3, a4, a5, a6, a7, a8, a9, a10⟩ := I
  obtain ⟨b1, b2, b3, b4, b5, b6, b7, b8, b9, b10, b11, b12, b13, b14, b15, b16, b17, b18⟩ := ok
  exact ⟨⟨b1, b2, b3, b4, b5, b6, b7, b8, b9, b10, b11, b12, b13, b14, b15, b16, b17, b18⟩, a1, a2, a3, a4, a5, a6, a7, a8, a9, a10⟩
theorem noteFrame_eq {e : Value} {a b : Env} (h : a.frame = b.frame) : noteFrame e a = noteFrame e b := by
  unfold noteFrame PySem.frameOf
  rw [h]
/-- as the kit's compPost, with the frame of the block -/
def cPost (M : Model) (A : Around) (E : Value → Shared → Prop) (F : Option Addr) (use : Option (Value → Sem Unit)) (Q : Value → Shared → Prop) (acc : Value) (C : Addr) (r : Result) (s' : Shared) : Prop :=
  match r, use with
  | .ok _, none => ∃ m, s'.heap.Ns C m ∧ ∀ h', Heap.SameBut C s'.heap h' → Q acc { s' with heap := h' }
  | .ok _, some u => wpAny M A (u acc) (fun _ s'' => ∃ m, s''.heap.Ns C m ∧ ∀ h', Heap.SameBut C s''.heap h' → Q .none { s'' with heap := h' }) E s'
  | .error x, _ => ∃ m, s'.heap.Ns C m ∧ ∀ h', Heap.SameBut C s'.heap h' → ∀ cenv : Env, cenv.frame = F → wpAny M A (passOn "comprehension.variables-let-go" x cenv : Sem Value) (fun _ _ => False) E { s' with heap := h' }

theorem comp_freeX {M : Model} {A : Around} {E : Value → Shared → Prop} {s : Shared} {env : Env} {e : Expr} {scope : Scope} {pos : Pos} {newAcc first : Sem Value} {g : Comprehension} {gs : List Comprehension} {cl : List (Str × Addr)} {use : Option (Value → Sem Unit)}
    {Q : Value → Shared → Prop}
    (hcl : clausesOf e = g :: gs) (hs : ∀ x, foldedSetIterable g.iter env x = pure x) (hclos : closureFor scope env = pure cl)
    (hkind : scope.kind = .function) (hnames : ∀ x ∈ scope.names, x.2 = .local → scope.names.lookup x.1 = some .local)
    (h : wpAny M A first (fun x s₁ => wpAny M A (pyIter x) (fun it s₂ => wpAny M A newAcc (fun acc s₃ =>
      wpAny M A (newFunctionEnv scope env.globals cl [] env.qual none .none (some env)) (fun cenv s₄ =>
        codeAny M A (.compStart e 0 it acc { cenv with scope := relabel scope env }) (cPost M A E cenv.frame use Q acc cenv.locals) s₄) E s₃) E s₂) E s₁) E s) :
    wpAny M A (comprehension e scope env pos newAcc false first use) Q E s := by
  unfold comprehension
  rw [hclos, hcl]
  refine wpAny_bind (wpAny_mono h (fun x s₁ h₁ => wpAny_bind (wpAny_standAt (wpAny_bind (wpAny_of_eq (hs x) (wpAny_bind (wpAny_holding (wpAny_mono h₁ (fun it s₂ h₂ =>
    wpAny_standIf (wpAny_bind (wpAny_mono h₂ (fun acc s₃ h₃ => wpAny_bind (wpAny_pure (wpAny_bind (wpAny_mono h₃ (fun cenv s₄ h₄ => ?_) fun _ _ h' => h')))) fun _ _ h' => h')))
      fun _ _ h' => h'))))))) fun _ _ h' => h')
  dsimp only
  have hv : ∀ x ∈ (scope.names.filter fun x => (x.2 == .local || x.2 == .cell) && x.1 != (".0" : Str)).reverse, x.2 = .local →
      Env.kindOf { cenv with scope := relabel scope env } x.1 = some .local := fun x hx hl => lookup_relabel_local (hnames x (List.mem_filter.mp (List.mem_reverse.mp hx)).1 hl)
  have hv' : ∀ x ∈ (scope.names.filter fun x => (x.2 == .local || x.2 == .cell) && x.1 != (".0" : Str)).reverse.drop 1 ++ (scope.names.filter fun x => (x.2 == .local || x.2 == .cell) && x.1 != (".0" : Str)).reverse.take 1,
      x.2 = .local → Env.kindOf { cenv with scope := relabel scope env } x.1 = some .local := fun x hx hl => by
    rcases List.mem_append.mp hx with h1 | h1
    · exact hv x (List.mem_of_mem_drop h1) hl
    · exact hv x (List.mem_of_mem_take h1) hl
  refine wpAny_holding (wpAny_bind (wpAny_attempt (wpAny_holding (wpAny_run (codeAny_mono h₄ fun r s' hr => ?_)))))
  cases r with
  | ok f =>
    cases use with
    | none =>
      obtain ⟨m, hn, hr⟩ := hr
      exact wpAny_bind (wpAny_holding (wpAny_comp_letGo (cenv := { cenv with scope := relabel scope env }) hkind _ s' m hv hn fun h' m' _ hs' => wpAny_pure (hr h' hs')))
    | some u =>
      refine wpAny_bind (wpAny_rule (wpAny_bind (wpAny_holding (wpAny_mono hr (fun _ s'' hr' => ?_) fun _ _ h' => h'))))
      obtain ⟨m, hn, hr'⟩ := hr'
      exact wpAny_bind (wpAny_comp_letGo (cenv := { cenv with scope := relabel scope env }) hkind _ s'' m hv' hn fun h' m' _ hs' => wpAny_pure (hr' h' hs'))
  | error x =>
    have hr' : ∃ m, s'.heap.Ns cenv.locals m ∧ ∀ h', Heap.SameBut cenv.locals s'.heap h' → ∀ cenv' : Env, cenv'.frame = cenv.frame → wpAny M A (passOn "comprehension.variables-let-go" x cenv' : Sem Value) (fun _ _ => False) E { s' with heap := h' } := by cases use <;> exact hr
    obtain ⟨m, hn, hr⟩ := hr'
    exact wpAny_bind (wpAny_holding (wpAny_comp_letGo (cenv := { cenv with scope := relabel scope env }) hkind _ s' m hv hn fun h' m' _ hs' => wpAny_mono (hr h' hs' _ rfl) (fun _ _ f => f.elim) fun _ _ y => y))

theorem funFrames_but {base B h h' : Heap} {C : Addr} : ∀ {l : List Env}, h.FunFrames base l → (∀ L ∈ frs l, B.get? L = none) → (∀ b o, b ≠ C → h.get? b = some o → h'.get? b = some o) → C ∉ frs l → h'.FunFrames B l
  | [], _, _, _, _ => trivial
  | env :: l, h, hn, k, hC => by
    obtain ⟨hk, ⟨L, o, hf, _, ho, hd⟩, hr⟩ := h
    have mL : L ∈ frs (env :: l) := List.mem_filterMap.mpr ⟨env, List.mem_cons_self, hf⟩
    have up : ∀ b, b ∈ frs l → b ∈ frs (env :: l) := fun b hb => by
      obtain ⟨e, he, q⟩ := List.mem_filterMap.mp hb
      exact List.mem_filterMap.mpr ⟨e, List.mem_cons_of_mem _ he, q⟩
    exact ⟨hk, ⟨L, o, hf, hn L mL, k L o (fun z => hC (z ▸ mL)) ho, hd⟩, funFrames_but hr (fun b hb => hn b (up b hb)) k fun z => hC (up C z)⟩
/-- the block's context, with a place for errors -/
abbrev blx (X : Cx) (s : Shared) (H : Hp) (scope : Scope) (cenv : Env) (fp : List Addr) (xe : Value → Shared → Prop) : Cx := { X.blk s H scope cenv fp with xe := xe }

/-- a callee's error in the block leaves the comprehension -/
theorem blx_passes {E : XK} {scope : Scope} {ce : Env} {fp : List Addr} {use : Option (Value → Sem Unit)} {Qf : Value → Shared → Prop} {acc : Value} (hs : X.stack = X.env :: X.outer) (hf : X.env.frame = some X.env.locals) (tk : Takes X (wE E))
    (I3 : Inv X pins σ H s) (f3 : ∀ b ∈ fp, FpOk X pins H b) (hF : ce.frame = X.env.frame) (hC : ce.locals = s.heap.objs.size) :
    Passes (L2.CX X.prog X.w) (blx X s H scope ce fp (notedBy (model X.prog X.w) X.A ce fun e s' => cPost (model X.prog X.w) X.A X.xe X.env.frame use Qf acc s.heap.objs.size (.error e) s')) E := by
  intro pins' σ' H' s1 e s' I c
  obtain ⟨a, B, H2, cls, d, rfl, fl, hok, ub, na, os, ag, hE⟩ := c
  obtain ⟨G, g1, g2⟩ := restrict s'.heap fun b => (B.get? b).isSome || decide (b ∈ frs X.stack)
  have st : B.StaysIn s'.heap := fl.1
  have gB : ∀ b o, B.get? b = some o → G.get? b = some o := fun b o e => by
    rw [g1 b (by simp [e])]
    exact st b o e
  have gF : ∀ b, b ∈ frs X.stack → G.get? b = s'.heap.get? b := fun b hb => g1 b (by simp [hb])
  have og : ∀ b o, G.get? b = some o → s'.heap.get? b = some o ∧ ((B.get? b).isSome = true ∨ b ∈ frs X.stack) := fun b o e => by
    cases q : ((B.get? b).isSome || decide (b ∈ frs X.stack)) with
    | false => rw [g2 b q] at e; cases e
    | true =>
      rw [g1 b q] at e
      exact ⟨e, by simpa [Bool.or_eq_true] using q⟩
  have nb : ∀ b o, G.get? b = some o → b ∉ frs X.stack → B.get? b = some o := fun b o e hb => by
    obtain ⟨e', h⟩ := og b o e
    rcases h with h | h
    · obtain ⟨o', q⟩ := Option.isSome_iff_exists.mp h
      have z := st b o' q
      rw [e'] at z; cases z
      exact q
    · exact absurd h hb
  have IB : Inv (blx X s H scope ce fp (notedBy (model X.prog X.w) X.A ce fun e s' => cPost (model X.prog X.w) X.A X.xe X.env.frame use Qf acc s.heap.objs.size (.error e) s')) pins' σ' H2 { s1 with heap := G, gens := s'.gens, drawn := s'.drawn, toks := s'.toks } := by
    refine I.call (ch := []) ⟨fun b o e n hb _ => gB b o (ub.keep b o e n hb), fun b o e n hb _ => ?_, fun b o e n _ => ub.free b o e n, fun b o e _ => ?_, ub.tups, ub.frzs, ub.tbls⟩ (hok.kept gB) ag (fun _ z => nomatch z)
    · obtain ⟨sl, q⟩ := ub.slot b o e hb
      exact ⟨sl, by rw [gF b hb]; exact q⟩
    · by_cases hb : b ∈ frs X.stack
      · obtain ⟨sl, q⟩ := ub.slot b o e hb
        exact ⟨_, by rw [gF b hb]; exact q⟩
      · obtain ⟨o', q⟩ := ub.there b o e hb
        exact ⟨o', gB b o' q⟩
  have hfr : X.A.frames = some (X.env :: X.outer) := by rw [I3.ok.frames, hs]
  show wpAny _ _ (noteFrame (.ref a) ce) _ _ _
  rw [noteFrame_eq hF]
  rw [hs] at fl
  refine HandSPX.looks_onZ Zc.steady hfr hf fl fun h1 held up1 => ?_
  obtain ⟨m, hn, _⟩ := IB.loc
  have hn : G.Ns ce.locals m := hn
  rw [hC] at hn
  generalize hCC : s.heap.objs.size = C at *
  have nC : C ∉ frs X.stack := fun hm => by
    obtain ⟨_, o, ho, _⟩ := I3.stack.mem hm
    have := Heap.lt_size ho
    rw [hCC] at this
    exact Nat.lt_irrefl _ this
  have hn1 : h1.Ns C m := by
    obtain ⟨o, es, ep, ho, r⟩ := hn
    exact ⟨o, es, ep, held.1 _ _ (nb _ _ ho nC), r⟩
  refine ⟨m, hn1, fun h' sb cenv e1 => ?_⟩
  -- without the block's names
  obtain ⟨B2, b1, b2⟩ := restrict B fun b => !decide (b = C)
  obtain ⟨G2, c1, c2⟩ := restrict G fun b => !decide (b = C)
  have BB : ∀ b o, B2.get? b = some o → B.get? b = some o ∧ b ≠ C := fun b o e => by
    by_cases z : b = C
    · rw [b2 b (by simp [z])] at e; cases e
    · rw [b1 b (by simp [z])] at e; exact ⟨e, z⟩
  have GG : ∀ b o, G2.get? b = some o → G.get? b = some o ∧ b ≠ C := fun b o e => by
    by_cases z : b = C
    · rw [c2 b (by simp [z])] at e; cases e
    · rw [c1 b (by simp [z])] at e; exact ⟨e, z⟩
  have BN : ∀ b, B.get? b = none → B2.get? b = none := fun b e => by
    cases q : B2.get? b with
    | none => rfl
    | some o => rw [(BB b o q).1] at e; cases e
  obtain ⟨k1, k2, k3, oe, vs, T, oT, ts, he, hz, hd, hv1, hnT, hTe, hT, hdT, h3⟩ := held
  have hCB : ∃ o, B.get? C = some o := by
    obtain ⟨o, es, ep, ho, r⟩ := hn
    exact ⟨o, nb _ _ ho nC⟩
  have aC : a ≠ C := fun z => by
    obtain ⟨o, q⟩ := hCB
    rw [z, q] at k2; cases k2
  have TC : T ≠ C := fun z => by
    obtain ⟨o, q⟩ := hCB
    rw [z, q] at hnT; cases hnT
  have he' : h'.get? a = some oe := (sb.2 a aC).trans he
  have hT' : h'.get? T = some oT := (sb.2 T TC).trans hT
  have k1' : B2.StaysIn h' := fun b o e => (sb.2 b (BB b o e).2).trans (k1 b o (BB b o e).1)
  have k3' : h'.FunFrames B2 (X.env :: X.outer) := funFrames_but k3 (fun b hb => BN b (k3.mem hb).1) (fun b o hb e => (sb.2 b hb).trans e) (by rw [← hs]; exact nC)
  unfold PySem.passOn
  refine wpAny_bind (wpAny_field he' hd hv1 ?_)
  rw [if_neg (show ¬ ((Value.ref T == Value.none) = true) from by simp)]
  rw [e1, hf]
  refine wpAny_bind (HandSPX.setFlight_anyZ k1' k3' ⟨oe, vs, T, oT, ts, he', hz, hd, hv1, BN _ hnT, hTe, hT', hdT, h3⟩ fun h2 z1 z2 z3 z4 => ?_)
  refine wpAny_throw (tk _ _ ?_)
  have IX : Inv X pins σ H2 { s1 with heap := G, gens := s'.gens, drawn := s'.drawn, toks := s'.toks } :=
    I3.call' (ch := fp) IB.os IB.base IB.hok IB.bare fun b hb => ⟨(f3 b hb).2.2.2.1, (f3 b hb).2.1, (f3 b hb).2.2.2.2.1, (f3 b hb).2.2.2.2.2⟩
  have hC2 : H2 C = none := by
    have z : H2 ce.locals = none := IB.free
    rw [hC] at z
    exact z
  obtain ⟨q0, q1, q2, q3, q4, q5⟩ := I3.fpOk (b := C) (H' := H2) (Nat.le_of_eq hCC) hC2
  have IY := IX.turned (t' := s'.toks) (h' := G2) (it := C) (fun b o hb e => by rw [c1 b (by simp [hb])]; exact e) q0 q1 q3 q4 q5
  refine ⟨a, B2, _, pins, σ, H2, cls, d, rfl, IY, fun b o e hb => ?_, fun b o e hnf => ?_, ?_, na, os, ag, hE⟩
  · obtain ⟨e', z⟩ := GG b o e
    rw [b1 b (by simp [z])]
    exact nb b o e' hb
  · obtain ⟨e', z⟩ := GG b o e
    obtain ⟨sl, e2⟩ := up1 b o (og b o e').1 hnf
    obtain ⟨sl2, e3⟩ := z4 b _ ((sb.2 b z).trans e2) hnf
    exact ⟨sl2, e3⟩
  · rw [hs]
    exact .inr (.inr ⟨z1, BN _ k2, z2, z3⟩)
end
section
variable {X : Cx}
theorem lc_coreX {E : XK} {pins : List (Addr × Obj)} {s : Shared} {σ : L2.St} {H : Hp} {Q : VK} {elt tg iter : Expr} {ifs : List Expr} {scope : Scope} {own : List (Str × Nat)} {pos pos' : Pos} {wi : TI} {g : TG} {tt : TT} {te : TE} {use : Option (Value → Sem Unit)} {Qf : Value → Shared → Prop}
    (hs0 : X.stack = X.env :: X.outer) (hf0 : X.env.frame = some X.env.locals) (tk : Takes X (wE E))
    (hc : X.calm = true) (hN : X.N.Nodup) (I : Inv X pins σ H s) (hi : PI X tg iter wi) (ok : BlkOk X.N X.env.scope scope own)
    (hg : ∀ (s : Shared) (H : Hp) (C : Addr) (cl : List (Str × Addr)) (fp : List Addr) (xe : Value → Shared → Prop), PG (blx X s H scope (compEnvC scope cl C X.env) fp xe) tg g)
    (ht : ∀ (s : Shared) (H : Hp) (C : Addr) (cl : List (Str × Addr)) (fp : List Addr) (xe : Value → Shared → Prop), Passes (L2.CX X.prog X.w) (blx X s H scope (compEnvC scope cl C X.env) fp xe) E → PTs (blx X s H scope (compEnvC scope cl C X.env) fp xe) ifs tt)
    (he : ∀ (s : Shared) (H : Hp) (C : Addr) (cl : List (Str × Addr)) (fp : List Addr) (xe : Value → Shared → Prop), Passes (L2.CX X.prog X.w) (blx X s H scope (compEnvC scope cl C X.env) fp xe) E → PE (blx X s H scope (compEnvC scope cl C X.env) fp xe) elt te) (hs : ∀ x, foldedSetIterable iter X.env x = pure x)
    (h : tLc wi g tt te (own.map (·.2)) σ H Q)
    (hRR : ∀ D C s' m H', Inv X pins σ H' s' → Q (.ref D) H' → s'.heap.Ns C m → FpOk X pins H' C → cPost (model X.prog X.w) X.A X.xe X.env.frame use Qf (.ref D) C (.ok .next) s') :
    wpAny (model X.prog X.w) X.A (comprehension (.ListComp elt [⟨tg, iter, ifs, 0⟩] scope pos) scope X.env pos' (newList []) false (eval iter X.env) use) Qf X.xe s := by
  have hfree : ∀ y ∈ scope.names, y.2 = .free → ∃ c, X.env.cells.lookup y.1 = some c := fun y hy e => by
    rcases ok.free y hy e with k | k
    · exact I.ok.has _ (.inl k)
    · exact I.ok.has _ (.inr k)
  refine comp_freeX (use := use) rfl hs (closure_ok hfree) ok.kind (fun y hy e => by rw [ok.uniq y hy, e])
    (thn (hi.run pins s σ H _ I h) fun xv s1 hx => thn hx fun itv s2 h2 => ?_)
  obtain ⟨it, fp, tn, J, H2, e, I2, T, st2, f2, q⟩ := h2
  subst e
  refine wpAny_newObj_type (newEnv_comp ?_) (by show 0 ≤ sizeLine; decide)
  generalize hD : s2.heap.objs.size = D
  have hDn : H2 D = none := I2.hok.fresh (Nat.le_of_eq hD)
  obtain ⟨W, ⟨m0, w0⟩, turn⟩ := q D hDn
  -- the new list
  generalize hs3 : ({ s2 with heap := s2.heap.push { cls := .type "list", data := .seq ([] : List Value).toArray } } : Shared) = s3
  have I3 : Inv X pins σ (upd H2 D (.lst [])) s3 := by
    rw [← hs3]
    refine I2.laid (t' := s2.toks) (fun b o e => Heap.get?_push_of_some _ e) (Nat.le_of_eq hD) ⟨Nat.zero_le _, [], 0, .nil, ?_⟩
    rw [← hD]
    exact Heap.get?_push_size _ rfl
  have h3 : s3.heap = s2.heap.push { cls := .type "list", data := .seq ([] : List Value).toArray } := by rw [← hs3]
  have sz : ∀ b ∈ fp, b < s2.heap.objs.size := fun b hb => by
    obtain ⟨o, e, _⟩ := T.obj _ _ st2 b hb
    exact Heap.lt_size e
  have f3 : ∀ b ∈ fp, FpOk X pins (upd H2 D (.lst [])) b ∧ b < s3.heap.objs.size := fun b hb => by
    have hlt := sz b hb
    refine ⟨⟨?_, (f2 b hb).2⟩, by rw [h3, Heap.size_push]; exact Nat.lt_succ_of_lt hlt⟩
    rw [upd_ne (by rw [← hD]; exact Nat.ne_of_lt hlt)]
    exact (f2 b hb).1
  have st3 : tn 0 s3.heap := T.keep _ _ _ st2 fun b _ o e => by rw [h3]; exact Heap.get?_push_of_some _ e
  have I4 := block_start I3 ok hN f3
  have pg := hg s3 (upd H2 D (.lst [])) s3.heap.objs.size (cellsFrom (s3.heap.objs.size + 1) scope.names (cloFrom X.env.cells scope.names [])) fp
  have pt := ht s3 (upd H2 D (.lst [])) s3.heap.objs.size (cellsFrom (s3.heap.objs.size + 1) scope.names (cloFrom X.env.cells scope.names [])) fp
  have pe := he s3 (upd H2 D (.lst [])) s3.heap.objs.size (cellsFrom (s3.heap.objs.size + 1) scope.names (cloFrom X.env.cells scope.names [])) fp
  show codeAny _ _ (.compStart (.ListComp elt [⟨tg, iter, ifs, 0⟩] scope pos) 0 (.ref it) (.ref D) (compEnvC scope (cellsFrom (s3.heap.objs.size + 1) scope.names (cloFrom X.env.cells scope.names [])) s3.heap.objs.size X.env)) (cPost (model X.prog X.w) X.A X.xe X.env.frame use Qf (.ref D) s3.heap.objs.size) { s3 with heap := pushCells (s3.heap.push { cls := .type "dict", data := .dict #[] }) scope.names }
  have nfp : ∀ b ∈ fp, (upd H2 D (.lst [])) b = none := fun b hb => (f3 b hb).1.1
  generalize hce : compEnvC scope (cellsFrom (s3.heap.objs.size + 1) scope.names (cloFrom X.env.cells scope.names [])) s3.heap.objs.size X.env = ce at I4 pg pt pe ⊢
  have cL : ce.locals = s3.heap.objs.size := by subst hce; rfl
  have cF : ce.frame = X.env.frame := by subst hce; rfl
  generalize hH3 : upd H2 D (.lst []) = H3 at I3 I4 pg pt pe w0 nfp f3
  have ps := blx_passes (E := E) (scope := scope) (use := use) (Qf := Qf) (acc := .ref D) hs0 hf0 tk I3 (fun b hb => (f3 b hb).1) cF cL
  generalize hxe : (notedBy (model X.prog X.w) X.A ce fun e s' => cPost (model X.prog X.w) X.A X.xe X.env.frame use Qf (.ref D) s3.heap.objs.size (.error e) s') = xe at ps
  have pg := pg xe
  have pt := pt xe ps
  have pe := pe xe ps
  have I4 : Inv (blx X s3 H3 scope ce fp xe) [] (wipe σ (own.map (·.2))) H3 { s3 with heap := pushCells (s3.heap.push { cls := .type "dict", data := .dict #[] }) scope.names } := Inv.xe I4
  generalize hs4 : ({ s3 with heap := pushCells (s3.heap.push { cls := .type "dict", data := .dict #[] }) scope.names } : Shared) = s4 at I4 ⊢
  have st4 : tn 0 s4.heap := T.keep _ _ _ st3 fun b _ o e => by rw [← hs4]; exact pushCells_keeps _ _ _ _ (Heap.get?_push_of_some _ e)
  have stat : ∀ {σ' : L2.St} {H' : Hp} {s' : Shared}, Inv (blx X s3 H3 scope ce fp xe) [] σ' H' s' → (∀ b ∈ fp, H' b = none) → ∀ b ∈ fp, FpOk (blx X s3 H3 scope ce fp xe) [] H' b := fun {σ' H' s'} I' hn b hb =>
    ⟨hn b hb, (I'.ok.exf b hb).1, I'.ok.exfs b hb, .inl hb, fun x c e => (I'.ok.exf b hb).2 x c e, fun p hp => absurd (show p ∈ ([] : List (Addr × Obj)) ++ [] from hp) (by simp)⟩
  have loop : codeAny (model X.prog X.w) X.A (.compLoop (.ListComp elt [⟨tg, iter, ifs, 0⟩] scope pos) 0 (.ref it) (.ref D) ce) (cPost (model X.prog X.w) X.A X.xe X.env.frame use Qf (.ref D) s3.heap.objs.size) s4 := by
    refine compLoop_any (fun n s' => ∃ i H', Inv (blx X s3 H3 scope ce fp xe) [] (wipe σ (own.map (·.2))) H' s' ∧ tn i s'.heap ∧ (∀ b ∈ fp, H' b = none) ∧ W i n H') ?_ m0 ⟨0, H3, I4, st4, nfp, w0⟩
    rw [hxe]
    rintro n s5 ⟨i, H5, I5, st5, n5, w5⟩
    rcases turn i n H5 w5 with ⟨stop, qq⟩ | ⟨go, Nx, hNx, step⟩
    · have td := T.done (blx X s3 H3 scope ce fp xe) rfl rfl rfl hc i [] s5 _ H5 (fun _ _ => False) I5 (stat I5 n5) st5 stop
      refine thnF td fun r s6 ⟨hr, I6⟩ => ?_
      subst hr
      -- back in the def's context
      have I7 : Inv X pins σ H5 s6 := I3.call' (ch := fp) I6.os I6.base I6.hok I6.bare fun b hb => ⟨(f3 b hb).1.2.2.2.1, (f3 b hb).1.2.1, (f3 b hb).1.2.2.2.2.1, (f3 b hb).1.2.2.2.2.2⟩
      have nC : H5 s3.heap.objs.size = none := by
        have z : H5 ce.locals = none := I6.free
        rw [cL] at z
        exact z
      obtain ⟨m, hn, _⟩ := I6.loc
      have hn : s6.heap.Ns ce.locals m := hn
      rw [cL] at hn
      exact hRR D s3.heap.objs.size s6 m H5 I7 qq hn (I3.fpOk (Nat.le_refl _) nC)
    · have ti := T.item (blx X s3 H3 scope ce fp xe) rfl rfl rfl hc i [] s5 _ H5 (fun _ _ => False) I5 (stat I5 n5) st5 go
      refine thnF ti fun r s6 ⟨u, hr, h6⟩ => ?_
      subst hr
      refine thnF h6 fun _ s7 ⟨x, H7, I7, r7, y7, st7, n7⟩ => ?_
      have I7' := I7.pinned (stat I7 n7) (T.obj _ _ st7)
      refine thn (pg.run _ s7 _ H7 x u _ I7' r7 (step x H7 y7)) fun _ s8 ⟨σ8, H8, I8, hw8, q8⟩ => ?_
      refine thn (pt.run _ s8 σ8 H8 _ I8 q8) fun b s9 ⟨H9, I9, q9⟩ => ?_
      -- the turn's end
      have fin : ∀ {s' : Shared} {H' : Hp}, Inv (blx X s3 H3 scope ce fp xe) ([] ++ pinsAt fp s7.heap) σ8 H' s' → Nx H' → ∃ m, m < n ∧ ∃ i H', Inv (blx X s3 H3 scope ce fp xe) [] (wipe σ (own.map (·.2))) H' s' ∧ tn i s'.heap ∧ (∀ b ∈ fp, H' b = none) ∧ W i m H' := fun {s' H'} I' nx => by
        obtain ⟨m', hm, w'⟩ := hNx H' nx
        have pin' : ∀ b ∈ fp, ∀ o, s7.heap.get? b = some o → s'.heap.get? b = some o ∧ H' b = none := fun b hb o e =>
          let z := I'.pin (b, o) (List.mem_append_right _ (List.mem_append_right _ (mem_pinsAt hb e)))
          ⟨z.1, z.2.1⟩
        have hl : (wipe σ (own.map (·.2))).length = σ8.length := by rw [← hw8, wipe_length]
        refine ⟨m', hm, i + 1, H', (I'.unpinned (pins := [])).weak hl (fun j v e => ?_), T.keep _ _ _ st7 fun b hb o e => (pin' b hb o e).1, fun b hb => ?_, w'⟩
        · rw [← hw8] at e
          exact (wipe_some e).1
        · obtain ⟨o, e, _⟩ := T.obj _ _ st7 b hb
          exact (pin' b hb o e).2
      cases b with
      | false =>
        simp only [Bool.false_eq_true, if_false] at q9 ⊢
        exact fin I9 q9
      | true =>
        simp only [if_true] at q9 ⊢
        refine thn (pe.run _ s9 σ8 H9 _ I9 q9) fun z s10 ⟨yv, H10, I10, r10, acc, hD10, hz10, nx⟩ => ?_
        exact app_ok (X := blx X s3 H3 scope ce fp xe) I10 hD10 hz10 r10 fun s11 I11 => fin I11 nx
  exact codeAny_compStart_list loop (T.self X.A 0 _ _ _ st4 loop)
/-- as a value -/
theorem pe_lcX {E : XK} {elt tg iter : Expr} {ifs : List Expr} {scope : Scope} {own : List (Str × Nat)} {pos : Pos} {wi : TI} {g : TG} {tt : TT} {te : TE} (hs0 : X.stack = X.env :: X.outer) (hf0 : X.env.frame = some X.env.locals) (tk : Takes X (wE E)) (hc : X.calm = true) (hN : X.N.Nodup) (hi : PI X tg iter wi) (ok : BlkOk X.N X.env.scope scope own)
    (hg : ∀ (s : Shared) (H : Hp) (C : Addr) (cl : List (Str × Addr)) (fp : List Addr) (xe : Value → Shared → Prop), PG (blx X s H scope (compEnvC scope cl C X.env) fp xe) tg g)
    (ht : ∀ (s : Shared) (H : Hp) (C : Addr) (cl : List (Str × Addr)) (fp : List Addr) (xe : Value → Shared → Prop), Passes (L2.CX X.prog X.w) (blx X s H scope (compEnvC scope cl C X.env) fp xe) E → PTs (blx X s H scope (compEnvC scope cl C X.env) fp xe) ifs tt)
    (he : ∀ (s : Shared) (H : Hp) (C : Addr) (cl : List (Str × Addr)) (fp : List Addr) (xe : Value → Shared → Prop), Passes (L2.CX X.prog X.w) (blx X s H scope (compEnvC scope cl C X.env) fp xe) E → PE (blx X s H scope (compEnvC scope cl C X.env) fp xe) elt te) (hs : ∀ x, foldedSetIterable iter X.env x = pure x := by intro _; rfl) :
    PE X (.ListComp elt [⟨tg, iter, ifs, 0⟩] scope pos) (tLc wi g tt te (own.map (·.2))) := by
  refine ⟨fun pins s σ H Q I h => ?_⟩
  rw [eval_ListComp]
  refine lc_coreX hs0 hf0 tk hc hN I hi ok hg ht he hs h fun D C s' m H' I' q hn f => ⟨m, hn, fun h'' sb => ?_⟩
  obtain ⟨f0, f1, f2, f3, f4, f5⟩ := f
  exact ⟨.ref D, H', I'.turned (t' := s'.toks) (fun b o hb e => (sb.2 b hb).trans e) f0 f1 f3 f4 f5, rfl, q⟩
end
section
variable {X : Cx} {k : Nat} {f : Addr} {fd : FuncData} {ps : List Str} {sp : Sp} {E : XK} {x : Str} {p pos : Pos} {e : Expr} {es : List Expr} {t : TA}
/-- a call whose errors pass -/
theorem pe_coP (F : FnOk X.prog X.w X.K X.mg X.base (L2.CX X.prog X.w) k f fd ps sp) (hr : Room k X.A) (gl : Gl X x) (hm : X.mg x = some (.ref f)) (hk : PySem.W.keepIn X.K (.ref f) = true) (hb : Binds X.K fd ps []) (hx : Passes (L2.CX X.prog X.w) X E)
    (ha : PA X (e :: es) t) (h1 : (x == ("__debug__" : Str)) = false := by decide) (h2 : starEach (e :: es) X.env = (false, eval e X.env) :: starEach es X.env := by rfl) (h3 : (backTo pos (starEach es X.env)).any (·.1) = false := by rfl) :
    PE X (.Call (.Name x p) (e :: es) [] pos) (tCo sp (wE E) t) := by
  refine ⟨fun pi s σ H Q I h => wpAny_Call_Name_kw (ld_glob I gl hm ?_ h1)⟩
  refine PySem.W.callWith_K (h₀ := X.base) I.ok.mod.kin hk (thn (ha.run pos pi s σ H _ I h) ?_) h2 h3
  rintro us s1 ⟨vs, H1, I1, r, q⟩
  refine ⟨I1.kIn, wpAny_call (codeAny_mono (F.run X.A X.stack s1 H1 ⟨us, []⟩ us vs Q E hr I1.env0 (bind0 hb I1 r (F.len _ _ _ _ q)) r q) fun rr s' hq => ?_)⟩
  match rr, hq with
  | .error er, z => exact hx pi σ H1 s1 er s' I1 z
  | .ok (.ret u), z => exact I1.after z
  | .ok .next, z => exact z.elim
  | .ok .brk, z => exact z.elim
  | .ok .cont, z => exact z.elim
end
end U

namespace U
open PySem L2 PySem.Spec PyProof.Rows PySem.SeqAt
/-! a dict beside tuples -/
theorem dict_eq_declines_tuple (l b : Addr) (es : Array DictEntry) (n : Nat) (dd : Option Addr) (sl : Array (Option Value)) (items2 : Array Value) (n2 : Nat) (dd2 : Option Addr) (sl2 : Array (Option Value)) :
    Meets (Builtin.«dict.__eq__» ⟨[.ref l, .ref b], []⟩) (fun _ R s => s.heap.get? l = some { cls := .type "dict", dict := dd, data := .dict es n, slots := sl } ∧ s.heap.get? b = some { cls := .type "tuple", dict := dd2, data := .seq items2 n2, slots := sl2 } ∧ R (.ok (.ret .notImplemented)) s) :=
  .of_wp fun prog w A R s h => by obtain ⟨hp, g, d, tk, os⟩ := s; obtain ⟨hl, hb, h⟩ := h; have f1 := F.sub_tuple_dict; wp_walk using wpAny_loadPart' hl, wpAny_loadPart' hb; exact ⟨_, rfl, h⟩
theorem tuple_eq_declines_dict (l b : Addr) (es : Array DictEntry) (n : Nat) (dd : Option Addr) (sl : Array (Option Value)) (items2 : Array Value) (n2 : Nat) (dd2 : Option Addr) (sl2 : Array (Option Value)) :
    Meets (Builtin.«tuple.__eq__» ⟨[.ref b, .ref l], []⟩) (fun _ R s => s.heap.get? l = some { cls := .type "dict", dict := dd, data := .dict es n, slots := sl } ∧ s.heap.get? b = some { cls := .type "tuple", dict := dd2, data := .seq items2 n2, slots := sl2 } ∧ R (.ok (.ret .notImplemented)) s) :=
  .of_wp fun prog w A R s h => by obtain ⟨hp, g, d, tk, os⟩ := s; obtain ⟨hl, hb, h⟩ := h; have f1 := F.sub_dict_tuple; wp_walk using wpAny_loadPart' hl, wpAny_loadPart' hb; exact ⟨_, rfl, h⟩
theorem eqAt_tuple_dict {A : Around} {s : Shared} {b l : Addr} {items : Array Value} {o : Obj} {es : Array DictEntry} {n : Nat} (hb : s.heap.IsTuple b items) (ho : s.heap.get? l = some o) (hc : o.cls = .type "dict") (hd : o.data = .dict es n) (hu : A.units < cLine) : EqAt A s (.ref b) (.ref l) false := by
  obtain ⟨cls, dd, data, sl⟩ := o
  obtain ⟨⟨cls2, dd2, data2, sl2⟩, ho2, hc2, n2, hd2⟩ := id hb
  simp only at hc hd hc2 hd2
  subst hc hd hc2 hd2
  have hne : b ≠ l := by
    rintro rfl
    rw [ho] at ho2
    have := congrArg (fun o : Option Obj => o.map (·.cls)) ho2
    simp at this
  refine .of_refs hne fun prog w E Q h => ?_
  exact (rc_eq_decline_or (k := false) ⟨_, ho2, rfl⟩ ⟨_, ho, rfl⟩ (by decide) F.sub_dict_tuple F.slot_tuple_eq F.slot_dict_eq_refl
    (fun _ hq => call_meets F.slot_tuple_eq ⟨_, ho2, rfl⟩ F.entry_tuple_eq (F.args_tuple_eq_2 _ _) (tuple_eq_declines_dict l b es n dd sl items n2 dd2 sl2) ⟨ho, ho2, hq⟩)
    (fun _ hq => call_meets F.slot_dict_eq_refl ⟨_, ho, rfl⟩ F.entry_dict_eq (F.args_dict_eq_2 _ _) (dict_eq_declines_tuple l b es n dd sl items n2 dd2 sl2) ⟨ho, ho2, hq⟩)
    (fun _ hq => wpAny_isSame_ref_other' hne ho2 ho (by simp) hq) (.inr hu) h)
def AllTup (H : Hp) (vs : List V) : Prop := ∀ v ∈ vs, ∃ u xs, v = V.ref u ∧ H u = some (.tup xs)
def rInTd (K : PySem.W.Frag) (ng : Bool) : R2 := fun x y H Q => ∃ (p a : Addr) (vs : List V) (kvs : List (Key × V)), x = .ref a ∧ H a = some (.dK kvs) ∧ y = .ref p ∧ SqL K H p vs ∧ AllTup H vs ∧ Q (.bl ng) H
def uInT (K : PySem.W.Frag) (ng : Bool) : R2 := fun x y H Q => uInX K ng x y H Q ∨ rInTd K ng x y H Q
section
variable {X : Cx} {k : Nat} {K : PySem.W.Frag}
theorem tups_eqAt {pins : List (Addr × Obj)} {σ : L2.St} {H : Hp} {A : Around} {s : Shared} {l : Addr} {o : Obj} {es : Array DictEntry} {n : Nat} (I : Inv X pins σ H s) (ho : s.heap.get? l = some o) (hc : o.cls = .type "dict") (hd : o.data = .dict es n) (hu : A.units < cLine) : ∀ {vs : List V} {us : List Value}, AllTup H vs → Vals vs us → ∀ u ∈ us, EqAt A s u (.ref l) false
  | [], _, _, .nil => fun u hu => by cases hu
  | z :: zs, _, ht, .cons r t => fun u' hu' => by
    rcases List.mem_cons.mp hu' with rfl | hm
    · obtain ⟨b, xs, rfl, e⟩ := ht z List.mem_cons_self
      cases r
      obtain ⟨its, _, ⟨o2, q1, q2, n2, q3⟩, _⟩ := I.tuple (SqT.of e)
      exact eqAt_tuple_dict (items := its.toArray) ⟨o2, q1, q2, n2, q3⟩ ho hc hd hu
    · exact tups_eqAt I ho hc hd hu (fun v hv => ht v (List.mem_cons_of_mem _ hv)) t u' hm
theorem op_inTd (hr : Room k X.A) : OpR X (compareOp .In) (rInTd X.K false) := by
  intro pins s σ H x y v u Q I rx ry h
  obtain ⟨p, a, zs, kvs, rfl, ea, rfl, hq, ht, q⟩ := h
  cases rx
  cases ry
  obtain ⟨z, hd, vs, rel, o, es, ep, h1, h2, h3, h4⟩ := dk_of I.hok ea
  obtain ⟨its, r, pl, hz⟩ := I.list hq
  refine SeqAt.in_listAt (fun _ => false) pl.isList (fun w hw => tups_eqAt I h1 h2.1 h3 (hu_of hr) ht r w (by simpa using hw)) ⟨.bl _, H, I, rfl, ?_⟩
  rw [show its.toArray.any (fun _ => false) = false by simp]
  exact q
theorem op_notInTd (hr : Room k X.A) : OpR X (compareOp .NotIn) (rInTd X.K true) := by
  intro pins s σ H x y v u Q I rx ry h
  obtain ⟨p, a, zs, kvs, rfl, ea, rfl, hq, ht, q⟩ := h
  cases rx
  cases ry
  obtain ⟨z, hd, vs, rel, o, es, ep, h1, h2, h3, h4⟩ := dk_of I.hok ea
  obtain ⟨its, r, pl, hz⟩ := I.list hq
  refine SeqAt.notIn_listAt (fun _ => false) pl.isList (fun w hw => tups_eqAt I h1 h2.1 h3 (hu_of hr) ht r w (by simpa using hw)) ⟨.bl _, H, I, rfl, ?_⟩
  rw [show its.toArray.any (fun _ => false) = false by simp]
  exact q
theorem o_inT (hK : X.K = K) (hr : Room k X.A) : OpR X (compareOp .In) (uInT K false) := by
  subst hK
  exact (o_inX rfl hr).or (op_inTd hr)
theorem o_notinT (hK : X.K = K) (hr : Room k X.A) : OpR X (compareOp .NotIn) (uInT K true) := by
  subst hK
  exact (o_notinX rfl hr).or (op_notInTd hr)
end
section
variable {K : PySem.W.Frag} {H : Hp} {Q : VK} {p a : Addr} {ng : Bool} {x y : V} {d : PyData} {ds : List PyData}
theorem s_inTd {kvs : List (Key × V)} {vs : List V} (h : H a = some (.dK kvs)) (g : SqL K H p vs) (t : AllTup H vs) (q : Q (.bl ng) H) : uInT K ng (.ref a) (.ref p) H Q := Or.inr ⟨p, a, vs, kvs, rfl, h, rfl, g, t, q⟩
theorem s_ninD (hl : Dn K H (.ref p) (.list ds)) (hy : Dn K H y d) (sl : SeqAt.shaped (.list ds) = true) (sd : SeqAt.shaped d = true) (q : Q (.bl (!ds.any fun z => PyData.eqv z d)) H) : uInT K true y (.ref p) H Q :=
  Or.inl (Or.inr (Or.inr ⟨d, ds, hy.dp (shp sd), hl.dp (shp sl), sd, sl, q⟩))
end
end U

namespace U
open PySem L2 PySem.Spec PyProof.Rows
/-! an except clause of three classes, all errors taken -/
theorem fly_keeps {B : Heap} {l : List Env} {a : Addr} {Z : Obj → Prop} {h h' : Heap} (f : HandSPX.FlyingZ B l a Z h) (k : ∀ b o, h.get? b = some o → h'.get? b = some o) : HandSPX.FlyingZ B l a Z h' := by
  obtain ⟨f1, f2, f3, oe, vs, T, oT, ts, he, hz, hd, h1, hnT, hTe, hT, hdT, h3⟩ := f
  exact ⟨fun b o e => k b o (f1 b o e), f2, f3.of_keeps fun b o e _ => ⟨o, k b o e, rfl⟩, oe, vs, T, oT, ts, k _ _ he, hz, hd, h1, hnT, hTe, k _ _ hT, hdT, h3⟩
theorem exm3 {K : PySem.W.Frag} {cls c1 c2 c3 : Value} {b1 b2 b3 : Bool} (h1 : PySem.W.exmOne K cls c1 = some b1) (h2 : PySem.W.exmOne K cls c2 = some b2) (h3 : PySem.W.exmOne K cls c3 = some b3) : PySem.W.exmAny K cls [c1, c2, c3] = some (b1 || (b2 || (b3 || false))) := by
  simp only [PySem.W.exmAny, h1, h2, h3]
def w3 (K : PySem.W.Frag) (c1 c2 c3 : Value) (D : Ends) (ts : Addr → Value → Option Addr → TS) : WX := fun cls d σ H => PySem.W.exmAny K cls [c1, c2, c3] = some true ∧ ∀ a, H a = none → ts a cls d D σ H
def tTry3 (K : PySem.W.Frag) (c1 c2 c3 : Value) (ts : Addr → Value → Option Addr → TS) (tb : WX → TS) : TS := fun D σ H => tb (w3 K c1 c2 c3 D ts) D σ H
section
variable {X : Cx} {body : List Stmt} {pos : Pos} {tb : WX → TS} {Wout : WX} {K : PySem.W.Frag}
theorem ps_try3 {x1 x2 x3 : Str} {c1 c2 c3 : Value} {p1 p2 p3 tp p' : Pos} {kk : Nat} {b0 : Stmt} {su : List Stmt} {ts : Addr → Value → Option Addr → TS} (hK : X.K = K) (hs : X.stack = X.env :: X.outer) (hf : X.env.frame = some X.env.locals)
    (hb : ∀ (W : WX) (pn : List (Addr × Obj)) (xe : Value → Shared → Prop), Takes (X.tr pn xe) W → PassesOwn (model X.prog X.w) X.A X.env xe → PSs (X.tr pn xe) body (tb W))
    (n1 : Names X x1 c1) (n2 : Names X x2 c2) (n3 : Names X x3 c3)
    (hsu : ∀ (a : Addr) (oe : Obj) (cls : Value) (d : Option Addr) (pn : List (Addr × Obj)), Zc cls d oe → (∃ vs, oe.data = .fields vs) → PSs (X.suite a ((a, oe) :: pn)) (b0 :: su) (ts a cls d)) :
    PS X (.Try body [.ExceptHandler (some (.Tuple [.Name x1 p1, .Name x2 p2, .Name x3 p3] kk tp)) none (b0 :: su) p'] [] [] pos) (tTry3 K c1 c2 c3 ts tb) := by
  subst hK
  refine ⟨fun pi s σ H D I h => wpAny_Try_except ?_⟩
  have ok := I.ok
  have hfr : X.A.frames = some (X.env :: X.outer) := by rw [ok.frames, hs]
  let xe : Value → Shared → Prop := fun e s1 => wpAny (model X.prog X.w) X.A (noteFrame e X.env) (fun _ s2 => wpAny (model X.prog X.w) X.A (setFlight e none)
    (fun _ s3 => wpAny (model X.prog X.w) X.A (handleBy e X.env [.ExceptHandler (some (.Tuple [.Name x1 p1, .Name x2 p2, .Name x3 p3] kk tp)) none (b0 :: su) p']) (SP X pi D) X.xe s3) X.xe s2) X.xe s1
  have tkx : Takes (X.tr (X.pn ++ pi) xe) (w3 X.K c1 c2 c3 D ts) := by
    rintro u s1 ⟨a, B, sI, pins1, σ1, H1, cls, d, rfl, J1, nb, up, sky, na, os, ag, hm, w⟩
    have J : Inv X pi σ1 H1 sI := J1.ofTry ok
    have sky1 : Sky B (X.env :: X.outer) a (Zc cls d) X.env.locals s1.heap := hs ▸ sky
    show wpAny (model X.prog X.w) X.A (noteFrame (.ref a) X.env) _ _ _
    refine Sky.land Zc.steady hfr hf sky1 fun h3 f3 u3 => ?_
    have J3 : Inv X pi σ1 H1 { s1 with heap := h3 } := J.landed nb f3.1 (up.trans u3) os ag
    obtain ⟨oe3, vs3, he3, hz3, hd3⟩ := f3.there
    have nfr : a ∉ frs (X.env :: X.outer) := fun hm => by
      obtain ⟨_, o', e', hnf⟩ := f3.2.2.1.mem hm
      rw [he3] at e'; cases e'
      exact hnf _ hd3
    have nL : a ≠ X.env.locals := fun z => nfr (List.mem_filterMap.mpr ⟨X.env, List.mem_cons_self, by rw [hf, z]⟩)
    have nF : a ∉ X.fs := fun hm => by
      obtain ⟨e, he, q⟩ := List.mem_filterMap.mp hm
      exact nfr (List.mem_filterMap.mpr ⟨e, List.mem_cons_of_mem _ he, q⟩)
    have S3 := J3.suite he3 hd3 na nL nF
    have LT : PySem.W.Looks (model X.prog X.w) h3 (typeOf (.ref a)) cls := fun A Q E s k q => wpAny_typeOf_ref (k _ _ he3) (by rw [hz3.1]; exact q)
    have test : ∀ {x : Str} {c : Value} {np : Pos} {Q : Value → Shared → Prop} {E : Value → Shared → Prop}, Names X x c → Q c { s1 with heap := h3 } →
        wpAny (model X.prog X.w) (X.A.mark (some (.ref a))) (eval (.Name x np) X.env) Q E { s1 with heap := h3 } := fun {x c np Q E} hc q => by
      obtain ⟨hg, hdb, hm | ⟨hm, hv, hnn⟩⟩ := hc
      · exact ld_glob (X := X.suite a ((a, oe3) :: (X.pn ++ pi))) S3 hg hm q hdb
      · exact ld_blt (X := X.suite a ((a, oe3) :: (X.pn ++ pi))) S3 hg hm hv q hnn hdb
    have kp : ∀ q o, h3.get? q = some o → (h3.push { cls := .type "tuple", data := .seq [c1, c2, c3].toArray }).get? q = some o := fun _ _ z => Heap.get?_push_of_some _ z
    refine wpAny_handleBy_cons (codeAny_handlers_test ?_) (by intro q; cases q)
    refine wpAny_Tuple ?_
    refine wpAny_items_cons (test n1 ?_)
    refine wpAny_items_cons (test n2 ?_)
    refine wpAny_items_cons (test n3 ?_)
    refine wpAny_items_nil ⟨by size_fits, ?_⟩
    refine (PySem.W.exm_tup3 (J3.kIn.keeps kp) (LT.keeps kp) (Heap.get?_push_size h3 rfl) hm).here ?_
    have f4 := fly_keeps f3 kp
    refine codeAny_handlers_suite (HandSPX.lands_againZ f4 fun h4 fl4 up4 => ?_)
    have J4 : Inv X pi σ1 H1 { s1 with heap := h4 } := J.landed nb fl4.1 (((up.trans u3).trans (Heap.UpToSlots.of_keeps kp)).trans up4) os ag
    obtain ⟨oe4, vs4, he4, hz4, hd4⟩ := fl4.there
    refine wpAny_mono ((hsu a oe4 cls d (X.pn ++ pi) hz4 ⟨_, hd4⟩).run [] _ _ H1 _ (J4.suite he4 hd4 na nL nF) (w a na)) (fun f s6 hsp => ?_) (fun _ _ z => False.elim z)
    match f, hsp with
    | .next, ⟨_, _, S6, q6⟩ => exact ⟨_, _, S6.unsuite ok, q6⟩
    | .brk, ⟨_, _, S6, q6⟩ => exact ⟨_, _, S6.unsuite ok, q6⟩
    | .cont, ⟨_, _, S6, q6⟩ => exact ⟨_, _, S6.unsuite ok, q6⟩
    | .ret u, ⟨_, _, _, S6, r6, q6⟩ => exact ⟨_, _, _, S6.unsuite ok, r6, q6⟩
  refine wpAny_mono ((hb _ (X.pn ++ pi) xe tkx PassesOwn.looking).run [] s σ H D (I.toTry _) h) (fun f s1 hsp => ?_) (fun e s1 he => he)
  match f, hsp with
  | .next, ⟨σ1, H1, J1, q⟩ => exact wpAny_execs_nil ⟨σ1, H1, J1.ofTry ok, q⟩
  | .brk, ⟨σ1, H1, J1, q⟩ => exact ⟨σ1, H1, J1.ofTry ok, q⟩
  | .cont, ⟨σ1, H1, J1, q⟩ => exact ⟨σ1, H1, J1.ofTry ok, q⟩
  | .ret u, ⟨v, σ1, H1, J1, r, q⟩ => exact ⟨v, σ1, H1, J1.ofTry ok, r, q⟩
theorem s_try3 {c1 c2 c3 : Value} {ts : Addr → Value → Option Addr → TS} {D : Ends} {σ : L2.St} {H : Hp} (h : tb (w3 K c1 c2 c3 D ts) D σ H) : tTry3 K c1 c2 c3 ts tb D σ H := h
end
theorem s_par3 {i j l : Nat} {ta : TA} {D : Ends} {σ : L2.St} {H : Hp} (h : ta σ H fun vs H1 => ∃ u v w, vs = [u, v, w] ∧ D.nx (((σ.set i (some u)).set j (some v)).set l (some w)) H1) : tPar3 i j l ta D σ H := h
theorem s_three {u v w : V} {R : V → V → V → Prop} (q : R u v w) : ∃ u' v' w', [u, v, w] = [u', v', w'] ∧ R u' v' w' := ⟨u, v, w, rfl, q⟩
/-! walks over a dict's values and pairs, the dict locked meanwhile -/
section
variable {H : Hp} {Q : VK} {σ : L2.St} {d A : Addr} {kvs : List (Key × V)} {t : TE} {g : TG} {tt : TT} {te : TE} {ns : List Nat} {Qd : Hp → Prop} {o : Obj}
/-- what a lock keeps: all but the dict -/
structure Lk (d : Addr) (u : HO) (H H1 : Hp) : Prop where
  at_ : ∃ od, H1 d = some (.frz od u)
  keep : ∀ b o, b ≠ d → H b = some o → H1 b = some o
  none_ : ∀ b, H1 b = none → H b = none
theorem unlock_kp {u : HO} {od : Obj} {H' : Hp} {ps : List Addr} (e : H d = some u) (nt : ∀ xs, u ≠ .tup xs) (k : Kp ps (upd H d (.frz od u)) H') (n : d ∉ ps) : Kp ps H (upd H' d u) where
  keep := fun b ob eb hb => by
    by_cases z : b = d
    · rw [z, e] at eb; rw [z, upd_same]; exact eb
    · rw [upd_ne z]
      exact k.keep b ob (by rw [upd_ne z]; exact eb) hb
  kd := fun b i hb => by
    by_cases z : b = d
    · obtain ⟨o1, e1, e2⟩ := hb
      rw [z, e] at e1
      cases e1
      exact ⟨_, by rw [z]; exact upd_same, e2⟩
    · obtain ⟨o1, e1, e2⟩ := hb
      obtain ⟨o2, e3, e4⟩ := k.kd b i ⟨o1, by rw [upd_ne z]; exact e1, e2⟩
      exact ⟨o2, by rw [upd_ne z]; exact e3, e4⟩
  tp := fun b xs eb => by
    by_cases z : b = d
    · rw [z, e] at eb
      cases eb
      exact (nt xs rfl).elim
    · rw [upd_ne z]
      exact k.tp b xs (by rw [upd_ne z]; exact eb)
/-- an expression under a lock: in H1 the dict is locked, else all is as in H -/
theorem s_lockE {u : HO} (e : H d = some u) (mu : Mut (some u)) (nt : ∀ xs, u ≠ .tup xs) (h : ∀ od H1, H1 d = some (.frz od u) → Lk d u H H1 → (∀ H', Kp [] H1 H' → Kp [] H (upd H' d u)) → t σ H1 fun v H' => H' d = some (.frz od u) ∧ Q v (upd H' d u)) : tLockE t σ H Q :=
  ⟨d, u, e, mu, fun od => h od _ upd_same ⟨⟨od, upd_same⟩, fun b ob hb eb => by rw [upd_ne hb]; exact eb, fun b hb => by
    by_cases z : b = d
    · rw [z, upd_same] at hb; cases hb
    · rwa [upd_ne z] at hb⟩ fun H' k => unlock_kp e nt k (by simp)⟩
theorem s_ivals {td : TE} {R : It → Hp → Prop} (h : td σ H fun x H1 => ∃ d o kvs, x = .ref d ∧ H1 d = some (.frz o (.dK kvs)) ∧ R (Itd d o kvs) H1) : iVals td σ H R := h
theorem s_iitems {td : TE} {R : It → Hp → Prop} (h : td σ H fun x H1 => ∃ d o kvs, x = .ref d ∧ H1 d = some (.frz o (.dK kvs)) ∧ R (Iti d o kvs) H1) : iItems td σ H R := h
theorem s_frzd {R : Addr → Obj → List (Key × V) → Prop} (e : H d = some (.frz o (.dK kvs))) (q : R d o kvs) : ∃ d' o' kvs', V.ref d = .ref d' ∧ H d' = some (.frz o' (.dK kvs')) ∧ R d' o' kvs' := ⟨d, o, kvs, rfl, e, q⟩
theorem lc_V (e : H d = some (.frz o (.dK kvs))) (hA : H A = none) (Pv : Nat → List V → Hp → Prop) (h0 : ∀ H', H' A = some (.lst []) → Kp [] H H' → Pv 0 [] H') (hG : ∀ i acc H', Pv i acc H' → ∀ o, H d = some o → H' d = some o)
    (hs : ∀ i k x acc H', kvs[i]? = some (k, x) → H' A = some (.lst acc) → Pv i acc H' → g x (wipe σ ns) H' fun σ2 H2 => wipe σ2 ns = wipe σ ns ∧ tt σ2 H2 fun b H3 =>
      if b = true then te σ2 H3 fun y H4 => ∃ acc, H4 A = some (.lst acc) ∧ acc.length < sizeLine ∧ PvD A Pv (i + 1) (upd H4 A (.lst (acc ++ [y]))) else PvD A Pv (i + 1) H3) (hd : ∀ acc H', H' A = some (.lst acc) → Pv kvs.length acc H' → Qd H') :
    ∃ W : Nat → Nat → Hp → Prop, (∃ m, W 0 m (upd H A (.lst []))) ∧ ∀ i m H, W i m H →
      ((Itd d o kvs).stop i H ∧ Qd H) ∨ ((Itd d o kvs).go i H ∧ ∃ Nx : Hp → Prop, (∀ H', Nx H' → ∃ m', m' < m ∧ W (i + 1) m' H') ∧ ∀ x H', (Itd d o kvs).yld i H x H' → g x (wipe σ ns) H' fun σ2 H2 => wipe σ2 ns = wipe σ ns ∧ tt σ2 H2 fun b H3 =>
        if b = true then te σ2 H3 fun y H4 => ∃ acc, H4 A = some (.lst acc) ∧ acc.length < sizeLine ∧ Nx (upd H4 A (.lst (acc ++ [y]))) else Nx H3) :=
  lc_it walk_values (PvD A Pv) (PvD.begin hA h0) (fun i H' _ p => by
    obtain ⟨acc, _, p⟩ := p
    exact hG i acc H' p _ e) (fun i x H1 H2 hi p y => by
    obtain ⟨rfl, k, ex⟩ := y
    obtain ⟨acc, ea, p⟩ := p
    exact hs i k x acc H2 ex ea p) (fun H' p => by
    obtain ⟨acc, ea, p⟩ := p
    exact hd acc H' ea p)
theorem lc_I (e : H d = some (.frz o (.dK kvs))) (hA : H A = none) (Pv : Nat → List V → Hp → Prop) (h0 : ∀ H', H' A = some (.lst []) → Kp [] H H' → Pv 0 [] H') (hG : ∀ i acc H', Pv i acc H' → ∀ o, H d = some o → H' d = some o)
    (hs : ∀ i k x acc H' T H2, kvs[i]? = some (k, x) → H' A = some (.lst acc) → Pv i acc H' → H' T = none → H2 T = some (.tup [kV k, x]) → Kp [] H' H2 → g (.ref T) (wipe σ ns) H2 fun σ2 H2 => wipe σ2 ns = wipe σ ns ∧ tt σ2 H2 fun b H3 =>
      if b = true then te σ2 H3 fun y H4 => ∃ acc, H4 A = some (.lst acc) ∧ acc.length < sizeLine ∧ PvD A Pv (i + 1) (upd H4 A (.lst (acc ++ [y]))) else PvD A Pv (i + 1) H3) (hd : ∀ acc H', H' A = some (.lst acc) → Pv kvs.length acc H' → Qd H') :
    ∃ W : Nat → Nat → Hp → Prop, (∃ m, W 0 m (upd H A (.lst []))) ∧ ∀ i m H, W i m H →
      ((Iti d o kvs).stop i H ∧ Qd H) ∨ ((Iti d o kvs).go i H ∧ ∃ Nx : Hp → Prop, (∀ H', Nx H' → ∃ m', m' < m ∧ W (i + 1) m' H') ∧ ∀ x H', (Iti d o kvs).yld i H x H' → g x (wipe σ ns) H' fun σ2 H2 => wipe σ2 ns = wipe σ ns ∧ tt σ2 H2 fun b H3 =>
        if b = true then te σ2 H3 fun y H4 => ∃ acc, H4 A = some (.lst acc) ∧ acc.length < sizeLine ∧ Nx (upd H4 A (.lst (acc ++ [y]))) else Nx H3) :=
  lc_it walk_items (PvD A Pv) (PvD.begin hA h0) (fun i H' _ p => by
    obtain ⟨acc, _, p⟩ := p
    exact hG i acc H' p _ e) (fun i x H1 H2 hi p y => by
    obtain ⟨T, x1, x2, rfl, f, rfl, e1, e2⟩ := y
    obtain ⟨kv, ek, rfl⟩ := Option.map_eq_some_iff.mp e1
    have e3 : Option.map Prod.snd kvs[i]? = some x2 := e2
    rw [ek] at e3
    cases e3
    obtain ⟨acc, ea, p⟩ := p
    exact hs i kv.1 kv.2 acc H1 T _ ek ea p f upd_same (Kp.refl.new f)) (fun H' p => by
    obtain ⟨acc, ea, p⟩ := p
    exact hd acc H' ea p)
end
end U

namespace U
open PySem L2 PySem.Spec PyProof.Rows PySem.SeqAt
/-! list.count of texts -/
def rCntS (K : PySem.W.Frag) : V → List V → Hp → VK → Prop := fun x xs H Q => ∃ (p : Addr) (zs : List Str) (z : Str), x = .ref p ∧ xs = [.str z] ∧ SqL K H p (zs.map V.str) ∧ Q (.int (zs.count z : Nat)) H
def uCnt (K : PySem.W.Frag) : V → List V → Hp → VK → Prop := fun x xs H Q => rCntI K x xs H Q ∨ rCntS K x xs H Q
theorem cnt_strs (k : Str) : ∀ {us : List Value} {zs : List Str}, StrsAre us zs → us.countP (isStrOf k) = zs.count k
  | _, _, .nil => rfl
  | _, _, .cons n t h => by
    have ih := cnt_strs k h
    rw [List.countP_cons, List.count_cons, ih] <;> rfl
section
variable {X : Cx} {k : Nat} {K : PySem.W.Frag}
theorem mt_cntS : MtR X "list.count" (rCntS X.K) := by
  intro pins s σ H x xs v us Q I rx rxs h
  obtain ⟨p, zs, z, rfl, rfl, hs, q⟩ := h
  cases rx
  obtain ⟨u, rfl, ru⟩ := rxs.one
  obtain ⟨t, rfl⟩ := ru
  obtain ⟨its, rv, ⟨⟨cls, dd, data, sl⟩, n, ho, hc, hdn, hd⟩, hlen⟩ := I.list hs
  simp only at hc hd
  subst hc hd
  have hi := strs_of_vals rv
  refine call_meets PySem.F.slot_list_count ⟨_, ho, rfl⟩ PySem.F.entry_list_count (PySem.F.args_list_count_2 _ _)
    (SeqAt.list_countAt p its.toArray n dd sl (.str z t) (isStrOf z)) ⟨ho, fun y hy => (eq_isStrOf z t hi y (by simpa using hy)).at _ _, ?_⟩
  have ec : its.toArray.toList.countP (isStrOf z) = zs.count z := cnt_strs z hi
  refine ⟨.int (zs.count z : Nat), H, I.tok _, ⟨s.toks, ?_⟩, q⟩
  show Value.int ((its.toArray.toList.countP (isStrOf z) : Nat) : Int) s.toks = Value.int ((zs.count z : Nat) : Int) s.toks
  rw [ec]
theorem mt_cnt (hK : X.K = K) : MtR X "list.count" (uCnt K) := hK ▸ mt_lcount.or mt_cntS
/-! dict(pairs) -/
def uDictP (K : PySem.W.Frag) : List V → Hp → VK → Prop := fun xs H Q => ∃ (a : Addr) (ps : List Addr) (kvs : List (Key × V)), xs = [.ref a] ∧ SqL K H a (ps.map V.ref) ∧ Paired (fun p kv => SqT K H p [kV kv.1, kv.2]) ps kvs ∧
    ∀ p, H p = none → Q (.ref p) (upd H p (.dK (mergeK [] kvs)))
theorem c_dictP (hK : X.K = K) (hc : X.calm = true) : CallR X (.type "dict") (uDictP K) := hK ▸ call_dictP hc
/-! any data in a tuple of texts -/
def rInTX (K : PySem.W.Frag) (ng : Bool) : R2 := fun x y H Q => ∃ (p a : Addr) (zs : List Str) (kvs : List (Key × V)), x = .ref a ∧ H a = some (.dK kvs) ∧ y = .ref p ∧ SqT K H p (zs.map V.str) ∧ Q (.bl ng) H
def rInTY (K : PySem.W.Frag) (ng : Bool) : R2 := fun x y H Q => ∃ d ds, Dp K H x d ∧ Dp K H y (.tuple ds) ∧ SeqAt.shaped d = true ∧ SeqAt.shaped (.tuple ds) = true ∧ Q (.bl (if ng then !ds.any fun z => PyData.eqv z d else ds.any fun z => PyData.eqv z d)) H
def uInZ (K : PySem.W.Frag) (ng : Bool) : R2 := fun x y H Q => uInX K ng x y H Q ∨ rInTX K ng x y H Q ∨ rInTY K ng x y H Q
theorem op_inTX (hr : Room k X.A) : OpR X (compareOp .In) (rInTX X.K false) := by
  intro pins s σ H x y v u Q I rx ry h
  obtain ⟨p, a, zs, kvs, rfl, ea, rfl, hq, q⟩ := h
  cases rx
  cases ry
  obtain ⟨z, hd, vs, rel, o, es, ep, h1, h2, h3, h4⟩ := dk_of I.hok ea
  obtain ⟨its, r, pl, hz⟩ := I.tuple hq
  refine SeqAt.in_tupleAt (fun _ => false) pl (fun w hw => strs_eqAt h1 h2.1 h3 (hu_of hr) r w (by simpa using hw)) ⟨.bl _, H, I, rfl, ?_⟩
  rw [show its.toArray.any (fun _ => false) = false by simp]
  exact q
theorem op_notInTX (hr : Room k X.A) : OpR X (compareOp .NotIn) (rInTX X.K true) := by
  intro pins s σ H x y v u Q I rx ry h
  obtain ⟨p, a, zs, kvs, rfl, ea, rfl, hq, q⟩ := h
  cases rx
  cases ry
  obtain ⟨z, hd, vs, rel, o, es, ep, h1, h2, h3, h4⟩ := dk_of I.hok ea
  obtain ⟨its, r, pl, hz⟩ := I.tuple hq
  refine SeqAt.notIn_tupleAt (fun _ => false) pl (fun w hw => strs_eqAt h1 h2.1 h3 (hu_of hr) r w (by simpa using hw)) ⟨.bl _, H, I, rfl, ?_⟩
  rw [show its.toArray.any (fun _ => false) = false by simp]
  exact q
theorem op_inTY (hu : X.A.units + 65 < cLine) : OpR X (compareOp .In) (rInTY X.K false) := by
  intro pins s σ H x y v u Q I rx ry h
  obtain ⟨d, ds, hd, he, sd, se, q⟩ := h
  obtain ⟨as, r1⟩ := Dp.reads I d x v hd rx
  obtain ⟨bs, r2⟩ := Dp.reads I (.tuple ds) y u he ry
  exact SeqAt.in_tuple_reads r2 r1 (SeqAt.canLay_of_shaped se) (SeqAt.canLay_of_shaped sd) (room_in_shaped sd hu) ⟨.bl _, H, I, rfl, q⟩
theorem op_notInTY (hu : X.A.units + 65 < cLine) : OpR X (compareOp .NotIn) (rInTY X.K true) := by
  intro pins s σ H x y v u Q I rx ry h
  obtain ⟨d, ds, hd, he, sd, se, q⟩ := h
  obtain ⟨as, r1⟩ := Dp.reads I d x v hd rx
  obtain ⟨bs, r2⟩ := Dp.reads I (.tuple ds) y u he ry
  exact SeqAt.notIn_tuple_reads r2 r1 (SeqAt.canLay_of_shaped se) (SeqAt.canLay_of_shaped sd) (room_in_shaped sd hu) ⟨.bl _, H, I, rfl, q⟩
theorem o_inZ (hK : X.K = K) (hr : Room k X.A) : OpR X (compareOp .In) (uInZ K false) := by
  subst hK
  exact (o_inX rfl hr).or ((op_inTX hr).or (op_inTY (by have := hr.un; omega)))
theorem o_notinZ (hK : X.K = K) (hr : Room k X.A) : OpR X (compareOp .NotIn) (uInZ K true) := by
  subst hK
  exact (o_notinX rfl hr).or ((op_notInTX hr).or (op_notInTY (by have := hr.un; omega)))
end
section
variable {K : PySem.W.Frag} {σ : L2.St} {H : Hp} {Q : VK} {p a : Addr} {zs : List Str} {ng : Bool} {x y : V} {d : PyData} {ns : List Int} {i : Int} {z : Str}
theorem s_cntS (h : SqL K H p (zs.map V.str)) (q : Q (.int (zs.count z : Nat)) H) : uCnt K (.ref p) [.str z] H Q := Or.inr ⟨p, zs, z, rfl, rfl, h, q⟩
theorem s_cntI (h : SqL K H p (ns.map V.int)) (q : Q (.int (ns.count i : Nat)) H) : uCnt K (.ref p) [.int i] H Q := Or.inl ⟨p, ns, i, rfl, rfl, h, q⟩
theorem merge_nd : ∀ {kvs acc : List (Key × V)}, ((acc ++ kvs).map (·.1)).Nodup → mergeK acc kvs = acc ++ kvs := by
  intro kvs
  induction kvs with
  | nil => intro acc _; simp [mergeK]
  | cons kv kvs ih =>
    intro acc nd
    show mergeK (putK acc kv.1 kv.2) kvs = _
    have hn : valV acc kv.1 = none := by
      cases e : valV acc kv.1 with
      | none => rfl
      | some v =>
        have m := valV_in e
        rw [List.map_append, List.map_cons] at nd
        exact absurd rfl ((List.nodup_append.mp nd).2.2 _ m _ (by simp))
    rw [putK_new _ hn]
    have := ih (acc := acc ++ [(kv.1, kv.2)]) (by rw [List.append_assoc]; exact nd)
    rw [this, List.append_assoc]
    rfl
theorem rw_pairs {vs : List V} {rs : List (Str × Int)} (h : Rw H vs (rs.map fun q => [V.str q.1, V.int q.2])) : ∃ ps : List Addr, vs = ps.map V.ref ∧ Paired (fun p kv => SqT K H p [kV kv.1, kv.2]) ps (rs.map fun q => ((Sum.inr q.1 : Key), V.int q.2)) := by
  generalize e : (rs.map fun q => [V.str q.1, V.int q.2]) = ys at h
  induction h generalizing rs with
  | nil =>
    cases rs with
    | nil => exact ⟨[], rfl, .nil⟩
    | cons _ _ => cases e
  | @cons u r vs ys e1 _ ih =>
    cases rs with
    | nil => cases e
    | cons q rs =>
      rw [List.map_cons] at e
      injection e with e2 e3
      obtain ⟨ps, rfl, hp⟩ := ih e3
      exact ⟨u :: ps, rfl, .cons (SqT.of (by rw [e1, ← e2]; rfl)) hp⟩
/-- dict of pairs of unlike texts and numbers -/
theorem s_dictP {vs : List V} {rs : List (Str × Int)} (h : SqL K H a vs) (r : Rw H vs (rs.map fun q => [V.str q.1, V.int q.2])) (nd : (rs.map (·.1)).Nodup)
    (q : ∀ p H', H p = none → H' p = some (.dK (rs.map fun q => ((Sum.inr q.1 : Key), V.int q.2))) → Kp [] H H' → Q (.ref p) H') : uDictP K [.ref a] H Q := by
  obtain ⟨ps, rfl, hp⟩ := rw_pairs (K := K) r
  refine ⟨a, ps, _, rfl, h, hp, fun p f => ?_⟩
  rw [merge_nd (acc := []) (by
    rw [List.nil_append, List.map_map]
    have : (rs.map ((fun kv : Key × V => kv.1) ∘ fun q => ((Sum.inr q.1 : Key), V.int q.2))) = (rs.map (·.1)).map fun z => (Sum.inr z : Key) := by rw [List.map_map]; rfl
    rw [this]
    exact nd.map _ (fun a b h e => h (Sum.inr.inj e))), List.nil_append]
  exact q p _ f upd_same (Kp.refl.new f)
theorem s_zX (h : uInX K ng x y H Q) : uInZ K ng x y H Q := Or.inl h
theorem s_zD {kvs : List (Key × V)} (h : H a = some (.dK kvs)) (g : SqT K H p (zs.map V.str)) (q : Q (.bl ng) H) : uInZ K ng (.ref a) (.ref p) H Q := Or.inr (Or.inl ⟨p, a, zs, kvs, rfl, h, rfl, g, q⟩)
theorem dna_strT : ∀ zs : List Str, DnA K H (zs.map V.str) (zs.map PyData.str)
  | [] => .nil
  | z :: zs => .cons (.str z) (dna_strT zs)
theorem shp_strT {zs : List Str} (h : ∀ z ∈ zs, ∀ c ∈ z.cps.toList, c < 1114112) : SeqAt.shaped (.tuple (zs.map PyData.str)) = true := by
  obtain ⟨h1, h2⟩ := lay_strs h
  unfold SeqAt.shaped
  rw [Bool.and_eq_true]
  refine ⟨by simpa only [PyData.canLay0] using h1, decide_eq_true ?_⟩
  simp only [PyData.depth]
  omega
theorem s_zY (h : Dn K H x d) (s : SeqAt.shaped d = true) (nd : noStr d = true) (g : SqT K H p (zs.map V.str)) (ok : ∀ z ∈ zs, ∀ c ∈ z.cps.toList, c < 1114112) (q : Q (.bl ng) H) : uInZ K ng x (.ref p) H Q := by
  refine Or.inr (Or.inr ⟨d, zs.map PyData.str, h.dp (shp s), (Dn.tup g (dna_strT zs)).dp (shp (shp_strT ok)), s, shp_strT ok, ?_⟩)
  rw [any_noStr nd zs]
  cases ng <;> exact q
end
/-! enumerate of a list or a tuple -/
def iEnumQ (K : PySem.W.Frag) (ta : TA) : TI := fun σ H R => ta σ H fun vs H1 => ∃ a xs, vs = [.ref a] ∧ ((SqL K H1 a xs ∧ R (Ite K a) H1) ∨ (SqT K H1 a xs ∧ R (IteT K a) H1))
theorem pi_enumQ {X : Cx} {K : PySem.W.Frag} {e : Expr} {ta : TA} {p pos tpos : Pos} {elts : List Expr} {kk : Nat} (hK : X.K = K) (hg : Gl X "enumerate") (hm : X.mg "enumerate" = none) (ha : PA X [e] ta) (hs : starEach [e] X.env = [(false, eval e X.env)] := by rfl) :
    PI X (.Tuple elts kk tpos) (.Call (.Name "enumerate" p) [e] [] pos) (iEnumQ K ta) := by
  subst hK
  refine ⟨fun pins s σ H R I h => ?_⟩
  refine Call_ (ld_blt I hg hm boot_enumerate (PyProof.Rows.callWith_type1 (thn (ha.run pos pins s σ H _ I h) fun us s1 ⟨vs, H1, I1, r1, q1⟩ => ?_) hs rfl))
  obtain ⟨a, xs, ex, q⟩ := q1
  subst ex
  cases r1 with
  | cons r rr =>
    cases rr
    cases r
    have hle : ∀ b, (b = s1.heap.objs.size + 1 ∨ b = s1.heap.objs.size) → s1.heap.objs.size ≤ b := fun b z => by
      rcases z with z | z
      · rw [z]; exact Nat.le_add_right _ _
      · rw [z]; exact Nat.le_refl _
    rcases q with ⟨hq, q⟩ | ⟨hq, q⟩
    · obtain ⟨its, rv, p', hz⟩ := I1.list hq
      refine call_enumerate_list p'.isList fun h' he hit hsz hk => wpAny_pyIter_enum he ?_
      have I2 : Inv X pins σ H1 { s1 with heap := h' } := I1.kept (t' := s1.toks) hk
      exact ⟨s1.heap.objs.size + 1, [s1.heap.objs.size + 1, s1.heap.objs.size], _, _, H1, rfl, I2, turn_enum a (s1.heap.objs.size + 1) s1.heap.objs.size, ⟨⟨.none, he⟩, hit, Nat.succ_ne_self _⟩, fun b hb => I1.fpOk (hle b (by simpa using hb)) (I1.hok.fresh (hle b (by simpa using hb))), q⟩
    · obtain ⟨its, rv, p', hz⟩ := I1.tuple hq
      refine enum_begins1 (begins_tuple a its.toArray) (show s1.heap.IsTuple a its.toArray from p') fun h' he hit hsz hk => wpAny_pyIter_enum he ?_
      have I2 : Inv X pins σ H1 { s1 with heap := h' } := I1.kept (t' := s1.toks) hk
      exact ⟨s1.heap.objs.size + 1, [s1.heap.objs.size + 1, s1.heap.objs.size], _, _, H1, rfl, I2, turn_enumT a (s1.heap.objs.size + 1) s1.heap.objs.size, ⟨⟨.none, he⟩, ⟨_, hit, rfl, rfl⟩, Nat.succ_ne_self _⟩, fun b hb => I1.fpOk (hle b (by simpa using hb)) (I1.hok.fresh (hle b (by simpa using hb))), q⟩
section
variable {K : PySem.W.Frag} {σ : L2.St} {H : Hp} {R : It → Hp → Prop} {ta : TA} {a : Addr} {xs : List V}
theorem s_ienQ (h : ta σ H fun vs H1 => ∃ a xs, vs = [.ref a] ∧ ((SqL K H1 a xs ∧ R (Ite K a) H1) ∨ (SqT K H1 a xs ∧ R (IteT K a) H1))) : iEnumQ K ta σ H R := h
theorem s_eQL {L S : Addr → Prop} (h : H a = some (.lst xs)) (q : L a) : ∃ a' xs', [V.ref a] = [.ref a'] ∧ ((SqL K H a' xs' ∧ L a') ∨ (SqT K H a' xs' ∧ S a')) := ⟨a, xs, rfl, Or.inl ⟨SqL.of h, q⟩⟩
theorem s_eQT {L S : Addr → Prop} (h : H a = some (.tup xs)) (q : S a) : ∃ a' xs', [V.ref a] = [.ref a'] ∧ ((SqL K H a' xs' ∧ L a') ∨ (SqT K H a' xs' ∧ S a')) := ⟨a, xs, rfl, Or.inr ⟨SqT.of h, q⟩⟩
end
end U

namespace U
open PySem L2 PySem.Spec PyProof.Rows
/-! the head by one run: what it leaves, read by a Hook -/
def nxA (g : Addr → Option Obj) (as : List Addr) : List Addr := as.flatMap fun a => match g a with
  | some o => He.refsO o
  | none => []
def lvA (g : Addr → Option Obj) : Nat → List Addr → List Addr
  | 0, as => as
  | n + 1, as => as ++ lvA g n (nxA g as)
def asU (g : Addr → Option Obj) : List Addr := lvA g 4 [mainGlobals, cStatics]
abbrev Ck : Type := PySem.W.Frag → Bool
def obsU (ck : List (List Ck)) (fn : List He.DefD) (K : PySem.W.Frag) : He.AlD := ((ck.all fun r => r.all fun c => c K) && fn.all fun d => d.ok K, fn.map fun d => He.fnW K d.at_)
def obsUG (ck : List (List Ck)) (fn : List He.DefD) (g : Addr → Option Obj) : He.AlD := obsU ck fn (He.frG g (asU g))
def hookU (ck : List (List Ck)) (fn : List He.DefD) : PySem.W.Hook where
  α := He.AlD
  obs := fun s => obsUG ck fn s.heap.get?
  val := fun _ => He.valD fn
  says := fun _ h => ∃ K : PySem.W.Frag, K.In h ∧ obsU ck fn K = He.valD fn
  of := fun _ _ e => ⟨_, He.frG_in, e⟩
  keeps := fun _ _ _ ⟨K, hK, c⟩ k => ⟨K, PySem.W.Frag.In.keeps hK k, c⟩
theorem obsUG_eq {ck : List (List Ck)} {fn : List He.DefD} {g : Addr → Option Obj} {s : Shared} (h : ∀ a, g a = s.heap.get? a) : obsUG ck fn g = (hookU ck fn).obs s := by
  have e : g = s.heap.get? := funext h
  rw [e] <;> rfl
section
variable {ck : List (List Ck)} {fn : List He.DefD} {K : PySem.W.Frag}
theorem ckU (c : obsU ck fn K = He.valD fn) (i j : Nat) {r : List Ck} {f : Ck} (h1 : ck[i]? = some r) (h2 : r[j]? = some f) : f K = true := by
  have c1 := (He.ba (show ((ck.all fun r => r.all fun c => c K) && fn.all fun d => d.ok K) = true from congrArg (fun z : He.AlD => z.1) c)).1
  exact List.all_eq_true.mp (List.all_eq_true.mp c1 r (List.mem_of_getElem? h1)) f (List.mem_of_getElem? h2)
theorem defU (c : obsU ck fn K = He.valD fn) (i : Nat) {d : He.DefD} (h : fn[i]? = some d) : ∃ fd, FunD K d.name d.qual d.params d.body d.scope (d.dvs K) (d.kws K) (He.fAd K d.at_) fd := by
  have c2 := (He.ba (show ((ck.all fun r => r.all fun c => c K) && fn.all fun d => d.ok K) = true from congrArg (fun z : He.AlD => z.1) c)).2
  have e : fn.map (fun d => He.fnW K d.at_) = fn.map He.DefD.val := congrArg (fun z : He.AlD => z.2) c
  have e2 : (fn.map fun d => He.fnW K d.at_)[i]? = (fn.map He.DefD.val)[i]? := by rw [e]
  rw [List.getElem?_map, List.getElem?_map, h] at e2
  exact He.DefD.funD (Option.some.inj e2) (List.all_eq_true.mp c2 d (List.mem_of_getElem? h))
variable {nm ql : Str} {pr : Arguments} {bd : List Stmt} {sc : Scope} {f : Addr}
theorem def0 (F : ∃ fd, FunD K nm ql pr bd sc [] [] f fd) : ∃ (oc : Value) (od : Option Addr) (sl : Array (Option Value)) (kV dc pm : Value) (an : Option Addr) (cd ct : Value),
    K.lookup f = some ⟨oc, od, .func (PySem.W.fnOf nm ql pr bd sc .none kV dc pm an cd ct), sl⟩ ∧ PySem.W.codeIn K cd ql = true ∧ PySem.W.keepIn K (.ref f) = true := by
  obtain ⟨fd, ⟨oc, od, dV, kV, dc, pm, an, cd, ct, sl, rfl, lk, co, dv, _⟩, kp⟩ := F
  rcases dv with ⟨e, _⟩ | ⟨e, _⟩
  · first
      | (subst e; exact ⟨oc, od, sl, kV, dc, pm, an, cd, ct, lk, co, kp⟩)
      | (rename_i e2; subst e2; exact ⟨oc, od, sl, kV, dc, pm, an, cd, ct, lk, co, kp⟩)
  · exact (e rfl).elim
theorem defN (F : ∃ fd, FunD K nm ql pr bd sc [.non] [] f fd) : ∃ (oc : Value) (od : Option Addr) (sl : Array (Option Value)) (kV dc pm : Value) (an : Option Addr) (cd ct : Value) (T : Addr) (oT : Obj) (nT : Nat),
    K.lookup f = some ⟨oc, od, .func (PySem.W.fnOf nm ql pr bd sc (.ref T) kV dc pm an cd ct), sl⟩ ∧ PySem.W.codeIn K cd ql = true ∧ PySem.W.keepIn K (.ref f) = true ∧ K.lookup T = some oT ∧ oT.data = .seq #[Value.none] nT := by
  obtain ⟨fd, ⟨oc, od, dV, kV, dc, pm, an, cd, ct, sl, rfl, lk, co, dv, _⟩, kp⟩ := F
  rcases dv with h | ⟨_, T, oT, its, n, rfl, lT, dT, vs⟩
  · obtain ⟨h1, h2⟩ := h
    first | cases h1 | cases h2
  · cases vs with
    | cons a r =>
      cases r
      cases a
      exact ⟨oc, od, sl, kV, dc, pm, an, cd, ct, T, oT, n, lk, co, kp, lT, by simpa using dT⟩
/-- an own error's class -/
def excU (K : PySem.W.Frag) (C : Addr) : Bool := match K.lookup C with
  | some ⟨.type "type", _, .cls cd, sl⟩ => (match cd.mro, sl.toList with
    | .ref C' :: bm, [_, _, _, _, some (.builtin n), _] => C' == C && n == "ValueError.__new__" && !cd.hasDel && cd.hasDict && PySem.HandSPX.refsVE bm
    | _, _ => false)
  | _ => false
theorem excU_ok {C : Addr} (q : excU K C = true) : ∃ (nm qn : Str) (N : Addr) (bs bm : List Value) (sn : List Str) (sub : List Value) (ab : Bool) (col : Option Bool) (dd : Option Addr) (e0 e1 e2 e3 e5 : Option Value),
    K.lookup C = some (excClassObj nm qn C N bs bm true sn sub ab col dd e0 e1 e2 e3 e5 "ValueError.__new__") ∧ PySem.HandSPX.refsVE bm = true := by
  unfold excU at q
  split at q
  · rename_i dd cd sl ho
    split at q
    · rename_i C' bm k0 k1 k2 k3 n k5 hm hs
      simp only [Bool.and_eq_true, beq_iff_eq, Bool.not_eq_true'] at q
      obtain ⟨⟨⟨⟨rfl, rfl⟩, hdel⟩, hd⟩, ht⟩ := q
      obtain ⟨nm, bs, mro, ns, qn, hd', sn, sub, ab, col, del⟩ := cd
      dsimp only at hm hdel hd
      subst hm hdel hd
      have hsl : sl = #[k0, k1, k2, k3, some (.builtin "ValueError.__new__"), k5] := by
        obtain ⟨l⟩ := sl
        simp only at hs
        rw [hs]
      subst hsl
      exact ⟨nm, qn, ns, bs, bm, sn, sub, ab, col, dd, k0, k1, k2, k3, k5, ho, ht⟩
    · cases q
  · cases q
def isVal (a : Option PySem.W.CFound) (v : Value) : Bool := match a with
  | some (.val u) => decide (u = v)
  | _ => false
theorem isVal_ok {a : Option PySem.W.CFound} {v : Value} (q : isVal a v = true) : a = some (.val v) := by
  unfold isVal at q
  split at q
  · rw [of_decide_eq_true q]
  · cases q
/-- a constant of the module -/
def conU (K : PySem.W.Frag) (x : Str) (v : V) : Bool := match PySem.W.nsIn K mainGlobals x with
  | some (some u) => He.relB v u
  | _ => false
theorem conU_ok {x : Str} {v : V} (q : conU K x v = true) : ∃ u, PySem.W.nsIn K mainGlobals x = some (some u) ∧ RelV v u := by
  unfold conU at q
  split at q
  · rename_i u e
    exact ⟨u, e, He.relB_ok q⟩
  · cases q
def tupU (K : PySem.W.Frag) (t : Addr) (vs : List V) : Bool := match K.lookup t with
  | some ⟨.type c, none, .seq its _, _⟩ => decide (c = "tuple") && (decide (its.size ≤ sizeLine) && He.relAll vs its.toList)
  | _ => false
theorem tupU_ok {t : Addr} {vs : List V} (h : tupU K t vs = true) : ∃ oT, K.lookup t = some oT ∧ (oT.cls = .type "tuple" ∧ oT.dict = none) ∧ ∃ (its : Array Value) (n : Nat), oT.data = .seq its n ∧ its.size ≤ sizeLine ∧ Vals vs its.toList := by
  unfold tupU at h
  split at h
  · rename_i c its n sl e
    obtain ⟨h1, h2⟩ := He.ba h
    obtain ⟨h3, h4⟩ := He.ba h2
    exact ⟨_, e, ⟨congrArg Value.type (of_decide_eq_true h1), rfl⟩, its, n, rfl, of_decide_eq_true h3, He.relAll_ok h4⟩
  · cases h
end
/-- the end of a law, over a head by facts -/
theorem walkGE {l : PySem.W.OpenLaw} {n k : Nat} {q : Program} {lo : List Str} {XP : (Str → Option Value) → Heap → Prop} {YP : World → Heap → Prop} {d : DefRec} {cx : World → CXT} {sp : World → PySem.W.Frag → Sp} {x : Str}
    (hn : l.most = some n) (hn2 : n ≤ sizeLine) (hdf : d.params.defaults = []) (hr : Room k callerA) (him : importsNone q = true)
    (F : ∀ (w : World) (mg : Str → Option Value) (fa : Addr) (h : Heap), YP w h → h.Ns mainGlobals mg → mg d.name = some (.ref fa) →
      ∃ (K : PySem.W.Frag) (fd : FuncData), K.In h ∧ (∀ (s : Shared) (u : Value), BindsTo s fd ⟨[u], []⟩ [(x, u)]) ∧
        ∀ base : Heap, K.In base → base.Ns mainGlobals mg → (∃ mm, base.Ns sysModules mm) → FnG l.prog w K mg base (cx w) k fa fd [x] (sp w K))
    (hsp : ∀ (w : World) (K : PySem.W.Frag) (H : Hp) (a : Addr) (ns : List Int), ns.length ≤ n → (∀ z ∈ ns, Builtin.Int.intBits z ≤ 1048576) → SqL K H a (ns.map V.int) → sp w K [.ref a] H (fun v _ => v = .bl true) fun _ _ _ => False)
    (hcx : ∀ (w : World) (H : Hp) (s : Shared) (e : Value) (s' : Shared), cx w [] H s (fun _ _ _ => False) e s' → False) :
    PySem.W.WalkO q lo XP YP l.row.toRowW d [] (fun f vs => PySem.call f vs) := by
  refine Att.attach_callB hn hdf ?_
  intro w s0 s1 mg mb fa o pm cd doc a vs ns G Y ho hd hcd hmg hob hin hle hbi hge
  obtain ⟨K, fd, KX, hb, hF⟩ := F w mg fa _ Y G.T.g hmg
  have hsy : ∃ mm, s1.heap.Ns sysModules mm := by
    obtain ⟨mm, z, _⟩ := (G.T.seer him).mods
    exact ⟨mm, z⟩
  exact law_callG KX G.T.g G.T.b G.T.builtins G.T.nolimit hsy hge hob hin (Nat.le_trans hle hn2) hr hF hb (fun H hS => hsp w K H a ns hle hbi hS) fun H e s' => hcx w H s1 e s'
end U

namespace U
open PySem L2 PySem.Spec PyProof.Rows
/-! the structural steps of a walk as instances: found by their head -/
class Stp (G : Prop) (H : outParam Prop) : Prop where
  go : H → G
class GetV (σ : L2.St) (i : Nat) (v : outParam V) : Prop where
  eq : σ[i]? = some (some v)
instance {v : V} {r : L2.St} : GetV (some v :: r) 0 v := ⟨rfl⟩
instance {x : Option V} {r : L2.St} {i : Nat} {v : V} [h : GetV r i v] : GetV (x :: r) (i + 1) v := ⟨h.eq⟩
class SetV (σ : L2.St) (i : Nat) (v : V) (τ : outParam L2.St) : Prop where
  eq : σ.set i (some v) = τ
instance {x : Option V} {v : V} {r : L2.St} : SetV (x :: r) 0 v (some v :: r) := ⟨rfl⟩
instance {x : Option V} {v : V} {r τ : L2.St} {i : Nat} [h : SetV r i v τ] : SetV (x :: r) (i + 1) v (x :: τ) := ⟨congrArg (x :: ·) h.eq⟩
instance {σ : L2.St} {i : Nat} {v : V} {H : Hp} {Q : VK} [h : GetV σ i v] : Stp (tVar i σ H Q) (Q v H) := ⟨fun q => ⟨v, h.eq, q⟩⟩
instance {σ τ : L2.St} {i : Nat} {v : V} {H : Hp} {R : L2.St → Hp → Prop} [h : SetV σ i v τ] : Stp (gName i v σ H R) (R τ H) := ⟨fun q => s_nameR h.eq q⟩
section
variable {K : PySem.W.Frag} {X : Cx}
instance {g : TG} : Stp (tAsg te g D σ H) (te σ H fun x H1 => g x σ H1 D.nx) := ⟨s_asg⟩
instance  : Stp (tRet te D σ H) (te σ H D.rt) := ⟨s_ret⟩
instance  : Stp (tNext D σ H) (D.nx σ H) := ⟨s_next⟩
instance  : Stp (tBreak D σ H) (D.bk σ H) := ⟨s_brk⟩
instance  : Stp (tCont D σ H) (D.ct σ H) := ⟨s_cnt⟩
instance  : Stp (tRetN D σ H) (D.rt .non H) := ⟨s_retN⟩
instance  : Stp (tDrop te D σ H) (te σ H fun _ H1 => D.nx σ H1) := ⟨s_drop⟩
instance  : Stp (tOp r ta tb σ H Q) (ta σ H fun x H1 => tb σ H1 fun y H2 => r x y H2 Q) := ⟨s_op⟩
instance  : Stp (tC v σ H Q) (Q v H) := ⟨s_c⟩
instance {r : V → Hp → VK → Prop} : Stp (tUn r ta σ H Q) (ta σ H fun x H1 => r x H1 Q) := ⟨s_un⟩
instance {Q : Bool → Hp → Prop} : Stp (tTest te σ H Q) (te σ H fun x H' => ∃ k, x = .bl k ∧ Q k H') := ⟨s_test⟩
instance {Q : Bool → Hp → Prop} : Stp (tB te σ H Q) (te σ H fun x H' => ∃ k, x = .bl k ∧ Q k H') := ⟨s_B⟩
instance {Q : Bool → Hp → Prop} : Stp (tNot tA σ H Q) (tA σ H fun c H1 => Q (!c) H1) := ⟨s_not⟩
instance  : Stp (tNotV ta σ H Q) (ta σ H fun x H1 => ∃ c, x = .bl c ∧ Q (.bl (!c)) H1) := ⟨s_notV⟩
instance  : Stp (tIf tA ta tb σ H Q) (tA σ H fun c H1 => if c = true then ta σ H1 Q else tb σ H1 Q) := ⟨s_if⟩
instance  : Stp (uAdd K (.int n) (.int m) H Q) (Q (.int (n + m)) H) := ⟨s_add⟩
instance  : Stp (uSub (.int n) (.int m) H Q) (Q (.int (n - m)) H) := ⟨s_sub⟩
instance  : Stp (uLt (.int n) (.int m) H Q) (Q (.bl (decide (n < m))) H) := ⟨s_lt⟩
instance  : Stp (uLe (.int n) (.int m) H Q) (Q (.bl (decide (n ≤ m))) H) := ⟨s_le⟩
instance  : Stp (uGt (.int n) (.int m) H Q) (Q (.bl (decide (m < n))) H) := ⟨s_gt⟩
instance  : Stp (uGe (.int n) (.int m) H Q) (Q (.bl (decide (m ≤ n))) H) := ⟨s_ge⟩
instance  : Stp (uEq K (.int n) (.int m) H Q) (Q (.bl (decide (n = m))) H) := ⟨s_eqi⟩
instance  : Stp (uNe K (.int n) (.int m) H Q) (Q (.bl (!decide (n = m))) H) := ⟨s_nei⟩
instance  : Stp (uEq K (.str a) (.str b) H Q) (Q (.bl (decide (a = b))) H) := ⟨s_eqs⟩
instance  : Stp (uNe K (.str a) (.str b) H Q) (Q (.bl (!decide (a = b))) H) := ⟨s_nes⟩
instance {c : Nat} {z : Str} : Stp (uIn K false (.str ⟨#[c]⟩) (.str z) H Q) (Q (.bl (decide (c ∈ z.cps.toList))) H) := ⟨s_in1⟩
instance {c : Nat} {z : Str} : Stp (uIn K true (.str ⟨#[c]⟩) (.str z) H Q) (Q (.bl (!decide (c ∈ z.cps.toList))) H) := ⟨s_notin1⟩
instance  : Stp (uIs x .non H Q) (Q (.bl (decide (x = .non))) H) := ⟨s_is⟩
instance {a b : Bool} {H : Hp} {Q : VK} : Stp (uIsB (.bl a) (.bl b) H Q) (Q (.bl (decide (a = b))) H) := ⟨s_isb⟩
instance  : Stp (uIsNot x .non H Q) (Q (.bl (!decide (x = .non))) H) := ⟨s_isnot⟩
instance {Q : List V → Hp → Prop} : Stp (tNil σ H Q) (Q [] H) := ⟨s_nil⟩
instance {Q : List V → Hp → Prop} {tr : TA} : Stp (tCons te tr σ H Q) (te σ H fun x H1 => tr σ H1 fun xs H2 => Q (x :: xs) H2) := ⟨s_cons⟩
instance {t : TA} : Stp (tLst t σ H Q) (t σ H (LstK Q)) := ⟨s_lst⟩
instance {t : TA} : Stp (tTup t σ H Q) (t σ H (TupK Q)) := ⟨s_tup⟩
instance {r : List V → Hp → VK → Prop} {t : TA} : Stp (tCB r t σ H Q) (t σ H fun vs H1 => r vs H1 Q) := ⟨s_cb⟩
instance {sp : Sp} {E : XK} {t : TA} : Stp (tGo sp E t σ H Q) (t σ H fun vs H1 => sp vs H1 Q E) := ⟨s_go⟩
instance  : Stp (tCo sp W t σ H Q) (t σ H fun vs H1 => sp vs H1 Q fun cls d H' => W cls d σ H') := ⟨s_co⟩
instance  : Stp (tMt C m sp W ta t σ H Q) (ta σ H (MtK C m fun x H1 => t σ H1 fun vs H2 => sp (x :: vs) H2 Q fun cls d H' => W cls d σ H')) := ⟨s_mt⟩
instance  : Stp (tNw C sp W t σ H Q) (t σ H (NewK C sp (fun cls d H' => W cls d σ H') Q)) := ⟨s_nw⟩
instance {C : Addr} {sp : Sp} {W : WX} {t : TA} {σ : L2.St} {H : Hp} {Q : VK} : Stp (tNwD C sp W t σ H Q) (t σ H fun vs H1 => NewK C sp (fun cls d H' => W cls d σ H') Q (vs ++ [.non]) H1) := ⟨s_nwD⟩
instance  : Stp (tFd K ta f σ H Q) (ta σ H (FldK K f Q)) := ⟨s_fd⟩
instance  : Stp (tSd K ta tv f D σ H) (tv σ H fun y H1 => ta σ H1 (SetK K f y (D.nx σ))) := ⟨s_sd⟩
instance {tv : TE} {rd : V → V → Hp → VK → Prop} : Stp (tFa K te tv rd f D σ H) (te σ H (FaK K f fun a C v H1 => tv σ H1 fun y H2 => rd v y H2 (FbK f a C (D.nx σ)))) := ⟨s_fa⟩
instance {n m : Int} : Stp (rAdd (.int n) (.int m) H Q) (Q (.int (n + m)) H) := ⟨s_radd⟩
instance {n m : Int} : Stp (rSub (.int n) (.int m) H Q) (Q (.int (n - m)) H) := ⟨s_rsub⟩
instance {cls : Value} {d : Option Addr} : Stp (tXe a cls d C f te σ H Q) (te σ H (XfK a cls d C f Q)) := ⟨s_xe⟩
instance  : Stp (tSe K t σ H Q) (t σ H (SeK K Q)) := ⟨s_se⟩
instance  : Stp (tOs K f to te D σ H) (te σ H fun y H1 => to σ H1 (OsK K f y (D.nx σ))) := ⟨s_os⟩
instance {W : WX} : Stp (tRz C f W te D σ H) (te σ H (RzK C f fun cls d H' => W cls d σ H')) := ⟨s_rz⟩
instance {Wout : WX} {l : List Clause} {tb : WX → TS} : Stp (tTry K Wout l tb D σ H) (tb (wCl K Wout D l) D σ H) := ⟨s_try⟩
instance  : Stp (tDg td ty σ H Q) (td σ H fun x H1 => ty σ H1 (DgK x Q)) := ⟨s_dg⟩
instance {ng : Bool} : Stp (tDn ng ty td σ H Q) (ty σ H fun y H1 => td σ H1 (DnK ng y Q)) := ⟨s_dn⟩
instance  : Stp (tPop td ty σ H Q) (td σ H (PopJ ty σ Q)) := ⟨s_pop⟩
instance  : Stp (tBM K T r to t σ H Q) (to σ H fun x H1 => tyV K T x H1 ∧ t σ H1 fun xs H2 => r x xs H2 Q) := ⟨s_bm⟩
instance {R : L2.St → Hp → Prop} : Stp (gNil [] σ H R) (R σ H) := ⟨s_gn⟩
instance {R : L2.St → Hp → Prop} : Stp (gTl to tl v σ H R) (to σ H fun x H1 => tl σ H1 (TlK x v (R σ))) := ⟨s_tl⟩
instance {R : L2.St → Hp → Prop} {t : TG} {u : TGs} : Stp (gCons t u (v :: vs) σ H R) (t v σ H fun σ1 H1 => u vs σ1 H1 R) := ⟨s_gc⟩
instance {ta : TA} {R : It → Hp → Prop} : Stp (iRng2 ta σ H R) (ta σ H fun vs H1 => ∃ i j : Int, vs = [.int i, .int j] ∧ (-(2 ^ 62) ≤ i ∧ i < 2 ^ 62 ∧ -(2 ^ 62) ≤ j ∧ j < 2 ^ 62) ∧ R (Itr i (j - i).toNat) H1) := ⟨s_rng2⟩
instance  : Stp (tBM0 K T r to σ H Q) (to σ H fun x H1 => tyV K T x H1 ∧ r x [] H1 Q) := ⟨s_bm0⟩
instance {R : Prop} : Stp (tyV K "str" (.str z) H ∧ R) (R) := ⟨s_tys⟩
instance {Q : List (V × V) → Hp → Prop} : Stp (tPairs [] σ H Q) (Q [] H) := ⟨s_pnil⟩
instance {Q : List (V × V) → Hp → Prop} {tk tv : TE} {r : List (TE × TE)} : Stp (tPairs ((tk, tv) :: r) σ H Q) (tk σ H fun x H1 => tv σ H1 fun y H2 => tPairs r σ H2 fun ps H3 => Q ((x, y) :: ps) H3) := ⟨s_pcons⟩
instance  : Stp (uMax [.int n, .int m] H Q) (Q (.int (if m > n then m else n)) H) := ⟨s_max2⟩
instance  : Stp (uMin [.int n, .int m] H Q) (Q (.int (if m < n then m else n)) H) := ⟨s_min2⟩
instance {to ti : TE} {t : V → V → V → Hp → (Hp → Prop) → Prop} {R : L2.St → Hp → Prop} : Stp (gSub to ti t v σ H R) (to σ H fun o H1 => ti σ H1 fun i H2 => t o i v H2 fun H3 => R σ H3) := ⟨s_sub2⟩
instance {r : V → Option Int → Option Int → Hp → VK → Prop} {te : TE} {tl th : TO} : Stp (tSl r te tl th σ H Q) (te σ H fun x H1 => tl σ H1 fun l H2 => th σ H2 fun u H3 => r x l u H3 Q) := ⟨s_sl⟩
instance {Q : Option Int → Hp → Prop} : Stp (tNoPart σ H Q) (Q none H) := ⟨s_nopart⟩
instance {Q : Option Int → Hp → Prop} {t : TE} : Stp (tPart t σ H Q) (t σ H fun x H1 => ∃ i, x = .int i ∧ Q (some i) H1) := ⟨s_part⟩
instance {P : Int → Prop} : Stp (∃ i, V.int n = .int i ∧ P i) (P n) := ⟨s_int⟩
instance {r : V → List V → Hp → VK → Prop} {to te : TE} : Stp (tM1 r to te σ H Q) (to σ H fun x H1 => (∃ a, x = .str a) ∧ te σ H1 fun y H2 => r x [y] H2 Q) := ⟨s_m1⟩
instance {r : V → List V → Hp → VK → Prop} {to : TE} : Stp (tM0 r to σ H Q) (to σ H fun x H1 => (∃ a, x = .str a) ∧ r x [] H1 Q) := ⟨s_m0⟩
instance {R : Prop} : Stp ((∃ b, V.str a = .str b) ∧ R) (R) := ⟨s_isstr⟩
instance {ta : TA} {R : It → Hp → Prop} : Stp (iRng1 ta σ H R) (ta σ H fun vs H1 => ∃ j : Int, vs = [.int j] ∧ -(2 ^ 62) ≤ j ∧ j < 2 ^ 62 ∧ R (Itr 0 j.toNat) H1) := ⟨s_rng1⟩
instance {tl : TE} {R : It → Hp → Prop} : Stp (iList K tl σ H R) (tl σ H fun x H1 => ∃ a, x = .ref a ∧ (∃ xs, SqL K H1 a xs) ∧ R (Itl K a) H1) := ⟨s_ilist⟩
instance {te : TE} {R : It → Hp → Prop} : Stp (iStr te σ H R) (te σ H fun v H1 => ∃ x, v = .str x ∧ R (Its x) H1) := ⟨s_istr⟩
instance {R : Str → Prop} : Stp (∃ x, V.str a = .str x ∧ R x) (R a) := ⟨s_istr1⟩
instance {Q : Bool → Hp → Prop} : Stp (tYes σ H Q) (Q true H) := ⟨s_yes⟩
instance {i j : Nat} {ta : TA} {D : Ends} {σ : L2.St} {H : Hp} : Stp (tPar i j ta D σ H) (ta σ H fun vs H1 => ∃ u v, vs = [u, v] ∧ D.nx ((σ.set i (some u)).set j (some v)) H1) := ⟨s_par⟩
instance {u v : V} {R : V → V → Prop} : Stp (∃ u' v', [u, v] = [u', v'] ∧ R u' v') (R u v) := ⟨s_two⟩
instance  : Stp (iSeq K tl σ H R) (tl σ H fun x H1 => ∃ a, x = .ref a ∧ (((∃ xs, SqL K H1 a xs) ∧ R (Itl K a) H1) ∨ ((∃ xs, SqT K H1 a xs) ∧ R (Itt K a) H1))) := ⟨s_iseq⟩
instance  : Stp (iTup K tl σ H R) (tl σ H fun x H1 => ∃ a, x = .ref a ∧ (∃ xs, SqT K H1 a xs) ∧ R (Itt K a) H1) := ⟨s_itup⟩
instance  : Stp (iEnumT K ta σ H R) (ta σ H fun vs H1 => ∃ a xs, vs = [.ref a] ∧ SqT K H1 a xs ∧ R (IteT K a) H1) := ⟨s_ienT⟩
instance  : Stp (iEnum K ta σ H R) (ta σ H fun vs H1 => ∃ a xs, vs = [.ref a] ∧ SqL K H1 a xs ∧ R (Ite K a) H1) := ⟨s_ienL⟩
instance  : Stp (iEnumS K ta σ H R) (ta σ H fun vs H1 => ∃ a xs c, vs = [.ref a, .int c] ∧ SqL K H1 a xs ∧ (-(2 ^ 62) ≤ c ∧ c < 2 ^ 62) ∧ R (IteS K a c) H1) := ⟨s_ienS⟩
instance  : Stp (iZipB K ta σ H R) (ta σ H fun vs H1 => ∃ a b b1 b2 xs ys, vs = [.ref a, .ref b] ∧ SqB K b1 H1 a xs ∧ SqB K b2 H1 b ys ∧ R (ItzB K b1 b2 a b) H1) := ⟨s_izB⟩
instance  : Stp (tJo ts σ H Q) (tJs ts Str.empty σ H fun out H1 => Q (.str out) H1) := ⟨s_jo⟩
instance  : Stp (tJs (tFmt te :: ts) acc σ H q) (te σ H (FmK ts acc σ q)) := ⟨s_jsF⟩
instance {i : Int} : Stp (uAbs [.int i] H Q) (Q (.int (if i < 0 then -i else i)) H) := ⟨s_abs⟩
end
end U

namespace U
open PySem L2 PySem.Spec PyProof.Rows
/-! xs[::-1] of a list, a tuple -/
section
variable {prog : Program} {w : World} {A : Around} {E : Value → Shared → Prop} {s : Shared}
theorem adjust_rev (n : Nat) : Builtin.Slice.sliceAdjust none none (-1) (n : Int) = ((n : Int) - 1, -1) := by
  unfold Builtin.Slice.sliceAdjust
  simp
theorem places_rev (n : Nat) : Builtin.Slice.slicePlaces ((n : Int) - 1) (-1) (-1) = n := by
  unfold Builtin.Slice.slicePlaces
  have h1 : ¬ ((-1 : Int) > 0) := by omega
  simp only [h1, if_false]
  split
  · have e : ((n : Int) - 1 - -1 - 1) / (- -1) + 1 = (n : Int) := by
      rw [show (- -1 : Int) = 1 by decide, Int.ediv_one]; omega
    rw [e]; exact Int.toNat_natCast n
  · omega
theorem pick_rev (xs : Array Value) : ((List.range xs.size).filterMap fun (m : Nat) => xs[(((xs.size : Int) - 1) + (m : Int) * (-1)).toNat]?).toArray = xs.toList.reverse.toArray := by
  have e := PySem.W.krv_pick xs
  unfold slicePick at e
  rw [PySem.W.krv_bounds] at e
  rw [← e]
  show _ = ((sliceRange ((xs.size : Int) - 1) (-1) (-1)).filterMap (xs[·]?)).toArray
  rw [PySem.W.krv_sliceRange, List.filterMap_map]
  congr 1
  have key : (List.range xs.size).map (fun (m : Nat) => xs[(((xs.size : Int) - 1) + (m : Int) * (-1)).toNat]?) = (List.range xs.size).map ((fun x => xs[x]?) ∘ fun k => xs.size - 1 - k) := by
    apply List.map_congr_left
    intro m hm
    have := List.mem_range.mp hm
    show xs[(((xs.size : Int) - 1) + (m : Int) * (-1)).toNat]? = xs[xs.size - 1 - m]?
    congr 1
    omega
  have := congrArg (List.filterMap id) key
  rw [List.filterMap_map, List.filterMap_map] at this
  exact this
theorem getItem_tuple_rev {t sl : Addr} {items : Array Value} {vs : Value} {Q : Value → Shared → Prop} (ht : IsTup s.heap t items) (hs : s.heap.IsSliceOf sl .none .none vs) (ps : IsPart vs (some (-1)))
    (h : Q (.ref s.heap.objs.size) { s with heap := s.heap.push { cls := .type "tuple", data := .seq items.toList.reverse.toArray } })
    (hsz : items.size ≤ sizeLine) : wpAny (model prog w) A (getItem (.ref t) (.ref sl)) Q E s := by
  have htake : sizeOk (.seq items.toList.reverse.toArray) := by
    show items.toList.reverse.toArray.size ≤ sizeLine
    rw [List.size_toArray, List.length_reverse, Array.length_toList]
    exact hsz
  obtain ⟨os, hos, hcs, hds⟩ := id hs
  have hTs : s.TypeIs (.ref sl) "slice" := ⟨os, hos, hcs⟩
  unfold getItem
  try with_reducible refine wpAny_holding ?_
  first | refine wpAny_bind (wpAny_pure ?_) | skip
  refine wpAny_bind (wpAny_sequenceKey ht.typeIs (by decide) ?_)
  refine wpAny_bind (wpAny_callSpecial?_slot (name := Str.ofString "__getitem__") ht.typeIs PyProof.Rows.slot_tuple_getitem
    (wpAny_call_entry PyProof.Rows.slot_tuple_getitem ht.typeIs PyProof.Rows.entry_tuple_getitem ?_ (PyProof.Rows.args_tuple_getitem _ _)))
  show wpAny _ _ (Builtin.Tuple.tupleItemsOf (.ref t) >>= _) _ _ s
  refine wpAny_bind (PyProof.Rows.tupleItemsOf_ ht ?_)
  refine wpAny_bind (wpAny_typeOf hTs ?_)
  rw [if_pos (by decide)]
  refine wpAny_bind (m := Builtin.Slice.sliceApplied (.ref sl) (pure (items.size : Int))) ?_
  unfold Builtin.Slice.sliceApplied Builtin.Slice.sliceFields
  refine wpAny_bind (wpAny_bind (wpAny_field hos hds (x := .none) rfl (wpAny_bind (wpAny_field hos hds (x := .none) rfl (wpAny_bind (wpAny_field hos hds (x := vs) rfl (wpAny_pure ?_)))))))
  refine wpAny_bind (HT.slicePart_ ps ?_)
  show wpAny _ _ (if ((-1 : Int) == 0) = true then _ else _) _ _ s
  rw [if_neg (by decide)]
  refine wpAny_bind (HT.slicePart_ .none (wpAny_bind (HT.slicePart_ .none (wpAny_bind (wpAny_pure ?_)))))
  show wpAny _ _ (match Builtin.Slice.sliceAdjust none none (-1) (items.size : Int) with | (lo, hi) => pure (lo, (-1 : Int), Builtin.Slice.slicePlaces lo hi (-1))) _ _ s
  rw [adjust_rev items.size]
  show wpAny _ _ (pure (((items.size : Int) - 1), (-1 : Int), Builtin.Slice.slicePlaces ((items.size : Int) - 1) (-1) (-1))) _ _ s
  rw [places_rev]
  refine wpAny_pure ?_
  show wpAny _ _ (if (((items.size : Int) - 1) == 0 && (-1 : Int) == 1 && items.size == items.size) = true then _ else _) _ _ s
  rw [if_neg (by
    intro q
    rw [Bool.and_eq_true, Bool.and_eq_true] at q
    exact absurd (eq_of_beq q.1.2) (by decide)), pick_rev]
  first
    | exact wpAny_bind (m := Builtin.Tuple.tupleExact _) (wpAny_newObj_type (wpAny_pure ⟨_, rfl, wpAny_pure h⟩) htake)
    | exact wpAny_bind (m := Builtin.Tuple.tupleExact _) (wpAny_newObj_type (wpAny_bind (wpAny_pure (wpAny_pure ⟨_, rfl, wpAny_pure h⟩))) htake)
    | exact wpAny_bind (wpAny_bind (m := Builtin.Tuple.tupleExact _) (wpAny_newObj_type (wpAny_pure (wpAny_pure ⟨_, rfl, wpAny_pure h⟩)) htake))
    | exact wpAny_bind (wpAny_bind (m := Builtin.Tuple.tupleExact _) (wpAny_newObj_type (wpAny_pure ⟨_, rfl, wpAny_pure h⟩) htake))
end
section
variable {X : Cx} {K : PySem.W.Frag} {e eo : Expr} {te to : TE} {pos p2 : Pos} {σ : L2.St} {H : Hp} {Q : VK} {p : Addr} {xs : List V}
def RevK (K : PySem.W.Frag) (Q : VK) : V → Hp → Prop := fun x H => ∃ a xs, x = .ref a ∧ ((SqL K H a xs ∧ ∀ p, H p = none → Q (.ref p) (upd H p (.lst xs.reverse))) ∨ (SqT K H a xs ∧ ∀ p, H p = none → Q (.ref p) (upd H p (.tup xs.reverse))))
def tRev (K : PySem.W.Frag) (te to : TE) : TE := fun σ H Q => te σ H fun x H1 => to σ H1 fun y H2 => y = .int (-1) ∧ RevK K Q x H2
theorem pe_rev (hK : X.K = K) (he : PE X e te) (ho : PE X eo to) : PE X (.Subscript e (.Slice none none (some eo) p2) pos) (tRev K te to) := by
  subst hK
  refine ⟨fun pins s σ H Q I h => ?_⟩
  refine Subscript_ (thn (he.run pins s σ H _ I h) fun v s1 ⟨x, H1, I1, r1, q1⟩ => ?_)
  refine wpAny_Slice ?_
  rw [evalPart_none]
  refine wpAny_pure (wpAny_pure ?_)
  rw [evalPart_some]
  refine thn (ho.run pins s1 σ H1 _ I1 q1) fun vs s3 ⟨y, H3, I3, r3, q3⟩ => ?_
  obtain ⟨ey, a, xs, ex, q⟩ := q3
  subst ey ex
  obtain ⟨tk, rfl⟩ := r3
  cases r1
  have I4 : Inv X pins σ H3 { s3 with heap := s3.heap.push { cls := .type "slice", data := .fields #[.none, .none, .int (-1) tk] } } := I3.kept (t' := s3.toks) fun b ob q => Heap.get?_push_of_some _ q
  have hsl : Heap.IsSliceOf (s3.heap.push { cls := .type "slice", data := .fields #[.none, .none, .int (-1) tk] }) s3.heap.objs.size .none .none (.int (-1) tk) := Heap.IsSliceOf.new ..
  show wpAny (model X.prog X.w) X.A (subscriptTail e (.Slice none none (some eo) p2) (.ref a) (.ref s3.heap.objs.size)) (EP X pins σ Q) X.xe { s3 with heap := s3.heap.push { cls := .type "slice", data := .fields #[.none, .none, .int (-1) tk] } }
  rcases q with ⟨hx, q⟩ | ⟨hx, q⟩
  · obtain ⟨its, r, ht, hz⟩ := I4.list hx
    refine tail_any (ops := [.ref a, .ref s3.heap.objs.size]) ht.isList.typeIs slot_list_getitem.lookup ?_ (by with_unfolding_all rfl)
    refine wpAny_getItem_list_slice ht.isList hsl .none .none (.int (-1) tk) (by decide) ?_ (by rw [List.size_toArray, ← r.length]; exact hz)
    rw [PySem.W.krv_pick]
    refine ⟨.ref _, upd H3 _ (.lst xs.reverse), I4.laid (t' := s3.toks) (o := .lst xs.reverse) (fun b ob q => Heap.get?_push_of_some _ q) (Nat.le_refl _) ?_, rfl, q _ (I4.hok.fresh (Nat.le_refl _))⟩
    exact ⟨by rw [List.length_reverse]; exact hz, _, 0, Vals.reverse r, Heap.get?_push_size _ rfl⟩
  · obtain ⟨its, r, ht, hz⟩ := I4.tuple hx
    refine tail_any (ops := [.ref a, .ref s3.heap.objs.size]) ht.typeIs PyProof.Rows.slot_tuple_getitem.lookup ?_ (by with_unfolding_all rfl)
    refine getItem_tuple_rev ht hsl (.int (-1) tk) ?_ (by rw [List.size_toArray, ← r.length]; exact hz)
    refine ⟨.ref _, upd H3 _ (.tup xs.reverse), I4.laid (t' := s3.toks) (o := .tup xs.reverse) (fun b ob q => Heap.get?_push_of_some _ q) (Nat.le_refl _) ?_, rfl, q _ (I4.hok.fresh (Nat.le_refl _))⟩
    exact ⟨by rw [List.length_reverse]; exact hz, _, Vals.reverse r, IsTup.new _ _⟩
instance : Stp (tRev K te to σ H Q) (te σ H fun x H1 => to σ H1 fun y H2 => y = .int (-1) ∧ RevK K Q x H2) := ⟨fun h => h⟩
theorem s_revL (h : H p = some (.lst xs)) (q : ∀ l H', H l = none → H' l = some (.lst xs.reverse) → Kp [] H H' → Q (.ref l) H') : V.int (-1) = .int (-1) ∧ RevK K Q (.ref p) H :=
  ⟨rfl, p, xs, rfl, Or.inl ⟨SqL.of h, new_abs (R := fun l H' => Q (.ref l) H') q⟩⟩
theorem s_revT (h : H p = some (.tup xs)) (q : ∀ l H', H l = none → H' l = some (.tup xs.reverse) → Kp [] H H' → Q (.ref l) H') : V.int (-1) = .int (-1) ∧ RevK K Q (.ref p) H :=
  ⟨rfl, p, xs, rfl, Or.inr ⟨SqT.of h, new_abs (R := fun l H' => Q (.ref l) H') q⟩⟩
end
end U

namespace U
open PySem L2 PySem.Spec PyProof.Rows
/-! tuple(reversed(xs)) of a list -/
section
variable {X : Cx} {K : PySem.W.Frag} {e : Expr} {te : TE} {p p2 pos pos2 : Pos} {σ : L2.St} {H : Hp} {Q : VK} {a : Addr} {xs : List V}
def TrvK (K : PySem.W.Frag) (Q : VK) : V → Hp → Prop := fun x H => ∃ a xs, x = .ref a ∧ SqL K H a xs ∧ ∀ p, H p = none → Q (.ref p) (upd H p (.tup xs.reverse))
def tTrv (K : PySem.W.Frag) (te : TE) : TE := fun σ H Q => te σ H (TrvK K Q)
theorem pe_tupRev (hK : X.K = K) (hc : X.calm = true) (hgT : Gl X "tuple") (hmT : X.mg "tuple" = none) (hgR : Gl X "reversed") (hmR : X.mg "reversed" = none) (he : PE X e te)
    (hs : starEach [e] X.env = [(false, eval e X.env)] := by rfl) (hs2 : starEach [.Call (.Name "reversed" p2) [e] [] pos2] X.env = [(false, eval (.Call (.Name "reversed" p2) [e] [] pos2) X.env)] := by rfl) :
    PE X (.Call (.Name "tuple" p) [.Call (.Name "reversed" p2) [e] [] pos2] [] pos) (tTrv K te) := by
  subst hK
  refine ⟨fun pins s σ H Q I h => ?_⟩
  refine wpAny_Call_Name_kw (ld_blt I hgT hmT bt_tuple ?_ (by decide) (by decide))
  refine PyProof.Rows.callWith_type1 ?_ hs2 rfl
  rw [hs2]
  show wpAny _ _ (spliced ((false, eval (.Call (.Name "reversed" p2) [e] [] pos2) X.env) :: [])) _ _ s
  refine Calls.spliced_cons ?_
  refine Call_ (ld_blt I hgR hmR PyProof.Rows.boot_reversed (PyProof.Rows.callWith_type1 ?_ hs rfl))
  rw [hs]
  show wpAny _ _ (spliced ((false, eval e X.env) :: [])) _ _ s
  refine Calls.spliced_cons (thn (he.run pins s σ H _ I h) fun u s1 ⟨x, H1, I1, r1, q1⟩ => Calls.spliced_nil ?_)
  obtain ⟨a, xs, ex, hq, q⟩ := q1
  subst ex
  cases r1
  obtain ⟨its, rv, p', hz⟩ := I1.list hq
  refine call_reversed_list p'.isList ?_
  refine Calls.spliced_nil ?_
  have hl := rv.length
  have hlt : a < s1.heap.objs.size := by obtain ⟨o, ho, _⟩ := p'.isList; exact Heap.lt_size ho
  refine RT.call_tuple_rev (items := its.toArray) (l := a) (I1.ok.hd hc) ⟨_, Heap.get?_push_size _ rfl, rfl, rfl⟩ (p'.isList.push _) (Nat.ne_of_lt hlt) (by rw [List.size_toArray, ← hl]; exact hz) fun h' tk acc hk hacc => ?_
  have I2 : Inv X pins σ H1 { s1 with heap := h', toks := tk } := I1.kept (t' := tk) fun b o e => hk b o (Nat.ne_of_lt (Heap.lt_size e)) (Heap.get?_push_of_some _ e)
  have hv : Vals xs.reverse acc.toList := by
    refine vals_of_at (by have h0 := hacc.1; simp only [List.size_toArray] at h0; simp only [List.length_reverse, Array.length_toList]; omega) fun m x w h1 h2 => ?_
    have e2 := hacc.2 m w (by rw [← Array.getElem?_toList]; exact h2)
    have hm : m < xs.length := by have := (List.getElem?_eq_some_iff.mp h1).1; rwa [List.length_reverse] at this
    rw [List.getElem?_reverse hm] at h1
    rw [List.size_toArray, List.getElem?_toArray, ← hl] at e2
    obtain ⟨u', hu', ru⟩ := rv.get h1
    rw [e2] at hu'
    cases hu'
    exact ru
  refine ⟨.ref _, upd H1 _ (.tup xs.reverse), I2.laid (t' := tk) (o := .tup xs.reverse) (fun b ob q => Heap.get?_push_of_some _ q) (Nat.le_refl _) ?_, rfl, q _ (I2.hok.fresh (Nat.le_refl _))⟩
  refine ⟨by rw [List.length_reverse]; exact hz, _, hv, ?_⟩
  have := IsTup.new h' acc
  simpa using this
instance : Stp (tTrv K te σ H Q) (te σ H (TrvK K Q)) := ⟨fun h => h⟩
theorem s_trv (h : H a = some (.lst xs)) (q : ∀ t H', H t = none → H' t = some (.tup xs.reverse) → Kp [] H H' → Q (.ref t) H') : TrvK K Q (.ref a) H :=
  ⟨a, xs, rfl, SqL.of h, new_abs (R := fun l H' => Q (.ref l) H') q⟩
end
end U

namespace U
open PySem L2 PySem.Spec PyProof.Rows
/-! dict(zip(ks, ys)) of two lists -/
section
variable {X : Cx} {K : PySem.W.Frag} {e e2 : Expr} {ta : TA} {p p2 pos pos2 : Pos} {σ : L2.St} {H : Hp} {Q : VK} {a b : Addr} {ys : List V} {ks : List Key}
theorem key_is {k : Key} {u : Value} (h : RelV (kV k) u) : keyIs k u = true := by
  cases k with
  | inl i => obtain ⟨t, rfl⟩ := h; exact keyIs_int i t
  | inr x => obtain ⟨t, rfl⟩ := h; exact keyIs_str x t
theorem kv_zip : ∀ {ks : List Key} {ys : List V} {us : List Value}, Vals ys us → KV (ks.zip ys) (ks.zip us)
  | [], _, _, _ => .nil
  | k :: ks, [], _, r => by cases r; exact .nil
  | k :: ks, y :: ys, _, r => by
    cases r with
    | cons a b => exact .cons ⟨rfl, a⟩ (kv_zip b)
def DzK (K : PySem.W.Frag) (Q : VK) : List V → Hp → Prop := fun vs H => ∃ (a b : Addr) (ks : List Key) (ys : List V), vs = [.ref a, .ref b] ∧ SqL K H a (ks.map kV) ∧ SqL K H b ys ∧ ks.length = ys.length ∧ ∀ p, H p = none → Q (.ref p) (upd H p (.dK (mergeK [] (ks.zip ys))))
def tDz (K : PySem.W.Frag) (ta : TA) : TE := fun σ H Q => ta σ H (DzK K Q)
theorem pe_dictZip (hK : X.K = K) (hc : X.calm = true) (hgD : Gl X "dict") (hmD : X.mg "dict" = none) (hgZ : Gl X "zip") (hmZ : X.mg "zip" = none) (ha : PA X [e, e2] ta)
    (hs : starEach [e, e2] X.env = (false, eval e X.env) :: starEach [e2] X.env := by rfl) (hpl : (backTo pos2 (starEach [e2] X.env)).any (·.1) = false := by rfl)
    (hs2 : starEach [.Call (.Name "zip" p2) [e, e2] [] pos2] X.env = [(false, eval (.Call (.Name "zip" p2) [e, e2] [] pos2) X.env)] := by rfl) :
    PE X (.Call (.Name "dict" p) [.Call (.Name "zip" p2) [e, e2] [] pos2] [] pos) (tDz K ta) := by
  subst hK
  refine ⟨fun pins s σ H Q I h => ?_⟩
  refine wpAny_Call_Name_kw (ld_blt I hgD hmD bt_dict ?_ (by decide) (by decide))
  refine PyProof.Rows.callWith_type1 ?_ hs2 rfl
  rw [hs2]
  show wpAny _ _ (spliced ((false, eval (.Call (.Name "zip" p2) [e, e2] [] pos2) X.env) :: [])) _ _ s
  refine Calls.spliced_cons ?_
  refine Call_ (ld_blt I hgZ hmZ PyProof.Rows.boot_zip (PyProof.Rows.callWith_type1 (thn (ha.run pos2 pins s σ H _ I h) fun us s1 ⟨vs, H1, I1, r1, q1⟩ => ?_) hs hpl))
  obtain ⟨a, b, ks, ys, ex, hqx, hqy, hl, q⟩ := q1
  subst ex
  cases r1 with
  | cons r rr =>
    cases rr with
    | cons r' rr =>
      cases rr
      cases r
      cases r'
      obtain ⟨its, rv, p1, hz1⟩ := I1.list hqx
      obtain ⟨its2, rv2, p2', hz2⟩ := I1.list hqy
      have l1 := rv.length
      have l2 := rv2.length
      rw [List.length_map] at l1 hz1
      refine zip_begins2 (begins_list a its.toArray) (begins_list b its2.toArray) p1.isList p2'.isList fun h' hz hTI hTO h1 h2 hsz hk => ?_
      refine Calls.spliced_nil ?_
      have lt1 : a < s1.heap.objs.size := by obtain ⟨o, ho, _⟩ := p1.isList; exact Heap.lt_size ho
      have lt2 : b < s1.heap.objs.size := by obtain ⟨o, ho, _⟩ := p2'.isList; exact Heap.lt_size ho
      have P := PySem.PairArg.zip (prog := X.prog) (w := X.w) _ _ _ _ _ _ _ (PySem.W.ktu_apart s1.heap.objs.size a b lt1 lt2) its.toArray its2.toArray
      have hmin : min its.toArray.size its2.toArray.size = ks.length := by simp only [List.size_toArray]; omega
      refine PySem.call_dict_pairs (s := { s1 with heap := h' }) (knd := mixKind X.prog X.w) (kvs := ks.zip its2) P (I1.ok.hd hc) ⟨hz, hTI, ⟨_, _, hTO⟩, ⟨_, h1, rfl, rfl⟩, ⟨_, h2, rfl, rfl⟩, p1.isList.at fun o e => hk _ o e, p2'.isList.at fun o e => hk _ o e⟩ ⟨by rw [hmin, List.length_zip]; omega, fun i key v hr => ?_⟩ (by rw [hmin]; exact hz1) fun h'' tk hd' hk2 => ?_
      · obtain ⟨e1, e2⟩ := hr
        rw [List.getElem?_toArray] at e1 e2
        have hi : i < ks.length := by have := (List.getElem?_eq_some_iff.mp e1).1; omega
        obtain ⟨u, eu, ru⟩ := rv.get (i := i) (x := kV ks[i]) (by rw [List.getElem?_map, List.getElem?_eq_getElem hi]; rfl)
        rw [e1] at eu
        cases eu
        exact ⟨ks[i], by rw [List.getElem?_zip_eq_some]; exact ⟨List.getElem?_eq_getElem hi, e2⟩, key_is ru⟩
      · have hm : ((h'.objs.size : Addr) == sysModules) = false := beq_eq_false_iff_ne.mpr (Nat.ne_of_gt (Nat.lt_of_lt_of_le I1.big (by rw [hsz]; omega)))
        have hlen : (mergeK [] (ks.zip ys)).length ≤ sizeLine := by
          have h0 := length_mergeK (ks.zip ys) []
          have h1 : (ks.zip ys).length ≤ ks.length := by rw [List.length_zip]; exact Nat.min_le_left ..
          have h2 : ([] : List (Key × V)).length = 0 := rfl
          omega
        have kp : ∀ c o, s1.heap.get? c = some o → h''.get? c = some o := fun c o e => by
          have hlt := Heap.lt_size e
          refine hk2 c o (fun m => ?_) (hk c o e)
          simp only [List.mem_cons, List.not_mem_nil, or_false] at m
          rcases m with m | m | m | m
          all_goals (rw [m] at hlt; first | exact absurd hlt (Nat.not_lt.mpr (Nat.le_add_right _ _)) | exact absurd hlt (Nat.lt_irrefl _))
        exact ⟨.ref h'.objs.size, upd H1 h'.objs.size (.dK (mergeK [] (ks.zip ys))), I1.laid (t' := tk) kp (by rw [hsz]; omega) (show ObjOk X.prog X.w _ _ _ (.dK (mergeK [] (ks.zip ys))) from ⟨hlen, hm, merged [] (ks.zip its2), KV.merge (kv_zip rv2) .nil, hd'⟩), rfl, q _ (I1.hok.fresh (by rw [hsz]; omega))⟩
instance : Stp (tDz K ta σ H Q) (ta σ H (DzK K Q)) := ⟨fun h => h⟩
theorem s_dz (h1 : H a = some (.lst (ks.map kV))) (h2 : H b = some (.lst ys)) (hl : ks.length = ys.length) (q : ∀ d H', H d = none → H' d = some (.dK (mergeK [] (ks.zip ys))) → Kp [] H H' → Q (.ref d) H') : DzK K Q [.ref a, .ref b] H :=
  ⟨a, b, ks, ys, rfl, SqL.of h1, SqL.of h2, hl, new_abs (R := fun l H' => Q (.ref l) H') q⟩
end
end U

namespace U
open PySem L2 PySem.Spec PyProof.Rows
/-! d.get(k, x) -/
section
variable {X : Cx} {K : PySem.W.Frag} {σ : L2.St} {H : Hp} {Q : VK} {d : Addr} {td ty tx : TE} {kvs : List (Key × V)} {k : Key} {z : V}
instance : Stp (tDGet2 td ty tx σ H Q) (td σ H fun x H1 => ∃ a, x = .ref a ∧ IsD H1 a ∧ ty σ H1 fun y H2 => tx σ H2 fun z H3 => ∃ o, DGet H3 a y o ∧ Q (o.getD z) H3) := ⟨fun h => h⟩
theorem s_dget2 {R : Addr → Prop} (h : H d = some (.dK kvs)) (q : R d) : ∃ a, V.ref d = .ref a ∧ IsD H a ∧ R a := ⟨d, rfl, Or.inl ⟨kvs, Or.inl h⟩, q⟩
theorem s_dgo (h : H d = some (.dK kvs)) (q : Q ((valV kvs k).getD z) H) : ∃ o, DGet H d (kV k) o ∧ Q (o.getD z) H := ⟨_, DGet.k h, q⟩
theorem s_dgoS {t : Str} (h : H d = some (.dK kvs)) (q : Q ((valV kvs (Sum.inr t)).getD z) H) : ∃ o, DGet H d (.str t) o ∧ Q (o.getD z) H := ⟨_, DGet.k (k := Sum.inr t) h, q⟩
end
/-! for x in reversed(a list) -/
section
variable {X : Cx} {K : PySem.W.Frag} {e tg : Expr} {ta : TA} {p pos : Pos} {σ : L2.St} {H : Hp} {a : Addr} {vs : List V} {R : It → Hp → Prop}
theorem pi_revK (hK : X.K = K) (hg : Gl X "reversed") (hm : X.mg "reversed" = none) (ha : PA X [e] ta) (hs : starEach [e] X.env = [(false, eval e X.env)] := by rfl) : PI X tg (.Call (.Name "reversed" p) [e] [] pos) (iRev K ta) := hK ▸ pi_reversed hg hm ha hs
theorem walk_rev : Walk (Itv K a vs.length) vs.length (fun H => SqL K H a vs) (fun i H v H' => H' = H ∧ vs.reverse[i]? = some v) := by
  refine ⟨fun i H hi q => ?_, fun H q => Nat.le_refl _, fun i H v H' hi q y => ?_⟩
  · exact ⟨hi, vs, vs[vs.length - 1 - i], q, List.getElem?_eq_getElem (by omega)⟩
  · obtain ⟨h1, h2⟩ := y
    exact ⟨h1, by rw [List.getElem?_reverse hi]; exact h2 vs q⟩
theorem s_irev (h : ta σ H fun vs H1 => ∃ (a : Addr) (xs : List V), vs = [.ref a] ∧ SqL K H1 a xs ∧ R (Itv K a xs.length) H1) : iRev K ta σ H R := h
instance : Stp (iRev K ta σ H R) (ta σ H fun vs H1 => ∃ (a : Addr) (xs : List V), vs = [.ref a] ∧ SqL K H1 a xs ∧ R (Itv K a xs.length) H1) := ⟨fun h => h⟩
theorem s_rvL {S : Addr → Nat → Prop} (h : H a = some (.lst vs)) (q : S a vs.length) : ∃ (a' : Addr) (xs : List V), [V.ref a] = [.ref a'] ∧ SqL K H a' xs ∧ S a' xs.length := ⟨a, vs, rfl, SqL.of h, q⟩
variable {tt : TT} {te : TE} {g : TG} {ns : List Nat} {A : Addr} {Qd : Hp → Prop}
theorem lc_rev (e : H a = some (.lst vs)) (hA : H A = none) (Pv : Nat → List V → Hp → Prop) (h0 : ∀ H', H' A = some (.lst []) → Kp [] H H' → Pv 0 [] H') (hG : ∀ i acc H', Pv i acc H' → ∀ o, H a = some o → H' a = some o)
    (hs : ∀ i x acc H', vs.reverse[i]? = some x → H' A = some (.lst acc) → Pv i acc H' → g x (wipe σ ns) H' fun σ2 H2 => wipe σ2 ns = wipe σ ns ∧ tt σ2 H2 fun b H3 =>
      if b = true then te σ2 H3 fun y H4 => ∃ acc, H4 A = some (.lst acc) ∧ acc.length < sizeLine ∧ PvD A Pv (i + 1) (upd H4 A (.lst (acc ++ [y]))) else PvD A Pv (i + 1) H3) (hd : ∀ acc H', H' A = some (.lst acc) → Pv vs.length acc H' → Qd H') :
    ∃ W : Nat → Nat → Hp → Prop, (∃ m, W 0 m (upd H A (.lst []))) ∧ ∀ i m H, W i m H →
      ((Itv K a vs.length).stop i H ∧ Qd H) ∨ ((Itv K a vs.length).go i H ∧ ∃ Nx : Hp → Prop, (∀ H', Nx H' → ∃ m', m' < m ∧ W (i + 1) m' H') ∧ ∀ x H', (Itv K a vs.length).yld i H x H' → g x (wipe σ ns) H' fun σ2 H2 => wipe σ2 ns = wipe σ ns ∧ tt σ2 H2 fun b H3 =>
        if b = true then te σ2 H3 fun y H4 => ∃ acc, H4 A = some (.lst acc) ∧ acc.length < sizeLine ∧ Nx (upd H4 A (.lst (acc ++ [y]))) else Nx H3) :=
  lc_it (walk_rev (vs := vs)) (PvD A Pv) (PvD.begin hA h0) (fun i H' _ p => by
    obtain ⟨acc, _, p⟩ := p
    exact SqL.of (hG i acc H' p _ e)) (fun i x H1 H2 hi p y => by
    obtain ⟨rfl, ex⟩ := y
    obtain ⟨acc, ea, p⟩ := p
    exact hs i x acc H2 ex ea p) (fun H' p => by
    obtain ⟨acc, ea, p⟩ := p
    exact hd acc H' ea p)
end
end U

namespace U
open PySem L2 PySem.Spec PyProof.Rows
/-! lists or tuples: indexes, comprehensions, enumerate -/
section
variable {K : PySem.W.Frag} {σ : L2.St} {H H1 : Hp} {a : Addr} {vs : List V} {ps : List Addr} {g : TG} {tb : TS} {D : Ends} {n : Int} {v : V} {Q : VK}
theorem sq_kpn (k : Kp ps H H1) (h : H a = some (.lst vs) ∨ H a = some (.tup vs)) (m : a ∉ ps) : H1 a = some (.lst vs) ∨ H1 a = some (.tup vs) := h.imp (fun e => k.get e m) (fun e => k.get e m)
theorem sq_l (h : H a = some (.lst vs)) : H a = some (.lst vs) ∨ H a = some (.tup vs) := Or.inl h
theorem sq_t (h : H a = some (.tup vs)) : H a = some (.lst vs) ∨ H a = some (.tup vs) := Or.inr h
theorem s_ixq (h : H a = some (.lst vs) ∨ H a = some (.tup vs)) (ha : atI vs n = some v) (q : Q v H) : rIx K (.ref a) (.int n) H Q := by
  rcases h with h | h
  · exact s_ixl h ha q
  · exact s_ixt h ha q
theorem s_lenQ (h : H a = some (.lst vs) ∨ H a = some (.tup vs)) (q : Q (.int vs.length) H) : uLen K [.ref a] H Q := by
  rcases h with h | h
  · exact s_lenl h q
  · exact s_lent h q
/-- what a loop's walk is -/
abbrev ForG (J : It) (g : TG) (tb : TS) (D : Ends) (σ : L2.St) (H : Hp) : Prop := ∃ W : Nat → Nat → L2.St → Hp → Prop, (∃ m, W 0 m σ H) ∧ ∀ i m σ H, W i m σ H →
  (J.stop i H ∧ D.nx σ H) ∨ (J.go i H ∧ ∃ N : L2.St → Hp → Prop, (∀ σ' H', N σ' H' → ∃ m', m' < m ∧ W (i + 1) m' σ' H') ∧ ∀ x H', J.yld i H x H' → g x σ H' fun σ2 H2 => tb { D with nx := N, ct := N, bk := D.nx } σ2 H2)
theorem for_eq (e : H a = some (.lst vs) ∨ H a = some (.tup vs)) (Pv : Nat → L2.St → Hp → Prop) (h0 : Pv 0 σ H) (hG : ∀ i σ' H', Pv i σ' H' → ∀ o, H a = some o → H' a = some o)
    (hs : ∀ i x σ' H' T H2, vs[i]? = some x → Pv i σ' H' → H' T = none → H2 T = some (.tup [.int (i : Nat), x]) → Kp [] H' H2 → g (.ref T) σ' H2 fun σ2 H3 => tb { D with nx := Pv (i + 1), ct := Pv (i + 1), bk := D.nx } σ2 H3) (hd : ∀ σ' H', Pv vs.length σ' H' → D.nx σ' H') :
    ∃ a' xs, [V.ref a] = [.ref a'] ∧ ((SqL K H a' xs ∧ ForG (Ite K a') g tb D σ H) ∨ (SqT K H a' xs ∧ ForG (IteT K a') g tb D σ H)) := by
  refine ⟨a, vs, rfl, ?_⟩
  rcases e with e | e
  · exact Or.inl ⟨SqL.of e, for_eL e Pv h0 hG hs hd⟩
  · exact Or.inr ⟨SqT.of e, for_eT e Pv h0 (fun i σ' H' p xs => hG i σ' H' p _) hs hd⟩
theorem for_T (e : H a = some (.tup vs)) (Pv : Nat → L2.St → Hp → Prop) (h0 : Pv 0 σ H) (hG : ∀ i σ' H', Pv i σ' H' → ∀ xs, H a = some (.tup xs) → H' a = some (.tup xs))
    (hs : ∀ i x σ' H', vs[i]? = some x → Pv i σ' H' → g x σ' H' fun σ2 H2 => tb { D with nx := Pv (i + 1), ct := Pv (i + 1), bk := D.nx } σ2 H2) (hd : ∀ σ' H', Pv vs.length σ' H' → D.nx σ' H') : ForG (Itt K a) g tb D σ H :=
  for_it (walk_tup (xs := vs)) Pv h0 (fun i σ' H' _ p => SqT.of (hG i σ' H' p _ e)) (fun i x σ' H1 H2 hi p y => by
    obtain ⟨rfl, ex⟩ := y
    exact hs i x σ' H2 ex p) hd
variable {tt : TT} {te : TE} {ns : List Nat} {Qd : Addr → Hp → Prop}
abbrev LcG (J : It) (g : TG) (tt : TT) (te : TE) (ns : List Nat) (σ : L2.St) (A : Addr) (Qd : Hp → Prop) (H : Hp) : Prop := ∃ W : Nat → Nat → Hp → Prop, (∃ m, W 0 m (upd H A (.lst []))) ∧ ∀ i m H, W i m H →
  (J.stop i H ∧ Qd H) ∨ (J.go i H ∧ ∃ Nx : Hp → Prop, (∀ H', Nx H' → ∃ m', m' < m ∧ W (i + 1) m' H') ∧ ∀ x H', J.yld i H x H' → g x (wipe σ ns) H' fun σ2 H2 => wipe σ2 ns = wipe σ ns ∧ tt σ2 H2 fun b H3 =>
    if b = true then te σ2 H3 fun y H4 => ∃ acc, H4 A = some (.lst acc) ∧ acc.length < sizeLine ∧ Nx (upd H4 A (.lst (acc ++ [y]))) else Nx H3)
theorem lc_sq (e : H a = some (.lst vs) ∨ H a = some (.tup vs)) (Pv : Addr → Nat → List V → Hp → Prop) (h0 : ∀ A, H A = none → ∀ H', H' A = some (.lst []) → Kp [] H H' → Pv A 0 [] H') (hG : ∀ A, H A = none → ∀ i acc H', Pv A i acc H' → ∀ o, H a = some o → H' a = some o)
    (hs : ∀ A, H A = none → ∀ i x acc H', vs[i]? = some x → H' A = some (.lst acc) → Pv A i acc H' → g x (wipe σ ns) H' fun σ2 H2 => wipe σ2 ns = wipe σ ns ∧ tt σ2 H2 fun b H3 =>
      if b = true then te σ2 H3 fun y H4 => ∃ acc, H4 A = some (.lst acc) ∧ acc.length < sizeLine ∧ PvD A (Pv A) (i + 1) (upd H4 A (.lst (acc ++ [y]))) else PvD A (Pv A) (i + 1) H3) (hd : ∀ A, H A = none → ∀ acc H', H' A = some (.lst acc) → Pv A vs.length acc H' → Qd A H') :
    ∃ a', V.ref a = .ref a' ∧ (((∃ xs, SqL K H a' xs) ∧ ∀ A, H A = none → LcG (Itl K a') g tt te ns σ A (Qd A) H) ∨ ((∃ xs, SqT K H a' xs) ∧ ∀ A, H A = none → LcG (Itt K a') g tt te ns σ A (Qd A) H)) := by
  refine ⟨a, rfl, ?_⟩
  rcases e with e | e
  · exact Or.inl ⟨⟨vs, SqL.of e⟩, fun A hA => lc_L e hA (Pv A) (h0 A hA) (hG A hA) (hs A hA) (hd A hA)⟩
  · exact Or.inr ⟨⟨vs, SqT.of e⟩, fun A hA => lc_T e hA (Pv A) (h0 A hA) (fun i acc H' p xs => hG A hA i acc H' p _) (hs A hA) (hd A hA)⟩
theorem lc_eq (e : H a = some (.lst vs) ∨ H a = some (.tup vs)) (Pv : Addr → Nat → List V → Hp → Prop) (h0 : ∀ A, H A = none → ∀ H', H' A = some (.lst []) → Kp [] H H' → Pv A 0 [] H') (hG : ∀ A, H A = none → ∀ i acc H', Pv A i acc H' → ∀ o, H a = some o → H' a = some o)
    (hs : ∀ A, H A = none → ∀ i x acc H' T H2, vs[i]? = some x → H' A = some (.lst acc) → Pv A i acc H' → H' T = none → H2 T = some (.tup [.int (i : Nat), x]) → Kp [] H' H2 → g (.ref T) (wipe σ ns) H2 fun σ2 H2 => wipe σ2 ns = wipe σ ns ∧ tt σ2 H2 fun b H3 =>
      if b = true then te σ2 H3 fun y H4 => ∃ acc, H4 A = some (.lst acc) ∧ acc.length < sizeLine ∧ PvD A (Pv A) (i + 1) (upd H4 A (.lst (acc ++ [y]))) else PvD A (Pv A) (i + 1) H3) (hd : ∀ A, H A = none → ∀ acc H', H' A = some (.lst acc) → Pv A vs.length acc H' → Qd A H') :
    ∃ a' xs, [V.ref a] = [.ref a'] ∧ ((SqL K H a' xs ∧ ∀ A, H A = none → LcG (Ite K a') g tt te ns σ A (Qd A) H) ∨ (SqT K H a' xs ∧ ∀ A, H A = none → LcG (IteT K a') g tt te ns σ A (Qd A) H)) := by
  refine ⟨a, vs, rfl, ?_⟩
  rcases e with e | e
  · exact Or.inl ⟨SqL.of e, fun A hA => lc_eL e hA (Pv A) (h0 A hA) (hG A hA) (hs A hA) (hd A hA)⟩
  · refine Or.inr ⟨SqT.of e, fun A hA => ?_⟩
    exact lc_it (walk_enumT (xs := vs)) (PvD A (Pv A)) (PvD.begin hA (h0 A hA)) (fun i H' _ p => by
      obtain ⟨acc, _, p⟩ := p
      exact SqT.of (hG A hA i acc H' p _ e)) (fun i x H1 H2 hi p y => by
      obtain ⟨T, x1, x2, rfl, f, rfl, e1, e2⟩ := y
      cases Option.some.inj e1
      obtain ⟨acc, ea, p⟩ := p
      exact hs A hA i x2 acc H1 T _ e2 ea p f upd_same (Kp.refl.new f)) (fun H' p => by
      obtain ⟨acc, ea, p⟩ := p
      exact hd A hA acc H' ea p)
end
section
variable {X : Cx} {K : PySem.W.Frag} {σ : L2.St} {H : Hp} {Q : VK} {p : Addr} {kvs : List (Key × V)}
/-- d.clear() -/
def rClearD : V → List V → Hp → VK → Prop := fun x vs H Q => ∃ d kvs, x = .ref d ∧ vs = [] ∧ H d = some (.dK kvs) ∧ Q .non (upd H d (.dK []))
theorem mt_clearD : MtR X "dict.clear" rClearD := by
  intro pins s σ H x vs v us Q I rx rv h
  obtain ⟨d, kvs, rfl, rfl, hH, q⟩ := h
  cases rx
  have hus := rv.zero
  subst hus
  exact d_clear I hH fun s' I' => ⟨.non, _, I', rfl, q⟩
theorem s_clearD (h : H p = some (.dK kvs)) (q : ∀ H', H' p = some (.dK []) → Kp [p] H H' → Q .non H') : rClearD (.ref p) [] H Q := ⟨p, kvs, rfl, rfl, h, put_abs h rfl (R := fun H' => Q .non H') q⟩
end
end U

namespace U
open PySem L2 PySem.Spec PyProof.Rows
/-! the head by one run, with written dicts at the top -/
def entsU (K : PySem.W.Frag) : List DictEntry → List (Str × List Str) → Bool
  | [], [] => true
  | e :: r, kx :: s => (match e.val with
    | .ref t => tupU K t (kx.2.map V.str)
    | _ => false) && entsU K r s
  | _, _ => false
def dictU (K : PySem.W.Frag) (a : Addr) (l : List (Str × List Str)) : Bool := match K.lookup a with
  | some ⟨_, _, .dict es _, _⟩ => entsU K es.toList l
  | _ => false
theorem ents_of {K : PySem.W.Frag} {P : Params} : ∀ {es : List DictEntry} {l : List (Str × List Str)}, es.map He.keyOf = He.keysIn P (l.map (·.1)) → entsU K es l = true → Ents K P es l
  | [], [], _, _ => trivial
  | [], _ :: _, h, _ => by cases h
  | _ :: _, [], h, _ => by cases h
  | e :: r, kx :: s, h, g => by
    have h1 : He.keyOf e :: r.map He.keyOf = some (kx.1, PyData.keyHash P kx.1) :: He.keysIn P (s.map (·.1)) := h
    injection h1 with h2 h3
    have g1 : ((match e.val with
      | .ref t => tupU K t (kx.2.map V.str)
      | _ => false) && entsU K r s) = true := g
    obtain ⟨g2, g3⟩ := He.ba g1
    refine ⟨?_, ents_of h3 g3⟩
    unfold He.keyOf at h2
    split at h2
    · rename_i x t q
      have h4 := Option.some.inj h2
      obtain ⟨h5, h6⟩ := Prod.mk.inj h4
      refine ⟨⟨t, by rw [q, h5]⟩, h6, ?_⟩
      split at g2
      · rename_i u eu
        obtain ⟨oT, k1, k2, k3⟩ := tupU_ok g2
        exact ⟨u, eu, KT.mk' k1 ⟨k2, k3⟩⟩
      · cases g2
    · cases h2
theorem dict_ok {K : PySem.W.Frag} {P : Params} {a : Addr} {l : List (Str × List Str)} (h : He.dicW K a = some (He.keysIn P (l.map (·.1)))) (g : dictU K a l = true) :
    ∃ es n, K.lookup a = some ⟨.type "dict", none, .dict es n, #[]⟩ ∧ (a == sysModules) = false ∧ Ents K P es.toList l := by
  unfold He.dicW at h
  unfold dictU at g
  cases q : K.lookup a with
  | none =>
    rw [q] at h
    cases h
  | some o =>
    obtain ⟨oc, od, dt, osl⟩ := o
    rw [q] at h g
    cases oc with
    | type c =>
      cases od with
      | none =>
        cases dt with
        | dict es n =>
          have h1 : (match decide (c = "dict") && (osl.isEmpty && !(a == sysModules)) with
            | true => some (es.toList.map He.keyOf)
            | false => none) = some (He.keysIn P (l.map (·.1))) := h
          cases z : decide (c = "dict") && (osl.isEmpty && !(a == sysModules)) with
          | false =>
            rw [z] at h1
            cases h1
          | true =>
            rw [z] at h1
            obtain ⟨z1, z2⟩ := He.ba z
            obtain ⟨z3, z4⟩ := He.ba z2
            have e1 : c = "dict" := of_decide_eq_true z1
            have e2 : osl = #[] := Array.isEmpty_iff.mp z3
            have e3 : (a == sysModules) = false := by
              cases y : a == sysModules with
              | false => rfl
              | true =>
                rw [y] at z4
                cases z4
            subst e1 e2
            exact ⟨es, n, rfl, e3, ents_of (Option.some.inj h1) g⟩
        | _ => cases h
      | some b => cases dt <;> cases h
    | _ => cases od <;> cases dt <;> cases h
abbrev AlU : Type := He.AlD × List (Option (List (Option (Str × Int))))
def obsUT (ck : List (List Ck)) (fn : List He.DefD) (ts : List (Str × List Str)) (K : PySem.W.Frag) : AlU := (obsU ck fn K, ts.map fun t => He.dicW K (He.ga K t.1))
def valUT (fn : List He.DefD) (ts : List (Str × List Str)) (w : World) : AlU := (He.valD fn, ts.map fun t => some (He.keysIn w.params t.2))
def obsUTG (ck : List (List Ck)) (fn : List He.DefD) (ts : List (Str × List Str)) (g : Addr → Option Obj) : AlU := obsUT ck fn ts (He.frG g (asU g))
def hookUT (ck : List (List Ck)) (fn : List He.DefD) (ts : List (Str × List Str)) : PySem.W.Hook where
  α := AlU
  obs := fun s => obsUTG ck fn ts s.heap.get?
  val := fun w => valUT fn ts w
  says := fun w h => ∃ K : PySem.W.Frag, K.In h ∧ obsUT ck fn ts K = valUT fn ts w
  of := fun _ _ e => ⟨_, He.frG_in, e⟩
  keeps := fun _ _ _ ⟨K, hK, c⟩ k => ⟨K, PySem.W.Frag.In.keeps hK k, c⟩
theorem obsUTG_eq {ck : List (List Ck)} {fn : List He.DefD} {ts : List (Str × List Str)} {g : Addr → Option Obj} {s : Shared} (h : ∀ a, g a = s.heap.get? a) : obsUTG ck fn ts g = (hookUT ck fn ts).obs s := by
  have e : g = s.heap.get? := funext h
  rw [e] <;> rfl
section
variable {ck : List (List Ck)} {fn : List He.DefD} {ts : List (Str × List Str)} {w : World} {K : PySem.W.Frag}
theorem ut_u (c : obsUT ck fn ts K = valUT fn ts w) : obsU ck fn K = He.valD fn := congrArg (fun z : AlU => z.1) c
theorem ut_t (c : obsUT ck fn ts K = valUT fn ts w) (i : Nat) {t : Str × List Str} (h : ts[i]? = some t) : He.dicW K (He.ga K t.1) = some (He.keysIn w.params t.2) := by
  have e : ts.map (fun t => He.dicW K (He.ga K t.1)) = ts.map fun t => some (He.keysIn w.params t.2) := congrArg (fun z : AlU => z.2) c
  have e2 : (ts.map fun t => He.dicW K (He.ga K t.1))[i]? = (ts.map fun t => some (He.keysIn w.params t.2))[i]? := by rw [e]
  rw [List.getElem?_map, List.getElem?_map, h] at e2
  exact Option.some.inj e2
end
end U

namespace U
open PySem L2 PySem.Spec PyProof.Rows
/-! x += n for a name; a list or a list -/
section
variable {K : PySem.W.Frag} {σ : L2.St} {H : Hp} {Q : VK} {D : Ends} {te ta tb : TE} {p : Addr} {xs : List V}
theorem s_augI {i : Nat} {f : Int → Int → Int} {n : Int} (h : σ[i]? = some (some (.int n))) (q : te σ H fun y H1 => ∃ m : Int, y = .int m ∧ D.nx (σ.set i (some (.int (f n m)))) H1)
    (mono : ∀ {Q1 Q2 : VK}, (∀ v H', Q1 v H' → Q2 v H') → te σ H Q1 → te σ H Q2) : tAug i te (ipI f) D σ H := ⟨_, h, mono (fun v H' z => by
  obtain ⟨m, rfl, z⟩ := z
  exact ⟨n, m, rfl, rfl, z⟩) q⟩
theorem s_augC {i : Nat} {f : Int → Int → Int} {n m : Int} (h : σ[i]? = some (some (.int n))) (q : D.nx (σ.set i (some (.int (f n m)))) H) : tAug i (tC (.int m)) (ipI f) D σ H := ⟨_, h, s_c ⟨n, m, rfl, rfl, q⟩⟩
theorem s_orT (h : ta σ H fun x H1 => ∃ k, TruV K x H1 k ∧ if k = true then Q x H1 else tb σ H1 Q) : tOrT K ta tb σ H Q := h
theorem s_trL {R : Bool → Prop} (h : SqL K H p xs) (q : R (!xs.isEmpty)) : ∃ k, TruV K (.ref p) H k ∧ R k := ⟨_, Or.inl ⟨xs, h, rfl⟩, q⟩
end
/-! list(zip(xs, ys)) of two lists -/
theorem zip_len0 : typeLookup (.type "zip") "__len__" = pure none := by rw [typeLookup_type, builtinLookup_eq_fast]; kernel_rfl
theorem zip_hint0 : typeLookup (.type "zip") "__length_hint__" = pure none := by rw [typeLookup_type, builtinLookup_eq_fast]; kernel_rfl
/-- the zip at z, i pairs drawn -/
structure Zq (h : Heap) (z TI TO i1 i2 a b : Addr) (its its2 : Array Value) (i : Nat) : Prop where
  ti : IsPair h TI (.ref i1) (.ref i2)
  h1 : h.IsListIter i1 a i
  h2 : h.IsListIter i2 b i
  p1 : h.IsList a its
  p2 : h.IsList b its2
  to : ∃ o, h.get? TO = some o
  z : (IsZip h z TI TO .none ∧ ∃ x y, IsPair h TO x y) ∨ ∃ T f oT, IsZipHeld h z TI TO T f ∧ h.get? T = some oT ∧ T ≠ z ∧ T ≠ i1 ∧ T ≠ i2
abbrev lstO (acc : Array Value) (c : Nat) : Obj := { cls := .type "list", dict := none, data := .seq acc c, slots := #[] }
theorem Zq.upd {h : Heap} {z TI TO i1 i2 a b S : Addr} {its its2 : Array Value} {i : Nat} {f : Obj → Obj} (st : Zq h z TI TO i1 i2 a b its its2 i) (n : S ≠ z ∧ S ≠ TI ∧ S ≠ TO ∧ S ≠ i1 ∧ S ≠ i2 ∧ S ≠ a ∧ S ≠ b) (nT : ∀ T f, IsZipHeld h z TI TO T f → T ≠ S) :
    Zq (h.update S f) z TI TO i1 i2 a b its its2 i := by
  obtain ⟨n1, n2, n3, n4, n5, n6, n7⟩ := n
  have g : ∀ {c : Addr} {o : Obj}, S ≠ c → h.get? c = some o → (h.update S f).get? c = some o := fun hc e => (Heap.get?_update_other _ _ hc).trans e
  refine ⟨g n2 st.ti, st.h1.at fun o e => g n4 e, st.h2.at fun o e => g n5 e, st.p1.at fun o e => g n6 e, st.p2.at fun o e => g n7 e, let ⟨o, e⟩ := st.to; ⟨o, g n3 e⟩, ?_⟩
  rcases st.z with ⟨hz, x, y, ht⟩ | ⟨T, fl, oT, hz, hT, r⟩
  · exact .inl ⟨g n1 hz, x, y, g n3 ht⟩
  · exact .inr ⟨T, fl, oT, g n1 hz, g (nT T fl hz).symm hT, r⟩
/-- the pairs that were made -/
def Tq2 (base : Nat) (h : Heap) (its its2 : Array Value) (S : Addr) (ts : List Addr) (i : Nat) : Prop := ts.length = i ∧ ts.Nodup ∧ ∀ (j : Nat) (T : Addr), ts[j]? = some T → base ≤ T ∧ T ≠ S ∧ ∃ x y, its[j]? = some x ∧ its2[j]? = some y ∧ IsPair h T x y
theorem heldT {T T' : Addr} {f f' : Value} {r : List Value} (e : some ({ cls := .type "zip", dict := none, data := .fields (rawInt T :: f :: r).toArray, slots := #[] } : Obj) = some { cls := .type "zip", dict := none, data := .fields (rawInt T' :: f' :: r).toArray, slots := #[] }) : T' = T := by
  have e1 := congrArg (fun o : Obj => o.data) (Option.some.inj e)
  injection e1 with e1
  have e2 := congrArg Array.toList e1
  injection e2 with e3 e4
  unfold rawInt at e3
  injection e3 with e5
  exact Int.ofNat.inj e5.symm
section
variable {prog : Program} {w : World} {A : Around} {R : Result → Shared → Prop}
theorem zip_loop {z TI TO i1 i2 a b S : Addr} {its its2 : Array Value} {base n : Nat} {res : Value} (D : ZipApart z TI TO i1 i2 a b) (hh : A.in1.handled = none) (nS : S ≠ z ∧ S ≠ TI ∧ S ≠ TO ∧ S ≠ i1 ∧ S ≠ i2 ∧ S ≠ a ∧ S ≠ b)
    (hn : n = min its.size its2.size) (hn2 : n ≤ sizeLine) : ∀ (k i : Nat) (s : Shared) (ts : List Addr) (c : Nat), n - i = k → i ≤ n → base ≤ s.heap.objs.size → Zq s.heap z TI TO i1 i2 a b its its2 i →
    (∀ T f, IsZipHeld s.heap z TI TO T f → T ≠ S) → s.heap.get? S = some (lstO (ts.map Value.ref).toArray c) → Tq2 base s.heap its its2 S ts i → (∀ T ∈ ts, T ≠ z ∧ T ≠ TO ∧ T ≠ i1 ∧ T ≠ i2) →
    (∀ s' ts' c', (∀ x o, x ≠ S → x ≠ z → x ≠ TO → x ≠ i1 → x ≠ i2 → s.heap.get? x = some o → s'.heap.get? x = some o) → s'.gens = s.gens → s'.drawn = s.drawn → s'.os = s.os → s'.heap.get? S = some (lstO (ts'.map Value.ref).toArray c') →
      Tq2 base s'.heap its its2 S ts' n → R (.ok (.ret res)) s') →
    codeAny (model prog w) A (.builtin "list.extend.loop" ⟨[.ref S, .ref z, res], []⟩) R s := by
  intro k
  induction k with
  | zero =>
    intro i s ts c hk hi hb st hT hS hts hnz hR
    obtain rfl : i = n := by omega
    have hend : its[i]? = none ∨ its2[i]? = none := by
      rcases Nat.le_total its.size its2.size with h | h
      · exact .inl (Array.getElem?_eq_none (by rw [hn, Nat.min_eq_left h]; exact Nat.le_refl _))
      · exact .inr (Array.getElem?_eq_none (by rw [hn, Nat.min_eq_right h]; exact Nat.le_refl _))
    have fin : ∀ (h' : Heap), (∀ x o, x ≠ z → x ≠ TO → x ≠ i1 → x ≠ i2 → s.heap.get? x = some o → h'.get? x = some o) → R (.ok (.ret res)) { s with heap := h' } := fun h' hk =>
      hR { s with heap := h' } ts c (fun x o _ a1 a2 a3 a4 e => hk x o a1 a2 a3 a4 e) rfl rfl rfl (hk S _ nS.1 nS.2.2.1 nS.2.2.2.1 nS.2.2.2.2.1 hS)
        ⟨hts.1, hts.2.1, fun j T e => by
          obtain ⟨c1, c2, x, y, c3, c4, c5⟩ := hts.2.2 j T e
          obtain ⟨d1, d2, d3, d4⟩ := hnz T (List.mem_of_getElem? e)
          exact ⟨c1, c2, x, y, c3, c4, hk T _ d1 d2 d3 d4 c5⟩⟩
    refine codeAny_builtin PySem.F.entry_extend_loop ?_
    rw [Around.under_plainId PySem.F.plain_extend_loop _]
    show wpAny _ A.in1 ((pyNext (.ref z)).bind _) _ _ s
    rcases st.z with ⟨hz, x, y, ht⟩ | ⟨T, fl, oT, hz, hT', r⟩
    · exact wpAny_bind (wpAny_pyNext_zip_end hh D hz st.ti ht st.h1 st.h2 st.p1 st.p2 hend fun h' hk => wpAny_pure (fin h' hk))
    · exact wpAny_bind (wpAny_pyNext_zip_end_held hh D hz hT' st.ti st.h1 st.h2 st.p1 st.p2 hend fun h' hk => wpAny_pure (fin h' fun x o a1 _ a3 a4 e => hk x o a1 a3 a4 e))
  | succ k ih =>
    intro i s ts c hk hi hb st hT hS hts hnz hR
    have hlt : i < n := by omega
    have hix : i < its.size := by omega
    have hiy : i < its2.size := by omega
    have ex := Array.getElem?_eq_getElem hix
    have ey := Array.getElem?_eq_getElem hiy
    have lt : ∀ {c : Addr} {o : Obj}, s.heap.get? c = some o → s.heap.objs.size ≠ c := fun e => Nat.ne_of_gt (Heap.lt_size e)
    have lS := lt hS
    have lz : s.heap.objs.size ≠ z := by
      rcases st.z with ⟨hz, _⟩ | ⟨_, _, _, hz, _⟩
      · exact lt hz
      · exact lt hz
    have l1 : s.heap.objs.size ≠ i1 := let ⟨_, e, _⟩ := st.h1; lt e
    have l2 : s.heap.objs.size ≠ i2 := let ⟨_, e, _⟩ := st.h2; lt e
    have lTO : s.heap.objs.size ≠ TO := let ⟨_, e⟩ := st.to; lt e
    have go : ∀ h' : Heap, h'.IsListIter i1 a (i + 1) → h'.IsListIter i2 b (i + 1) → IsPair h' s.heap.objs.size its[i] its2[i] → h'.objs.size = s.heap.objs.size + 1 →
        (∀ x o, x ≠ z → x ≠ TO → x ≠ i1 → x ≠ i2 → s.heap.get? x = some o → h'.get? x = some o) →
        (∃ o, h'.get? TO = some o) → ((IsZip h' z TI TO .none ∧ ∃ x y, IsPair h' TO x y) ∨ ∃ T f oT, IsZipHeld h' z TI TO T f ∧ h'.get? T = some oT ∧ T ≠ z ∧ T ≠ i1 ∧ T ≠ i2) → (∀ T f, IsZipHeld h' z TI TO T f → T ≠ S) →
        wpAny (model prog w) A.in1 (do Builtin.List.listUpdate (.ref S) (·.push (.ref s.heap.objs.size)); again (.builtin "list.extend.loop" ⟨[.ref S, .ref z, res], []⟩)) (fun fin s' => match fin with | .done f => R (.ok f) s' | .again c' => c'.quiet = true ∧ codeAny (model prog w) A c' R s') (fun e s' => R (.error e) s') { s with heap := h' } := by
      intro h' g1 g2 gT gz hk hto zz hT'
      have hS' := hk S _ nS.1 nS.2.2.1 nS.2.2.2.1 nS.2.2.2.2.1 hS
      refine wpAny_bind ?_
      show wpAny _ _ (updateSeq S (·.push (.ref s.heap.objs.size))) _ _ _
      have lm : (ts.map Value.ref).toArray.size = i := by simp [hts.1]
      have hpu : (ts.map Value.ref).toArray.push (.ref s.heap.objs.size) = ((ts ++ [s.heap.objs.size]).map Value.ref).toArray := by simp
      have st' : Zq h' z TI TO i1 i2 a b its its2 (i + 1) := ⟨hk _ _ D.TIz D.TITO D.TIi1 D.TIi2 st.ti, g1, g2, st.p1.at fun o e => hk _ o D.l1z D.l1TO D.l1i1 D.l1i2 e, st.p2.at fun o e => hk _ o D.l2z D.l2TO D.l2i1 D.l2i2 e, hto, zz⟩
      obtain ⟨c2, e1⟩ : ∃ c2, (h'.update S (Obj.mapSeq (·.push (.ref s.heap.objs.size)))).get? S = some (lstO ((ts ++ [s.heap.objs.size]).map Value.ref).toArray c2) := by
        have e0 := Heap.get?_update_self (Obj.mapSeq (·.push (.ref s.heap.objs.size))) hS' rfl
        rw [← hpu]
        exact ⟨_, e0⟩
      refine wpAny_updateSeq hS' rfl (wpAny_pure ⟨plainId_quiet PySem.F.plain_extend_loop _, ih (i + 1) _ (ts ++ [s.heap.objs.size]) c2 (by omega) hlt ?_ (st'.upd nS hT') ?_ e1 ?_ ?_ ?_⟩) (by rw [lm]; omega) (by show ((ts.map Value.ref).toArray.push _).size ≤ sizeLine + 1; rw [Array.size_push, lm]; omega)
      · show base ≤ (h'.update S _).objs.size
        have : (h'.update S (Obj.mapSeq (·.push (.ref s.heap.objs.size)))).objs.size = h'.objs.size := by simp [Heap.update]
        rw [this, gz]
        omega
      · intro T f e
        exact hT' T f ((Heap.get?_update_other _ _ nS.1).symm.trans e)
      · refine ⟨by simp [hts.1], ?_, fun j T e => ?_⟩
        · rw [List.nodup_append]
          refine ⟨hts.2.1, by simp, fun x hx y hy e => ?_⟩
          rw [List.mem_singleton.mp hy] at e
          obtain ⟨j, hj⟩ := List.getElem?_of_mem hx
          obtain ⟨_, _, _, _, _, _, c5⟩ := hts.2.2 j x hj
          exact lt c5 e.symm
        · have g : ∀ {c : Addr} {o : Obj}, S ≠ c → h'.get? c = some o → (h'.update S (Obj.mapSeq (·.push (.ref s.heap.objs.size)))).get? c = some o := fun hc e => (Heap.get?_update_other _ _ hc).trans e
          by_cases hj : j < ts.length
          · rw [List.getElem?_append_left hj] at e
            obtain ⟨c1, c2, x, y, c3, c4, c5⟩ := hts.2.2 j T e
            obtain ⟨d1, d2, d3, d4⟩ := hnz T (List.mem_of_getElem? e)
            exact ⟨c1, c2, x, y, c3, c4, g c2.symm (hk T _ d1 d2 d3 d4 c5)⟩
          · have hj2 : j = ts.length := by
              have := (List.getElem?_eq_some_iff.mp e).1
              simp at this
              omega
            subst hj2
            rw [List.getElem?_append_right (Nat.le_refl _)] at e
            simp at e
            subst e
            refine ⟨hb, lS, _, _, by rw [hts.1]; exact ex, by rw [hts.1]; exact ey, g lS.symm gT⟩
      · intro T hT2
        rcases List.mem_append.mp hT2 with h | h
        · exact hnz T h
        · rw [List.mem_singleton.mp h]
          exact ⟨lz, lTO, l1, l2⟩
      · intro s' ts' c' q1 q2 q3 q4 q5 q6
        refine hR s' ts' c' (fun x o a0 a1 a2 a3 a4 e => q1 x o a0 a1 a2 a3 a4 ?_) q2 q3 q4 q5 q6
        exact (Heap.get?_update_other _ _ (fun h : S = x => a0 h.symm)).trans (hk x o a1 a2 a3 a4 e)
    refine codeAny_builtin PySem.F.entry_extend_loop ?_
    rw [Around.under_plainId PySem.F.plain_extend_loop _]
    show wpAny _ A.in1 ((pyNext (.ref z)).bind _) _ _ s
    rcases st.z with ⟨hz, x, y, ht⟩ | ⟨T, fl, oT, hz, hT', r1, r2, r3⟩
    · refine wpAny_bind (wpAny_pyNext_zip_item D hz st.ti ht st.h1 st.h2 st.p1 st.p2 ex ey fun h' a1 a2 a3 a4 a5 a6 hk => ?_)
      exact go h' a3 a4 a5 a6 hk ⟨_, a2⟩ (.inr ⟨s.heap.objs.size, false, _, a1, a5, lz, l1, l2⟩) fun T f e => by
        rw [heldT (a1.symm.trans e)]
        exact lS
    · have lT := hT T fl hz
      refine wpAny_bind (wpAny_pyNext_zip_item_held D hz hT' st.ti st.h1 st.h2 st.p1 st.p2 ex ey fun h' a1 a3 a4 a5 a6 hk => ?_)
      exact go h' a3 a4 a5 a6 (fun x o b1 _ b3 b4 e => hk x o b1 b3 b4 e) (let ⟨o, e⟩ := st.to; ⟨o, hk _ o D.TOz D.TOi1 D.TOi2 e⟩) (.inr ⟨T, true, oT, a1, hk _ _ r1 r2 r3 hT', r1, r2, r3⟩) fun T' f e => by
        rw [heldT (a1.symm.trans e)]
        exact lT
end
section
variable {prog : Program} {w : World} {A : Around} {E : Value → Shared → Prop} {s : Shared}
theorem get_push {h : Heap} {o u : Obj} {c : Addr} (e : h.get? c = some o) : (h.push u).get? c = some o := Heap.get?_push_of_some _ e
theorem Zq.keep {h h' : Heap} {z TI TO i1 i2 a b : Addr} {its its2 : Array Value} {i : Nat} (st : Zq h z TI TO i1 i2 a b its its2 i) (g : ∀ {c : Addr} {o : Obj}, h.get? c = some o → h'.get? c = some o) : Zq h' z TI TO i1 i2 a b its its2 i := by
  refine ⟨g st.ti, st.h1.at fun o e => g e, st.h2.at fun o e => g e, st.p1.at fun o e => g e, st.p2.at fun o e => g e, let ⟨o, e⟩ := st.to; ⟨o, g e⟩, ?_⟩
  rcases st.z with ⟨hz, x, y, ht⟩ | ⟨T, fl, oT, hz, hT, r⟩
  · exact .inl ⟨g hz, x, y, g ht⟩
  · exact .inr ⟨T, fl, oT, g hz, g hT, r⟩
theorem call_list_zip {z TI TO i1 i2 a b : Addr} {its its2 : Array Value} {Q : Value → Shared → Prop} (D : ZipApart z TI TO i1 i2 a b) (hh : A.handled = none) (hn : min its.size its2.size ≤ sizeLine) (hz0 : IsZip s.heap z TI TO .none)
    (st : Zq s.heap z TI TO i1 i2 a b its its2 0)
    (hQ : ∀ s' ts c, (∀ x o, x ≠ z → x ≠ TO → x ≠ i1 → x ≠ i2 → s.heap.get? x = some o → s'.heap.get? x = some o) → s'.gens = s.gens → s'.drawn = s.drawn → s'.os = s.os → s'.heap.get? s.heap.objs.size = some (lstO (ts.map Value.ref).toArray c) →
      Tq2 s.heap.objs.size s'.heap its its2 s.heap.objs.size ts (min its.size its2.size) → Q (.ref s.heap.objs.size) s') : wpAny (model prog w) A (call (.type "list") [.ref z]) Q E s := by
  have lt : ∀ {c : Addr} {o : Obj}, s.heap.get? c = some o → s.heap.objs.size ≠ c := fun e => Nat.ne_of_gt (Heap.lt_size e)
  have nS : s.heap.objs.size ≠ z ∧ s.heap.objs.size ≠ TI ∧ s.heap.objs.size ≠ TO ∧ s.heap.objs.size ≠ i1 ∧ s.heap.objs.size ≠ i2 ∧ s.heap.objs.size ≠ a ∧ s.heap.objs.size ≠ b :=
    ⟨lt hz0, lt st.ti, let ⟨_, e⟩ := st.to; lt e, let ⟨_, e, _⟩ := st.h1; lt e, let ⟨_, e, _⟩ := st.h2; lt e, let ⟨_, e, _⟩ := st.p1; lt e, let ⟨_, e, _⟩ := st.p2; lt e⟩
  have hh3 : A.in1.in1.handled = none := hh
  refine callType_codes (Q₁ := fun v s1 => v = Value.ref s.heap.objs.size ∧ s1 = { s with heap := s.heap.push (lstO #[] 0) }) PySem.F.called_list (PySem.F.typeCall_list_1 _) PySem.F.entry_list_init (code_list_new _ ⟨rfl, rfl⟩) fun v s1 hv => ?_
  obtain ⟨rfl, rfl⟩ := hv
  have e0 : (s.heap.push (lstO #[] 0)).get? s.heap.objs.size = some (lstO #[] 0) := Heap.get?_push_size _ rfl
  refine ⟨⟨_, e0, rfl⟩, PySem.F.args_list_init_2 _ _, ?_⟩
  have z1 : Zq (s.heap.push (lstO #[] 0)) z TI TO i1 i2 a b its its2 0 := st.keep fun e => get_push e
  have zf1 : IsZip (s.heap.push (lstO #[] 0)) z TI TO .none := get_push hz0
  show wpAny _ _ ((Builtin.List.listItems (.ref s.heap.objs.size)).bind _) _ _ _
  refine wpAny_bind ?_
  unfold Builtin.List.listItems
  refine wpAny_bind (wpAny_seqItems e0 rfl (wpAny_pure ?_))
  refine wpAny_bind (show wpAny _ _ (updateSeq s.heap.objs.size (fun _ => #[])) _ _ _ from wpAny_updateSeq e0 rfl ?_)
  have e1 := Heap.get?_update_self (Obj.mapSeq (fun _ => (#[] : Array Value))) e0 rfl
  have nH : ∀ {h : Heap} {T : Addr} {f : Bool}, IsZip h z TI TO .none → ¬ IsZipHeld h z TI TO T f := fun p q => by
    have c := p.symm.trans q
    have c1 := congrArg (fun o : Obj => o.data) (Option.some.inj c)
    injection c1 with c2
    have c3 := congrArg Array.toList c2
    injection c3 with c4 c5
    cases c4
  have g2 : ∀ {c : Addr} {o : Obj}, s.heap.objs.size ≠ c → (s.heap.push (lstO #[] 0)).get? c = some o → ((s.heap.push (lstO #[] 0)).update s.heap.objs.size (Obj.mapSeq (fun _ => (#[] : Array Value)))).get? c = some o := fun hc e => (Heap.get?_update_other _ _ hc).trans e
  have zf2 : IsZip ((s.heap.push (lstO #[] 0)).update s.heap.objs.size (Obj.mapSeq (fun _ => (#[] : Array Value)))) z TI TO .none := g2 nS.1 zf1
  have z2 := z1.upd (f := Obj.mapSeq (fun _ => (#[] : Array Value))) nS fun T f e => (nH zf1 e).elim
  refine wpAny_bind (wpAny_letGo ?_)
  have hT : ({ s with heap := (s.heap.push (lstO #[] 0)).update s.heap.objs.size (Obj.mapSeq (fun _ => (#[] : Array Value))) } : Shared).TypeIs (.ref z) "zip" := ⟨_, zf2, rfl⟩
  unfold Builtin.List.listExtendWith
  refine wpAny_bind (wpAny_typeOf hT ?_)
  have b1 : Builtin.List.listSameRef (.ref s.heap.objs.size) (.ref z) = false := by simp [Builtin.List.listSameRef, nS.1]
  have b2 : (Value.type "zip" == Value.type "list") = false := by decide
  have b3 : (Value.type "zip" == Value.type "tuple") = false := by decide
  simp only [b1, b2, b3, Bool.or_false, Bool.false_eq_true, if_false]
  refine wpAny_bind (wpAny_pyIter_zip zf2 ?_)
  refine wpAny_bind (wpAny_holding ?_)
  unfold Builtin.List.listLengthHint
  refine wpAny_bind (wpAny_specialOf hT zip_len0 ?_)
  refine wpAny_bind (wpAny_specialOf hT zip_hint0 ?_)
  refine wpAny_pure (wpAny_bind (wpAny_rule (wpAny_bind ?_)))
  show wpAny _ _ ((updateSeq s.heap.objs.size (·.push .none)).bind fun _ => updateSeq s.heap.objs.size (·.pop)) _ _ _
  refine wpAny_bind (wpAny_updateSeq e1 rfl ?_)
  have e2 := Heap.get?_update_self (Obj.mapSeq (·.push Value.none)) e1 rfl
  refine wpAny_updateSeq (hz := by seq_fits) e2 rfl ?_
  have e3 := Heap.get?_update_self (Obj.mapSeq (·.pop)) e2 rfl
  have z3 := z2.upd (f := Obj.mapSeq (·.push Value.none)) nS fun T f e => (nH zf2 e).elim
  have zf3 : IsZip (((s.heap.push (lstO #[] 0)).update s.heap.objs.size (Obj.mapSeq (fun _ => (#[] : Array Value)))).update s.heap.objs.size (Obj.mapSeq (·.push Value.none))) z TI TO .none := (Heap.get?_update_other _ _ nS.1).trans zf2
  have z4 := z3.upd (f := Obj.mapSeq (·.pop)) nS fun T f e => (nH zf3 e).elim
  have zf4 : IsZip ((((s.heap.push (lstO #[] 0)).update s.heap.objs.size (Obj.mapSeq (fun _ => (#[] : Array Value)))).update s.heap.objs.size (Obj.mapSeq (·.push Value.none))).update s.heap.objs.size (Obj.mapSeq (·.pop))) z TI TO .none := (Heap.get?_update_other _ _ nS.1).trans zf3
  refine wpAny_pure ⟨plainId_quiet PySem.F.plain_extend_loop _, zip_loop (base := s.heap.objs.size) (res := .none) D hh3 nS rfl hn _ 0 _ [] _ rfl (Nat.zero_le _) ?_ z4 (fun T f e => (nH zf4 e).elim) e3 ⟨rfl, List.nodup_nil, by simp⟩ (by simp) fun s' ts' c' q1 q2 q3 q4 q5 q6 => ?_⟩
  · show s.heap.objs.size ≤ ((((s.heap.push (lstO #[] 0)).update _ _).update _ _).update _ _).objs.size
    simp [Heap.update, Heap.push]
  · refine ⟨rfl, hQ s' ts' c' (fun x o a1 a2 a3 a4 e => ?_) q2 q3 q4 q5 q6⟩
    have hx : s.heap.objs.size ≠ x := lt e
    exact q1 x o hx.symm a1 a2 a3 a4 ((Heap.get?_update_other _ _ hx).trans ((Heap.get?_update_other _ _ hx).trans ((Heap.get?_update_other _ _ hx).trans (get_push e))))
end
end U

namespace U
open PySem L2 PySem.Spec PyProof.Rows
/-! list(zip(xs, ys)) of two lists, as an expression -/
theorem rw_of {H : Hp} : ∀ {vs : List V} {rs : List (List V)}, vs.length = rs.length → (∀ (j : Nat) v r, vs[j]? = some v → rs[j]? = some r → ∃ T, v = .ref T ∧ H T = some (.tup r)) → Rw H vs rs
  | [], [], _, _ => .nil
  | [], _ :: _, h, _ => by simp at h
  | _ :: _, [], h, _ => by simp at h
  | v :: vs, r :: rs, h, g => by
    obtain ⟨T, rfl, e⟩ := g 0 v r rfl rfl
    exact .cons e (rw_of (by simpa using h) fun j v' r' e1 e2 => g (j + 1) v' r' (by simpa using e1) (by simpa using e2))
def zRows (xs ys : List V) : List (List V) := (xs.zip ys).map fun p => [p.1, p.2]
def zipH (H : Hp) (S : Addr) (ts : List Addr) (xs ys : List V) : Hp := fun c => if c = S then some (.lst (ts.map V.ref)) else match ts.findIdx? (fun T => T == c) with
  | some j => some (.tup [xs.getD j .non, ys.getD j .non])
  | none => H c
theorem zipH_S {H : Hp} {S : Addr} {ts : List Addr} {xs ys : List V} : zipH H S ts xs ys S = some (.lst (ts.map V.ref)) := if_pos rfl
theorem zipH_T {H : Hp} {S : Addr} {ts : List Addr} {xs ys : List V} {j : Nat} {T : Addr} (nd : ts.Nodup) (e : ts[j]? = some T) (n : T ≠ S) : zipH H S ts xs ys T = some (.tup [xs.getD j .non, ys.getD j .non]) := by
  unfold zipH
  rw [if_neg n]
  have : ts.findIdx? (fun T' => T' == T) = some j := by
    obtain ⟨hj, ej⟩ := List.getElem?_eq_some_iff.mp e
    rw [List.findIdx?_eq_some_iff_getElem]
    refine ⟨hj, by simp [ej], fun k hk => ?_⟩
    have hne : ts[k] ≠ ts[j] := fun z => by
      have := (List.getElem_inj nd).mp z
      omega
    simp [← ej, hne]
  rw [this]
theorem zipH_o {H : Hp} {S c : Addr} {ts : List Addr} {xs ys : List V} (n : c ≠ S) (m : c ∉ ts) : zipH H S ts xs ys c = H c := by
  unfold zipH
  rw [if_neg n]
  have : ts.findIdx? (fun T' => T' == c) = none := by
    rw [List.findIdx?_eq_none_iff]
    intro x hx
    simpa using fun z : x = c => m (z ▸ hx)
  rw [this]
def LzK (K : PySem.W.Frag) (Q : VK) : List V → Hp → Prop := fun vs H => ∃ (a b : Addr) (xs ys : List V), vs = [.ref a, .ref b] ∧ SqL K H a xs ∧ SqL K H b ys ∧ xs.length = ys.length ∧
  ∀ l ws H', H l = none → H' l = some (.lst ws) → Rw H' ws (zRows xs ys) → Kp [] H H' → Q (.ref l) H'
def tLz (K : PySem.W.Frag) (ta : TA) : TE := fun σ H Q => ta σ H (LzK K Q)
section
variable {ta' tb' : TE} {X : Cx} {K : PySem.W.Frag} {e e2 : Expr} {ta : TA} {p p2 pos pos2 : Pos} {σ : L2.St} {H : Hp} {Q : VK} {a b : Addr} {xs ys : List V}
theorem pe_listZip (hK : X.K = K) (hc : X.calm = true) (hgD : Gl X "list") (hmD : X.mg "list" = none) (hgZ : Gl X "zip") (hmZ : X.mg "zip" = none) (ha : PA X [e, e2] ta)
    (hs : starEach [e, e2] X.env = (false, eval e X.env) :: starEach [e2] X.env := by rfl) (hpl : (backTo pos2 (starEach [e2] X.env)).any (·.1) = false := by rfl)
    (hs2 : starEach [.Call (.Name "zip" p2) [e, e2] [] pos2] X.env = [(false, eval (.Call (.Name "zip" p2) [e, e2] [] pos2) X.env)] := by rfl) :
    PE X (.Call (.Name "list" p) [.Call (.Name "zip" p2) [e, e2] [] pos2] [] pos) (tLz K ta) := by
  subst hK
  refine ⟨fun pins s σ H Q I h => ?_⟩
  refine wpAny_Call_Name_kw (ld_blt I hgD hmD bt_list ?_ (by decide) (by decide))
  refine PyProof.Rows.callWith_type1 ?_ hs2 rfl
  rw [hs2]
  show wpAny _ _ (spliced ((false, eval (.Call (.Name "zip" p2) [e, e2] [] pos2) X.env) :: [])) _ _ s
  refine Calls.spliced_cons ?_
  refine Call_ (ld_blt I hgZ hmZ PyProof.Rows.boot_zip (PyProof.Rows.callWith_type1 (thn (ha.run pos2 pins s σ H _ I h) fun us s1 ⟨vs, H1, I1, r1, q1⟩ => ?_) hs hpl))
  obtain ⟨a, b, xs, ys, ex, hqx, hqy, hl, q⟩ := q1
  subst ex
  cases r1 with
  | cons r rr =>
    cases rr with
    | cons r' rr =>
      cases rr
      cases r
      cases r'
      obtain ⟨its, rv, p1, hz1⟩ := I1.list hqx
      obtain ⟨its2, rv2, p2', hz2⟩ := I1.list hqy
      have l1 := rv.length
      have l2 := rv2.length
      refine zip_begins2 (begins_list a its.toArray) (begins_list b its2.toArray) p1.isList p2'.isList fun h' hz hTI hTO h1 h2 hsz hk => ?_
      refine Calls.spliced_nil ?_
      have lt1 : a < s1.heap.objs.size := by obtain ⟨o, ho, _⟩ := p1.isList; exact Heap.lt_size ho
      have lt2 : b < s1.heap.objs.size := by obtain ⟨o, ho, _⟩ := p2'.isList; exact Heap.lt_size ho
      have hmin : min its.toArray.size its2.toArray.size = xs.length := by simp only [List.size_toArray]; omega
      refine call_list_zip (s := { s1 with heap := h' }) (PySem.W.ktu_apart s1.heap.objs.size a b lt1 lt2) (I1.ok.hd hc) (by rw [hmin]; exact hz1) hz
        ⟨hTI, ⟨_, h1, rfl, rfl⟩, ⟨_, h2, rfl, rfl⟩, p1.isList.at fun o e => hk _ o e, p2'.isList.at fun o e => hk _ o e, ⟨_, hTO⟩, .inl ⟨hz, _, _, hTO⟩⟩ fun s' ts c kp g1 g2 g3 eS hts => ?_
      obtain ⟨lts, nd, hT⟩ := hts
      rw [hmin] at lts
      have big : s1.heap.objs.size ≤ h'.objs.size := by rw [hsz]; exact Nat.le_add_right _ _
      have old : ∀ {x : Addr} {o : Obj}, s1.heap.get? x = some o → s'.heap.get? x = some o := fun {x o} e => by
        have hlt := Heap.lt_size e
        refine kp x o ?_ ?_ ?_ ?_ (hk x o e) <;> (intro z; rw [z] at hlt; first | exact absurd hlt (Nat.not_lt.mpr (Nat.le_add_right _ _)) | exact absurd hlt (Nat.lt_irrefl _))
      have sameL : ∀ {x : Addr}, x < s1.heap.objs.size → zipH H1 h'.objs.size ts xs ys x = H1 x := fun {x} hlt => zipH_o (Nat.ne_of_lt (Nat.lt_of_lt_of_le hlt big)) fun m => by
        obtain ⟨j, hj⟩ := List.getElem?_of_mem m
        have c1 : h'.objs.size ≤ x := (hT j x hj).1
        exact Nat.lt_irrefl _ (Nat.lt_of_lt_of_le (Nat.lt_of_lt_of_le hlt big) c1)
      have same : ∀ {x : Addr} {o : Obj}, s1.heap.get? x = some o → zipH H1 h'.objs.size ts xs ys x = H1 x := fun e => sameL (Heap.lt_size e)
      have sameH : ∀ {x : Addr} {o : HO}, H1 x = some o → zipH H1 h'.objs.size ts xs ys x = some o := fun {x o} e => by
        rw [sameL (I1.hok x o e).lt, e]
      have fresh : H1 h'.objs.size = none := I1.hok.fresh big
      have new : HOk X.prog X.w (zipH H1 h'.objs.size ts xs ys) s'.heap := fun x o e => by
        by_cases hS : x = h'.objs.size
        · subst hS
          rw [zipH_S] at e
          cases e
          refine ⟨by rw [List.length_map, lts]; exact hz1, ts.map Value.ref, c, ?_, eS⟩
          have : ∀ l : List Addr, Vals (l.map V.ref) (l.map Value.ref) := by
            intro l
            induction l with
            | nil => exact .nil
            | cons t l ih => exact .cons rfl ih
          exact this ts
        · by_cases hm : x ∈ ts
          · obtain ⟨j, hj⟩ := List.getElem?_of_mem hm
            obtain ⟨c1, c2, u, u2, e1, e2, e3⟩ := hT j x hj
            rw [zipH_T nd hj c2] at e
            cases e
            have hjl : j < xs.length := by rw [← lts]; exact (List.getElem?_eq_some_iff.mp hj).1
            obtain ⟨v1, f1, r1'⟩ := rv.get (i := j) (x := xs[j]) (List.getElem?_eq_getElem hjl)
            obtain ⟨v2, f2, r2'⟩ := rv2.get (i := j) (x := ys[j]'(by omega)) (List.getElem?_eq_getElem (by omega))
            rw [List.getElem?_toArray, f1] at e1
            rw [List.getElem?_toArray, f2] at e2
            cases e1
            cases e2
            refine ⟨by show 2 ≤ sizeLine; decide, [u, u2], .cons ?_ (.cons ?_ .nil), ⟨_, e3, rfl, _, rfl⟩⟩
            · rw [List.getD_eq_getElem?_getD, List.getElem?_eq_getElem hjl]; exact r1'
            · rw [List.getD_eq_getElem?_getD, List.getElem?_eq_getElem (show j < ys.length by omega)]; exact r2'
          · rw [zipH_o hS hm] at e
            exact (I1.hok x o e).stay (fun c' v _ g => old g) (fun c' g => sameH g) fun c' vs g => sameH g
      have un : Un X.fs [] H1 (zipH H1 h'.objs.size ts xs ys) s1.heap s'.heap := {
        keep := fun x o e _ _ _ => old e
        slot := fun x o e _ _ _ => ⟨o.slots, old e⟩
        free := fun x o e n _ => by rw [same e]; exact n
        there := fun x o e _ => ⟨o, old e⟩
        tups := fun x vs e => sameH e
        frzs := fun x o u e => sameH e
        tbls := fun x ps e => ⟨#[], by rw [sameH e]; simp⟩ }
      have J := I1.un (t' := s'.toks) un new
      have es : ({ s1 with heap := s'.heap, toks := s'.toks } : Shared) = s' := by
        obtain ⟨x1, x2, x3, x4, x5⟩ := s'
        have a1 : x2 = s1.gens := g1
        have a2 : x3 = s1.drawn := g2
        have a3 : x5 = s1.os := g3
        subst a1 a2 a3
        rfl
      rw [es] at J
      refine ⟨.ref h'.objs.size, _, J, rfl, q h'.objs.size (ts.map V.ref) _ fresh zipH_S (rw_of ?_ fun j v r e1 e2 => ?_) ⟨fun x o e _ => sameH e, fun x i ⟨o, e, z⟩ => ⟨o, sameH e, z⟩, fun x vs e => sameH e⟩⟩
      · simp [zRows, lts, hl]
      · rw [List.getElem?_map] at e1
        obtain ⟨T, hj, rfl⟩ := Option.map_eq_some_iff.mp e1
        refine ⟨T, rfl, ?_⟩
        rw [zipH_T nd hj (hT j T hj).2.1]
        unfold zRows at e2
        rw [List.getElem?_map] at e2
        obtain ⟨pr, ep, rfl⟩ := Option.map_eq_some_iff.mp e2
        obtain ⟨f1, f2⟩ := List.getElem?_zip_eq_some.mp ep
        rw [List.getD_eq_getElem?_getD, List.getD_eq_getElem?_getD, f1, f2]
        rfl
theorem pe_orK {ea eb : Expr} {tc td : TE} {rest : List Expr} (hK : X.K = K) (ha : PE X ea tc) (hb : PE X (.BoolOp .Or (eb :: rest) pos) td) : PE X (.BoolOp .Or (ea :: eb :: rest) pos) (tOrT K tc td) := hK ▸ pe_orT ha hb
instance : Stp (tLz K ta σ H Q) (ta σ H (LzK K Q)) := ⟨fun h => h⟩
theorem s_lz (h1 : H a = some (.lst xs)) (h2 : H b = some (.lst ys)) (hl : xs.length = ys.length) (q : ∀ l ws H', H l = none → H' l = some (.lst ws) → Rw H' ws (zRows xs ys) → Kp [] H H' → Q (.ref l) H') : LzK K Q [.ref a, .ref b] H :=
  ⟨a, b, xs, ys, rfl, SqL.of h1, SqL.of h2, hl, q⟩
instance : Stp (tOrT K ta' tb' σ H Q) (ta' σ H fun x H1 => ∃ k, TruV K x H1 k ∧ if k = true then Q x H1 else tb' σ H1 Q) := ⟨fun h => h⟩
end
end U

namespace U
open PySem L2 PySem.Spec PyProof.Rows
/-! f(e, ..), the last one left out (its default is None) -/
section
variable {X : Cx} {k : Nat} {f : Addr} {fd : FuncData} {ps : List Str} {sp : Sp} {W : WX} {x : Str} {p pos : Pos} {e : Expr} {es : List Expr} {t : TA}
variable {pi : List (Addr × Obj)} {σ : L2.St} {H : Hp} {s : Shared} {Q : VK} {us : List Value} {vs : List V}
def tCoD (sp : Sp) (W : WX) (t : TA) : TE := fun σ H Q => t σ H fun vs H1 => sp (vs ++ [.non]) H1 Q fun cls d H' => W cls d σ H'
theorem run_oD (F : FnOk X.prog X.w X.K X.mg X.base (L2.CX X.prog X.w) k f fd ps sp) (hr : Room k X.A) (hb : Binds X.K fd ps [.none]) (tk : Takes X W) (I : Inv X pi σ H s) (r : Vals vs us) (h : sp (vs ++ [.non]) H Q (fun cls d H' => W cls d σ H')) :
    wpAny (model X.prog X.w) X.A (call (.ref f) us) (EP X pi σ Q) X.xe s := by
  have r2 : Vals (vs ++ [V.non]) (us ++ [.none]) := r.append (.cons rfl .nil)
  have b : BindsTo _ fd ⟨us, []⟩ (ps.zip (us ++ [.none])) := hb _ us I.kIn (by rw [← r2.length]; exact F.len _ _ _ _ h)
  refine wpAny_call (codeAny_mono (F.run X.A X.stack s H ⟨us, []⟩ (us ++ [.none]) _ Q _ hr I.env0 b r2 h) fun rr s' hq => ?_)
  match rr, hq with
  | .error er, z => exact tk er s' (XE.of_call I (fun _ _ _ y => y) z)
  | .ok (.ret u), z => exact I.after z
  | .ok .next, z => exact z.elim
  | .ok .brk, z => exact z.elim
  | .ok .cont, z => exact z.elim
theorem pe_coD (F : FnOk X.prog X.w X.K X.mg X.base (L2.CX X.prog X.w) k f fd ps sp) (hr : Room k X.A) (gl : Gl X x) (hm : X.mg x = some (.ref f)) (hk : PySem.W.keepIn X.K (.ref f) = true) (hb : Binds X.K fd ps [.none]) (tk : Takes X W)
    (ha : PA X (e :: es) t) (h1 : (x == ("__debug__" : Str)) = false := by decide) (h2 : starEach (e :: es) X.env = (false, eval e X.env) :: starEach es X.env := by rfl) (h3 : (backTo pos (starEach es X.env)).any (·.1) = false := by rfl) :
    PE X (.Call (.Name x p) (e :: es) [] pos) (tCoD sp W t) := by
  refine ⟨fun pi s σ H Q I h => wpAny_Call_Name_kw (ld_glob I gl hm ?_ h1)⟩
  refine PySem.W.callWith_K (h₀ := X.base) I.ok.mod.kin hk (thn (ha.run pos pi s σ H _ I h) ?_) h2 h3
  rintro us s1 ⟨vs, H1, I1, r, q⟩
  exact ⟨I1.kIn, run_oD F hr hb tk I1 r q⟩
instance : Stp (tCoD sp W t σ H Q) (t σ H fun vs H1 => sp (vs ++ [.non]) H1 Q fun cls d H' => W cls d σ H') := ⟨fun h => h⟩
end
end U

/-! a large top in pieces: each piece run in the kernel, the state behind it written out -/
noncomputable section
namespace UH
open PySem PySem.W PySem.Calls PyProof.Rows HandSHeadRun
section
variable (st : SharedT → Thread → Option (SharedT × Thread)) (n0 : Nat) (ann : Option Value) (b : Nat)
/-- a piece, to its end -/
def sgF : Nat → SharedT → Thread → Option (Flow × SharedT × Code × Pos)
  | 0, _, _ => none
  | m + 1, s, t => match endAt b t with
    | some f => some (f, s, t.code, t.pos)
    | none => match stepOk n0 ann t with
      | false => none
      | true => match st s t with
        | some (s', t') => frS s' fun s' => sgF m s' t'
        | none => none
/-- so many steps -/
def tgF : Nat → SharedT → Thread → Option (SharedT × Thread)
  | 0, s, t => some (s, t)
  | m + 1, s, t => match through t with
    | true => none
    | false => match stepOk n0 ann t with
      | false => none
      | true => match st s t with
        | some (s', t') => frS s' fun s' => tgF m s' t'
        | none => none
end
section
variable {tb : String → Option Builtin} {p : Program} {w : World} {n0 : Nat} {ann : Option Value} {b : Nat}
theorem sgF_ok : ∀ {m : Nat} {s : SharedT} {t : Thread} {r : Flow × SharedT × Code × Pos}, sgF (stepT (denote tb) p w) n0 ann b m s t = some r → segRunT tb p w n0 ann b m s t = some r
  | 0, _, _, _, h => by cases h
  | m + 1, s, t, r, h => by
    unfold sgF at h
    unfold segRunT
    cases he : endAt b t with
    | some f => rw [he] at h; exact h
    | none =>
      rw [he] at h
      cases hk : stepOk n0 ann t with
      | false => rw [hk] at h; cases h
      | true =>
        rw [hk] at h
        cases hs : stepT (denote tb) p w s t with
        | none => rw [hs] at h; cases h
        | some q =>
          obtain ⟨s2, t2⟩ := q
          rw [hs] at h
          have h3 : (frS s2 fun s' => sgF (stepT (denote tb) p w) n0 ann b m s' t2) = some r := h
          rw [frS_eq] at h3
          exact sgF_ok h3
theorem tgF_ok : ∀ {m : Nat} {s s' : SharedT} {t t' : Thread}, tgF (stepT (denote tb) p w) n0 ann m s t = some (s', t') → topGo tb p w n0 ann m s.abs t = some (s'.abs, t')
  | 0, _, _, _, _, h => by cases h; rfl
  | m + 1, s, s', t, t', h => by
    unfold tgF at h
    unfold topGo
    cases he : through t with
    | true => rw [he] at h; cases h
    | false =>
      rw [he] at h
      cases hk : stepOk n0 ann t with
      | false => rw [hk] at h; cases h
      | true =>
        rw [hk] at h
        cases hs : stepT (denote tb) p w s t with
        | none => rw [hs] at h; cases h
        | some q =>
          obtain ⟨s2, t2⟩ := q
          rw [hs] at h
          have h3 : (frS s2 fun x => tgF (stepT (denote tb) p w) n0 ann m x t2) = some (s', t') := h
          rw [frS_eq] at h3
          rw [stepT_spec hs]
          exact tgF_ok h3
end
/-! ### twins -/
def execsQ : List Stmt → Env → Sem Flow := PySem.W.Fast.tw12563942051412417395
theorem execsQ_eq : @PySem.execs = execsQ := PySem.W.Fast.te12563942051412417395
def leaveQ (env : Env) : Value → Sem Fin := leaveH env
/-- a piece's thread, by the twin -/
def pcQ (l : List Stmt) (env : Env) (c : Code) (p : Pos) (q : Pos) : Thread := ⟨(execsQ l env).wrap doneF deadEnd id id, c, p, [topFrame q]⟩
def rsQ (l : List Stmt) (env : Env) (c : Code) (p : Pos) (q : Pos) : Thread := ⟨(execsQ l env).wrap doneF (leaveH env) id id, c, p, [topFrame q]⟩
theorem pcQ_eq (l : List Stmt) (env : Env) (c : Code) (p : Pos) (q : Pos) : piecesOf l env c p [topFrame q] = pcQ l env c p q := by
  unfold pcQ
  rw [← execsQ_eq]
theorem rsQ_eq (l : List Stmt) (env : Env) (c : Code) (p : Pos) (q : Pos) : restOf l env c p [topFrame q] = rsQ l env c p q := by
  unfold rsQ restOf
  rw [← execsQ_eq]
theorem boot_sz (w : World) : (boot_heap w.params).objs.size = 11 := by kernel_rfl
theorem boot_an (w : World) : bootAnn w = some (.ref 6) := by kernel_rfl
/-- the thread ahead of the block -/
def preQ (env : Env) (bd : List Stmt) (p q : Pos) : Thread := ⟨denQ tabQ (.body bd env), .body bd env, p, [topFrame q]⟩
/-- the first steps -/
def preF (st : SharedT → Thread → Option (SharedT × Thread)) (n : Nat) (p : Program) (w : World) (os : OsState) : Option (SharedT × Thread) := match putAll (boot_heap w.params).objs.toList .nil 0 with
  | some (t, k) => frNat k fun k => tgF st 11 (some (.ref 6)) n (bootT w os (t, k)) (topStub p)
  | none => none
section
variable {p : Program} {w : World} {os : OsState} {env : Env} {q : Pos}
theorem preF_ok {n : Nat} {s : SharedT} {t : Thread} (h : preF (stepQ (denQ tabQ) p w) n p w os = some (s, t)) :
    topGo treeTable p w 11 (some (.ref 6)) n ⟨boot_heap w.params, #[], boot_drawn, boot_toks, os⟩ (topStub p) = some (s.abs, t) := by
  rw [← stepQ_eq, ← denQ_eq, ← tabQ_eq] at h
  unfold preF at h
  cases e : putAll (boot_heap w.params).objs.toList .nil 0 with
  | none => rw [e] at h; cases h
  | some r =>
    obtain ⟨t', k⟩ := r
    rw [e] at h
    have h1 : (frNat k fun k => tgF (stepT (denote treeTable) p w) 11 (some (.ref 6)) n (bootT w os (t', k)) (topStub p)) = some (s, t) := h
    rw [frNat_eq] at h1
    have z := tgF_ok h1
    have eh := putAll_heap e
    have eb : (bootT w os (t', k)).abs = ⟨boot_heap w.params, #[], boot_drawn, boot_toks, os⟩ := by
      show (⟨absHeap t' k (boot_heap w.params).life, #[], boot_drawn, boot_toks, os⟩ : Shared) = _
      rw [eh]
    rw [eb] at z
    exact z
/-- the run came so far: the state, what is left -/
def Ahead (p : Program) (w : World) (os : OsState) (env : Env) (q : Pos) (s : SharedT) (k : Nat) (rest : List Stmt) (c : Code) (pos : Pos) : Prop :=
  ∀ N r, topRun treeTable p w 11 (some (.ref 6)) N s.abs (restOf rest env c pos [topFrame q]) = some r → topRun treeTable p w 11 (some (.ref 6)) (k + N) ⟨boot_heap w.params, #[], boot_drawn, boot_toks, os⟩ (topStub p) = some r
theorem ahead0 {n : Nat} {s : SharedT} {pos : Pos} (bd : List Stmt) (h : preF (stepQ (denQ tabQ) p w) n p w os = some (s, preQ env bd pos q)) (hb : blockStart bd env = .pure ()) : Ahead p w os env q s (n + 1) bd (.body bd env) pos := fun N r k => by
  have z := preF_ok h
  rw [Nat.add_assoc]
  refine go_top z ?_
  unfold preQ
  rw [← denQ_eq, ← tabQ_eq]
  refine piece_block (s' := s.abs) (p' := pos) ?_ k
  unfold segRun
  have e : blockOf bd env (.body bd env) pos [topFrame q] = ⟨.pure (.done .next), .body bd env, pos, [topFrame q]⟩ := by
    unfold blockOf
    rw [hb]
    rfl
  rw [e]
  rfl
theorem ahead1 {n k : Nat} {s s' : SharedT} {l rest : List Stmt} {c : Code} {pos p' : Pos} (A : Ahead p w os env q s k (l ++ rest) c pos) (h : sgF (stepQ (denQ tabQ) p w) 11 (some (.ref 6)) 1 n s (pcQ l env c pos q) = some (.next, s', c, p')) : Ahead p w os env q s' (k + n) rest c p' := fun N r z => by
  rw [← stepQ_eq, ← denQ_eq, ← tabQ_eq, ← pcQ_eq] at h
  have g := segRun_of (sgF_ok h)
  rw [Nat.add_assoc]
  exact A _ _ (piece_app g z)
/-- the rest: run to the end, looked at -/
theorem left_cut {p q' : Program} {loose : List Str} {Xt : Shared → Bool} {α : Type} {Yf : Shared → α} {Ya : World → α} {N M k : Nat} {S : World → OsState → SharedT} {rest : List Stmt} {c : Code} {pos : Pos}
    (e : opening p = plainProg p.main.scope.names) (hN : Nat.ble 600 N = true) (f : ∀ s, fenceModules? p s = some s) (le : Nat.ble (k + M) N = true)
    (A : ∀ w os, Ahead p w os env q (S w os) k rest c pos)
    (run : ∀ (w : World) (os : OsState), (goF (stepQ (denQ tabQ) p w) 11 (some (.ref 6)) M (S w os) (rsQ rest env c pos q)).map (fun s => (looksF p (boot_heap w.params) s.abs, openSeen q' loose (importedModules p.main.body) Xt true s.abs, Yf s.abs)) = some (true, openGood q' loose, Ya w)) :
    LeftO p q' loose Xt Yf Ya N true := fun w => by
  obtain ⟨⟨h, gs, d, tk, os⟩, a, a'⟩ := Option.map_eq_some_iff.mp (boot_open e hN f w)
  obtain ⟨rfl, rfl, rfl, rfl⟩ : h = boot_heap w.params ∧ gs = Array.mk [] ∧ d = boot_drawn ∧ tk = boot_toks := by simpa using a'
  obtain ⟨s, hs, hv⟩ := Option.map_eq_some_iff.mp (run w os)
  obtain ⟨l1, l2, l3⟩ : _ ∧ _ ∧ _ := by simpa only [Prod.mk.injEq] using hv
  rw [← stepQ_eq, ← denQ_eq, ← tabQ_eq, ← rsQ_eq] at hs
  have r0 := A w os _ _ (goF_ok hs)
  have r := topRun_mono (N - (k + M)) _ _ _ _ r0
  rw [show k + M + (N - (k + M)) = N by have := Nat.le_of_ble_eq_true le; omega] at r
  have l1' : (staticsOk (importedModules p.main.body) (boot_heap w.params) s.abs.heap && namesBound p s.abs.heap && gensDone s.abs && laidKept (boot_heap w.params) s.abs.heap) = true := l1
  have t : topFrom treeTable p w N ⟨boot_heap w.params, Array.mk [], boot_drawn, boot_toks, os⟩ = some s.abs := by
    unfold topFrom
    dsimp only
    rw [boot_ns]
    have e1 := boot_sz w
    have e2 : (boot_heap w.params).nsMap mainGlobals "__annotations__" = some (.ref 6) := boot_an w
    rw [e1, e2]
    show (topRun treeTable p w 11 (some (.ref 6)) N ⟨boot_heap w.params, #[], boot_drawn, boot_toks, os⟩ (topStub p)).bind _ = _
    rw [r]
    show (match staticsOk (importedModules p.main.body) (boot_heap w.params) s.abs.heap && namesBound p s.abs.heap && gensDone s.abs && laidKept (boot_heap w.params) s.abs.heap with | true => some s.abs | false => none) = _
    rw [l1']
  unfold openEnds
  rw [a]
  show (topFrom treeTable p w N _).map _ = _
  rw [t]
  exact congrArg some (Prod.ext l2 l3)
end
/-- the run's equation of the rest -/
def RestEq (r : OpenRow) (q' : Program) (H : Hook) (ob : SharedT → H.α) (M : Nat) (loose : List PySem.Str) (env : Env) (q : Pos) (S : World → OsState → SharedT) (rest : List Stmt) (c : Code) (pos : Pos) (w : World) : Prop :=
  ∀ os : OsState, (goF (stepQ (denQ tabQ) r.prog w) 11 (some (.ref 6)) M (S w os) (rsQ rest env c pos q)).map (fun s => (looksF r.prog (boot_heap w.params) s.abs, seenQ q' loose (importedModules r.prog.main.body) (fun s => xlAt q' [] s && recOk r.toRowW.records s) s.abs, ob s)) = some (true, openGood q' loose, H.val w)
theorem head_cut {r : OpenRow} {q' : Program} {H : Hook} {ob : SharedT → H.α} {M k : Nat} {loose : List PySem.Str} {d : DefRec} {kwd : List (PySem.Str × PySem.Expr)} {env : Env} {q : Pos} {S : World → OsState → SharedT} {rest : List Stmt} {c : Code} {pos : Pos} (ho : ∀ s : SharedT, ob s = H.obs s.abs)
    (e : opening r.prog = plainProg r.prog.main.scope.names) (f : ∀ s, fenceModules? r.prog s = some s) (A : ∀ w os, Ahead r.prog w os env q (S w os) k rest c pos) (run : ∀ w, RestEq r q' H ob M loose env q S rest c pos w)
    (hdef : defOf q' r.name = some (d, kwd)) (hp : r.prog.theDef r.name = some (d.params, d.body, d.scope)) (hk : kwWritten? d.params.kwonlyargs d.params.kw_defaults = some kwd)
    (hwr : (!r.writes || r.records.isEmpty) = true) (k1 : r.wellSaid = true) (ok : (chainsOk q' && opensWell r.prog && (frees r.toRowW && r.within.isEmpty)) = true) (hb : r.prog.bare) (hw : r.toRowW.promised)
    (call : WalkO q' loose (XL q' []) H.says r.toRowW d kwd fun f vs => PySem.call f vs) : r.Holds := by
  have left : LeftO r.prog q' loose (fun s => xlAt q' [] s && recOk r.toRowW.records s) H.obs H.val (k + M + 600) true :=
    left_cut (k := k) (M := M) e (Nat.ble_eq_true_of_le (by omega)) f (Nat.ble_eq_true_of_le (by omega)) A fun w os => by
      have z := run w os
      have eo : ob = fun s => H.obs s.abs := funext ho
      rw [eo] at z
      simp only [← seenQ_eq] at z
      exact z
  exact holds_open (r := r) (q := q') (loose := loose) (XP := XL q' []) (YP := H.says) (d := d) (kwd := kwd) left H.of H.keeps (fun s z => xl_of s (Bool.and_eq_true_iff.mp z).1) XL.keeps hdef hp hk (fun s z => recFacts_of (Bool.and_eq_true_iff.mp z).2) hwr k1 ok hb hw call
theorem take_drop (l : List Stmt) (a n : Nat) : l.drop a = (l.drop a).take n ++ l.drop (a + n) := by
  rw [← List.drop_drop, List.take_append_drop]
end UH

namespace U
open PySem L2 PySem.Spec PyProof.Rows PySem.SeqAt
/-! any thing beside a text: is it that text? -/
theorem rc_dict_str {A : Around} {s : Shared} {l : Addr} {o : Obj} {es : Array DictEntry} {n : Nat} (b : Str) (u : Tok) (ho : s.heap.get? l = some o) (hc : o.cls = .type "dict") (hd : o.data = .dict es n) (hu : A.units < cLine) : RcAt A s (.ref l) (.str b u) false := fun prog w E Q h => by
  obtain ⟨cls, dd, data, sl⟩ := o
  simp only at hc hd
  subst hc hd
  exact rc_eq_decline_or (k := false) ⟨_, ho, rfl⟩ (typeIs_str s b u) (by decide) F.sub_str_dict F.slot_dict_eq F.slot_str_eq_refl
    (fun _ hq => call_meets F.slot_dict_eq ⟨_, ho, rfl⟩ F.entry_dict_eq (F.args_dict_eq_2 _ _) (dict_eq_declines_str l es n dd sl b u) ⟨ho, hq⟩)
    (fun _ hq => call_meets F.slot_str_eq_refl (typeIs_str s b u) F.entry_str_eq (F.args_str_eq_2 _ _) (str_eq_declines_dict b u l (.type "dict") es n dd sl) ⟨ho, hq⟩)
    (fun _ hq => wpAny_of_eq (rfl : isSame (.ref l) (.str b u) = pure false) hq) (.inr hu) h
def rEqXS (K : PySem.W.Frag) : R2 := fun x y H Q => ∃ (a : Addr) (z : Str), x = .ref a ∧ y = .str z ∧ ((∃ xs, SqL K H a xs) ∨ (∃ xs, SqT K H a xs) ∨ ∃ kvs, H a = some (.dK kvs)) ∧ Q (.bl false) H
def uEqS (K : PySem.W.Frag) : R2 := fun x y H Q => uEq K x y H Q ∨ rEqXS K x y H Q
section
variable {X : Cx} {k : Nat} {K : PySem.W.Frag}
theorem op_eqXS (hr : Room k X.A) : OpR X (compareOp .Eq) (rEqXS X.K) := by
  intro pins s σ H x y v u Q I rx ry h
  obtain ⟨a, z, rfl, rfl, ha, q⟩ := h
  cases rx
  obtain ⟨t, rfl⟩ := ry
  rcases ha with ⟨xs, hq⟩ | ⟨xs, hq⟩ | ⟨kvs, ea⟩
  · obtain ⟨its, r, pl, hz⟩ := I.list hq
    exact RcAt.list_str z t pl.isList (Nat.lt_of_succ_lt (hu_of hr)) _ _ _ _ ⟨.bl _, H, I, rfl, q⟩
  · obtain ⟨its, r, pl, hz⟩ := I.tuple hq
    exact RcAt.tuple_str z t (show s.heap.IsTuple a its.toArray from pl) (Nat.lt_of_succ_lt (hu_of hr)) _ _ _ _ ⟨.bl _, H, I, rfl, q⟩
  · obtain ⟨z', hd, vs, rel, o, es, ep, h1, h2, h3, h4⟩ := dk_of I.hok ea
    exact rc_dict_str z t h1 h2.1 h3 (Nat.lt_of_succ_lt (hu_of hr)) _ _ _ _ ⟨.bl _, H, I, rfl, q⟩
theorem o_eqS (hK : X.K = K) (hr : Room k X.A) : OpR X (compareOp .Eq) (uEqS K) := by
  subst hK
  exact (o_eq rfl hr).or (op_eqXS hr)
end
section
variable {K : PySem.W.Frag} {σ : L2.St} {H : Hp} {Q : VK} {a : Addr} {z : Str} {x : V} {t : Kd}
/-- a thing of any kind -/
theorem s_eqK (h : TyN H x t) (q : Q (.bl (decide (x = .str z))) H) : uEqS K x (.str z) H Q := by
  cases h with
  | non => exact Or.inl (Or.inl ⟨rfl, by simpa using q⟩)
  | bl => exact Or.inl (Or.inl ⟨rfl, by simpa using q⟩)
  | int => exact Or.inl (Or.inl ⟨rfl, by simpa using q⟩)
  | str => exact Or.inl (s_eqs (by simpa using q))
  | lst e => exact Or.inr ⟨_, z, rfl, rfl, Or.inl ⟨_, SqL.of e⟩, by simpa using q⟩
  | tup e => exact Or.inr ⟨_, z, rfl, rfl, Or.inr (Or.inl ⟨_, SqT.of e⟩), by simpa using q⟩
  | dic e => exact Or.inr ⟨_, z, rfl, rfl, Or.inr (Or.inr ⟨_, e⟩), by simpa using q⟩
end
end U

namespace PySem.W
open PySem.Calls PyProof.Rows
section
variable {prog : Program} {w : World} {A : Around} {E : Value → Shared → Prop} {s : Shared} {K : Frag} {x D : Addr} {ox : Obj} {od : Option Obj}
theorem findObj_dataO {C : Addr} {name : Str} {a g : Value} (hc : (clsIn K C).isSome = true) (ha : findIn K (.ref C) name = some (some a)) (hg : specialIn K a "__get__" = some (some g)) (ht : takesIn K a = some true) : findObj K C od name = some (.bind g a) := by
  obtain ⟨cd, hc⟩ := Option.isSome_iff_exists.mp hc
  unfold findObj
  rw [hc, Option.bind_some, ha, Option.bind_some]
  simp [hg, ht]
theorem kin_classX {Q : Option Value → Shared → Prop} (hga : findIn K (.ref D) "__getattribute__" = some (some (.builtin "BaseException.__getattribute__"))) (hgt : findIn K (.ref D) "__getattr__" = some none) (hsub : subIn K (.ref D) (.type "BaseException") = some true)
    (hdct : hasDictIn K D = true) (ha : findIn K (.ref D) "__class__" = some (some (.builtin "object.__class__")))
    (hn : specialIn K (.builtin "object.__class__") "__get__" = some (some (.builtin "getset_descriptor.__get__"))) (htk : takesIn K (.builtin "object.__class__") = some true) (hm : mroIn K D (.type "object") = some true)
    (X : K.In s.heap) (I : InstAt s.heap x ox D od) (h : Q (some (.ref D)) { s with toks := s.toks + 1 }) : wpAny (model prog w) A (getAttr? (.ref x) "__class__") Q E s := by
  have hf : findObj K D od "__class__" = some (.bind (.builtin "getset_descriptor.__get__") (.builtin "object.__class__")) := findObj_dataO (by obtain ⟨cd, hc, _⟩ := any_some hdct; rw [hc]; rfl) ha hn htk
  obtain ⟨hp, g, d, t, os⟩ := s
  have L0 := I.type (M := model prog w)
  have L1 := looks_findIn (M := model prog w) X hga
  have L2 := looks_findIn (M := model prog w) X hgt
  have L3 := looks_find (M := model prog w) X I hf
  have sub : Looks (model prog w) hp (isInstance (.ref x) (.type "BaseException")) true := L0.andThen (looks_subIn X hsub)
  have hx0 : (false && onTheHeap (Value.builtin "BaseException.__getattribute__")) = false := rfl
  have hx2 : (Value.builtin "BaseException.__getattribute__" == Value.builtin "object.__getattribute__") = false := by decide +kernel
  have hx1 : (onTheHeap (Value.ref D) && Value.builtin "BaseException.__getattribute__" == Value.builtin "object.__getattribute__") = false := by rw [hx2]; rfl
  unfold getAttr? getAttrBy? getAttrBy
  refine wpAny_bind (wpAny_mkText (wpAny_bind (wpAny_attempt (wpAny_holding (wpAny_bind (L0.at (wpAny_bind (L1.at ?_))))))))
  show wpAny _ _ (if (onTheHeap (Value.ref D) && Value.builtin "BaseException.__getattribute__" == Value.builtin "object.__getattribute__") = true then _ else _) _ _ _
  rw [hx1, if_neg Bool.false_ne_true]
  unfold getAttrByItsOwn hookBefore
  refine wpAny_bind ?_
  rw [if_pos (show onTheHeap (Value.ref D) = true from rfl)]
  refine L2.at ?_
  refine wpAny_bind (wpAny_attempt (wpAny_holding ?_))
  unfold callGetattribute
  rw [hx0, if_neg Bool.false_ne_true]
  unfold boundAndCalled
  rw [PySem.F.excAttr_ValueError.ga.bind (.ref x)]
  refine wpAny_bind (wpAny_pure ?_)
  show wpAny _ _ (call (.builtin "BaseException.__getattribute__") [.ref x, .str "__class__" t]) _ _ _
  refine wpAny_call (codeAny_call_builtin PySem.F.excAttr_ValueError.ga.plain PySem.F.entry_bexc_ga ?_)
  refine @check_slot (model prog w) _ _ ⟨hp, g, d, t + 1, os⟩ "BaseException.__getattribute__" "BaseException" "__getattribute__" (.ref x) [.str "__class__" t] [] _ (by decide +kernel) (by decide +kernel) sub (PySem.F.args_bexc_ga (.ref x) (.str "__class__" t)) ?_
  unfold Builtin.«object.__getattribute__»
  refine wpAny_bind (wpAny_of_eq (a := ((Value.ref x : Value), [Value.str "__class__" t])) (by first | rfl | (simp only [slotArgs]; rfl)) ?_)
  refine wpAny_bind (wpAny_pure (wpAny_bind (L0.at (wpAny_bind (L3.at ?_)))))
  show wpAny _ _ (holding [Value.builtin "object.__class__"] (call (.builtin "getset_descriptor.__get__") [.builtin "object.__class__", .ref x, .ref D]) >>= ret) _ _ _
  refine wpAny_bind (wpAny_holding (wpAny_call (class_get (s := ⟨hp, g, d, t + 1, os⟩) (ox := ox) (od := od) X I hm ?_)))
  refine wpAny_pure ?_
  show wpAny _ _ (handedOut (.ref D)) _ _ _
  rw [handedOut_of (v := .ref D) rfl]
  first
    | exact wpAny_pure (wpAny_pure h)
    | exact wpAny_pure h
    | exact wpAny_pure (wpAny_bind (wpAny_pure (wpAny_pure h)))
theorem kitx_excO (hga : findIn K (.ref D) "__getattribute__" = some (some (.builtin "BaseException.__getattribute__"))) (hgt : findIn K (.ref D) "__getattr__" = some none) (hsub : subIn K (.ref D) (.type "BaseException") = some true) (hdct : hasDictIn K D = true) (ha : findIn K (.ref D) "__class__" = some (some (.builtin "object.__class__")))
    (hn : specialIn K (.builtin "object.__class__") "__get__" = some (some (.builtin "getset_descriptor.__get__"))) (htk : takesIn K (.builtin "object.__class__") = some true) (hm : mroIn K D (.type "object") = some true) :
    KitX K (.ref x) (.ref D) (fun h => InstAt h x ox D od) where
  ty := fun _ _ _ I => I.type
  it := fun _ _ X _ => by
    obtain ⟨cdD, hcD, _⟩ := any_some hdct
    unfold clsIn at hcD
    split at hcD
    · rename_i c' d' cd' sl' ho
      intro A' Q' E' s' k q
      unfold isType loadHead
      exact wpAny_bind (wpAny_loadPart (k _ _ (X _ _ ho)) (wpAny_pure q))
    · cases hcD
  ne := fun h tp dd its n sl X htp => by
    obtain ⟨cdD, hcD, _⟩ := any_some hdct
    refine Bool.eq_false_iff.mpr fun q => ?_
    have e : D = tp := Value.ref.inj (beq_iff_eq.mp q)
    subst e
    unfold clsIn at hcD
    split at hcD
    · rename_i c' d' cd' sl' ho
      have z := (X _ _ ho).symm.trans htp
      cases z
    · cases hcD
  ca := fun X I k => kin_classX hga hgt hsub hdct ha hn htk hm X I k
end
end PySem.W
namespace U
open PySem L2 PySem.Spec PyProof.Rows
/-! errors as values -/
theorem bt_ValueError : bootBuiltins "ValueError" = some (.type "ValueError") := by decide +kernel
/-- an error of the class C at a, with one field -/
def Eo (H : Hp) (a C : Addr) (f : Str) (v : V) : Prop := ∃ dx, H a = some (exo a C (some dx)) ∧ H dx = some (exd dx [(f, v)])
/-- an error at a, its class C, its fields as they may be -/
inductive Eg (H : Hp) (a C : Addr) : Prop
  | f {dx : Addr} {fs : List (Str × V)} : H a = some (exo a C (some dx)) → H dx = some (exd dx fs) → Eg H a C
  | n : H a = some (exo a C none) → Eg H a C
  | o : H a = some (ExO (.ref C) a) → Eg H a C
/-- what isinstance asks -/
def rIsXo (K : PySem.W.Frag) : List V → Hp → VK → Prop := fun xs H Q => ∃ (a D : Addr) (c : V) (u : Value) (b : Bool), xs = [.ref a, c] ∧ ClsV c u ∧ Eg H a D ∧ ExcC K D ∧ PySem.W.kitOne K (.ref D) u = some b ∧ Q (.bl b) H
section
variable {X : Cx} {pins : List (Addr × Obj)} {σ : L2.St} {H : Hp} {s : Shared} {K : PySem.W.Frag}
theorem Eg.inst {a C : Addr} (I : Inv X pins σ H s) (h : Eg H a C) : ∃ ox od, PySem.W.InstAt s.heap a ox C od := by
  cases h with
  | f e1 e2 =>
    obtain ⟨t1, h1⟩ := exo_at I.hok e1
    obtain ⟨mA, hns, _⟩ := exd_at I.hok e2
    obtain ⟨od, ho, _⟩ := lookIn_ns hns
    exact ⟨_, some od, h1, rfl, rfl, ho⟩
  | n e1 =>
    obtain ⟨t1, h1⟩ := exo_at I.hok e1
    exact ⟨_, none, h1, rfl, rfl, trivial⟩
  | o e1 =>
    obtain ⟨oe, vs, h1, z, d, _⟩ := (I.hok a _ e1).1
    obtain ⟨oc, odi, oda, osl⟩ := oe
    obtain ⟨z1, z2⟩ := z
    dsimp only at z1 z2 d
    subst z1 z2 d
    exact ⟨_, none, h1, rfl, rfl, trivial⟩
theorem call_isX : CallR X (.builtin "isinstance") (rIsXo X.K) := by
  intro pins s σ H xs us Q I r h
  obtain ⟨a, D, c, u, b, rfl, k, hg, C, e, q⟩ := h
  obtain ⟨u1, u2, rfl, r1, r2⟩ := vals2 r
  have e2 := k.eq r2
  subst e2
  cases (show u1 = Value.ref a from r1)
  obtain ⟨ox, od, J⟩ := hg.inst I
  exact PySem.W.kia_one (PySem.W.kitx_excO C.hg C.hk C.hs C.hd C.ha C.hn C.ht C.hm) I.kIn J e (fun z => nomatch z) fun tk => ⟨.bl b, H, I.tok tk, rfl, q⟩
/-- isinstance, of an error too -/
def uIsX (K : PySem.W.Frag) : List V → Hp → VK → Prop := fun xs H Q => rIsi K xs H Q ∨ rIsXo K xs H Q
theorem c_isX : CallR X (.builtin "isinstance") (uIsX X.K) := by
  intro pins s σ H xs us Q I r h
  rcases h with h | h
  · exact call_isi pins s σ H xs us Q I r h
  · exact call_isX pins s σ H xs us Q I r h
end
section
variable {K : PySem.W.Frag} {H : Hp} {Q : VK} {a D C2 : Addr} {b : Bool} {n : String}
theorem s_isX (h : Eg H a D) (c : ExcC K D) (ki : PySem.W.kitOne K (.ref D) (.ref C2) = some b) (q : Q (.bl b) H) : uIsX K [.ref a, .ref C2] H Q := Or.inr ⟨a, D, _, _, b, rfl, .own C2, h, c, ki, q⟩
theorem s_isXt (h : Eg H a D) (c : ExcC K D) (ki : PySem.W.kitOne K (.ref D) (.type n) = some b) (q : Q (.bl b) H) : uIsX K [.ref a, .ty n] H Q := Or.inr ⟨a, D, _, _, b, rfl, .ty n, h, c, ki, q⟩
theorem s_isXo {xs : List V} (h : rIsi K xs H Q) : uIsX K xs H Q := Or.inl h
end
theorem c_isXK {X : Cx} {K : PySem.W.Frag} (hK : X.K = K) : CallR X (.builtin "isinstance") (uIsX K) := hK ▸ c_isX
/-! its field -/
def FxK (f : Str) (K : PySem.W.Frag) (Q : VK) (x : V) (H : Hp) : Prop := ∃ a C v, x = .ref a ∧ Eo H a C f v ∧ XfC K C ∧ PySem.W.findIn K (.ref C) f = some none ∧ Q v H
def tFx (K : PySem.W.Frag) (te : TE) (f : Str) : TE := fun σ H Q => te σ H (FxK f K Q)
section
variable {X : Cx} {K : PySem.W.Frag} {e : Expr} {te : TE} {pos : Pos} {n : Str}
theorem pe_fx (hK : X.K = K) (he : PE X e te) (hb : attributeBase e n X.env (eval e X.env) = eval e X.env := by rfl) : PE X (.Attribute e n pos) (tFx K te n) := by
  subst hK
  refine ⟨fun pins s σ H Q I h => ?_⟩
  refine attr_of hb (thn (he.run pins s σ H _ I h) fun u s1 hh => ?_)
  obtain ⟨x, H1, I1, rx, a, C, v, ex, ⟨dx, e1, e2⟩, T, hno, q⟩ := hh
  subst ex
  obtain rfl : u = Value.ref a := rx
  obtain ⟨t1, h1⟩ := exo_at I1.hok e1
  obtain ⟨mA, hns, hr⟩ := exd_at I1.hok e2
  obtain ⟨od, ho, hl⟩ := lookIn_ns hns
  have hr := hr n
  rw [show ([(n, v)] : List (Str × V)).lookup n = some v by simp [List.lookup]] at hr
  obtain ⟨u, hu, ru⟩ := RelO.some_of (v := v) (o := mA n) hr
  have J : PySem.W.InstAt s1.heap a _ C (some od) := ⟨h1, rfl, rfl, ho⟩
  exact HandSPX.exc_get I1.kIn J T.ga T.gg T.exC (PySem.W.findObj_own T.hdC hno rfl (by rw [hl, hu])) (handed_of ru) ⟨v, H1, I1.tok _, ru, q⟩
end
section
variable {K : PySem.W.Frag} {σ : L2.St} {H : Hp} {Q : VK} {a C : Addr} {v : V} {te : TE} {f : Str}
theorem s_fx (h : te σ H (FxK f K Q)) : tFx K te f σ H Q := h
theorem s_fxk (h : Eo H a C f v) (T : XfC K C) (hno : PySem.W.findIn K (.ref C) f = some none) (q : Q v H) : FxK f K Q (.ref a) H := ⟨a, C, v, rfl, h, T, hno, q⟩
end
/-! C(e), an error's class -/
/-- __init__ of an error without a field -/
def spE0 (C : Addr) : Sp := sp1 fun x H Q _ => ∃ a, x = .ref a ∧ H a = some (exo a C none) ∧ Q .non H
def NewXK (C : Addr) (sp : Sp) (Q : VK) (vs : List V) (H : Hp) : Prop := vs.length ≤ 1000 ∧ ∀ x H', H x = none → H' x = some (exo x C none) → Kp [] H H' → sp (.ref x :: vs) H' (fun v H2 => v = .non ∧ Q (.ref x) H2) fun _ _ _ => False
def tNx (C : Addr) (sp : Sp) (t : TA) : TE := fun σ H Q => t σ H (NewXK C sp Q)
section
variable {X : Cx} {C fI : Addr} {k : Nat} {fd : FuncData} {ps : List Str} {sp : Sp} {x : Str} {e : Expr} {es : List Expr} {t : TA} {p pos : Pos} {pi : List (Addr × Obj)} {σ : L2.St} {H : Hp} {s : Shared} {Q : VK} {vs : List V} {us : List Value}
theorem run_nx (T : OexC X.K C) (iC : PySem.W.findIn X.K (.ref C) "__init__" = some (some (.ref fI))) (tI : PySem.W.typeIn X.K (.ref fI) = some (.type "function"))
    (G : FnOk X.prog X.w X.K X.mg X.base (L2.CX X.prog X.w) k fI fd ps sp) (hr : Room (k + 1) X.A) (hb : Binds X.K fd ps []) (I : Inv X pi σ H s) (r : Vals vs us) (h : NewXK C sp Q vs H) : wpAny (model X.prog X.w) X.A (call (.ref C) us) (EP X pi σ Q) X.xe s := by
  obtain ⟨nm, q, N, bs, bm, sn, sub, ab, col, dd, k0, k1, k2, k3, k5, hC, hbm⟩ := T.cls
  obtain ⟨hp, g, dr, tk, os⟩ := s
  obtain ⟨hz, h⟩ := h
  have hsz : hp.objs.size ≤ hp.objs.size + 1 := Nat.le_succ _
  have hn : H (hp.objs.size + 1) = none := I.hok.fresh hsz
  have hq := h (hp.objs.size + 1) _ hn upd_same (Kp.refl.new hn)
  have kk : ∀ b o, hp.get? b = some o → ((hp.push (PySem.W.kdv_tup us)).push (PySem.HandSPX.excO C hp.objs.size)).get? b = some o := fun b o e => Heap.get?_push_of_some _ (Heap.get?_push_of_some _ e)
  have hget : ((hp.push (PySem.W.kdv_tup us)).push (PySem.HandSPX.excO C hp.objs.size)).get? (hp.objs.size + 1) = some (PySem.HandSPX.excO C hp.objs.size) := by heap_get
  have I2 : Inv X pi σ (upd H (hp.objs.size + 1) (exo (hp.objs.size + 1) C none)) ⟨(hp.push (PySem.W.kdv_tup us)).push (PySem.HandSPX.excO C hp.objs.size), g, dr, tk, os⟩ :=
    I.laid (t' := tk) (a := hp.objs.size + 1) (o := exo (hp.objs.size + 1) C none) (h' := (hp.push (PySem.W.kdv_tup us)).push (PySem.HandSPX.excO C hp.objs.size)) kk hsz (exo_ok hget)
  have r2 : Vals (V.ref (hp.objs.size + 1) :: vs) (Value.ref (hp.objs.size + 1) :: us) := .cons rfl r
  have hus : us.length ≤ sizeLine := by
    rw [← Paired.length r, sizeLine_eq]
    omega
  refine wpAny_call (PySem.HandSPX.call_own PySem.F.excBase_ValueError (fun Y => PySem.HandSPX.refsVE_contains Y bm hbm) (I.kIn _ _ hC) (PySem.W.looks_findIn I.kIn iC) (fun self => PySem.W.bind_fn I.kIn self tI) hus
    (codeAny_mono (G.run _ X.stack _ _ ⟨Value.ref (hp.objs.size + 1) :: us, []⟩ (Value.ref (hp.objs.size + 1) :: us) _ _ (fun _ _ _ => False) (hr.make C us []) (I2.env0.make C us []) (bind0 hb I2 r2 (G.len _ _ _ _ hq)) r2 hq) fun rr s' z => ?_))
  match rr, z with
  | .error er, z => exact passF pi σ _ _ er s' I2 z
  | .ok (.ret u), z =>
    obtain ⟨v, H', I3, rv, ev, q3⟩ := I2.after z
    subst ev
    exact ⟨rv, ⟨V.ref (hp.objs.size + 1), H', I3, rfl, q3⟩⟩
  | .ok .next, z => exact z.elim
  | .ok .brk, z => exact z.elim
  | .ok .cont, z => exact z.elim
theorem pe_nx (T : OexC X.K C) (iC : PySem.W.findIn X.K (.ref C) "__init__" = some (some (.ref fI))) (tI : PySem.W.typeIn X.K (.ref fI) = some (.type "function"))
    (G : FnOk X.prog X.w X.K X.mg X.base (L2.CX X.prog X.w) k fI fd ps sp) (hr : Room (k + 1) X.A) (gl : Gl X x) (hm : X.mg x = some (.ref C)) (hb : Binds X.K fd ps [])
    (ha : PA X (e :: es) t) (h1 : (x == ("__debug__" : Str)) = false := by decide) (h2 : starEach (e :: es) X.env = (false, eval e X.env) :: starEach es X.env := by rfl) (h3 : (backTo pos (starEach es X.env)).any (·.1) = false := by rfl) :
    PE X (.Call (.Name x p) (e :: es) [] pos) (tNx C sp t) := by
  refine ⟨fun pi s σ H Q I h => wpAny_Call_Name_kw (ld_glob I gl hm ?_ h1)⟩
  refine PySem.W.callWith_K (h₀ := X.base) I.ok.mod.kin T.kC (thn (ha.run pos pi s σ H _ I h) ?_) h2 h3
  rintro us s1 ⟨vs, H1, I1, r, q⟩
  exact ⟨I1.kIn, run_nx T iC tI G hr hb I1 r q⟩
theorem pe_nx0 (T : OexC X.K C) (iC : PySem.W.findIn X.K (.ref C) "__init__" = some (some (.ref fI))) (tI : PySem.W.typeIn X.K (.ref fI) = some (.type "function"))
    (G : FnOk X.prog X.w X.K X.mg X.base (L2.CX X.prog X.w) k fI fd ps sp) (hr : Room (k + 1) X.A) (gl : Gl X x) (hm : X.mg x = some (.ref C)) (hb : Binds X.K fd ps [])
    (h1 : (x == ("__debug__" : Str)) = false := by decide) : PE X (.Call (.Name x p) [] [] pos) (tNx C sp tNil) :=
  ⟨fun pi s σ H Q I h => wpAny_Call_Name_kw (ld_glob I gl hm (PySem.W.callWith_K0 I.kIn T.kC (run_nx (us := []) T iC tI G hr hb I .nil h)) h1)⟩
end
section
variable {K : PySem.W.Frag} {σ : L2.St} {H : Hp} {Q : VK} {C : Addr} {v : V} {t : TA} {sp : Sp} {f : Str}
theorem s_nx (h : t σ H (NewXK C sp Q)) : tNx C sp t σ H Q := h
theorem s_nxE (q : ∀ a H', H a = none → Eo H' a C f v → Kp [] H H' → Q (.ref a) H') : NewXK C (spE C f) Q [v] H := by
  refine ⟨by simp, fun x H1 fx e1 k1 => ⟨_, _, rfl, x, rfl, e1, fun dx nd ne => ⟨rfl, q x _ fx ⟨dx, upd_same, ?_⟩ ?_⟩⟩⟩
  · rw [upd_ne ne, upd_same]
  · have nH : H dx = none := k1.dom dx nd
    have k2 : Kp [x] H1 (upd (upd H1 dx (exd dx [(f, v)])) x (exo x C (some dx))) := by
      refine ⟨fun b o eb nb => ?_, fun b i eb => ?_, fun b xs eb => ?_⟩
      · have nb1 : b ≠ dx := ne_of_none eb nd
        have nb2 : b ≠ x := by simpa using nb
        rw [upd_ne nb2, upd_ne nb1]
        exact eb
      · obtain ⟨o1, e2, r1⟩ := eb
        have nb1 : b ≠ dx := ne_of_none e2 nd
        by_cases nb2 : b = x
        · subst nb2
          rw [e1] at e2
          cases e2
          exact ⟨_, upd_same, r1⟩
        · refine ⟨o1, ?_, r1⟩
          rw [upd_ne nb2, upd_ne nb1]
          exact e2
      · have nb1 : b ≠ dx := ne_of_none eb nd
        have nb2 : b ≠ x := fun z => by
          rw [z, e1] at eb
          cases eb
        rw [upd_ne nb2, upd_ne nb1]
        exact eb
    exact Kp.step k1 k2 (by intro b hb; rw [List.mem_singleton.mp hb]; exact Or.inr fx)
theorem s_nxN (q : ∀ a H', H a = none → H' a = some (exo a C none) → Kp [] H H' → Q (.ref a) H') : NewXK C (spE0 C) Q [] H :=
  ⟨by simp, fun x H1 fx e1 k1 => ⟨_, rfl, x, rfl, e1, rfl, q x H1 fx e1 k1⟩⟩
theorem Eo.kp {H1 : Hp} {a : Addr} (h : Eo H a C f v) (k : Kp [] H H1) : Eo H1 a C f v := by
  obtain ⟨dx, e1, e2⟩ := h
  exact ⟨dx, k.get0 e1, k.get0 e2⟩
theorem Eo.eg {a : Addr} (h : Eo H a C f v) : Eg H a C := by
  obtain ⟨dx, e1, e2⟩ := h
  exact .f e1 e2
theorem Eg.kp {H1 : Hp} {a : Addr} (h : Eg H a C) (k : Kp [] H H1) : Eg H1 a C := by
  cases h with
  | f a b => exact .f (k.get0 a) (k.get0 b)
  | n a => exact .n (k.get0 a)
  | o a => exact .o (k.get0 a)
/-- the one above them, of any thing -/
def tNy (C : Addr) (te : TE) : TE := fun σ H Q => te σ H fun _ H1 => ∀ a, H1 a = none → Q (.ref a) (upd H1 a (ExO (.ref C) a))
theorem pe_ny {X : Cx} {C : Addr} {bmB : List Value} {B newId initId : String} {x : Str} {e : Expr} {te : TE} {p pos : Pos} (F : ExcBaseFacts B newId initId bmB) (q : PySem.W.excIn X.K C bmB newId = true) (hg : Gl X x) (gC : X.mg x = some (.ref C)) (kC : PySem.W.keepIn X.K (.ref C) = true)
    (he : PE X e te) (hs : starEach [e] X.env = (false, eval e X.env) :: starEach [] X.env := by rfl) (hdb : (x == ("__debug__" : Str)) = false := by decide) : PE X (.Call (.Name x p) [e] [] pos) (tNy C te) := pe_exc1 F q gC kC hg he hs hdb
theorem s_ny {te : TE} (h : te σ H fun _ H1 => ∀ a, H1 a = none → Q (.ref a) (upd H1 a (ExO (.ref C) a))) : tNy C te σ H Q := h
theorem s_nyk (q : ∀ a H', H a = none → H' a = some (ExO (.ref C) a) → Kp [] H H' → Q (.ref a) H') : ∀ a, H a = none → Q (.ref a) (upd H a (ExO (.ref C) a)) := fun a f => q a _ f upd_same (Kp.refl.new f)
end
/-! what is said of an error's class, as one truth -/
def excCB (K : PySem.W.Frag) (C : Addr) : Bool := decide (PySem.W.findIn K (.ref C) "__getattribute__" = some (some (.builtin "BaseException.__getattribute__"))) && (decide (PySem.W.findIn K (.ref C) "__getattr__" = some none) && (decide (PySem.W.subIn K (.ref C) (.type "BaseException") = some true) && (PySem.W.hasDictIn K C &&
  (decide (PySem.W.findIn K (.ref C) "__class__" = some (some (.builtin "object.__class__"))) && decide (PySem.W.mroIn K C (.type "object") = some true)))))
def errB (K : PySem.W.Frag) (C fI : Addr) (f : Str) : Bool := excU K C && (decide (PySem.W.findIn K (.ref C) "__setattr__" = some (some (.builtin "object.__setattr__"))) && (decide (PySem.W.typeIn K (.ref C) = some (.type "type")) && (PySem.W.keepIn K (.ref C) &&
  (decide (PySem.W.findIn K (.ref C) f = some none) && (decide (PySem.W.findIn K (.ref C) "__init__" = some (some (.ref fI))) && (decide (PySem.W.typeIn K (.ref fI) = some (.type "function")) && excCB K C))))))
section
variable {K : PySem.W.Frag} {C fI : Addr} {f : Str}
theorem excCB_ok (h : excCB K C = true) (g : PySem.W.specialIn K (.builtin "object.__class__") "__get__" = some (some (.builtin "getset_descriptor.__get__"))) (t : PySem.W.takesIn K (.builtin "object.__class__") = some true) : ExcC K C := by
  obtain ⟨h1, h⟩ := Bool.and_eq_true_iff.mp h
  obtain ⟨h2, h⟩ := Bool.and_eq_true_iff.mp h
  obtain ⟨h3, h⟩ := Bool.and_eq_true_iff.mp h
  obtain ⟨h4, h⟩ := Bool.and_eq_true_iff.mp h
  obtain ⟨h5, h6⟩ := Bool.and_eq_true_iff.mp h
  exact ⟨of_decide_eq_true h1, of_decide_eq_true h2, of_decide_eq_true h3, h4, of_decide_eq_true h5, g, t, of_decide_eq_true h6⟩
theorem errB_ok (h : errB K C fI f = true) : ErrC K C fI f := by
  obtain ⟨h0, h⟩ := Bool.and_eq_true_iff.mp h
  obtain ⟨h1, h⟩ := Bool.and_eq_true_iff.mp h
  obtain ⟨h2, h⟩ := Bool.and_eq_true_iff.mp h
  obtain ⟨h3, h⟩ := Bool.and_eq_true_iff.mp h
  obtain ⟨h4, h⟩ := Bool.and_eq_true_iff.mp h
  obtain ⟨h5, h⟩ := Bool.and_eq_true_iff.mp h
  obtain ⟨h6, h⟩ := Bool.and_eq_true_iff.mp h
  obtain ⟨g1, h⟩ := Bool.and_eq_true_iff.mp h
  obtain ⟨g2, h⟩ := Bool.and_eq_true_iff.mp h
  obtain ⟨g3, h⟩ := Bool.and_eq_true_iff.mp h
  obtain ⟨g4, h⟩ := Bool.and_eq_true_iff.mp h
  obtain ⟨g5, g6⟩ := Bool.and_eq_true_iff.mp h
  obtain ⟨nm, qn, N, bs, bm, sn, sub, ab, col, dd, e0, e1, e2, e3, e5, a, b⟩ := excU_ok h0
  have x := of_decide_eq_true g3
  exact ⟨⟨⟨nm, qn, N, bs, bm, sn, sub, ab, col, dd, e0, e1, e2, e3, e5, a, b⟩, of_decide_eq_true h1, x, of_decide_eq_true h2, h3⟩, ⟨of_decide_eq_true g1, of_decide_eq_true g2, x, g4⟩, of_decide_eq_true h4, of_decide_eq_true h5, of_decide_eq_true h6, of_decide_eq_true g5, of_decide_eq_true g6⟩
theorem ErrC.exC (h : ErrC K C fI f) (g : PySem.W.specialIn K (.builtin "object.__class__") "__get__" = some (some (.builtin "getset_descriptor.__get__"))) (t : PySem.W.takesIn K (.builtin "object.__class__") = some true) : ExcC K C := ⟨h.xf.ga, h.xf.gg, h.xf.exC, h.xf.hdC, h.ha, g, t, h.hm⟩
/-- the errors' classes, one against another -/
def tabB (K : PySem.W.Frag) (S : Addr) (L : List Addr) : Bool := decide L.Nodup && (decide (PySem.W.kitOne K (.ref S) (.type "ValueError") = some true) && (L.all fun c => decide (PySem.W.kitOne K (.ref c) (.ref S) = some true) && (decide (PySem.W.kitOne K (.ref c) (.type "ValueError") = some true) && (decide (PySem.W.kitOne K (.ref S) (.ref c) = some false) && L.all fun d => decide (PySem.W.kitOne K (.ref c) (.ref d) = some (decide (c = d)))))))
structure Tab (K : PySem.W.Frag) (S : Addr) (L : List Addr) : Prop where
  nd : L.Nodup
  vs : PySem.W.kitOne K (.ref S) (.type "ValueError") = some true
  up : ∀ c ∈ L, PySem.W.kitOne K (.ref c) (.ref S) = some true
  ve : ∀ c ∈ L, PySem.W.kitOne K (.ref c) (.type "ValueError") = some true
  no : ∀ c ∈ L, PySem.W.kitOne K (.ref S) (.ref c) = some false
  one : ∀ c ∈ L, ∀ d ∈ L, PySem.W.kitOne K (.ref c) (.ref d) = some (decide (c = d))
theorem tabB_ok {S : Addr} {L : List Addr} (h : tabB K S L = true) : Tab K S L := by
  obtain ⟨h0, h⟩ := Bool.and_eq_true_iff.mp h
  obtain ⟨hv, h⟩ := Bool.and_eq_true_iff.mp h
  have h := List.all_eq_true.mp h
  have g : ∀ c ∈ L, _ ∧ _ ∧ _ ∧ _ := fun c hc => by
    obtain ⟨a, x⟩ := Bool.and_eq_true_iff.mp (h c hc)
    obtain ⟨b, x⟩ := Bool.and_eq_true_iff.mp x
    obtain ⟨d, e⟩ := Bool.and_eq_true_iff.mp x
    exact ⟨of_decide_eq_true a, of_decide_eq_true b, of_decide_eq_true d, fun y hy => of_decide_eq_true (List.all_eq_true.mp e y hy)⟩
  exact ⟨of_decide_eq_true h0, of_decide_eq_true hv, fun c hc => (g c hc).1, fun c hc => (g c hc).2.1, fun c hc => (g c hc).2.2.1, fun c hc => (g c hc).2.2.2⟩
end
end U

local macro_rules | `(tactic| walk_at "b1") => `(tactic| first
  | with_reducible refine' U.Stp.go ?_
  | ((with_reducible refine' U.s_nameR ?une ?_); (case une => (dsimp only [List.set]; try exact rfl)))
  | ((with_reducible show L2.Ends.nx _ _ _); dsimp only)
  | ((with_reducible show L2.Ends.rt _ _ _); dsimp only)
  | ((with_reducible show L2.Ends.bk _ _ _); dsimp only)
  | ((with_reducible show L2.Ends.ct _ _ _); dsimp only)
  | ((with_reducible refine' U.s_var ?uvh ?_); (case uvh => exact rfl))
  | with_reducible refine' U.s_neg ?_
  | with_reducible refine' U.s_bl ?_
  | ((with_reducible refine' U.s_gtu ?uth ?utl ?_); (case uth => walk_at "gt"); (case utl => exact rfl))
  | ((with_reducible refine' U.s_glu ?uth ?utl ?_); (case uth => walk_at "g"); (case utl => exact rfl))
  | ((with_reducible refine' U.s_ixt ?uih ?uia ?_); (case uih => walk_at "gt"); (case uia => exact rfl))
  | ((with_reducible refine' U.s_tyl ?uth ?_); (case uth => walk_at "g"))
  | ((with_reducible refine' U.s_tyd ?uth ?_); (case uth => walk_at "g"))
  | with_reducible refine' U.s_lc ?_
  | with_reducible refine' U.s_for ?_
  | with_reducible refine' U.s_itt ?_
  | with_reducible refine' U.s_itf ?_
  | ((with_reducible refine' U.s_ixl ?uih ?uia ?_); (case uih => walk_at "g"); (case uia => exact rfl))
  | ((with_reducible refine' U.s_ixl ?uih ?uia ?_); (case uih => exact L2.upd_same); (case uia => exact rfl))
  | ((with_reducible refine' U.s_mod ?umh ?_); (case umh => first | decide | assumption | omega))
  | ((with_reducible refine' U.s_isInt ?uty ?_); (case uty => first | assumption | exact U.TyN.int | exact U.TyN.str | exact U.TyN.non | exact U.TyN.bl | exact U.TyN.lst (by walk_at "g") | exact U.TyN.tup (by walk_at "gt") | exact U.TyN.dic (by walk_at "g")))
  | ((with_reducible refine' U.s_isBool ?uty ?_); (case uty => first | assumption | exact U.TyN.int | exact U.TyN.str | exact U.TyN.non | exact U.TyN.bl | exact U.TyN.lst (by walk_at "g") | exact U.TyN.tup (by walk_at "gt") | exact U.TyN.dic (by walk_at "g")))
  | ((with_reducible refine' U.s_isStr ?uty ?_); (case uty => first | assumption | exact U.TyN.int | exact U.TyN.str | exact U.TyN.non | exact U.TyN.bl | exact U.TyN.lst (by walk_at "g") | exact U.TyN.tup (by walk_at "gt") | exact U.TyN.dic (by walk_at "g")))
  | ((with_reducible refine' U.s_isList ?uty ?_); (case uty => first | assumption | exact U.TyN.int | exact U.TyN.str | exact U.TyN.non | exact U.TyN.bl | exact U.TyN.lst (by walk_at "g") | exact U.TyN.tup (by walk_at "gt") | exact U.TyN.dic (by walk_at "g")))
  | ((with_reducible refine' U.s_isTup ?uty ?_); (case uty => first | assumption | exact U.TyN.int | exact U.TyN.str | exact U.TyN.non | exact U.TyN.bl | exact U.TyN.lst (by walk_at "g") | exact U.TyN.tup (by walk_at "gt") | exact U.TyN.dic (by walk_at "g")))
  | ((with_reducible refine' U.s_isDict ?uty ?_); (case uty => first | assumption | exact U.TyN.int | exact U.TyN.str | exact U.TyN.non | exact U.TyN.bl | exact U.TyN.lst (by walk_at "g") | exact U.TyN.tup (by walk_at "gt") | exact U.TyN.dic (by walk_at "g")))
  | ((with_reducible refine' U.s_itT ?uit ?_); (case uit => exact rfl))
  | ((with_reducible refine' U.s_itF ?uit ?_); (case uit => exact rfl))
  | ((with_reducible refine' U.s_itT ?uit ?_); (case uit => decide +kernel))
  | ((with_reducible refine' U.s_itF ?uit ?_); (case uit => decide +kernel))
  | ((with_reducible refine' U.s_mul ?umh ?_); (case umh => first | exact U.cmulL (by omega) (by omega) | exact U.cmulR (by omega) (by omega)))
  | ((with_reducible refine' U.s_pow ?umh ?ume ?_); (case umh => exact U.cpow (by omega) (by omega) (by omega) (by omega)); (case ume => simp only [Int.reduceToNat, Int.reducePow]; exact rfl))
  | ((with_reducible refine' U.s_div ?umh ?_); (case umh => exact U.cdiv (by omega) (by omega)))
  | ((with_reducible refine' U.s_dgs ?uih ?uia ?_); (case uih => walk_at "g"); (case uia => exact rfl))
  | ((with_reducible refine' U.s_dgs ?uih ?uia ?_); (case uih => walk_at "g"); (case uia => decide +kernel))
  | ((with_reducible refine' U.s_inS ?uih ?_); (case uih => walk_at "g"))
  | ((with_reducible refine' U.s_ninS ?uih ?_); (case uih => walk_at "g"))
  | ((with_reducible refine' U.s_itp ?uih ?_); (case uih => walk_at "gt"))
  | ((with_reducible refine' U.s_eT ?uih ?_); (case uih => walk_at "gt"))
  | ((with_reducible refine' U.s_eL ?uih ?_); (case uih => walk_at "g")))
local macro_rules | `(tactic| walk_at "u1") => `(tactic| first
  | walk_at "b1"
  | with_reducible refine' U.s_seq ?_
  | with_reducible refine' U.s_ifS ?_
  | with_reducible refine' U.s_and ?_
  | with_reducible refine' U.s_or ?_
  | with_reducible refine' U.s_andV ?_
  | with_reducible refine' U.s_orV ?_
  | with_reducible refine' U.s_chain ?_)
local macro_rules | `(tactic| walk_at "v1") => `(tactic| first
  | walk_at "b1"
  | with_reducible refine' U.s_seq ?_
  | with_reducible refine' U.s_ifS ?_)
local macro_rules | `(tactic| walk_at "w1") => `(tactic| first
  | walk_at "b1"
  | with_reducible refine' U.s_seq ?_)
local macro_rules | `(tactic| walk_at "s1") => `(tactic| first
  | walk_at "b1")
local macro_rules | `(tactic| walk_at "u") => `(tactic| repeat (first | walk_at "u1" | walk_at "u2"))
local macro_rules | `(tactic| walk_at "v") => `(tactic| repeat (first | walk_at "v1" | walk_at "u2"))
local macro_rules | `(tactic| walk_at "w") => `(tactic| repeat (first | walk_at "w1" | walk_at "u2"))
local macro_rules | `(tactic| walk_at "s") => `(tactic| repeat (first | walk_at "s1" | walk_at "u2"))
local macro_rules | `(tactic| walk_at "na") => `(tactic| first
  | ((with_reducible refine' U.s_newl (U.zle ?unz) ?_); (case unz => simp))
  | ((with_reducible refine' U.s_newt (U.zle ?unz) ?_); (case unz => simp)))
local macro_rules | `(tactic| walk_at "g") => `(tactic| first
  | assumption
  | ((refine' U.Kp.get ?ugk ?ugm ?ugn); (case ugk => assumption); (case ugm => walk_at "g"); (case ugn => walk_at "n"))
  | ((refine' U.Box.kpn ?ugm ?ugk ?ugn); (case ugk => assumption); (case ugm => walk_at "g"); (case ugn => walk_at "n"))
  | ((refine' U.SqL.kpn ?ugk ?ugm ?ugn); (case ugk => assumption); (case ugm => walk_at "g"); (case ugn => walk_at "n"))
  | ((refine' L2.SqL.of ?ugm); (case ugm => walk_at "g"))
  | ((refine' U.Dx.kpn ?ugm ?ugk ?ugn); (case ugk => assumption); (case ugm => walk_at "g"); (case ugn => walk_at "q"))
  | walk_at "g2")
local macro_rules | `(tactic| walk_at "gt") => `(tactic| first
  | assumption
  | ((refine' U.Kp.tgt ?ugk ?ugm); (case ugk => assumption); (case ugm => walk_at "gt"))
  | fail)
local macro_rules | `(tactic| walk_at "g2") => `(tactic| fail)
local macro_rules | `(tactic| walk_at "n") => `(tactic| first
  | exact U.nm0
  | ((refine' U.nmc ?unh ?unr); (case unh => walk_at "ne"); (case unr => walk_at "n"))
  | assumption
  | fail)
local macro_rules | `(tactic| walk_at "ne") => `(tactic| first
  | assumption
  | exact Ne.symm (by assumption)
  | ((refine' U.Th.ne ?una ?unf); (case unf => assumption); (case una => walk_at "t"))
  | ((refine' Ne.symm (U.Th.ne ?una ?unf)); (case unf => assumption); (case una => walk_at "t"))
  | ((refine' U.Th.nk ?una ?unb ?unc); (case una => walk_at "t0"); (case unb => walk_at "t"); (case unc => exact rfl))
  | ((refine' Ne.symm (U.Th.nk ?una ?unb ?unc)); (case una => walk_at "t0"); (case unb => walk_at "t"); (case unc => exact rfl))
  | fail)
local macro_rules | `(tactic| walk_at "t0") => `(tactic| first
  | exact U.Th.lst (by assumption)
  | exact U.Th.tup (by assumption)
  | exact U.Th.dK (by assumption)
  | exact U.Th.ins (by assumption)
  | exact U.Th.xd (by assumption)
  | exact U.Box.th (by assumption)
  | walk_at "t2")
local macro_rules | `(tactic| walk_at "t2") => `(tactic| fail)
local macro_rules | `(tactic| walk_at "t") => `(tactic| first
  | walk_at "t0"
  | ((refine' U.Th.kp ?ugk ?ugm); (case ugk => assumption); (case ugm => walk_at "t"))
  | fail)
local macro_rules | `(tactic| walk_at "k") => `(tactic| first
  | exact U.Kp.refl
  | assumption
  | ((refine' U.Kp.step ?ukm ?ukk ?ukq); (case ukk => assumption); (case ukm => walk_at "k"); (case ukq => walk_at "q"))
  | fail)
local macro_rules | `(tactic| walk_at "q") => `(tactic| first
  | exact U.al0
  | ((refine' U.alc ?uqh ?uqr); (case uqh => first | (apply Or.inl; simp; done) | (apply Or.inr; walk_at "f")); (case uqr => walk_at "q"))
  | fail)
local macro_rules | `(tactic| walk_at "f") => `(tactic| first
  | assumption
  | exact U.Fz.f (by assumption)
  | ((refine' U.Dm.fr ?ufa ?ufm); (case ufa => assumption); (case ufm => walk_at "m"))
  | fail)
local macro_rules | `(tactic| walk_at "m") => `(tactic| first
  | exact U.Dm.refl
  | ((refine' U.Dm.step ?umm ?umk); (case umk => assumption); (case umm => walk_at "m"))
  | fail)
local macro_rules | `(tactic| walk_at "ud") => `(tactic| first
  | refine U.s_uds (by walk_at "g") (U.zlt (by simp)) rfl ?_
  | refine U.s_udi (by walk_at "g") (U.zlt (by simp)) rfl ?_
  | refine U.s_ul (by walk_at "g") rfl rfl ?_)

namespace K09
open PySem L2 U
def top (i : Nat) : Stmt := PySem.Challenge.pw_onestaff_k09_refusals_apart.main.body.getD i (.Pass ⟨0, 0, 0, 0⟩)
abbrev s_NoName_init : Stmt := inClass (top 2) 0
abbrev N_NoName_init : List Str := ["self", "found"]
theorem sc_NoName_init : FnScope N_NoName_init ["self", "found"] (defScope s_NoName_init) := ⟨rfl, rfl, rfl, by decide +kernel, rfl, by decide +kernel, by decide +kernel⟩
theorem st_NoName_init {v0 v1 : V} : L2.start N_NoName_init [v0, v1] = [some v0, some v1] := rfl
abbrev s_NoPlace_init : Stmt := inClass (top 3) 0
abbrev N_NoPlace_init : List Str := ["self", "found"]
theorem sc_NoPlace_init : FnScope N_NoPlace_init ["self", "found"] (defScope s_NoPlace_init) := ⟨rfl, rfl, rfl, by decide +kernel, rfl, by decide +kernel, by decide +kernel⟩
theorem st_NoPlace_init {v0 v1 : V} : L2.start N_NoPlace_init [v0, v1] = [some v0, some v1] := rfl
abbrev s_NoTrain_init : Stmt := inClass (top 4) 0
abbrev N_NoTrain_init : List Str := ["self", "found"]
theorem sc_NoTrain_init : FnScope N_NoTrain_init ["self", "found"] (defScope s_NoTrain_init) := ⟨rfl, rfl, rfl, by decide +kernel, rfl, by decide +kernel, by decide +kernel⟩
theorem st_NoTrain_init {v0 v1 : V} : L2.start N_NoTrain_init [v0, v1] = [some v0, some v1] := rfl
abbrev s_NoTrains_init : Stmt := inClass (top 5) 0
abbrev N_NoTrains_init : List Str := ["self", "found"]
theorem sc_NoTrains_init : FnScope N_NoTrains_init ["self", "found"] (defScope s_NoTrains_init) := ⟨rfl, rfl, rfl, by decide +kernel, rfl, by decide +kernel, by decide +kernel⟩
theorem st_NoTrains_init {v0 v1 : V} : L2.start N_NoTrains_init [v0, v1] = [some v0, some v1] := rfl
abbrev s_NoEnds_init : Stmt := inClass (top 6) 0
abbrev N_NoEnds_init : List Str := ["self", "found"]
theorem sc_NoEnds_init : FnScope N_NoEnds_init ["self", "found"] (defScope s_NoEnds_init) := ⟨rfl, rfl, rfl, by decide +kernel, rfl, by decide +kernel, by decide +kernel⟩
theorem st_NoEnds_init {v0 v1 : V} : L2.start N_NoEnds_init [v0, v1] = [some v0, some v1] := rfl
abbrev s_NoStretch_init : Stmt := inClass (top 7) 0
abbrev N_NoStretch_init : List Str := ["self", "found"]
theorem sc_NoStretch_init : FnScope N_NoStretch_init ["self", "found"] (defScope s_NoStretch_init) := ⟨rfl, rfl, rfl, by decide +kernel, rfl, by decide +kernel, by decide +kernel⟩
theorem st_NoStretch_init {v0 v1 : V} : L2.start N_NoStretch_init [v0, v1] = [some v0, some v1] := rfl
abbrev s_NoLong_init : Stmt := inClass (top 8) 0
abbrev N_NoLong_init : List Str := ["self", "found"]
theorem sc_NoLong_init : FnScope N_NoLong_init ["self", "found"] (defScope s_NoLong_init) := ⟨rfl, rfl, rfl, by decide +kernel, rfl, by decide +kernel, by decide +kernel⟩
theorem st_NoLong_init {v0 v1 : V} : L2.start N_NoLong_init [v0, v1] = [some v0, some v1] := rfl
abbrev s_NoPlaces_init : Stmt := inClass (top 9) 0
abbrev N_NoPlaces_init : List Str := ["self", "found"]
theorem sc_NoPlaces_init : FnScope N_NoPlaces_init ["self", "found"] (defScope s_NoPlaces_init) := ⟨rfl, rfl, rfl, by decide +kernel, rfl, by decide +kernel, by decide +kernel⟩
theorem st_NoPlaces_init {v0 v1 : V} : L2.start N_NoPlaces_init [v0, v1] = [some v0, some v1] := rfl
abbrev s_NoStretches_init : Stmt := inClass (top 10) 0
abbrev N_NoStretches_init : List Str := ["self", "found"]
theorem sc_NoStretches_init : FnScope N_NoStretches_init ["self", "found"] (defScope s_NoStretches_init) := ⟨rfl, rfl, rfl, by decide +kernel, rfl, by decide +kernel, by decide +kernel⟩
theorem st_NoStretches_init {v0 v1 : V} : L2.start N_NoStretches_init [v0, v1] = [some v0, some v1] := rfl
abbrev s_NoLongs_init : Stmt := inClass (top 11) 0
abbrev N_NoLongs_init : List Str := ["self", "found"]
theorem sc_NoLongs_init : FnScope N_NoLongs_init ["self", "found"] (defScope s_NoLongs_init) := ⟨rfl, rfl, rfl, by decide +kernel, rfl, by decide +kernel, by decide +kernel⟩
theorem st_NoLongs_init {v0 v1 : V} : L2.start N_NoLongs_init [v0, v1] = [some v0, some v1] := rfl
abbrev s_NoNumber_init : Stmt := inClass (top 12) 0
abbrev N_NoNumber_init : List Str := ["self", "found"]
theorem sc_NoNumber_init : FnScope N_NoNumber_init ["self", "found"] (defScope s_NoNumber_init) := ⟨rfl, rfl, rfl, by decide +kernel, rfl, by decide +kernel, by decide +kernel⟩
theorem st_NoNumber_init {v0 v1 : V} : L2.start N_NoNumber_init [v0, v1] = [some v0, some v1] := rfl
abbrev s_NoThing_init : Stmt := inClass (top 13) 0
abbrev N_NoThing_init : List Str := ["self", "found"]
theorem sc_NoThing_init : FnScope N_NoThing_init ["self", "found"] (defScope s_NoThing_init) := ⟨rfl, rfl, rfl, by decide +kernel, rfl, by decide +kernel, by decide +kernel⟩
theorem st_NoThing_init {v0 v1 : V} : L2.start N_NoThing_init [v0, v1] = [some v0, some v1] := rfl
abbrev s_NoKind_init : Stmt := inClass (top 14) 0
abbrev N_NoKind_init : List Str := ["self", "found"]
theorem sc_NoKind_init : FnScope N_NoKind_init ["self", "found"] (defScope s_NoKind_init) := ⟨rfl, rfl, rfl, by decide +kernel, rfl, by decide +kernel, by decide +kernel⟩
theorem st_NoKind_init {v0 v1 : V} : L2.start N_NoKind_init [v0, v1] = [some v0, some v1] := rfl
abbrev s_NoWord_init : Stmt := inClass (top 15) 0
abbrev N_NoWord_init : List Str := ["self", "found"]
theorem sc_NoWord_init : FnScope N_NoWord_init ["self", "found"] (defScope s_NoWord_init) := ⟨rfl, rfl, rfl, by decide +kernel, rfl, by decide +kernel, by decide +kernel⟩
theorem st_NoWord_init {v0 v1 : V} : L2.start N_NoWord_init [v0, v1] = [some v0, some v1] := rfl
abbrev s_NoDeed_init : Stmt := inClass (top 16) 0
abbrev N_NoDeed_init : List Str := ["self", "found"]
theorem sc_NoDeed_init : FnScope N_NoDeed_init ["self", "found"] (defScope s_NoDeed_init) := ⟨rfl, rfl, rfl, by decide +kernel, rfl, by decide +kernel, by decide +kernel⟩
theorem st_NoDeed_init {v0 v1 : V} : L2.start N_NoDeed_init [v0, v1] = [some v0, some v1] := rfl
abbrev s_NoWay_init : Stmt := inClass (top 17) 0
abbrev N_NoWay_init : List Str := ["self", "found"]
theorem sc_NoWay_init : FnScope N_NoWay_init ["self", "found"] (defScope s_NoWay_init) := ⟨rfl, rfl, rfl, by decide +kernel, rfl, by decide +kernel, by decide +kernel⟩
theorem st_NoWay_init {v0 v1 : V} : L2.start N_NoWay_init [v0, v1] = [some v0, some v1] := rfl
abbrev s_NoUse_init : Stmt := inClass (top 18) 0
abbrev N_NoUse_init : List Str := ["self", "found"]
theorem sc_NoUse_init : FnScope N_NoUse_init ["self", "found"] (defScope s_NoUse_init) := ⟨rfl, rfl, rfl, by decide +kernel, rfl, by decide +kernel, by decide +kernel⟩
theorem st_NoUse_init {v0 v1 : V} : L2.start N_NoUse_init [v0, v1] = [some v0, some v1] := rfl
abbrev s_NoBooks_init : Stmt := inClass (top 19) 0
abbrev N_NoBooks_init : List Str := ["self", "found"]
theorem sc_NoBooks_init : FnScope N_NoBooks_init ["self", "found"] (defScope s_NoBooks_init) := ⟨rfl, rfl, rfl, by decide +kernel, rfl, by decide +kernel, by decide +kernel⟩
theorem st_NoBooks_init {v0 v1 : V} : L2.start N_NoBooks_init [v0, v1] = [some v0, some v1] := rfl
abbrev s_NoRows_init : Stmt := inClass (top 20) 0
abbrev N_NoRows_init : List Str := ["self", "found"]
theorem sc_NoRows_init : FnScope N_NoRows_init ["self", "found"] (defScope s_NoRows_init) := ⟨rfl, rfl, rfl, by decide +kernel, rfl, by decide +kernel, by decide +kernel⟩
theorem st_NoRows_init {v0 v1 : V} : L2.start N_NoRows_init [v0, v1] = [some v0, some v1] := rfl
abbrev s_NoMove_init : Stmt := inClass (top 21) 0
abbrev N_NoMove_init : List Str := ["self", "found"]
theorem sc_NoMove_init : FnScope N_NoMove_init ["self", "found"] (defScope s_NoMove_init) := ⟨rfl, rfl, rfl, by decide +kernel, rfl, by decide +kernel, by decide +kernel⟩
theorem st_NoMove_init {v0 v1 : V} : L2.start N_NoMove_init [v0, v1] = [some v0, some v1] := rfl
abbrev s_NoRuns_init : Stmt := inClass (top 22) 0
abbrev N_NoRuns_init : List Str := ["self", "found"]
theorem sc_NoRuns_init : FnScope N_NoRuns_init ["self", "found"] (defScope s_NoRuns_init) := ⟨rfl, rfl, rfl, by decide +kernel, rfl, by decide +kernel, by decide +kernel⟩
theorem st_NoRuns_init {v0 v1 : V} : L2.start N_NoRuns_init [v0, v1] = [some v0, some v1] := rfl
abbrev s_NoRun_init : Stmt := inClass (top 23) 0
abbrev N_NoRun_init : List Str := ["self", "found"]
theorem sc_NoRun_init : FnScope N_NoRun_init ["self", "found"] (defScope s_NoRun_init) := ⟨rfl, rfl, rfl, by decide +kernel, rfl, by decide +kernel, by decide +kernel⟩
theorem st_NoRun_init {v0 v1 : V} : L2.start N_NoRun_init [v0, v1] = [some v0, some v1] := rfl
abbrev s_NoLine_init : Stmt := inClass (top 24) 0
abbrev N_NoLine_init : List Str := ["self", "found"]
theorem sc_NoLine_init : FnScope N_NoLine_init ["self", "found"] (defScope s_NoLine_init) := ⟨rfl, rfl, rfl, by decide +kernel, rfl, by decide +kernel, by decide +kernel⟩
theorem st_NoLine_init {v0 v1 : V} : L2.start N_NoLine_init [v0, v1] = [some v0, some v1] := rfl
abbrev s_NoState_init : Stmt := inClass (top 25) 0
abbrev N_NoState_init : List Str := ["self", "found"]
theorem sc_NoState_init : FnScope N_NoState_init ["self", "found"] (defScope s_NoState_init) := ⟨rfl, rfl, rfl, by decide +kernel, rfl, by decide +kernel, by decide +kernel⟩
theorem st_NoState_init {v0 v1 : V} : L2.start N_NoState_init [v0, v1] = [some v0, some v1] := rfl
abbrev s_Twice_init : Stmt := inClass (top 26) 0
abbrev N_Twice_init : List Str := ["self", "found"]
theorem sc_Twice_init : FnScope N_Twice_init ["self", "found"] (defScope s_Twice_init) := ⟨rfl, rfl, rfl, by decide +kernel, rfl, by decide +kernel, by decide +kernel⟩
theorem st_Twice_init {v0 v1 : V} : L2.start N_Twice_init [v0, v1] = [some v0, some v1] := rfl
abbrev s_NotHere_init : Stmt := inClass (top 27) 0
abbrev N_NotHere_init : List Str := ["self", "found"]
theorem sc_NotHere_init : FnScope N_NotHere_init ["self", "found"] (defScope s_NotHere_init) := ⟨rfl, rfl, rfl, by decide +kernel, rfl, by decide +kernel, by decide +kernel⟩
theorem st_NotHere_init {v0 v1 : V} : L2.start N_NotHere_init [v0, v1] = [some v0, some v1] := rfl
abbrev s_NotIn_init : Stmt := inClass (top 28) 0
abbrev N_NotIn_init : List Str := ["self", "found"]
theorem sc_NotIn_init : FnScope N_NotIn_init ["self", "found"] (defScope s_NotIn_init) := ⟨rfl, rfl, rfl, by decide +kernel, rfl, by decide +kernel, by decide +kernel⟩
theorem st_NotIn_init {v0 v1 : V} : L2.start N_NotIn_init [v0, v1] = [some v0, some v1] := rfl
abbrev s_NotHeld_init : Stmt := inClass (top 29) 0
abbrev N_NotHeld_init : List Str := ["self", "found"]
theorem sc_NotHeld_init : FnScope N_NotHeld_init ["self", "found"] (defScope s_NotHeld_init) := ⟨rfl, rfl, rfl, by decide +kernel, rfl, by decide +kernel, by decide +kernel⟩
theorem st_NotHeld_init {v0 v1 : V} : L2.start N_NotHeld_init [v0, v1] = [some v0, some v1] := rfl
abbrev s_NotHelped_init : Stmt := inClass (top 30) 0
abbrev N_NotHelped_init : List Str := ["self", "found"]
theorem sc_NotHelped_init : FnScope N_NotHelped_init ["self", "found"] (defScope s_NotHelped_init) := ⟨rfl, rfl, rfl, by decide +kernel, rfl, by decide +kernel, by decide +kernel⟩
theorem st_NotHelped_init {v0 v1 : V} : L2.start N_NotHelped_init [v0, v1] = [some v0, some v1] := rfl
abbrev s_Full_init : Stmt := inClass (top 31) 0
abbrev N_Full_init : List Str := ["self", "found"]
theorem sc_Full_init : FnScope N_Full_init ["self", "found"] (defScope s_Full_init) := ⟨rfl, rfl, rfl, by decide +kernel, rfl, by decide +kernel, by decide +kernel⟩
theorem st_Full_init {v0 v1 : V} : L2.start N_Full_init [v0, v1] = [some v0, some v1] := rfl
abbrev s_Lacks_init : Stmt := inClass (top 32) 0
abbrev N_Lacks_init : List Str := ["self", "found"]
theorem sc_Lacks_init : FnScope N_Lacks_init ["self", "found"] (defScope s_Lacks_init) := ⟨rfl, rfl, rfl, by decide +kernel, rfl, by decide +kernel, by decide +kernel⟩
theorem st_Lacks_init {v0 v1 : V} : L2.start N_Lacks_init [v0, v1] = [some v0, some v1] := rfl
abbrev s_Shut_init : Stmt := inClass (top 33) 0
abbrev N_Shut_init : List Str := ["self", "found"]
theorem sc_Shut_init : FnScope N_Shut_init ["self", "found"] (defScope s_Shut_init) := ⟨rfl, rfl, rfl, by decide +kernel, rfl, by decide +kernel, by decide +kernel⟩
theorem st_Shut_init {v0 v1 : V} : L2.start N_Shut_init [v0, v1] = [some v0, some v1] := rfl
abbrev s_Held_init : Stmt := inClass (top 34) 0
abbrev N_Held_init : List Str := ["self", "found"]
theorem sc_Held_init : FnScope N_Held_init ["self", "found"] (defScope s_Held_init) := ⟨rfl, rfl, rfl, by decide +kernel, rfl, by decide +kernel, by decide +kernel⟩
theorem st_Held_init {v0 v1 : V} : L2.start N_Held_init [v0, v1] = [some v0, some v1] := rfl
abbrev s_NotClear_init : Stmt := inClass (top 35) 0
abbrev N_NotClear_init : List Str := ["self", "found"]
theorem sc_NotClear_init : FnScope N_NotClear_init ["self", "found"] (defScope s_NotClear_init) := ⟨rfl, rfl, rfl, by decide +kernel, rfl, by decide +kernel, by decide +kernel⟩
theorem st_NotClear_init {v0 v1 : V} : L2.start N_NotClear_init [v0, v1] = [some v0, some v1] := rfl
abbrev s_NoTickets_init : Stmt := inClass (top 36) 0
abbrev N_NoTickets_init : List Str := ["self", "found"]
theorem sc_NoTickets_init : FnScope N_NoTickets_init ["self", "found"] (defScope s_NoTickets_init) := ⟨rfl, rfl, rfl, by decide +kernel, rfl, by decide +kernel, by decide +kernel⟩
theorem st_NoTickets_init {v0 v1 : V} : L2.start N_NoTickets_init [v0, v1] = [some v0, some v1] := rfl
abbrev s_NoRight_init : Stmt := inClass (top 37) 0
abbrev N_NoRight_init : List Str := ["self", "found"]
theorem sc_NoRight_init : FnScope N_NoRight_init ["self", "found"] (defScope s_NoRight_init) := ⟨rfl, rfl, rfl, by decide +kernel, rfl, by decide +kernel, by decide +kernel⟩
theorem st_NoRight_init {v0 v1 : V} : L2.start N_NoRight_init [v0, v1] = [some v0, some v1] := rfl
abbrev s_NotShut_init : Stmt := inClass (top 38) 0
abbrev N_NotShut_init : List Str := ["self", "found"]
theorem sc_NotShut_init : FnScope N_NotShut_init ["self", "found"] (defScope s_NotShut_init) := ⟨rfl, rfl, rfl, by decide +kernel, rfl, by decide +kernel, by decide +kernel⟩
theorem st_NotShut_init {v0 v1 : V} : L2.start N_NotShut_init [v0, v1] = [some v0, some v1] := rfl
abbrev s_Taken_init : Stmt := inClass (top 39) 0
abbrev N_Taken_init : List Str := ["self", "found"]
theorem sc_Taken_init : FnScope N_Taken_init ["self", "found"] (defScope s_Taken_init) := ⟨rfl, rfl, rfl, by decide +kernel, rfl, by decide +kernel, by decide +kernel⟩
theorem st_Taken_init {v0 v1 : V} : L2.start N_Taken_init [v0, v1] = [some v0, some v1] := rfl
abbrev s_Boxed_init : Stmt := inClass (top 40) 0
abbrev N_Boxed_init : List Str := ["self", "found"]
theorem sc_Boxed_init : FnScope N_Boxed_init ["self", "found"] (defScope s_Boxed_init) := ⟨rfl, rfl, rfl, by decide +kernel, rfl, by decide +kernel, by decide +kernel⟩
theorem st_Boxed_init {v0 v1 : V} : L2.start N_Boxed_init [v0, v1] = [some v0, some v1] := rfl
abbrev s_Silent_init : Stmt := inClass (top 41) 0
abbrev N_Silent_init : List Str := ["self", "found"]
theorem sc_Silent_init : FnScope N_Silent_init ["self", "found"] (defScope s_Silent_init) := ⟨rfl, rfl, rfl, by decide +kernel, rfl, by decide +kernel, by decide +kernel⟩
theorem st_Silent_init {v0 v1 : V} : L2.start N_Silent_init [v0, v1] = [some v0, some v1] := rfl
abbrev s_TooMany_init : Stmt := inClass (top 42) 0
abbrev N_TooMany_init : List Str := ["self", "many"]
theorem sc_TooMany_init : FnScope N_TooMany_init ["self", "many"] (defScope s_TooMany_init) := ⟨rfl, rfl, rfl, by decide +kernel, rfl, by decide +kernel, by decide +kernel⟩
theorem st_TooMany_init {v0 v1 : V} : L2.start N_TooMany_init [v0, v1] = [some v0, some v1] := rfl
abbrev s_NoText_init : Stmt := inClass (top 43) 0
abbrev N_NoText_init : List Str := ["self", "row"]
theorem sc_NoText_init : FnScope N_NoText_init ["self", "row"] (defScope s_NoText_init) := ⟨rfl, rfl, rfl, by decide +kernel, rfl, by decide +kernel, by decide +kernel⟩
theorem st_NoText_init {v0 v1 : V} : L2.start N_NoText_init [v0, v1] = [some v0, some v1] := rfl
abbrev s_Gap_init : Stmt := inClass (top 44) 0
abbrev N_Gap_init : List Str := ["self", "number"]
theorem sc_Gap_init : FnScope N_Gap_init ["self", "number"] (defScope s_Gap_init) := ⟨rfl, rfl, rfl, by decide +kernel, rfl, by decide +kernel, by decide +kernel⟩
theorem st_Gap_init {v0 v1 : V} : L2.start N_Gap_init [v0, v1] = [some v0, some v1] := rfl
abbrev s_NotSo_init : Stmt := inClass (top 45) 0
abbrev N_NotSo_init : List Str := ["self", "number"]
theorem sc_NotSo_init : FnScope N_NotSo_init ["self", "number"] (defScope s_NotSo_init) := ⟨rfl, rfl, rfl, by decide +kernel, rfl, by decide +kernel, by decide +kernel⟩
theorem st_NotSo_init {v0 v1 : V} : L2.start N_NotSo_init [v0, v1] = [some v0, some v1] := rfl
abbrev s_NoTrip_init : Stmt := inClass (top 46) 0
abbrev N_NoTrip_init : List Str := ["self", "run"]
theorem sc_NoTrip_init : FnScope N_NoTrip_init ["self", "run"] (defScope s_NoTrip_init) := ⟨rfl, rfl, rfl, by decide +kernel, rfl, by decide +kernel, by decide +kernel⟩
theorem st_NoTrip_init {v0 v1 : V} : L2.start N_NoTrip_init [v0, v1] = [some v0, some v1] := rfl
abbrev s_NoStart_init : Stmt := inClass (top 47) 0
abbrev N_NoStart_init : List Str := ["self"]
theorem sc_NoStart_init : FnScope N_NoStart_init ["self"] (defScope s_NoStart_init) := ⟨rfl, rfl, rfl, by decide +kernel, rfl, by decide +kernel, by decide +kernel⟩
theorem st_NoStart_init {v0 : V} : L2.start N_NoStart_init [v0] = [some v0] := rfl
abbrev s_NoBack_init : Stmt := inClass (top 48) 0
abbrev N_NoBack_init : List Str := ["self"]
theorem sc_NoBack_init : FnScope N_NoBack_init ["self"] (defScope s_NoBack_init) := ⟨rfl, rfl, rfl, by decide +kernel, rfl, by decide +kernel, by decide +kernel⟩
theorem st_NoBack_init {v0 : V} : L2.start N_NoBack_init [v0] = [some v0] := rfl
abbrev s_law_cell : Stmt := top 50
abbrev N_law_cell : List Str := ["_law_script", "_law_k"]
theorem sc_law_cell : FnScope N_law_cell ["_law_script", "_law_k"] (defScope s_law_cell) := ⟨rfl, rfl, rfl, by decide +kernel, rfl, by decide +kernel, by decide +kernel⟩
theorem st_law_cell {v0 v1 : V} : L2.start N_law_cell [v0, v1] = [some v0, some v1] := rfl
abbrev s_law_box : Stmt := top 51
abbrev N_law_box : List Str := ["_law_cell_here"]
theorem sc_law_box : FnScope N_law_box ["_law_cell_here"] (defScope s_law_box) := ⟨rfl, rfl, rfl, by decide +kernel, rfl, by decide +kernel, by decide +kernel⟩
theorem st_law_box {v0 : V} : L2.start N_law_box [v0] = [some v0] := rfl
abbrev s_law_take : Stmt := top 52
abbrev N_law_take : List Str := ["_law_box_here", "_law_many", "_law_number", "_law_digit"]
theorem sc_law_take : FnScope N_law_take ["_law_box_here", "_law_many"] (defScope s_law_take) := ⟨rfl, rfl, rfl, by decide +kernel, rfl, by decide +kernel, by decide +kernel⟩
theorem st_law_take {v0 v1 : V} : L2.start N_law_take [v0, v1] = [some v0, some v1, none, none] := rfl
abbrev s_law_thing : Stmt := top 53
abbrev N_law_thing : List Str := ["_law_box_here", "_law_number", "_law_some"]
theorem sc_law_thing : FnScope N_law_thing ["_law_box_here"] (defScope s_law_thing) := ⟨rfl, rfl, rfl, by decide +kernel, rfl, by decide +kernel, by decide +kernel⟩
theorem st_law_thing {v0 : V} : L2.start N_law_thing [v0] = [some v0, none, none] := rfl
abbrev s_law_kinds : Stmt := top 54
abbrev N_law_kinds : List Str := ["_law_error", "_law_kinds_here"]
theorem sc_law_kinds : FnScope N_law_kinds ["_law_error"] (defScope s_law_kinds) := ⟨rfl, rfl, rfl, by decide +kernel, rfl, by decide +kernel, by decide +kernel⟩
theorem st_law_kinds {v0 : V} : L2.start N_law_kinds [v0] = [some v0, none] := rfl
abbrev s_law_made : Stmt := top 55
abbrev N_law_made : List Str := ["_law_one", "_law_other", "_law_made_here"]
theorem sc_law_made : FnScope N_law_made ["_law_one", "_law_other"] (defScope s_law_made) := ⟨rfl, rfl, rfl, by decide +kernel, rfl, by decide +kernel, by decide +kernel⟩
theorem st_law_made {v0 v1 : V} : L2.start N_law_made [v0, v1] = [some v0, some v1, none] := rfl
abbrev s_law_fields : Stmt := top 56
abbrev N_law_fields : List Str := ["_law_made_here", "_law_found", "_law_error"]
theorem sc_law_fields : FnScope N_law_fields ["_law_made_here"] (defScope s_law_fields) := ⟨rfl, rfl, rfl, by decide +kernel, rfl, by decide +kernel, by decide +kernel⟩
theorem st_law_fields {v0 : V} : L2.start N_law_fields [v0] = [some v0, none, none] := rfl
abbrev s_law_right : Stmt := top 57
abbrev N_law_right : List Str := ["_law_box_here", "_law_one", "_law_other", "_law_made_here", "_law_at", "_law_error", "_law_due", "_law_thing_here", "_law_k"]
theorem sc_law_right : FnScope N_law_right ["_law_box_here"] (defScope s_law_right) := ⟨rfl, rfl, rfl, by decide +kernel, rfl, by decide +kernel, by decide +kernel⟩
theorem st_law_right {v0 : V} : L2.start N_law_right [v0] = [some v0, none, none, none, none, none, none, none, none] := rfl
abbrev s_law : Stmt := top 58
abbrev N_law : List Str := ["_law_script", "_law_k", "_law_above", "_law_box_here"]
theorem sc_law : FnScope N_law ["_law_script"] (defScope s_law) := ⟨rfl, rfl, rfl, by decide +kernel, rfl, by decide +kernel, by decide +kernel⟩
theorem st_law {v0 : V} : L2.start N_law [v0] = [some v0, none, none, none] := rfl
structure Td0 where
  C_NoName : Addr
  C_NoPlace : Addr
  C_NoTrain : Addr
  C_NoTrains : Addr
  C_NoEnds : Addr
  C_NoStretch : Addr
  C_NoLong : Addr
  C_NoPlaces : Addr
  C_NoStretches : Addr
  C_NoLongs : Addr
  C_NoNumber : Addr
  C_NoThing : Addr
  C_NoKind : Addr
  C_NoWord : Addr
  C_NoDeed : Addr
  C_NoWay : Addr
  C_NoUse : Addr
  C_NoBooks : Addr
  C_NoRows : Addr
  C_NoMove : Addr
  C_NoRuns : Addr
  C_NoRun : Addr
  C_NoLine : Addr
  C_NoState : Addr
structure Td1 where
  C_Twice : Addr
  C_NotHere : Addr
  C_NotIn : Addr
  C_NotHeld : Addr
  C_NotHelped : Addr
  C_Full : Addr
  C_Lacks : Addr
  C_Shut : Addr
  C_Held : Addr
  C_NotClear : Addr
  C_NoTickets : Addr
  C_NoRight : Addr
  C_NotShut : Addr
  C_Taken : Addr
  C_Boxed : Addr
  C_Silent : Addr
  C_TooMany : Addr
  C_NoText : Addr
  C_Gap : Addr
  C_NotSo : Addr
  C_NoTrip : Addr
  C_NoStart : Addr
  C_NoBack : Addr
  C_StaffError : Addr
structure Td2 where
  a_NoName_init : Addr
  d_NoName_init : FuncData
  a_NoPlace_init : Addr
  d_NoPlace_init : FuncData
  a_NoTrain_init : Addr
  d_NoTrain_init : FuncData
  a_NoTrains_init : Addr
  d_NoTrains_init : FuncData
  a_NoEnds_init : Addr
  d_NoEnds_init : FuncData
  a_NoStretch_init : Addr
  d_NoStretch_init : FuncData
  a_NoLong_init : Addr
  d_NoLong_init : FuncData
  a_NoPlaces_init : Addr
  d_NoPlaces_init : FuncData
  a_NoStretches_init : Addr
  d_NoStretches_init : FuncData
  a_NoLongs_init : Addr
  d_NoLongs_init : FuncData
  a_NoNumber_init : Addr
  d_NoNumber_init : FuncData
  a_NoThing_init : Addr
  d_NoThing_init : FuncData
structure Td3 where
  a_NoKind_init : Addr
  d_NoKind_init : FuncData
  a_NoWord_init : Addr
  d_NoWord_init : FuncData
  a_NoDeed_init : Addr
  d_NoDeed_init : FuncData
  a_NoWay_init : Addr
  d_NoWay_init : FuncData
  a_NoUse_init : Addr
  d_NoUse_init : FuncData
  a_NoBooks_init : Addr
  d_NoBooks_init : FuncData
  a_NoRows_init : Addr
  d_NoRows_init : FuncData
  a_NoMove_init : Addr
  d_NoMove_init : FuncData
  a_NoRuns_init : Addr
  d_NoRuns_init : FuncData
  a_NoRun_init : Addr
  d_NoRun_init : FuncData
  a_NoLine_init : Addr
  d_NoLine_init : FuncData
  a_NoState_init : Addr
  d_NoState_init : FuncData
structure Td4 where
  a_Twice_init : Addr
  d_Twice_init : FuncData
  a_NotHere_init : Addr
  d_NotHere_init : FuncData
  a_NotIn_init : Addr
  d_NotIn_init : FuncData
  a_NotHeld_init : Addr
  d_NotHeld_init : FuncData
  a_NotHelped_init : Addr
  d_NotHelped_init : FuncData
  a_Full_init : Addr
  d_Full_init : FuncData
  a_Lacks_init : Addr
  d_Lacks_init : FuncData
  a_Shut_init : Addr
  d_Shut_init : FuncData
  a_Held_init : Addr
  d_Held_init : FuncData
  a_NotClear_init : Addr
  d_NotClear_init : FuncData
  a_NoTickets_init : Addr
  d_NoTickets_init : FuncData
  a_NoRight_init : Addr
  d_NoRight_init : FuncData
structure Td5 where
  a_NotShut_init : Addr
  d_NotShut_init : FuncData
  a_Taken_init : Addr
  d_Taken_init : FuncData
  a_Boxed_init : Addr
  d_Boxed_init : FuncData
  a_Silent_init : Addr
  d_Silent_init : FuncData
  a_TooMany_init : Addr
  d_TooMany_init : FuncData
  a_NoText_init : Addr
  d_NoText_init : FuncData
  a_Gap_init : Addr
  d_Gap_init : FuncData
  a_NotSo_init : Addr
  d_NotSo_init : FuncData
  a_NoTrip_init : Addr
  d_NoTrip_init : FuncData
  a_NoStart_init : Addr
  d_NoStart_init : FuncData
  a_NoBack_init : Addr
  d_NoBack_init : FuncData
  a_law_cell : Addr
  d_law_cell : FuncData
structure Td6 where
  a_law_box : Addr
  d_law_box : FuncData
  a_law_take : Addr
  d_law_take : FuncData
  a_law_thing : Addr
  d_law_thing : FuncData
  a_law_kinds : Addr
  d_law_kinds : FuncData
  a_law_made : Addr
  d_law_made : FuncData
  a_law_fields : Addr
  d_law_fields : FuncData
  a_law_right : Addr
  d_law_right : FuncData
  a_law : Addr
  d_law : FuncData
structure Td where
  p0 : Td0
  p1 : Td1
  p2 : Td2
  p3 : Td3
  p4 : Td4
  p5 : Td5
  p6 : Td6
abbrev Td.C_NoName (D : Td) : Addr := D.p0.C_NoName
abbrev Td.C_NoPlace (D : Td) : Addr := D.p0.C_NoPlace
abbrev Td.C_NoTrain (D : Td) : Addr := D.p0.C_NoTrain
abbrev Td.C_NoTrains (D : Td) : Addr := D.p0.C_NoTrains
abbrev Td.C_NoEnds (D : Td) : Addr := D.p0.C_NoEnds
abbrev Td.C_NoStretch (D : Td) : Addr := D.p0.C_NoStretch
abbrev Td.C_NoLong (D : Td) : Addr := D.p0.C_NoLong
abbrev Td.C_NoPlaces (D : Td) : Addr := D.p0.C_NoPlaces
abbrev Td.C_NoStretches (D : Td) : Addr := D.p0.C_NoStretches
abbrev Td.C_NoLongs (D : Td) : Addr := D.p0.C_NoLongs
abbrev Td.C_NoNumber (D : Td) : Addr := D.p0.C_NoNumber
abbrev Td.C_NoThing (D : Td) : Addr := D.p0.C_NoThing
abbrev Td.C_NoKind (D : Td) : Addr := D.p0.C_NoKind
abbrev Td.C_NoWord (D : Td) : Addr := D.p0.C_NoWord
abbrev Td.C_NoDeed (D : Td) : Addr := D.p0.C_NoDeed
abbrev Td.C_NoWay (D : Td) : Addr := D.p0.C_NoWay
abbrev Td.C_NoUse (D : Td) : Addr := D.p0.C_NoUse
abbrev Td.C_NoBooks (D : Td) : Addr := D.p0.C_NoBooks
abbrev Td.C_NoRows (D : Td) : Addr := D.p0.C_NoRows
abbrev Td.C_NoMove (D : Td) : Addr := D.p0.C_NoMove
abbrev Td.C_NoRuns (D : Td) : Addr := D.p0.C_NoRuns
abbrev Td.C_NoRun (D : Td) : Addr := D.p0.C_NoRun
abbrev Td.C_NoLine (D : Td) : Addr := D.p0.C_NoLine
abbrev Td.C_NoState (D : Td) : Addr := D.p0.C_NoState
abbrev Td.C_Twice (D : Td) : Addr := D.p1.C_Twice
abbrev Td.C_NotHere (D : Td) : Addr := D.p1.C_NotHere
abbrev Td.C_NotIn (D : Td) : Addr := D.p1.C_NotIn
abbrev Td.C_NotHeld (D : Td) : Addr := D.p1.C_NotHeld
abbrev Td.C_NotHelped (D : Td) : Addr := D.p1.C_NotHelped
abbrev Td.C_Full (D : Td) : Addr := D.p1.C_Full
abbrev Td.C_Lacks (D : Td) : Addr := D.p1.C_Lacks
abbrev Td.C_Shut (D : Td) : Addr := D.p1.C_Shut
abbrev Td.C_Held (D : Td) : Addr := D.p1.C_Held
abbrev Td.C_NotClear (D : Td) : Addr := D.p1.C_NotClear
abbrev Td.C_NoTickets (D : Td) : Addr := D.p1.C_NoTickets
abbrev Td.C_NoRight (D : Td) : Addr := D.p1.C_NoRight
abbrev Td.C_NotShut (D : Td) : Addr := D.p1.C_NotShut
abbrev Td.C_Taken (D : Td) : Addr := D.p1.C_Taken
abbrev Td.C_Boxed (D : Td) : Addr := D.p1.C_Boxed
abbrev Td.C_Silent (D : Td) : Addr := D.p1.C_Silent
abbrev Td.C_TooMany (D : Td) : Addr := D.p1.C_TooMany
abbrev Td.C_NoText (D : Td) : Addr := D.p1.C_NoText
abbrev Td.C_Gap (D : Td) : Addr := D.p1.C_Gap
abbrev Td.C_NotSo (D : Td) : Addr := D.p1.C_NotSo
abbrev Td.C_NoTrip (D : Td) : Addr := D.p1.C_NoTrip
abbrev Td.C_NoStart (D : Td) : Addr := D.p1.C_NoStart
abbrev Td.C_NoBack (D : Td) : Addr := D.p1.C_NoBack
abbrev Td.C_StaffError (D : Td) : Addr := D.p1.C_StaffError
abbrev Td.a_NoName_init (D : Td) : Addr := D.p2.a_NoName_init
abbrev Td.d_NoName_init (D : Td) : FuncData := D.p2.d_NoName_init
abbrev Td.a_NoPlace_init (D : Td) : Addr := D.p2.a_NoPlace_init
abbrev Td.d_NoPlace_init (D : Td) : FuncData := D.p2.d_NoPlace_init
abbrev Td.a_NoTrain_init (D : Td) : Addr := D.p2.a_NoTrain_init
abbrev Td.d_NoTrain_init (D : Td) : FuncData := D.p2.d_NoTrain_init
abbrev Td.a_NoTrains_init (D : Td) : Addr := D.p2.a_NoTrains_init
abbrev Td.d_NoTrains_init (D : Td) : FuncData := D.p2.d_NoTrains_init
abbrev Td.a_NoEnds_init (D : Td) : Addr := D.p2.a_NoEnds_init
abbrev Td.d_NoEnds_init (D : Td) : FuncData := D.p2.d_NoEnds_init
abbrev Td.a_NoStretch_init (D : Td) : Addr := D.p2.a_NoStretch_init
abbrev Td.d_NoStretch_init (D : Td) : FuncData := D.p2.d_NoStretch_init
abbrev Td.a_NoLong_init (D : Td) : Addr := D.p2.a_NoLong_init
abbrev Td.d_NoLong_init (D : Td) : FuncData := D.p2.d_NoLong_init
abbrev Td.a_NoPlaces_init (D : Td) : Addr := D.p2.a_NoPlaces_init
abbrev Td.d_NoPlaces_init (D : Td) : FuncData := D.p2.d_NoPlaces_init
abbrev Td.a_NoStretches_init (D : Td) : Addr := D.p2.a_NoStretches_init
abbrev Td.d_NoStretches_init (D : Td) : FuncData := D.p2.d_NoStretches_init
abbrev Td.a_NoLongs_init (D : Td) : Addr := D.p2.a_NoLongs_init
abbrev Td.d_NoLongs_init (D : Td) : FuncData := D.p2.d_NoLongs_init
abbrev Td.a_NoNumber_init (D : Td) : Addr := D.p2.a_NoNumber_init
abbrev Td.d_NoNumber_init (D : Td) : FuncData := D.p2.d_NoNumber_init
abbrev Td.a_NoThing_init (D : Td) : Addr := D.p2.a_NoThing_init
abbrev Td.d_NoThing_init (D : Td) : FuncData := D.p2.d_NoThing_init
abbrev Td.a_NoKind_init (D : Td) : Addr := D.p3.a_NoKind_init
abbrev Td.d_NoKind_init (D : Td) : FuncData := D.p3.d_NoKind_init
abbrev Td.a_NoWord_init (D : Td) : Addr := D.p3.a_NoWord_init
abbrev Td.d_NoWord_init (D : Td) : FuncData := D.p3.d_NoWord_init
abbrev Td.a_NoDeed_init (D : Td) : Addr := D.p3.a_NoDeed_init
abbrev Td.d_NoDeed_init (D : Td) : FuncData := D.p3.d_NoDeed_init
abbrev Td.a_NoWay_init (D : Td) : Addr := D.p3.a_NoWay_init
abbrev Td.d_NoWay_init (D : Td) : FuncData := D.p3.d_NoWay_init
abbrev Td.a_NoUse_init (D : Td) : Addr := D.p3.a_NoUse_init
abbrev Td.d_NoUse_init (D : Td) : FuncData := D.p3.d_NoUse_init
abbrev Td.a_NoBooks_init (D : Td) : Addr := D.p3.a_NoBooks_init
abbrev Td.d_NoBooks_init (D : Td) : FuncData := D.p3.d_NoBooks_init
abbrev Td.a_NoRows_init (D : Td) : Addr := D.p3.a_NoRows_init
abbrev Td.d_NoRows_init (D : Td) : FuncData := D.p3.d_NoRows_init
abbrev Td.a_NoMove_init (D : Td) : Addr := D.p3.a_NoMove_init
abbrev Td.d_NoMove_init (D : Td) : FuncData := D.p3.d_NoMove_init
abbrev Td.a_NoRuns_init (D : Td) : Addr := D.p3.a_NoRuns_init
abbrev Td.d_NoRuns_init (D : Td) : FuncData := D.p3.d_NoRuns_init
abbrev Td.a_NoRun_init (D : Td) : Addr := D.p3.a_NoRun_init
abbrev Td.d_NoRun_init (D : Td) : FuncData := D.p3.d_NoRun_init
abbrev Td.a_NoLine_init (D : Td) : Addr := D.p3.a_NoLine_init
abbrev Td.d_NoLine_init (D : Td) : FuncData := D.p3.d_NoLine_init
abbrev Td.a_NoState_init (D : Td) : Addr := D.p3.a_NoState_init
abbrev Td.d_NoState_init (D : Td) : FuncData := D.p3.d_NoState_init
abbrev Td.a_Twice_init (D : Td) : Addr := D.p4.a_Twice_init
abbrev Td.d_Twice_init (D : Td) : FuncData := D.p4.d_Twice_init
abbrev Td.a_NotHere_init (D : Td) : Addr := D.p4.a_NotHere_init
abbrev Td.d_NotHere_init (D : Td) : FuncData := D.p4.d_NotHere_init
abbrev Td.a_NotIn_init (D : Td) : Addr := D.p4.a_NotIn_init
abbrev Td.d_NotIn_init (D : Td) : FuncData := D.p4.d_NotIn_init
abbrev Td.a_NotHeld_init (D : Td) : Addr := D.p4.a_NotHeld_init
abbrev Td.d_NotHeld_init (D : Td) : FuncData := D.p4.d_NotHeld_init
abbrev Td.a_NotHelped_init (D : Td) : Addr := D.p4.a_NotHelped_init
abbrev Td.d_NotHelped_init (D : Td) : FuncData := D.p4.d_NotHelped_init
abbrev Td.a_Full_init (D : Td) : Addr := D.p4.a_Full_init
abbrev Td.d_Full_init (D : Td) : FuncData := D.p4.d_Full_init
abbrev Td.a_Lacks_init (D : Td) : Addr := D.p4.a_Lacks_init
abbrev Td.d_Lacks_init (D : Td) : FuncData := D.p4.d_Lacks_init
abbrev Td.a_Shut_init (D : Td) : Addr := D.p4.a_Shut_init
abbrev Td.d_Shut_init (D : Td) : FuncData := D.p4.d_Shut_init
abbrev Td.a_Held_init (D : Td) : Addr := D.p4.a_Held_init
abbrev Td.d_Held_init (D : Td) : FuncData := D.p4.d_Held_init
abbrev Td.a_NotClear_init (D : Td) : Addr := D.p4.a_NotClear_init
abbrev Td.d_NotClear_init (D : Td) : FuncData := D.p4.d_NotClear_init
abbrev Td.a_NoTickets_init (D : Td) : Addr := D.p4.a_NoTickets_init
abbrev Td.d_NoTickets_init (D : Td) : FuncData := D.p4.d_NoTickets_init
abbrev Td.a_NoRight_init (D : Td) : Addr := D.p4.a_NoRight_init
abbrev Td.d_NoRight_init (D : Td) : FuncData := D.p4.d_NoRight_init
abbrev Td.a_NotShut_init (D : Td) : Addr := D.p5.a_NotShut_init
abbrev Td.d_NotShut_init (D : Td) : FuncData := D.p5.d_NotShut_init
abbrev Td.a_Taken_init (D : Td) : Addr := D.p5.a_Taken_init
abbrev Td.d_Taken_init (D : Td) : FuncData := D.p5.d_Taken_init
abbrev Td.a_Boxed_init (D : Td) : Addr := D.p5.a_Boxed_init
abbrev Td.d_Boxed_init (D : Td) : FuncData := D.p5.d_Boxed_init
abbrev Td.a_Silent_init (D : Td) : Addr := D.p5.a_Silent_init
abbrev Td.d_Silent_init (D : Td) : FuncData := D.p5.d_Silent_init
abbrev Td.a_TooMany_init (D : Td) : Addr := D.p5.a_TooMany_init
abbrev Td.d_TooMany_init (D : Td) : FuncData := D.p5.d_TooMany_init
abbrev Td.a_NoText_init (D : Td) : Addr := D.p5.a_NoText_init
abbrev Td.d_NoText_init (D : Td) : FuncData := D.p5.d_NoText_init
abbrev Td.a_Gap_init (D : Td) : Addr := D.p5.a_Gap_init
abbrev Td.d_Gap_init (D : Td) : FuncData := D.p5.d_Gap_init
abbrev Td.a_NotSo_init (D : Td) : Addr := D.p5.a_NotSo_init
abbrev Td.d_NotSo_init (D : Td) : FuncData := D.p5.d_NotSo_init
abbrev Td.a_NoTrip_init (D : Td) : Addr := D.p5.a_NoTrip_init
abbrev Td.d_NoTrip_init (D : Td) : FuncData := D.p5.d_NoTrip_init
abbrev Td.a_NoStart_init (D : Td) : Addr := D.p5.a_NoStart_init
abbrev Td.d_NoStart_init (D : Td) : FuncData := D.p5.d_NoStart_init
abbrev Td.a_NoBack_init (D : Td) : Addr := D.p5.a_NoBack_init
abbrev Td.d_NoBack_init (D : Td) : FuncData := D.p5.d_NoBack_init
abbrev Td.a_law_cell (D : Td) : Addr := D.p5.a_law_cell
abbrev Td.d_law_cell (D : Td) : FuncData := D.p5.d_law_cell
abbrev Td.a_law_box (D : Td) : Addr := D.p6.a_law_box
abbrev Td.d_law_box (D : Td) : FuncData := D.p6.d_law_box
abbrev Td.a_law_take (D : Td) : Addr := D.p6.a_law_take
abbrev Td.d_law_take (D : Td) : FuncData := D.p6.d_law_take
abbrev Td.a_law_thing (D : Td) : Addr := D.p6.a_law_thing
abbrev Td.d_law_thing (D : Td) : FuncData := D.p6.d_law_thing
abbrev Td.a_law_kinds (D : Td) : Addr := D.p6.a_law_kinds
abbrev Td.d_law_kinds (D : Td) : FuncData := D.p6.d_law_kinds
abbrev Td.a_law_made (D : Td) : Addr := D.p6.a_law_made
abbrev Td.d_law_made (D : Td) : FuncData := D.p6.d_law_made
abbrev Td.a_law_fields (D : Td) : Addr := D.p6.a_law_fields
abbrev Td.d_law_fields (D : Td) : FuncData := D.p6.d_law_fields
abbrev Td.a_law_right (D : Td) : Addr := D.p6.a_law_right
abbrev Td.d_law_right (D : Td) : FuncData := D.p6.d_law_right
abbrev Td.a_law (D : Td) : Addr := D.p6.a_law
abbrev Td.d_law (D : Td) : FuncData := D.p6.d_law
structure Tp0 (K : PySem.W.Frag) (mg : Str → Option Value) (D : Td) : Prop where
  m_NoName : mg "NoName" = some (.ref D.C_NoName)
  m_NoPlace : mg "NoPlace" = some (.ref D.C_NoPlace)
  m_NoTrain : mg "NoTrain" = some (.ref D.C_NoTrain)
  m_NoTrains : mg "NoTrains" = some (.ref D.C_NoTrains)
  m_NoEnds : mg "NoEnds" = some (.ref D.C_NoEnds)
  m_NoStretch : mg "NoStretch" = some (.ref D.C_NoStretch)
  m_NoLong : mg "NoLong" = some (.ref D.C_NoLong)
  m_NoPlaces : mg "NoPlaces" = some (.ref D.C_NoPlaces)
  m_NoStretches : mg "NoStretches" = some (.ref D.C_NoStretches)
  m_NoLongs : mg "NoLongs" = some (.ref D.C_NoLongs)
  m_NoNumber : mg "NoNumber" = some (.ref D.C_NoNumber)
  m_NoThing : mg "NoThing" = some (.ref D.C_NoThing)
  m_NoKind : mg "NoKind" = some (.ref D.C_NoKind)
  m_NoWord : mg "NoWord" = some (.ref D.C_NoWord)
  m_NoDeed : mg "NoDeed" = some (.ref D.C_NoDeed)
  m_NoWay : mg "NoWay" = some (.ref D.C_NoWay)
  m_NoUse : mg "NoUse" = some (.ref D.C_NoUse)
  m_NoBooks : mg "NoBooks" = some (.ref D.C_NoBooks)
  m_NoRows : mg "NoRows" = some (.ref D.C_NoRows)
  m_NoMove : mg "NoMove" = some (.ref D.C_NoMove)
  m_NoRuns : mg "NoRuns" = some (.ref D.C_NoRuns)
  m_NoRun : mg "NoRun" = some (.ref D.C_NoRun)
  m_NoLine : mg "NoLine" = some (.ref D.C_NoLine)
  m_NoState : mg "NoState" = some (.ref D.C_NoState)
structure Tp1 (K : PySem.W.Frag) (mg : Str → Option Value) (D : Td) : Prop where
  m_Twice : mg "Twice" = some (.ref D.C_Twice)
  m_NotHere : mg "NotHere" = some (.ref D.C_NotHere)
  m_NotIn : mg "NotIn" = some (.ref D.C_NotIn)
  m_NotHeld : mg "NotHeld" = some (.ref D.C_NotHeld)
  m_NotHelped : mg "NotHelped" = some (.ref D.C_NotHelped)
  m_Full : mg "Full" = some (.ref D.C_Full)
  m_Lacks : mg "Lacks" = some (.ref D.C_Lacks)
  m_Shut : mg "Shut" = some (.ref D.C_Shut)
  m_Held : mg "Held" = some (.ref D.C_Held)
  m_NotClear : mg "NotClear" = some (.ref D.C_NotClear)
  m_NoTickets : mg "NoTickets" = some (.ref D.C_NoTickets)
  m_NoRight : mg "NoRight" = some (.ref D.C_NoRight)
  m_NotShut : mg "NotShut" = some (.ref D.C_NotShut)
  m_Taken : mg "Taken" = some (.ref D.C_Taken)
  m_Boxed : mg "Boxed" = some (.ref D.C_Boxed)
  m_Silent : mg "Silent" = some (.ref D.C_Silent)
  m_TooMany : mg "TooMany" = some (.ref D.C_TooMany)
  m_NoText : mg "NoText" = some (.ref D.C_NoText)
  m_Gap : mg "Gap" = some (.ref D.C_Gap)
  m_NotSo : mg "NotSo" = some (.ref D.C_NotSo)
  m_NoTrip : mg "NoTrip" = some (.ref D.C_NoTrip)
  m_NoStart : mg "NoStart" = some (.ref D.C_NoStart)
  m_NoBack : mg "NoBack" = some (.ref D.C_NoBack)
  m_StaffError : mg "StaffError" = some (.ref D.C_StaffError)
structure Tp2 (K : PySem.W.Frag) (mg : Str → Option Value) (D : Td) : Prop where
  F_NoName_init : Fun K "__init__" "NoName.__init__" s_NoName_init D.a_NoName_init D.d_NoName_init
  B_NoName_init : Binds K D.d_NoName_init ["self", "found"] []
  F_NoPlace_init : Fun K "__init__" "NoPlace.__init__" s_NoPlace_init D.a_NoPlace_init D.d_NoPlace_init
  B_NoPlace_init : Binds K D.d_NoPlace_init ["self", "found"] []
  F_NoTrain_init : Fun K "__init__" "NoTrain.__init__" s_NoTrain_init D.a_NoTrain_init D.d_NoTrain_init
  B_NoTrain_init : Binds K D.d_NoTrain_init ["self", "found"] []
  F_NoTrains_init : Fun K "__init__" "NoTrains.__init__" s_NoTrains_init D.a_NoTrains_init D.d_NoTrains_init
  B_NoTrains_init : Binds K D.d_NoTrains_init ["self", "found"] []
  F_NoEnds_init : Fun K "__init__" "NoEnds.__init__" s_NoEnds_init D.a_NoEnds_init D.d_NoEnds_init
  B_NoEnds_init : Binds K D.d_NoEnds_init ["self", "found"] []
  F_NoStretch_init : Fun K "__init__" "NoStretch.__init__" s_NoStretch_init D.a_NoStretch_init D.d_NoStretch_init
  B_NoStretch_init : Binds K D.d_NoStretch_init ["self", "found"] []
  F_NoLong_init : Fun K "__init__" "NoLong.__init__" s_NoLong_init D.a_NoLong_init D.d_NoLong_init
  B_NoLong_init : Binds K D.d_NoLong_init ["self", "found"] []
  F_NoPlaces_init : Fun K "__init__" "NoPlaces.__init__" s_NoPlaces_init D.a_NoPlaces_init D.d_NoPlaces_init
  B_NoPlaces_init : Binds K D.d_NoPlaces_init ["self", "found"] []
  F_NoStretches_init : Fun K "__init__" "NoStretches.__init__" s_NoStretches_init D.a_NoStretches_init D.d_NoStretches_init
  B_NoStretches_init : Binds K D.d_NoStretches_init ["self", "found"] []
  F_NoLongs_init : Fun K "__init__" "NoLongs.__init__" s_NoLongs_init D.a_NoLongs_init D.d_NoLongs_init
  B_NoLongs_init : Binds K D.d_NoLongs_init ["self", "found"] []
  F_NoNumber_init : Fun K "__init__" "NoNumber.__init__" s_NoNumber_init D.a_NoNumber_init D.d_NoNumber_init
  B_NoNumber_init : Binds K D.d_NoNumber_init ["self", "found"] []
  F_NoThing_init : Fun K "__init__" "NoThing.__init__" s_NoThing_init D.a_NoThing_init D.d_NoThing_init
  B_NoThing_init : Binds K D.d_NoThing_init ["self", "found"] []
structure Tp3 (K : PySem.W.Frag) (mg : Str → Option Value) (D : Td) : Prop where
  F_NoKind_init : Fun K "__init__" "NoKind.__init__" s_NoKind_init D.a_NoKind_init D.d_NoKind_init
  B_NoKind_init : Binds K D.d_NoKind_init ["self", "found"] []
  F_NoWord_init : Fun K "__init__" "NoWord.__init__" s_NoWord_init D.a_NoWord_init D.d_NoWord_init
  B_NoWord_init : Binds K D.d_NoWord_init ["self", "found"] []
  F_NoDeed_init : Fun K "__init__" "NoDeed.__init__" s_NoDeed_init D.a_NoDeed_init D.d_NoDeed_init
  B_NoDeed_init : Binds K D.d_NoDeed_init ["self", "found"] []
  F_NoWay_init : Fun K "__init__" "NoWay.__init__" s_NoWay_init D.a_NoWay_init D.d_NoWay_init
  B_NoWay_init : Binds K D.d_NoWay_init ["self", "found"] []
  F_NoUse_init : Fun K "__init__" "NoUse.__init__" s_NoUse_init D.a_NoUse_init D.d_NoUse_init
  B_NoUse_init : Binds K D.d_NoUse_init ["self", "found"] []
  F_NoBooks_init : Fun K "__init__" "NoBooks.__init__" s_NoBooks_init D.a_NoBooks_init D.d_NoBooks_init
  B_NoBooks_init : Binds K D.d_NoBooks_init ["self", "found"] []
  F_NoRows_init : Fun K "__init__" "NoRows.__init__" s_NoRows_init D.a_NoRows_init D.d_NoRows_init
  B_NoRows_init : Binds K D.d_NoRows_init ["self", "found"] []
  F_NoMove_init : Fun K "__init__" "NoMove.__init__" s_NoMove_init D.a_NoMove_init D.d_NoMove_init
  B_NoMove_init : Binds K D.d_NoMove_init ["self", "found"] []
  F_NoRuns_init : Fun K "__init__" "NoRuns.__init__" s_NoRuns_init D.a_NoRuns_init D.d_NoRuns_init
  B_NoRuns_init : Binds K D.d_NoRuns_init ["self", "found"] []
  F_NoRun_init : Fun K "__init__" "NoRun.__init__" s_NoRun_init D.a_NoRun_init D.d_NoRun_init
  B_NoRun_init : Binds K D.d_NoRun_init ["self", "found"] []
  F_NoLine_init : Fun K "__init__" "NoLine.__init__" s_NoLine_init D.a_NoLine_init D.d_NoLine_init
  B_NoLine_init : Binds K D.d_NoLine_init ["self", "found"] []
  F_NoState_init : Fun K "__init__" "NoState.__init__" s_NoState_init D.a_NoState_init D.d_NoState_init
  B_NoState_init : Binds K D.d_NoState_init ["self", "found"] []
structure Tp4 (K : PySem.W.Frag) (mg : Str → Option Value) (D : Td) : Prop where
  F_Twice_init : Fun K "__init__" "Twice.__init__" s_Twice_init D.a_Twice_init D.d_Twice_init
  B_Twice_init : Binds K D.d_Twice_init ["self", "found"] []
  F_NotHere_init : Fun K "__init__" "NotHere.__init__" s_NotHere_init D.a_NotHere_init D.d_NotHere_init
  B_NotHere_init : Binds K D.d_NotHere_init ["self", "found"] []
  F_NotIn_init : Fun K "__init__" "NotIn.__init__" s_NotIn_init D.a_NotIn_init D.d_NotIn_init
  B_NotIn_init : Binds K D.d_NotIn_init ["self", "found"] []
  F_NotHeld_init : Fun K "__init__" "NotHeld.__init__" s_NotHeld_init D.a_NotHeld_init D.d_NotHeld_init
  B_NotHeld_init : Binds K D.d_NotHeld_init ["self", "found"] []
  F_NotHelped_init : Fun K "__init__" "NotHelped.__init__" s_NotHelped_init D.a_NotHelped_init D.d_NotHelped_init
  B_NotHelped_init : Binds K D.d_NotHelped_init ["self", "found"] []
  F_Full_init : Fun K "__init__" "Full.__init__" s_Full_init D.a_Full_init D.d_Full_init
  B_Full_init : Binds K D.d_Full_init ["self", "found"] []
  F_Lacks_init : Fun K "__init__" "Lacks.__init__" s_Lacks_init D.a_Lacks_init D.d_Lacks_init
  B_Lacks_init : Binds K D.d_Lacks_init ["self", "found"] []
  F_Shut_init : Fun K "__init__" "Shut.__init__" s_Shut_init D.a_Shut_init D.d_Shut_init
  B_Shut_init : Binds K D.d_Shut_init ["self", "found"] []
  F_Held_init : Fun K "__init__" "Held.__init__" s_Held_init D.a_Held_init D.d_Held_init
  B_Held_init : Binds K D.d_Held_init ["self", "found"] []
  F_NotClear_init : Fun K "__init__" "NotClear.__init__" s_NotClear_init D.a_NotClear_init D.d_NotClear_init
  B_NotClear_init : Binds K D.d_NotClear_init ["self", "found"] []
  F_NoTickets_init : Fun K "__init__" "NoTickets.__init__" s_NoTickets_init D.a_NoTickets_init D.d_NoTickets_init
  B_NoTickets_init : Binds K D.d_NoTickets_init ["self", "found"] []
  F_NoRight_init : Fun K "__init__" "NoRight.__init__" s_NoRight_init D.a_NoRight_init D.d_NoRight_init
  B_NoRight_init : Binds K D.d_NoRight_init ["self", "found"] []
structure Tp5 (K : PySem.W.Frag) (mg : Str → Option Value) (D : Td) : Prop where
  F_NotShut_init : Fun K "__init__" "NotShut.__init__" s_NotShut_init D.a_NotShut_init D.d_NotShut_init
  B_NotShut_init : Binds K D.d_NotShut_init ["self", "found"] []
  F_Taken_init : Fun K "__init__" "Taken.__init__" s_Taken_init D.a_Taken_init D.d_Taken_init
  B_Taken_init : Binds K D.d_Taken_init ["self", "found"] []
  F_Boxed_init : Fun K "__init__" "Boxed.__init__" s_Boxed_init D.a_Boxed_init D.d_Boxed_init
  B_Boxed_init : Binds K D.d_Boxed_init ["self", "found"] []
  F_Silent_init : Fun K "__init__" "Silent.__init__" s_Silent_init D.a_Silent_init D.d_Silent_init
  B_Silent_init : Binds K D.d_Silent_init ["self", "found"] []
  F_TooMany_init : Fun K "__init__" "TooMany.__init__" s_TooMany_init D.a_TooMany_init D.d_TooMany_init
  B_TooMany_init : Binds K D.d_TooMany_init ["self", "many"] []
  F_NoText_init : Fun K "__init__" "NoText.__init__" s_NoText_init D.a_NoText_init D.d_NoText_init
  B_NoText_init : Binds K D.d_NoText_init ["self", "row"] []
  F_Gap_init : Fun K "__init__" "Gap.__init__" s_Gap_init D.a_Gap_init D.d_Gap_init
  B_Gap_init : Binds K D.d_Gap_init ["self", "number"] []
  F_NotSo_init : Fun K "__init__" "NotSo.__init__" s_NotSo_init D.a_NotSo_init D.d_NotSo_init
  B_NotSo_init : Binds K D.d_NotSo_init ["self", "number"] []
  F_NoTrip_init : Fun K "__init__" "NoTrip.__init__" s_NoTrip_init D.a_NoTrip_init D.d_NoTrip_init
  B_NoTrip_init : Binds K D.d_NoTrip_init ["self", "run"] []
  F_NoStart_init : Fun K "__init__" "NoStart.__init__" s_NoStart_init D.a_NoStart_init D.d_NoStart_init
  B_NoStart_init : Binds K D.d_NoStart_init ["self"] []
  F_NoBack_init : Fun K "__init__" "NoBack.__init__" s_NoBack_init D.a_NoBack_init D.d_NoBack_init
  B_NoBack_init : Binds K D.d_NoBack_init ["self"] []
  F_law_cell : Fun K "_law_cell" "_law_cell" s_law_cell D.a_law_cell D.d_law_cell
  B_law_cell : Binds K D.d_law_cell ["_law_script", "_law_k"] []
structure Tp6 (K : PySem.W.Frag) (mg : Str → Option Value) (D : Td) : Prop where
  m_law_cell : mg "_law_cell" = some (.ref D.a_law_cell)
  F_law_box : Fun K "_law_box" "_law_box" s_law_box D.a_law_box D.d_law_box
  B_law_box : Binds K D.d_law_box ["_law_cell_here"] []
  m_law_box : mg "_law_box" = some (.ref D.a_law_box)
  F_law_take : Fun K "_law_take" "_law_take" s_law_take D.a_law_take D.d_law_take
  B_law_take : Binds K D.d_law_take ["_law_box_here", "_law_many"] []
  m_law_take : mg "_law_take" = some (.ref D.a_law_take)
  F_law_thing : Fun K "_law_thing" "_law_thing" s_law_thing D.a_law_thing D.d_law_thing
  B_law_thing : Binds K D.d_law_thing ["_law_box_here"] []
  m_law_thing : mg "_law_thing" = some (.ref D.a_law_thing)
  F_law_kinds : Fun K "_law_kinds" "_law_kinds" s_law_kinds D.a_law_kinds D.d_law_kinds
  B_law_kinds : Binds K D.d_law_kinds ["_law_error"] []
  m_law_kinds : mg "_law_kinds" = some (.ref D.a_law_kinds)
  F_law_made : Fun K "_law_made" "_law_made" s_law_made D.a_law_made D.d_law_made
  B_law_made : Binds K D.d_law_made ["_law_one", "_law_other"] []
  m_law_made : mg "_law_made" = some (.ref D.a_law_made)
  F_law_fields : Fun K "_law_fields" "_law_fields" s_law_fields D.a_law_fields D.d_law_fields
  B_law_fields : Binds K D.d_law_fields ["_law_made_here"] []
  m_law_fields : mg "_law_fields" = some (.ref D.a_law_fields)
  F_law_right : Fun K "_law_right" "_law_right" s_law_right D.a_law_right D.d_law_right
  B_law_right : Binds K D.d_law_right ["_law_box_here"] []
  m_law_right : mg "_law_right" = some (.ref D.a_law_right)
  F_law : Fun K "law" "law" s_law D.a_law D.d_law
  B_law : Binds K D.d_law ["_law_script"] []
structure Tp7 (K : PySem.W.Frag) (mg : Str → Option Value) (D : Td) : Prop where
  m_law : mg "law" = some (.ref D.a_law)
  er_NoName : ErrC K D.C_NoName D.a_NoName_init "found"
  er_NoPlace : ErrC K D.C_NoPlace D.a_NoPlace_init "found"
  er_NoTrain : ErrC K D.C_NoTrain D.a_NoTrain_init "found"
  er_NoTrains : ErrC K D.C_NoTrains D.a_NoTrains_init "found"
  er_NoEnds : ErrC K D.C_NoEnds D.a_NoEnds_init "found"
  er_NoStretch : ErrC K D.C_NoStretch D.a_NoStretch_init "found"
  er_NoLong : ErrC K D.C_NoLong D.a_NoLong_init "found"
  er_NoPlaces : ErrC K D.C_NoPlaces D.a_NoPlaces_init "found"
  er_NoStretches : ErrC K D.C_NoStretches D.a_NoStretches_init "found"
  er_NoLongs : ErrC K D.C_NoLongs D.a_NoLongs_init "found"
  er_NoNumber : ErrC K D.C_NoNumber D.a_NoNumber_init "found"
  er_NoThing : ErrC K D.C_NoThing D.a_NoThing_init "found"
  er_NoKind : ErrC K D.C_NoKind D.a_NoKind_init "found"
  er_NoWord : ErrC K D.C_NoWord D.a_NoWord_init "found"
  er_NoDeed : ErrC K D.C_NoDeed D.a_NoDeed_init "found"
  er_NoWay : ErrC K D.C_NoWay D.a_NoWay_init "found"
  er_NoUse : ErrC K D.C_NoUse D.a_NoUse_init "found"
  er_NoBooks : ErrC K D.C_NoBooks D.a_NoBooks_init "found"
  er_NoRows : ErrC K D.C_NoRows D.a_NoRows_init "found"
  er_NoMove : ErrC K D.C_NoMove D.a_NoMove_init "found"
  er_NoRuns : ErrC K D.C_NoRuns D.a_NoRuns_init "found"
  er_NoRun : ErrC K D.C_NoRun D.a_NoRun_init "found"
  er_NoLine : ErrC K D.C_NoLine D.a_NoLine_init "found"
structure Tp8 (K : PySem.W.Frag) (mg : Str → Option Value) (D : Td) : Prop where
  er_NoState : ErrC K D.C_NoState D.a_NoState_init "found"
  er_Twice : ErrC K D.C_Twice D.a_Twice_init "found"
  er_NotHere : ErrC K D.C_NotHere D.a_NotHere_init "found"
  er_NotIn : ErrC K D.C_NotIn D.a_NotIn_init "found"
  er_NotHeld : ErrC K D.C_NotHeld D.a_NotHeld_init "found"
  er_NotHelped : ErrC K D.C_NotHelped D.a_NotHelped_init "found"
  er_Full : ErrC K D.C_Full D.a_Full_init "found"
  er_Lacks : ErrC K D.C_Lacks D.a_Lacks_init "found"
  er_Shut : ErrC K D.C_Shut D.a_Shut_init "found"
  er_Held : ErrC K D.C_Held D.a_Held_init "found"
  er_NotClear : ErrC K D.C_NotClear D.a_NotClear_init "found"
  er_NoTickets : ErrC K D.C_NoTickets D.a_NoTickets_init "found"
  er_NoRight : ErrC K D.C_NoRight D.a_NoRight_init "found"
  er_NotShut : ErrC K D.C_NotShut D.a_NotShut_init "found"
  er_Taken : ErrC K D.C_Taken D.a_Taken_init "found"
  er_Boxed : ErrC K D.C_Boxed D.a_Boxed_init "found"
  er_Silent : ErrC K D.C_Silent D.a_Silent_init "found"
  er_TooMany : ErrC K D.C_TooMany D.a_TooMany_init "many"
  er_NoText : ErrC K D.C_NoText D.a_NoText_init "row"
  er_Gap : ErrC K D.C_Gap D.a_Gap_init "number"
  er_NotSo : ErrC K D.C_NotSo D.a_NotSo_init "number"
  er_NoTrip : ErrC K D.C_NoTrip D.a_NoTrip_init "run"
  er_NoStart : ErrC K D.C_NoStart D.a_NoStart_init "found"
  er_NoBack : ErrC K D.C_NoBack D.a_NoBack_init "found"
structure Tp9 (K : PySem.W.Frag) (mg : Str → Option Value) (D : Td) : Prop where
  rd_StaffError : RdC K D.C_StaffError
  vi_StaffError : PySem.W.findCls K (.ref D.C_StaffError) (.type "type") "__init__" = some (.val (.builtin "ValueError.__init__"))
  oc_get : PySem.W.specialIn K (.builtin "object.__class__") "__get__" = some (some (.builtin "getset_descriptor.__get__"))
  oc_take : PySem.W.takesIn K (.builtin "object.__class__") = some true
  xs_StaffError : PySem.W.excIn K D.C_StaffError [.type "ValueError", .type "Exception", .type "BaseException", .type "object"] "ValueError.__new__" = true
  kc_StaffError : PySem.W.keepIn K (.ref D.C_StaffError) = true
  ec_StaffError : ExcC K D.C_StaffError
  tab : Tab K D.C_StaffError [D.C_NoName, D.C_NoPlace, D.C_NoTrain, D.C_NoTrains, D.C_NoEnds, D.C_NoStretch, D.C_NoLong, D.C_NoPlaces, D.C_NoStretches, D.C_NoLongs, D.C_NoNumber, D.C_NoThing, D.C_NoKind, D.C_NoWord, D.C_NoDeed, D.C_NoWay, D.C_NoUse, D.C_NoBooks, D.C_NoRows, D.C_NoMove, D.C_NoRuns, D.C_NoRun, D.C_NoLine, D.C_NoState, D.C_Twice, D.C_NotHere, D.C_NotIn, D.C_NotHeld, D.C_NotHelped, D.C_Full, D.C_Lacks, D.C_Shut, D.C_Held, D.C_NotClear, D.C_NoTickets, D.C_NoRight, D.C_NotShut, D.C_Taken, D.C_Boxed, D.C_Silent, D.C_TooMany, D.C_NoText, D.C_Gap, D.C_NotSo, D.C_NoTrip, D.C_NoStart, D.C_NoBack]
  z_ValueError : mg "ValueError" = none
  z_dict : mg "dict" = none
  z_enumerate : mg "enumerate" = none
  z_isinstance : mg "isinstance" = none
  z_len : mg "len" = none
  z_list : mg "list" = none
  z_max : mg "max" = none
  z_min : mg "min" = none
  z_range : mg "range" = none
  z_repr : mg "repr" = none
structure Tx (K : PySem.W.Frag) (mg : Str → Option Value) where
  D : Td
  q0 : Tp0 K mg D
  q1 : Tp1 K mg D
  q2 : Tp2 K mg D
  q3 : Tp3 K mg D
  q4 : Tp4 K mg D
  q5 : Tp5 K mg D
  q6 : Tp6 K mg D
  q7 : Tp7 K mg D
  q8 : Tp8 K mg D
  q9 : Tp9 K mg D
section
variable {K : PySem.W.Frag} {mg : Str → Option Value}
abbrev Tx.C_NoName (T : Tx K mg) : Addr := T.D.C_NoName
abbrev Tx.C_NoPlace (T : Tx K mg) : Addr := T.D.C_NoPlace
abbrev Tx.C_NoTrain (T : Tx K mg) : Addr := T.D.C_NoTrain
abbrev Tx.C_NoTrains (T : Tx K mg) : Addr := T.D.C_NoTrains
abbrev Tx.C_NoEnds (T : Tx K mg) : Addr := T.D.C_NoEnds
abbrev Tx.C_NoStretch (T : Tx K mg) : Addr := T.D.C_NoStretch
abbrev Tx.C_NoLong (T : Tx K mg) : Addr := T.D.C_NoLong
abbrev Tx.C_NoPlaces (T : Tx K mg) : Addr := T.D.C_NoPlaces
abbrev Tx.C_NoStretches (T : Tx K mg) : Addr := T.D.C_NoStretches
abbrev Tx.C_NoLongs (T : Tx K mg) : Addr := T.D.C_NoLongs
abbrev Tx.C_NoNumber (T : Tx K mg) : Addr := T.D.C_NoNumber
abbrev Tx.C_NoThing (T : Tx K mg) : Addr := T.D.C_NoThing
abbrev Tx.C_NoKind (T : Tx K mg) : Addr := T.D.C_NoKind
abbrev Tx.C_NoWord (T : Tx K mg) : Addr := T.D.C_NoWord
abbrev Tx.C_NoDeed (T : Tx K mg) : Addr := T.D.C_NoDeed
abbrev Tx.C_NoWay (T : Tx K mg) : Addr := T.D.C_NoWay
abbrev Tx.C_NoUse (T : Tx K mg) : Addr := T.D.C_NoUse
abbrev Tx.C_NoBooks (T : Tx K mg) : Addr := T.D.C_NoBooks
abbrev Tx.C_NoRows (T : Tx K mg) : Addr := T.D.C_NoRows
abbrev Tx.C_NoMove (T : Tx K mg) : Addr := T.D.C_NoMove
abbrev Tx.C_NoRuns (T : Tx K mg) : Addr := T.D.C_NoRuns
abbrev Tx.C_NoRun (T : Tx K mg) : Addr := T.D.C_NoRun
abbrev Tx.C_NoLine (T : Tx K mg) : Addr := T.D.C_NoLine
abbrev Tx.C_NoState (T : Tx K mg) : Addr := T.D.C_NoState
abbrev Tx.C_Twice (T : Tx K mg) : Addr := T.D.C_Twice
abbrev Tx.C_NotHere (T : Tx K mg) : Addr := T.D.C_NotHere
abbrev Tx.C_NotIn (T : Tx K mg) : Addr := T.D.C_NotIn
abbrev Tx.C_NotHeld (T : Tx K mg) : Addr := T.D.C_NotHeld
abbrev Tx.C_NotHelped (T : Tx K mg) : Addr := T.D.C_NotHelped
abbrev Tx.C_Full (T : Tx K mg) : Addr := T.D.C_Full
abbrev Tx.C_Lacks (T : Tx K mg) : Addr := T.D.C_Lacks
abbrev Tx.C_Shut (T : Tx K mg) : Addr := T.D.C_Shut
abbrev Tx.C_Held (T : Tx K mg) : Addr := T.D.C_Held
abbrev Tx.C_NotClear (T : Tx K mg) : Addr := T.D.C_NotClear
abbrev Tx.C_NoTickets (T : Tx K mg) : Addr := T.D.C_NoTickets
abbrev Tx.C_NoRight (T : Tx K mg) : Addr := T.D.C_NoRight
abbrev Tx.C_NotShut (T : Tx K mg) : Addr := T.D.C_NotShut
abbrev Tx.C_Taken (T : Tx K mg) : Addr := T.D.C_Taken
abbrev Tx.C_Boxed (T : Tx K mg) : Addr := T.D.C_Boxed
abbrev Tx.C_Silent (T : Tx K mg) : Addr := T.D.C_Silent
abbrev Tx.C_TooMany (T : Tx K mg) : Addr := T.D.C_TooMany
abbrev Tx.C_NoText (T : Tx K mg) : Addr := T.D.C_NoText
abbrev Tx.C_Gap (T : Tx K mg) : Addr := T.D.C_Gap
abbrev Tx.C_NotSo (T : Tx K mg) : Addr := T.D.C_NotSo
abbrev Tx.C_NoTrip (T : Tx K mg) : Addr := T.D.C_NoTrip
abbrev Tx.C_NoStart (T : Tx K mg) : Addr := T.D.C_NoStart
abbrev Tx.C_NoBack (T : Tx K mg) : Addr := T.D.C_NoBack
abbrev Tx.C_StaffError (T : Tx K mg) : Addr := T.D.C_StaffError
abbrev Tx.a_NoName_init (T : Tx K mg) : Addr := T.D.a_NoName_init
abbrev Tx.d_NoName_init (T : Tx K mg) : FuncData := T.D.d_NoName_init
abbrev Tx.a_NoPlace_init (T : Tx K mg) : Addr := T.D.a_NoPlace_init
abbrev Tx.d_NoPlace_init (T : Tx K mg) : FuncData := T.D.d_NoPlace_init
abbrev Tx.a_NoTrain_init (T : Tx K mg) : Addr := T.D.a_NoTrain_init
abbrev Tx.d_NoTrain_init (T : Tx K mg) : FuncData := T.D.d_NoTrain_init
abbrev Tx.a_NoTrains_init (T : Tx K mg) : Addr := T.D.a_NoTrains_init
abbrev Tx.d_NoTrains_init (T : Tx K mg) : FuncData := T.D.d_NoTrains_init
abbrev Tx.a_NoEnds_init (T : Tx K mg) : Addr := T.D.a_NoEnds_init
abbrev Tx.d_NoEnds_init (T : Tx K mg) : FuncData := T.D.d_NoEnds_init
abbrev Tx.a_NoStretch_init (T : Tx K mg) : Addr := T.D.a_NoStretch_init
abbrev Tx.d_NoStretch_init (T : Tx K mg) : FuncData := T.D.d_NoStretch_init
abbrev Tx.a_NoLong_init (T : Tx K mg) : Addr := T.D.a_NoLong_init
abbrev Tx.d_NoLong_init (T : Tx K mg) : FuncData := T.D.d_NoLong_init
abbrev Tx.a_NoPlaces_init (T : Tx K mg) : Addr := T.D.a_NoPlaces_init
abbrev Tx.d_NoPlaces_init (T : Tx K mg) : FuncData := T.D.d_NoPlaces_init
abbrev Tx.a_NoStretches_init (T : Tx K mg) : Addr := T.D.a_NoStretches_init
abbrev Tx.d_NoStretches_init (T : Tx K mg) : FuncData := T.D.d_NoStretches_init
abbrev Tx.a_NoLongs_init (T : Tx K mg) : Addr := T.D.a_NoLongs_init
abbrev Tx.d_NoLongs_init (T : Tx K mg) : FuncData := T.D.d_NoLongs_init
abbrev Tx.a_NoNumber_init (T : Tx K mg) : Addr := T.D.a_NoNumber_init
abbrev Tx.d_NoNumber_init (T : Tx K mg) : FuncData := T.D.d_NoNumber_init
abbrev Tx.a_NoThing_init (T : Tx K mg) : Addr := T.D.a_NoThing_init
abbrev Tx.d_NoThing_init (T : Tx K mg) : FuncData := T.D.d_NoThing_init
abbrev Tx.a_NoKind_init (T : Tx K mg) : Addr := T.D.a_NoKind_init
abbrev Tx.d_NoKind_init (T : Tx K mg) : FuncData := T.D.d_NoKind_init
abbrev Tx.a_NoWord_init (T : Tx K mg) : Addr := T.D.a_NoWord_init
abbrev Tx.d_NoWord_init (T : Tx K mg) : FuncData := T.D.d_NoWord_init
abbrev Tx.a_NoDeed_init (T : Tx K mg) : Addr := T.D.a_NoDeed_init
abbrev Tx.d_NoDeed_init (T : Tx K mg) : FuncData := T.D.d_NoDeed_init
abbrev Tx.a_NoWay_init (T : Tx K mg) : Addr := T.D.a_NoWay_init
abbrev Tx.d_NoWay_init (T : Tx K mg) : FuncData := T.D.d_NoWay_init
abbrev Tx.a_NoUse_init (T : Tx K mg) : Addr := T.D.a_NoUse_init
abbrev Tx.d_NoUse_init (T : Tx K mg) : FuncData := T.D.d_NoUse_init
abbrev Tx.a_NoBooks_init (T : Tx K mg) : Addr := T.D.a_NoBooks_init
abbrev Tx.d_NoBooks_init (T : Tx K mg) : FuncData := T.D.d_NoBooks_init
abbrev Tx.a_NoRows_init (T : Tx K mg) : Addr := T.D.a_NoRows_init
abbrev Tx.d_NoRows_init (T : Tx K mg) : FuncData := T.D.d_NoRows_init
abbrev Tx.a_NoMove_init (T : Tx K mg) : Addr := T.D.a_NoMove_init
abbrev Tx.d_NoMove_init (T : Tx K mg) : FuncData := T.D.d_NoMove_init
abbrev Tx.a_NoRuns_init (T : Tx K mg) : Addr := T.D.a_NoRuns_init
abbrev Tx.d_NoRuns_init (T : Tx K mg) : FuncData := T.D.d_NoRuns_init
abbrev Tx.a_NoRun_init (T : Tx K mg) : Addr := T.D.a_NoRun_init
abbrev Tx.d_NoRun_init (T : Tx K mg) : FuncData := T.D.d_NoRun_init
abbrev Tx.a_NoLine_init (T : Tx K mg) : Addr := T.D.a_NoLine_init
abbrev Tx.d_NoLine_init (T : Tx K mg) : FuncData := T.D.d_NoLine_init
abbrev Tx.a_NoState_init (T : Tx K mg) : Addr := T.D.a_NoState_init
abbrev Tx.d_NoState_init (T : Tx K mg) : FuncData := T.D.d_NoState_init
abbrev Tx.a_Twice_init (T : Tx K mg) : Addr := T.D.a_Twice_init
abbrev Tx.d_Twice_init (T : Tx K mg) : FuncData := T.D.d_Twice_init
abbrev Tx.a_NotHere_init (T : Tx K mg) : Addr := T.D.a_NotHere_init
abbrev Tx.d_NotHere_init (T : Tx K mg) : FuncData := T.D.d_NotHere_init
abbrev Tx.a_NotIn_init (T : Tx K mg) : Addr := T.D.a_NotIn_init
abbrev Tx.d_NotIn_init (T : Tx K mg) : FuncData := T.D.d_NotIn_init
abbrev Tx.a_NotHeld_init (T : Tx K mg) : Addr := T.D.a_NotHeld_init
abbrev Tx.d_NotHeld_init (T : Tx K mg) : FuncData := T.D.d_NotHeld_init
abbrev Tx.a_NotHelped_init (T : Tx K mg) : Addr := T.D.a_NotHelped_init
abbrev Tx.d_NotHelped_init (T : Tx K mg) : FuncData := T.D.d_NotHelped_init
abbrev Tx.a_Full_init (T : Tx K mg) : Addr := T.D.a_Full_init
abbrev Tx.d_Full_init (T : Tx K mg) : FuncData := T.D.d_Full_init
abbrev Tx.a_Lacks_init (T : Tx K mg) : Addr := T.D.a_Lacks_init
abbrev Tx.d_Lacks_init (T : Tx K mg) : FuncData := T.D.d_Lacks_init
abbrev Tx.a_Shut_init (T : Tx K mg) : Addr := T.D.a_Shut_init
abbrev Tx.d_Shut_init (T : Tx K mg) : FuncData := T.D.d_Shut_init
abbrev Tx.a_Held_init (T : Tx K mg) : Addr := T.D.a_Held_init
abbrev Tx.d_Held_init (T : Tx K mg) : FuncData := T.D.d_Held_init
abbrev Tx.a_NotClear_init (T : Tx K mg) : Addr := T.D.a_NotClear_init
abbrev Tx.d_NotClear_init (T : Tx K mg) : FuncData := T.D.d_NotClear_init
abbrev Tx.a_NoTickets_init (T : Tx K mg) : Addr := T.D.a_NoTickets_init
abbrev Tx.d_NoTickets_init (T : Tx K mg) : FuncData := T.D.d_NoTickets_init
abbrev Tx.a_NoRight_init (T : Tx K mg) : Addr := T.D.a_NoRight_init
abbrev Tx.d_NoRight_init (T : Tx K mg) : FuncData := T.D.d_NoRight_init
abbrev Tx.a_NotShut_init (T : Tx K mg) : Addr := T.D.a_NotShut_init
abbrev Tx.d_NotShut_init (T : Tx K mg) : FuncData := T.D.d_NotShut_init
abbrev Tx.a_Taken_init (T : Tx K mg) : Addr := T.D.a_Taken_init
abbrev Tx.d_Taken_init (T : Tx K mg) : FuncData := T.D.d_Taken_init
abbrev Tx.a_Boxed_init (T : Tx K mg) : Addr := T.D.a_Boxed_init
abbrev Tx.d_Boxed_init (T : Tx K mg) : FuncData := T.D.d_Boxed_init
abbrev Tx.a_Silent_init (T : Tx K mg) : Addr := T.D.a_Silent_init
abbrev Tx.d_Silent_init (T : Tx K mg) : FuncData := T.D.d_Silent_init
abbrev Tx.a_TooMany_init (T : Tx K mg) : Addr := T.D.a_TooMany_init
abbrev Tx.d_TooMany_init (T : Tx K mg) : FuncData := T.D.d_TooMany_init
abbrev Tx.a_NoText_init (T : Tx K mg) : Addr := T.D.a_NoText_init
abbrev Tx.d_NoText_init (T : Tx K mg) : FuncData := T.D.d_NoText_init
abbrev Tx.a_Gap_init (T : Tx K mg) : Addr := T.D.a_Gap_init
abbrev Tx.d_Gap_init (T : Tx K mg) : FuncData := T.D.d_Gap_init
abbrev Tx.a_NotSo_init (T : Tx K mg) : Addr := T.D.a_NotSo_init
abbrev Tx.d_NotSo_init (T : Tx K mg) : FuncData := T.D.d_NotSo_init
abbrev Tx.a_NoTrip_init (T : Tx K mg) : Addr := T.D.a_NoTrip_init
abbrev Tx.d_NoTrip_init (T : Tx K mg) : FuncData := T.D.d_NoTrip_init
abbrev Tx.a_NoStart_init (T : Tx K mg) : Addr := T.D.a_NoStart_init
abbrev Tx.d_NoStart_init (T : Tx K mg) : FuncData := T.D.d_NoStart_init
abbrev Tx.a_NoBack_init (T : Tx K mg) : Addr := T.D.a_NoBack_init
abbrev Tx.d_NoBack_init (T : Tx K mg) : FuncData := T.D.d_NoBack_init
abbrev Tx.a_law_cell (T : Tx K mg) : Addr := T.D.a_law_cell
abbrev Tx.d_law_cell (T : Tx K mg) : FuncData := T.D.d_law_cell
abbrev Tx.a_law_box (T : Tx K mg) : Addr := T.D.a_law_box
abbrev Tx.d_law_box (T : Tx K mg) : FuncData := T.D.d_law_box
abbrev Tx.a_law_take (T : Tx K mg) : Addr := T.D.a_law_take
abbrev Tx.d_law_take (T : Tx K mg) : FuncData := T.D.d_law_take
abbrev Tx.a_law_thing (T : Tx K mg) : Addr := T.D.a_law_thing
abbrev Tx.d_law_thing (T : Tx K mg) : FuncData := T.D.d_law_thing
abbrev Tx.a_law_kinds (T : Tx K mg) : Addr := T.D.a_law_kinds
abbrev Tx.d_law_kinds (T : Tx K mg) : FuncData := T.D.d_law_kinds
abbrev Tx.a_law_made (T : Tx K mg) : Addr := T.D.a_law_made
abbrev Tx.d_law_made (T : Tx K mg) : FuncData := T.D.d_law_made
abbrev Tx.a_law_fields (T : Tx K mg) : Addr := T.D.a_law_fields
abbrev Tx.d_law_fields (T : Tx K mg) : FuncData := T.D.d_law_fields
abbrev Tx.a_law_right (T : Tx K mg) : Addr := T.D.a_law_right
abbrev Tx.d_law_right (T : Tx K mg) : FuncData := T.D.d_law_right
abbrev Tx.a_law (T : Tx K mg) : Addr := T.D.a_law
abbrev Tx.d_law (T : Tx K mg) : FuncData := T.D.d_law
theorem Tx.m_NoName (T : Tx K mg) : mg "NoName" = some (.ref T.C_NoName) := T.q0.m_NoName
theorem Tx.m_NoPlace (T : Tx K mg) : mg "NoPlace" = some (.ref T.C_NoPlace) := T.q0.m_NoPlace
theorem Tx.m_NoTrain (T : Tx K mg) : mg "NoTrain" = some (.ref T.C_NoTrain) := T.q0.m_NoTrain
theorem Tx.m_NoTrains (T : Tx K mg) : mg "NoTrains" = some (.ref T.C_NoTrains) := T.q0.m_NoTrains
theorem Tx.m_NoEnds (T : Tx K mg) : mg "NoEnds" = some (.ref T.C_NoEnds) := T.q0.m_NoEnds
theorem Tx.m_NoStretch (T : Tx K mg) : mg "NoStretch" = some (.ref T.C_NoStretch) := T.q0.m_NoStretch
theorem Tx.m_NoLong (T : Tx K mg) : mg "NoLong" = some (.ref T.C_NoLong) := T.q0.m_NoLong
theorem Tx.m_NoPlaces (T : Tx K mg) : mg "NoPlaces" = some (.ref T.C_NoPlaces) := T.q0.m_NoPlaces
theorem Tx.m_NoStretches (T : Tx K mg) : mg "NoStretches" = some (.ref T.C_NoStretches) := T.q0.m_NoStretches
theorem Tx.m_NoLongs (T : Tx K mg) : mg "NoLongs" = some (.ref T.C_NoLongs) := T.q0.m_NoLongs
theorem Tx.m_NoNumber (T : Tx K mg) : mg "NoNumber" = some (.ref T.C_NoNumber) := T.q0.m_NoNumber
theorem Tx.m_NoThing (T : Tx K mg) : mg "NoThing" = some (.ref T.C_NoThing) := T.q0.m_NoThing
theorem Tx.m_NoKind (T : Tx K mg) : mg "NoKind" = some (.ref T.C_NoKind) := T.q0.m_NoKind
theorem Tx.m_NoWord (T : Tx K mg) : mg "NoWord" = some (.ref T.C_NoWord) := T.q0.m_NoWord
theorem Tx.m_NoDeed (T : Tx K mg) : mg "NoDeed" = some (.ref T.C_NoDeed) := T.q0.m_NoDeed
theorem Tx.m_NoWay (T : Tx K mg) : mg "NoWay" = some (.ref T.C_NoWay) := T.q0.m_NoWay
theorem Tx.m_NoUse (T : Tx K mg) : mg "NoUse" = some (.ref T.C_NoUse) := T.q0.m_NoUse
theorem Tx.m_NoBooks (T : Tx K mg) : mg "NoBooks" = some (.ref T.C_NoBooks) := T.q0.m_NoBooks
theorem Tx.m_NoRows (T : Tx K mg) : mg "NoRows" = some (.ref T.C_NoRows) := T.q0.m_NoRows
theorem Tx.m_NoMove (T : Tx K mg) : mg "NoMove" = some (.ref T.C_NoMove) := T.q0.m_NoMove
theorem Tx.m_NoRuns (T : Tx K mg) : mg "NoRuns" = some (.ref T.C_NoRuns) := T.q0.m_NoRuns
theorem Tx.m_NoRun (T : Tx K mg) : mg "NoRun" = some (.ref T.C_NoRun) := T.q0.m_NoRun
theorem Tx.m_NoLine (T : Tx K mg) : mg "NoLine" = some (.ref T.C_NoLine) := T.q0.m_NoLine
theorem Tx.m_NoState (T : Tx K mg) : mg "NoState" = some (.ref T.C_NoState) := T.q0.m_NoState
theorem Tx.m_Twice (T : Tx K mg) : mg "Twice" = some (.ref T.C_Twice) := T.q1.m_Twice
theorem Tx.m_NotHere (T : Tx K mg) : mg "NotHere" = some (.ref T.C_NotHere) := T.q1.m_NotHere
theorem Tx.m_NotIn (T : Tx K mg) : mg "NotIn" = some (.ref T.C_NotIn) := T.q1.m_NotIn
theorem Tx.m_NotHeld (T : Tx K mg) : mg "NotHeld" = some (.ref T.C_NotHeld) := T.q1.m_NotHeld
theorem Tx.m_NotHelped (T : Tx K mg) : mg "NotHelped" = some (.ref T.C_NotHelped) := T.q1.m_NotHelped
theorem Tx.m_Full (T : Tx K mg) : mg "Full" = some (.ref T.C_Full) := T.q1.m_Full
theorem Tx.m_Lacks (T : Tx K mg) : mg "Lacks" = some (.ref T.C_Lacks) := T.q1.m_Lacks
theorem Tx.m_Shut (T : Tx K mg) : mg "Shut" = some (.ref T.C_Shut) := T.q1.m_Shut
theorem Tx.m_Held (T : Tx K mg) : mg "Held" = some (.ref T.C_Held) := T.q1.m_Held
theorem Tx.m_NotClear (T : Tx K mg) : mg "NotClear" = some (.ref T.C_NotClear) := T.q1.m_NotClear
theorem Tx.m_NoTickets (T : Tx K mg) : mg "NoTickets" = some (.ref T.C_NoTickets) := T.q1.m_NoTickets
theorem Tx.m_NoRight (T : Tx K mg) : mg "NoRight" = some (.ref T.C_NoRight) := T.q1.m_NoRight
theorem Tx.m_NotShut (T : Tx K mg) : mg "NotShut" = some (.ref T.C_NotShut) := T.q1.m_NotShut
theorem Tx.m_Taken (T : Tx K mg) : mg "Taken" = some (.ref T.C_Taken) := T.q1.m_Taken
theorem Tx.m_Boxed (T : Tx K mg) : mg "Boxed" = some (.ref T.C_Boxed) := T.q1.m_Boxed
theorem Tx.m_Silent (T : Tx K mg) : mg "Silent" = some (.ref T.C_Silent) := T.q1.m_Silent
theorem Tx.m_TooMany (T : Tx K mg) : mg "TooMany" = some (.ref T.C_TooMany) := T.q1.m_TooMany
theorem Tx.m_NoText (T : Tx K mg) : mg "NoText" = some (.ref T.C_NoText) := T.q1.m_NoText
theorem Tx.m_Gap (T : Tx K mg) : mg "Gap" = some (.ref T.C_Gap) := T.q1.m_Gap
theorem Tx.m_NotSo (T : Tx K mg) : mg "NotSo" = some (.ref T.C_NotSo) := T.q1.m_NotSo
theorem Tx.m_NoTrip (T : Tx K mg) : mg "NoTrip" = some (.ref T.C_NoTrip) := T.q1.m_NoTrip
theorem Tx.m_NoStart (T : Tx K mg) : mg "NoStart" = some (.ref T.C_NoStart) := T.q1.m_NoStart
theorem Tx.m_NoBack (T : Tx K mg) : mg "NoBack" = some (.ref T.C_NoBack) := T.q1.m_NoBack
theorem Tx.m_StaffError (T : Tx K mg) : mg "StaffError" = some (.ref T.C_StaffError) := T.q1.m_StaffError
theorem Tx.F_NoName_init (T : Tx K mg) : Fun K "__init__" "NoName.__init__" s_NoName_init T.a_NoName_init T.d_NoName_init := T.q2.F_NoName_init
theorem Tx.B_NoName_init (T : Tx K mg) : Binds K T.d_NoName_init ["self", "found"] [] := T.q2.B_NoName_init
theorem Tx.F_NoPlace_init (T : Tx K mg) : Fun K "__init__" "NoPlace.__init__" s_NoPlace_init T.a_NoPlace_init T.d_NoPlace_init := T.q2.F_NoPlace_init
theorem Tx.B_NoPlace_init (T : Tx K mg) : Binds K T.d_NoPlace_init ["self", "found"] [] := T.q2.B_NoPlace_init
theorem Tx.F_NoTrain_init (T : Tx K mg) : Fun K "__init__" "NoTrain.__init__" s_NoTrain_init T.a_NoTrain_init T.d_NoTrain_init := T.q2.F_NoTrain_init
theorem Tx.B_NoTrain_init (T : Tx K mg) : Binds K T.d_NoTrain_init ["self", "found"] [] := T.q2.B_NoTrain_init
theorem Tx.F_NoTrains_init (T : Tx K mg) : Fun K "__init__" "NoTrains.__init__" s_NoTrains_init T.a_NoTrains_init T.d_NoTrains_init := T.q2.F_NoTrains_init
theorem Tx.B_NoTrains_init (T : Tx K mg) : Binds K T.d_NoTrains_init ["self", "found"] [] := T.q2.B_NoTrains_init
theorem Tx.F_NoEnds_init (T : Tx K mg) : Fun K "__init__" "NoEnds.__init__" s_NoEnds_init T.a_NoEnds_init T.d_NoEnds_init := T.q2.F_NoEnds_init
theorem Tx.B_NoEnds_init (T : Tx K mg) : Binds K T.d_NoEnds_init ["self", "found"] [] := T.q2.B_NoEnds_init
theorem Tx.F_NoStretch_init (T : Tx K mg) : Fun K "__init__" "NoStretch.__init__" s_NoStretch_init T.a_NoStretch_init T.d_NoStretch_init := T.q2.F_NoStretch_init
theorem Tx.B_NoStretch_init (T : Tx K mg) : Binds K T.d_NoStretch_init ["self", "found"] [] := T.q2.B_NoStretch_init
theorem Tx.F_NoLong_init (T : Tx K mg) : Fun K "__init__" "NoLong.__init__" s_NoLong_init T.a_NoLong_init T.d_NoLong_init := T.q2.F_NoLong_init
theorem Tx.B_NoLong_init (T : Tx K mg) : Binds K T.d_NoLong_init ["self", "found"] [] := T.q2.B_NoLong_init
theorem Tx.F_NoPlaces_init (T : Tx K mg) : Fun K "__init__" "NoPlaces.__init__" s_NoPlaces_init T.a_NoPlaces_init T.d_NoPlaces_init := T.q2.F_NoPlaces_init
theorem Tx.B_NoPlaces_init (T : Tx K mg) : Binds K T.d_NoPlaces_init ["self", "found"] [] := T.q2.B_NoPlaces_init
theorem Tx.F_NoStretches_init (T : Tx K mg) : Fun K "__init__" "NoStretches.__init__" s_NoStretches_init T.a_NoStretches_init T.d_NoStretches_init := T.q2.F_NoStretches_init
theorem Tx.B_NoStretches_init (T : Tx K mg) : Binds K T.d_NoStretches_init ["self", "found"] [] := T.q2.B_NoStretches_init
theorem Tx.F_NoLongs_init (T : Tx K mg) : Fun K "__init__" "NoLongs.__init__" s_NoLongs_init T.a_NoLongs_init T.d_NoLongs_init := T.q2.F_NoLongs_init
theorem Tx.B_NoLongs_init (T : Tx K mg) : Binds K T.d_NoLongs_init ["self", "found"] [] := T.q2.B_NoLongs_init
theorem Tx.F_NoNumber_init (T : Tx K mg) : Fun K "__init__" "NoNumber.__init__" s_NoNumber_init T.a_NoNumber_init T.d_NoNumber_init := T.q2.F_NoNumber_init
theorem Tx.B_NoNumber_init (T : Tx K mg) : Binds K T.d_NoNumber_init ["self", "found"] [] := T.q2.B_NoNumber_init
theorem Tx.F_NoThing_init (T : Tx K mg) : Fun K "__init__" "NoThing.__init__" s_NoThing_init T.a_NoThing_init T.d_NoThing_init := T.q2.F_NoThing_init
theorem Tx.B_NoThing_init (T : Tx K mg) : Binds K T.d_NoThing_init ["self", "found"] [] := T.q2.B_NoThing_init
theorem Tx.F_NoKind_init (T : Tx K mg) : Fun K "__init__" "NoKind.__init__" s_NoKind_init T.a_NoKind_init T.d_NoKind_init := T.q3.F_NoKind_init
theorem Tx.B_NoKind_init (T : Tx K mg) : Binds K T.d_NoKind_init ["self", "found"] [] := T.q3.B_NoKind_init
theorem Tx.F_NoWord_init (T : Tx K mg) : Fun K "__init__" "NoWord.__init__" s_NoWord_init T.a_NoWord_init T.d_NoWord_init := T.q3.F_NoWord_init
theorem Tx.B_NoWord_init (T : Tx K mg) : Binds K T.d_NoWord_init ["self", "found"] [] := T.q3.B_NoWord_init
theorem Tx.F_NoDeed_init (T : Tx K mg) : Fun K "__init__" "NoDeed.__init__" s_NoDeed_init T.a_NoDeed_init T.d_NoDeed_init := T.q3.F_NoDeed_init
theorem Tx.B_NoDeed_init (T : Tx K mg) : Binds K T.d_NoDeed_init ["self", "found"] [] := T.q3.B_NoDeed_init
theorem Tx.F_NoWay_init (T : Tx K mg) : Fun K "__init__" "NoWay.__init__" s_NoWay_init T.a_NoWay_init T.d_NoWay_init := T.q3.F_NoWay_init
theorem Tx.B_NoWay_init (T : Tx K mg) : Binds K T.d_NoWay_init ["self", "found"] [] := T.q3.B_NoWay_init
theorem Tx.F_NoUse_init (T : Tx K mg) : Fun K "__init__" "NoUse.__init__" s_NoUse_init T.a_NoUse_init T.d_NoUse_init := T.q3.F_NoUse_init
theorem Tx.B_NoUse_init (T : Tx K mg) : Binds K T.d_NoUse_init ["self", "found"] [] := T.q3.B_NoUse_init
theorem Tx.F_NoBooks_init (T : Tx K mg) : Fun K "__init__" "NoBooks.__init__" s_NoBooks_init T.a_NoBooks_init T.d_NoBooks_init := T.q3.F_NoBooks_init
theorem Tx.B_NoBooks_init (T : Tx K mg) : Binds K T.d_NoBooks_init ["self", "found"] [] := T.q3.B_NoBooks_init
theorem Tx.F_NoRows_init (T : Tx K mg) : Fun K "__init__" "NoRows.__init__" s_NoRows_init T.a_NoRows_init T.d_NoRows_init := T.q3.F_NoRows_init
theorem Tx.B_NoRows_init (T : Tx K mg) : Binds K T.d_NoRows_init ["self", "found"] [] := T.q3.B_NoRows_init
theorem Tx.F_NoMove_init (T : Tx K mg) : Fun K "__init__" "NoMove.__init__" s_NoMove_init T.a_NoMove_init T.d_NoMove_init := T.q3.F_NoMove_init
theorem Tx.B_NoMove_init (T : Tx K mg) : Binds K T.d_NoMove_init ["self", "found"] [] := T.q3.B_NoMove_init
theorem Tx.F_NoRuns_init (T : Tx K mg) : Fun K "__init__" "NoRuns.__init__" s_NoRuns_init T.a_NoRuns_init T.d_NoRuns_init := T.q3.F_NoRuns_init
theorem Tx.B_NoRuns_init (T : Tx K mg) : Binds K T.d_NoRuns_init ["self", "found"] [] := T.q3.B_NoRuns_init
theorem Tx.F_NoRun_init (T : Tx K mg) : Fun K "__init__" "NoRun.__init__" s_NoRun_init T.a_NoRun_init T.d_NoRun_init := T.q3.F_NoRun_init
theorem Tx.B_NoRun_init (T : Tx K mg) : Binds K T.d_NoRun_init ["self", "found"] [] := T.q3.B_NoRun_init
theorem Tx.F_NoLine_init (T : Tx K mg) : Fun K "__init__" "NoLine.__init__" s_NoLine_init T.a_NoLine_init T.d_NoLine_init := T.q3.F_NoLine_init
theorem Tx.B_NoLine_init (T : Tx K mg) : Binds K T.d_NoLine_init ["self", "found"] [] := T.q3.B_NoLine_init
theorem Tx.F_NoState_init (T : Tx K mg) : Fun K "__init__" "NoState.__init__" s_NoState_init T.a_NoState_init T.d_NoState_init := T.q3.F_NoState_init
theorem Tx.B_NoState_init (T : Tx K mg) : Binds K T.d_NoState_init ["self", "found"] [] := T.q3.B_NoState_init
theorem Tx.F_Twice_init (T : Tx K mg) : Fun K "__init__" "Twice.__init__" s_Twice_init T.a_Twice_init T.d_Twice_init := T.q4.F_Twice_init
theorem Tx.B_Twice_init (T : Tx K mg) : Binds K T.d_Twice_init ["self", "found"] [] := T.q4.B_Twice_init
theorem Tx.F_NotHere_init (T : Tx K mg) : Fun K "__init__" "NotHere.__init__" s_NotHere_init T.a_NotHere_init T.d_NotHere_init := T.q4.F_NotHere_init
theorem Tx.B_NotHere_init (T : Tx K mg) : Binds K T.d_NotHere_init ["self", "found"] [] := T.q4.B_NotHere_init
theorem Tx.F_NotIn_init (T : Tx K mg) : Fun K "__init__" "NotIn.__init__" s_NotIn_init T.a_NotIn_init T.d_NotIn_init := T.q4.F_NotIn_init
theorem Tx.B_NotIn_init (T : Tx K mg) : Binds K T.d_NotIn_init ["self", "found"] [] := T.q4.B_NotIn_init
theorem Tx.F_NotHeld_init (T : Tx K mg) : Fun K "__init__" "NotHeld.__init__" s_NotHeld_init T.a_NotHeld_init T.d_NotHeld_init := T.q4.F_NotHeld_init
theorem Tx.B_NotHeld_init (T : Tx K mg) : Binds K T.d_NotHeld_init ["self", "found"] [] := T.q4.B_NotHeld_init
theorem Tx.F_NotHelped_init (T : Tx K mg) : Fun K "__init__" "NotHelped.__init__" s_NotHelped_init T.a_NotHelped_init T.d_NotHelped_init := T.q4.F_NotHelped_init
theorem Tx.B_NotHelped_init (T : Tx K mg) : Binds K T.d_NotHelped_init ["self", "found"] [] := T.q4.B_NotHelped_init
theorem Tx.F_Full_init (T : Tx K mg) : Fun K "__init__" "Full.__init__" s_Full_init T.a_Full_init T.d_Full_init := T.q4.F_Full_init
theorem Tx.B_Full_init (T : Tx K mg) : Binds K T.d_Full_init ["self", "found"] [] := T.q4.B_Full_init
theorem Tx.F_Lacks_init (T : Tx K mg) : Fun K "__init__" "Lacks.__init__" s_Lacks_init T.a_Lacks_init T.d_Lacks_init := T.q4.F_Lacks_init
theorem Tx.B_Lacks_init (T : Tx K mg) : Binds K T.d_Lacks_init ["self", "found"] [] := T.q4.B_Lacks_init
theorem Tx.F_Shut_init (T : Tx K mg) : Fun K "__init__" "Shut.__init__" s_Shut_init T.a_Shut_init T.d_Shut_init := T.q4.F_Shut_init
theorem Tx.B_Shut_init (T : Tx K mg) : Binds K T.d_Shut_init ["self", "found"] [] := T.q4.B_Shut_init
theorem Tx.F_Held_init (T : Tx K mg) : Fun K "__init__" "Held.__init__" s_Held_init T.a_Held_init T.d_Held_init := T.q4.F_Held_init
theorem Tx.B_Held_init (T : Tx K mg) : Binds K T.d_Held_init ["self", "found"] [] := T.q4.B_Held_init
theorem Tx.F_NotClear_init (T : Tx K mg) : Fun K "__init__" "NotClear.__init__" s_NotClear_init T.a_NotClear_init T.d_NotClear_init := T.q4.F_NotClear_init
theorem Tx.B_NotClear_init (T : Tx K mg) : Binds K T.d_NotClear_init ["self", "found"] [] := T.q4.B_NotClear_init
theorem Tx.F_NoTickets_init (T : Tx K mg) : Fun K "__init__" "NoTickets.__init__" s_NoTickets_init T.a_NoTickets_init T.d_NoTickets_init := T.q4.F_NoTickets_init
theorem Tx.B_NoTickets_init (T : Tx K mg) : Binds K T.d_NoTickets_init ["self", "found"] [] := T.q4.B_NoTickets_init
theorem Tx.F_NoRight_init (T : Tx K mg) : Fun K "__init__" "NoRight.__init__" s_NoRight_init T.a_NoRight_init T.d_NoRight_init := T.q4.F_NoRight_init
theorem Tx.B_NoRight_init (T : Tx K mg) : Binds K T.d_NoRight_init ["self", "found"] [] := T.q4.B_NoRight_init
theorem Tx.F_NotShut_init (T : Tx K mg) : Fun K "__init__" "NotShut.__init__" s_NotShut_init T.a_NotShut_init T.d_NotShut_init := T.q5.F_NotShut_init
theorem Tx.B_NotShut_init (T : Tx K mg) : Binds K T.d_NotShut_init ["self", "found"] [] := T.q5.B_NotShut_init
theorem Tx.F_Taken_init (T : Tx K mg) : Fun K "__init__" "Taken.__init__" s_Taken_init T.a_Taken_init T.d_Taken_init := T.q5.F_Taken_init
theorem Tx.B_Taken_init (T : Tx K mg) : Binds K T.d_Taken_init ["self", "found"] [] := T.q5.B_Taken_init
theorem Tx.F_Boxed_init (T : Tx K mg) : Fun K "__init__" "Boxed.__init__" s_Boxed_init T.a_Boxed_init T.d_Boxed_init := T.q5.F_Boxed_init
theorem Tx.B_Boxed_init (T : Tx K mg) : Binds K T.d_Boxed_init ["self", "found"] [] := T.q5.B_Boxed_init
theorem Tx.F_Silent_init (T : Tx K mg) : Fun K "__init__" "Silent.__init__" s_Silent_init T.a_Silent_init T.d_Silent_init := T.q5.F_Silent_init
theorem Tx.B_Silent_init (T : Tx K mg) : Binds K T.d_Silent_init ["self", "found"] [] := T.q5.B_Silent_init
theorem Tx.F_TooMany_init (T : Tx K mg) : Fun K "__init__" "TooMany.__init__" s_TooMany_init T.a_TooMany_init T.d_TooMany_init := T.q5.F_TooMany_init
theorem Tx.B_TooMany_init (T : Tx K mg) : Binds K T.d_TooMany_init ["self", "many"] [] := T.q5.B_TooMany_init
theorem Tx.F_NoText_init (T : Tx K mg) : Fun K "__init__" "NoText.__init__" s_NoText_init T.a_NoText_init T.d_NoText_init := T.q5.F_NoText_init
theorem Tx.B_NoText_init (T : Tx K mg) : Binds K T.d_NoText_init ["self", "row"] [] := T.q5.B_NoText_init
theorem Tx.F_Gap_init (T : Tx K mg) : Fun K "__init__" "Gap.__init__" s_Gap_init T.a_Gap_init T.d_Gap_init := T.q5.F_Gap_init
theorem Tx.B_Gap_init (T : Tx K mg) : Binds K T.d_Gap_init ["self", "number"] [] := T.q5.B_Gap_init
theorem Tx.F_NotSo_init (T : Tx K mg) : Fun K "__init__" "NotSo.__init__" s_NotSo_init T.a_NotSo_init T.d_NotSo_init := T.q5.F_NotSo_init
theorem Tx.B_NotSo_init (T : Tx K mg) : Binds K T.d_NotSo_init ["self", "number"] [] := T.q5.B_NotSo_init
theorem Tx.F_NoTrip_init (T : Tx K mg) : Fun K "__init__" "NoTrip.__init__" s_NoTrip_init T.a_NoTrip_init T.d_NoTrip_init := T.q5.F_NoTrip_init
theorem Tx.B_NoTrip_init (T : Tx K mg) : Binds K T.d_NoTrip_init ["self", "run"] [] := T.q5.B_NoTrip_init
theorem Tx.F_NoStart_init (T : Tx K mg) : Fun K "__init__" "NoStart.__init__" s_NoStart_init T.a_NoStart_init T.d_NoStart_init := T.q5.F_NoStart_init
theorem Tx.B_NoStart_init (T : Tx K mg) : Binds K T.d_NoStart_init ["self"] [] := T.q5.B_NoStart_init
theorem Tx.F_NoBack_init (T : Tx K mg) : Fun K "__init__" "NoBack.__init__" s_NoBack_init T.a_NoBack_init T.d_NoBack_init := T.q5.F_NoBack_init
theorem Tx.B_NoBack_init (T : Tx K mg) : Binds K T.d_NoBack_init ["self"] [] := T.q5.B_NoBack_init
theorem Tx.F_law_cell (T : Tx K mg) : Fun K "_law_cell" "_law_cell" s_law_cell T.a_law_cell T.d_law_cell := T.q5.F_law_cell
theorem Tx.B_law_cell (T : Tx K mg) : Binds K T.d_law_cell ["_law_script", "_law_k"] [] := T.q5.B_law_cell
theorem Tx.m_law_cell (T : Tx K mg) : mg "_law_cell" = some (.ref T.a_law_cell) := T.q6.m_law_cell
theorem Tx.F_law_box (T : Tx K mg) : Fun K "_law_box" "_law_box" s_law_box T.a_law_box T.d_law_box := T.q6.F_law_box
theorem Tx.B_law_box (T : Tx K mg) : Binds K T.d_law_box ["_law_cell_here"] [] := T.q6.B_law_box
theorem Tx.m_law_box (T : Tx K mg) : mg "_law_box" = some (.ref T.a_law_box) := T.q6.m_law_box
theorem Tx.F_law_take (T : Tx K mg) : Fun K "_law_take" "_law_take" s_law_take T.a_law_take T.d_law_take := T.q6.F_law_take
theorem Tx.B_law_take (T : Tx K mg) : Binds K T.d_law_take ["_law_box_here", "_law_many"] [] := T.q6.B_law_take
theorem Tx.m_law_take (T : Tx K mg) : mg "_law_take" = some (.ref T.a_law_take) := T.q6.m_law_take
theorem Tx.F_law_thing (T : Tx K mg) : Fun K "_law_thing" "_law_thing" s_law_thing T.a_law_thing T.d_law_thing := T.q6.F_law_thing
theorem Tx.B_law_thing (T : Tx K mg) : Binds K T.d_law_thing ["_law_box_here"] [] := T.q6.B_law_thing
theorem Tx.m_law_thing (T : Tx K mg) : mg "_law_thing" = some (.ref T.a_law_thing) := T.q6.m_law_thing
theorem Tx.F_law_kinds (T : Tx K mg) : Fun K "_law_kinds" "_law_kinds" s_law_kinds T.a_law_kinds T.d_law_kinds := T.q6.F_law_kinds
theorem Tx.B_law_kinds (T : Tx K mg) : Binds K T.d_law_kinds ["_law_error"] [] := T.q6.B_law_kinds
theorem Tx.m_law_kinds (T : Tx K mg) : mg "_law_kinds" = some (.ref T.a_law_kinds) := T.q6.m_law_kinds
theorem Tx.F_law_made (T : Tx K mg) : Fun K "_law_made" "_law_made" s_law_made T.a_law_made T.d_law_made := T.q6.F_law_made
theorem Tx.B_law_made (T : Tx K mg) : Binds K T.d_law_made ["_law_one", "_law_other"] [] := T.q6.B_law_made
theorem Tx.m_law_made (T : Tx K mg) : mg "_law_made" = some (.ref T.a_law_made) := T.q6.m_law_made
theorem Tx.F_law_fields (T : Tx K mg) : Fun K "_law_fields" "_law_fields" s_law_fields T.a_law_fields T.d_law_fields := T.q6.F_law_fields
theorem Tx.B_law_fields (T : Tx K mg) : Binds K T.d_law_fields ["_law_made_here"] [] := T.q6.B_law_fields
theorem Tx.m_law_fields (T : Tx K mg) : mg "_law_fields" = some (.ref T.a_law_fields) := T.q6.m_law_fields
theorem Tx.F_law_right (T : Tx K mg) : Fun K "_law_right" "_law_right" s_law_right T.a_law_right T.d_law_right := T.q6.F_law_right
theorem Tx.B_law_right (T : Tx K mg) : Binds K T.d_law_right ["_law_box_here"] [] := T.q6.B_law_right
theorem Tx.m_law_right (T : Tx K mg) : mg "_law_right" = some (.ref T.a_law_right) := T.q6.m_law_right
theorem Tx.F_law (T : Tx K mg) : Fun K "law" "law" s_law T.a_law T.d_law := T.q6.F_law
theorem Tx.B_law (T : Tx K mg) : Binds K T.d_law ["_law_script"] [] := T.q6.B_law
theorem Tx.m_law (T : Tx K mg) : mg "law" = some (.ref T.a_law) := T.q7.m_law
theorem Tx.er_NoName (T : Tx K mg) : ErrC K T.C_NoName T.a_NoName_init "found" := T.q7.er_NoName
theorem Tx.er_NoPlace (T : Tx K mg) : ErrC K T.C_NoPlace T.a_NoPlace_init "found" := T.q7.er_NoPlace
theorem Tx.er_NoTrain (T : Tx K mg) : ErrC K T.C_NoTrain T.a_NoTrain_init "found" := T.q7.er_NoTrain
theorem Tx.er_NoTrains (T : Tx K mg) : ErrC K T.C_NoTrains T.a_NoTrains_init "found" := T.q7.er_NoTrains
theorem Tx.er_NoEnds (T : Tx K mg) : ErrC K T.C_NoEnds T.a_NoEnds_init "found" := T.q7.er_NoEnds
theorem Tx.er_NoStretch (T : Tx K mg) : ErrC K T.C_NoStretch T.a_NoStretch_init "found" := T.q7.er_NoStretch
theorem Tx.er_NoLong (T : Tx K mg) : ErrC K T.C_NoLong T.a_NoLong_init "found" := T.q7.er_NoLong
theorem Tx.er_NoPlaces (T : Tx K mg) : ErrC K T.C_NoPlaces T.a_NoPlaces_init "found" := T.q7.er_NoPlaces
theorem Tx.er_NoStretches (T : Tx K mg) : ErrC K T.C_NoStretches T.a_NoStretches_init "found" := T.q7.er_NoStretches
theorem Tx.er_NoLongs (T : Tx K mg) : ErrC K T.C_NoLongs T.a_NoLongs_init "found" := T.q7.er_NoLongs
theorem Tx.er_NoNumber (T : Tx K mg) : ErrC K T.C_NoNumber T.a_NoNumber_init "found" := T.q7.er_NoNumber
theorem Tx.er_NoThing (T : Tx K mg) : ErrC K T.C_NoThing T.a_NoThing_init "found" := T.q7.er_NoThing
theorem Tx.er_NoKind (T : Tx K mg) : ErrC K T.C_NoKind T.a_NoKind_init "found" := T.q7.er_NoKind
theorem Tx.er_NoWord (T : Tx K mg) : ErrC K T.C_NoWord T.a_NoWord_init "found" := T.q7.er_NoWord
theorem Tx.er_NoDeed (T : Tx K mg) : ErrC K T.C_NoDeed T.a_NoDeed_init "found" := T.q7.er_NoDeed
theorem Tx.er_NoWay (T : Tx K mg) : ErrC K T.C_NoWay T.a_NoWay_init "found" := T.q7.er_NoWay
theorem Tx.er_NoUse (T : Tx K mg) : ErrC K T.C_NoUse T.a_NoUse_init "found" := T.q7.er_NoUse
theorem Tx.er_NoBooks (T : Tx K mg) : ErrC K T.C_NoBooks T.a_NoBooks_init "found" := T.q7.er_NoBooks
theorem Tx.er_NoRows (T : Tx K mg) : ErrC K T.C_NoRows T.a_NoRows_init "found" := T.q7.er_NoRows
theorem Tx.er_NoMove (T : Tx K mg) : ErrC K T.C_NoMove T.a_NoMove_init "found" := T.q7.er_NoMove
theorem Tx.er_NoRuns (T : Tx K mg) : ErrC K T.C_NoRuns T.a_NoRuns_init "found" := T.q7.er_NoRuns
theorem Tx.er_NoRun (T : Tx K mg) : ErrC K T.C_NoRun T.a_NoRun_init "found" := T.q7.er_NoRun
theorem Tx.er_NoLine (T : Tx K mg) : ErrC K T.C_NoLine T.a_NoLine_init "found" := T.q7.er_NoLine
theorem Tx.er_NoState (T : Tx K mg) : ErrC K T.C_NoState T.a_NoState_init "found" := T.q8.er_NoState
theorem Tx.er_Twice (T : Tx K mg) : ErrC K T.C_Twice T.a_Twice_init "found" := T.q8.er_Twice
theorem Tx.er_NotHere (T : Tx K mg) : ErrC K T.C_NotHere T.a_NotHere_init "found" := T.q8.er_NotHere
theorem Tx.er_NotIn (T : Tx K mg) : ErrC K T.C_NotIn T.a_NotIn_init "found" := T.q8.er_NotIn
theorem Tx.er_NotHeld (T : Tx K mg) : ErrC K T.C_NotHeld T.a_NotHeld_init "found" := T.q8.er_NotHeld
theorem Tx.er_NotHelped (T : Tx K mg) : ErrC K T.C_NotHelped T.a_NotHelped_init "found" := T.q8.er_NotHelped
theorem Tx.er_Full (T : Tx K mg) : ErrC K T.C_Full T.a_Full_init "found" := T.q8.er_Full
theorem Tx.er_Lacks (T : Tx K mg) : ErrC K T.C_Lacks T.a_Lacks_init "found" := T.q8.er_Lacks
theorem Tx.er_Shut (T : Tx K mg) : ErrC K T.C_Shut T.a_Shut_init "found" := T.q8.er_Shut
theorem Tx.er_Held (T : Tx K mg) : ErrC K T.C_Held T.a_Held_init "found" := T.q8.er_Held
theorem Tx.er_NotClear (T : Tx K mg) : ErrC K T.C_NotClear T.a_NotClear_init "found" := T.q8.er_NotClear
theorem Tx.er_NoTickets (T : Tx K mg) : ErrC K T.C_NoTickets T.a_NoTickets_init "found" := T.q8.er_NoTickets
theorem Tx.er_NoRight (T : Tx K mg) : ErrC K T.C_NoRight T.a_NoRight_init "found" := T.q8.er_NoRight
theorem Tx.er_NotShut (T : Tx K mg) : ErrC K T.C_NotShut T.a_NotShut_init "found" := T.q8.er_NotShut
theorem Tx.er_Taken (T : Tx K mg) : ErrC K T.C_Taken T.a_Taken_init "found" := T.q8.er_Taken
theorem Tx.er_Boxed (T : Tx K mg) : ErrC K T.C_Boxed T.a_Boxed_init "found" := T.q8.er_Boxed
theorem Tx.er_Silent (T : Tx K mg) : ErrC K T.C_Silent T.a_Silent_init "found" := T.q8.er_Silent
theorem Tx.er_TooMany (T : Tx K mg) : ErrC K T.C_TooMany T.a_TooMany_init "many" := T.q8.er_TooMany
theorem Tx.er_NoText (T : Tx K mg) : ErrC K T.C_NoText T.a_NoText_init "row" := T.q8.er_NoText
theorem Tx.er_Gap (T : Tx K mg) : ErrC K T.C_Gap T.a_Gap_init "number" := T.q8.er_Gap
theorem Tx.er_NotSo (T : Tx K mg) : ErrC K T.C_NotSo T.a_NotSo_init "number" := T.q8.er_NotSo
theorem Tx.er_NoTrip (T : Tx K mg) : ErrC K T.C_NoTrip T.a_NoTrip_init "run" := T.q8.er_NoTrip
theorem Tx.er_NoStart (T : Tx K mg) : ErrC K T.C_NoStart T.a_NoStart_init "found" := T.q8.er_NoStart
theorem Tx.er_NoBack (T : Tx K mg) : ErrC K T.C_NoBack T.a_NoBack_init "found" := T.q8.er_NoBack
theorem Tx.rd_StaffError (T : Tx K mg) : RdC K T.C_StaffError := T.q9.rd_StaffError
theorem Tx.vi_StaffError (T : Tx K mg) : PySem.W.findCls K (.ref T.C_StaffError) (.type "type") "__init__" = some (.val (.builtin "ValueError.__init__")) := T.q9.vi_StaffError
theorem Tx.oc_get (T : Tx K mg) : PySem.W.specialIn K (.builtin "object.__class__") "__get__" = some (some (.builtin "getset_descriptor.__get__")) := T.q9.oc_get
theorem Tx.oc_take (T : Tx K mg) : PySem.W.takesIn K (.builtin "object.__class__") = some true := T.q9.oc_take
theorem Tx.xs_StaffError (T : Tx K mg) : PySem.W.excIn K T.C_StaffError [.type "ValueError", .type "Exception", .type "BaseException", .type "object"] "ValueError.__new__" = true := T.q9.xs_StaffError
theorem Tx.kc_StaffError (T : Tx K mg) : PySem.W.keepIn K (.ref T.C_StaffError) = true := T.q9.kc_StaffError
theorem Tx.ec_StaffError (T : Tx K mg) : ExcC K T.C_StaffError := T.q9.ec_StaffError
theorem Tx.tab (T : Tx K mg) : Tab K T.C_StaffError [T.C_NoName, T.C_NoPlace, T.C_NoTrain, T.C_NoTrains, T.C_NoEnds, T.C_NoStretch, T.C_NoLong, T.C_NoPlaces, T.C_NoStretches, T.C_NoLongs, T.C_NoNumber, T.C_NoThing, T.C_NoKind, T.C_NoWord, T.C_NoDeed, T.C_NoWay, T.C_NoUse, T.C_NoBooks, T.C_NoRows, T.C_NoMove, T.C_NoRuns, T.C_NoRun, T.C_NoLine, T.C_NoState, T.C_Twice, T.C_NotHere, T.C_NotIn, T.C_NotHeld, T.C_NotHelped, T.C_Full, T.C_Lacks, T.C_Shut, T.C_Held, T.C_NotClear, T.C_NoTickets, T.C_NoRight, T.C_NotShut, T.C_Taken, T.C_Boxed, T.C_Silent, T.C_TooMany, T.C_NoText, T.C_Gap, T.C_NotSo, T.C_NoTrip, T.C_NoStart, T.C_NoBack] := T.q9.tab
theorem Tx.z_ValueError (T : Tx K mg) : mg "ValueError" = none := T.q9.z_ValueError
theorem Tx.z_dict (T : Tx K mg) : mg "dict" = none := T.q9.z_dict
theorem Tx.z_enumerate (T : Tx K mg) : mg "enumerate" = none := T.q9.z_enumerate
theorem Tx.z_isinstance (T : Tx K mg) : mg "isinstance" = none := T.q9.z_isinstance
theorem Tx.z_len (T : Tx K mg) : mg "len" = none := T.q9.z_len
theorem Tx.z_list (T : Tx K mg) : mg "list" = none := T.q9.z_list
theorem Tx.z_max (T : Tx K mg) : mg "max" = none := T.q9.z_max
theorem Tx.z_min (T : Tx K mg) : mg "min" = none := T.q9.z_min
theorem Tx.z_range (T : Tx K mg) : mg "range" = none := T.q9.z_range
theorem Tx.z_repr (T : Tx K mg) : mg "repr" = none := T.q9.z_repr
end
variable {P : Program} {w : World} {K : PySem.W.Frag} {mg : Str → Option Value} {base : Heap}
local macro_rules | `(tactic| walk_at "u2") => `(tactic| fail)
theorem ok_NoName_init (T : Tx K mg) : FnOk P w K mg base (L2.CX P w) 1 T.a_NoName_init T.d_NoName_init ["self", "found"] (spE T.C_NoName "found") := by
  refine T.F_NoName_init.okX sc_NoName_init (fun vs H Q E h => ?_) (fun cd A o s H vs Q E hr h => ?_)
  · obtain ⟨v0, v1, rfl, h⟩ := h; rfl
  obtain ⟨v0, v1, rfl, a, rfl, ha, k⟩ := h
  refine ⟨_, (pss_cons (ps_expr (pe_se (K := K) rfl rfl T.m_StaffError T.rd_StaffError T.vi_StaffError (pa_cons (pv 0) (pa_cons pe_str pa_nil))))
    (pss_one (ps_os (K := K) rfl (pv 0) (pv 1)))), ?_⟩
  walk_at "u"
  refine s_sek T.er_NoName.oex ha ?_
  walk_at "u"
  exact ⟨a, T.C_NoName, rfl, T.er_NoName.oex, T.er_NoName.no, ha, k⟩
theorem ok_NoPlace_init (T : Tx K mg) : FnOk P w K mg base (L2.CX P w) 1 T.a_NoPlace_init T.d_NoPlace_init ["self", "found"] (spE T.C_NoPlace "found") := by
  refine T.F_NoPlace_init.okX sc_NoPlace_init (fun vs H Q E h => ?_) (fun cd A o s H vs Q E hr h => ?_)
  · obtain ⟨v0, v1, rfl, h⟩ := h; rfl
  obtain ⟨v0, v1, rfl, a, rfl, ha, k⟩ := h
  refine ⟨_, (pss_cons (ps_expr (pe_se (K := K) rfl rfl T.m_StaffError T.rd_StaffError T.vi_StaffError (pa_cons (pv 0) (pa_cons pe_str pa_nil))))
    (pss_one (ps_os (K := K) rfl (pv 0) (pv 1)))), ?_⟩
  walk_at "u"
  refine s_sek T.er_NoPlace.oex ha ?_
  walk_at "u"
  exact ⟨a, T.C_NoPlace, rfl, T.er_NoPlace.oex, T.er_NoPlace.no, ha, k⟩
theorem ok_NoTrain_init (T : Tx K mg) : FnOk P w K mg base (L2.CX P w) 1 T.a_NoTrain_init T.d_NoTrain_init ["self", "found"] (spE T.C_NoTrain "found") := by
  refine T.F_NoTrain_init.okX sc_NoTrain_init (fun vs H Q E h => ?_) (fun cd A o s H vs Q E hr h => ?_)
  · obtain ⟨v0, v1, rfl, h⟩ := h; rfl
  obtain ⟨v0, v1, rfl, a, rfl, ha, k⟩ := h
  refine ⟨_, (pss_cons (ps_expr (pe_se (K := K) rfl rfl T.m_StaffError T.rd_StaffError T.vi_StaffError (pa_cons (pv 0) (pa_cons pe_str pa_nil))))
    (pss_one (ps_os (K := K) rfl (pv 0) (pv 1)))), ?_⟩
  walk_at "u"
  refine s_sek T.er_NoTrain.oex ha ?_
  walk_at "u"
  exact ⟨a, T.C_NoTrain, rfl, T.er_NoTrain.oex, T.er_NoTrain.no, ha, k⟩
theorem ok_NoTrains_init (T : Tx K mg) : FnOk P w K mg base (L2.CX P w) 1 T.a_NoTrains_init T.d_NoTrains_init ["self", "found"] (spE T.C_NoTrains "found") := by
  refine T.F_NoTrains_init.okX sc_NoTrains_init (fun vs H Q E h => ?_) (fun cd A o s H vs Q E hr h => ?_)
  · obtain ⟨v0, v1, rfl, h⟩ := h; rfl
  obtain ⟨v0, v1, rfl, a, rfl, ha, k⟩ := h
  refine ⟨_, (pss_cons (ps_expr (pe_se (K := K) rfl rfl T.m_StaffError T.rd_StaffError T.vi_StaffError (pa_cons (pv 0) (pa_cons pe_str pa_nil))))
    (pss_one (ps_os (K := K) rfl (pv 0) (pv 1)))), ?_⟩
  walk_at "u"
  refine s_sek T.er_NoTrains.oex ha ?_
  walk_at "u"
  exact ⟨a, T.C_NoTrains, rfl, T.er_NoTrains.oex, T.er_NoTrains.no, ha, k⟩
theorem ok_NoEnds_init (T : Tx K mg) : FnOk P w K mg base (L2.CX P w) 1 T.a_NoEnds_init T.d_NoEnds_init ["self", "found"] (spE T.C_NoEnds "found") := by
  refine T.F_NoEnds_init.okX sc_NoEnds_init (fun vs H Q E h => ?_) (fun cd A o s H vs Q E hr h => ?_)
  · obtain ⟨v0, v1, rfl, h⟩ := h; rfl
  obtain ⟨v0, v1, rfl, a, rfl, ha, k⟩ := h
  refine ⟨_, (pss_cons (ps_expr (pe_se (K := K) rfl rfl T.m_StaffError T.rd_StaffError T.vi_StaffError (pa_cons (pv 0) (pa_cons pe_str pa_nil))))
    (pss_one (ps_os (K := K) rfl (pv 0) (pv 1)))), ?_⟩
  walk_at "u"
  refine s_sek T.er_NoEnds.oex ha ?_
  walk_at "u"
  exact ⟨a, T.C_NoEnds, rfl, T.er_NoEnds.oex, T.er_NoEnds.no, ha, k⟩
theorem ok_NoStretch_init (T : Tx K mg) : FnOk P w K mg base (L2.CX P w) 1 T.a_NoStretch_init T.d_NoStretch_init ["self", "found"] (spE T.C_NoStretch "found") := by
  refine T.F_NoStretch_init.okX sc_NoStretch_init (fun vs H Q E h => ?_) (fun cd A o s H vs Q E hr h => ?_)
  · obtain ⟨v0, v1, rfl, h⟩ := h; rfl
  obtain ⟨v0, v1, rfl, a, rfl, ha, k⟩ := h
  refine ⟨_, (pss_cons (ps_expr (pe_se (K := K) rfl rfl T.m_StaffError T.rd_StaffError T.vi_StaffError (pa_cons (pv 0) (pa_cons pe_str pa_nil))))
    (pss_one (ps_os (K := K) rfl (pv 0) (pv 1)))), ?_⟩
  walk_at "u"
  refine s_sek T.er_NoStretch.oex ha ?_
  walk_at "u"
  exact ⟨a, T.C_NoStretch, rfl, T.er_NoStretch.oex, T.er_NoStretch.no, ha, k⟩
theorem ok_NoLong_init (T : Tx K mg) : FnOk P w K mg base (L2.CX P w) 1 T.a_NoLong_init T.d_NoLong_init ["self", "found"] (spE T.C_NoLong "found") := by
  refine T.F_NoLong_init.okX sc_NoLong_init (fun vs H Q E h => ?_) (fun cd A o s H vs Q E hr h => ?_)
  · obtain ⟨v0, v1, rfl, h⟩ := h; rfl
  obtain ⟨v0, v1, rfl, a, rfl, ha, k⟩ := h
  refine ⟨_, (pss_cons (ps_expr (pe_se (K := K) rfl rfl T.m_StaffError T.rd_StaffError T.vi_StaffError (pa_cons (pv 0) (pa_cons pe_str pa_nil))))
    (pss_one (ps_os (K := K) rfl (pv 0) (pv 1)))), ?_⟩
  walk_at "u"
  refine s_sek T.er_NoLong.oex ha ?_
  walk_at "u"
  exact ⟨a, T.C_NoLong, rfl, T.er_NoLong.oex, T.er_NoLong.no, ha, k⟩
theorem ok_NoPlaces_init (T : Tx K mg) : FnOk P w K mg base (L2.CX P w) 1 T.a_NoPlaces_init T.d_NoPlaces_init ["self", "found"] (spE T.C_NoPlaces "found") := by
  refine T.F_NoPlaces_init.okX sc_NoPlaces_init (fun vs H Q E h => ?_) (fun cd A o s H vs Q E hr h => ?_)
  · obtain ⟨v0, v1, rfl, h⟩ := h; rfl
  obtain ⟨v0, v1, rfl, a, rfl, ha, k⟩ := h
  refine ⟨_, (pss_cons (ps_expr (pe_se (K := K) rfl rfl T.m_StaffError T.rd_StaffError T.vi_StaffError (pa_cons (pv 0) (pa_cons pe_str pa_nil))))
    (pss_one (ps_os (K := K) rfl (pv 0) (pv 1)))), ?_⟩
  walk_at "u"
  refine s_sek T.er_NoPlaces.oex ha ?_
  walk_at "u"
  exact ⟨a, T.C_NoPlaces, rfl, T.er_NoPlaces.oex, T.er_NoPlaces.no, ha, k⟩
theorem ok_NoStretches_init (T : Tx K mg) : FnOk P w K mg base (L2.CX P w) 1 T.a_NoStretches_init T.d_NoStretches_init ["self", "found"] (spE T.C_NoStretches "found") := by
  refine T.F_NoStretches_init.okX sc_NoStretches_init (fun vs H Q E h => ?_) (fun cd A o s H vs Q E hr h => ?_)
  · obtain ⟨v0, v1, rfl, h⟩ := h; rfl
  obtain ⟨v0, v1, rfl, a, rfl, ha, k⟩ := h
  refine ⟨_, (pss_cons (ps_expr (pe_se (K := K) rfl rfl T.m_StaffError T.rd_StaffError T.vi_StaffError (pa_cons (pv 0) (pa_cons pe_str pa_nil))))
    (pss_one (ps_os (K := K) rfl (pv 0) (pv 1)))), ?_⟩
  walk_at "u"
  refine s_sek T.er_NoStretches.oex ha ?_
  walk_at "u"
  exact ⟨a, T.C_NoStretches, rfl, T.er_NoStretches.oex, T.er_NoStretches.no, ha, k⟩
theorem ok_NoLongs_init (T : Tx K mg) : FnOk P w K mg base (L2.CX P w) 1 T.a_NoLongs_init T.d_NoLongs_init ["self", "found"] (spE T.C_NoLongs "found") := by
  refine T.F_NoLongs_init.okX sc_NoLongs_init (fun vs H Q E h => ?_) (fun cd A o s H vs Q E hr h => ?_)
  · obtain ⟨v0, v1, rfl, h⟩ := h; rfl
  obtain ⟨v0, v1, rfl, a, rfl, ha, k⟩ := h
  refine ⟨_, (pss_cons (ps_expr (pe_se (K := K) rfl rfl T.m_StaffError T.rd_StaffError T.vi_StaffError (pa_cons (pv 0) (pa_cons pe_str pa_nil))))
    (pss_one (ps_os (K := K) rfl (pv 0) (pv 1)))), ?_⟩
  walk_at "u"
  refine s_sek T.er_NoLongs.oex ha ?_
  walk_at "u"
  exact ⟨a, T.C_NoLongs, rfl, T.er_NoLongs.oex, T.er_NoLongs.no, ha, k⟩
theorem ok_NoNumber_init (T : Tx K mg) : FnOk P w K mg base (L2.CX P w) 1 T.a_NoNumber_init T.d_NoNumber_init ["self", "found"] (spE T.C_NoNumber "found") := by
  refine T.F_NoNumber_init.okX sc_NoNumber_init (fun vs H Q E h => ?_) (fun cd A o s H vs Q E hr h => ?_)
  · obtain ⟨v0, v1, rfl, h⟩ := h; rfl
  obtain ⟨v0, v1, rfl, a, rfl, ha, k⟩ := h
  refine ⟨_, (pss_cons (ps_expr (pe_se (K := K) rfl rfl T.m_StaffError T.rd_StaffError T.vi_StaffError (pa_cons (pv 0) (pa_cons pe_str pa_nil))))
    (pss_one (ps_os (K := K) rfl (pv 0) (pv 1)))), ?_⟩
  walk_at "u"
  refine s_sek T.er_NoNumber.oex ha ?_
  walk_at "u"
  exact ⟨a, T.C_NoNumber, rfl, T.er_NoNumber.oex, T.er_NoNumber.no, ha, k⟩
theorem ok_NoThing_init (T : Tx K mg) : FnOk P w K mg base (L2.CX P w) 1 T.a_NoThing_init T.d_NoThing_init ["self", "found"] (spE T.C_NoThing "found") := by
  refine T.F_NoThing_init.okX sc_NoThing_init (fun vs H Q E h => ?_) (fun cd A o s H vs Q E hr h => ?_)
  · obtain ⟨v0, v1, rfl, h⟩ := h; rfl
  obtain ⟨v0, v1, rfl, a, rfl, ha, k⟩ := h
  refine ⟨_, (pss_cons (ps_expr (pe_se (K := K) rfl rfl T.m_StaffError T.rd_StaffError T.vi_StaffError (pa_cons (pv 0) (pa_cons pe_str pa_nil))))
    (pss_one (ps_os (K := K) rfl (pv 0) (pv 1)))), ?_⟩
  walk_at "u"
  refine s_sek T.er_NoThing.oex ha ?_
  walk_at "u"
  exact ⟨a, T.C_NoThing, rfl, T.er_NoThing.oex, T.er_NoThing.no, ha, k⟩
theorem ok_NoKind_init (T : Tx K mg) : FnOk P w K mg base (L2.CX P w) 1 T.a_NoKind_init T.d_NoKind_init ["self", "found"] (spE T.C_NoKind "found") := by
  refine T.F_NoKind_init.okX sc_NoKind_init (fun vs H Q E h => ?_) (fun cd A o s H vs Q E hr h => ?_)
  · obtain ⟨v0, v1, rfl, h⟩ := h; rfl
  obtain ⟨v0, v1, rfl, a, rfl, ha, k⟩ := h
  refine ⟨_, (pss_cons (ps_expr (pe_se (K := K) rfl rfl T.m_StaffError T.rd_StaffError T.vi_StaffError (pa_cons (pv 0) (pa_cons pe_str pa_nil))))
    (pss_one (ps_os (K := K) rfl (pv 0) (pv 1)))), ?_⟩
  walk_at "u"
  refine s_sek T.er_NoKind.oex ha ?_
  walk_at "u"
  exact ⟨a, T.C_NoKind, rfl, T.er_NoKind.oex, T.er_NoKind.no, ha, k⟩
theorem ok_NoWord_init (T : Tx K mg) : FnOk P w K mg base (L2.CX P w) 1 T.a_NoWord_init T.d_NoWord_init ["self", "found"] (spE T.C_NoWord "found") := by
  refine T.F_NoWord_init.okX sc_NoWord_init (fun vs H Q E h => ?_) (fun cd A o s H vs Q E hr h => ?_)
  · obtain ⟨v0, v1, rfl, h⟩ := h; rfl
  obtain ⟨v0, v1, rfl, a, rfl, ha, k⟩ := h
  refine ⟨_, (pss_cons (ps_expr (pe_se (K := K) rfl rfl T.m_StaffError T.rd_StaffError T.vi_StaffError (pa_cons (pv 0) (pa_cons pe_str pa_nil))))
    (pss_one (ps_os (K := K) rfl (pv 0) (pv 1)))), ?_⟩
  walk_at "u"
  refine s_sek T.er_NoWord.oex ha ?_
  walk_at "u"
  exact ⟨a, T.C_NoWord, rfl, T.er_NoWord.oex, T.er_NoWord.no, ha, k⟩
theorem ok_NoDeed_init (T : Tx K mg) : FnOk P w K mg base (L2.CX P w) 1 T.a_NoDeed_init T.d_NoDeed_init ["self", "found"] (spE T.C_NoDeed "found") := by
  refine T.F_NoDeed_init.okX sc_NoDeed_init (fun vs H Q E h => ?_) (fun cd A o s H vs Q E hr h => ?_)
  · obtain ⟨v0, v1, rfl, h⟩ := h; rfl
  obtain ⟨v0, v1, rfl, a, rfl, ha, k⟩ := h
  refine ⟨_, (pss_cons (ps_expr (pe_se (K := K) rfl rfl T.m_StaffError T.rd_StaffError T.vi_StaffError (pa_cons (pv 0) (pa_cons pe_str pa_nil))))
    (pss_one (ps_os (K := K) rfl (pv 0) (pv 1)))), ?_⟩
  walk_at "u"
  refine s_sek T.er_NoDeed.oex ha ?_
  walk_at "u"
  exact ⟨a, T.C_NoDeed, rfl, T.er_NoDeed.oex, T.er_NoDeed.no, ha, k⟩
theorem ok_NoWay_init (T : Tx K mg) : FnOk P w K mg base (L2.CX P w) 1 T.a_NoWay_init T.d_NoWay_init ["self", "found"] (spE T.C_NoWay "found") := by
  refine T.F_NoWay_init.okX sc_NoWay_init (fun vs H Q E h => ?_) (fun cd A o s H vs Q E hr h => ?_)
  · obtain ⟨v0, v1, rfl, h⟩ := h; rfl
  obtain ⟨v0, v1, rfl, a, rfl, ha, k⟩ := h
  refine ⟨_, (pss_cons (ps_expr (pe_se (K := K) rfl rfl T.m_StaffError T.rd_StaffError T.vi_StaffError (pa_cons (pv 0) (pa_cons pe_str pa_nil))))
    (pss_one (ps_os (K := K) rfl (pv 0) (pv 1)))), ?_⟩
  walk_at "u"
  refine s_sek T.er_NoWay.oex ha ?_
  walk_at "u"
  exact ⟨a, T.C_NoWay, rfl, T.er_NoWay.oex, T.er_NoWay.no, ha, k⟩
theorem ok_NoUse_init (T : Tx K mg) : FnOk P w K mg base (L2.CX P w) 1 T.a_NoUse_init T.d_NoUse_init ["self", "found"] (spE T.C_NoUse "found") := by
  refine T.F_NoUse_init.okX sc_NoUse_init (fun vs H Q E h => ?_) (fun cd A o s H vs Q E hr h => ?_)
  · obtain ⟨v0, v1, rfl, h⟩ := h; rfl
  obtain ⟨v0, v1, rfl, a, rfl, ha, k⟩ := h
  refine ⟨_, (pss_cons (ps_expr (pe_se (K := K) rfl rfl T.m_StaffError T.rd_StaffError T.vi_StaffError (pa_cons (pv 0) (pa_cons pe_str pa_nil))))
    (pss_one (ps_os (K := K) rfl (pv 0) (pv 1)))), ?_⟩
  walk_at "u"
  refine s_sek T.er_NoUse.oex ha ?_
  walk_at "u"
  exact ⟨a, T.C_NoUse, rfl, T.er_NoUse.oex, T.er_NoUse.no, ha, k⟩
theorem ok_NoBooks_init (T : Tx K mg) : FnOk P w K mg base (L2.CX P w) 1 T.a_NoBooks_init T.d_NoBooks_init ["self", "found"] (spE T.C_NoBooks "found") := by
  refine T.F_NoBooks_init.okX sc_NoBooks_init (fun vs H Q E h => ?_) (fun cd A o s H vs Q E hr h => ?_)
  · obtain ⟨v0, v1, rfl, h⟩ := h; rfl
  obtain ⟨v0, v1, rfl, a, rfl, ha, k⟩ := h
  refine ⟨_, (pss_cons (ps_expr (pe_se (K := K) rfl rfl T.m_StaffError T.rd_StaffError T.vi_StaffError (pa_cons (pv 0) (pa_cons pe_str pa_nil))))
    (pss_one (ps_os (K := K) rfl (pv 0) (pv 1)))), ?_⟩
  walk_at "u"
  refine s_sek T.er_NoBooks.oex ha ?_
  walk_at "u"
  exact ⟨a, T.C_NoBooks, rfl, T.er_NoBooks.oex, T.er_NoBooks.no, ha, k⟩
theorem ok_NoRows_init (T : Tx K mg) : FnOk P w K mg base (L2.CX P w) 1 T.a_NoRows_init T.d_NoRows_init ["self", "found"] (spE T.C_NoRows "found") := by
  refine T.F_NoRows_init.okX sc_NoRows_init (fun vs H Q E h => ?_) (fun cd A o s H vs Q E hr h => ?_)
  · obtain ⟨v0, v1, rfl, h⟩ := h; rfl
  obtain ⟨v0, v1, rfl, a, rfl, ha, k⟩ := h
  refine ⟨_, (pss_cons (ps_expr (pe_se (K := K) rfl rfl T.m_StaffError T.rd_StaffError T.vi_StaffError (pa_cons (pv 0) (pa_cons pe_str pa_nil))))
    (pss_one (ps_os (K := K) rfl (pv 0) (pv 1)))), ?_⟩
  walk_at "u"
  refine s_sek T.er_NoRows.oex ha ?_
  walk_at "u"
  exact ⟨a, T.C_NoRows, rfl, T.er_NoRows.oex, T.er_NoRows.no, ha, k⟩
theorem ok_NoMove_init (T : Tx K mg) : FnOk P w K mg base (L2.CX P w) 1 T.a_NoMove_init T.d_NoMove_init ["self", "found"] (spE T.C_NoMove "found") := by
  refine T.F_NoMove_init.okX sc_NoMove_init (fun vs H Q E h => ?_) (fun cd A o s H vs Q E hr h => ?_)
  · obtain ⟨v0, v1, rfl, h⟩ := h; rfl
  obtain ⟨v0, v1, rfl, a, rfl, ha, k⟩ := h
  refine ⟨_, (pss_cons (ps_expr (pe_se (K := K) rfl rfl T.m_StaffError T.rd_StaffError T.vi_StaffError (pa_cons (pv 0) (pa_cons pe_str pa_nil))))
    (pss_one (ps_os (K := K) rfl (pv 0) (pv 1)))), ?_⟩
  walk_at "u"
  refine s_sek T.er_NoMove.oex ha ?_
  walk_at "u"
  exact ⟨a, T.C_NoMove, rfl, T.er_NoMove.oex, T.er_NoMove.no, ha, k⟩
theorem ok_NoRuns_init (T : Tx K mg) : FnOk P w K mg base (L2.CX P w) 1 T.a_NoRuns_init T.d_NoRuns_init ["self", "found"] (spE T.C_NoRuns "found") := by
  refine T.F_NoRuns_init.okX sc_NoRuns_init (fun vs H Q E h => ?_) (fun cd A o s H vs Q E hr h => ?_)
  · obtain ⟨v0, v1, rfl, h⟩ := h; rfl
  obtain ⟨v0, v1, rfl, a, rfl, ha, k⟩ := h
  refine ⟨_, (pss_cons (ps_expr (pe_se (K := K) rfl rfl T.m_StaffError T.rd_StaffError T.vi_StaffError (pa_cons (pv 0) (pa_cons pe_str pa_nil))))
    (pss_one (ps_os (K := K) rfl (pv 0) (pv 1)))), ?_⟩
  walk_at "u"
  refine s_sek T.er_NoRuns.oex ha ?_
  walk_at "u"
  exact ⟨a, T.C_NoRuns, rfl, T.er_NoRuns.oex, T.er_NoRuns.no, ha, k⟩
theorem ok_NoRun_init (T : Tx K mg) : FnOk P w K mg base (L2.CX P w) 1 T.a_NoRun_init T.d_NoRun_init ["self", "found"] (spE T.C_NoRun "found") := by
  refine T.F_NoRun_init.okX sc_NoRun_init (fun vs H Q E h => ?_) (fun cd A o s H vs Q E hr h => ?_)
  · obtain ⟨v0, v1, rfl, h⟩ := h; rfl
  obtain ⟨v0, v1, rfl, a, rfl, ha, k⟩ := h
  refine ⟨_, (pss_cons (ps_expr (pe_se (K := K) rfl rfl T.m_StaffError T.rd_StaffError T.vi_StaffError (pa_cons (pv 0) (pa_cons pe_str pa_nil))))
    (pss_one (ps_os (K := K) rfl (pv 0) (pv 1)))), ?_⟩
  walk_at "u"
  refine s_sek T.er_NoRun.oex ha ?_
  walk_at "u"
  exact ⟨a, T.C_NoRun, rfl, T.er_NoRun.oex, T.er_NoRun.no, ha, k⟩
theorem ok_NoLine_init (T : Tx K mg) : FnOk P w K mg base (L2.CX P w) 1 T.a_NoLine_init T.d_NoLine_init ["self", "found"] (spE T.C_NoLine "found") := by
  refine T.F_NoLine_init.okX sc_NoLine_init (fun vs H Q E h => ?_) (fun cd A o s H vs Q E hr h => ?_)
  · obtain ⟨v0, v1, rfl, h⟩ := h; rfl
  obtain ⟨v0, v1, rfl, a, rfl, ha, k⟩ := h
  refine ⟨_, (pss_cons (ps_expr (pe_se (K := K) rfl rfl T.m_StaffError T.rd_StaffError T.vi_StaffError (pa_cons (pv 0) (pa_cons pe_str pa_nil))))
    (pss_one (ps_os (K := K) rfl (pv 0) (pv 1)))), ?_⟩
  walk_at "u"
  refine s_sek T.er_NoLine.oex ha ?_
  walk_at "u"
  exact ⟨a, T.C_NoLine, rfl, T.er_NoLine.oex, T.er_NoLine.no, ha, k⟩
theorem ok_NoState_init (T : Tx K mg) : FnOk P w K mg base (L2.CX P w) 1 T.a_NoState_init T.d_NoState_init ["self", "found"] (spE T.C_NoState "found") := by
  refine T.F_NoState_init.okX sc_NoState_init (fun vs H Q E h => ?_) (fun cd A o s H vs Q E hr h => ?_)
  · obtain ⟨v0, v1, rfl, h⟩ := h; rfl
  obtain ⟨v0, v1, rfl, a, rfl, ha, k⟩ := h
  refine ⟨_, (pss_cons (ps_expr (pe_se (K := K) rfl rfl T.m_StaffError T.rd_StaffError T.vi_StaffError (pa_cons (pv 0) (pa_cons pe_str pa_nil))))
    (pss_one (ps_os (K := K) rfl (pv 0) (pv 1)))), ?_⟩
  walk_at "u"
  refine s_sek T.er_NoState.oex ha ?_
  walk_at "u"
  exact ⟨a, T.C_NoState, rfl, T.er_NoState.oex, T.er_NoState.no, ha, k⟩
theorem ok_Twice_init (T : Tx K mg) : FnOk P w K mg base (L2.CX P w) 1 T.a_Twice_init T.d_Twice_init ["self", "found"] (spE T.C_Twice "found") := by
  refine T.F_Twice_init.okX sc_Twice_init (fun vs H Q E h => ?_) (fun cd A o s H vs Q E hr h => ?_)
  · obtain ⟨v0, v1, rfl, h⟩ := h; rfl
  obtain ⟨v0, v1, rfl, a, rfl, ha, k⟩ := h
  refine ⟨_, (pss_cons (ps_expr (pe_se (K := K) rfl rfl T.m_StaffError T.rd_StaffError T.vi_StaffError (pa_cons (pv 0) (pa_cons pe_str pa_nil))))
    (pss_one (ps_os (K := K) rfl (pv 0) (pv 1)))), ?_⟩
  walk_at "u"
  refine s_sek T.er_Twice.oex ha ?_
  walk_at "u"
  exact ⟨a, T.C_Twice, rfl, T.er_Twice.oex, T.er_Twice.no, ha, k⟩
theorem ok_NotHere_init (T : Tx K mg) : FnOk P w K mg base (L2.CX P w) 1 T.a_NotHere_init T.d_NotHere_init ["self", "found"] (spE T.C_NotHere "found") := by
  refine T.F_NotHere_init.okX sc_NotHere_init (fun vs H Q E h => ?_) (fun cd A o s H vs Q E hr h => ?_)
  · obtain ⟨v0, v1, rfl, h⟩ := h; rfl
  obtain ⟨v0, v1, rfl, a, rfl, ha, k⟩ := h
  refine ⟨_, (pss_cons (ps_expr (pe_se (K := K) rfl rfl T.m_StaffError T.rd_StaffError T.vi_StaffError (pa_cons (pv 0) (pa_cons pe_str pa_nil))))
    (pss_one (ps_os (K := K) rfl (pv 0) (pv 1)))), ?_⟩
  walk_at "u"
  refine s_sek T.er_NotHere.oex ha ?_
  walk_at "u"
  exact ⟨a, T.C_NotHere, rfl, T.er_NotHere.oex, T.er_NotHere.no, ha, k⟩
theorem ok_NotIn_init (T : Tx K mg) : FnOk P w K mg base (L2.CX P w) 1 T.a_NotIn_init T.d_NotIn_init ["self", "found"] (spE T.C_NotIn "found") := by
  refine T.F_NotIn_init.okX sc_NotIn_init (fun vs H Q E h => ?_) (fun cd A o s H vs Q E hr h => ?_)
  · obtain ⟨v0, v1, rfl, h⟩ := h; rfl
  obtain ⟨v0, v1, rfl, a, rfl, ha, k⟩ := h
  refine ⟨_, (pss_cons (ps_expr (pe_se (K := K) rfl rfl T.m_StaffError T.rd_StaffError T.vi_StaffError (pa_cons (pv 0) (pa_cons pe_str pa_nil))))
    (pss_one (ps_os (K := K) rfl (pv 0) (pv 1)))), ?_⟩
  walk_at "u"
  refine s_sek T.er_NotIn.oex ha ?_
  walk_at "u"
  exact ⟨a, T.C_NotIn, rfl, T.er_NotIn.oex, T.er_NotIn.no, ha, k⟩
theorem ok_NotHeld_init (T : Tx K mg) : FnOk P w K mg base (L2.CX P w) 1 T.a_NotHeld_init T.d_NotHeld_init ["self", "found"] (spE T.C_NotHeld "found") := by
  refine T.F_NotHeld_init.okX sc_NotHeld_init (fun vs H Q E h => ?_) (fun cd A o s H vs Q E hr h => ?_)
  · obtain ⟨v0, v1, rfl, h⟩ := h; rfl
  obtain ⟨v0, v1, rfl, a, rfl, ha, k⟩ := h
  refine ⟨_, (pss_cons (ps_expr (pe_se (K := K) rfl rfl T.m_StaffError T.rd_StaffError T.vi_StaffError (pa_cons (pv 0) (pa_cons pe_str pa_nil))))
    (pss_one (ps_os (K := K) rfl (pv 0) (pv 1)))), ?_⟩
  walk_at "u"
  refine s_sek T.er_NotHeld.oex ha ?_
  walk_at "u"
  exact ⟨a, T.C_NotHeld, rfl, T.er_NotHeld.oex, T.er_NotHeld.no, ha, k⟩
theorem ok_NotHelped_init (T : Tx K mg) : FnOk P w K mg base (L2.CX P w) 1 T.a_NotHelped_init T.d_NotHelped_init ["self", "found"] (spE T.C_NotHelped "found") := by
  refine T.F_NotHelped_init.okX sc_NotHelped_init (fun vs H Q E h => ?_) (fun cd A o s H vs Q E hr h => ?_)
  · obtain ⟨v0, v1, rfl, h⟩ := h; rfl
  obtain ⟨v0, v1, rfl, a, rfl, ha, k⟩ := h
  refine ⟨_, (pss_cons (ps_expr (pe_se (K := K) rfl rfl T.m_StaffError T.rd_StaffError T.vi_StaffError (pa_cons (pv 0) (pa_cons pe_str pa_nil))))
    (pss_one (ps_os (K := K) rfl (pv 0) (pv 1)))), ?_⟩
  walk_at "u"
  refine s_sek T.er_NotHelped.oex ha ?_
  walk_at "u"
  exact ⟨a, T.C_NotHelped, rfl, T.er_NotHelped.oex, T.er_NotHelped.no, ha, k⟩
theorem ok_Full_init (T : Tx K mg) : FnOk P w K mg base (L2.CX P w) 1 T.a_Full_init T.d_Full_init ["self", "found"] (spE T.C_Full "found") := by
  refine T.F_Full_init.okX sc_Full_init (fun vs H Q E h => ?_) (fun cd A o s H vs Q E hr h => ?_)
  · obtain ⟨v0, v1, rfl, h⟩ := h; rfl
  obtain ⟨v0, v1, rfl, a, rfl, ha, k⟩ := h
  refine ⟨_, (pss_cons (ps_expr (pe_se (K := K) rfl rfl T.m_StaffError T.rd_StaffError T.vi_StaffError (pa_cons (pv 0) (pa_cons pe_str pa_nil))))
    (pss_one (ps_os (K := K) rfl (pv 0) (pv 1)))), ?_⟩
  walk_at "u"
  refine s_sek T.er_Full.oex ha ?_
  walk_at "u"
  exact ⟨a, T.C_Full, rfl, T.er_Full.oex, T.er_Full.no, ha, k⟩
theorem ok_Lacks_init (T : Tx K mg) : FnOk P w K mg base (L2.CX P w) 1 T.a_Lacks_init T.d_Lacks_init ["self", "found"] (spE T.C_Lacks "found") := by
  refine T.F_Lacks_init.okX sc_Lacks_init (fun vs H Q E h => ?_) (fun cd A o s H vs Q E hr h => ?_)
  · obtain ⟨v0, v1, rfl, h⟩ := h; rfl
  obtain ⟨v0, v1, rfl, a, rfl, ha, k⟩ := h
  refine ⟨_, (pss_cons (ps_expr (pe_se (K := K) rfl rfl T.m_StaffError T.rd_StaffError T.vi_StaffError (pa_cons (pv 0) (pa_cons pe_str pa_nil))))
    (pss_one (ps_os (K := K) rfl (pv 0) (pv 1)))), ?_⟩
  walk_at "u"
  refine s_sek T.er_Lacks.oex ha ?_
  walk_at "u"
  exact ⟨a, T.C_Lacks, rfl, T.er_Lacks.oex, T.er_Lacks.no, ha, k⟩
theorem ok_Shut_init (T : Tx K mg) : FnOk P w K mg base (L2.CX P w) 1 T.a_Shut_init T.d_Shut_init ["self", "found"] (spE T.C_Shut "found") := by
  refine T.F_Shut_init.okX sc_Shut_init (fun vs H Q E h => ?_) (fun cd A o s H vs Q E hr h => ?_)
  · obtain ⟨v0, v1, rfl, h⟩ := h; rfl
  obtain ⟨v0, v1, rfl, a, rfl, ha, k⟩ := h
  refine ⟨_, (pss_cons (ps_expr (pe_se (K := K) rfl rfl T.m_StaffError T.rd_StaffError T.vi_StaffError (pa_cons (pv 0) (pa_cons pe_str pa_nil))))
    (pss_one (ps_os (K := K) rfl (pv 0) (pv 1)))), ?_⟩
  walk_at "u"
  refine s_sek T.er_Shut.oex ha ?_
  walk_at "u"
  exact ⟨a, T.C_Shut, rfl, T.er_Shut.oex, T.er_Shut.no, ha, k⟩
theorem ok_Held_init (T : Tx K mg) : FnOk P w K mg base (L2.CX P w) 1 T.a_Held_init T.d_Held_init ["self", "found"] (spE T.C_Held "found") := by
  refine T.F_Held_init.okX sc_Held_init (fun vs H Q E h => ?_) (fun cd A o s H vs Q E hr h => ?_)
  · obtain ⟨v0, v1, rfl, h⟩ := h; rfl
  obtain ⟨v0, v1, rfl, a, rfl, ha, k⟩ := h
  refine ⟨_, (pss_cons (ps_expr (pe_se (K := K) rfl rfl T.m_StaffError T.rd_StaffError T.vi_StaffError (pa_cons (pv 0) (pa_cons pe_str pa_nil))))
    (pss_one (ps_os (K := K) rfl (pv 0) (pv 1)))), ?_⟩
  walk_at "u"
  refine s_sek T.er_Held.oex ha ?_
  walk_at "u"
  exact ⟨a, T.C_Held, rfl, T.er_Held.oex, T.er_Held.no, ha, k⟩
theorem ok_NotClear_init (T : Tx K mg) : FnOk P w K mg base (L2.CX P w) 1 T.a_NotClear_init T.d_NotClear_init ["self", "found"] (spE T.C_NotClear "found") := by
  refine T.F_NotClear_init.okX sc_NotClear_init (fun vs H Q E h => ?_) (fun cd A o s H vs Q E hr h => ?_)
  · obtain ⟨v0, v1, rfl, h⟩ := h; rfl
  obtain ⟨v0, v1, rfl, a, rfl, ha, k⟩ := h
  refine ⟨_, (pss_cons (ps_expr (pe_se (K := K) rfl rfl T.m_StaffError T.rd_StaffError T.vi_StaffError (pa_cons (pv 0) (pa_cons pe_str pa_nil))))
    (pss_one (ps_os (K := K) rfl (pv 0) (pv 1)))), ?_⟩
  walk_at "u"
  refine s_sek T.er_NotClear.oex ha ?_
  walk_at "u"
  exact ⟨a, T.C_NotClear, rfl, T.er_NotClear.oex, T.er_NotClear.no, ha, k⟩
theorem ok_NoTickets_init (T : Tx K mg) : FnOk P w K mg base (L2.CX P w) 1 T.a_NoTickets_init T.d_NoTickets_init ["self", "found"] (spE T.C_NoTickets "found") := by
  refine T.F_NoTickets_init.okX sc_NoTickets_init (fun vs H Q E h => ?_) (fun cd A o s H vs Q E hr h => ?_)
  · obtain ⟨v0, v1, rfl, h⟩ := h; rfl
  obtain ⟨v0, v1, rfl, a, rfl, ha, k⟩ := h
  refine ⟨_, (pss_cons (ps_expr (pe_se (K := K) rfl rfl T.m_StaffError T.rd_StaffError T.vi_StaffError (pa_cons (pv 0) (pa_cons pe_str pa_nil))))
    (pss_one (ps_os (K := K) rfl (pv 0) (pv 1)))), ?_⟩
  walk_at "u"
  refine s_sek T.er_NoTickets.oex ha ?_
  walk_at "u"
  exact ⟨a, T.C_NoTickets, rfl, T.er_NoTickets.oex, T.er_NoTickets.no, ha, k⟩
theorem ok_NoRight_init (T : Tx K mg) : FnOk P w K mg base (L2.CX P w) 1 T.a_NoRight_init T.d_NoRight_init ["self", "found"] (spE T.C_NoRight "found") := by
  refine T.F_NoRight_init.okX sc_NoRight_init (fun vs H Q E h => ?_) (fun cd A o s H vs Q E hr h => ?_)
  · obtain ⟨v0, v1, rfl, h⟩ := h; rfl
  obtain ⟨v0, v1, rfl, a, rfl, ha, k⟩ := h
  refine ⟨_, (pss_cons (ps_expr (pe_se (K := K) rfl rfl T.m_StaffError T.rd_StaffError T.vi_StaffError (pa_cons (pv 0) (pa_cons pe_str pa_nil))))
    (pss_one (ps_os (K := K) rfl (pv 0) (pv 1)))), ?_⟩
  walk_at "u"
  refine s_sek T.er_NoRight.oex ha ?_
  walk_at "u"
  exact ⟨a, T.C_NoRight, rfl, T.er_NoRight.oex, T.er_NoRight.no, ha, k⟩
theorem ok_NotShut_init (T : Tx K mg) : FnOk P w K mg base (L2.CX P w) 1 T.a_NotShut_init T.d_NotShut_init ["self", "found"] (spE T.C_NotShut "found") := by
  refine T.F_NotShut_init.okX sc_NotShut_init (fun vs H Q E h => ?_) (fun cd A o s H vs Q E hr h => ?_)
  · obtain ⟨v0, v1, rfl, h⟩ := h; rfl
  obtain ⟨v0, v1, rfl, a, rfl, ha, k⟩ := h
  refine ⟨_, (pss_cons (ps_expr (pe_se (K := K) rfl rfl T.m_StaffError T.rd_StaffError T.vi_StaffError (pa_cons (pv 0) (pa_cons pe_str pa_nil))))
    (pss_one (ps_os (K := K) rfl (pv 0) (pv 1)))), ?_⟩
  walk_at "u"
  refine s_sek T.er_NotShut.oex ha ?_
  walk_at "u"
  exact ⟨a, T.C_NotShut, rfl, T.er_NotShut.oex, T.er_NotShut.no, ha, k⟩
theorem ok_Taken_init (T : Tx K mg) : FnOk P w K mg base (L2.CX P w) 1 T.a_Taken_init T.d_Taken_init ["self", "found"] (spE T.C_Taken "found") := by
  refine T.F_Taken_init.okX sc_Taken_init (fun vs H Q E h => ?_) (fun cd A o s H vs Q E hr h => ?_)
  · obtain ⟨v0, v1, rfl, h⟩ := h; rfl
  obtain ⟨v0, v1, rfl, a, rfl, ha, k⟩ := h
  refine ⟨_, (pss_cons (ps_expr (pe_se (K := K) rfl rfl T.m_StaffError T.rd_StaffError T.vi_StaffError (pa_cons (pv 0) (pa_cons pe_str pa_nil))))
    (pss_one (ps_os (K := K) rfl (pv 0) (pv 1)))), ?_⟩
  walk_at "u"
  refine s_sek T.er_Taken.oex ha ?_
  walk_at "u"
  exact ⟨a, T.C_Taken, rfl, T.er_Taken.oex, T.er_Taken.no, ha, k⟩
theorem ok_Boxed_init (T : Tx K mg) : FnOk P w K mg base (L2.CX P w) 1 T.a_Boxed_init T.d_Boxed_init ["self", "found"] (spE T.C_Boxed "found") := by
  refine T.F_Boxed_init.okX sc_Boxed_init (fun vs H Q E h => ?_) (fun cd A o s H vs Q E hr h => ?_)
  · obtain ⟨v0, v1, rfl, h⟩ := h; rfl
  obtain ⟨v0, v1, rfl, a, rfl, ha, k⟩ := h
  refine ⟨_, (pss_cons (ps_expr (pe_se (K := K) rfl rfl T.m_StaffError T.rd_StaffError T.vi_StaffError (pa_cons (pv 0) (pa_cons pe_str pa_nil))))
    (pss_one (ps_os (K := K) rfl (pv 0) (pv 1)))), ?_⟩
  walk_at "u"
  refine s_sek T.er_Boxed.oex ha ?_
  walk_at "u"
  exact ⟨a, T.C_Boxed, rfl, T.er_Boxed.oex, T.er_Boxed.no, ha, k⟩
theorem ok_Silent_init (T : Tx K mg) : FnOk P w K mg base (L2.CX P w) 1 T.a_Silent_init T.d_Silent_init ["self", "found"] (spE T.C_Silent "found") := by
  refine T.F_Silent_init.okX sc_Silent_init (fun vs H Q E h => ?_) (fun cd A o s H vs Q E hr h => ?_)
  · obtain ⟨v0, v1, rfl, h⟩ := h; rfl
  obtain ⟨v0, v1, rfl, a, rfl, ha, k⟩ := h
  refine ⟨_, (pss_cons (ps_expr (pe_se (K := K) rfl rfl T.m_StaffError T.rd_StaffError T.vi_StaffError (pa_cons (pv 0) (pa_cons pe_str pa_nil))))
    (pss_one (ps_os (K := K) rfl (pv 0) (pv 1)))), ?_⟩
  walk_at "u"
  refine s_sek T.er_Silent.oex ha ?_
  walk_at "u"
  exact ⟨a, T.C_Silent, rfl, T.er_Silent.oex, T.er_Silent.no, ha, k⟩
theorem ok_TooMany_init (T : Tx K mg) : FnOk P w K mg base (L2.CX P w) 1 T.a_TooMany_init T.d_TooMany_init ["self", "many"] (spE T.C_TooMany "many") := by
  refine T.F_TooMany_init.okX sc_TooMany_init (fun vs H Q E h => ?_) (fun cd A o s H vs Q E hr h => ?_)
  · obtain ⟨v0, v1, rfl, h⟩ := h; rfl
  obtain ⟨v0, v1, rfl, a, rfl, ha, k⟩ := h
  refine ⟨_, (pss_cons (ps_expr (pe_se (K := K) rfl rfl T.m_StaffError T.rd_StaffError T.vi_StaffError (pa_cons (pv 0) (pa_cons pe_str pa_nil))))
    (pss_one (ps_os (K := K) rfl (pv 0) (pv 1)))), ?_⟩
  walk_at "u"
  refine s_sek T.er_TooMany.oex ha ?_
  walk_at "u"
  exact ⟨a, T.C_TooMany, rfl, T.er_TooMany.oex, T.er_TooMany.no, ha, k⟩
theorem ok_NoText_init (T : Tx K mg) : FnOk P w K mg base (L2.CX P w) 1 T.a_NoText_init T.d_NoText_init ["self", "row"] (spE T.C_NoText "row") := by
  refine T.F_NoText_init.okX sc_NoText_init (fun vs H Q E h => ?_) (fun cd A o s H vs Q E hr h => ?_)
  · obtain ⟨v0, v1, rfl, h⟩ := h; rfl
  obtain ⟨v0, v1, rfl, a, rfl, ha, k⟩ := h
  refine ⟨_, (pss_cons (ps_expr (pe_se (K := K) rfl rfl T.m_StaffError T.rd_StaffError T.vi_StaffError (pa_cons (pv 0) (pa_cons pe_str pa_nil))))
    (pss_one (ps_os (K := K) rfl (pv 0) (pv 1)))), ?_⟩
  walk_at "u"
  refine s_sek T.er_NoText.oex ha ?_
  walk_at "u"
  exact ⟨a, T.C_NoText, rfl, T.er_NoText.oex, T.er_NoText.no, ha, k⟩
theorem ok_Gap_init (T : Tx K mg) : FnOk P w K mg base (L2.CX P w) 1 T.a_Gap_init T.d_Gap_init ["self", "number"] (spE T.C_Gap "number") := by
  refine T.F_Gap_init.okX sc_Gap_init (fun vs H Q E h => ?_) (fun cd A o s H vs Q E hr h => ?_)
  · obtain ⟨v0, v1, rfl, h⟩ := h; rfl
  obtain ⟨v0, v1, rfl, a, rfl, ha, k⟩ := h
  refine ⟨_, (pss_cons (ps_expr (pe_se (K := K) rfl rfl T.m_StaffError T.rd_StaffError T.vi_StaffError (pa_cons (pv 0) (pa_cons pe_str pa_nil))))
    (pss_one (ps_os (K := K) rfl (pv 0) (pv 1)))), ?_⟩
  walk_at "u"
  refine s_sek T.er_Gap.oex ha ?_
  walk_at "u"
  exact ⟨a, T.C_Gap, rfl, T.er_Gap.oex, T.er_Gap.no, ha, k⟩
theorem ok_NotSo_init (T : Tx K mg) : FnOk P w K mg base (L2.CX P w) 1 T.a_NotSo_init T.d_NotSo_init ["self", "number"] (spE T.C_NotSo "number") := by
  refine T.F_NotSo_init.okX sc_NotSo_init (fun vs H Q E h => ?_) (fun cd A o s H vs Q E hr h => ?_)
  · obtain ⟨v0, v1, rfl, h⟩ := h; rfl
  obtain ⟨v0, v1, rfl, a, rfl, ha, k⟩ := h
  refine ⟨_, (pss_cons (ps_expr (pe_se (K := K) rfl rfl T.m_StaffError T.rd_StaffError T.vi_StaffError (pa_cons (pv 0) (pa_cons pe_str pa_nil))))
    (pss_one (ps_os (K := K) rfl (pv 0) (pv 1)))), ?_⟩
  walk_at "u"
  refine s_sek T.er_NotSo.oex ha ?_
  walk_at "u"
  exact ⟨a, T.C_NotSo, rfl, T.er_NotSo.oex, T.er_NotSo.no, ha, k⟩
theorem ok_NoTrip_init (T : Tx K mg) : FnOk P w K mg base (L2.CX P w) 1 T.a_NoTrip_init T.d_NoTrip_init ["self", "run"] (spE T.C_NoTrip "run") := by
  refine T.F_NoTrip_init.okX sc_NoTrip_init (fun vs H Q E h => ?_) (fun cd A o s H vs Q E hr h => ?_)
  · obtain ⟨v0, v1, rfl, h⟩ := h; rfl
  obtain ⟨v0, v1, rfl, a, rfl, ha, k⟩ := h
  refine ⟨_, (pss_cons (ps_expr (pe_se (K := K) rfl rfl T.m_StaffError T.rd_StaffError T.vi_StaffError (pa_cons (pv 0) (pa_cons pe_str pa_nil))))
    (pss_one (ps_os (K := K) rfl (pv 0) (pv 1)))), ?_⟩
  walk_at "u"
  refine s_sek T.er_NoTrip.oex ha ?_
  walk_at "u"
  exact ⟨a, T.C_NoTrip, rfl, T.er_NoTrip.oex, T.er_NoTrip.no, ha, k⟩
theorem ok_NoStart_init (T : Tx K mg) : FnOk P w K mg base (L2.CX P w) 1 T.a_NoStart_init T.d_NoStart_init ["self"] (spE0 T.C_NoStart) := by
  refine T.F_NoStart_init.okX sc_NoStart_init (fun vs H Q E h => ?_) (fun cd A o s H vs Q E hr h => ?_)
  · obtain ⟨v0, rfl, h⟩ := h; rfl
  obtain ⟨v0, rfl, a, rfl, ha, k⟩ := h
  refine ⟨_, (pss_one (ps_expr (pe_se (K := K) rfl rfl T.m_StaffError T.rd_StaffError T.vi_StaffError (pa_cons (pv 0) (pa_cons pe_str pa_nil))))), ?_⟩
  walk_at "u"
  refine s_sek T.er_NoStart.oex ha ?_
  walk_at "u"
  exact k
theorem ok_NoBack_init (T : Tx K mg) : FnOk P w K mg base (L2.CX P w) 1 T.a_NoBack_init T.d_NoBack_init ["self"] (spE0 T.C_NoBack) := by
  refine T.F_NoBack_init.okX sc_NoBack_init (fun vs H Q E h => ?_) (fun cd A o s H vs Q E hr h => ?_)
  · obtain ⟨v0, rfl, h⟩ := h; rfl
  obtain ⟨v0, rfl, a, rfl, ha, k⟩ := h
  refine ⟨_, (pss_one (ps_expr (pe_se (K := K) rfl rfl T.m_StaffError T.rd_StaffError T.vi_StaffError (pa_cons (pv 0) (pa_cons pe_str pa_nil))))), ?_⟩
  walk_at "u"
  refine s_sek T.er_NoBack.oex ha ?_
  walk_at "u"
  exact k
/-- take: a number below many -/
def sp_law_take : Sp := sp2 fun x y H Q _ => ∃ (p : Addr) (m : Int) (n : Nat), x = .ref p ∧ y = .int m ∧ Box H p n ∧ n ≤ 1000000 ∧ 0 < m ∧ m < 10 ^ 40 ∧
  ∀ (d : Int) (H' : Hp), 0 ≤ d → d < m → Box H' p (n + 1) → Kp [p] H H' → Q (.int d) H'
set_option maxHeartbeats 16000000 in
theorem ok_law_take (T : Tx K mg) : FnOk P w K mg base (L2.CX P w) 1 T.a_law_take T.d_law_take ["_law_box_here", "_law_many"] (sp_law_take) := by
  refine T.F_law_take.okX sc_law_take (fun vs H Q E h => ?_) (fun cd A o s H vs Q E hr h => ?_)
  · obtain ⟨v0, v1, rfl, h⟩ := h; rfl
  obtain ⟨v0, v1, rfl, h⟩ := h
  obtain ⟨p, m, n, rfl, rfl, ⟨a, b, c, hp, ha, hb, hb2, hc, hc2⟩, hn, hm, hm2, k⟩ := h
  refine ⟨_, (pss_cons (ps_if (pt_cmpR o_gt (pe_ix (ix_u (K := K) rfl) (pv 0) pe_int (fun _ _ => rfl)) pe_int (nomark _))
    (pss_cons (ps_set (i := 3) sc_law_take.nd rfl (Or.inl rfl) (pe_op o_mod (pe_ix (ix_u (K := K) rfl) (pv 0) pe_int (fun _ _ => rfl)) (pv 1)))
    (pss_cons (ps_asg (pe_op o_div (pe_ix (ix_u (K := K) rfl) (pv 0) pe_int (fun _ _ => rfl)) (pv 1)) (pg_sub (pv 0) pe_int (set_u hr)))
    (pss_one (ps_ret (pv 3)))))
    pss_nil)
    (pss_cons (ps_asg (pe_op (o_add (K := K) rfl) (pe_ix (ix_u (K := K) rfl) (pv 0) pe_int (fun _ _ => rfl)) pe_int) (pg_sub (pv 0) pe_int (set_u hr)))
    (pss_cons (ps_set (i := 2) sc_law_take.nd rfl (Or.inl rfl) (pe_op o_mod (pe_op o_pow (pe_op (o_add (K := K) rfl) (pe_op (o_add (K := K) rfl) (pe_ix (ix_u (K := K) rfl) (pv 0) pe_int (fun _ _ => rfl)) (pe_op o_mul pe_int (pe_ix (ix_u (K := K) rfl) (pv 0) pe_int (fun _ _ => rfl)))) pe_int) pe_int) pe_int))
    (pss_cons (ps_set (i := 2) sc_law_take.nd rfl (Or.inl rfl) (pe_op o_mod (pe_op o_pow (pe_op (o_add (K := K) rfl) (pv 2) (pe_op o_mul pe_int (pe_ix (ix_u (K := K) rfl) (pv 0) pe_int (fun _ _ => rfl)))) pe_int) pe_int))
    (pss_one (ps_ret (pe_op o_mod (pe_op o_div (pv 2) pe_int) (pv 1)))))))), ?_⟩
  rw [st_law_take]
  walk_at "u"
  refine s_ite (fun h0 => ?_) (fun h0 => ?_)
  · walk_at "u"
    refine s_ul hp rfl rfl fun H1 e1 k1 => ?_
    walk_at "u"
    refine k _ _ (Int.emod_nonneg _ (by omega)) (Int.emod_lt_of_pos _ hm) ⟨_, _, _, e1, Int.ediv_nonneg ha (by omega), hb, hb2, hc, by omega⟩ k1
  · walk_at "u"
    refine s_ul hp rfl rfl fun H1 e1 k1 => ?_
    walk_at "u"
    have h1 : (0 : Int) ≤ (b + 7919 * (c + 1) + 41) ^ 5 % 2147483647 := Int.emod_nonneg _ (by omega)
    have h2 : (b + 7919 * (c + 1) + 41) ^ 5 % 2147483647 < 2147483647 := Int.emod_lt_of_pos _ (by omega)
    generalize (b + 7919 * (c + 1) + 41) ^ 5 % 2147483647 = y at h1 h2 ⊢
    walk_at "u"
    refine k _ _ (Int.emod_nonneg _ (by omega)) (Int.emod_lt_of_pos _ hm) ⟨_, _, _, e1, ha, hb, hb2, by omega, by omega⟩ k1
theorem c_take {p : Addr} {m : Int} {n : Nat} {H : Hp} {Q : VK} {E : XK} (hB : Box H p n) (hn : n ≤ 1000000) (h0 : 0 < m) (h1 : m < 10 ^ 40)
    (k : ∀ (d : Int) (H' : Hp), 0 ≤ d → d < m → Box H' p (n + 1) → Kp [p] H H' → Q (.int d) H') : sp_law_take [.ref p, .int m] H Q E := ⟨_, _, rfl, p, m, n, rfl, rfl, hB, hn, h0, h1, k⟩
def sp_law_cell (K : PySem.W.Frag) : Sp := sp2 fun x y H Q _ => ∃ (a : Addr) (ns : List Int) (k : Int), x = .ref a ∧ y = .int k ∧ SqL K H a (ns.map V.int) ∧ 0 ≤ k ∧ k < 1000 ∧ ∀ c : Int, Q (.int c) H
set_option maxHeartbeats 16000000 in
theorem ok_law_cell (T : Tx K mg) : FnOk P w K mg base (L2.CX P w) 1 T.a_law_cell T.d_law_cell ["_law_script", "_law_k"] (sp_law_cell K) := by
  refine T.F_law_cell.okX sc_law_cell (fun vs H Q E h => ?_) (fun cd A o s H vs Q E hr h => ?_)
  · obtain ⟨v0, v1, rfl, h⟩ := h; rfl
  obtain ⟨v0, v1, rfl, h⟩ := h
  obtain ⟨a, ns, k, rfl, rfl, hS, h0, h1, q⟩ := h
  refine ⟨_, (pss_cons (ps_if (pt_cmpR o_lt (pv 1) (pe_callB (c_len (K := K) rfl) rfl T.z_len bt_len (pa_cons (pv 0) pa_nil)) (nomark _))
    (pss_one (ps_ret (pe_ix (ix_u (K := K) rfl) (pv 0) (pv 1) (fun _ _ => rfl))))
    pss_nil)
    (pss_one (ps_ret (pe_op (o_add (K := K) rfl) (pe_op o_mul pe_int (pv 1)) pe_int)))), ?_⟩
  rw [st_law_cell]
  walk_at "u"
  refine s_lenL hS ?_
  walk_at "u"
  rw [List.length_map]
  refine s_ite (fun h2 => ?_) (fun h2 => ?_)
  · walk_at "u"
    obtain ⟨z, e1, e2⟩ := at_int (xs := ns.map V.int) h0 (by rw [List.length_map]; exact h2)
    rw [List.getElem?_map] at e1
    obtain ⟨c, _, rfl⟩ := Option.map_eq_some_iff.mp e1
    refine s_ixL hS e2 ?_
    walk_at "u"
    exact q c
  · walk_at "u"
    exact q _
theorem c_cell {K : PySem.W.Frag} {a : Addr} {ns : List Int} {k : Int} {H : Hp} {Q : VK} {E : XK} (hS : SqL K H a (ns.map V.int)) (h0 : 0 ≤ k) (h1 : k < 1000) (q : ∀ c : Int, Q (.int c) H) : sp_law_cell K [.ref a, .int k] H Q E := ⟨_, _, rfl, a, ns, k, rfl, rfl, hS, h0, h1, q⟩
def sp_law_box : Sp := sp1 fun x H Q _ => ∃ (c : Int), x = .int c ∧ ∀ p H', H p = none → Kp [] H H' → Box H' p 0 → Q (.ref p) H'
set_option maxHeartbeats 16000000 in
theorem ok_law_box (T : Tx K mg) : FnOk P w K mg base (L2.CX P w) 1 T.a_law_box T.d_law_box ["_law_cell_here"] (sp_law_box) := by
  refine T.F_law_box.okX sc_law_box (fun vs H Q E h => ?_) (fun cd A o s H vs Q E hr h => ?_)
  · obtain ⟨v0, rfl, h⟩ := h; rfl
  obtain ⟨v0, rfl, h⟩ := h
  obtain ⟨c, rfl, k⟩ := h
  refine ⟨_, (pss_one (ps_ret (pe_lst (pa_cons (pe_callB (c_max rfl) rfl T.z_max bt_max (pa_cons pe_int (pa_cons (pe_op o_sub (pv 0) (pe_op o_pow pe_int pe_int)) pa_nil))) (pa_cons (pe_op o_mod (pv 0) pe_int) (pa_cons pe_int pa_nil)))))), ?_⟩
  rw [st_law_box]
  walk_at "u"
  refine s_newl (zle (by simp)) fun p H1 hp e1 k1 => k p _ hp k1 ⟨_, _, _, e1, ?_, Int.emod_nonneg _ (by decide), Int.emod_lt_of_pos _ (by decide), Int.le_refl _, Int.le_refl _⟩
  split <;> omega
theorem c_box {c : Int} {H : Hp} {Q : VK} {E : XK} (q : ∀ p H', H p = none → Kp [] H H' → Box H' p 0 → Q (.ref p) H') : sp_law_box [.int c] H Q E := ⟨_, rfl, c, rfl, q⟩
local macro_rules | `(tactic| walk_at "tk") => `(tactic| (refine c_take (by walk_at "g") (by omega) (by first | decide | omega) (by first | decide | omega) ?_))
local macro_rules | `(tactic| walk_at "cl") => `(tactic| (refine c_cell (by walk_at "g") (by omega) (by omega) ?_))

section
open PySem.W
abbrev hR : PySem.W.OpenRow := PySem.W.OpenLaw.row PySem.Challenge.rw_onestaff_k09_refusals_apart
def hn0 : List Str := ["StaffError", "NoName", "NoPlace", "NoTrain", "NoTrains", "NoEnds", "NoStretch", "NoLong", "NoPlaces", "NoStretches", "NoLongs", "NoNumber", "NoThing", "NoKind", "NoWord", "NoDeed", "NoWay", "NoUse", "NoBooks", "NoRows", "NoMove", "NoRuns", "NoRun", "NoLine", "NoState", "Twice", "NotHere", "NotIn", "NotHeld", "NotHelped"]
def hn1 : List Str := ["Full", "Lacks", "Shut", "Held", "NotClear", "NoTickets", "NoRight", "NotShut", "Taken", "Boxed", "Silent", "TooMany", "NoText", "Gap", "NotSo", "NoTrip", "NoStart", "NoBack", "_law_cell", "_law_box", "_law_take", "_law_thing", "_law_kinds", "_law_made", "_law_fields", "_law_right"]
def hnames : List Str := hn0 ++ hn1
def hc0 : List U.Ck := [fun K => decide (PySem.W.nsIn K mainGlobals "NoName" = some (some (.ref (He.ga K "NoName")))),
  fun K => decide (PySem.W.nsIn K mainGlobals "NoPlace" = some (some (.ref (He.ga K "NoPlace")))),
  fun K => decide (PySem.W.nsIn K mainGlobals "NoTrain" = some (some (.ref (He.ga K "NoTrain")))),
  fun K => decide (PySem.W.nsIn K mainGlobals "NoTrains" = some (some (.ref (He.ga K "NoTrains")))),
  fun K => decide (PySem.W.nsIn K mainGlobals "NoEnds" = some (some (.ref (He.ga K "NoEnds")))),
  fun K => decide (PySem.W.nsIn K mainGlobals "NoStretch" = some (some (.ref (He.ga K "NoStretch")))),
  fun K => decide (PySem.W.nsIn K mainGlobals "NoLong" = some (some (.ref (He.ga K "NoLong")))),
  fun K => decide (PySem.W.nsIn K mainGlobals "NoPlaces" = some (some (.ref (He.ga K "NoPlaces")))),
  fun K => decide (PySem.W.nsIn K mainGlobals "NoStretches" = some (some (.ref (He.ga K "NoStretches")))),
  fun K => decide (PySem.W.nsIn K mainGlobals "NoLongs" = some (some (.ref (He.ga K "NoLongs")))),
  fun K => decide (PySem.W.nsIn K mainGlobals "NoNumber" = some (some (.ref (He.ga K "NoNumber")))),
  fun K => decide (PySem.W.nsIn K mainGlobals "NoThing" = some (some (.ref (He.ga K "NoThing")))),
  fun K => decide (PySem.W.nsIn K mainGlobals "NoKind" = some (some (.ref (He.ga K "NoKind")))),
  fun K => decide (PySem.W.nsIn K mainGlobals "NoWord" = some (some (.ref (He.ga K "NoWord")))),
  fun K => decide (PySem.W.nsIn K mainGlobals "NoDeed" = some (some (.ref (He.ga K "NoDeed")))),
  fun K => decide (PySem.W.nsIn K mainGlobals "NoWay" = some (some (.ref (He.ga K "NoWay")))),
  fun K => decide (PySem.W.nsIn K mainGlobals "NoUse" = some (some (.ref (He.ga K "NoUse")))),
  fun K => decide (PySem.W.nsIn K mainGlobals "NoBooks" = some (some (.ref (He.ga K "NoBooks")))),
  fun K => decide (PySem.W.nsIn K mainGlobals "NoRows" = some (some (.ref (He.ga K "NoRows")))),
  fun K => decide (PySem.W.nsIn K mainGlobals "NoMove" = some (some (.ref (He.ga K "NoMove"))))]
def hc1 : List U.Ck := [fun K => decide (PySem.W.nsIn K mainGlobals "NoRuns" = some (some (.ref (He.ga K "NoRuns")))),
  fun K => decide (PySem.W.nsIn K mainGlobals "NoRun" = some (some (.ref (He.ga K "NoRun")))),
  fun K => decide (PySem.W.nsIn K mainGlobals "NoLine" = some (some (.ref (He.ga K "NoLine")))),
  fun K => decide (PySem.W.nsIn K mainGlobals "NoState" = some (some (.ref (He.ga K "NoState")))),
  fun K => decide (PySem.W.nsIn K mainGlobals "Twice" = some (some (.ref (He.ga K "Twice")))),
  fun K => decide (PySem.W.nsIn K mainGlobals "NotHere" = some (some (.ref (He.ga K "NotHere")))),
  fun K => decide (PySem.W.nsIn K mainGlobals "NotIn" = some (some (.ref (He.ga K "NotIn")))),
  fun K => decide (PySem.W.nsIn K mainGlobals "NotHeld" = some (some (.ref (He.ga K "NotHeld")))),
  fun K => decide (PySem.W.nsIn K mainGlobals "NotHelped" = some (some (.ref (He.ga K "NotHelped")))),
  fun K => decide (PySem.W.nsIn K mainGlobals "Full" = some (some (.ref (He.ga K "Full")))),
  fun K => decide (PySem.W.nsIn K mainGlobals "Lacks" = some (some (.ref (He.ga K "Lacks")))),
  fun K => decide (PySem.W.nsIn K mainGlobals "Shut" = some (some (.ref (He.ga K "Shut")))),
  fun K => decide (PySem.W.nsIn K mainGlobals "Held" = some (some (.ref (He.ga K "Held")))),
  fun K => decide (PySem.W.nsIn K mainGlobals "NotClear" = some (some (.ref (He.ga K "NotClear")))),
  fun K => decide (PySem.W.nsIn K mainGlobals "NoTickets" = some (some (.ref (He.ga K "NoTickets")))),
  fun K => decide (PySem.W.nsIn K mainGlobals "NoRight" = some (some (.ref (He.ga K "NoRight")))),
  fun K => decide (PySem.W.nsIn K mainGlobals "NotShut" = some (some (.ref (He.ga K "NotShut")))),
  fun K => decide (PySem.W.nsIn K mainGlobals "Taken" = some (some (.ref (He.ga K "Taken")))),
  fun K => decide (PySem.W.nsIn K mainGlobals "Boxed" = some (some (.ref (He.ga K "Boxed")))),
  fun K => decide (PySem.W.nsIn K mainGlobals "Silent" = some (some (.ref (He.ga K "Silent"))))]
def hc2 : List U.Ck := [fun K => decide (PySem.W.nsIn K mainGlobals "TooMany" = some (some (.ref (He.ga K "TooMany")))),
  fun K => decide (PySem.W.nsIn K mainGlobals "NoText" = some (some (.ref (He.ga K "NoText")))),
  fun K => decide (PySem.W.nsIn K mainGlobals "Gap" = some (some (.ref (He.ga K "Gap")))),
  fun K => decide (PySem.W.nsIn K mainGlobals "NotSo" = some (some (.ref (He.ga K "NotSo")))),
  fun K => decide (PySem.W.nsIn K mainGlobals "NoTrip" = some (some (.ref (He.ga K "NoTrip")))),
  fun K => decide (PySem.W.nsIn K mainGlobals "NoStart" = some (some (.ref (He.ga K "NoStart")))),
  fun K => decide (PySem.W.nsIn K mainGlobals "NoBack" = some (some (.ref (He.ga K "NoBack")))),
  fun K => decide (PySem.W.nsIn K mainGlobals "StaffError" = some (some (.ref (He.ga K "StaffError")))),
  fun K => decide (PySem.W.findIn K (.ref (He.ga K "NoName")) "__init__" = some (some (.ref (He.ma K (He.ga K "NoName") "__init__")))),
  fun K => decide (PySem.W.findIn K (.ref (He.ga K "NoPlace")) "__init__" = some (some (.ref (He.ma K (He.ga K "NoPlace") "__init__")))),
  fun K => decide (PySem.W.findIn K (.ref (He.ga K "NoTrain")) "__init__" = some (some (.ref (He.ma K (He.ga K "NoTrain") "__init__")))),
  fun K => decide (PySem.W.findIn K (.ref (He.ga K "NoTrains")) "__init__" = some (some (.ref (He.ma K (He.ga K "NoTrains") "__init__")))),
  fun K => decide (PySem.W.findIn K (.ref (He.ga K "NoEnds")) "__init__" = some (some (.ref (He.ma K (He.ga K "NoEnds") "__init__")))),
  fun K => decide (PySem.W.findIn K (.ref (He.ga K "NoStretch")) "__init__" = some (some (.ref (He.ma K (He.ga K "NoStretch") "__init__")))),
  fun K => decide (PySem.W.findIn K (.ref (He.ga K "NoLong")) "__init__" = some (some (.ref (He.ma K (He.ga K "NoLong") "__init__")))),
  fun K => decide (PySem.W.findIn K (.ref (He.ga K "NoPlaces")) "__init__" = some (some (.ref (He.ma K (He.ga K "NoPlaces") "__init__")))),
  fun K => decide (PySem.W.findIn K (.ref (He.ga K "NoStretches")) "__init__" = some (some (.ref (He.ma K (He.ga K "NoStretches") "__init__")))),
  fun K => decide (PySem.W.findIn K (.ref (He.ga K "NoLongs")) "__init__" = some (some (.ref (He.ma K (He.ga K "NoLongs") "__init__")))),
  fun K => decide (PySem.W.findIn K (.ref (He.ga K "NoNumber")) "__init__" = some (some (.ref (He.ma K (He.ga K "NoNumber") "__init__")))),
  fun K => decide (PySem.W.findIn K (.ref (He.ga K "NoThing")) "__init__" = some (some (.ref (He.ma K (He.ga K "NoThing") "__init__"))))]
def hc3 : List U.Ck := [fun K => decide (PySem.W.findIn K (.ref (He.ga K "NoKind")) "__init__" = some (some (.ref (He.ma K (He.ga K "NoKind") "__init__")))),
  fun K => decide (PySem.W.findIn K (.ref (He.ga K "NoWord")) "__init__" = some (some (.ref (He.ma K (He.ga K "NoWord") "__init__")))),
  fun K => decide (PySem.W.findIn K (.ref (He.ga K "NoDeed")) "__init__" = some (some (.ref (He.ma K (He.ga K "NoDeed") "__init__")))),
  fun K => decide (PySem.W.findIn K (.ref (He.ga K "NoWay")) "__init__" = some (some (.ref (He.ma K (He.ga K "NoWay") "__init__")))),
  fun K => decide (PySem.W.findIn K (.ref (He.ga K "NoUse")) "__init__" = some (some (.ref (He.ma K (He.ga K "NoUse") "__init__")))),
  fun K => decide (PySem.W.findIn K (.ref (He.ga K "NoBooks")) "__init__" = some (some (.ref (He.ma K (He.ga K "NoBooks") "__init__")))),
  fun K => decide (PySem.W.findIn K (.ref (He.ga K "NoRows")) "__init__" = some (some (.ref (He.ma K (He.ga K "NoRows") "__init__")))),
  fun K => decide (PySem.W.findIn K (.ref (He.ga K "NoMove")) "__init__" = some (some (.ref (He.ma K (He.ga K "NoMove") "__init__")))),
  fun K => decide (PySem.W.findIn K (.ref (He.ga K "NoRuns")) "__init__" = some (some (.ref (He.ma K (He.ga K "NoRuns") "__init__")))),
  fun K => decide (PySem.W.findIn K (.ref (He.ga K "NoRun")) "__init__" = some (some (.ref (He.ma K (He.ga K "NoRun") "__init__")))),
  fun K => decide (PySem.W.findIn K (.ref (He.ga K "NoLine")) "__init__" = some (some (.ref (He.ma K (He.ga K "NoLine") "__init__")))),
  fun K => decide (PySem.W.findIn K (.ref (He.ga K "NoState")) "__init__" = some (some (.ref (He.ma K (He.ga K "NoState") "__init__")))),
  fun K => decide (PySem.W.findIn K (.ref (He.ga K "Twice")) "__init__" = some (some (.ref (He.ma K (He.ga K "Twice") "__init__")))),
  fun K => decide (PySem.W.findIn K (.ref (He.ga K "NotHere")) "__init__" = some (some (.ref (He.ma K (He.ga K "NotHere") "__init__")))),
  fun K => decide (PySem.W.findIn K (.ref (He.ga K "NotIn")) "__init__" = some (some (.ref (He.ma K (He.ga K "NotIn") "__init__")))),
  fun K => decide (PySem.W.findIn K (.ref (He.ga K "NotHeld")) "__init__" = some (some (.ref (He.ma K (He.ga K "NotHeld") "__init__")))),
  fun K => decide (PySem.W.findIn K (.ref (He.ga K "NotHelped")) "__init__" = some (some (.ref (He.ma K (He.ga K "NotHelped") "__init__")))),
  fun K => decide (PySem.W.findIn K (.ref (He.ga K "Full")) "__init__" = some (some (.ref (He.ma K (He.ga K "Full") "__init__")))),
  fun K => decide (PySem.W.findIn K (.ref (He.ga K "Lacks")) "__init__" = some (some (.ref (He.ma K (He.ga K "Lacks") "__init__")))),
  fun K => decide (PySem.W.findIn K (.ref (He.ga K "Shut")) "__init__" = some (some (.ref (He.ma K (He.ga K "Shut") "__init__"))))]
def hc4 : List U.Ck := [fun K => decide (PySem.W.findIn K (.ref (He.ga K "Held")) "__init__" = some (some (.ref (He.ma K (He.ga K "Held") "__init__")))),
  fun K => decide (PySem.W.findIn K (.ref (He.ga K "NotClear")) "__init__" = some (some (.ref (He.ma K (He.ga K "NotClear") "__init__")))),
  fun K => decide (PySem.W.findIn K (.ref (He.ga K "NoTickets")) "__init__" = some (some (.ref (He.ma K (He.ga K "NoTickets") "__init__")))),
  fun K => decide (PySem.W.findIn K (.ref (He.ga K "NoRight")) "__init__" = some (some (.ref (He.ma K (He.ga K "NoRight") "__init__")))),
  fun K => decide (PySem.W.findIn K (.ref (He.ga K "NotShut")) "__init__" = some (some (.ref (He.ma K (He.ga K "NotShut") "__init__")))),
  fun K => decide (PySem.W.findIn K (.ref (He.ga K "Taken")) "__init__" = some (some (.ref (He.ma K (He.ga K "Taken") "__init__")))),
  fun K => decide (PySem.W.findIn K (.ref (He.ga K "Boxed")) "__init__" = some (some (.ref (He.ma K (He.ga K "Boxed") "__init__")))),
  fun K => decide (PySem.W.findIn K (.ref (He.ga K "Silent")) "__init__" = some (some (.ref (He.ma K (He.ga K "Silent") "__init__")))),
  fun K => decide (PySem.W.findIn K (.ref (He.ga K "TooMany")) "__init__" = some (some (.ref (He.ma K (He.ga K "TooMany") "__init__")))),
  fun K => decide (PySem.W.findIn K (.ref (He.ga K "NoText")) "__init__" = some (some (.ref (He.ma K (He.ga K "NoText") "__init__")))),
  fun K => decide (PySem.W.findIn K (.ref (He.ga K "Gap")) "__init__" = some (some (.ref (He.ma K (He.ga K "Gap") "__init__")))),
  fun K => decide (PySem.W.findIn K (.ref (He.ga K "NotSo")) "__init__" = some (some (.ref (He.ma K (He.ga K "NotSo") "__init__")))),
  fun K => decide (PySem.W.findIn K (.ref (He.ga K "NoTrip")) "__init__" = some (some (.ref (He.ma K (He.ga K "NoTrip") "__init__")))),
  fun K => decide (PySem.W.findIn K (.ref (He.ga K "NoStart")) "__init__" = some (some (.ref (He.ma K (He.ga K "NoStart") "__init__")))),
  fun K => decide (PySem.W.findIn K (.ref (He.ga K "NoBack")) "__init__" = some (some (.ref (He.ma K (He.ga K "NoBack") "__init__")))),
  fun K => decide (PySem.W.nsIn K mainGlobals "_law_cell" = some (some (.ref (He.ga K "_law_cell")))),
  fun K => decide (PySem.W.nsIn K mainGlobals "_law_box" = some (some (.ref (He.ga K "_law_box")))),
  fun K => decide (PySem.W.nsIn K mainGlobals "_law_take" = some (some (.ref (He.ga K "_law_take")))),
  fun K => decide (PySem.W.nsIn K mainGlobals "_law_thing" = some (some (.ref (He.ga K "_law_thing")))),
  fun K => decide (PySem.W.nsIn K mainGlobals "_law_kinds" = some (some (.ref (He.ga K "_law_kinds"))))]
def hc5 : List U.Ck := [fun K => decide (PySem.W.nsIn K mainGlobals "_law_made" = some (some (.ref (He.ga K "_law_made")))),
  fun K => decide (PySem.W.nsIn K mainGlobals "_law_fields" = some (some (.ref (He.ga K "_law_fields")))),
  fun K => decide (PySem.W.nsIn K mainGlobals "_law_right" = some (some (.ref (He.ga K "_law_right")))),
  fun K => decide (PySem.W.nsIn K mainGlobals "law" = some (some (.ref (He.ga K "law")))),
  fun K => U.errB K (He.ga K "NoName") (He.ma K (He.ga K "NoName") "__init__") "found",
  fun K => U.errB K (He.ga K "NoPlace") (He.ma K (He.ga K "NoPlace") "__init__") "found",
  fun K => U.errB K (He.ga K "NoTrain") (He.ma K (He.ga K "NoTrain") "__init__") "found",
  fun K => U.errB K (He.ga K "NoTrains") (He.ma K (He.ga K "NoTrains") "__init__") "found",
  fun K => U.errB K (He.ga K "NoEnds") (He.ma K (He.ga K "NoEnds") "__init__") "found",
  fun K => U.errB K (He.ga K "NoStretch") (He.ma K (He.ga K "NoStretch") "__init__") "found",
  fun K => U.errB K (He.ga K "NoLong") (He.ma K (He.ga K "NoLong") "__init__") "found",
  fun K => U.errB K (He.ga K "NoPlaces") (He.ma K (He.ga K "NoPlaces") "__init__") "found",
  fun K => U.errB K (He.ga K "NoStretches") (He.ma K (He.ga K "NoStretches") "__init__") "found",
  fun K => U.errB K (He.ga K "NoLongs") (He.ma K (He.ga K "NoLongs") "__init__") "found",
  fun K => U.errB K (He.ga K "NoNumber") (He.ma K (He.ga K "NoNumber") "__init__") "found",
  fun K => U.errB K (He.ga K "NoThing") (He.ma K (He.ga K "NoThing") "__init__") "found",
  fun K => U.errB K (He.ga K "NoKind") (He.ma K (He.ga K "NoKind") "__init__") "found",
  fun K => U.errB K (He.ga K "NoWord") (He.ma K (He.ga K "NoWord") "__init__") "found",
  fun K => U.errB K (He.ga K "NoDeed") (He.ma K (He.ga K "NoDeed") "__init__") "found",
  fun K => U.errB K (He.ga K "NoWay") (He.ma K (He.ga K "NoWay") "__init__") "found"]
def hc6 : List U.Ck := [fun K => U.errB K (He.ga K "NoUse") (He.ma K (He.ga K "NoUse") "__init__") "found",
  fun K => U.errB K (He.ga K "NoBooks") (He.ma K (He.ga K "NoBooks") "__init__") "found",
  fun K => U.errB K (He.ga K "NoRows") (He.ma K (He.ga K "NoRows") "__init__") "found",
  fun K => U.errB K (He.ga K "NoMove") (He.ma K (He.ga K "NoMove") "__init__") "found",
  fun K => U.errB K (He.ga K "NoRuns") (He.ma K (He.ga K "NoRuns") "__init__") "found",
  fun K => U.errB K (He.ga K "NoRun") (He.ma K (He.ga K "NoRun") "__init__") "found",
  fun K => U.errB K (He.ga K "NoLine") (He.ma K (He.ga K "NoLine") "__init__") "found",
  fun K => U.errB K (He.ga K "NoState") (He.ma K (He.ga K "NoState") "__init__") "found",
  fun K => U.errB K (He.ga K "Twice") (He.ma K (He.ga K "Twice") "__init__") "found",
  fun K => U.errB K (He.ga K "NotHere") (He.ma K (He.ga K "NotHere") "__init__") "found",
  fun K => U.errB K (He.ga K "NotIn") (He.ma K (He.ga K "NotIn") "__init__") "found",
  fun K => U.errB K (He.ga K "NotHeld") (He.ma K (He.ga K "NotHeld") "__init__") "found",
  fun K => U.errB K (He.ga K "NotHelped") (He.ma K (He.ga K "NotHelped") "__init__") "found",
  fun K => U.errB K (He.ga K "Full") (He.ma K (He.ga K "Full") "__init__") "found",
  fun K => U.errB K (He.ga K "Lacks") (He.ma K (He.ga K "Lacks") "__init__") "found",
  fun K => U.errB K (He.ga K "Shut") (He.ma K (He.ga K "Shut") "__init__") "found",
  fun K => U.errB K (He.ga K "Held") (He.ma K (He.ga K "Held") "__init__") "found",
  fun K => U.errB K (He.ga K "NotClear") (He.ma K (He.ga K "NotClear") "__init__") "found",
  fun K => U.errB K (He.ga K "NoTickets") (He.ma K (He.ga K "NoTickets") "__init__") "found",
  fun K => U.errB K (He.ga K "NoRight") (He.ma K (He.ga K "NoRight") "__init__") "found"]
def hc7 : List U.Ck := [fun K => U.errB K (He.ga K "NotShut") (He.ma K (He.ga K "NotShut") "__init__") "found",
  fun K => U.errB K (He.ga K "Taken") (He.ma K (He.ga K "Taken") "__init__") "found",
  fun K => U.errB K (He.ga K "Boxed") (He.ma K (He.ga K "Boxed") "__init__") "found",
  fun K => U.errB K (He.ga K "Silent") (He.ma K (He.ga K "Silent") "__init__") "found",
  fun K => U.errB K (He.ga K "TooMany") (He.ma K (He.ga K "TooMany") "__init__") "many",
  fun K => U.errB K (He.ga K "NoText") (He.ma K (He.ga K "NoText") "__init__") "row",
  fun K => U.errB K (He.ga K "Gap") (He.ma K (He.ga K "Gap") "__init__") "number",
  fun K => U.errB K (He.ga K "NotSo") (He.ma K (He.ga K "NotSo") "__init__") "number",
  fun K => U.errB K (He.ga K "NoTrip") (He.ma K (He.ga K "NoTrip") "__init__") "run",
  fun K => U.errB K (He.ga K "NoStart") (He.ma K (He.ga K "NoStart") "__init__") "found",
  fun K => U.errB K (He.ga K "NoBack") (He.ma K (He.ga K "NoBack") "__init__") "found",
  fun K => PySem.W.readsIn K (He.ga K "StaffError") (.type "type"),
  fun K => decide (PySem.W.specialIn K (.ref (He.ga K "StaffError")) "__getattribute__" = some (some (.builtin "type.__getattribute__"))),
  fun K => U.isVal (PySem.W.findCls K (.ref (He.ga K "StaffError")) (.type "type") "__init__") (.builtin "ValueError.__init__"),
  fun K => decide (PySem.W.specialIn K (.builtin "object.__class__") "__get__" = some (some (.builtin "getset_descriptor.__get__"))),
  fun K => decide (PySem.W.takesIn K (.builtin "object.__class__") = some true),
  fun K => PySem.W.excIn K (He.ga K "StaffError") [.type "ValueError", .type "Exception", .type "BaseException", .type "object"] "ValueError.__new__",
  fun K => PySem.W.keepIn K (.ref (He.ga K "StaffError")),
  fun K => U.excCB K (He.ga K "StaffError"),
  fun K => U.tabB K (He.ga K "StaffError") [(He.ga K "NoName"), (He.ga K "NoPlace"), (He.ga K "NoTrain"), (He.ga K "NoTrains"), (He.ga K "NoEnds"), (He.ga K "NoStretch"), (He.ga K "NoLong"), (He.ga K "NoPlaces"), (He.ga K "NoStretches"), (He.ga K "NoLongs"), (He.ga K "NoNumber"), (He.ga K "NoThing"), (He.ga K "NoKind"), (He.ga K "NoWord"), (He.ga K "NoDeed"), (He.ga K "NoWay"), (He.ga K "NoUse"), (He.ga K "NoBooks"), (He.ga K "NoRows"), (He.ga K "NoMove"), (He.ga K "NoRuns"), (He.ga K "NoRun"), (He.ga K "NoLine"), (He.ga K "NoState"), (He.ga K "Twice"), (He.ga K "NotHere"), (He.ga K "NotIn"), (He.ga K "NotHeld"), (He.ga K "NotHelped"), (He.ga K "Full"), (He.ga K "Lacks"), (He.ga K "Shut"), (He.ga K "Held"), (He.ga K "NotClear"), (He.ga K "NoTickets"), (He.ga K "NoRight"), (He.ga K "NotShut"), (He.ga K "Taken"), (He.ga K "Boxed"), (He.ga K "Silent"), (He.ga K "TooMany"), (He.ga K "NoText"), (He.ga K "Gap"), (He.ga K "NotSo"), (He.ga K "NoTrip"), (He.ga K "NoStart"), (He.ga K "NoBack")]]
def hc8 : List U.Ck := [fun K => decide (PySem.W.nsIn K mainGlobals "ValueError" = some none),
  fun K => decide (PySem.W.nsIn K mainGlobals "dict" = some none),
  fun K => decide (PySem.W.nsIn K mainGlobals "enumerate" = some none),
  fun K => decide (PySem.W.nsIn K mainGlobals "isinstance" = some none),
  fun K => decide (PySem.W.nsIn K mainGlobals "len" = some none),
  fun K => decide (PySem.W.nsIn K mainGlobals "list" = some none),
  fun K => decide (PySem.W.nsIn K mainGlobals "max" = some none),
  fun K => decide (PySem.W.nsIn K mainGlobals "min" = some none),
  fun K => decide (PySem.W.nsIn K mainGlobals "range" = some none),
  fun K => decide (PySem.W.nsIn K mainGlobals "repr" = some none)]
def hcks : List (List U.Ck) := [hc0, hc1, hc2, hc3, hc4, hc5, hc6, hc7, hc8]
def d1 : He.DefD := ⟨("NoName", some "__init__"), "__init__", "NoName.__init__", defArgs s_NoName_init, defBody s_NoName_init, defScope s_NoName_init, [], []⟩
def d2 : He.DefD := ⟨("NoPlace", some "__init__"), "__init__", "NoPlace.__init__", defArgs s_NoPlace_init, defBody s_NoPlace_init, defScope s_NoPlace_init, [], []⟩
def d3 : He.DefD := ⟨("NoTrain", some "__init__"), "__init__", "NoTrain.__init__", defArgs s_NoTrain_init, defBody s_NoTrain_init, defScope s_NoTrain_init, [], []⟩
def d4 : He.DefD := ⟨("NoTrains", some "__init__"), "__init__", "NoTrains.__init__", defArgs s_NoTrains_init, defBody s_NoTrains_init, defScope s_NoTrains_init, [], []⟩
def d5 : He.DefD := ⟨("NoEnds", some "__init__"), "__init__", "NoEnds.__init__", defArgs s_NoEnds_init, defBody s_NoEnds_init, defScope s_NoEnds_init, [], []⟩
def d6 : He.DefD := ⟨("NoStretch", some "__init__"), "__init__", "NoStretch.__init__", defArgs s_NoStretch_init, defBody s_NoStretch_init, defScope s_NoStretch_init, [], []⟩
def d7 : He.DefD := ⟨("NoLong", some "__init__"), "__init__", "NoLong.__init__", defArgs s_NoLong_init, defBody s_NoLong_init, defScope s_NoLong_init, [], []⟩
def d8 : He.DefD := ⟨("NoPlaces", some "__init__"), "__init__", "NoPlaces.__init__", defArgs s_NoPlaces_init, defBody s_NoPlaces_init, defScope s_NoPlaces_init, [], []⟩
def d9 : He.DefD := ⟨("NoStretches", some "__init__"), "__init__", "NoStretches.__init__", defArgs s_NoStretches_init, defBody s_NoStretches_init, defScope s_NoStretches_init, [], []⟩
def d10 : He.DefD := ⟨("NoLongs", some "__init__"), "__init__", "NoLongs.__init__", defArgs s_NoLongs_init, defBody s_NoLongs_init, defScope s_NoLongs_init, [], []⟩
def d11 : He.DefD := ⟨("NoNumber", some "__init__"), "__init__", "NoNumber.__init__", defArgs s_NoNumber_init, defBody s_NoNumber_init, defScope s_NoNumber_init, [], []⟩
def d12 : He.DefD := ⟨("NoThing", some "__init__"), "__init__", "NoThing.__init__", defArgs s_NoThing_init, defBody s_NoThing_init, defScope s_NoThing_init, [], []⟩
def d13 : He.DefD := ⟨("NoKind", some "__init__"), "__init__", "NoKind.__init__", defArgs s_NoKind_init, defBody s_NoKind_init, defScope s_NoKind_init, [], []⟩
def d14 : He.DefD := ⟨("NoWord", some "__init__"), "__init__", "NoWord.__init__", defArgs s_NoWord_init, defBody s_NoWord_init, defScope s_NoWord_init, [], []⟩
def d15 : He.DefD := ⟨("NoDeed", some "__init__"), "__init__", "NoDeed.__init__", defArgs s_NoDeed_init, defBody s_NoDeed_init, defScope s_NoDeed_init, [], []⟩
def d16 : He.DefD := ⟨("NoWay", some "__init__"), "__init__", "NoWay.__init__", defArgs s_NoWay_init, defBody s_NoWay_init, defScope s_NoWay_init, [], []⟩
def d17 : He.DefD := ⟨("NoUse", some "__init__"), "__init__", "NoUse.__init__", defArgs s_NoUse_init, defBody s_NoUse_init, defScope s_NoUse_init, [], []⟩
def d18 : He.DefD := ⟨("NoBooks", some "__init__"), "__init__", "NoBooks.__init__", defArgs s_NoBooks_init, defBody s_NoBooks_init, defScope s_NoBooks_init, [], []⟩
def d19 : He.DefD := ⟨("NoRows", some "__init__"), "__init__", "NoRows.__init__", defArgs s_NoRows_init, defBody s_NoRows_init, defScope s_NoRows_init, [], []⟩
def d20 : He.DefD := ⟨("NoMove", some "__init__"), "__init__", "NoMove.__init__", defArgs s_NoMove_init, defBody s_NoMove_init, defScope s_NoMove_init, [], []⟩
def d21 : He.DefD := ⟨("NoRuns", some "__init__"), "__init__", "NoRuns.__init__", defArgs s_NoRuns_init, defBody s_NoRuns_init, defScope s_NoRuns_init, [], []⟩
def d22 : He.DefD := ⟨("NoRun", some "__init__"), "__init__", "NoRun.__init__", defArgs s_NoRun_init, defBody s_NoRun_init, defScope s_NoRun_init, [], []⟩
def d23 : He.DefD := ⟨("NoLine", some "__init__"), "__init__", "NoLine.__init__", defArgs s_NoLine_init, defBody s_NoLine_init, defScope s_NoLine_init, [], []⟩
def d24 : He.DefD := ⟨("NoState", some "__init__"), "__init__", "NoState.__init__", defArgs s_NoState_init, defBody s_NoState_init, defScope s_NoState_init, [], []⟩
def d25 : He.DefD := ⟨("Twice", some "__init__"), "__init__", "Twice.__init__", defArgs s_Twice_init, defBody s_Twice_init, defScope s_Twice_init, [], []⟩
def d26 : He.DefD := ⟨("NotHere", some "__init__"), "__init__", "NotHere.__init__", defArgs s_NotHere_init, defBody s_NotHere_init, defScope s_NotHere_init, [], []⟩
def d27 : He.DefD := ⟨("NotIn", some "__init__"), "__init__", "NotIn.__init__", defArgs s_NotIn_init, defBody s_NotIn_init, defScope s_NotIn_init, [], []⟩
def d28 : He.DefD := ⟨("NotHeld", some "__init__"), "__init__", "NotHeld.__init__", defArgs s_NotHeld_init, defBody s_NotHeld_init, defScope s_NotHeld_init, [], []⟩
def d29 : He.DefD := ⟨("NotHelped", some "__init__"), "__init__", "NotHelped.__init__", defArgs s_NotHelped_init, defBody s_NotHelped_init, defScope s_NotHelped_init, [], []⟩
def d30 : He.DefD := ⟨("Full", some "__init__"), "__init__", "Full.__init__", defArgs s_Full_init, defBody s_Full_init, defScope s_Full_init, [], []⟩
def d31 : He.DefD := ⟨("Lacks", some "__init__"), "__init__", "Lacks.__init__", defArgs s_Lacks_init, defBody s_Lacks_init, defScope s_Lacks_init, [], []⟩
def d32 : He.DefD := ⟨("Shut", some "__init__"), "__init__", "Shut.__init__", defArgs s_Shut_init, defBody s_Shut_init, defScope s_Shut_init, [], []⟩
def d33 : He.DefD := ⟨("Held", some "__init__"), "__init__", "Held.__init__", defArgs s_Held_init, defBody s_Held_init, defScope s_Held_init, [], []⟩
def d34 : He.DefD := ⟨("NotClear", some "__init__"), "__init__", "NotClear.__init__", defArgs s_NotClear_init, defBody s_NotClear_init, defScope s_NotClear_init, [], []⟩
def d35 : He.DefD := ⟨("NoTickets", some "__init__"), "__init__", "NoTickets.__init__", defArgs s_NoTickets_init, defBody s_NoTickets_init, defScope s_NoTickets_init, [], []⟩
def d36 : He.DefD := ⟨("NoRight", some "__init__"), "__init__", "NoRight.__init__", defArgs s_NoRight_init, defBody s_NoRight_init, defScope s_NoRight_init, [], []⟩
def d37 : He.DefD := ⟨("NotShut", some "__init__"), "__init__", "NotShut.__init__", defArgs s_NotShut_init, defBody s_NotShut_init, defScope s_NotShut_init, [], []⟩
def d38 : He.DefD := ⟨("Taken", some "__init__"), "__init__", "Taken.__init__", defArgs s_Taken_init, defBody s_Taken_init, defScope s_Taken_init, [], []⟩
def d39 : He.DefD := ⟨("Boxed", some "__init__"), "__init__", "Boxed.__init__", defArgs s_Boxed_init, defBody s_Boxed_init, defScope s_Boxed_init, [], []⟩
def d40 : He.DefD := ⟨("Silent", some "__init__"), "__init__", "Silent.__init__", defArgs s_Silent_init, defBody s_Silent_init, defScope s_Silent_init, [], []⟩
def d41 : He.DefD := ⟨("TooMany", some "__init__"), "__init__", "TooMany.__init__", defArgs s_TooMany_init, defBody s_TooMany_init, defScope s_TooMany_init, [], []⟩
def d42 : He.DefD := ⟨("NoText", some "__init__"), "__init__", "NoText.__init__", defArgs s_NoText_init, defBody s_NoText_init, defScope s_NoText_init, [], []⟩
def d43 : He.DefD := ⟨("Gap", some "__init__"), "__init__", "Gap.__init__", defArgs s_Gap_init, defBody s_Gap_init, defScope s_Gap_init, [], []⟩
def d44 : He.DefD := ⟨("NotSo", some "__init__"), "__init__", "NotSo.__init__", defArgs s_NotSo_init, defBody s_NotSo_init, defScope s_NotSo_init, [], []⟩
def d45 : He.DefD := ⟨("NoTrip", some "__init__"), "__init__", "NoTrip.__init__", defArgs s_NoTrip_init, defBody s_NoTrip_init, defScope s_NoTrip_init, [], []⟩
def d46 : He.DefD := ⟨("NoStart", some "__init__"), "__init__", "NoStart.__init__", defArgs s_NoStart_init, defBody s_NoStart_init, defScope s_NoStart_init, [], []⟩
def d47 : He.DefD := ⟨("NoBack", some "__init__"), "__init__", "NoBack.__init__", defArgs s_NoBack_init, defBody s_NoBack_init, defScope s_NoBack_init, [], []⟩
def d48 : He.DefD := ⟨("_law_cell", none), "_law_cell", "_law_cell", defArgs s_law_cell, defBody s_law_cell, defScope s_law_cell, [], []⟩
def d49 : He.DefD := ⟨("_law_box", none), "_law_box", "_law_box", defArgs s_law_box, defBody s_law_box, defScope s_law_box, [], []⟩
def d50 : He.DefD := ⟨("_law_take", none), "_law_take", "_law_take", defArgs s_law_take, defBody s_law_take, defScope s_law_take, [], []⟩
def d51 : He.DefD := ⟨("_law_thing", none), "_law_thing", "_law_thing", defArgs s_law_thing, defBody s_law_thing, defScope s_law_thing, [], []⟩
def d52 : He.DefD := ⟨("_law_kinds", none), "_law_kinds", "_law_kinds", defArgs s_law_kinds, defBody s_law_kinds, defScope s_law_kinds, [], []⟩
def d53 : He.DefD := ⟨("_law_made", none), "_law_made", "_law_made", defArgs s_law_made, defBody s_law_made, defScope s_law_made, [], []⟩
def d54 : He.DefD := ⟨("_law_fields", none), "_law_fields", "_law_fields", defArgs s_law_fields, defBody s_law_fields, defScope s_law_fields, [], []⟩
def d55 : He.DefD := ⟨("_law_right", none), "_law_right", "_law_right", defArgs s_law_right, defBody s_law_right, defScope s_law_right, [], []⟩
def d56 : He.DefD := ⟨("law", none), "law", "law", defArgs s_law, defBody s_law, defScope s_law, [], []⟩
def hdefs : List He.DefD := [d1, d2, d3, d4, d5, d6, d7, d8, d9, d10, d11, d12, d13, d14, d15, d16, d17, d18, d19, d20, d21, d22, d23, d24, d25, d26, d27, d28, d29, d30, d31, d32, d33, d34, d35, d36, d37, d38, d39, d40, d41, d42, d43, d44, d45, d46, d47, d48, d49, d50, d51, d52, d53, d54, d55, d56]
abbrev hk : PySem.W.Hook := U.hookU hcks hdefs
def hob (s : PySem.W.SharedT) : He.AlD := U.obsUG hcks hdefs (HandSHeadRun.getT s)
theorem hob_eq (s : PySem.W.SharedT) : hob s = hk.obs s.abs := U.obsUG_eq (HandSHeadRun.getT_eq s)
open HandSHeadRun UH PyProof.Rows L2
noncomputable section
def hst (i : Nat) : Stmt := PySem.Challenge.pw_onestaff_k09_refusals_apart.main.body.getD i (.Pass default)
def hsm (i j : Nat) : Stmt := match hst i with | .ClassDef _ _ _ b _ _ _ _ _ _ _ => b.getD j (.Pass default) | _ => .Pass default
abbrev hkh (P : Params) (x : Str) : Int := PyData.keyHash P x
abbrev hke (P : Params) (x : String) (t : Nat) (v : Value) : DictEntry := .mk (PyData.keyHash P (.ofString x)) (.str (.ofString x) t) v
abbrev htu (xs : List Value) : Obj := .mk (.type "tuple") none (.seq (.mk xs) 0) (.mk [])
abbrev hfi (xs : List Value) : Obj := .mk .none none (.fields (.mk xs)) (.mk [])
abbrev hsu (a b c : Value) : Obj := .mk (.type "super") none (.fields (.mk [a, b, c])) (.mk [])
abbrev hbm (x : String) (a : Nat) : Obj := .mk (.type "builtin_function_or_method") none (.fields (.mk [.builtin x, .ref a])) (.mk [])
abbrev hfr (c l : Nat) (x : String) (t : Nat) (a : Option Value) : Obj := .mk (.type "frame") none .plain (.mk [some (.ref c), some (.ref 3), some (.ref l), a, some (.str (.ofString x) t), none, some (.ref 0)])
abbrev hfu (x y : String) (s : Stmt) (g : Nat) (m c d : Value) : Obj := .mk (if g = 0 then .none else .type "function") none (.func (.mk (.ofString x) (.ofString y) (defArgs s) (.stmts (defBody s)) (defScope s) g [] d .none .none m none c .none 0)) (.mk [])
abbrev hco (x y : String) (t : Nat) (a b c d e f : Int) (g h : Nat) (i : Bool) (j k : Nat) (l m n p : Value) (u v : Int) : Obj := .mk (.type "code") none (.fields (.mk [.str (.ofString x) t, .str (.ofString y) (t + 1), .str (.ofString "/claim/cut.py") (t + 2), .int a 0, .int b 0, .int c 0, .int d 0, .int e 0, .ref h, .bool i, .int f 0, .ref j, l, m, n, p, .int u 0, .int v 0, .str (.ofString "/claim/cut.py") k])) (.mk [])
def henv : Env := { scope := PySem.Challenge.pw_onestaff_k09_refusals_apart.main.scope, locals := mainNs, globals := mainNs, cells := [], code := (.ref 13), frame := some 14 }
def hbd : List Stmt := PySem.Challenge.pw_onestaff_k09_refusals_apart.main.body
def hcd : Code := .body hbd henv
def hq : Pos := (.mk 0 0 0 0)
def ha_11 (P : Params) : Obj := (htu [])
def ha_12 (P : Params) : Obj := (hfi [])
def ha_13 (P : Params) : Obj := (hco "<module>" "<module>" 182 1 0 0 0 0 181 0 11 false 12 186 .none .none .none .none 185 1)
def ha_14 (P : Params) : Obj := (hfr 13 3 "__main__" 164 none)
def hTa (P : Params) : BT := (.node (boot_o_0 P) (.node (boot_o_1 P) (.node (boot_o_3 P) (.node (boot_o_7 P) .nil .nil) (.node (ha_11 P) .nil .nil)) (.node (boot_o_5 P) (.node (boot_o_9 P) .nil .nil) (.node (ha_13 P) .nil .nil))) (.node (boot_o_2 P) (.node (boot_o_4 P) (.node (boot_o_8 P) .nil .nil) (.node (ha_12 P) .nil .nil)) (.node (boot_o_6 P) (.node (boot_o_10 P) .nil .nil) (.node (ha_14 P) .nil .nil))))
def hSa (w : World) (os : OsState) : SharedT := ⟨hTa w.params, 15, (.mk [] [] [] 0 [] [] .false (.mk []) [] 0 .false .false .false 0 [2000, 10, 10] .false 0 .true [] [] 0 .false), #[], (.mk 0 0 0 0), 187, os⟩
def hp_a : Pos := (.mk 0 0 0 0)
set_option maxHeartbeats 0 in
theorem hpre (w : World) (os : OsState) : preF (stepQ (denQ tabQ) PySem.Challenge.pw_onestaff_k09_refusals_apart w) 12 PySem.Challenge.pw_onestaff_k09_refusals_apart w os = some (hSa w os, preQ henv hbd hp_a hq) := by
  kernel_rfl
theorem hA0 (w : World) (os : OsState) : Ahead PySem.Challenge.pw_onestaff_k09_refusals_apart w os henv hq (hSa w os) 13 hbd hcd hp_a := ahead0 hbd (hpre w os) (by kernel_rfl)
def h0_3 (P : Params) : Obj := (.mk (.type "dict") none (.dict (.mk [(hke P "__name__" 165 (.str (.ofString "onestaff.errors") 187)), (hke P "__doc__" 166 .none), (hke P "__package__" 167 .none), (hke P "__loader__" 168 (.builtin "__main__.__loader__#opaque")), (hke P "__spec__" 169 .none), (hke P "__annotations__" 170 (.ref 6)), (hke P "__builtins__" 171 (.ref 4)), (hke P "__file__" 173 (.str (.ofString "/claim/cut.py") 172)), (hke P "__cached__" 174 .none), (hke P "StaffError" 206 (.ref 24)), (hke P "NoName" 231 (.ref 44)), (hke P "NoPlace" 256 (.ref 63)), (hke P "NoTrain" 281 (.ref 82)), (hke P "NoTrains" 306 (.ref 101)), (hke P "NoEnds" 331 (.ref 120)), (hke P "NoStretch" 356 (.ref 139)), (hke P "NoLong" 381 (.ref 158)), (hke P "NoPlaces" 406 (.ref 177)), (hke P "NoStretches" 431 (.ref 196)), (hke P "NoLongs" 456 (.ref 215)), (hke P "NoNumber" 481 (.ref 234)), (hke P "NoThing" 506 (.ref 253)), (hke P "NoKind" 531 (.ref 272)), (hke P "NoWord" 556 (.ref 291)), (hke P "NoDeed" 581 (.ref 310)), (hke P "NoWay" 606 (.ref 329)), (hke P "NoUse" 631 (.ref 348)), (hke P "NoBooks" 656 (.ref 367)), (hke P "NoRows" 681 (.ref 386)), (hke P "NoMove" 706 (.ref 405)), (hke P "NoRuns" 731 (.ref 424)), (hke P "NoRun" 756 (.ref 443))]) 32) (.mk []))
def h0_12 (P : Params) : Obj := (hfi [(.int 2 0), (.int 0 0), (.ref 20), (.int 4 0), (.int 0 0), (.ref 33), (.int 9 0), (.int 0 0), (.ref 52), (.int 14 0), (.int 0 0), (.ref 71), (.int 19 0), (.int 0 0), (.ref 90), (.int 24 0), (.int 0 0), (.ref 109), (.int 29 0), (.int 0 0), (.ref 128), (.int 34 0), (.int 0 0), (.ref 147), (.int 39 0), (.int 0 0), (.ref 166), (.int 44 0), (.int 0 0), (.ref 185), (.int 49 0), (.int 0 0), (.ref 204), (.int 54 0), (.int 0 0), (.ref 223), (.int 59 0), (.int 0 0), (.ref 242), (.int 64 0), (.int 0 0), (.ref 261), (.int 69 0), (.int 0 0), (.ref 280), (.int 74 0), (.int 0 0), (.ref 299), (.int 79 0), (.int 0 0), (.ref 318), (.int 84 0), (.int 0 0), (.ref 337), (.int 89 0), (.int 0 0), (.ref 356), (.int 94 0), (.int 0 0), (.ref 375), (.int 99 0), (.int 0 0), (.ref 394), (.int 104 0), (.int 0 0), (.ref 413), (.int 109 0), (.int 0 0), (.ref 432)])
def h0_15 (P : Params) : Obj := (htu [(.type "ValueError")])
def h0_16 (P : Params) : Obj := (.mk (.type "builtin_function_or_method") none (.fields (.mk [(.builtin "type.__prepare__"), (.type "type")])) (.mk []))
def h0_17 (P : Params) : Obj := (.mk (.type "dict") none (.dict (.mk [(hke P "__module__" 196 (.str (.ofString "onestaff.errors") 187)), (hke P "__qualname__" 198 (.str (.ofString "StaffError") 197)), (hke P "__firstlineno__" 200 (.int 2 199)), (hke P "__static_attributes__" 201 (.ref 22))]) 4) (.mk []))
def h0_18 (P : Params) : Obj := (htu [])
def h0_19 (P : Params) : Obj := (hfi [])
def h0_20 (P : Params) : Obj := (hco "StaffError" "StaffError" 191 2 0 0 0 0 181 0 18 false 19 195 .none .none .none .none 194 2)
def h0_21 (P : Params) : Obj := (hfr 20 17 "onestaff.errors" 187 none)
def h0_22 (P : Params) : Obj := (htu [])
def h0_23 (P : Params) : Obj := (.mk (.type "dict") none (.dict (.mk [(hke P "__module__" 196 (.str (.ofString "onestaff.errors") 187)), (hke P "__firstlineno__" 200 (.int 2 199)), (hke P "__static_attributes__" 201 (.ref 22)), (hke P "__weakref__" 203 (.ref 25)), (hke P "__doc__" 204 .none)]) 3) (.mk []))
def h0_24 (P : Params) : Obj := (.mk (.type "type") none (.cls (.mk (.ofString "StaffError") [(.type "ValueError")] [(.ref 24), (.type "ValueError"), (.type "Exception"), (.type "BaseException"), (.type "object")] 23 (.ofString "StaffError") .true [] [(.ref 44), (.ref 63), (.ref 82), (.ref 101), (.ref 120), (.ref 139), (.ref 158), (.ref 177), (.ref 196), (.ref 215), (.ref 234), (.ref 253), (.ref 272), (.ref 291), (.ref 310), (.ref 329), (.ref 348), (.ref 367), (.ref 386), (.ref 405), (.ref 424), (.ref 443)] .false none .false)) (.mk [(some (.ref 15)), none, (some (.str (.ofString "StaffError") 189)), (some (.str (.ofString "StaffError") 197)), (some (.builtin "ValueError.__new__")), (some (.bool .true))]))
def h0_25 (P : Params) : Obj := (.mk (.type "getset_descriptor") none (.fields (.mk [(.str (.ofString "__weakref__") 202), (.ref 24), (.builtin "ExceptionGroup.__weakref__"), .none])) (.mk []))
def h0_26 (P : Params) : Obj := (hsu (.ref 24) (.ref 24) (.ref 24))
def h0_27 (P : Params) : Obj := (hbm "object.__init_subclass__" 24)
def h0_28 (P : Params) : Obj := (htu [(.ref 24)])
def h0_29 (P : Params) : Obj := (.mk (.type "builtin_function_or_method") none (.fields (.mk [(.builtin "type.__prepare__"), (.type "type")])) (.mk []))
def h0_30 (P : Params) : Obj := (.mk (.type "dict") none (.dict (.mk [(hke P "__module__" 214 (.str (.ofString "onestaff.errors") 187)), (hke P "__qualname__" 216 (.str (.ofString "NoName") 215)), (hke P "__firstlineno__" 218 (.int 4 217)), (hke P "__init__" 226 (.ref 41)), (hke P "__static_attributes__" 228 (.ref 42))]) 5) (.mk []))
def h0_31 (P : Params) : Obj := (htu [])
def h0_32 (P : Params) : Obj := (hfi [(.int 6 0), (.int 4 0), (.ref 40)])
def h0_33 (P : Params) : Obj := (hco "NoName" "NoName" 209 4 0 0 0 0 181 0 31 false 32 213 .none .none .none .none 212 4)
def h0_34 (P : Params) : Obj := (hfr 33 30 "onestaff.errors" 187 none)
def h0_35 (P : Params) : Obj := (htu [])
def h0_36 (P : Params) : Obj := (hfi [])
def h0_37 (P : Params) : Obj := (htu [(.str (.ofString "self") 222), (.str (.ofString "found") 223)])
def h0_38 (P : Params) : Obj := (htu [])
def h0_39 (P : Params) : Obj := (.mk .none none (.func (.mk (.ofString "__init__") (.ofString "NoName.__init__") (defArgs (hsm 2 0)) (.stmts (defBody (hsm 2 0))) (defScope (hsm 2 0)) 0 [] .none .none .none .none none .none .none 0)) (.mk []))
def h0_40 (P : Params) : Obj := (hco "__init__" "NoName.__init__" 219 6 2 0 0 3 181 0 35 true 36 225 .none (.ref 37) (.ref 38) (.ref 39) 224 6)
def h0_41 (P : Params) : Obj := (hfu "__init__" "NoName.__init__" (hsm 2 0) 3 (.str (.ofString "onestaff.errors") 187) (.ref 40) .none)
def h0_42 (P : Params) : Obj := (htu [(.str (.ofString "found") 227)])
def h0_43 (P : Params) : Obj := (.mk (.type "dict") none (.dict (.mk [(hke P "__module__" 214 (.str (.ofString "onestaff.errors") 187)), (hke P "__firstlineno__" 218 (.int 4 217)), (hke P "__init__" 226 (.ref 41)), (hke P "__static_attributes__" 228 (.ref 42)), (hke P "__doc__" 229 .none)]) 2) (.mk []))
def h0_44 (P : Params) : Obj := (.mk (.type "type") none (.cls (.mk (.ofString "NoName") [(.ref 24)] [(.ref 44), (.ref 24), (.type "ValueError"), (.type "Exception"), (.type "BaseException"), (.type "object")] 43 (.ofString "NoName") .true [] [] .false none .false)) (.mk [(some (.ref 28)), none, (some (.str (.ofString "NoName") 207)), (some (.str (.ofString "NoName") 215)), (some (.builtin "ValueError.__new__")), (some (.bool .true))]))
def h0_45 (P : Params) : Obj := (hsu (.ref 44) (.ref 44) (.ref 44))
def h0_46 (P : Params) : Obj := (hbm "object.__init_subclass__" 44)
def h0_47 (P : Params) : Obj := (htu [(.ref 24)])
def h0_48 (P : Params) : Obj := (.mk (.type "builtin_function_or_method") none (.fields (.mk [(.builtin "type.__prepare__"), (.type "type")])) (.mk []))
def h0_49 (P : Params) : Obj := (.mk (.type "dict") none (.dict (.mk [(hke P "__module__" 239 (.str (.ofString "onestaff.errors") 187)), (hke P "__qualname__" 241 (.str (.ofString "NoPlace") 240)), (hke P "__firstlineno__" 243 (.int 9 242)), (hke P "__init__" 251 (.ref 60)), (hke P "__static_attributes__" 253 (.ref 61))]) 5) (.mk []))
def h0_50 (P : Params) : Obj := (htu [])
def h0_51 (P : Params) : Obj := (hfi [(.int 11 0), (.int 4 0), (.ref 59)])
def h0_52 (P : Params) : Obj := (hco "NoPlace" "NoPlace" 234 9 0 0 0 0 181 0 50 false 51 238 .none .none .none .none 237 9)
def h0_53 (P : Params) : Obj := (hfr 52 49 "onestaff.errors" 187 none)
def h0_54 (P : Params) : Obj := (htu [])
def h0_55 (P : Params) : Obj := (hfi [])
def h0_56 (P : Params) : Obj := (htu [(.str (.ofString "self") 247), (.str (.ofString "found") 248)])
def h0_57 (P : Params) : Obj := (htu [])
def h0_58 (P : Params) : Obj := (.mk .none none (.func (.mk (.ofString "__init__") (.ofString "NoPlace.__init__") (defArgs (hsm 3 0)) (.stmts (defBody (hsm 3 0))) (defScope (hsm 3 0)) 0 [] .none .none .none .none none .none .none 0)) (.mk []))
def h0_59 (P : Params) : Obj := (hco "__init__" "NoPlace.__init__" 244 11 2 0 0 3 181 0 54 true 55 250 .none (.ref 56) (.ref 57) (.ref 58) 249 11)
def h0_60 (P : Params) : Obj := (hfu "__init__" "NoPlace.__init__" (hsm 3 0) 3 (.str (.ofString "onestaff.errors") 187) (.ref 59) .none)
def h0_61 (P : Params) : Obj := (htu [(.str (.ofString "found") 252)])
def h0_62 (P : Params) : Obj := (.mk (.type "dict") none (.dict (.mk [(hke P "__module__" 239 (.str (.ofString "onestaff.errors") 187)), (hke P "__firstlineno__" 243 (.int 9 242)), (hke P "__init__" 251 (.ref 60)), (hke P "__static_attributes__" 253 (.ref 61)), (hke P "__doc__" 254 .none)]) 2) (.mk []))
def h0_63 (P : Params) : Obj := (.mk (.type "type") none (.cls (.mk (.ofString "NoPlace") [(.ref 24)] [(.ref 63), (.ref 24), (.type "ValueError"), (.type "Exception"), (.type "BaseException"), (.type "object")] 62 (.ofString "NoPlace") .true [] [] .false none .false)) (.mk [(some (.ref 47)), none, (some (.str (.ofString "NoPlace") 232)), (some (.str (.ofString "NoPlace") 240)), (some (.builtin "ValueError.__new__")), (some (.bool .true))]))
def h0_64 (P : Params) : Obj := (hsu (.ref 63) (.ref 63) (.ref 63))
def h0_65 (P : Params) : Obj := (hbm "object.__init_subclass__" 63)
def h0_66 (P : Params) : Obj := (htu [(.ref 24)])
def h0_67 (P : Params) : Obj := (.mk (.type "builtin_function_or_method") none (.fields (.mk [(.builtin "type.__prepare__"), (.type "type")])) (.mk []))
def h0_68 (P : Params) : Obj := (.mk (.type "dict") none (.dict (.mk [(hke P "__module__" 264 (.str (.ofString "onestaff.errors") 187)), (hke P "__qualname__" 266 (.str (.ofString "NoTrain") 265)), (hke P "__firstlineno__" 268 (.int 14 267)), (hke P "__init__" 276 (.ref 79)), (hke P "__static_attributes__" 278 (.ref 80))]) 5) (.mk []))
def h0_69 (P : Params) : Obj := (htu [])
def h0_70 (P : Params) : Obj := (hfi [(.int 16 0), (.int 4 0), (.ref 78)])
def h0_71 (P : Params) : Obj := (hco "NoTrain" "NoTrain" 259 14 0 0 0 0 181 0 69 false 70 263 .none .none .none .none 262 14)
def h0_72 (P : Params) : Obj := (hfr 71 68 "onestaff.errors" 187 none)
def h0_73 (P : Params) : Obj := (htu [])
def h0_74 (P : Params) : Obj := (hfi [])
def h0_75 (P : Params) : Obj := (htu [(.str (.ofString "self") 272), (.str (.ofString "found") 273)])
def h0_76 (P : Params) : Obj := (htu [])
def h0_77 (P : Params) : Obj := (.mk .none none (.func (.mk (.ofString "__init__") (.ofString "NoTrain.__init__") (defArgs (hsm 4 0)) (.stmts (defBody (hsm 4 0))) (defScope (hsm 4 0)) 0 [] .none .none .none .none none .none .none 0)) (.mk []))
def h0_78 (P : Params) : Obj := (hco "__init__" "NoTrain.__init__" 269 16 2 0 0 3 181 0 73 true 74 275 .none (.ref 75) (.ref 76) (.ref 77) 274 16)
def h0_79 (P : Params) : Obj := (hfu "__init__" "NoTrain.__init__" (hsm 4 0) 3 (.str (.ofString "onestaff.errors") 187) (.ref 78) .none)
def h0_80 (P : Params) : Obj := (htu [(.str (.ofString "found") 277)])
def h0_81 (P : Params) : Obj := (.mk (.type "dict") none (.dict (.mk [(hke P "__module__" 264 (.str (.ofString "onestaff.errors") 187)), (hke P "__firstlineno__" 268 (.int 14 267)), (hke P "__init__" 276 (.ref 79)), (hke P "__static_attributes__" 278 (.ref 80)), (hke P "__doc__" 279 .none)]) 2) (.mk []))
def h0_82 (P : Params) : Obj := (.mk (.type "type") none (.cls (.mk (.ofString "NoTrain") [(.ref 24)] [(.ref 82), (.ref 24), (.type "ValueError"), (.type "Exception"), (.type "BaseException"), (.type "object")] 81 (.ofString "NoTrain") .true [] [] .false none .false)) (.mk [(some (.ref 66)), none, (some (.str (.ofString "NoTrain") 257)), (some (.str (.ofString "NoTrain") 265)), (some (.builtin "ValueError.__new__")), (some (.bool .true))]))
def h0_83 (P : Params) : Obj := (hsu (.ref 82) (.ref 82) (.ref 82))
def h0_84 (P : Params) : Obj := (hbm "object.__init_subclass__" 82)
def h0_85 (P : Params) : Obj := (htu [(.ref 24)])
def h0_86 (P : Params) : Obj := (.mk (.type "builtin_function_or_method") none (.fields (.mk [(.builtin "type.__prepare__"), (.type "type")])) (.mk []))
def h0_87 (P : Params) : Obj := (.mk (.type "dict") none (.dict (.mk [(hke P "__module__" 289 (.str (.ofString "onestaff.errors") 187)), (hke P "__qualname__" 291 (.str (.ofString "NoTrains") 290)), (hke P "__firstlineno__" 293 (.int 19 292)), (hke P "__init__" 301 (.ref 98)), (hke P "__static_attributes__" 303 (.ref 99))]) 5) (.mk []))
def h0_88 (P : Params) : Obj := (htu [])
def h0_89 (P : Params) : Obj := (hfi [(.int 21 0), (.int 4 0), (.ref 97)])
def h0_90 (P : Params) : Obj := (hco "NoTrains" "NoTrains" 284 19 0 0 0 0 181 0 88 false 89 288 .none .none .none .none 287 19)
def h0_91 (P : Params) : Obj := (hfr 90 87 "onestaff.errors" 187 none)
def h0_92 (P : Params) : Obj := (htu [])
def h0_93 (P : Params) : Obj := (hfi [])
def h0_94 (P : Params) : Obj := (htu [(.str (.ofString "self") 297), (.str (.ofString "found") 298)])
def h0_95 (P : Params) : Obj := (htu [])
def h0_96 (P : Params) : Obj := (.mk .none none (.func (.mk (.ofString "__init__") (.ofString "NoTrains.__init__") (defArgs (hsm 5 0)) (.stmts (defBody (hsm 5 0))) (defScope (hsm 5 0)) 0 [] .none .none .none .none none .none .none 0)) (.mk []))
def h0_97 (P : Params) : Obj := (hco "__init__" "NoTrains.__init__" 294 21 2 0 0 3 181 0 92 true 93 300 .none (.ref 94) (.ref 95) (.ref 96) 299 21)
def h0_98 (P : Params) : Obj := (hfu "__init__" "NoTrains.__init__" (hsm 5 0) 3 (.str (.ofString "onestaff.errors") 187) (.ref 97) .none)
def h0_99 (P : Params) : Obj := (htu [(.str (.ofString "found") 302)])
def h0_100 (P : Params) : Obj := (.mk (.type "dict") none (.dict (.mk [(hke P "__module__" 289 (.str (.ofString "onestaff.errors") 187)), (hke P "__firstlineno__" 293 (.int 19 292)), (hke P "__init__" 301 (.ref 98)), (hke P "__static_attributes__" 303 (.ref 99)), (hke P "__doc__" 304 .none)]) 2) (.mk []))
def h0_101 (P : Params) : Obj := (.mk (.type "type") none (.cls (.mk (.ofString "NoTrains") [(.ref 24)] [(.ref 101), (.ref 24), (.type "ValueError"), (.type "Exception"), (.type "BaseException"), (.type "object")] 100 (.ofString "NoTrains") .true [] [] .false none .false)) (.mk [(some (.ref 85)), none, (some (.str (.ofString "NoTrains") 282)), (some (.str (.ofString "NoTrains") 290)), (some (.builtin "ValueError.__new__")), (some (.bool .true))]))
def h0_102 (P : Params) : Obj := (hsu (.ref 101) (.ref 101) (.ref 101))
def h0_103 (P : Params) : Obj := (hbm "object.__init_subclass__" 101)
def h0_104 (P : Params) : Obj := (htu [(.ref 24)])
def h0_105 (P : Params) : Obj := (.mk (.type "builtin_function_or_method") none (.fields (.mk [(.builtin "type.__prepare__"), (.type "type")])) (.mk []))
def h0_106 (P : Params) : Obj := (.mk (.type "dict") none (.dict (.mk [(hke P "__module__" 314 (.str (.ofString "onestaff.errors") 187)), (hke P "__qualname__" 316 (.str (.ofString "NoEnds") 315)), (hke P "__firstlineno__" 318 (.int 24 317)), (hke P "__init__" 326 (.ref 117)), (hke P "__static_attributes__" 328 (.ref 118))]) 5) (.mk []))
def h0_107 (P : Params) : Obj := (htu [])
def h0_108 (P : Params) : Obj := (hfi [(.int 26 0), (.int 4 0), (.ref 116)])
def h0_109 (P : Params) : Obj := (hco "NoEnds" "NoEnds" 309 24 0 0 0 0 181 0 107 false 108 313 .none .none .none .none 312 24)
def h0_110 (P : Params) : Obj := (hfr 109 106 "onestaff.errors" 187 none)
def h0_111 (P : Params) : Obj := (htu [])
def h0_112 (P : Params) : Obj := (hfi [])
def h0_113 (P : Params) : Obj := (htu [(.str (.ofString "self") 322), (.str (.ofString "found") 323)])
def h0_114 (P : Params) : Obj := (htu [])
def h0_115 (P : Params) : Obj := (.mk .none none (.func (.mk (.ofString "__init__") (.ofString "NoEnds.__init__") (defArgs (hsm 6 0)) (.stmts (defBody (hsm 6 0))) (defScope (hsm 6 0)) 0 [] .none .none .none .none none .none .none 0)) (.mk []))
def h0_116 (P : Params) : Obj := (hco "__init__" "NoEnds.__init__" 319 26 2 0 0 3 181 0 111 true 112 325 .none (.ref 113) (.ref 114) (.ref 115) 324 26)
def h0_117 (P : Params) : Obj := (hfu "__init__" "NoEnds.__init__" (hsm 6 0) 3 (.str (.ofString "onestaff.errors") 187) (.ref 116) .none)
def h0_118 (P : Params) : Obj := (htu [(.str (.ofString "found") 327)])
def h0_119 (P : Params) : Obj := (.mk (.type "dict") none (.dict (.mk [(hke P "__module__" 314 (.str (.ofString "onestaff.errors") 187)), (hke P "__firstlineno__" 318 (.int 24 317)), (hke P "__init__" 326 (.ref 117)), (hke P "__static_attributes__" 328 (.ref 118)), (hke P "__doc__" 329 .none)]) 2) (.mk []))
def h0_120 (P : Params) : Obj := (.mk (.type "type") none (.cls (.mk (.ofString "NoEnds") [(.ref 24)] [(.ref 120), (.ref 24), (.type "ValueError"), (.type "Exception"), (.type "BaseException"), (.type "object")] 119 (.ofString "NoEnds") .true [] [] .false none .false)) (.mk [(some (.ref 104)), none, (some (.str (.ofString "NoEnds") 307)), (some (.str (.ofString "NoEnds") 315)), (some (.builtin "ValueError.__new__")), (some (.bool .true))]))
def h0_121 (P : Params) : Obj := (hsu (.ref 120) (.ref 120) (.ref 120))
def h0_122 (P : Params) : Obj := (hbm "object.__init_subclass__" 120)
def h0_123 (P : Params) : Obj := (htu [(.ref 24)])
def h0_124 (P : Params) : Obj := (.mk (.type "builtin_function_or_method") none (.fields (.mk [(.builtin "type.__prepare__"), (.type "type")])) (.mk []))
def h0_125 (P : Params) : Obj := (.mk (.type "dict") none (.dict (.mk [(hke P "__module__" 339 (.str (.ofString "onestaff.errors") 187)), (hke P "__qualname__" 341 (.str (.ofString "NoStretch") 340)), (hke P "__firstlineno__" 343 (.int 29 342)), (hke P "__init__" 351 (.ref 136)), (hke P "__static_attributes__" 353 (.ref 137))]) 5) (.mk []))
def h0_126 (P : Params) : Obj := (htu [])
def h0_127 (P : Params) : Obj := (hfi [(.int 31 0), (.int 4 0), (.ref 135)])
def h0_128 (P : Params) : Obj := (hco "NoStretch" "NoStretch" 334 29 0 0 0 0 181 0 126 false 127 338 .none .none .none .none 337 29)
def h0_129 (P : Params) : Obj := (hfr 128 125 "onestaff.errors" 187 none)
def h0_130 (P : Params) : Obj := (htu [])
def h0_131 (P : Params) : Obj := (hfi [])
def h0_132 (P : Params) : Obj := (htu [(.str (.ofString "self") 347), (.str (.ofString "found") 348)])
def h0_133 (P : Params) : Obj := (htu [])
def h0_134 (P : Params) : Obj := (.mk .none none (.func (.mk (.ofString "__init__") (.ofString "NoStretch.__init__") (defArgs (hsm 7 0)) (.stmts (defBody (hsm 7 0))) (defScope (hsm 7 0)) 0 [] .none .none .none .none none .none .none 0)) (.mk []))
def h0_135 (P : Params) : Obj := (hco "__init__" "NoStretch.__init__" 344 31 2 0 0 3 181 0 130 true 131 350 .none (.ref 132) (.ref 133) (.ref 134) 349 31)
def h0_136 (P : Params) : Obj := (hfu "__init__" "NoStretch.__init__" (hsm 7 0) 3 (.str (.ofString "onestaff.errors") 187) (.ref 135) .none)
def h0_137 (P : Params) : Obj := (htu [(.str (.ofString "found") 352)])
def h0_138 (P : Params) : Obj := (.mk (.type "dict") none (.dict (.mk [(hke P "__module__" 339 (.str (.ofString "onestaff.errors") 187)), (hke P "__firstlineno__" 343 (.int 29 342)), (hke P "__init__" 351 (.ref 136)), (hke P "__static_attributes__" 353 (.ref 137)), (hke P "__doc__" 354 .none)]) 2) (.mk []))
def h0_139 (P : Params) : Obj := (.mk (.type "type") none (.cls (.mk (.ofString "NoStretch") [(.ref 24)] [(.ref 139), (.ref 24), (.type "ValueError"), (.type "Exception"), (.type "BaseException"), (.type "object")] 138 (.ofString "NoStretch") .true [] [] .false none .false)) (.mk [(some (.ref 123)), none, (some (.str (.ofString "NoStretch") 332)), (some (.str (.ofString "NoStretch") 340)), (some (.builtin "ValueError.__new__")), (some (.bool .true))]))
def h0_140 (P : Params) : Obj := (hsu (.ref 139) (.ref 139) (.ref 139))
def h0_141 (P : Params) : Obj := (hbm "object.__init_subclass__" 139)
def h0_142 (P : Params) : Obj := (htu [(.ref 24)])
def h0_143 (P : Params) : Obj := (.mk (.type "builtin_function_or_method") none (.fields (.mk [(.builtin "type.__prepare__"), (.type "type")])) (.mk []))
def h0_144 (P : Params) : Obj := (.mk (.type "dict") none (.dict (.mk [(hke P "__module__" 364 (.str (.ofString "onestaff.errors") 187)), (hke P "__qualname__" 366 (.str (.ofString "NoLong") 365)), (hke P "__firstlineno__" 368 (.int 34 367)), (hke P "__init__" 376 (.ref 155)), (hke P "__static_attributes__" 378 (.ref 156))]) 5) (.mk []))
def h0_145 (P : Params) : Obj := (htu [])
def h0_146 (P : Params) : Obj := (hfi [(.int 36 0), (.int 4 0), (.ref 154)])
def h0_147 (P : Params) : Obj := (hco "NoLong" "NoLong" 359 34 0 0 0 0 181 0 145 false 146 363 .none .none .none .none 362 34)
def h0_148 (P : Params) : Obj := (hfr 147 144 "onestaff.errors" 187 none)
def h0_149 (P : Params) : Obj := (htu [])
def h0_150 (P : Params) : Obj := (hfi [])
def h0_151 (P : Params) : Obj := (htu [(.str (.ofString "self") 372), (.str (.ofString "found") 373)])
def h0_152 (P : Params) : Obj := (htu [])
def h0_153 (P : Params) : Obj := (.mk .none none (.func (.mk (.ofString "__init__") (.ofString "NoLong.__init__") (defArgs (hsm 8 0)) (.stmts (defBody (hsm 8 0))) (defScope (hsm 8 0)) 0 [] .none .none .none .none none .none .none 0)) (.mk []))
def h0_154 (P : Params) : Obj := (hco "__init__" "NoLong.__init__" 369 36 2 0 0 3 181 0 149 true 150 375 .none (.ref 151) (.ref 152) (.ref 153) 374 36)
def h0_155 (P : Params) : Obj := (hfu "__init__" "NoLong.__init__" (hsm 8 0) 3 (.str (.ofString "onestaff.errors") 187) (.ref 154) .none)
def h0_156 (P : Params) : Obj := (htu [(.str (.ofString "found") 377)])
def h0_157 (P : Params) : Obj := (.mk (.type "dict") none (.dict (.mk [(hke P "__module__" 364 (.str (.ofString "onestaff.errors") 187)), (hke P "__firstlineno__" 368 (.int 34 367)), (hke P "__init__" 376 (.ref 155)), (hke P "__static_attributes__" 378 (.ref 156)), (hke P "__doc__" 379 .none)]) 2) (.mk []))
def h0_158 (P : Params) : Obj := (.mk (.type "type") none (.cls (.mk (.ofString "NoLong") [(.ref 24)] [(.ref 158), (.ref 24), (.type "ValueError"), (.type "Exception"), (.type "BaseException"), (.type "object")] 157 (.ofString "NoLong") .true [] [] .false none .false)) (.mk [(some (.ref 142)), none, (some (.str (.ofString "NoLong") 357)), (some (.str (.ofString "NoLong") 365)), (some (.builtin "ValueError.__new__")), (some (.bool .true))]))
def h0_159 (P : Params) : Obj := (hsu (.ref 158) (.ref 158) (.ref 158))
def h0_160 (P : Params) : Obj := (hbm "object.__init_subclass__" 158)
def h0_161 (P : Params) : Obj := (htu [(.ref 24)])
def h0_162 (P : Params) : Obj := (.mk (.type "builtin_function_or_method") none (.fields (.mk [(.builtin "type.__prepare__"), (.type "type")])) (.mk []))
def h0_163 (P : Params) : Obj := (.mk (.type "dict") none (.dict (.mk [(hke P "__module__" 389 (.str (.ofString "onestaff.errors") 187)), (hke P "__qualname__" 391 (.str (.ofString "NoPlaces") 390)), (hke P "__firstlineno__" 393 (.int 39 392)), (hke P "__init__" 401 (.ref 174)), (hke P "__static_attributes__" 403 (.ref 175))]) 5) (.mk []))
def h0_164 (P : Params) : Obj := (htu [])
def h0_165 (P : Params) : Obj := (hfi [(.int 41 0), (.int 4 0), (.ref 173)])
def h0_166 (P : Params) : Obj := (hco "NoPlaces" "NoPlaces" 384 39 0 0 0 0 181 0 164 false 165 388 .none .none .none .none 387 39)
def h0_167 (P : Params) : Obj := (hfr 166 163 "onestaff.errors" 187 none)
def h0_168 (P : Params) : Obj := (htu [])
def h0_169 (P : Params) : Obj := (hfi [])
def h0_170 (P : Params) : Obj := (htu [(.str (.ofString "self") 397), (.str (.ofString "found") 398)])
def h0_171 (P : Params) : Obj := (htu [])
def h0_172 (P : Params) : Obj := (.mk .none none (.func (.mk (.ofString "__init__") (.ofString "NoPlaces.__init__") (defArgs (hsm 9 0)) (.stmts (defBody (hsm 9 0))) (defScope (hsm 9 0)) 0 [] .none .none .none .none none .none .none 0)) (.mk []))
def h0_173 (P : Params) : Obj := (hco "__init__" "NoPlaces.__init__" 394 41 2 0 0 3 181 0 168 true 169 400 .none (.ref 170) (.ref 171) (.ref 172) 399 41)
def h0_174 (P : Params) : Obj := (hfu "__init__" "NoPlaces.__init__" (hsm 9 0) 3 (.str (.ofString "onestaff.errors") 187) (.ref 173) .none)
def h0_175 (P : Params) : Obj := (htu [(.str (.ofString "found") 402)])
def h0_176 (P : Params) : Obj := (.mk (.type "dict") none (.dict (.mk [(hke P "__module__" 389 (.str (.ofString "onestaff.errors") 187)), (hke P "__firstlineno__" 393 (.int 39 392)), (hke P "__init__" 401 (.ref 174)), (hke P "__static_attributes__" 403 (.ref 175)), (hke P "__doc__" 404 .none)]) 2) (.mk []))
def h0_177 (P : Params) : Obj := (.mk (.type "type") none (.cls (.mk (.ofString "NoPlaces") [(.ref 24)] [(.ref 177), (.ref 24), (.type "ValueError"), (.type "Exception"), (.type "BaseException"), (.type "object")] 176 (.ofString "NoPlaces") .true [] [] .false none .false)) (.mk [(some (.ref 161)), none, (some (.str (.ofString "NoPlaces") 382)), (some (.str (.ofString "NoPlaces") 390)), (some (.builtin "ValueError.__new__")), (some (.bool .true))]))
def h0_178 (P : Params) : Obj := (hsu (.ref 177) (.ref 177) (.ref 177))
def h0_179 (P : Params) : Obj := (hbm "object.__init_subclass__" 177)
def h0_180 (P : Params) : Obj := (htu [(.ref 24)])
def h0_181 (P : Params) : Obj := (.mk (.type "builtin_function_or_method") none (.fields (.mk [(.builtin "type.__prepare__"), (.type "type")])) (.mk []))
def h0_182 (P : Params) : Obj := (.mk (.type "dict") none (.dict (.mk [(hke P "__module__" 414 (.str (.ofString "onestaff.errors") 187)), (hke P "__qualname__" 416 (.str (.ofString "NoStretches") 415)), (hke P "__firstlineno__" 418 (.int 44 417)), (hke P "__init__" 426 (.ref 193)), (hke P "__static_attributes__" 428 (.ref 194))]) 5) (.mk []))
def h0_183 (P : Params) : Obj := (htu [])
def h0_184 (P : Params) : Obj := (hfi [(.int 46 0), (.int 4 0), (.ref 192)])
def h0_185 (P : Params) : Obj := (hco "NoStretches" "NoStretches" 409 44 0 0 0 0 181 0 183 false 184 413 .none .none .none .none 412 44)
def h0_186 (P : Params) : Obj := (hfr 185 182 "onestaff.errors" 187 none)
def h0_187 (P : Params) : Obj := (htu [])
def h0_188 (P : Params) : Obj := (hfi [])
def h0_189 (P : Params) : Obj := (htu [(.str (.ofString "self") 422), (.str (.ofString "found") 423)])
def h0_190 (P : Params) : Obj := (htu [])
def h0_191 (P : Params) : Obj := (.mk .none none (.func (.mk (.ofString "__init__") (.ofString "NoStretches.__init__") (defArgs (hsm 10 0)) (.stmts (defBody (hsm 10 0))) (defScope (hsm 10 0)) 0 [] .none .none .none .none none .none .none 0)) (.mk []))
def h0_192 (P : Params) : Obj := (hco "__init__" "NoStretches.__init__" 419 46 2 0 0 3 181 0 187 true 188 425 .none (.ref 189) (.ref 190) (.ref 191) 424 46)
def h0_193 (P : Params) : Obj := (hfu "__init__" "NoStretches.__init__" (hsm 10 0) 3 (.str (.ofString "onestaff.errors") 187) (.ref 192) .none)
def h0_194 (P : Params) : Obj := (htu [(.str (.ofString "found") 427)])
def h0_195 (P : Params) : Obj := (.mk (.type "dict") none (.dict (.mk [(hke P "__module__" 414 (.str (.ofString "onestaff.errors") 187)), (hke P "__firstlineno__" 418 (.int 44 417)), (hke P "__init__" 426 (.ref 193)), (hke P "__static_attributes__" 428 (.ref 194)), (hke P "__doc__" 429 .none)]) 2) (.mk []))
def h0_196 (P : Params) : Obj := (.mk (.type "type") none (.cls (.mk (.ofString "NoStretches") [(.ref 24)] [(.ref 196), (.ref 24), (.type "ValueError"), (.type "Exception"), (.type "BaseException"), (.type "object")] 195 (.ofString "NoStretches") .true [] [] .false none .false)) (.mk [(some (.ref 180)), none, (some (.str (.ofString "NoStretches") 407)), (some (.str (.ofString "NoStretches") 415)), (some (.builtin "ValueError.__new__")), (some (.bool .true))]))
def h0_197 (P : Params) : Obj := (hsu (.ref 196) (.ref 196) (.ref 196))
def h0_198 (P : Params) : Obj := (hbm "object.__init_subclass__" 196)
def h0_199 (P : Params) : Obj := (htu [(.ref 24)])
def h0_200 (P : Params) : Obj := (.mk (.type "builtin_function_or_method") none (.fields (.mk [(.builtin "type.__prepare__"), (.type "type")])) (.mk []))
def h0_201 (P : Params) : Obj := (.mk (.type "dict") none (.dict (.mk [(hke P "__module__" 439 (.str (.ofString "onestaff.errors") 187)), (hke P "__qualname__" 441 (.str (.ofString "NoLongs") 440)), (hke P "__firstlineno__" 443 (.int 49 442)), (hke P "__init__" 451 (.ref 212)), (hke P "__static_attributes__" 453 (.ref 213))]) 5) (.mk []))
def h0_202 (P : Params) : Obj := (htu [])
def h0_203 (P : Params) : Obj := (hfi [(.int 51 0), (.int 4 0), (.ref 211)])
def h0_204 (P : Params) : Obj := (hco "NoLongs" "NoLongs" 434 49 0 0 0 0 181 0 202 false 203 438 .none .none .none .none 437 49)
def h0_205 (P : Params) : Obj := (hfr 204 201 "onestaff.errors" 187 none)
def h0_206 (P : Params) : Obj := (htu [])
def h0_207 (P : Params) : Obj := (hfi [])
def h0_208 (P : Params) : Obj := (htu [(.str (.ofString "self") 447), (.str (.ofString "found") 448)])
def h0_209 (P : Params) : Obj := (htu [])
def h0_210 (P : Params) : Obj := (.mk .none none (.func (.mk (.ofString "__init__") (.ofString "NoLongs.__init__") (defArgs (hsm 11 0)) (.stmts (defBody (hsm 11 0))) (defScope (hsm 11 0)) 0 [] .none .none .none .none none .none .none 0)) (.mk []))
def h0_211 (P : Params) : Obj := (hco "__init__" "NoLongs.__init__" 444 51 2 0 0 3 181 0 206 true 207 450 .none (.ref 208) (.ref 209) (.ref 210) 449 51)
def h0_212 (P : Params) : Obj := (hfu "__init__" "NoLongs.__init__" (hsm 11 0) 3 (.str (.ofString "onestaff.errors") 187) (.ref 211) .none)
def h0_213 (P : Params) : Obj := (htu [(.str (.ofString "found") 452)])
def h0_214 (P : Params) : Obj := (.mk (.type "dict") none (.dict (.mk [(hke P "__module__" 439 (.str (.ofString "onestaff.errors") 187)), (hke P "__firstlineno__" 443 (.int 49 442)), (hke P "__init__" 451 (.ref 212)), (hke P "__static_attributes__" 453 (.ref 213)), (hke P "__doc__" 454 .none)]) 2) (.mk []))
def h0_215 (P : Params) : Obj := (.mk (.type "type") none (.cls (.mk (.ofString "NoLongs") [(.ref 24)] [(.ref 215), (.ref 24), (.type "ValueError"), (.type "Exception"), (.type "BaseException"), (.type "object")] 214 (.ofString "NoLongs") .true [] [] .false none .false)) (.mk [(some (.ref 199)), none, (some (.str (.ofString "NoLongs") 432)), (some (.str (.ofString "NoLongs") 440)), (some (.builtin "ValueError.__new__")), (some (.bool .true))]))
def h0_216 (P : Params) : Obj := (hsu (.ref 215) (.ref 215) (.ref 215))
def h0_217 (P : Params) : Obj := (hbm "object.__init_subclass__" 215)
def h0_218 (P : Params) : Obj := (htu [(.ref 24)])
def h0_219 (P : Params) : Obj := (.mk (.type "builtin_function_or_method") none (.fields (.mk [(.builtin "type.__prepare__"), (.type "type")])) (.mk []))
def h0_220 (P : Params) : Obj := (.mk (.type "dict") none (.dict (.mk [(hke P "__module__" 464 (.str (.ofString "onestaff.errors") 187)), (hke P "__qualname__" 466 (.str (.ofString "NoNumber") 465)), (hke P "__firstlineno__" 468 (.int 54 467)), (hke P "__init__" 476 (.ref 231)), (hke P "__static_attributes__" 478 (.ref 232))]) 5) (.mk []))
def h0_221 (P : Params) : Obj := (htu [])
def h0_222 (P : Params) : Obj := (hfi [(.int 56 0), (.int 4 0), (.ref 230)])
def h0_223 (P : Params) : Obj := (hco "NoNumber" "NoNumber" 459 54 0 0 0 0 181 0 221 false 222 463 .none .none .none .none 462 54)
def h0_224 (P : Params) : Obj := (hfr 223 220 "onestaff.errors" 187 none)
def h0_225 (P : Params) : Obj := (htu [])
def h0_226 (P : Params) : Obj := (hfi [])
def h0_227 (P : Params) : Obj := (htu [(.str (.ofString "self") 472), (.str (.ofString "found") 473)])
def h0_228 (P : Params) : Obj := (htu [])
def h0_229 (P : Params) : Obj := (.mk .none none (.func (.mk (.ofString "__init__") (.ofString "NoNumber.__init__") (defArgs (hsm 12 0)) (.stmts (defBody (hsm 12 0))) (defScope (hsm 12 0)) 0 [] .none .none .none .none none .none .none 0)) (.mk []))
def h0_230 (P : Params) : Obj := (hco "__init__" "NoNumber.__init__" 469 56 2 0 0 3 181 0 225 true 226 475 .none (.ref 227) (.ref 228) (.ref 229) 474 56)
def h0_231 (P : Params) : Obj := (hfu "__init__" "NoNumber.__init__" (hsm 12 0) 3 (.str (.ofString "onestaff.errors") 187) (.ref 230) .none)
def h0_232 (P : Params) : Obj := (htu [(.str (.ofString "found") 477)])
def h0_233 (P : Params) : Obj := (.mk (.type "dict") none (.dict (.mk [(hke P "__module__" 464 (.str (.ofString "onestaff.errors") 187)), (hke P "__firstlineno__" 468 (.int 54 467)), (hke P "__init__" 476 (.ref 231)), (hke P "__static_attributes__" 478 (.ref 232)), (hke P "__doc__" 479 .none)]) 2) (.mk []))
def h0_234 (P : Params) : Obj := (.mk (.type "type") none (.cls (.mk (.ofString "NoNumber") [(.ref 24)] [(.ref 234), (.ref 24), (.type "ValueError"), (.type "Exception"), (.type "BaseException"), (.type "object")] 233 (.ofString "NoNumber") .true [] [] .false none .false)) (.mk [(some (.ref 218)), none, (some (.str (.ofString "NoNumber") 457)), (some (.str (.ofString "NoNumber") 465)), (some (.builtin "ValueError.__new__")), (some (.bool .true))]))
def h0_235 (P : Params) : Obj := (hsu (.ref 234) (.ref 234) (.ref 234))
def h0_236 (P : Params) : Obj := (hbm "object.__init_subclass__" 234)
def h0_237 (P : Params) : Obj := (htu [(.ref 24)])
def h0_238 (P : Params) : Obj := (.mk (.type "builtin_function_or_method") none (.fields (.mk [(.builtin "type.__prepare__"), (.type "type")])) (.mk []))
def h0_239 (P : Params) : Obj := (.mk (.type "dict") none (.dict (.mk [(hke P "__module__" 489 (.str (.ofString "onestaff.errors") 187)), (hke P "__qualname__" 491 (.str (.ofString "NoThing") 490)), (hke P "__firstlineno__" 493 (.int 59 492)), (hke P "__init__" 501 (.ref 250)), (hke P "__static_attributes__" 503 (.ref 251))]) 5) (.mk []))
def h0_240 (P : Params) : Obj := (htu [])
def h0_241 (P : Params) : Obj := (hfi [(.int 61 0), (.int 4 0), (.ref 249)])
def h0_242 (P : Params) : Obj := (hco "NoThing" "NoThing" 484 59 0 0 0 0 181 0 240 false 241 488 .none .none .none .none 487 59)
def h0_243 (P : Params) : Obj := (hfr 242 239 "onestaff.errors" 187 none)
def h0_244 (P : Params) : Obj := (htu [])
def h0_245 (P : Params) : Obj := (hfi [])
def h0_246 (P : Params) : Obj := (htu [(.str (.ofString "self") 497), (.str (.ofString "found") 498)])
def h0_247 (P : Params) : Obj := (htu [])
def h0_248 (P : Params) : Obj := (.mk .none none (.func (.mk (.ofString "__init__") (.ofString "NoThing.__init__") (defArgs (hsm 13 0)) (.stmts (defBody (hsm 13 0))) (defScope (hsm 13 0)) 0 [] .none .none .none .none none .none .none 0)) (.mk []))
def h0_249 (P : Params) : Obj := (hco "__init__" "NoThing.__init__" 494 61 2 0 0 3 181 0 244 true 245 500 .none (.ref 246) (.ref 247) (.ref 248) 499 61)
def h0_250 (P : Params) : Obj := (hfu "__init__" "NoThing.__init__" (hsm 13 0) 3 (.str (.ofString "onestaff.errors") 187) (.ref 249) .none)
def h0_251 (P : Params) : Obj := (htu [(.str (.ofString "found") 502)])
def h0_252 (P : Params) : Obj := (.mk (.type "dict") none (.dict (.mk [(hke P "__module__" 489 (.str (.ofString "onestaff.errors") 187)), (hke P "__firstlineno__" 493 (.int 59 492)), (hke P "__init__" 501 (.ref 250)), (hke P "__static_attributes__" 503 (.ref 251)), (hke P "__doc__" 504 .none)]) 2) (.mk []))
def h0_253 (P : Params) : Obj := (.mk (.type "type") none (.cls (.mk (.ofString "NoThing") [(.ref 24)] [(.ref 253), (.ref 24), (.type "ValueError"), (.type "Exception"), (.type "BaseException"), (.type "object")] 252 (.ofString "NoThing") .true [] [] .false none .false)) (.mk [(some (.ref 237)), none, (some (.str (.ofString "NoThing") 482)), (some (.str (.ofString "NoThing") 490)), (some (.builtin "ValueError.__new__")), (some (.bool .true))]))
def h0_254 (P : Params) : Obj := (hsu (.ref 253) (.ref 253) (.ref 253))
def h0_255 (P : Params) : Obj := (hbm "object.__init_subclass__" 253)
def h0_256 (P : Params) : Obj := (htu [(.ref 24)])
def h0_257 (P : Params) : Obj := (.mk (.type "builtin_function_or_method") none (.fields (.mk [(.builtin "type.__prepare__"), (.type "type")])) (.mk []))
def h0_258 (P : Params) : Obj := (.mk (.type "dict") none (.dict (.mk [(hke P "__module__" 514 (.str (.ofString "onestaff.errors") 187)), (hke P "__qualname__" 516 (.str (.ofString "NoKind") 515)), (hke P "__firstlineno__" 518 (.int 64 517)), (hke P "__init__" 526 (.ref 269)), (hke P "__static_attributes__" 528 (.ref 270))]) 5) (.mk []))
def h0_259 (P : Params) : Obj := (htu [])
def h0_260 (P : Params) : Obj := (hfi [(.int 66 0), (.int 4 0), (.ref 268)])
def h0_261 (P : Params) : Obj := (hco "NoKind" "NoKind" 509 64 0 0 0 0 181 0 259 false 260 513 .none .none .none .none 512 64)
def h0_262 (P : Params) : Obj := (hfr 261 258 "onestaff.errors" 187 none)
def h0_263 (P : Params) : Obj := (htu [])
def h0_264 (P : Params) : Obj := (hfi [])
def h0_265 (P : Params) : Obj := (htu [(.str (.ofString "self") 522), (.str (.ofString "found") 523)])
def h0_266 (P : Params) : Obj := (htu [])
def h0_267 (P : Params) : Obj := (.mk .none none (.func (.mk (.ofString "__init__") (.ofString "NoKind.__init__") (defArgs (hsm 14 0)) (.stmts (defBody (hsm 14 0))) (defScope (hsm 14 0)) 0 [] .none .none .none .none none .none .none 0)) (.mk []))
def h0_268 (P : Params) : Obj := (hco "__init__" "NoKind.__init__" 519 66 2 0 0 3 181 0 263 true 264 525 .none (.ref 265) (.ref 266) (.ref 267) 524 66)
def h0_269 (P : Params) : Obj := (hfu "__init__" "NoKind.__init__" (hsm 14 0) 3 (.str (.ofString "onestaff.errors") 187) (.ref 268) .none)
def h0_270 (P : Params) : Obj := (htu [(.str (.ofString "found") 527)])
def h0_271 (P : Params) : Obj := (.mk (.type "dict") none (.dict (.mk [(hke P "__module__" 514 (.str (.ofString "onestaff.errors") 187)), (hke P "__firstlineno__" 518 (.int 64 517)), (hke P "__init__" 526 (.ref 269)), (hke P "__static_attributes__" 528 (.ref 270)), (hke P "__doc__" 529 .none)]) 2) (.mk []))
def h0_272 (P : Params) : Obj := (.mk (.type "type") none (.cls (.mk (.ofString "NoKind") [(.ref 24)] [(.ref 272), (.ref 24), (.type "ValueError"), (.type "Exception"), (.type "BaseException"), (.type "object")] 271 (.ofString "NoKind") .true [] [] .false none .false)) (.mk [(some (.ref 256)), none, (some (.str (.ofString "NoKind") 507)), (some (.str (.ofString "NoKind") 515)), (some (.builtin "ValueError.__new__")), (some (.bool .true))]))
def h0_273 (P : Params) : Obj := (hsu (.ref 272) (.ref 272) (.ref 272))
def h0_274 (P : Params) : Obj := (hbm "object.__init_subclass__" 272)
def h0_275 (P : Params) : Obj := (htu [(.ref 24)])
def h0_276 (P : Params) : Obj := (.mk (.type "builtin_function_or_method") none (.fields (.mk [(.builtin "type.__prepare__"), (.type "type")])) (.mk []))
def h0_277 (P : Params) : Obj := (.mk (.type "dict") none (.dict (.mk [(hke P "__module__" 539 (.str (.ofString "onestaff.errors") 187)), (hke P "__qualname__" 541 (.str (.ofString "NoWord") 540)), (hke P "__firstlineno__" 543 (.int 69 542)), (hke P "__init__" 551 (.ref 288)), (hke P "__static_attributes__" 553 (.ref 289))]) 5) (.mk []))
def h0_278 (P : Params) : Obj := (htu [])
def h0_279 (P : Params) : Obj := (hfi [(.int 71 0), (.int 4 0), (.ref 287)])
def h0_280 (P : Params) : Obj := (hco "NoWord" "NoWord" 534 69 0 0 0 0 181 0 278 false 279 538 .none .none .none .none 537 69)
def h0_281 (P : Params) : Obj := (hfr 280 277 "onestaff.errors" 187 none)
def h0_282 (P : Params) : Obj := (htu [])
def h0_283 (P : Params) : Obj := (hfi [])
def h0_284 (P : Params) : Obj := (htu [(.str (.ofString "self") 547), (.str (.ofString "found") 548)])
def h0_285 (P : Params) : Obj := (htu [])
def h0_286 (P : Params) : Obj := (.mk .none none (.func (.mk (.ofString "__init__") (.ofString "NoWord.__init__") (defArgs (hsm 15 0)) (.stmts (defBody (hsm 15 0))) (defScope (hsm 15 0)) 0 [] .none .none .none .none none .none .none 0)) (.mk []))
def h0_287 (P : Params) : Obj := (hco "__init__" "NoWord.__init__" 544 71 2 0 0 3 181 0 282 true 283 550 .none (.ref 284) (.ref 285) (.ref 286) 549 71)
def h0_288 (P : Params) : Obj := (hfu "__init__" "NoWord.__init__" (hsm 15 0) 3 (.str (.ofString "onestaff.errors") 187) (.ref 287) .none)
def h0_289 (P : Params) : Obj := (htu [(.str (.ofString "found") 552)])
def h0_290 (P : Params) : Obj := (.mk (.type "dict") none (.dict (.mk [(hke P "__module__" 539 (.str (.ofString "onestaff.errors") 187)), (hke P "__firstlineno__" 543 (.int 69 542)), (hke P "__init__" 551 (.ref 288)), (hke P "__static_attributes__" 553 (.ref 289)), (hke P "__doc__" 554 .none)]) 2) (.mk []))
def h0_291 (P : Params) : Obj := (.mk (.type "type") none (.cls (.mk (.ofString "NoWord") [(.ref 24)] [(.ref 291), (.ref 24), (.type "ValueError"), (.type "Exception"), (.type "BaseException"), (.type "object")] 290 (.ofString "NoWord") .true [] [] .false none .false)) (.mk [(some (.ref 275)), none, (some (.str (.ofString "NoWord") 532)), (some (.str (.ofString "NoWord") 540)), (some (.builtin "ValueError.__new__")), (some (.bool .true))]))
def h0_292 (P : Params) : Obj := (hsu (.ref 291) (.ref 291) (.ref 291))
def h0_293 (P : Params) : Obj := (hbm "object.__init_subclass__" 291)
def h0_294 (P : Params) : Obj := (htu [(.ref 24)])
def h0_295 (P : Params) : Obj := (.mk (.type "builtin_function_or_method") none (.fields (.mk [(.builtin "type.__prepare__"), (.type "type")])) (.mk []))
def h0_296 (P : Params) : Obj := (.mk (.type "dict") none (.dict (.mk [(hke P "__module__" 564 (.str (.ofString "onestaff.errors") 187)), (hke P "__qualname__" 566 (.str (.ofString "NoDeed") 565)), (hke P "__firstlineno__" 568 (.int 74 567)), (hke P "__init__" 576 (.ref 307)), (hke P "__static_attributes__" 578 (.ref 308))]) 5) (.mk []))
def h0_297 (P : Params) : Obj := (htu [])
def h0_298 (P : Params) : Obj := (hfi [(.int 76 0), (.int 4 0), (.ref 306)])
def h0_299 (P : Params) : Obj := (hco "NoDeed" "NoDeed" 559 74 0 0 0 0 181 0 297 false 298 563 .none .none .none .none 562 74)
def h0_300 (P : Params) : Obj := (hfr 299 296 "onestaff.errors" 187 none)
def h0_301 (P : Params) : Obj := (htu [])
def h0_302 (P : Params) : Obj := (hfi [])
def h0_303 (P : Params) : Obj := (htu [(.str (.ofString "self") 572), (.str (.ofString "found") 573)])
def h0_304 (P : Params) : Obj := (htu [])
def h0_305 (P : Params) : Obj := (.mk .none none (.func (.mk (.ofString "__init__") (.ofString "NoDeed.__init__") (defArgs (hsm 16 0)) (.stmts (defBody (hsm 16 0))) (defScope (hsm 16 0)) 0 [] .none .none .none .none none .none .none 0)) (.mk []))
def h0_306 (P : Params) : Obj := (hco "__init__" "NoDeed.__init__" 569 76 2 0 0 3 181 0 301 true 302 575 .none (.ref 303) (.ref 304) (.ref 305) 574 76)
def h0_307 (P : Params) : Obj := (hfu "__init__" "NoDeed.__init__" (hsm 16 0) 3 (.str (.ofString "onestaff.errors") 187) (.ref 306) .none)
def h0_308 (P : Params) : Obj := (htu [(.str (.ofString "found") 577)])
def h0_309 (P : Params) : Obj := (.mk (.type "dict") none (.dict (.mk [(hke P "__module__" 564 (.str (.ofString "onestaff.errors") 187)), (hke P "__firstlineno__" 568 (.int 74 567)), (hke P "__init__" 576 (.ref 307)), (hke P "__static_attributes__" 578 (.ref 308)), (hke P "__doc__" 579 .none)]) 2) (.mk []))
def h0_310 (P : Params) : Obj := (.mk (.type "type") none (.cls (.mk (.ofString "NoDeed") [(.ref 24)] [(.ref 310), (.ref 24), (.type "ValueError"), (.type "Exception"), (.type "BaseException"), (.type "object")] 309 (.ofString "NoDeed") .true [] [] .false none .false)) (.mk [(some (.ref 294)), none, (some (.str (.ofString "NoDeed") 557)), (some (.str (.ofString "NoDeed") 565)), (some (.builtin "ValueError.__new__")), (some (.bool .true))]))
def h0_311 (P : Params) : Obj := (hsu (.ref 310) (.ref 310) (.ref 310))
def h0_312 (P : Params) : Obj := (hbm "object.__init_subclass__" 310)
def h0_313 (P : Params) : Obj := (htu [(.ref 24)])
def h0_314 (P : Params) : Obj := (.mk (.type "builtin_function_or_method") none (.fields (.mk [(.builtin "type.__prepare__"), (.type "type")])) (.mk []))
def h0_315 (P : Params) : Obj := (.mk (.type "dict") none (.dict (.mk [(hke P "__module__" 589 (.str (.ofString "onestaff.errors") 187)), (hke P "__qualname__" 591 (.str (.ofString "NoWay") 590)), (hke P "__firstlineno__" 593 (.int 79 592)), (hke P "__init__" 601 (.ref 326)), (hke P "__static_attributes__" 603 (.ref 327))]) 5) (.mk []))
def h0_316 (P : Params) : Obj := (htu [])
def h0_317 (P : Params) : Obj := (hfi [(.int 81 0), (.int 4 0), (.ref 325)])
def h0_318 (P : Params) : Obj := (hco "NoWay" "NoWay" 584 79 0 0 0 0 181 0 316 false 317 588 .none .none .none .none 587 79)
def h0_319 (P : Params) : Obj := (hfr 318 315 "onestaff.errors" 187 none)
def h0_320 (P : Params) : Obj := (htu [])
def h0_321 (P : Params) : Obj := (hfi [])
def h0_322 (P : Params) : Obj := (htu [(.str (.ofString "self") 597), (.str (.ofString "found") 598)])
def h0_323 (P : Params) : Obj := (htu [])
def h0_324 (P : Params) : Obj := (.mk .none none (.func (.mk (.ofString "__init__") (.ofString "NoWay.__init__") (defArgs (hsm 17 0)) (.stmts (defBody (hsm 17 0))) (defScope (hsm 17 0)) 0 [] .none .none .none .none none .none .none 0)) (.mk []))
def h0_325 (P : Params) : Obj := (hco "__init__" "NoWay.__init__" 594 81 2 0 0 3 181 0 320 true 321 600 .none (.ref 322) (.ref 323) (.ref 324) 599 81)
def h0_326 (P : Params) : Obj := (hfu "__init__" "NoWay.__init__" (hsm 17 0) 3 (.str (.ofString "onestaff.errors") 187) (.ref 325) .none)
def h0_327 (P : Params) : Obj := (htu [(.str (.ofString "found") 602)])
def h0_328 (P : Params) : Obj := (.mk (.type "dict") none (.dict (.mk [(hke P "__module__" 589 (.str (.ofString "onestaff.errors") 187)), (hke P "__firstlineno__" 593 (.int 79 592)), (hke P "__init__" 601 (.ref 326)), (hke P "__static_attributes__" 603 (.ref 327)), (hke P "__doc__" 604 .none)]) 2) (.mk []))
def h0_329 (P : Params) : Obj := (.mk (.type "type") none (.cls (.mk (.ofString "NoWay") [(.ref 24)] [(.ref 329), (.ref 24), (.type "ValueError"), (.type "Exception"), (.type "BaseException"), (.type "object")] 328 (.ofString "NoWay") .true [] [] .false none .false)) (.mk [(some (.ref 313)), none, (some (.str (.ofString "NoWay") 582)), (some (.str (.ofString "NoWay") 590)), (some (.builtin "ValueError.__new__")), (some (.bool .true))]))
def h0_330 (P : Params) : Obj := (hsu (.ref 329) (.ref 329) (.ref 329))
def h0_331 (P : Params) : Obj := (hbm "object.__init_subclass__" 329)
def h0_332 (P : Params) : Obj := (htu [(.ref 24)])
def h0_333 (P : Params) : Obj := (.mk (.type "builtin_function_or_method") none (.fields (.mk [(.builtin "type.__prepare__"), (.type "type")])) (.mk []))
def h0_334 (P : Params) : Obj := (.mk (.type "dict") none (.dict (.mk [(hke P "__module__" 614 (.str (.ofString "onestaff.errors") 187)), (hke P "__qualname__" 616 (.str (.ofString "NoUse") 615)), (hke P "__firstlineno__" 618 (.int 84 617)), (hke P "__init__" 626 (.ref 345)), (hke P "__static_attributes__" 628 (.ref 346))]) 5) (.mk []))
def h0_335 (P : Params) : Obj := (htu [])
def h0_336 (P : Params) : Obj := (hfi [(.int 86 0), (.int 4 0), (.ref 344)])
def h0_337 (P : Params) : Obj := (hco "NoUse" "NoUse" 609 84 0 0 0 0 181 0 335 false 336 613 .none .none .none .none 612 84)
def h0_338 (P : Params) : Obj := (hfr 337 334 "onestaff.errors" 187 none)
def h0_339 (P : Params) : Obj := (htu [])
def h0_340 (P : Params) : Obj := (hfi [])
def h0_341 (P : Params) : Obj := (htu [(.str (.ofString "self") 622), (.str (.ofString "found") 623)])
def h0_342 (P : Params) : Obj := (htu [])
def h0_343 (P : Params) : Obj := (.mk .none none (.func (.mk (.ofString "__init__") (.ofString "NoUse.__init__") (defArgs (hsm 18 0)) (.stmts (defBody (hsm 18 0))) (defScope (hsm 18 0)) 0 [] .none .none .none .none none .none .none 0)) (.mk []))
def h0_344 (P : Params) : Obj := (hco "__init__" "NoUse.__init__" 619 86 2 0 0 3 181 0 339 true 340 625 .none (.ref 341) (.ref 342) (.ref 343) 624 86)
def h0_345 (P : Params) : Obj := (hfu "__init__" "NoUse.__init__" (hsm 18 0) 3 (.str (.ofString "onestaff.errors") 187) (.ref 344) .none)
def h0_346 (P : Params) : Obj := (htu [(.str (.ofString "found") 627)])
def h0_347 (P : Params) : Obj := (.mk (.type "dict") none (.dict (.mk [(hke P "__module__" 614 (.str (.ofString "onestaff.errors") 187)), (hke P "__firstlineno__" 618 (.int 84 617)), (hke P "__init__" 626 (.ref 345)), (hke P "__static_attributes__" 628 (.ref 346)), (hke P "__doc__" 629 .none)]) 2) (.mk []))
def h0_348 (P : Params) : Obj := (.mk (.type "type") none (.cls (.mk (.ofString "NoUse") [(.ref 24)] [(.ref 348), (.ref 24), (.type "ValueError"), (.type "Exception"), (.type "BaseException"), (.type "object")] 347 (.ofString "NoUse") .true [] [] .false none .false)) (.mk [(some (.ref 332)), none, (some (.str (.ofString "NoUse") 607)), (some (.str (.ofString "NoUse") 615)), (some (.builtin "ValueError.__new__")), (some (.bool .true))]))
def h0_349 (P : Params) : Obj := (hsu (.ref 348) (.ref 348) (.ref 348))
def h0_350 (P : Params) : Obj := (hbm "object.__init_subclass__" 348)
def h0_351 (P : Params) : Obj := (htu [(.ref 24)])
def h0_352 (P : Params) : Obj := (.mk (.type "builtin_function_or_method") none (.fields (.mk [(.builtin "type.__prepare__"), (.type "type")])) (.mk []))
def h0_353 (P : Params) : Obj := (.mk (.type "dict") none (.dict (.mk [(hke P "__module__" 639 (.str (.ofString "onestaff.errors") 187)), (hke P "__qualname__" 641 (.str (.ofString "NoBooks") 640)), (hke P "__firstlineno__" 643 (.int 89 642)), (hke P "__init__" 651 (.ref 364)), (hke P "__static_attributes__" 653 (.ref 365))]) 5) (.mk []))
def h0_354 (P : Params) : Obj := (htu [])
def h0_355 (P : Params) : Obj := (hfi [(.int 91 0), (.int 4 0), (.ref 363)])
def h0_356 (P : Params) : Obj := (hco "NoBooks" "NoBooks" 634 89 0 0 0 0 181 0 354 false 355 638 .none .none .none .none 637 89)
def h0_357 (P : Params) : Obj := (hfr 356 353 "onestaff.errors" 187 none)
def h0_358 (P : Params) : Obj := (htu [])
def h0_359 (P : Params) : Obj := (hfi [])
def h0_360 (P : Params) : Obj := (htu [(.str (.ofString "self") 647), (.str (.ofString "found") 648)])
def h0_361 (P : Params) : Obj := (htu [])
def h0_362 (P : Params) : Obj := (.mk .none none (.func (.mk (.ofString "__init__") (.ofString "NoBooks.__init__") (defArgs (hsm 19 0)) (.stmts (defBody (hsm 19 0))) (defScope (hsm 19 0)) 0 [] .none .none .none .none none .none .none 0)) (.mk []))
def h0_363 (P : Params) : Obj := (hco "__init__" "NoBooks.__init__" 644 91 2 0 0 3 181 0 358 true 359 650 .none (.ref 360) (.ref 361) (.ref 362) 649 91)
def h0_364 (P : Params) : Obj := (hfu "__init__" "NoBooks.__init__" (hsm 19 0) 3 (.str (.ofString "onestaff.errors") 187) (.ref 363) .none)
def h0_365 (P : Params) : Obj := (htu [(.str (.ofString "found") 652)])
def h0_366 (P : Params) : Obj := (.mk (.type "dict") none (.dict (.mk [(hke P "__module__" 639 (.str (.ofString "onestaff.errors") 187)), (hke P "__firstlineno__" 643 (.int 89 642)), (hke P "__init__" 651 (.ref 364)), (hke P "__static_attributes__" 653 (.ref 365)), (hke P "__doc__" 654 .none)]) 2) (.mk []))
def h0_367 (P : Params) : Obj := (.mk (.type "type") none (.cls (.mk (.ofString "NoBooks") [(.ref 24)] [(.ref 367), (.ref 24), (.type "ValueError"), (.type "Exception"), (.type "BaseException"), (.type "object")] 366 (.ofString "NoBooks") .true [] [] .false none .false)) (.mk [(some (.ref 351)), none, (some (.str (.ofString "NoBooks") 632)), (some (.str (.ofString "NoBooks") 640)), (some (.builtin "ValueError.__new__")), (some (.bool .true))]))
def h0_368 (P : Params) : Obj := (hsu (.ref 367) (.ref 367) (.ref 367))
def h0_369 (P : Params) : Obj := (hbm "object.__init_subclass__" 367)
def h0_370 (P : Params) : Obj := (htu [(.ref 24)])
def h0_371 (P : Params) : Obj := (.mk (.type "builtin_function_or_method") none (.fields (.mk [(.builtin "type.__prepare__"), (.type "type")])) (.mk []))
def h0_372 (P : Params) : Obj := (.mk (.type "dict") none (.dict (.mk [(hke P "__module__" 664 (.str (.ofString "onestaff.errors") 187)), (hke P "__qualname__" 666 (.str (.ofString "NoRows") 665)), (hke P "__firstlineno__" 668 (.int 94 667)), (hke P "__init__" 676 (.ref 383)), (hke P "__static_attributes__" 678 (.ref 384))]) 5) (.mk []))
def h0_373 (P : Params) : Obj := (htu [])
def h0_374 (P : Params) : Obj := (hfi [(.int 96 0), (.int 4 0), (.ref 382)])
def h0_375 (P : Params) : Obj := (hco "NoRows" "NoRows" 659 94 0 0 0 0 181 0 373 false 374 663 .none .none .none .none 662 94)
def h0_376 (P : Params) : Obj := (hfr 375 372 "onestaff.errors" 187 none)
def h0_377 (P : Params) : Obj := (htu [])
def h0_378 (P : Params) : Obj := (hfi [])
def h0_379 (P : Params) : Obj := (htu [(.str (.ofString "self") 672), (.str (.ofString "found") 673)])
def h0_380 (P : Params) : Obj := (htu [])
def h0_381 (P : Params) : Obj := (.mk .none none (.func (.mk (.ofString "__init__") (.ofString "NoRows.__init__") (defArgs (hsm 20 0)) (.stmts (defBody (hsm 20 0))) (defScope (hsm 20 0)) 0 [] .none .none .none .none none .none .none 0)) (.mk []))
def h0_382 (P : Params) : Obj := (hco "__init__" "NoRows.__init__" 669 96 2 0 0 3 181 0 377 true 378 675 .none (.ref 379) (.ref 380) (.ref 381) 674 96)
def h0_383 (P : Params) : Obj := (hfu "__init__" "NoRows.__init__" (hsm 20 0) 3 (.str (.ofString "onestaff.errors") 187) (.ref 382) .none)
def h0_384 (P : Params) : Obj := (htu [(.str (.ofString "found") 677)])
def h0_385 (P : Params) : Obj := (.mk (.type "dict") none (.dict (.mk [(hke P "__module__" 664 (.str (.ofString "onestaff.errors") 187)), (hke P "__firstlineno__" 668 (.int 94 667)), (hke P "__init__" 676 (.ref 383)), (hke P "__static_attributes__" 678 (.ref 384)), (hke P "__doc__" 679 .none)]) 2) (.mk []))
def h0_386 (P : Params) : Obj := (.mk (.type "type") none (.cls (.mk (.ofString "NoRows") [(.ref 24)] [(.ref 386), (.ref 24), (.type "ValueError"), (.type "Exception"), (.type "BaseException"), (.type "object")] 385 (.ofString "NoRows") .true [] [] .false none .false)) (.mk [(some (.ref 370)), none, (some (.str (.ofString "NoRows") 657)), (some (.str (.ofString "NoRows") 665)), (some (.builtin "ValueError.__new__")), (some (.bool .true))]))
def h0_387 (P : Params) : Obj := (hsu (.ref 386) (.ref 386) (.ref 386))
def h0_388 (P : Params) : Obj := (hbm "object.__init_subclass__" 386)
def h0_389 (P : Params) : Obj := (htu [(.ref 24)])
def h0_390 (P : Params) : Obj := (.mk (.type "builtin_function_or_method") none (.fields (.mk [(.builtin "type.__prepare__"), (.type "type")])) (.mk []))
def h0_391 (P : Params) : Obj := (.mk (.type "dict") none (.dict (.mk [(hke P "__module__" 689 (.str (.ofString "onestaff.errors") 187)), (hke P "__qualname__" 691 (.str (.ofString "NoMove") 690)), (hke P "__firstlineno__" 693 (.int 99 692)), (hke P "__init__" 701 (.ref 402)), (hke P "__static_attributes__" 703 (.ref 403))]) 5) (.mk []))
def h0_392 (P : Params) : Obj := (htu [])
def h0_393 (P : Params) : Obj := (hfi [(.int 101 0), (.int 4 0), (.ref 401)])
def h0_394 (P : Params) : Obj := (hco "NoMove" "NoMove" 684 99 0 0 0 0 181 0 392 false 393 688 .none .none .none .none 687 99)
def h0_395 (P : Params) : Obj := (hfr 394 391 "onestaff.errors" 187 none)
def h0_396 (P : Params) : Obj := (htu [])
def h0_397 (P : Params) : Obj := (hfi [])
def h0_398 (P : Params) : Obj := (htu [(.str (.ofString "self") 697), (.str (.ofString "found") 698)])
def h0_399 (P : Params) : Obj := (htu [])
def h0_400 (P : Params) : Obj := (.mk .none none (.func (.mk (.ofString "__init__") (.ofString "NoMove.__init__") (defArgs (hsm 21 0)) (.stmts (defBody (hsm 21 0))) (defScope (hsm 21 0)) 0 [] .none .none .none .none none .none .none 0)) (.mk []))
def h0_401 (P : Params) : Obj := (hco "__init__" "NoMove.__init__" 694 101 2 0 0 3 181 0 396 true 397 700 .none (.ref 398) (.ref 399) (.ref 400) 699 101)
def h0_402 (P : Params) : Obj := (hfu "__init__" "NoMove.__init__" (hsm 21 0) 3 (.str (.ofString "onestaff.errors") 187) (.ref 401) .none)
def h0_403 (P : Params) : Obj := (htu [(.str (.ofString "found") 702)])
def h0_404 (P : Params) : Obj := (.mk (.type "dict") none (.dict (.mk [(hke P "__module__" 689 (.str (.ofString "onestaff.errors") 187)), (hke P "__firstlineno__" 693 (.int 99 692)), (hke P "__init__" 701 (.ref 402)), (hke P "__static_attributes__" 703 (.ref 403)), (hke P "__doc__" 704 .none)]) 2) (.mk []))
def h0_405 (P : Params) : Obj := (.mk (.type "type") none (.cls (.mk (.ofString "NoMove") [(.ref 24)] [(.ref 405), (.ref 24), (.type "ValueError"), (.type "Exception"), (.type "BaseException"), (.type "object")] 404 (.ofString "NoMove") .true [] [] .false none .false)) (.mk [(some (.ref 389)), none, (some (.str (.ofString "NoMove") 682)), (some (.str (.ofString "NoMove") 690)), (some (.builtin "ValueError.__new__")), (some (.bool .true))]))
def h0_406 (P : Params) : Obj := (hsu (.ref 405) (.ref 405) (.ref 405))
def h0_407 (P : Params) : Obj := (hbm "object.__init_subclass__" 405)
def h0_408 (P : Params) : Obj := (htu [(.ref 24)])
def h0_409 (P : Params) : Obj := (.mk (.type "builtin_function_or_method") none (.fields (.mk [(.builtin "type.__prepare__"), (.type "type")])) (.mk []))
def h0_410 (P : Params) : Obj := (.mk (.type "dict") none (.dict (.mk [(hke P "__module__" 714 (.str (.ofString "onestaff.errors") 187)), (hke P "__qualname__" 716 (.str (.ofString "NoRuns") 715)), (hke P "__firstlineno__" 718 (.int 104 717)), (hke P "__init__" 726 (.ref 421)), (hke P "__static_attributes__" 728 (.ref 422))]) 5) (.mk []))
def h0_411 (P : Params) : Obj := (htu [])
def h0_412 (P : Params) : Obj := (hfi [(.int 106 0), (.int 4 0), (.ref 420)])
def h0_413 (P : Params) : Obj := (hco "NoRuns" "NoRuns" 709 104 0 0 0 0 181 0 411 false 412 713 .none .none .none .none 712 104)
def h0_414 (P : Params) : Obj := (hfr 413 410 "onestaff.errors" 187 none)
def h0_415 (P : Params) : Obj := (htu [])
def h0_416 (P : Params) : Obj := (hfi [])
def h0_417 (P : Params) : Obj := (htu [(.str (.ofString "self") 722), (.str (.ofString "found") 723)])
def h0_418 (P : Params) : Obj := (htu [])
def h0_419 (P : Params) : Obj := (.mk .none none (.func (.mk (.ofString "__init__") (.ofString "NoRuns.__init__") (defArgs (hsm 22 0)) (.stmts (defBody (hsm 22 0))) (defScope (hsm 22 0)) 0 [] .none .none .none .none none .none .none 0)) (.mk []))
def h0_420 (P : Params) : Obj := (hco "__init__" "NoRuns.__init__" 719 106 2 0 0 3 181 0 415 true 416 725 .none (.ref 417) (.ref 418) (.ref 419) 724 106)
def h0_421 (P : Params) : Obj := (hfu "__init__" "NoRuns.__init__" (hsm 22 0) 3 (.str (.ofString "onestaff.errors") 187) (.ref 420) .none)
def h0_422 (P : Params) : Obj := (htu [(.str (.ofString "found") 727)])
def h0_423 (P : Params) : Obj := (.mk (.type "dict") none (.dict (.mk [(hke P "__module__" 714 (.str (.ofString "onestaff.errors") 187)), (hke P "__firstlineno__" 718 (.int 104 717)), (hke P "__init__" 726 (.ref 421)), (hke P "__static_attributes__" 728 (.ref 422)), (hke P "__doc__" 729 .none)]) 2) (.mk []))
def h0_424 (P : Params) : Obj := (.mk (.type "type") none (.cls (.mk (.ofString "NoRuns") [(.ref 24)] [(.ref 424), (.ref 24), (.type "ValueError"), (.type "Exception"), (.type "BaseException"), (.type "object")] 423 (.ofString "NoRuns") .true [] [] .false none .false)) (.mk [(some (.ref 408)), none, (some (.str (.ofString "NoRuns") 707)), (some (.str (.ofString "NoRuns") 715)), (some (.builtin "ValueError.__new__")), (some (.bool .true))]))
def h0_425 (P : Params) : Obj := (hsu (.ref 424) (.ref 424) (.ref 424))
def h0_426 (P : Params) : Obj := (hbm "object.__init_subclass__" 424)
def h0_427 (P : Params) : Obj := (htu [(.ref 24)])
def h0_428 (P : Params) : Obj := (.mk (.type "builtin_function_or_method") none (.fields (.mk [(.builtin "type.__prepare__"), (.type "type")])) (.mk []))
def h0_429 (P : Params) : Obj := (.mk (.type "dict") none (.dict (.mk [(hke P "__module__" 739 (.str (.ofString "onestaff.errors") 187)), (hke P "__qualname__" 741 (.str (.ofString "NoRun") 740)), (hke P "__firstlineno__" 743 (.int 109 742)), (hke P "__init__" 751 (.ref 440)), (hke P "__static_attributes__" 753 (.ref 441))]) 5) (.mk []))
def h0_430 (P : Params) : Obj := (htu [])
def h0_431 (P : Params) : Obj := (hfi [(.int 111 0), (.int 4 0), (.ref 439)])
def h0_432 (P : Params) : Obj := (hco "NoRun" "NoRun" 734 109 0 0 0 0 181 0 430 false 431 738 .none .none .none .none 737 109)
def h0_433 (P : Params) : Obj := (hfr 432 429 "onestaff.errors" 187 none)
def h0_434 (P : Params) : Obj := (htu [])
def h0_435 (P : Params) : Obj := (hfi [])
def h0_436 (P : Params) : Obj := (htu [(.str (.ofString "self") 747), (.str (.ofString "found") 748)])
def h0_437 (P : Params) : Obj := (htu [])
def h0_438 (P : Params) : Obj := (.mk .none none (.func (.mk (.ofString "__init__") (.ofString "NoRun.__init__") (defArgs (hsm 23 0)) (.stmts (defBody (hsm 23 0))) (defScope (hsm 23 0)) 0 [] .none .none .none .none none .none .none 0)) (.mk []))
def h0_439 (P : Params) : Obj := (hco "__init__" "NoRun.__init__" 744 111 2 0 0 3 181 0 434 true 435 750 .none (.ref 436) (.ref 437) (.ref 438) 749 111)
def h0_440 (P : Params) : Obj := (hfu "__init__" "NoRun.__init__" (hsm 23 0) 3 (.str (.ofString "onestaff.errors") 187) (.ref 439) .none)
def h0_441 (P : Params) : Obj := (htu [(.str (.ofString "found") 752)])
def h0_442 (P : Params) : Obj := (.mk (.type "dict") none (.dict (.mk [(hke P "__module__" 739 (.str (.ofString "onestaff.errors") 187)), (hke P "__firstlineno__" 743 (.int 109 742)), (hke P "__init__" 751 (.ref 440)), (hke P "__static_attributes__" 753 (.ref 441)), (hke P "__doc__" 754 .none)]) 2) (.mk []))
def h0_443 (P : Params) : Obj := (.mk (.type "type") none (.cls (.mk (.ofString "NoRun") [(.ref 24)] [(.ref 443), (.ref 24), (.type "ValueError"), (.type "Exception"), (.type "BaseException"), (.type "object")] 442 (.ofString "NoRun") .true [] [] .false none .false)) (.mk [(some (.ref 427)), none, (some (.str (.ofString "NoRun") 732)), (some (.str (.ofString "NoRun") 740)), (some (.builtin "ValueError.__new__")), (some (.bool .true))]))
def h0_444 (P : Params) : Obj := (hsu (.ref 443) (.ref 443) (.ref 443))
def h0_445 (P : Params) : Obj := (hbm "object.__init_subclass__" 443)
def hT0 (P : Params) : BT := (.node (boot_o_0 P) (.node (boot_o_1 P) (.node (h0_3 P) (.node (boot_o_7 P) (.node (h0_15 P) (.node (h0_31 P) (.node (h0_63 P) (.node (h0_127 P) (.node (h0_255 P) .nil .nil) (.node (h0_383 P) .nil .nil)) (.node (h0_191 P) (.node (h0_319 P) .nil .nil) .nil)) (.node (h0_95 P) (.node (h0_159 P) (.node (h0_287 P) .nil .nil) (.node (h0_415 P) .nil .nil)) (.node (h0_223 P) (.node (h0_351 P) .nil .nil) .nil))) (.node (h0_47 P) (.node (h0_79 P) (.node (h0_143 P) (.node (h0_271 P) .nil .nil) (.node (h0_399 P) .nil .nil)) (.node (h0_207 P) (.node (h0_335 P) .nil .nil) .nil)) (.node (h0_111 P) (.node (h0_175 P) (.node (h0_303 P) .nil .nil) (.node (h0_431 P) .nil .nil)) (.node (h0_239 P) (.node (h0_367 P) .nil .nil) .nil)))) (.node (h0_23 P) (.node (h0_39 P) (.node (h0_71 P) (.node (h0_135 P) (.node (h0_263 P) .nil .nil) (.node (h0_391 P) .nil .nil)) (.node (h0_199 P) (.node (h0_327 P) .nil .nil) .nil)) (.node (h0_103 P) (.node (h0_167 P) (.node (h0_295 P) .nil .nil) (.node (h0_423 P) .nil .nil)) (.node (h0_231 P) (.node (h0_359 P) .nil .nil) .nil))) (.node (h0_55 P) (.node (h0_87 P) (.node (h0_151 P) (.node (h0_279 P) .nil .nil) (.node (h0_407 P) .nil .nil)) (.node (h0_215 P) (.node (h0_343 P) .nil .nil) .nil)) (.node (h0_119 P) (.node (h0_183 P) (.node (h0_311 P) .nil .nil) (.node (h0_439 P) .nil .nil)) (.node (h0_247 P) (.node (h0_375 P) .nil .nil) .nil))))) (.node (ha_11 P) (.node (h0_19 P) (.node (h0_35 P) (.node (h0_67 P) (.node (h0_131 P) (.node (h0_259 P) .nil .nil) (.node (h0_387 P) .nil .nil)) (.node (h0_195 P) (.node (h0_323 P) .nil .nil) .nil)) (.node (h0_99 P) (.node (h0_163 P) (.node (h0_291 P) .nil .nil) (.node (h0_419 P) .nil .nil)) (.node (h0_227 P) (.node (h0_355 P) .nil .nil) .nil))) (.node (h0_51 P) (.node (h0_83 P) (.node (h0_147 P) (.node (h0_275 P) .nil .nil) (.node (h0_403 P) .nil .nil)) (.node (h0_211 P) (.node (h0_339 P) .nil .nil) .nil)) (.node (h0_115 P) (.node (h0_179 P) (.node (h0_307 P) .nil .nil) (.node (h0_435 P) .nil .nil)) (.node (h0_243 P) (.node (h0_371 P) .nil .nil) .nil)))) (.node (h0_27 P) (.node (h0_43 P) (.node (h0_75 P) (.node (h0_139 P) (.node (h0_267 P) .nil .nil) (.node (h0_395 P) .nil .nil)) (.node (h0_203 P) (.node (h0_331 P) .nil .nil) .nil)) (.node (h0_107 P) (.node (h0_171 P) (.node (h0_299 P) .nil .nil) (.node (h0_427 P) .nil .nil)) (.node (h0_235 P) (.node (h0_363 P) .nil .nil) .nil))) (.node (h0_59 P) (.node (h0_91 P) (.node (h0_155 P) (.node (h0_283 P) .nil .nil) (.node (h0_411 P) .nil .nil)) (.node (h0_219 P) (.node (h0_347 P) .nil .nil) .nil)) (.node (h0_123 P) (.node (h0_187 P) (.node (h0_315 P) .nil .nil) (.node (h0_443 P) .nil .nil)) (.node (h0_251 P) (.node (h0_379 P) .nil .nil) .nil)))))) (.node (boot_o_5 P) (.node (boot_o_9 P) (.node (h0_17 P) (.node (h0_33 P) (.node (h0_65 P) (.node (h0_129 P) (.node (h0_257 P) .nil .nil) (.node (h0_385 P) .nil .nil)) (.node (h0_193 P) (.node (h0_321 P) .nil .nil) .nil)) (.node (h0_97 P) (.node (h0_161 P) (.node (h0_289 P) .nil .nil) (.node (h0_417 P) .nil .nil)) (.node (h0_225 P) (.node (h0_353 P) .nil .nil) .nil))) (.node (h0_49 P) (.node (h0_81 P) (.node (h0_145 P) (.node (h0_273 P) .nil .nil) (.node (h0_401 P) .nil .nil)) (.node (h0_209 P) (.node (h0_337 P) .nil .nil) .nil)) (.node (h0_113 P) (.node (h0_177 P) (.node (h0_305 P) .nil .nil) (.node (h0_433 P) .nil .nil)) (.node (h0_241 P) (.node (h0_369 P) .nil .nil) .nil)))) (.node (h0_25 P) (.node (h0_41 P) (.node (h0_73 P) (.node (h0_137 P) (.node (h0_265 P) .nil .nil) (.node (h0_393 P) .nil .nil)) (.node (h0_201 P) (.node (h0_329 P) .nil .nil) .nil)) (.node (h0_105 P) (.node (h0_169 P) (.node (h0_297 P) .nil .nil) (.node (h0_425 P) .nil .nil)) (.node (h0_233 P) (.node (h0_361 P) .nil .nil) .nil))) (.node (h0_57 P) (.node (h0_89 P) (.node (h0_153 P) (.node (h0_281 P) .nil .nil) (.node (h0_409 P) .nil .nil)) (.node (h0_217 P) (.node (h0_345 P) .nil .nil) .nil)) (.node (h0_121 P) (.node (h0_185 P) (.node (h0_313 P) .nil .nil) (.node (h0_441 P) .nil .nil)) (.node (h0_249 P) (.node (h0_377 P) .nil .nil) .nil))))) (.node (ha_13 P) (.node (h0_21 P) (.node (h0_37 P) (.node (h0_69 P) (.node (h0_133 P) (.node (h0_261 P) .nil .nil) (.node (h0_389 P) .nil .nil)) (.node (h0_197 P) (.node (h0_325 P) .nil .nil) .nil)) (.node (h0_101 P) (.node (h0_165 P) (.node (h0_293 P) .nil .nil) (.node (h0_421 P) .nil .nil)) (.node (h0_229 P) (.node (h0_357 P) .nil .nil) .nil))) (.node (h0_53 P) (.node (h0_85 P) (.node (h0_149 P) (.node (h0_277 P) .nil .nil) (.node (h0_405 P) .nil .nil)) (.node (h0_213 P) (.node (h0_341 P) .nil .nil) .nil)) (.node (h0_117 P) (.node (h0_181 P) (.node (h0_309 P) .nil .nil) (.node (h0_437 P) .nil .nil)) (.node (h0_245 P) (.node (h0_373 P) .nil .nil) .nil)))) (.node (h0_29 P) (.node (h0_45 P) (.node (h0_77 P) (.node (h0_141 P) (.node (h0_269 P) .nil .nil) (.node (h0_397 P) .nil .nil)) (.node (h0_205 P) (.node (h0_333 P) .nil .nil) .nil)) (.node (h0_109 P) (.node (h0_173 P) (.node (h0_301 P) .nil .nil) (.node (h0_429 P) .nil .nil)) (.node (h0_237 P) (.node (h0_365 P) .nil .nil) .nil))) (.node (h0_61 P) (.node (h0_93 P) (.node (h0_157 P) (.node (h0_285 P) .nil .nil) (.node (h0_413 P) .nil .nil)) (.node (h0_221 P) (.node (h0_349 P) .nil .nil) .nil)) (.node (h0_125 P) (.node (h0_189 P) (.node (h0_317 P) .nil .nil) (.node (h0_445 P) .nil .nil)) (.node (h0_253 P) (.node (h0_381 P) .nil .nil) .nil))))))) (.node (boot_o_2 P) (.node (boot_o_4 P) (.node (boot_o_8 P) (.node (h0_16 P) (.node (h0_32 P) (.node (h0_64 P) (.node (h0_128 P) (.node (h0_256 P) .nil .nil) (.node (h0_384 P) .nil .nil)) (.node (h0_192 P) (.node (h0_320 P) .nil .nil) .nil)) (.node (h0_96 P) (.node (h0_160 P) (.node (h0_288 P) .nil .nil) (.node (h0_416 P) .nil .nil)) (.node (h0_224 P) (.node (h0_352 P) .nil .nil) .nil))) (.node (h0_48 P) (.node (h0_80 P) (.node (h0_144 P) (.node (h0_272 P) .nil .nil) (.node (h0_400 P) .nil .nil)) (.node (h0_208 P) (.node (h0_336 P) .nil .nil) .nil)) (.node (h0_112 P) (.node (h0_176 P) (.node (h0_304 P) .nil .nil) (.node (h0_432 P) .nil .nil)) (.node (h0_240 P) (.node (h0_368 P) .nil .nil) .nil)))) (.node (h0_24 P) (.node (h0_40 P) (.node (h0_72 P) (.node (h0_136 P) (.node (h0_264 P) .nil .nil) (.node (h0_392 P) .nil .nil)) (.node (h0_200 P) (.node (h0_328 P) .nil .nil) .nil)) (.node (h0_104 P) (.node (h0_168 P) (.node (h0_296 P) .nil .nil) (.node (h0_424 P) .nil .nil)) (.node (h0_232 P) (.node (h0_360 P) .nil .nil) .nil))) (.node (h0_56 P) (.node (h0_88 P) (.node (h0_152 P) (.node (h0_280 P) .nil .nil) (.node (h0_408 P) .nil .nil)) (.node (h0_216 P) (.node (h0_344 P) .nil .nil) .nil)) (.node (h0_120 P) (.node (h0_184 P) (.node (h0_312 P) .nil .nil) (.node (h0_440 P) .nil .nil)) (.node (h0_248 P) (.node (h0_376 P) .nil .nil) .nil))))) (.node (h0_12 P) (.node (h0_20 P) (.node (h0_36 P) (.node (h0_68 P) (.node (h0_132 P) (.node (h0_260 P) .nil .nil) (.node (h0_388 P) .nil .nil)) (.node (h0_196 P) (.node (h0_324 P) .nil .nil) .nil)) (.node (h0_100 P) (.node (h0_164 P) (.node (h0_292 P) .nil .nil) (.node (h0_420 P) .nil .nil)) (.node (h0_228 P) (.node (h0_356 P) .nil .nil) .nil))) (.node (h0_52 P) (.node (h0_84 P) (.node (h0_148 P) (.node (h0_276 P) .nil .nil) (.node (h0_404 P) .nil .nil)) (.node (h0_212 P) (.node (h0_340 P) .nil .nil) .nil)) (.node (h0_116 P) (.node (h0_180 P) (.node (h0_308 P) .nil .nil) (.node (h0_436 P) .nil .nil)) (.node (h0_244 P) (.node (h0_372 P) .nil .nil) .nil)))) (.node (h0_28 P) (.node (h0_44 P) (.node (h0_76 P) (.node (h0_140 P) (.node (h0_268 P) .nil .nil) (.node (h0_396 P) .nil .nil)) (.node (h0_204 P) (.node (h0_332 P) .nil .nil) .nil)) (.node (h0_108 P) (.node (h0_172 P) (.node (h0_300 P) .nil .nil) (.node (h0_428 P) .nil .nil)) (.node (h0_236 P) (.node (h0_364 P) .nil .nil) .nil))) (.node (h0_60 P) (.node (h0_92 P) (.node (h0_156 P) (.node (h0_284 P) .nil .nil) (.node (h0_412 P) .nil .nil)) (.node (h0_220 P) (.node (h0_348 P) .nil .nil) .nil)) (.node (h0_124 P) (.node (h0_188 P) (.node (h0_316 P) .nil .nil) (.node (h0_444 P) .nil .nil)) (.node (h0_252 P) (.node (h0_380 P) .nil .nil) .nil)))))) (.node (boot_o_6 P) (.node (boot_o_10 P) (.node (h0_18 P) (.node (h0_34 P) (.node (h0_66 P) (.node (h0_130 P) (.node (h0_258 P) .nil .nil) (.node (h0_386 P) .nil .nil)) (.node (h0_194 P) (.node (h0_322 P) .nil .nil) .nil)) (.node (h0_98 P) (.node (h0_162 P) (.node (h0_290 P) .nil .nil) (.node (h0_418 P) .nil .nil)) (.node (h0_226 P) (.node (h0_354 P) .nil .nil) .nil))) (.node (h0_50 P) (.node (h0_82 P) (.node (h0_146 P) (.node (h0_274 P) .nil .nil) (.node (h0_402 P) .nil .nil)) (.node (h0_210 P) (.node (h0_338 P) .nil .nil) .nil)) (.node (h0_114 P) (.node (h0_178 P) (.node (h0_306 P) .nil .nil) (.node (h0_434 P) .nil .nil)) (.node (h0_242 P) (.node (h0_370 P) .nil .nil) .nil)))) (.node (h0_26 P) (.node (h0_42 P) (.node (h0_74 P) (.node (h0_138 P) (.node (h0_266 P) .nil .nil) (.node (h0_394 P) .nil .nil)) (.node (h0_202 P) (.node (h0_330 P) .nil .nil) .nil)) (.node (h0_106 P) (.node (h0_170 P) (.node (h0_298 P) .nil .nil) (.node (h0_426 P) .nil .nil)) (.node (h0_234 P) (.node (h0_362 P) .nil .nil) .nil))) (.node (h0_58 P) (.node (h0_90 P) (.node (h0_154 P) (.node (h0_282 P) .nil .nil) (.node (h0_410 P) .nil .nil)) (.node (h0_218 P) (.node (h0_346 P) .nil .nil) .nil)) (.node (h0_122 P) (.node (h0_186 P) (.node (h0_314 P) .nil .nil) (.node (h0_442 P) .nil .nil)) (.node (h0_250 P) (.node (h0_378 P) .nil .nil) .nil))))) (.node (ha_14 P) (.node (h0_22 P) (.node (h0_38 P) (.node (h0_70 P) (.node (h0_134 P) (.node (h0_262 P) .nil .nil) (.node (h0_390 P) .nil .nil)) (.node (h0_198 P) (.node (h0_326 P) .nil .nil) .nil)) (.node (h0_102 P) (.node (h0_166 P) (.node (h0_294 P) .nil .nil) (.node (h0_422 P) .nil .nil)) (.node (h0_230 P) (.node (h0_358 P) .nil .nil) .nil))) (.node (h0_54 P) (.node (h0_86 P) (.node (h0_150 P) (.node (h0_278 P) .nil .nil) (.node (h0_406 P) .nil .nil)) (.node (h0_214 P) (.node (h0_342 P) .nil .nil) .nil)) (.node (h0_118 P) (.node (h0_182 P) (.node (h0_310 P) .nil .nil) (.node (h0_438 P) .nil .nil)) (.node (h0_246 P) (.node (h0_374 P) .nil .nil) .nil)))) (.node (h0_30 P) (.node (h0_46 P) (.node (h0_78 P) (.node (h0_142 P) (.node (h0_270 P) .nil .nil) (.node (h0_398 P) .nil .nil)) (.node (h0_206 P) (.node (h0_334 P) .nil .nil) .nil)) (.node (h0_110 P) (.node (h0_174 P) (.node (h0_302 P) .nil .nil) (.node (h0_430 P) .nil .nil)) (.node (h0_238 P) (.node (h0_366 P) .nil .nil) .nil))) (.node (h0_62 P) (.node (h0_94 P) (.node (h0_158 P) (.node (h0_286 P) .nil .nil) (.node (h0_414 P) .nil .nil)) (.node (h0_222 P) (.node (h0_350 P) .nil .nil) .nil)) (.node (h0_126 P) (.node (h0_190 P) (.node (h0_318 P) .nil .nil) .nil) (.node (h0_254 P) (.node (h0_382 P) .nil .nil) .nil))))))))
def hS0 (w : World) (os : OsState) : SharedT := ⟨hT0 w.params, 446, (.mk [] [] [] 0 [] [] .false (.mk []) [] 0 .false .false .false 0 [2000, 10, 10] .false 0 .true [] [] 0 .false), #[], (.mk 0 0 0 0), 757, os⟩
def hp_0 : Pos := (.mk 109 0 113 26)
def hl0 : List Stmt := (hbd.drop 0).take 24
def hr0 : List Stmt := hbd.drop 24
set_option maxHeartbeats 0 in
theorem hg0 (w : World) (os : OsState) : sgF (stepQ (denQ tabQ) PySem.Challenge.pw_onestaff_k09_refusals_apart (w)) 11 (some (.ref 6)) 1 5590 (hSa (w) os) (pcQ hl0 henv hcd hp_a hq) = some (.next, hS0 (w) os, hcd, hp_0) := by
  kernel_rfl
theorem hA1 (w : World) (os : OsState) : Ahead PySem.Challenge.pw_onestaff_k09_refusals_apart w os henv hq (hS0 w os) 5603 hr0 hcd hp_0 := ahead1 (rest := hr0) (by rw [show hl0 ++ hr0 = hbd from (take_drop hbd 0 24).symm]; exact hA0 w os) (hg0 w os)
def h1_3 (P : Params) : Obj := (.mk (.type "dict") none (.dict (.mk [(hke P "__name__" 165 (.str (.ofString "onestaff.errors") 187)), (hke P "__doc__" 166 .none), (hke P "__package__" 167 .none), (hke P "__loader__" 168 (.builtin "__main__.__loader__#opaque")), (hke P "__spec__" 169 .none), (hke P "__annotations__" 170 (.ref 6)), (hke P "__builtins__" 171 (.ref 4)), (hke P "__file__" 173 (.str (.ofString "/claim/cut.py") 172)), (hke P "__cached__" 174 .none), (hke P "StaffError" 206 (.ref 24)), (hke P "NoName" 231 (.ref 44)), (hke P "NoPlace" 256 (.ref 63)), (hke P "NoTrain" 281 (.ref 82)), (hke P "NoTrains" 306 (.ref 101)), (hke P "NoEnds" 331 (.ref 120)), (hke P "NoStretch" 356 (.ref 139)), (hke P "NoLong" 381 (.ref 158)), (hke P "NoPlaces" 406 (.ref 177)), (hke P "NoStretches" 431 (.ref 196)), (hke P "NoLongs" 456 (.ref 215)), (hke P "NoNumber" 481 (.ref 234)), (hke P "NoThing" 506 (.ref 253)), (hke P "NoKind" 531 (.ref 272)), (hke P "NoWord" 556 (.ref 291)), (hke P "NoDeed" 581 (.ref 310)), (hke P "NoWay" 606 (.ref 329)), (hke P "NoUse" 631 (.ref 348)), (hke P "NoBooks" 656 (.ref 367)), (hke P "NoRows" 681 (.ref 386)), (hke P "NoMove" 706 (.ref 405)), (hke P "NoRuns" 731 (.ref 424)), (hke P "NoRun" 756 (.ref 443)), (hke P "NoLine" 781 (.ref 462)), (hke P "NoState" 806 (.ref 481)), (hke P "Twice" 831 (.ref 500)), (hke P "NotHere" 856 (.ref 519)), (hke P "NotIn" 881 (.ref 538)), (hke P "NotHeld" 906 (.ref 557)), (hke P "NotHelped" 931 (.ref 576)), (hke P "Full" 956 (.ref 595)), (hke P "Lacks" 981 (.ref 614)), (hke P "Shut" 1006 (.ref 633)), (hke P "Held" 1031 (.ref 652)), (hke P "NotClear" 1056 (.ref 671)), (hke P "NoTickets" 1081 (.ref 690)), (hke P "NoRight" 1106 (.ref 709)), (hke P "NotShut" 1131 (.ref 728)), (hke P "Taken" 1156 (.ref 747)), (hke P "Boxed" 1181 (.ref 766)), (hke P "Silent" 1206 (.ref 785)), (hke P "TooMany" 1231 (.ref 804)), (hke P "NoText" 1256 (.ref 823)), (hke P "Gap" 1281 (.ref 842)), (hke P "NotSo" 1306 (.ref 861)), (hke P "NoTrip" 1331 (.ref 880))]) 55) (.mk []))
def h1_12 (P : Params) : Obj := (hfi [(.int 2 0), (.int 0 0), (.ref 20), (.int 4 0), (.int 0 0), (.ref 33), (.int 9 0), (.int 0 0), (.ref 52), (.int 14 0), (.int 0 0), (.ref 71), (.int 19 0), (.int 0 0), (.ref 90), (.int 24 0), (.int 0 0), (.ref 109), (.int 29 0), (.int 0 0), (.ref 128), (.int 34 0), (.int 0 0), (.ref 147), (.int 39 0), (.int 0 0), (.ref 166), (.int 44 0), (.int 0 0), (.ref 185), (.int 49 0), (.int 0 0), (.ref 204), (.int 54 0), (.int 0 0), (.ref 223), (.int 59 0), (.int 0 0), (.ref 242), (.int 64 0), (.int 0 0), (.ref 261), (.int 69 0), (.int 0 0), (.ref 280), (.int 74 0), (.int 0 0), (.ref 299), (.int 79 0), (.int 0 0), (.ref 318), (.int 84 0), (.int 0 0), (.ref 337), (.int 89 0), (.int 0 0), (.ref 356), (.int 94 0), (.int 0 0), (.ref 375), (.int 99 0), (.int 0 0), (.ref 394), (.int 104 0), (.int 0 0), (.ref 413), (.int 109 0), (.int 0 0), (.ref 432), (.int 114 0), (.int 0 0), (.ref 451), (.int 119 0), (.int 0 0), (.ref 470), (.int 124 0), (.int 0 0), (.ref 489), (.int 129 0), (.int 0 0), (.ref 508), (.int 134 0), (.int 0 0), (.ref 527), (.int 139 0), (.int 0 0), (.ref 546), (.int 144 0), (.int 0 0), (.ref 565), (.int 149 0), (.int 0 0), (.ref 584), (.int 154 0), (.int 0 0), (.ref 603), (.int 159 0), (.int 0 0), (.ref 622), (.int 164 0), (.int 0 0), (.ref 641), (.int 169 0), (.int 0 0), (.ref 660), (.int 174 0), (.int 0 0), (.ref 679), (.int 179 0), (.int 0 0), (.ref 698), (.int 184 0), (.int 0 0), (.ref 717), (.int 189 0), (.int 0 0), (.ref 736), (.int 194 0), (.int 0 0), (.ref 755), (.int 199 0), (.int 0 0), (.ref 774), (.int 204 0), (.int 0 0), (.ref 793), (.int 209 0), (.int 0 0), (.ref 812), (.int 214 0), (.int 0 0), (.ref 831), (.int 219 0), (.int 0 0), (.ref 850), (.int 224 0), (.int 0 0), (.ref 869)])
def h1_24 (P : Params) : Obj := (.mk (.type "type") none (.cls (.mk (.ofString "StaffError") [(.type "ValueError")] [(.ref 24), (.type "ValueError"), (.type "Exception"), (.type "BaseException"), (.type "object")] 23 (.ofString "StaffError") .true [] [(.ref 44), (.ref 63), (.ref 82), (.ref 101), (.ref 120), (.ref 139), (.ref 158), (.ref 177), (.ref 196), (.ref 215), (.ref 234), (.ref 253), (.ref 272), (.ref 291), (.ref 310), (.ref 329), (.ref 348), (.ref 367), (.ref 386), (.ref 405), (.ref 424), (.ref 443), (.ref 462), (.ref 481), (.ref 500), (.ref 519), (.ref 538), (.ref 557), (.ref 576), (.ref 595), (.ref 614), (.ref 633), (.ref 652), (.ref 671), (.ref 690), (.ref 709), (.ref 728), (.ref 747), (.ref 766), (.ref 785), (.ref 804), (.ref 823), (.ref 842), (.ref 861), (.ref 880)] .false none .false)) (.mk [(some (.ref 15)), none, (some (.str (.ofString "StaffError") 189)), (some (.str (.ofString "StaffError") 197)), (some (.builtin "ValueError.__new__")), (some (.bool .true))]))
def h1_446 (P : Params) : Obj := (htu [(.ref 24)])
def h1_447 (P : Params) : Obj := (.mk (.type "builtin_function_or_method") none (.fields (.mk [(.builtin "type.__prepare__"), (.type "type")])) (.mk []))
def h1_448 (P : Params) : Obj := (.mk (.type "dict") none (.dict (.mk [(hke P "__module__" 764 (.str (.ofString "onestaff.errors") 187)), (hke P "__qualname__" 766 (.str (.ofString "NoLine") 765)), (hke P "__firstlineno__" 768 (.int 114 767)), (hke P "__init__" 776 (.ref 459)), (hke P "__static_attributes__" 778 (.ref 460))]) 5) (.mk []))
def h1_449 (P : Params) : Obj := (htu [])
def h1_450 (P : Params) : Obj := (hfi [(.int 116 0), (.int 4 0), (.ref 458)])
def h1_451 (P : Params) : Obj := (hco "NoLine" "NoLine" 759 114 0 0 0 0 181 0 449 false 450 763 .none .none .none .none 762 114)
def h1_452 (P : Params) : Obj := (hfr 451 448 "onestaff.errors" 187 none)
def h1_453 (P : Params) : Obj := (htu [])
def h1_454 (P : Params) : Obj := (hfi [])
def h1_455 (P : Params) : Obj := (htu [(.str (.ofString "self") 772), (.str (.ofString "found") 773)])
def h1_456 (P : Params) : Obj := (htu [])
def h1_457 (P : Params) : Obj := (.mk .none none (.func (.mk (.ofString "__init__") (.ofString "NoLine.__init__") (defArgs (hsm 24 0)) (.stmts (defBody (hsm 24 0))) (defScope (hsm 24 0)) 0 [] .none .none .none .none none .none .none 0)) (.mk []))
def h1_458 (P : Params) : Obj := (hco "__init__" "NoLine.__init__" 769 116 2 0 0 3 181 0 453 true 454 775 .none (.ref 455) (.ref 456) (.ref 457) 774 116)
def h1_459 (P : Params) : Obj := (hfu "__init__" "NoLine.__init__" (hsm 24 0) 3 (.str (.ofString "onestaff.errors") 187) (.ref 458) .none)
def h1_460 (P : Params) : Obj := (htu [(.str (.ofString "found") 777)])
def h1_461 (P : Params) : Obj := (.mk (.type "dict") none (.dict (.mk [(hke P "__module__" 764 (.str (.ofString "onestaff.errors") 187)), (hke P "__firstlineno__" 768 (.int 114 767)), (hke P "__init__" 776 (.ref 459)), (hke P "__static_attributes__" 778 (.ref 460)), (hke P "__doc__" 779 .none)]) 2) (.mk []))
def h1_462 (P : Params) : Obj := (.mk (.type "type") none (.cls (.mk (.ofString "NoLine") [(.ref 24)] [(.ref 462), (.ref 24), (.type "ValueError"), (.type "Exception"), (.type "BaseException"), (.type "object")] 461 (.ofString "NoLine") .true [] [] .false none .false)) (.mk [(some (.ref 446)), none, (some (.str (.ofString "NoLine") 757)), (some (.str (.ofString "NoLine") 765)), (some (.builtin "ValueError.__new__")), (some (.bool .true))]))
def h1_463 (P : Params) : Obj := (hsu (.ref 462) (.ref 462) (.ref 462))
def h1_464 (P : Params) : Obj := (hbm "object.__init_subclass__" 462)
def h1_465 (P : Params) : Obj := (htu [(.ref 24)])
def h1_466 (P : Params) : Obj := (.mk (.type "builtin_function_or_method") none (.fields (.mk [(.builtin "type.__prepare__"), (.type "type")])) (.mk []))
def h1_467 (P : Params) : Obj := (.mk (.type "dict") none (.dict (.mk [(hke P "__module__" 789 (.str (.ofString "onestaff.errors") 187)), (hke P "__qualname__" 791 (.str (.ofString "NoState") 790)), (hke P "__firstlineno__" 793 (.int 119 792)), (hke P "__init__" 801 (.ref 478)), (hke P "__static_attributes__" 803 (.ref 479))]) 5) (.mk []))
def h1_468 (P : Params) : Obj := (htu [])
def h1_469 (P : Params) : Obj := (hfi [(.int 121 0), (.int 4 0), (.ref 477)])
def h1_470 (P : Params) : Obj := (hco "NoState" "NoState" 784 119 0 0 0 0 181 0 468 false 469 788 .none .none .none .none 787 119)
def h1_471 (P : Params) : Obj := (hfr 470 467 "onestaff.errors" 187 none)
def h1_472 (P : Params) : Obj := (htu [])
def h1_473 (P : Params) : Obj := (hfi [])
def h1_474 (P : Params) : Obj := (htu [(.str (.ofString "self") 797), (.str (.ofString "found") 798)])
def h1_475 (P : Params) : Obj := (htu [])
def h1_476 (P : Params) : Obj := (.mk .none none (.func (.mk (.ofString "__init__") (.ofString "NoState.__init__") (defArgs (hsm 25 0)) (.stmts (defBody (hsm 25 0))) (defScope (hsm 25 0)) 0 [] .none .none .none .none none .none .none 0)) (.mk []))
def h1_477 (P : Params) : Obj := (hco "__init__" "NoState.__init__" 794 121 2 0 0 3 181 0 472 true 473 800 .none (.ref 474) (.ref 475) (.ref 476) 799 121)
def h1_478 (P : Params) : Obj := (hfu "__init__" "NoState.__init__" (hsm 25 0) 3 (.str (.ofString "onestaff.errors") 187) (.ref 477) .none)
def h1_479 (P : Params) : Obj := (htu [(.str (.ofString "found") 802)])
def h1_480 (P : Params) : Obj := (.mk (.type "dict") none (.dict (.mk [(hke P "__module__" 789 (.str (.ofString "onestaff.errors") 187)), (hke P "__firstlineno__" 793 (.int 119 792)), (hke P "__init__" 801 (.ref 478)), (hke P "__static_attributes__" 803 (.ref 479)), (hke P "__doc__" 804 .none)]) 2) (.mk []))
def h1_481 (P : Params) : Obj := (.mk (.type "type") none (.cls (.mk (.ofString "NoState") [(.ref 24)] [(.ref 481), (.ref 24), (.type "ValueError"), (.type "Exception"), (.type "BaseException"), (.type "object")] 480 (.ofString "NoState") .true [] [] .false none .false)) (.mk [(some (.ref 465)), none, (some (.str (.ofString "NoState") 782)), (some (.str (.ofString "NoState") 790)), (some (.builtin "ValueError.__new__")), (some (.bool .true))]))
def h1_482 (P : Params) : Obj := (hsu (.ref 481) (.ref 481) (.ref 481))
def h1_483 (P : Params) : Obj := (hbm "object.__init_subclass__" 481)
def h1_484 (P : Params) : Obj := (htu [(.ref 24)])
def h1_485 (P : Params) : Obj := (.mk (.type "builtin_function_or_method") none (.fields (.mk [(.builtin "type.__prepare__"), (.type "type")])) (.mk []))
def h1_486 (P : Params) : Obj := (.mk (.type "dict") none (.dict (.mk [(hke P "__module__" 814 (.str (.ofString "onestaff.errors") 187)), (hke P "__qualname__" 816 (.str (.ofString "Twice") 815)), (hke P "__firstlineno__" 818 (.int 124 817)), (hke P "__init__" 826 (.ref 497)), (hke P "__static_attributes__" 828 (.ref 498))]) 5) (.mk []))
def h1_487 (P : Params) : Obj := (htu [])
def h1_488 (P : Params) : Obj := (hfi [(.int 126 0), (.int 4 0), (.ref 496)])
def h1_489 (P : Params) : Obj := (hco "Twice" "Twice" 809 124 0 0 0 0 181 0 487 false 488 813 .none .none .none .none 812 124)
def h1_490 (P : Params) : Obj := (hfr 489 486 "onestaff.errors" 187 none)
def h1_491 (P : Params) : Obj := (htu [])
def h1_492 (P : Params) : Obj := (hfi [])
def h1_493 (P : Params) : Obj := (htu [(.str (.ofString "self") 822), (.str (.ofString "found") 823)])
def h1_494 (P : Params) : Obj := (htu [])
def h1_495 (P : Params) : Obj := (.mk .none none (.func (.mk (.ofString "__init__") (.ofString "Twice.__init__") (defArgs (hsm 26 0)) (.stmts (defBody (hsm 26 0))) (defScope (hsm 26 0)) 0 [] .none .none .none .none none .none .none 0)) (.mk []))
def h1_496 (P : Params) : Obj := (hco "__init__" "Twice.__init__" 819 126 2 0 0 3 181 0 491 true 492 825 .none (.ref 493) (.ref 494) (.ref 495) 824 126)
def h1_497 (P : Params) : Obj := (hfu "__init__" "Twice.__init__" (hsm 26 0) 3 (.str (.ofString "onestaff.errors") 187) (.ref 496) .none)
def h1_498 (P : Params) : Obj := (htu [(.str (.ofString "found") 827)])
def h1_499 (P : Params) : Obj := (.mk (.type "dict") none (.dict (.mk [(hke P "__module__" 814 (.str (.ofString "onestaff.errors") 187)), (hke P "__firstlineno__" 818 (.int 124 817)), (hke P "__init__" 826 (.ref 497)), (hke P "__static_attributes__" 828 (.ref 498)), (hke P "__doc__" 829 .none)]) 2) (.mk []))
def h1_500 (P : Params) : Obj := (.mk (.type "type") none (.cls (.mk (.ofString "Twice") [(.ref 24)] [(.ref 500), (.ref 24), (.type "ValueError"), (.type "Exception"), (.type "BaseException"), (.type "object")] 499 (.ofString "Twice") .true [] [] .false none .false)) (.mk [(some (.ref 484)), none, (some (.str (.ofString "Twice") 807)), (some (.str (.ofString "Twice") 815)), (some (.builtin "ValueError.__new__")), (some (.bool .true))]))
def h1_501 (P : Params) : Obj := (hsu (.ref 500) (.ref 500) (.ref 500))
def h1_502 (P : Params) : Obj := (hbm "object.__init_subclass__" 500)
def h1_503 (P : Params) : Obj := (htu [(.ref 24)])
def h1_504 (P : Params) : Obj := (.mk (.type "builtin_function_or_method") none (.fields (.mk [(.builtin "type.__prepare__"), (.type "type")])) (.mk []))
def h1_505 (P : Params) : Obj := (.mk (.type "dict") none (.dict (.mk [(hke P "__module__" 839 (.str (.ofString "onestaff.errors") 187)), (hke P "__qualname__" 841 (.str (.ofString "NotHere") 840)), (hke P "__firstlineno__" 843 (.int 129 842)), (hke P "__init__" 851 (.ref 516)), (hke P "__static_attributes__" 853 (.ref 517))]) 5) (.mk []))
def h1_506 (P : Params) : Obj := (htu [])
def h1_507 (P : Params) : Obj := (hfi [(.int 131 0), (.int 4 0), (.ref 515)])
def h1_508 (P : Params) : Obj := (hco "NotHere" "NotHere" 834 129 0 0 0 0 181 0 506 false 507 838 .none .none .none .none 837 129)
def h1_509 (P : Params) : Obj := (hfr 508 505 "onestaff.errors" 187 none)
def h1_510 (P : Params) : Obj := (htu [])
def h1_511 (P : Params) : Obj := (hfi [])
def h1_512 (P : Params) : Obj := (htu [(.str (.ofString "self") 847), (.str (.ofString "found") 848)])
def h1_513 (P : Params) : Obj := (htu [])
def h1_514 (P : Params) : Obj := (.mk .none none (.func (.mk (.ofString "__init__") (.ofString "NotHere.__init__") (defArgs (hsm 27 0)) (.stmts (defBody (hsm 27 0))) (defScope (hsm 27 0)) 0 [] .none .none .none .none none .none .none 0)) (.mk []))
def h1_515 (P : Params) : Obj := (hco "__init__" "NotHere.__init__" 844 131 2 0 0 3 181 0 510 true 511 850 .none (.ref 512) (.ref 513) (.ref 514) 849 131)
def h1_516 (P : Params) : Obj := (hfu "__init__" "NotHere.__init__" (hsm 27 0) 3 (.str (.ofString "onestaff.errors") 187) (.ref 515) .none)
def h1_517 (P : Params) : Obj := (htu [(.str (.ofString "found") 852)])
def h1_518 (P : Params) : Obj := (.mk (.type "dict") none (.dict (.mk [(hke P "__module__" 839 (.str (.ofString "onestaff.errors") 187)), (hke P "__firstlineno__" 843 (.int 129 842)), (hke P "__init__" 851 (.ref 516)), (hke P "__static_attributes__" 853 (.ref 517)), (hke P "__doc__" 854 .none)]) 2) (.mk []))
def h1_519 (P : Params) : Obj := (.mk (.type "type") none (.cls (.mk (.ofString "NotHere") [(.ref 24)] [(.ref 519), (.ref 24), (.type "ValueError"), (.type "Exception"), (.type "BaseException"), (.type "object")] 518 (.ofString "NotHere") .true [] [] .false none .false)) (.mk [(some (.ref 503)), none, (some (.str (.ofString "NotHere") 832)), (some (.str (.ofString "NotHere") 840)), (some (.builtin "ValueError.__new__")), (some (.bool .true))]))
def h1_520 (P : Params) : Obj := (hsu (.ref 519) (.ref 519) (.ref 519))
def h1_521 (P : Params) : Obj := (hbm "object.__init_subclass__" 519)
def h1_522 (P : Params) : Obj := (htu [(.ref 24)])
def h1_523 (P : Params) : Obj := (.mk (.type "builtin_function_or_method") none (.fields (.mk [(.builtin "type.__prepare__"), (.type "type")])) (.mk []))
def h1_524 (P : Params) : Obj := (.mk (.type "dict") none (.dict (.mk [(hke P "__module__" 864 (.str (.ofString "onestaff.errors") 187)), (hke P "__qualname__" 866 (.str (.ofString "NotIn") 865)), (hke P "__firstlineno__" 868 (.int 134 867)), (hke P "__init__" 876 (.ref 535)), (hke P "__static_attributes__" 878 (.ref 536))]) 5) (.mk []))
def h1_525 (P : Params) : Obj := (htu [])
def h1_526 (P : Params) : Obj := (hfi [(.int 136 0), (.int 4 0), (.ref 534)])
def h1_527 (P : Params) : Obj := (hco "NotIn" "NotIn" 859 134 0 0 0 0 181 0 525 false 526 863 .none .none .none .none 862 134)
def h1_528 (P : Params) : Obj := (hfr 527 524 "onestaff.errors" 187 none)
def h1_529 (P : Params) : Obj := (htu [])
def h1_530 (P : Params) : Obj := (hfi [])
def h1_531 (P : Params) : Obj := (htu [(.str (.ofString "self") 872), (.str (.ofString "found") 873)])
def h1_532 (P : Params) : Obj := (htu [])
def h1_533 (P : Params) : Obj := (.mk .none none (.func (.mk (.ofString "__init__") (.ofString "NotIn.__init__") (defArgs (hsm 28 0)) (.stmts (defBody (hsm 28 0))) (defScope (hsm 28 0)) 0 [] .none .none .none .none none .none .none 0)) (.mk []))
def h1_534 (P : Params) : Obj := (hco "__init__" "NotIn.__init__" 869 136 2 0 0 3 181 0 529 true 530 875 .none (.ref 531) (.ref 532) (.ref 533) 874 136)
def h1_535 (P : Params) : Obj := (hfu "__init__" "NotIn.__init__" (hsm 28 0) 3 (.str (.ofString "onestaff.errors") 187) (.ref 534) .none)
def h1_536 (P : Params) : Obj := (htu [(.str (.ofString "found") 877)])
def h1_537 (P : Params) : Obj := (.mk (.type "dict") none (.dict (.mk [(hke P "__module__" 864 (.str (.ofString "onestaff.errors") 187)), (hke P "__firstlineno__" 868 (.int 134 867)), (hke P "__init__" 876 (.ref 535)), (hke P "__static_attributes__" 878 (.ref 536)), (hke P "__doc__" 879 .none)]) 2) (.mk []))
def h1_538 (P : Params) : Obj := (.mk (.type "type") none (.cls (.mk (.ofString "NotIn") [(.ref 24)] [(.ref 538), (.ref 24), (.type "ValueError"), (.type "Exception"), (.type "BaseException"), (.type "object")] 537 (.ofString "NotIn") .true [] [] .false none .false)) (.mk [(some (.ref 522)), none, (some (.str (.ofString "NotIn") 857)), (some (.str (.ofString "NotIn") 865)), (some (.builtin "ValueError.__new__")), (some (.bool .true))]))
def h1_539 (P : Params) : Obj := (hsu (.ref 538) (.ref 538) (.ref 538))
def h1_540 (P : Params) : Obj := (hbm "object.__init_subclass__" 538)
def h1_541 (P : Params) : Obj := (htu [(.ref 24)])
def h1_542 (P : Params) : Obj := (.mk (.type "builtin_function_or_method") none (.fields (.mk [(.builtin "type.__prepare__"), (.type "type")])) (.mk []))
def h1_543 (P : Params) : Obj := (.mk (.type "dict") none (.dict (.mk [(hke P "__module__" 889 (.str (.ofString "onestaff.errors") 187)), (hke P "__qualname__" 891 (.str (.ofString "NotHeld") 890)), (hke P "__firstlineno__" 893 (.int 139 892)), (hke P "__init__" 901 (.ref 554)), (hke P "__static_attributes__" 903 (.ref 555))]) 5) (.mk []))
def h1_544 (P : Params) : Obj := (htu [])
def h1_545 (P : Params) : Obj := (hfi [(.int 141 0), (.int 4 0), (.ref 553)])
def h1_546 (P : Params) : Obj := (hco "NotHeld" "NotHeld" 884 139 0 0 0 0 181 0 544 false 545 888 .none .none .none .none 887 139)
def h1_547 (P : Params) : Obj := (hfr 546 543 "onestaff.errors" 187 none)
def h1_548 (P : Params) : Obj := (htu [])
def h1_549 (P : Params) : Obj := (hfi [])
def h1_550 (P : Params) : Obj := (htu [(.str (.ofString "self") 897), (.str (.ofString "found") 898)])
def h1_551 (P : Params) : Obj := (htu [])
def h1_552 (P : Params) : Obj := (.mk .none none (.func (.mk (.ofString "__init__") (.ofString "NotHeld.__init__") (defArgs (hsm 29 0)) (.stmts (defBody (hsm 29 0))) (defScope (hsm 29 0)) 0 [] .none .none .none .none none .none .none 0)) (.mk []))
def h1_553 (P : Params) : Obj := (hco "__init__" "NotHeld.__init__" 894 141 2 0 0 3 181 0 548 true 549 900 .none (.ref 550) (.ref 551) (.ref 552) 899 141)
def h1_554 (P : Params) : Obj := (hfu "__init__" "NotHeld.__init__" (hsm 29 0) 3 (.str (.ofString "onestaff.errors") 187) (.ref 553) .none)
def h1_555 (P : Params) : Obj := (htu [(.str (.ofString "found") 902)])
def h1_556 (P : Params) : Obj := (.mk (.type "dict") none (.dict (.mk [(hke P "__module__" 889 (.str (.ofString "onestaff.errors") 187)), (hke P "__firstlineno__" 893 (.int 139 892)), (hke P "__init__" 901 (.ref 554)), (hke P "__static_attributes__" 903 (.ref 555)), (hke P "__doc__" 904 .none)]) 2) (.mk []))
def h1_557 (P : Params) : Obj := (.mk (.type "type") none (.cls (.mk (.ofString "NotHeld") [(.ref 24)] [(.ref 557), (.ref 24), (.type "ValueError"), (.type "Exception"), (.type "BaseException"), (.type "object")] 556 (.ofString "NotHeld") .true [] [] .false none .false)) (.mk [(some (.ref 541)), none, (some (.str (.ofString "NotHeld") 882)), (some (.str (.ofString "NotHeld") 890)), (some (.builtin "ValueError.__new__")), (some (.bool .true))]))
def h1_558 (P : Params) : Obj := (hsu (.ref 557) (.ref 557) (.ref 557))
def h1_559 (P : Params) : Obj := (hbm "object.__init_subclass__" 557)
def h1_560 (P : Params) : Obj := (htu [(.ref 24)])
def h1_561 (P : Params) : Obj := (.mk (.type "builtin_function_or_method") none (.fields (.mk [(.builtin "type.__prepare__"), (.type "type")])) (.mk []))
def h1_562 (P : Params) : Obj := (.mk (.type "dict") none (.dict (.mk [(hke P "__module__" 914 (.str (.ofString "onestaff.errors") 187)), (hke P "__qualname__" 916 (.str (.ofString "NotHelped") 915)), (hke P "__firstlineno__" 918 (.int 144 917)), (hke P "__init__" 926 (.ref 573)), (hke P "__static_attributes__" 928 (.ref 574))]) 5) (.mk []))
def h1_563 (P : Params) : Obj := (htu [])
def h1_564 (P : Params) : Obj := (hfi [(.int 146 0), (.int 4 0), (.ref 572)])
def h1_565 (P : Params) : Obj := (hco "NotHelped" "NotHelped" 909 144 0 0 0 0 181 0 563 false 564 913 .none .none .none .none 912 144)
def h1_566 (P : Params) : Obj := (hfr 565 562 "onestaff.errors" 187 none)
def h1_567 (P : Params) : Obj := (htu [])
def h1_568 (P : Params) : Obj := (hfi [])
def h1_569 (P : Params) : Obj := (htu [(.str (.ofString "self") 922), (.str (.ofString "found") 923)])
def h1_570 (P : Params) : Obj := (htu [])
def h1_571 (P : Params) : Obj := (.mk .none none (.func (.mk (.ofString "__init__") (.ofString "NotHelped.__init__") (defArgs (hsm 30 0)) (.stmts (defBody (hsm 30 0))) (defScope (hsm 30 0)) 0 [] .none .none .none .none none .none .none 0)) (.mk []))
def h1_572 (P : Params) : Obj := (hco "__init__" "NotHelped.__init__" 919 146 2 0 0 3 181 0 567 true 568 925 .none (.ref 569) (.ref 570) (.ref 571) 924 146)
def h1_573 (P : Params) : Obj := (hfu "__init__" "NotHelped.__init__" (hsm 30 0) 3 (.str (.ofString "onestaff.errors") 187) (.ref 572) .none)
def h1_574 (P : Params) : Obj := (htu [(.str (.ofString "found") 927)])
def h1_575 (P : Params) : Obj := (.mk (.type "dict") none (.dict (.mk [(hke P "__module__" 914 (.str (.ofString "onestaff.errors") 187)), (hke P "__firstlineno__" 918 (.int 144 917)), (hke P "__init__" 926 (.ref 573)), (hke P "__static_attributes__" 928 (.ref 574)), (hke P "__doc__" 929 .none)]) 2) (.mk []))
def h1_576 (P : Params) : Obj := (.mk (.type "type") none (.cls (.mk (.ofString "NotHelped") [(.ref 24)] [(.ref 576), (.ref 24), (.type "ValueError"), (.type "Exception"), (.type "BaseException"), (.type "object")] 575 (.ofString "NotHelped") .true [] [] .false none .false)) (.mk [(some (.ref 560)), none, (some (.str (.ofString "NotHelped") 907)), (some (.str (.ofString "NotHelped") 915)), (some (.builtin "ValueError.__new__")), (some (.bool .true))]))
def h1_577 (P : Params) : Obj := (hsu (.ref 576) (.ref 576) (.ref 576))
def h1_578 (P : Params) : Obj := (hbm "object.__init_subclass__" 576)
def h1_579 (P : Params) : Obj := (htu [(.ref 24)])
def h1_580 (P : Params) : Obj := (.mk (.type "builtin_function_or_method") none (.fields (.mk [(.builtin "type.__prepare__"), (.type "type")])) (.mk []))
def h1_581 (P : Params) : Obj := (.mk (.type "dict") none (.dict (.mk [(hke P "__module__" 939 (.str (.ofString "onestaff.errors") 187)), (hke P "__qualname__" 941 (.str (.ofString "Full") 940)), (hke P "__firstlineno__" 943 (.int 149 942)), (hke P "__init__" 951 (.ref 592)), (hke P "__static_attributes__" 953 (.ref 593))]) 5) (.mk []))
def h1_582 (P : Params) : Obj := (htu [])
def h1_583 (P : Params) : Obj := (hfi [(.int 151 0), (.int 4 0), (.ref 591)])
def h1_584 (P : Params) : Obj := (hco "Full" "Full" 934 149 0 0 0 0 181 0 582 false 583 938 .none .none .none .none 937 149)
def h1_585 (P : Params) : Obj := (hfr 584 581 "onestaff.errors" 187 none)
def h1_586 (P : Params) : Obj := (htu [])
def h1_587 (P : Params) : Obj := (hfi [])
def h1_588 (P : Params) : Obj := (htu [(.str (.ofString "self") 947), (.str (.ofString "found") 948)])
def h1_589 (P : Params) : Obj := (htu [])
def h1_590 (P : Params) : Obj := (.mk .none none (.func (.mk (.ofString "__init__") (.ofString "Full.__init__") (defArgs (hsm 31 0)) (.stmts (defBody (hsm 31 0))) (defScope (hsm 31 0)) 0 [] .none .none .none .none none .none .none 0)) (.mk []))
def h1_591 (P : Params) : Obj := (hco "__init__" "Full.__init__" 944 151 2 0 0 3 181 0 586 true 587 950 .none (.ref 588) (.ref 589) (.ref 590) 949 151)
def h1_592 (P : Params) : Obj := (hfu "__init__" "Full.__init__" (hsm 31 0) 3 (.str (.ofString "onestaff.errors") 187) (.ref 591) .none)
def h1_593 (P : Params) : Obj := (htu [(.str (.ofString "found") 952)])
def h1_594 (P : Params) : Obj := (.mk (.type "dict") none (.dict (.mk [(hke P "__module__" 939 (.str (.ofString "onestaff.errors") 187)), (hke P "__firstlineno__" 943 (.int 149 942)), (hke P "__init__" 951 (.ref 592)), (hke P "__static_attributes__" 953 (.ref 593)), (hke P "__doc__" 954 .none)]) 2) (.mk []))
def h1_595 (P : Params) : Obj := (.mk (.type "type") none (.cls (.mk (.ofString "Full") [(.ref 24)] [(.ref 595), (.ref 24), (.type "ValueError"), (.type "Exception"), (.type "BaseException"), (.type "object")] 594 (.ofString "Full") .true [] [] .false none .false)) (.mk [(some (.ref 579)), none, (some (.str (.ofString "Full") 932)), (some (.str (.ofString "Full") 940)), (some (.builtin "ValueError.__new__")), (some (.bool .true))]))
def h1_596 (P : Params) : Obj := (hsu (.ref 595) (.ref 595) (.ref 595))
def h1_597 (P : Params) : Obj := (hbm "object.__init_subclass__" 595)
def h1_598 (P : Params) : Obj := (htu [(.ref 24)])
def h1_599 (P : Params) : Obj := (.mk (.type "builtin_function_or_method") none (.fields (.mk [(.builtin "type.__prepare__"), (.type "type")])) (.mk []))
def h1_600 (P : Params) : Obj := (.mk (.type "dict") none (.dict (.mk [(hke P "__module__" 964 (.str (.ofString "onestaff.errors") 187)), (hke P "__qualname__" 966 (.str (.ofString "Lacks") 965)), (hke P "__firstlineno__" 968 (.int 154 967)), (hke P "__init__" 976 (.ref 611)), (hke P "__static_attributes__" 978 (.ref 612))]) 5) (.mk []))
def h1_601 (P : Params) : Obj := (htu [])
def h1_602 (P : Params) : Obj := (hfi [(.int 156 0), (.int 4 0), (.ref 610)])
def h1_603 (P : Params) : Obj := (hco "Lacks" "Lacks" 959 154 0 0 0 0 181 0 601 false 602 963 .none .none .none .none 962 154)
def h1_604 (P : Params) : Obj := (hfr 603 600 "onestaff.errors" 187 none)
def h1_605 (P : Params) : Obj := (htu [])
def h1_606 (P : Params) : Obj := (hfi [])
def h1_607 (P : Params) : Obj := (htu [(.str (.ofString "self") 972), (.str (.ofString "found") 973)])
def h1_608 (P : Params) : Obj := (htu [])
def h1_609 (P : Params) : Obj := (.mk .none none (.func (.mk (.ofString "__init__") (.ofString "Lacks.__init__") (defArgs (hsm 32 0)) (.stmts (defBody (hsm 32 0))) (defScope (hsm 32 0)) 0 [] .none .none .none .none none .none .none 0)) (.mk []))
def h1_610 (P : Params) : Obj := (hco "__init__" "Lacks.__init__" 969 156 2 0 0 3 181 0 605 true 606 975 .none (.ref 607) (.ref 608) (.ref 609) 974 156)
def h1_611 (P : Params) : Obj := (hfu "__init__" "Lacks.__init__" (hsm 32 0) 3 (.str (.ofString "onestaff.errors") 187) (.ref 610) .none)
def h1_612 (P : Params) : Obj := (htu [(.str (.ofString "found") 977)])
def h1_613 (P : Params) : Obj := (.mk (.type "dict") none (.dict (.mk [(hke P "__module__" 964 (.str (.ofString "onestaff.errors") 187)), (hke P "__firstlineno__" 968 (.int 154 967)), (hke P "__init__" 976 (.ref 611)), (hke P "__static_attributes__" 978 (.ref 612)), (hke P "__doc__" 979 .none)]) 2) (.mk []))
def h1_614 (P : Params) : Obj := (.mk (.type "type") none (.cls (.mk (.ofString "Lacks") [(.ref 24)] [(.ref 614), (.ref 24), (.type "ValueError"), (.type "Exception"), (.type "BaseException"), (.type "object")] 613 (.ofString "Lacks") .true [] [] .false none .false)) (.mk [(some (.ref 598)), none, (some (.str (.ofString "Lacks") 957)), (some (.str (.ofString "Lacks") 965)), (some (.builtin "ValueError.__new__")), (some (.bool .true))]))
def h1_615 (P : Params) : Obj := (hsu (.ref 614) (.ref 614) (.ref 614))
def h1_616 (P : Params) : Obj := (hbm "object.__init_subclass__" 614)
def h1_617 (P : Params) : Obj := (htu [(.ref 24)])
def h1_618 (P : Params) : Obj := (.mk (.type "builtin_function_or_method") none (.fields (.mk [(.builtin "type.__prepare__"), (.type "type")])) (.mk []))
def h1_619 (P : Params) : Obj := (.mk (.type "dict") none (.dict (.mk [(hke P "__module__" 989 (.str (.ofString "onestaff.errors") 187)), (hke P "__qualname__" 991 (.str (.ofString "Shut") 990)), (hke P "__firstlineno__" 993 (.int 159 992)), (hke P "__init__" 1001 (.ref 630)), (hke P "__static_attributes__" 1003 (.ref 631))]) 5) (.mk []))
def h1_620 (P : Params) : Obj := (htu [])
def h1_621 (P : Params) : Obj := (hfi [(.int 161 0), (.int 4 0), (.ref 629)])
def h1_622 (P : Params) : Obj := (hco "Shut" "Shut" 984 159 0 0 0 0 181 0 620 false 621 988 .none .none .none .none 987 159)
def h1_623 (P : Params) : Obj := (hfr 622 619 "onestaff.errors" 187 none)
def h1_624 (P : Params) : Obj := (htu [])
def h1_625 (P : Params) : Obj := (hfi [])
def h1_626 (P : Params) : Obj := (htu [(.str (.ofString "self") 997), (.str (.ofString "found") 998)])
def h1_627 (P : Params) : Obj := (htu [])
def h1_628 (P : Params) : Obj := (.mk .none none (.func (.mk (.ofString "__init__") (.ofString "Shut.__init__") (defArgs (hsm 33 0)) (.stmts (defBody (hsm 33 0))) (defScope (hsm 33 0)) 0 [] .none .none .none .none none .none .none 0)) (.mk []))
def h1_629 (P : Params) : Obj := (hco "__init__" "Shut.__init__" 994 161 2 0 0 3 181 0 624 true 625 1000 .none (.ref 626) (.ref 627) (.ref 628) 999 161)
def h1_630 (P : Params) : Obj := (hfu "__init__" "Shut.__init__" (hsm 33 0) 3 (.str (.ofString "onestaff.errors") 187) (.ref 629) .none)
def h1_631 (P : Params) : Obj := (htu [(.str (.ofString "found") 1002)])
def h1_632 (P : Params) : Obj := (.mk (.type "dict") none (.dict (.mk [(hke P "__module__" 989 (.str (.ofString "onestaff.errors") 187)), (hke P "__firstlineno__" 993 (.int 159 992)), (hke P "__init__" 1001 (.ref 630)), (hke P "__static_attributes__" 1003 (.ref 631)), (hke P "__doc__" 1004 .none)]) 2) (.mk []))
def h1_633 (P : Params) : Obj := (.mk (.type "type") none (.cls (.mk (.ofString "Shut") [(.ref 24)] [(.ref 633), (.ref 24), (.type "ValueError"), (.type "Exception"), (.type "BaseException"), (.type "object")] 632 (.ofString "Shut") .true [] [] .false none .false)) (.mk [(some (.ref 617)), none, (some (.str (.ofString "Shut") 982)), (some (.str (.ofString "Shut") 990)), (some (.builtin "ValueError.__new__")), (some (.bool .true))]))
def h1_634 (P : Params) : Obj := (hsu (.ref 633) (.ref 633) (.ref 633))
def h1_635 (P : Params) : Obj := (hbm "object.__init_subclass__" 633)
def h1_636 (P : Params) : Obj := (htu [(.ref 24)])
def h1_637 (P : Params) : Obj := (.mk (.type "builtin_function_or_method") none (.fields (.mk [(.builtin "type.__prepare__"), (.type "type")])) (.mk []))
def h1_638 (P : Params) : Obj := (.mk (.type "dict") none (.dict (.mk [(hke P "__module__" 1014 (.str (.ofString "onestaff.errors") 187)), (hke P "__qualname__" 1016 (.str (.ofString "Held") 1015)), (hke P "__firstlineno__" 1018 (.int 164 1017)), (hke P "__init__" 1026 (.ref 649)), (hke P "__static_attributes__" 1028 (.ref 650))]) 5) (.mk []))
def h1_639 (P : Params) : Obj := (htu [])
def h1_640 (P : Params) : Obj := (hfi [(.int 166 0), (.int 4 0), (.ref 648)])
def h1_641 (P : Params) : Obj := (hco "Held" "Held" 1009 164 0 0 0 0 181 0 639 false 640 1013 .none .none .none .none 1012 164)
def h1_642 (P : Params) : Obj := (hfr 641 638 "onestaff.errors" 187 none)
def h1_643 (P : Params) : Obj := (htu [])
def h1_644 (P : Params) : Obj := (hfi [])
def h1_645 (P : Params) : Obj := (htu [(.str (.ofString "self") 1022), (.str (.ofString "found") 1023)])
def h1_646 (P : Params) : Obj := (htu [])
def h1_647 (P : Params) : Obj := (.mk .none none (.func (.mk (.ofString "__init__") (.ofString "Held.__init__") (defArgs (hsm 34 0)) (.stmts (defBody (hsm 34 0))) (defScope (hsm 34 0)) 0 [] .none .none .none .none none .none .none 0)) (.mk []))
def h1_648 (P : Params) : Obj := (hco "__init__" "Held.__init__" 1019 166 2 0 0 3 181 0 643 true 644 1025 .none (.ref 645) (.ref 646) (.ref 647) 1024 166)
def h1_649 (P : Params) : Obj := (hfu "__init__" "Held.__init__" (hsm 34 0) 3 (.str (.ofString "onestaff.errors") 187) (.ref 648) .none)
def h1_650 (P : Params) : Obj := (htu [(.str (.ofString "found") 1027)])
def h1_651 (P : Params) : Obj := (.mk (.type "dict") none (.dict (.mk [(hke P "__module__" 1014 (.str (.ofString "onestaff.errors") 187)), (hke P "__firstlineno__" 1018 (.int 164 1017)), (hke P "__init__" 1026 (.ref 649)), (hke P "__static_attributes__" 1028 (.ref 650)), (hke P "__doc__" 1029 .none)]) 2) (.mk []))
def h1_652 (P : Params) : Obj := (.mk (.type "type") none (.cls (.mk (.ofString "Held") [(.ref 24)] [(.ref 652), (.ref 24), (.type "ValueError"), (.type "Exception"), (.type "BaseException"), (.type "object")] 651 (.ofString "Held") .true [] [] .false none .false)) (.mk [(some (.ref 636)), none, (some (.str (.ofString "Held") 1007)), (some (.str (.ofString "Held") 1015)), (some (.builtin "ValueError.__new__")), (some (.bool .true))]))
def h1_653 (P : Params) : Obj := (hsu (.ref 652) (.ref 652) (.ref 652))
def h1_654 (P : Params) : Obj := (hbm "object.__init_subclass__" 652)
def h1_655 (P : Params) : Obj := (htu [(.ref 24)])
def h1_656 (P : Params) : Obj := (.mk (.type "builtin_function_or_method") none (.fields (.mk [(.builtin "type.__prepare__"), (.type "type")])) (.mk []))
def h1_657 (P : Params) : Obj := (.mk (.type "dict") none (.dict (.mk [(hke P "__module__" 1039 (.str (.ofString "onestaff.errors") 187)), (hke P "__qualname__" 1041 (.str (.ofString "NotClear") 1040)), (hke P "__firstlineno__" 1043 (.int 169 1042)), (hke P "__init__" 1051 (.ref 668)), (hke P "__static_attributes__" 1053 (.ref 669))]) 5) (.mk []))
def h1_658 (P : Params) : Obj := (htu [])
def h1_659 (P : Params) : Obj := (hfi [(.int 171 0), (.int 4 0), (.ref 667)])
def h1_660 (P : Params) : Obj := (hco "NotClear" "NotClear" 1034 169 0 0 0 0 181 0 658 false 659 1038 .none .none .none .none 1037 169)
def h1_661 (P : Params) : Obj := (hfr 660 657 "onestaff.errors" 187 none)
def h1_662 (P : Params) : Obj := (htu [])
def h1_663 (P : Params) : Obj := (hfi [])
def h1_664 (P : Params) : Obj := (htu [(.str (.ofString "self") 1047), (.str (.ofString "found") 1048)])
def h1_665 (P : Params) : Obj := (htu [])
def h1_666 (P : Params) : Obj := (.mk .none none (.func (.mk (.ofString "__init__") (.ofString "NotClear.__init__") (defArgs (hsm 35 0)) (.stmts (defBody (hsm 35 0))) (defScope (hsm 35 0)) 0 [] .none .none .none .none none .none .none 0)) (.mk []))
def h1_667 (P : Params) : Obj := (hco "__init__" "NotClear.__init__" 1044 171 2 0 0 3 181 0 662 true 663 1050 .none (.ref 664) (.ref 665) (.ref 666) 1049 171)
def h1_668 (P : Params) : Obj := (hfu "__init__" "NotClear.__init__" (hsm 35 0) 3 (.str (.ofString "onestaff.errors") 187) (.ref 667) .none)
def h1_669 (P : Params) : Obj := (htu [(.str (.ofString "found") 1052)])
def h1_670 (P : Params) : Obj := (.mk (.type "dict") none (.dict (.mk [(hke P "__module__" 1039 (.str (.ofString "onestaff.errors") 187)), (hke P "__firstlineno__" 1043 (.int 169 1042)), (hke P "__init__" 1051 (.ref 668)), (hke P "__static_attributes__" 1053 (.ref 669)), (hke P "__doc__" 1054 .none)]) 2) (.mk []))
def h1_671 (P : Params) : Obj := (.mk (.type "type") none (.cls (.mk (.ofString "NotClear") [(.ref 24)] [(.ref 671), (.ref 24), (.type "ValueError"), (.type "Exception"), (.type "BaseException"), (.type "object")] 670 (.ofString "NotClear") .true [] [] .false none .false)) (.mk [(some (.ref 655)), none, (some (.str (.ofString "NotClear") 1032)), (some (.str (.ofString "NotClear") 1040)), (some (.builtin "ValueError.__new__")), (some (.bool .true))]))
def h1_672 (P : Params) : Obj := (hsu (.ref 671) (.ref 671) (.ref 671))
def h1_673 (P : Params) : Obj := (hbm "object.__init_subclass__" 671)
def h1_674 (P : Params) : Obj := (htu [(.ref 24)])
def h1_675 (P : Params) : Obj := (.mk (.type "builtin_function_or_method") none (.fields (.mk [(.builtin "type.__prepare__"), (.type "type")])) (.mk []))
def h1_676 (P : Params) : Obj := (.mk (.type "dict") none (.dict (.mk [(hke P "__module__" 1064 (.str (.ofString "onestaff.errors") 187)), (hke P "__qualname__" 1066 (.str (.ofString "NoTickets") 1065)), (hke P "__firstlineno__" 1068 (.int 174 1067)), (hke P "__init__" 1076 (.ref 687)), (hke P "__static_attributes__" 1078 (.ref 688))]) 5) (.mk []))
def h1_677 (P : Params) : Obj := (htu [])
def h1_678 (P : Params) : Obj := (hfi [(.int 176 0), (.int 4 0), (.ref 686)])
def h1_679 (P : Params) : Obj := (hco "NoTickets" "NoTickets" 1059 174 0 0 0 0 181 0 677 false 678 1063 .none .none .none .none 1062 174)
def h1_680 (P : Params) : Obj := (hfr 679 676 "onestaff.errors" 187 none)
def h1_681 (P : Params) : Obj := (htu [])
def h1_682 (P : Params) : Obj := (hfi [])
def h1_683 (P : Params) : Obj := (htu [(.str (.ofString "self") 1072), (.str (.ofString "found") 1073)])
def h1_684 (P : Params) : Obj := (htu [])
def h1_685 (P : Params) : Obj := (.mk .none none (.func (.mk (.ofString "__init__") (.ofString "NoTickets.__init__") (defArgs (hsm 36 0)) (.stmts (defBody (hsm 36 0))) (defScope (hsm 36 0)) 0 [] .none .none .none .none none .none .none 0)) (.mk []))
def h1_686 (P : Params) : Obj := (hco "__init__" "NoTickets.__init__" 1069 176 2 0 0 3 181 0 681 true 682 1075 .none (.ref 683) (.ref 684) (.ref 685) 1074 176)
def h1_687 (P : Params) : Obj := (hfu "__init__" "NoTickets.__init__" (hsm 36 0) 3 (.str (.ofString "onestaff.errors") 187) (.ref 686) .none)
def h1_688 (P : Params) : Obj := (htu [(.str (.ofString "found") 1077)])
def h1_689 (P : Params) : Obj := (.mk (.type "dict") none (.dict (.mk [(hke P "__module__" 1064 (.str (.ofString "onestaff.errors") 187)), (hke P "__firstlineno__" 1068 (.int 174 1067)), (hke P "__init__" 1076 (.ref 687)), (hke P "__static_attributes__" 1078 (.ref 688)), (hke P "__doc__" 1079 .none)]) 2) (.mk []))
def h1_690 (P : Params) : Obj := (.mk (.type "type") none (.cls (.mk (.ofString "NoTickets") [(.ref 24)] [(.ref 690), (.ref 24), (.type "ValueError"), (.type "Exception"), (.type "BaseException"), (.type "object")] 689 (.ofString "NoTickets") .true [] [] .false none .false)) (.mk [(some (.ref 674)), none, (some (.str (.ofString "NoTickets") 1057)), (some (.str (.ofString "NoTickets") 1065)), (some (.builtin "ValueError.__new__")), (some (.bool .true))]))
def h1_691 (P : Params) : Obj := (hsu (.ref 690) (.ref 690) (.ref 690))
def h1_692 (P : Params) : Obj := (hbm "object.__init_subclass__" 690)
def h1_693 (P : Params) : Obj := (htu [(.ref 24)])
def h1_694 (P : Params) : Obj := (.mk (.type "builtin_function_or_method") none (.fields (.mk [(.builtin "type.__prepare__"), (.type "type")])) (.mk []))
def h1_695 (P : Params) : Obj := (.mk (.type "dict") none (.dict (.mk [(hke P "__module__" 1089 (.str (.ofString "onestaff.errors") 187)), (hke P "__qualname__" 1091 (.str (.ofString "NoRight") 1090)), (hke P "__firstlineno__" 1093 (.int 179 1092)), (hke P "__init__" 1101 (.ref 706)), (hke P "__static_attributes__" 1103 (.ref 707))]) 5) (.mk []))
def h1_696 (P : Params) : Obj := (htu [])
def h1_697 (P : Params) : Obj := (hfi [(.int 181 0), (.int 4 0), (.ref 705)])
def h1_698 (P : Params) : Obj := (hco "NoRight" "NoRight" 1084 179 0 0 0 0 181 0 696 false 697 1088 .none .none .none .none 1087 179)
def h1_699 (P : Params) : Obj := (hfr 698 695 "onestaff.errors" 187 none)
def h1_700 (P : Params) : Obj := (htu [])
def h1_701 (P : Params) : Obj := (hfi [])
def h1_702 (P : Params) : Obj := (htu [(.str (.ofString "self") 1097), (.str (.ofString "found") 1098)])
def h1_703 (P : Params) : Obj := (htu [])
def h1_704 (P : Params) : Obj := (.mk .none none (.func (.mk (.ofString "__init__") (.ofString "NoRight.__init__") (defArgs (hsm 37 0)) (.stmts (defBody (hsm 37 0))) (defScope (hsm 37 0)) 0 [] .none .none .none .none none .none .none 0)) (.mk []))
def h1_705 (P : Params) : Obj := (hco "__init__" "NoRight.__init__" 1094 181 2 0 0 3 181 0 700 true 701 1100 .none (.ref 702) (.ref 703) (.ref 704) 1099 181)
def h1_706 (P : Params) : Obj := (hfu "__init__" "NoRight.__init__" (hsm 37 0) 3 (.str (.ofString "onestaff.errors") 187) (.ref 705) .none)
def h1_707 (P : Params) : Obj := (htu [(.str (.ofString "found") 1102)])
def h1_708 (P : Params) : Obj := (.mk (.type "dict") none (.dict (.mk [(hke P "__module__" 1089 (.str (.ofString "onestaff.errors") 187)), (hke P "__firstlineno__" 1093 (.int 179 1092)), (hke P "__init__" 1101 (.ref 706)), (hke P "__static_attributes__" 1103 (.ref 707)), (hke P "__doc__" 1104 .none)]) 2) (.mk []))
def h1_709 (P : Params) : Obj := (.mk (.type "type") none (.cls (.mk (.ofString "NoRight") [(.ref 24)] [(.ref 709), (.ref 24), (.type "ValueError"), (.type "Exception"), (.type "BaseException"), (.type "object")] 708 (.ofString "NoRight") .true [] [] .false none .false)) (.mk [(some (.ref 693)), none, (some (.str (.ofString "NoRight") 1082)), (some (.str (.ofString "NoRight") 1090)), (some (.builtin "ValueError.__new__")), (some (.bool .true))]))
def h1_710 (P : Params) : Obj := (hsu (.ref 709) (.ref 709) (.ref 709))
def h1_711 (P : Params) : Obj := (hbm "object.__init_subclass__" 709)
def h1_712 (P : Params) : Obj := (htu [(.ref 24)])
def h1_713 (P : Params) : Obj := (.mk (.type "builtin_function_or_method") none (.fields (.mk [(.builtin "type.__prepare__"), (.type "type")])) (.mk []))
def h1_714 (P : Params) : Obj := (.mk (.type "dict") none (.dict (.mk [(hke P "__module__" 1114 (.str (.ofString "onestaff.errors") 187)), (hke P "__qualname__" 1116 (.str (.ofString "NotShut") 1115)), (hke P "__firstlineno__" 1118 (.int 184 1117)), (hke P "__init__" 1126 (.ref 725)), (hke P "__static_attributes__" 1128 (.ref 726))]) 5) (.mk []))
def h1_715 (P : Params) : Obj := (htu [])
def h1_716 (P : Params) : Obj := (hfi [(.int 186 0), (.int 4 0), (.ref 724)])
def h1_717 (P : Params) : Obj := (hco "NotShut" "NotShut" 1109 184 0 0 0 0 181 0 715 false 716 1113 .none .none .none .none 1112 184)
def h1_718 (P : Params) : Obj := (hfr 717 714 "onestaff.errors" 187 none)
def h1_719 (P : Params) : Obj := (htu [])
def h1_720 (P : Params) : Obj := (hfi [])
def h1_721 (P : Params) : Obj := (htu [(.str (.ofString "self") 1122), (.str (.ofString "found") 1123)])
def h1_722 (P : Params) : Obj := (htu [])
def h1_723 (P : Params) : Obj := (.mk .none none (.func (.mk (.ofString "__init__") (.ofString "NotShut.__init__") (defArgs (hsm 38 0)) (.stmts (defBody (hsm 38 0))) (defScope (hsm 38 0)) 0 [] .none .none .none .none none .none .none 0)) (.mk []))
def h1_724 (P : Params) : Obj := (hco "__init__" "NotShut.__init__" 1119 186 2 0 0 3 181 0 719 true 720 1125 .none (.ref 721) (.ref 722) (.ref 723) 1124 186)
def h1_725 (P : Params) : Obj := (hfu "__init__" "NotShut.__init__" (hsm 38 0) 3 (.str (.ofString "onestaff.errors") 187) (.ref 724) .none)
def h1_726 (P : Params) : Obj := (htu [(.str (.ofString "found") 1127)])
def h1_727 (P : Params) : Obj := (.mk (.type "dict") none (.dict (.mk [(hke P "__module__" 1114 (.str (.ofString "onestaff.errors") 187)), (hke P "__firstlineno__" 1118 (.int 184 1117)), (hke P "__init__" 1126 (.ref 725)), (hke P "__static_attributes__" 1128 (.ref 726)), (hke P "__doc__" 1129 .none)]) 2) (.mk []))
def h1_728 (P : Params) : Obj := (.mk (.type "type") none (.cls (.mk (.ofString "NotShut") [(.ref 24)] [(.ref 728), (.ref 24), (.type "ValueError"), (.type "Exception"), (.type "BaseException"), (.type "object")] 727 (.ofString "NotShut") .true [] [] .false none .false)) (.mk [(some (.ref 712)), none, (some (.str (.ofString "NotShut") 1107)), (some (.str (.ofString "NotShut") 1115)), (some (.builtin "ValueError.__new__")), (some (.bool .true))]))
def h1_729 (P : Params) : Obj := (hsu (.ref 728) (.ref 728) (.ref 728))
def h1_730 (P : Params) : Obj := (hbm "object.__init_subclass__" 728)
def h1_731 (P : Params) : Obj := (htu [(.ref 24)])
def h1_732 (P : Params) : Obj := (.mk (.type "builtin_function_or_method") none (.fields (.mk [(.builtin "type.__prepare__"), (.type "type")])) (.mk []))
def h1_733 (P : Params) : Obj := (.mk (.type "dict") none (.dict (.mk [(hke P "__module__" 1139 (.str (.ofString "onestaff.errors") 187)), (hke P "__qualname__" 1141 (.str (.ofString "Taken") 1140)), (hke P "__firstlineno__" 1143 (.int 189 1142)), (hke P "__init__" 1151 (.ref 744)), (hke P "__static_attributes__" 1153 (.ref 745))]) 5) (.mk []))
def h1_734 (P : Params) : Obj := (htu [])
def h1_735 (P : Params) : Obj := (hfi [(.int 191 0), (.int 4 0), (.ref 743)])
def h1_736 (P : Params) : Obj := (hco "Taken" "Taken" 1134 189 0 0 0 0 181 0 734 false 735 1138 .none .none .none .none 1137 189)
def h1_737 (P : Params) : Obj := (hfr 736 733 "onestaff.errors" 187 none)
def h1_738 (P : Params) : Obj := (htu [])
def h1_739 (P : Params) : Obj := (hfi [])
def h1_740 (P : Params) : Obj := (htu [(.str (.ofString "self") 1147), (.str (.ofString "found") 1148)])
def h1_741 (P : Params) : Obj := (htu [])
def h1_742 (P : Params) : Obj := (.mk .none none (.func (.mk (.ofString "__init__") (.ofString "Taken.__init__") (defArgs (hsm 39 0)) (.stmts (defBody (hsm 39 0))) (defScope (hsm 39 0)) 0 [] .none .none .none .none none .none .none 0)) (.mk []))
def h1_743 (P : Params) : Obj := (hco "__init__" "Taken.__init__" 1144 191 2 0 0 3 181 0 738 true 739 1150 .none (.ref 740) (.ref 741) (.ref 742) 1149 191)
def h1_744 (P : Params) : Obj := (hfu "__init__" "Taken.__init__" (hsm 39 0) 3 (.str (.ofString "onestaff.errors") 187) (.ref 743) .none)
def h1_745 (P : Params) : Obj := (htu [(.str (.ofString "found") 1152)])
def h1_746 (P : Params) : Obj := (.mk (.type "dict") none (.dict (.mk [(hke P "__module__" 1139 (.str (.ofString "onestaff.errors") 187)), (hke P "__firstlineno__" 1143 (.int 189 1142)), (hke P "__init__" 1151 (.ref 744)), (hke P "__static_attributes__" 1153 (.ref 745)), (hke P "__doc__" 1154 .none)]) 2) (.mk []))
def h1_747 (P : Params) : Obj := (.mk (.type "type") none (.cls (.mk (.ofString "Taken") [(.ref 24)] [(.ref 747), (.ref 24), (.type "ValueError"), (.type "Exception"), (.type "BaseException"), (.type "object")] 746 (.ofString "Taken") .true [] [] .false none .false)) (.mk [(some (.ref 731)), none, (some (.str (.ofString "Taken") 1132)), (some (.str (.ofString "Taken") 1140)), (some (.builtin "ValueError.__new__")), (some (.bool .true))]))
def h1_748 (P : Params) : Obj := (hsu (.ref 747) (.ref 747) (.ref 747))
def h1_749 (P : Params) : Obj := (hbm "object.__init_subclass__" 747)
def h1_750 (P : Params) : Obj := (htu [(.ref 24)])
def h1_751 (P : Params) : Obj := (.mk (.type "builtin_function_or_method") none (.fields (.mk [(.builtin "type.__prepare__"), (.type "type")])) (.mk []))
def h1_752 (P : Params) : Obj := (.mk (.type "dict") none (.dict (.mk [(hke P "__module__" 1164 (.str (.ofString "onestaff.errors") 187)), (hke P "__qualname__" 1166 (.str (.ofString "Boxed") 1165)), (hke P "__firstlineno__" 1168 (.int 194 1167)), (hke P "__init__" 1176 (.ref 763)), (hke P "__static_attributes__" 1178 (.ref 764))]) 5) (.mk []))
def h1_753 (P : Params) : Obj := (htu [])
def h1_754 (P : Params) : Obj := (hfi [(.int 196 0), (.int 4 0), (.ref 762)])
def h1_755 (P : Params) : Obj := (hco "Boxed" "Boxed" 1159 194 0 0 0 0 181 0 753 false 754 1163 .none .none .none .none 1162 194)
def h1_756 (P : Params) : Obj := (hfr 755 752 "onestaff.errors" 187 none)
def h1_757 (P : Params) : Obj := (htu [])
def h1_758 (P : Params) : Obj := (hfi [])
def h1_759 (P : Params) : Obj := (htu [(.str (.ofString "self") 1172), (.str (.ofString "found") 1173)])
def h1_760 (P : Params) : Obj := (htu [])
def h1_761 (P : Params) : Obj := (.mk .none none (.func (.mk (.ofString "__init__") (.ofString "Boxed.__init__") (defArgs (hsm 40 0)) (.stmts (defBody (hsm 40 0))) (defScope (hsm 40 0)) 0 [] .none .none .none .none none .none .none 0)) (.mk []))
def h1_762 (P : Params) : Obj := (hco "__init__" "Boxed.__init__" 1169 196 2 0 0 3 181 0 757 true 758 1175 .none (.ref 759) (.ref 760) (.ref 761) 1174 196)
def h1_763 (P : Params) : Obj := (hfu "__init__" "Boxed.__init__" (hsm 40 0) 3 (.str (.ofString "onestaff.errors") 187) (.ref 762) .none)
def h1_764 (P : Params) : Obj := (htu [(.str (.ofString "found") 1177)])
def h1_765 (P : Params) : Obj := (.mk (.type "dict") none (.dict (.mk [(hke P "__module__" 1164 (.str (.ofString "onestaff.errors") 187)), (hke P "__firstlineno__" 1168 (.int 194 1167)), (hke P "__init__" 1176 (.ref 763)), (hke P "__static_attributes__" 1178 (.ref 764)), (hke P "__doc__" 1179 .none)]) 2) (.mk []))
def h1_766 (P : Params) : Obj := (.mk (.type "type") none (.cls (.mk (.ofString "Boxed") [(.ref 24)] [(.ref 766), (.ref 24), (.type "ValueError"), (.type "Exception"), (.type "BaseException"), (.type "object")] 765 (.ofString "Boxed") .true [] [] .false none .false)) (.mk [(some (.ref 750)), none, (some (.str (.ofString "Boxed") 1157)), (some (.str (.ofString "Boxed") 1165)), (some (.builtin "ValueError.__new__")), (some (.bool .true))]))
def h1_767 (P : Params) : Obj := (hsu (.ref 766) (.ref 766) (.ref 766))
def h1_768 (P : Params) : Obj := (hbm "object.__init_subclass__" 766)
def h1_769 (P : Params) : Obj := (htu [(.ref 24)])
def h1_770 (P : Params) : Obj := (.mk (.type "builtin_function_or_method") none (.fields (.mk [(.builtin "type.__prepare__"), (.type "type")])) (.mk []))
def h1_771 (P : Params) : Obj := (.mk (.type "dict") none (.dict (.mk [(hke P "__module__" 1189 (.str (.ofString "onestaff.errors") 187)), (hke P "__qualname__" 1191 (.str (.ofString "Silent") 1190)), (hke P "__firstlineno__" 1193 (.int 199 1192)), (hke P "__init__" 1201 (.ref 782)), (hke P "__static_attributes__" 1203 (.ref 783))]) 5) (.mk []))
def h1_772 (P : Params) : Obj := (htu [])
def h1_773 (P : Params) : Obj := (hfi [(.int 201 0), (.int 4 0), (.ref 781)])
def h1_774 (P : Params) : Obj := (hco "Silent" "Silent" 1184 199 0 0 0 0 181 0 772 false 773 1188 .none .none .none .none 1187 199)
def h1_775 (P : Params) : Obj := (hfr 774 771 "onestaff.errors" 187 none)
def h1_776 (P : Params) : Obj := (htu [])
def h1_777 (P : Params) : Obj := (hfi [])
def h1_778 (P : Params) : Obj := (htu [(.str (.ofString "self") 1197), (.str (.ofString "found") 1198)])
def h1_779 (P : Params) : Obj := (htu [])
def h1_780 (P : Params) : Obj := (.mk .none none (.func (.mk (.ofString "__init__") (.ofString "Silent.__init__") (defArgs (hsm 41 0)) (.stmts (defBody (hsm 41 0))) (defScope (hsm 41 0)) 0 [] .none .none .none .none none .none .none 0)) (.mk []))
def h1_781 (P : Params) : Obj := (hco "__init__" "Silent.__init__" 1194 201 2 0 0 3 181 0 776 true 777 1200 .none (.ref 778) (.ref 779) (.ref 780) 1199 201)
def h1_782 (P : Params) : Obj := (hfu "__init__" "Silent.__init__" (hsm 41 0) 3 (.str (.ofString "onestaff.errors") 187) (.ref 781) .none)
def h1_783 (P : Params) : Obj := (htu [(.str (.ofString "found") 1202)])
def h1_784 (P : Params) : Obj := (.mk (.type "dict") none (.dict (.mk [(hke P "__module__" 1189 (.str (.ofString "onestaff.errors") 187)), (hke P "__firstlineno__" 1193 (.int 199 1192)), (hke P "__init__" 1201 (.ref 782)), (hke P "__static_attributes__" 1203 (.ref 783)), (hke P "__doc__" 1204 .none)]) 2) (.mk []))
def h1_785 (P : Params) : Obj := (.mk (.type "type") none (.cls (.mk (.ofString "Silent") [(.ref 24)] [(.ref 785), (.ref 24), (.type "ValueError"), (.type "Exception"), (.type "BaseException"), (.type "object")] 784 (.ofString "Silent") .true [] [] .false none .false)) (.mk [(some (.ref 769)), none, (some (.str (.ofString "Silent") 1182)), (some (.str (.ofString "Silent") 1190)), (some (.builtin "ValueError.__new__")), (some (.bool .true))]))
def h1_786 (P : Params) : Obj := (hsu (.ref 785) (.ref 785) (.ref 785))
def h1_787 (P : Params) : Obj := (hbm "object.__init_subclass__" 785)
def h1_788 (P : Params) : Obj := (htu [(.ref 24)])
def h1_789 (P : Params) : Obj := (.mk (.type "builtin_function_or_method") none (.fields (.mk [(.builtin "type.__prepare__"), (.type "type")])) (.mk []))
def h1_790 (P : Params) : Obj := (.mk (.type "dict") none (.dict (.mk [(hke P "__module__" 1214 (.str (.ofString "onestaff.errors") 187)), (hke P "__qualname__" 1216 (.str (.ofString "TooMany") 1215)), (hke P "__firstlineno__" 1218 (.int 204 1217)), (hke P "__init__" 1226 (.ref 801)), (hke P "__static_attributes__" 1228 (.ref 802))]) 5) (.mk []))
def h1_791 (P : Params) : Obj := (htu [])
def h1_792 (P : Params) : Obj := (hfi [(.int 206 0), (.int 4 0), (.ref 800)])
def h1_793 (P : Params) : Obj := (hco "TooMany" "TooMany" 1209 204 0 0 0 0 181 0 791 false 792 1213 .none .none .none .none 1212 204)
def h1_794 (P : Params) : Obj := (hfr 793 790 "onestaff.errors" 187 none)
def h1_795 (P : Params) : Obj := (htu [])
def h1_796 (P : Params) : Obj := (hfi [])
def h1_797 (P : Params) : Obj := (htu [(.str (.ofString "self") 1222), (.str (.ofString "many") 1223)])
def h1_798 (P : Params) : Obj := (htu [])
def h1_799 (P : Params) : Obj := (.mk .none none (.func (.mk (.ofString "__init__") (.ofString "TooMany.__init__") (defArgs (hsm 42 0)) (.stmts (defBody (hsm 42 0))) (defScope (hsm 42 0)) 0 [] .none .none .none .none none .none .none 0)) (.mk []))
def h1_800 (P : Params) : Obj := (hco "__init__" "TooMany.__init__" 1219 206 2 0 0 3 181 0 795 true 796 1225 .none (.ref 797) (.ref 798) (.ref 799) 1224 206)
def h1_801 (P : Params) : Obj := (hfu "__init__" "TooMany.__init__" (hsm 42 0) 3 (.str (.ofString "onestaff.errors") 187) (.ref 800) .none)
def h1_802 (P : Params) : Obj := (htu [(.str (.ofString "many") 1227)])
def h1_803 (P : Params) : Obj := (.mk (.type "dict") none (.dict (.mk [(hke P "__module__" 1214 (.str (.ofString "onestaff.errors") 187)), (hke P "__firstlineno__" 1218 (.int 204 1217)), (hke P "__init__" 1226 (.ref 801)), (hke P "__static_attributes__" 1228 (.ref 802)), (hke P "__doc__" 1229 .none)]) 2) (.mk []))
def h1_804 (P : Params) : Obj := (.mk (.type "type") none (.cls (.mk (.ofString "TooMany") [(.ref 24)] [(.ref 804), (.ref 24), (.type "ValueError"), (.type "Exception"), (.type "BaseException"), (.type "object")] 803 (.ofString "TooMany") .true [] [] .false none .false)) (.mk [(some (.ref 788)), none, (some (.str (.ofString "TooMany") 1207)), (some (.str (.ofString "TooMany") 1215)), (some (.builtin "ValueError.__new__")), (some (.bool .true))]))
def h1_805 (P : Params) : Obj := (hsu (.ref 804) (.ref 804) (.ref 804))
def h1_806 (P : Params) : Obj := (hbm "object.__init_subclass__" 804)
def h1_807 (P : Params) : Obj := (htu [(.ref 24)])
def h1_808 (P : Params) : Obj := (.mk (.type "builtin_function_or_method") none (.fields (.mk [(.builtin "type.__prepare__"), (.type "type")])) (.mk []))
def h1_809 (P : Params) : Obj := (.mk (.type "dict") none (.dict (.mk [(hke P "__module__" 1239 (.str (.ofString "onestaff.errors") 187)), (hke P "__qualname__" 1241 (.str (.ofString "NoText") 1240)), (hke P "__firstlineno__" 1243 (.int 209 1242)), (hke P "__init__" 1251 (.ref 820)), (hke P "__static_attributes__" 1253 (.ref 821))]) 5) (.mk []))
def h1_810 (P : Params) : Obj := (htu [])
def h1_811 (P : Params) : Obj := (hfi [(.int 211 0), (.int 4 0), (.ref 819)])
def h1_812 (P : Params) : Obj := (hco "NoText" "NoText" 1234 209 0 0 0 0 181 0 810 false 811 1238 .none .none .none .none 1237 209)
def h1_813 (P : Params) : Obj := (hfr 812 809 "onestaff.errors" 187 none)
def h1_814 (P : Params) : Obj := (htu [])
def h1_815 (P : Params) : Obj := (hfi [])
def h1_816 (P : Params) : Obj := (htu [(.str (.ofString "self") 1247), (.str (.ofString "row") 1248)])
def h1_817 (P : Params) : Obj := (htu [])
def h1_818 (P : Params) : Obj := (.mk .none none (.func (.mk (.ofString "__init__") (.ofString "NoText.__init__") (defArgs (hsm 43 0)) (.stmts (defBody (hsm 43 0))) (defScope (hsm 43 0)) 0 [] .none .none .none .none none .none .none 0)) (.mk []))
def h1_819 (P : Params) : Obj := (hco "__init__" "NoText.__init__" 1244 211 2 0 0 3 181 0 814 true 815 1250 .none (.ref 816) (.ref 817) (.ref 818) 1249 211)
def h1_820 (P : Params) : Obj := (hfu "__init__" "NoText.__init__" (hsm 43 0) 3 (.str (.ofString "onestaff.errors") 187) (.ref 819) .none)
def h1_821 (P : Params) : Obj := (htu [(.str (.ofString "row") 1252)])
def h1_822 (P : Params) : Obj := (.mk (.type "dict") none (.dict (.mk [(hke P "__module__" 1239 (.str (.ofString "onestaff.errors") 187)), (hke P "__firstlineno__" 1243 (.int 209 1242)), (hke P "__init__" 1251 (.ref 820)), (hke P "__static_attributes__" 1253 (.ref 821)), (hke P "__doc__" 1254 .none)]) 2) (.mk []))
def h1_823 (P : Params) : Obj := (.mk (.type "type") none (.cls (.mk (.ofString "NoText") [(.ref 24)] [(.ref 823), (.ref 24), (.type "ValueError"), (.type "Exception"), (.type "BaseException"), (.type "object")] 822 (.ofString "NoText") .true [] [] .false none .false)) (.mk [(some (.ref 807)), none, (some (.str (.ofString "NoText") 1232)), (some (.str (.ofString "NoText") 1240)), (some (.builtin "ValueError.__new__")), (some (.bool .true))]))
def h1_824 (P : Params) : Obj := (hsu (.ref 823) (.ref 823) (.ref 823))
def h1_825 (P : Params) : Obj := (hbm "object.__init_subclass__" 823)
def h1_826 (P : Params) : Obj := (htu [(.ref 24)])
def h1_827 (P : Params) : Obj := (.mk (.type "builtin_function_or_method") none (.fields (.mk [(.builtin "type.__prepare__"), (.type "type")])) (.mk []))
def h1_828 (P : Params) : Obj := (.mk (.type "dict") none (.dict (.mk [(hke P "__module__" 1264 (.str (.ofString "onestaff.errors") 187)), (hke P "__qualname__" 1266 (.str (.ofString "Gap") 1265)), (hke P "__firstlineno__" 1268 (.int 214 1267)), (hke P "__init__" 1276 (.ref 839)), (hke P "__static_attributes__" 1278 (.ref 840))]) 5) (.mk []))
def h1_829 (P : Params) : Obj := (htu [])
def h1_830 (P : Params) : Obj := (hfi [(.int 216 0), (.int 4 0), (.ref 838)])
def h1_831 (P : Params) : Obj := (hco "Gap" "Gap" 1259 214 0 0 0 0 181 0 829 false 830 1263 .none .none .none .none 1262 214)
def h1_832 (P : Params) : Obj := (hfr 831 828 "onestaff.errors" 187 none)
def h1_833 (P : Params) : Obj := (htu [])
def h1_834 (P : Params) : Obj := (hfi [])
def h1_835 (P : Params) : Obj := (htu [(.str (.ofString "self") 1272), (.str (.ofString "number") 1273)])
def h1_836 (P : Params) : Obj := (htu [])
def h1_837 (P : Params) : Obj := (.mk .none none (.func (.mk (.ofString "__init__") (.ofString "Gap.__init__") (defArgs (hsm 44 0)) (.stmts (defBody (hsm 44 0))) (defScope (hsm 44 0)) 0 [] .none .none .none .none none .none .none 0)) (.mk []))
def h1_838 (P : Params) : Obj := (hco "__init__" "Gap.__init__" 1269 216 2 0 0 3 181 0 833 true 834 1275 .none (.ref 835) (.ref 836) (.ref 837) 1274 216)
def h1_839 (P : Params) : Obj := (hfu "__init__" "Gap.__init__" (hsm 44 0) 3 (.str (.ofString "onestaff.errors") 187) (.ref 838) .none)
def h1_840 (P : Params) : Obj := (htu [(.str (.ofString "number") 1277)])
def h1_841 (P : Params) : Obj := (.mk (.type "dict") none (.dict (.mk [(hke P "__module__" 1264 (.str (.ofString "onestaff.errors") 187)), (hke P "__firstlineno__" 1268 (.int 214 1267)), (hke P "__init__" 1276 (.ref 839)), (hke P "__static_attributes__" 1278 (.ref 840)), (hke P "__doc__" 1279 .none)]) 2) (.mk []))
def h1_842 (P : Params) : Obj := (.mk (.type "type") none (.cls (.mk (.ofString "Gap") [(.ref 24)] [(.ref 842), (.ref 24), (.type "ValueError"), (.type "Exception"), (.type "BaseException"), (.type "object")] 841 (.ofString "Gap") .true [] [] .false none .false)) (.mk [(some (.ref 826)), none, (some (.str (.ofString "Gap") 1257)), (some (.str (.ofString "Gap") 1265)), (some (.builtin "ValueError.__new__")), (some (.bool .true))]))
def h1_843 (P : Params) : Obj := (hsu (.ref 842) (.ref 842) (.ref 842))
def h1_844 (P : Params) : Obj := (hbm "object.__init_subclass__" 842)
def h1_845 (P : Params) : Obj := (htu [(.ref 24)])
def h1_846 (P : Params) : Obj := (.mk (.type "builtin_function_or_method") none (.fields (.mk [(.builtin "type.__prepare__"), (.type "type")])) (.mk []))
def h1_847 (P : Params) : Obj := (.mk (.type "dict") none (.dict (.mk [(hke P "__module__" 1289 (.str (.ofString "onestaff.errors") 187)), (hke P "__qualname__" 1291 (.str (.ofString "NotSo") 1290)), (hke P "__firstlineno__" 1293 (.int 219 1292)), (hke P "__init__" 1301 (.ref 858)), (hke P "__static_attributes__" 1303 (.ref 859))]) 5) (.mk []))
def h1_848 (P : Params) : Obj := (htu [])
def h1_849 (P : Params) : Obj := (hfi [(.int 221 0), (.int 4 0), (.ref 857)])
def h1_850 (P : Params) : Obj := (hco "NotSo" "NotSo" 1284 219 0 0 0 0 181 0 848 false 849 1288 .none .none .none .none 1287 219)
def h1_851 (P : Params) : Obj := (hfr 850 847 "onestaff.errors" 187 none)
def h1_852 (P : Params) : Obj := (htu [])
def h1_853 (P : Params) : Obj := (hfi [])
def h1_854 (P : Params) : Obj := (htu [(.str (.ofString "self") 1297), (.str (.ofString "number") 1298)])
def h1_855 (P : Params) : Obj := (htu [])
def h1_856 (P : Params) : Obj := (.mk .none none (.func (.mk (.ofString "__init__") (.ofString "NotSo.__init__") (defArgs (hsm 45 0)) (.stmts (defBody (hsm 45 0))) (defScope (hsm 45 0)) 0 [] .none .none .none .none none .none .none 0)) (.mk []))
def h1_857 (P : Params) : Obj := (hco "__init__" "NotSo.__init__" 1294 221 2 0 0 3 181 0 852 true 853 1300 .none (.ref 854) (.ref 855) (.ref 856) 1299 221)
def h1_858 (P : Params) : Obj := (hfu "__init__" "NotSo.__init__" (hsm 45 0) 3 (.str (.ofString "onestaff.errors") 187) (.ref 857) .none)
def h1_859 (P : Params) : Obj := (htu [(.str (.ofString "number") 1302)])
def h1_860 (P : Params) : Obj := (.mk (.type "dict") none (.dict (.mk [(hke P "__module__" 1289 (.str (.ofString "onestaff.errors") 187)), (hke P "__firstlineno__" 1293 (.int 219 1292)), (hke P "__init__" 1301 (.ref 858)), (hke P "__static_attributes__" 1303 (.ref 859)), (hke P "__doc__" 1304 .none)]) 2) (.mk []))
def h1_861 (P : Params) : Obj := (.mk (.type "type") none (.cls (.mk (.ofString "NotSo") [(.ref 24)] [(.ref 861), (.ref 24), (.type "ValueError"), (.type "Exception"), (.type "BaseException"), (.type "object")] 860 (.ofString "NotSo") .true [] [] .false none .false)) (.mk [(some (.ref 845)), none, (some (.str (.ofString "NotSo") 1282)), (some (.str (.ofString "NotSo") 1290)), (some (.builtin "ValueError.__new__")), (some (.bool .true))]))
def h1_862 (P : Params) : Obj := (hsu (.ref 861) (.ref 861) (.ref 861))
def h1_863 (P : Params) : Obj := (hbm "object.__init_subclass__" 861)
def h1_864 (P : Params) : Obj := (htu [(.ref 24)])
def h1_865 (P : Params) : Obj := (.mk (.type "builtin_function_or_method") none (.fields (.mk [(.builtin "type.__prepare__"), (.type "type")])) (.mk []))
def h1_866 (P : Params) : Obj := (.mk (.type "dict") none (.dict (.mk [(hke P "__module__" 1314 (.str (.ofString "onestaff.errors") 187)), (hke P "__qualname__" 1316 (.str (.ofString "NoTrip") 1315)), (hke P "__firstlineno__" 1318 (.int 224 1317)), (hke P "__init__" 1326 (.ref 877)), (hke P "__static_attributes__" 1328 (.ref 878))]) 5) (.mk []))
def h1_867 (P : Params) : Obj := (htu [])
def h1_868 (P : Params) : Obj := (hfi [(.int 226 0), (.int 4 0), (.ref 876)])
def h1_869 (P : Params) : Obj := (hco "NoTrip" "NoTrip" 1309 224 0 0 0 0 181 0 867 false 868 1313 .none .none .none .none 1312 224)
def h1_870 (P : Params) : Obj := (hfr 869 866 "onestaff.errors" 187 none)
def h1_871 (P : Params) : Obj := (htu [])
def h1_872 (P : Params) : Obj := (hfi [])
def h1_873 (P : Params) : Obj := (htu [(.str (.ofString "self") 1322), (.str (.ofString "run") 1323)])
def h1_874 (P : Params) : Obj := (htu [])
def h1_875 (P : Params) : Obj := (.mk .none none (.func (.mk (.ofString "__init__") (.ofString "NoTrip.__init__") (defArgs (hsm 46 0)) (.stmts (defBody (hsm 46 0))) (defScope (hsm 46 0)) 0 [] .none .none .none .none none .none .none 0)) (.mk []))
def h1_876 (P : Params) : Obj := (hco "__init__" "NoTrip.__init__" 1319 226 2 0 0 3 181 0 871 true 872 1325 .none (.ref 873) (.ref 874) (.ref 875) 1324 226)
def h1_877 (P : Params) : Obj := (hfu "__init__" "NoTrip.__init__" (hsm 46 0) 3 (.str (.ofString "onestaff.errors") 187) (.ref 876) .none)
def h1_878 (P : Params) : Obj := (htu [(.str (.ofString "run") 1327)])
def h1_879 (P : Params) : Obj := (.mk (.type "dict") none (.dict (.mk [(hke P "__module__" 1314 (.str (.ofString "onestaff.errors") 187)), (hke P "__firstlineno__" 1318 (.int 224 1317)), (hke P "__init__" 1326 (.ref 877)), (hke P "__static_attributes__" 1328 (.ref 878)), (hke P "__doc__" 1329 .none)]) 2) (.mk []))
def h1_880 (P : Params) : Obj := (.mk (.type "type") none (.cls (.mk (.ofString "NoTrip") [(.ref 24)] [(.ref 880), (.ref 24), (.type "ValueError"), (.type "Exception"), (.type "BaseException"), (.type "object")] 879 (.ofString "NoTrip") .true [] [] .false none .false)) (.mk [(some (.ref 864)), none, (some (.str (.ofString "NoTrip") 1307)), (some (.str (.ofString "NoTrip") 1315)), (some (.builtin "ValueError.__new__")), (some (.bool .true))]))
def h1_881 (P : Params) : Obj := (hsu (.ref 880) (.ref 880) (.ref 880))
def h1_882 (P : Params) : Obj := (hbm "object.__init_subclass__" 880)
def hT1 (P : Params) : BT := (.node (boot_o_0 P) (.node (boot_o_1 P) (.node (h1_3 P) (.node (boot_o_7 P) (.node (h0_15 P) (.node (h0_31 P) (.node (h0_63 P) (.node (h0_127 P) (.node (h0_255 P) (.node (h1_511 P) .nil .nil) (.node (h1_767 P) .nil .nil)) (.node (h0_383 P) (.node (h1_639 P) .nil .nil) .nil)) (.node (h0_191 P) (.node (h0_319 P) (.node (h1_575 P) .nil .nil) (.node (h1_831 P) .nil .nil)) (.node (h1_447 P) (.node (h1_703 P) .nil .nil) .nil))) (.node (h0_95 P) (.node (h0_159 P) (.node (h0_287 P) (.node (h1_543 P) .nil .nil) (.node (h1_799 P) .nil .nil)) (.node (h0_415 P) (.node (h1_671 P) .nil .nil) .nil)) (.node (h0_223 P) (.node (h0_351 P) (.node (h1_607 P) .nil .nil) (.node (h1_863 P) .nil .nil)) (.node (h1_479 P) (.node (h1_735 P) .nil .nil) .nil)))) (.node (h0_47 P) (.node (h0_79 P) (.node (h0_143 P) (.node (h0_271 P) (.node (h1_527 P) .nil .nil) (.node (h1_783 P) .nil .nil)) (.node (h0_399 P) (.node (h1_655 P) .nil .nil) .nil)) (.node (h0_207 P) (.node (h0_335 P) (.node (h1_591 P) .nil .nil) (.node (h1_847 P) .nil .nil)) (.node (h1_463 P) (.node (h1_719 P) .nil .nil) .nil))) (.node (h0_111 P) (.node (h0_175 P) (.node (h0_303 P) (.node (h1_559 P) .nil .nil) (.node (h1_815 P) .nil .nil)) (.node (h0_431 P) (.node (h1_687 P) .nil .nil) .nil)) (.node (h0_239 P) (.node (h0_367 P) (.node (h1_623 P) .nil .nil) (.node (h1_879 P) .nil .nil)) (.node (h1_495 P) (.node (h1_751 P) .nil .nil) .nil))))) (.node (h0_23 P) (.node (h0_39 P) (.node (h0_71 P) (.node (h0_135 P) (.node (h0_263 P) (.node (h1_519 P) .nil .nil) (.node (h1_775 P) .nil .nil)) (.node (h0_391 P) (.node (h1_647 P) .nil .nil) .nil)) (.node (h0_199 P) (.node (h0_327 P) (.node (h1_583 P) .nil .nil) (.node (h1_839 P) .nil .nil)) (.node (h1_455 P) (.node (h1_711 P) .nil .nil) .nil))) (.node (h0_103 P) (.node (h0_167 P) (.node (h0_295 P) (.node (h1_551 P) .nil .nil) (.node (h1_807 P) .nil .nil)) (.node (h0_423 P) (.node (h1_679 P) .nil .nil) .nil)) (.node (h0_231 P) (.node (h0_359 P) (.node (h1_615 P) .nil .nil) (.node (h1_871 P) .nil .nil)) (.node (h1_487 P) (.node (h1_743 P) .nil .nil) .nil)))) (.node (h0_55 P) (.node (h0_87 P) (.node (h0_151 P) (.node (h0_279 P) (.node (h1_535 P) .nil .nil) (.node (h1_791 P) .nil .nil)) (.node (h0_407 P) (.node (h1_663 P) .nil .nil) .nil)) (.node (h0_215 P) (.node (h0_343 P) (.node (h1_599 P) .nil .nil) (.node (h1_855 P) .nil .nil)) (.node (h1_471 P) (.node (h1_727 P) .nil .nil) .nil))) (.node (h0_119 P) (.node (h0_183 P) (.node (h0_311 P) (.node (h1_567 P) .nil .nil) (.node (h1_823 P) .nil .nil)) (.node (h0_439 P) (.node (h1_695 P) .nil .nil) .nil)) (.node (h0_247 P) (.node (h0_375 P) (.node (h1_631 P) .nil .nil) .nil) (.node (h1_503 P) (.node (h1_759 P) .nil .nil) .nil)))))) (.node (ha_11 P) (.node (h0_19 P) (.node (h0_35 P) (.node (h0_67 P) (.node (h0_131 P) (.node (h0_259 P) (.node (h1_515 P) .nil .nil) (.node (h1_771 P) .nil .nil)) (.node (h0_387 P) (.node (h1_643 P) .nil .nil) .nil)) (.node (h0_195 P) (.node (h0_323 P) (.node (h1_579 P) .nil .nil) (.node (h1_835 P) .nil .nil)) (.node (h1_451 P) (.node (h1_707 P) .nil .nil) .nil))) (.node (h0_99 P) (.node (h0_163 P) (.node (h0_291 P) (.node (h1_547 P) .nil .nil) (.node (h1_803 P) .nil .nil)) (.node (h0_419 P) (.node (h1_675 P) .nil .nil) .nil)) (.node (h0_227 P) (.node (h0_355 P) (.node (h1_611 P) .nil .nil) (.node (h1_867 P) .nil .nil)) (.node (h1_483 P) (.node (h1_739 P) .nil .nil) .nil)))) (.node (h0_51 P) (.node (h0_83 P) (.node (h0_147 P) (.node (h0_275 P) (.node (h1_531 P) .nil .nil) (.node (h1_787 P) .nil .nil)) (.node (h0_403 P) (.node (h1_659 P) .nil .nil) .nil)) (.node (h0_211 P) (.node (h0_339 P) (.node (h1_595 P) .nil .nil) (.node (h1_851 P) .nil .nil)) (.node (h1_467 P) (.node (h1_723 P) .nil .nil) .nil))) (.node (h0_115 P) (.node (h0_179 P) (.node (h0_307 P) (.node (h1_563 P) .nil .nil) (.node (h1_819 P) .nil .nil)) (.node (h0_435 P) (.node (h1_691 P) .nil .nil) .nil)) (.node (h0_243 P) (.node (h0_371 P) (.node (h1_627 P) .nil .nil) .nil) (.node (h1_499 P) (.node (h1_755 P) .nil .nil) .nil))))) (.node (h0_27 P) (.node (h0_43 P) (.node (h0_75 P) (.node (h0_139 P) (.node (h0_267 P) (.node (h1_523 P) .nil .nil) (.node (h1_779 P) .nil .nil)) (.node (h0_395 P) (.node (h1_651 P) .nil .nil) .nil)) (.node (h0_203 P) (.node (h0_331 P) (.node (h1_587 P) .nil .nil) (.node (h1_843 P) .nil .nil)) (.node (h1_459 P) (.node (h1_715 P) .nil .nil) .nil))) (.node (h0_107 P) (.node (h0_171 P) (.node (h0_299 P) (.node (h1_555 P) .nil .nil) (.node (h1_811 P) .nil .nil)) (.node (h0_427 P) (.node (h1_683 P) .nil .nil) .nil)) (.node (h0_235 P) (.node (h0_363 P) (.node (h1_619 P) .nil .nil) (.node (h1_875 P) .nil .nil)) (.node (h1_491 P) (.node (h1_747 P) .nil .nil) .nil)))) (.node (h0_59 P) (.node (h0_91 P) (.node (h0_155 P) (.node (h0_283 P) (.node (h1_539 P) .nil .nil) (.node (h1_795 P) .nil .nil)) (.node (h0_411 P) (.node (h1_667 P) .nil .nil) .nil)) (.node (h0_219 P) (.node (h0_347 P) (.node (h1_603 P) .nil .nil) (.node (h1_859 P) .nil .nil)) (.node (h1_475 P) (.node (h1_731 P) .nil .nil) .nil))) (.node (h0_123 P) (.node (h0_187 P) (.node (h0_315 P) (.node (h1_571 P) .nil .nil) (.node (h1_827 P) .nil .nil)) (.node (h0_443 P) (.node (h1_699 P) .nil .nil) .nil)) (.node (h0_251 P) (.node (h0_379 P) (.node (h1_635 P) .nil .nil) .nil) (.node (h1_507 P) (.node (h1_763 P) .nil .nil) .nil))))))) (.node (boot_o_5 P) (.node (boot_o_9 P) (.node (h0_17 P) (.node (h0_33 P) (.node (h0_65 P) (.node (h0_129 P) (.node (h0_257 P) (.node (h1_513 P) .nil .nil) (.node (h1_769 P) .nil .nil)) (.node (h0_385 P) (.node (h1_641 P) .nil .nil) .nil)) (.node (h0_193 P) (.node (h0_321 P) (.node (h1_577 P) .nil .nil) (.node (h1_833 P) .nil .nil)) (.node (h1_449 P) (.node (h1_705 P) .nil .nil) .nil))) (.node (h0_97 P) (.node (h0_161 P) (.node (h0_289 P) (.node (h1_545 P) .nil .nil) (.node (h1_801 P) .nil .nil)) (.node (h0_417 P) (.node (h1_673 P) .nil .nil) .nil)) (.node (h0_225 P) (.node (h0_353 P) (.node (h1_609 P) .nil .nil) (.node (h1_865 P) .nil .nil)) (.node (h1_481 P) (.node (h1_737 P) .nil .nil) .nil)))) (.node (h0_49 P) (.node (h0_81 P) (.node (h0_145 P) (.node (h0_273 P) (.node (h1_529 P) .nil .nil) (.node (h1_785 P) .nil .nil)) (.node (h0_401 P) (.node (h1_657 P) .nil .nil) .nil)) (.node (h0_209 P) (.node (h0_337 P) (.node (h1_593 P) .nil .nil) (.node (h1_849 P) .nil .nil)) (.node (h1_465 P) (.node (h1_721 P) .nil .nil) .nil))) (.node (h0_113 P) (.node (h0_177 P) (.node (h0_305 P) (.node (h1_561 P) .nil .nil) (.node (h1_817 P) .nil .nil)) (.node (h0_433 P) (.node (h1_689 P) .nil .nil) .nil)) (.node (h0_241 P) (.node (h0_369 P) (.node (h1_625 P) .nil .nil) (.node (h1_881 P) .nil .nil)) (.node (h1_497 P) (.node (h1_753 P) .nil .nil) .nil))))) (.node (h0_25 P) (.node (h0_41 P) (.node (h0_73 P) (.node (h0_137 P) (.node (h0_265 P) (.node (h1_521 P) .nil .nil) (.node (h1_777 P) .nil .nil)) (.node (h0_393 P) (.node (h1_649 P) .nil .nil) .nil)) (.node (h0_201 P) (.node (h0_329 P) (.node (h1_585 P) .nil .nil) (.node (h1_841 P) .nil .nil)) (.node (h1_457 P) (.node (h1_713 P) .nil .nil) .nil))) (.node (h0_105 P) (.node (h0_169 P) (.node (h0_297 P) (.node (h1_553 P) .nil .nil) (.node (h1_809 P) .nil .nil)) (.node (h0_425 P) (.node (h1_681 P) .nil .nil) .nil)) (.node (h0_233 P) (.node (h0_361 P) (.node (h1_617 P) .nil .nil) (.node (h1_873 P) .nil .nil)) (.node (h1_489 P) (.node (h1_745 P) .nil .nil) .nil)))) (.node (h0_57 P) (.node (h0_89 P) (.node (h0_153 P) (.node (h0_281 P) (.node (h1_537 P) .nil .nil) (.node (h1_793 P) .nil .nil)) (.node (h0_409 P) (.node (h1_665 P) .nil .nil) .nil)) (.node (h0_217 P) (.node (h0_345 P) (.node (h1_601 P) .nil .nil) (.node (h1_857 P) .nil .nil)) (.node (h1_473 P) (.node (h1_729 P) .nil .nil) .nil))) (.node (h0_121 P) (.node (h0_185 P) (.node (h0_313 P) (.node (h1_569 P) .nil .nil) (.node (h1_825 P) .nil .nil)) (.node (h0_441 P) (.node (h1_697 P) .nil .nil) .nil)) (.node (h0_249 P) (.node (h0_377 P) (.node (h1_633 P) .nil .nil) .nil) (.node (h1_505 P) (.node (h1_761 P) .nil .nil) .nil)))))) (.node (ha_13 P) (.node (h0_21 P) (.node (h0_37 P) (.node (h0_69 P) (.node (h0_133 P) (.node (h0_261 P) (.node (h1_517 P) .nil .nil) (.node (h1_773 P) .nil .nil)) (.node (h0_389 P) (.node (h1_645 P) .nil .nil) .nil)) (.node (h0_197 P) (.node (h0_325 P) (.node (h1_581 P) .nil .nil) (.node (h1_837 P) .nil .nil)) (.node (h1_453 P) (.node (h1_709 P) .nil .nil) .nil))) (.node (h0_101 P) (.node (h0_165 P) (.node (h0_293 P) (.node (h1_549 P) .nil .nil) (.node (h1_805 P) .nil .nil)) (.node (h0_421 P) (.node (h1_677 P) .nil .nil) .nil)) (.node (h0_229 P) (.node (h0_357 P) (.node (h1_613 P) .nil .nil) (.node (h1_869 P) .nil .nil)) (.node (h1_485 P) (.node (h1_741 P) .nil .nil) .nil)))) (.node (h0_53 P) (.node (h0_85 P) (.node (h0_149 P) (.node (h0_277 P) (.node (h1_533 P) .nil .nil) (.node (h1_789 P) .nil .nil)) (.node (h0_405 P) (.node (h1_661 P) .nil .nil) .nil)) (.node (h0_213 P) (.node (h0_341 P) (.node (h1_597 P) .nil .nil) (.node (h1_853 P) .nil .nil)) (.node (h1_469 P) (.node (h1_725 P) .nil .nil) .nil))) (.node (h0_117 P) (.node (h0_181 P) (.node (h0_309 P) (.node (h1_565 P) .nil .nil) (.node (h1_821 P) .nil .nil)) (.node (h0_437 P) (.node (h1_693 P) .nil .nil) .nil)) (.node (h0_245 P) (.node (h0_373 P) (.node (h1_629 P) .nil .nil) .nil) (.node (h1_501 P) (.node (h1_757 P) .nil .nil) .nil))))) (.node (h0_29 P) (.node (h0_45 P) (.node (h0_77 P) (.node (h0_141 P) (.node (h0_269 P) (.node (h1_525 P) .nil .nil) (.node (h1_781 P) .nil .nil)) (.node (h0_397 P) (.node (h1_653 P) .nil .nil) .nil)) (.node (h0_205 P) (.node (h0_333 P) (.node (h1_589 P) .nil .nil) (.node (h1_845 P) .nil .nil)) (.node (h1_461 P) (.node (h1_717 P) .nil .nil) .nil))) (.node (h0_109 P) (.node (h0_173 P) (.node (h0_301 P) (.node (h1_557 P) .nil .nil) (.node (h1_813 P) .nil .nil)) (.node (h0_429 P) (.node (h1_685 P) .nil .nil) .nil)) (.node (h0_237 P) (.node (h0_365 P) (.node (h1_621 P) .nil .nil) (.node (h1_877 P) .nil .nil)) (.node (h1_493 P) (.node (h1_749 P) .nil .nil) .nil)))) (.node (h0_61 P) (.node (h0_93 P) (.node (h0_157 P) (.node (h0_285 P) (.node (h1_541 P) .nil .nil) (.node (h1_797 P) .nil .nil)) (.node (h0_413 P) (.node (h1_669 P) .nil .nil) .nil)) (.node (h0_221 P) (.node (h0_349 P) (.node (h1_605 P) .nil .nil) (.node (h1_861 P) .nil .nil)) (.node (h1_477 P) (.node (h1_733 P) .nil .nil) .nil))) (.node (h0_125 P) (.node (h0_189 P) (.node (h0_317 P) (.node (h1_573 P) .nil .nil) (.node (h1_829 P) .nil .nil)) (.node (h0_445 P) (.node (h1_701 P) .nil .nil) .nil)) (.node (h0_253 P) (.node (h0_381 P) (.node (h1_637 P) .nil .nil) .nil) (.node (h1_509 P) (.node (h1_765 P) .nil .nil) .nil)))))))) (.node (boot_o_2 P) (.node (boot_o_4 P) (.node (boot_o_8 P) (.node (h0_16 P) (.node (h0_32 P) (.node (h0_64 P) (.node (h0_128 P) (.node (h0_256 P) (.node (h1_512 P) .nil .nil) (.node (h1_768 P) .nil .nil)) (.node (h0_384 P) (.node (h1_640 P) .nil .nil) .nil)) (.node (h0_192 P) (.node (h0_320 P) (.node (h1_576 P) .nil .nil) (.node (h1_832 P) .nil .nil)) (.node (h1_448 P) (.node (h1_704 P) .nil .nil) .nil))) (.node (h0_96 P) (.node (h0_160 P) (.node (h0_288 P) (.node (h1_544 P) .nil .nil) (.node (h1_800 P) .nil .nil)) (.node (h0_416 P) (.node (h1_672 P) .nil .nil) .nil)) (.node (h0_224 P) (.node (h0_352 P) (.node (h1_608 P) .nil .nil) (.node (h1_864 P) .nil .nil)) (.node (h1_480 P) (.node (h1_736 P) .nil .nil) .nil)))) (.node (h0_48 P) (.node (h0_80 P) (.node (h0_144 P) (.node (h0_272 P) (.node (h1_528 P) .nil .nil) (.node (h1_784 P) .nil .nil)) (.node (h0_400 P) (.node (h1_656 P) .nil .nil) .nil)) (.node (h0_208 P) (.node (h0_336 P) (.node (h1_592 P) .nil .nil) (.node (h1_848 P) .nil .nil)) (.node (h1_464 P) (.node (h1_720 P) .nil .nil) .nil))) (.node (h0_112 P) (.node (h0_176 P) (.node (h0_304 P) (.node (h1_560 P) .nil .nil) (.node (h1_816 P) .nil .nil)) (.node (h0_432 P) (.node (h1_688 P) .nil .nil) .nil)) (.node (h0_240 P) (.node (h0_368 P) (.node (h1_624 P) .nil .nil) (.node (h1_880 P) .nil .nil)) (.node (h1_496 P) (.node (h1_752 P) .nil .nil) .nil))))) (.node (h1_24 P) (.node (h0_40 P) (.node (h0_72 P) (.node (h0_136 P) (.node (h0_264 P) (.node (h1_520 P) .nil .nil) (.node (h1_776 P) .nil .nil)) (.node (h0_392 P) (.node (h1_648 P) .nil .nil) .nil)) (.node (h0_200 P) (.node (h0_328 P) (.node (h1_584 P) .nil .nil) (.node (h1_840 P) .nil .nil)) (.node (h1_456 P) (.node (h1_712 P) .nil .nil) .nil))) (.node (h0_104 P) (.node (h0_168 P) (.node (h0_296 P) (.node (h1_552 P) .nil .nil) (.node (h1_808 P) .nil .nil)) (.node (h0_424 P) (.node (h1_680 P) .nil .nil) .nil)) (.node (h0_232 P) (.node (h0_360 P) (.node (h1_616 P) .nil .nil) (.node (h1_872 P) .nil .nil)) (.node (h1_488 P) (.node (h1_744 P) .nil .nil) .nil)))) (.node (h0_56 P) (.node (h0_88 P) (.node (h0_152 P) (.node (h0_280 P) (.node (h1_536 P) .nil .nil) (.node (h1_792 P) .nil .nil)) (.node (h0_408 P) (.node (h1_664 P) .nil .nil) .nil)) (.node (h0_216 P) (.node (h0_344 P) (.node (h1_600 P) .nil .nil) (.node (h1_856 P) .nil .nil)) (.node (h1_472 P) (.node (h1_728 P) .nil .nil) .nil))) (.node (h0_120 P) (.node (h0_184 P) (.node (h0_312 P) (.node (h1_568 P) .nil .nil) (.node (h1_824 P) .nil .nil)) (.node (h0_440 P) (.node (h1_696 P) .nil .nil) .nil)) (.node (h0_248 P) (.node (h0_376 P) (.node (h1_632 P) .nil .nil) .nil) (.node (h1_504 P) (.node (h1_760 P) .nil .nil) .nil)))))) (.node (h1_12 P) (.node (h0_20 P) (.node (h0_36 P) (.node (h0_68 P) (.node (h0_132 P) (.node (h0_260 P) (.node (h1_516 P) .nil .nil) (.node (h1_772 P) .nil .nil)) (.node (h0_388 P) (.node (h1_644 P) .nil .nil) .nil)) (.node (h0_196 P) (.node (h0_324 P) (.node (h1_580 P) .nil .nil) (.node (h1_836 P) .nil .nil)) (.node (h1_452 P) (.node (h1_708 P) .nil .nil) .nil))) (.node (h0_100 P) (.node (h0_164 P) (.node (h0_292 P) (.node (h1_548 P) .nil .nil) (.node (h1_804 P) .nil .nil)) (.node (h0_420 P) (.node (h1_676 P) .nil .nil) .nil)) (.node (h0_228 P) (.node (h0_356 P) (.node (h1_612 P) .nil .nil) (.node (h1_868 P) .nil .nil)) (.node (h1_484 P) (.node (h1_740 P) .nil .nil) .nil)))) (.node (h0_52 P) (.node (h0_84 P) (.node (h0_148 P) (.node (h0_276 P) (.node (h1_532 P) .nil .nil) (.node (h1_788 P) .nil .nil)) (.node (h0_404 P) (.node (h1_660 P) .nil .nil) .nil)) (.node (h0_212 P) (.node (h0_340 P) (.node (h1_596 P) .nil .nil) (.node (h1_852 P) .nil .nil)) (.node (h1_468 P) (.node (h1_724 P) .nil .nil) .nil))) (.node (h0_116 P) (.node (h0_180 P) (.node (h0_308 P) (.node (h1_564 P) .nil .nil) (.node (h1_820 P) .nil .nil)) (.node (h0_436 P) (.node (h1_692 P) .nil .nil) .nil)) (.node (h0_244 P) (.node (h0_372 P) (.node (h1_628 P) .nil .nil) .nil) (.node (h1_500 P) (.node (h1_756 P) .nil .nil) .nil))))) (.node (h0_28 P) (.node (h0_44 P) (.node (h0_76 P) (.node (h0_140 P) (.node (h0_268 P) (.node (h1_524 P) .nil .nil) (.node (h1_780 P) .nil .nil)) (.node (h0_396 P) (.node (h1_652 P) .nil .nil) .nil)) (.node (h0_204 P) (.node (h0_332 P) (.node (h1_588 P) .nil .nil) (.node (h1_844 P) .nil .nil)) (.node (h1_460 P) (.node (h1_716 P) .nil .nil) .nil))) (.node (h0_108 P) (.node (h0_172 P) (.node (h0_300 P) (.node (h1_556 P) .nil .nil) (.node (h1_812 P) .nil .nil)) (.node (h0_428 P) (.node (h1_684 P) .nil .nil) .nil)) (.node (h0_236 P) (.node (h0_364 P) (.node (h1_620 P) .nil .nil) (.node (h1_876 P) .nil .nil)) (.node (h1_492 P) (.node (h1_748 P) .nil .nil) .nil)))) (.node (h0_60 P) (.node (h0_92 P) (.node (h0_156 P) (.node (h0_284 P) (.node (h1_540 P) .nil .nil) (.node (h1_796 P) .nil .nil)) (.node (h0_412 P) (.node (h1_668 P) .nil .nil) .nil)) (.node (h0_220 P) (.node (h0_348 P) (.node (h1_604 P) .nil .nil) (.node (h1_860 P) .nil .nil)) (.node (h1_476 P) (.node (h1_732 P) .nil .nil) .nil))) (.node (h0_124 P) (.node (h0_188 P) (.node (h0_316 P) (.node (h1_572 P) .nil .nil) (.node (h1_828 P) .nil .nil)) (.node (h0_444 P) (.node (h1_700 P) .nil .nil) .nil)) (.node (h0_252 P) (.node (h0_380 P) (.node (h1_636 P) .nil .nil) .nil) (.node (h1_508 P) (.node (h1_764 P) .nil .nil) .nil))))))) (.node (boot_o_6 P) (.node (boot_o_10 P) (.node (h0_18 P) (.node (h0_34 P) (.node (h0_66 P) (.node (h0_130 P) (.node (h0_258 P) (.node (h1_514 P) .nil .nil) (.node (h1_770 P) .nil .nil)) (.node (h0_386 P) (.node (h1_642 P) .nil .nil) .nil)) (.node (h0_194 P) (.node (h0_322 P) (.node (h1_578 P) .nil .nil) (.node (h1_834 P) .nil .nil)) (.node (h1_450 P) (.node (h1_706 P) .nil .nil) .nil))) (.node (h0_98 P) (.node (h0_162 P) (.node (h0_290 P) (.node (h1_546 P) .nil .nil) (.node (h1_802 P) .nil .nil)) (.node (h0_418 P) (.node (h1_674 P) .nil .nil) .nil)) (.node (h0_226 P) (.node (h0_354 P) (.node (h1_610 P) .nil .nil) (.node (h1_866 P) .nil .nil)) (.node (h1_482 P) (.node (h1_738 P) .nil .nil) .nil)))) (.node (h0_50 P) (.node (h0_82 P) (.node (h0_146 P) (.node (h0_274 P) (.node (h1_530 P) .nil .nil) (.node (h1_786 P) .nil .nil)) (.node (h0_402 P) (.node (h1_658 P) .nil .nil) .nil)) (.node (h0_210 P) (.node (h0_338 P) (.node (h1_594 P) .nil .nil) (.node (h1_850 P) .nil .nil)) (.node (h1_466 P) (.node (h1_722 P) .nil .nil) .nil))) (.node (h0_114 P) (.node (h0_178 P) (.node (h0_306 P) (.node (h1_562 P) .nil .nil) (.node (h1_818 P) .nil .nil)) (.node (h0_434 P) (.node (h1_690 P) .nil .nil) .nil)) (.node (h0_242 P) (.node (h0_370 P) (.node (h1_626 P) .nil .nil) (.node (h1_882 P) .nil .nil)) (.node (h1_498 P) (.node (h1_754 P) .nil .nil) .nil))))) (.node (h0_26 P) (.node (h0_42 P) (.node (h0_74 P) (.node (h0_138 P) (.node (h0_266 P) (.node (h1_522 P) .nil .nil) (.node (h1_778 P) .nil .nil)) (.node (h0_394 P) (.node (h1_650 P) .nil .nil) .nil)) (.node (h0_202 P) (.node (h0_330 P) (.node (h1_586 P) .nil .nil) (.node (h1_842 P) .nil .nil)) (.node (h1_458 P) (.node (h1_714 P) .nil .nil) .nil))) (.node (h0_106 P) (.node (h0_170 P) (.node (h0_298 P) (.node (h1_554 P) .nil .nil) (.node (h1_810 P) .nil .nil)) (.node (h0_426 P) (.node (h1_682 P) .nil .nil) .nil)) (.node (h0_234 P) (.node (h0_362 P) (.node (h1_618 P) .nil .nil) (.node (h1_874 P) .nil .nil)) (.node (h1_490 P) (.node (h1_746 P) .nil .nil) .nil)))) (.node (h0_58 P) (.node (h0_90 P) (.node (h0_154 P) (.node (h0_282 P) (.node (h1_538 P) .nil .nil) (.node (h1_794 P) .nil .nil)) (.node (h0_410 P) (.node (h1_666 P) .nil .nil) .nil)) (.node (h0_218 P) (.node (h0_346 P) (.node (h1_602 P) .nil .nil) (.node (h1_858 P) .nil .nil)) (.node (h1_474 P) (.node (h1_730 P) .nil .nil) .nil))) (.node (h0_122 P) (.node (h0_186 P) (.node (h0_314 P) (.node (h1_570 P) .nil .nil) (.node (h1_826 P) .nil .nil)) (.node (h0_442 P) (.node (h1_698 P) .nil .nil) .nil)) (.node (h0_250 P) (.node (h0_378 P) (.node (h1_634 P) .nil .nil) .nil) (.node (h1_506 P) (.node (h1_762 P) .nil .nil) .nil)))))) (.node (ha_14 P) (.node (h0_22 P) (.node (h0_38 P) (.node (h0_70 P) (.node (h0_134 P) (.node (h0_262 P) (.node (h1_518 P) .nil .nil) (.node (h1_774 P) .nil .nil)) (.node (h0_390 P) (.node (h1_646 P) .nil .nil) .nil)) (.node (h0_198 P) (.node (h0_326 P) (.node (h1_582 P) .nil .nil) (.node (h1_838 P) .nil .nil)) (.node (h1_454 P) (.node (h1_710 P) .nil .nil) .nil))) (.node (h0_102 P) (.node (h0_166 P) (.node (h0_294 P) (.node (h1_550 P) .nil .nil) (.node (h1_806 P) .nil .nil)) (.node (h0_422 P) (.node (h1_678 P) .nil .nil) .nil)) (.node (h0_230 P) (.node (h0_358 P) (.node (h1_614 P) .nil .nil) (.node (h1_870 P) .nil .nil)) (.node (h1_486 P) (.node (h1_742 P) .nil .nil) .nil)))) (.node (h0_54 P) (.node (h0_86 P) (.node (h0_150 P) (.node (h0_278 P) (.node (h1_534 P) .nil .nil) (.node (h1_790 P) .nil .nil)) (.node (h0_406 P) (.node (h1_662 P) .nil .nil) .nil)) (.node (h0_214 P) (.node (h0_342 P) (.node (h1_598 P) .nil .nil) (.node (h1_854 P) .nil .nil)) (.node (h1_470 P) (.node (h1_726 P) .nil .nil) .nil))) (.node (h0_118 P) (.node (h0_182 P) (.node (h0_310 P) (.node (h1_566 P) .nil .nil) (.node (h1_822 P) .nil .nil)) (.node (h0_438 P) (.node (h1_694 P) .nil .nil) .nil)) (.node (h0_246 P) (.node (h0_374 P) (.node (h1_630 P) .nil .nil) .nil) (.node (h1_502 P) (.node (h1_758 P) .nil .nil) .nil))))) (.node (h0_30 P) (.node (h0_46 P) (.node (h0_78 P) (.node (h0_142 P) (.node (h0_270 P) (.node (h1_526 P) .nil .nil) (.node (h1_782 P) .nil .nil)) (.node (h0_398 P) (.node (h1_654 P) .nil .nil) .nil)) (.node (h0_206 P) (.node (h0_334 P) (.node (h1_590 P) .nil .nil) (.node (h1_846 P) .nil .nil)) (.node (h1_462 P) (.node (h1_718 P) .nil .nil) .nil))) (.node (h0_110 P) (.node (h0_174 P) (.node (h0_302 P) (.node (h1_558 P) .nil .nil) (.node (h1_814 P) .nil .nil)) (.node (h0_430 P) (.node (h1_686 P) .nil .nil) .nil)) (.node (h0_238 P) (.node (h0_366 P) (.node (h1_622 P) .nil .nil) (.node (h1_878 P) .nil .nil)) (.node (h1_494 P) (.node (h1_750 P) .nil .nil) .nil)))) (.node (h0_62 P) (.node (h0_94 P) (.node (h0_158 P) (.node (h0_286 P) (.node (h1_542 P) .nil .nil) (.node (h1_798 P) .nil .nil)) (.node (h0_414 P) (.node (h1_670 P) .nil .nil) .nil)) (.node (h0_222 P) (.node (h0_350 P) (.node (h1_606 P) .nil .nil) (.node (h1_862 P) .nil .nil)) (.node (h1_478 P) (.node (h1_734 P) .nil .nil) .nil))) (.node (h0_126 P) (.node (h0_190 P) (.node (h0_318 P) (.node (h1_574 P) .nil .nil) (.node (h1_830 P) .nil .nil)) (.node (h1_446 P) (.node (h1_702 P) .nil .nil) .nil)) (.node (h0_254 P) (.node (h0_382 P) (.node (h1_638 P) .nil .nil) .nil) (.node (h1_510 P) (.node (h1_766 P) .nil .nil) .nil)))))))))
def hS1 (w : World) (os : OsState) : SharedT := ⟨hT1 w.params, 883, (.mk [] [] [] 0 [] [] .false (.mk []) [] 0 .false .false .false 0 [2000, 10, 10] .false 0 .true [] [] 0 .false), #[], (.mk 0 0 0 0), 1332, os⟩
def hp_1 : Pos := (.mk 224 0 228 22)
def hl1 : List Stmt := (hbd.drop 24).take 23
def hr1 : List Stmt := hbd.drop 47
set_option maxHeartbeats 0 in
theorem hg1 (w : World) (os : OsState) : sgF (stepQ (denQ tabQ) PySem.Challenge.pw_onestaff_k09_refusals_apart (w)) 11 (some (.ref 6)) 1 5640 (hS0 (w) os) (pcQ hl1 henv hcd hp_0 hq) = some (.next, hS1 (w) os, hcd, hp_1) := by
  kernel_rfl
theorem hA2 (w : World) (os : OsState) : Ahead PySem.Challenge.pw_onestaff_k09_refusals_apart w os henv hq (hS1 w os) 11243 hr1 hcd hp_1 := ahead1 (rest := hr1) (by rw [show hl1 ++ hr1 = hr0 from (take_drop hbd 24 23).symm]; exact hA1 w os) (hg1 w os)
theorem hAE (w : World) (os : OsState) : Ahead PySem.Challenge.pw_onestaff_k09_refusals_apart w os henv hq (hS1 w os) 11243 hr1 hcd hp_1 := hA2 w os
end
set_option maxHeartbeats 0 in
theorem hrun (w : World) : UH.RestEq hR (PySem.W.view hR.prog [58]) hk hob 20000 hnames henv hq hS1 hr1 hcd hp_1 (w) := by
  intro os
  kernel_rfl
end
/-! things of which errors are made -/
theorem ssx {z : Str} {n : Nat} (h : (decide (z.length ≤ n) && z.cps.toList.all fun c => decide (c < 1114112)) = true) : SS z n := by
  rw [Bool.and_eq_true, decide_eq_true_eq, List.all_eq_true] at h
  exact ⟨h.1, fun c hc => of_decide_eq_true (h.2 c hc)⟩
theorem more20 : SS ("more" : Str) 20 := ssx (by decide +kernel)
structure Oq (K : PySem.W.Frag) (H0 H : Hp) (y : V) (d : PyData) (F : List Addr) (n : Nat) : Prop where
  ot : Ot K H "more" y d F
  bd : Bd d n
  fr : ∀ a ∈ F, H0 a = none ∧ ∃ i, Th H a i
section
variable {H0 H H1 : Hp} {y : V} {d : PyData} {F ps : List Addr} {n m : Nat} {a : Addr} {xs : List V} {ds : List PyData} {kvs : List (Key × V)}
theorem Oq.kpn (h : Oq K H0 H y d F n) (k : Kp ps H H1) (hn : ∀ a ∈ ps, a ∉ F) : Oq K H0 H1 y d F n :=
  ⟨h.ot.kpn k hn, h.bd, fun a m => ⟨(h.fr a m).1, by obtain ⟨i, hi⟩ := (h.fr a m).2; exact ⟨i, hi.kp k⟩⟩⟩
theorem Oq.kp (h : Oq K H0 H y d F n) (k : Kp [] H H1) : Oq K H0 H1 y d F n := h.kpn k (by simp)
theorem Oq.nm (h : Oq K H0 H y d F n) (f : H a = none) : a ∉ F := fun m => by
  obtain ⟨_, i, t⟩ := h.fr a m
  exact t.ne f rfl
theorem Oq.at' (o : Od K H y d []) (b : Bd d n) (nr : ∀ a, y ≠ .ref a) : Oq K H0 H y d [] n := ⟨.od o fun a _ e => (nr a e).elim, b, by simp⟩
theorem Oq.tup (e : H a = some (.tup xs)) (g : DnA K (vis F H) xs ds) (b : Bd (.tuple ds) n) (fr : ∀ a ∈ F, H0 a = none ∧ ∃ i, Th H a i) : Oq K H0 H (.ref a) (.tuple ds) F n :=
  ⟨.od (Od.tup e g) fun a' kvs e1 e2 => (by cases e1; rw [e] at e2; cases e2), b, fr⟩
theorem Oq.lst (e : H a = some (.lst xs)) (nf : a ∉ F) (g : DnA K (vis F H) xs ds) (b : Bd (.list ds) n) (fa : H0 a = none) (fr : ∀ a ∈ F, H0 a = none ∧ ∃ i, Th H a i) : Oq K H0 H (.ref a) (.list ds) (a :: F) n :=
  ⟨.od (.lst e nf g) fun a' kvs e1 e2 => (by cases e1; rw [e] at e2; cases e2), b, fun x m => by
    rcases List.mem_cons.mp m with rfl | m
    · exact ⟨fa, _, .lst e⟩
    · exact fr x m⟩
theorem Oq.dic (e : H a = some (.dK kvs)) (nf : a ∉ F) (g : DnA K (vis F H) (kvs.map (·.2)) ds) (nk : noKey "more" kvs) (b : Bd (.dict ((kvs.map fun p => keyD p.1).zip ds)) n) (fa : H0 a = none) (fr : ∀ a ∈ F, H0 a = none ∧ ∃ i, Th H a i) : Oq K H0 H (.ref a) (.dict ((kvs.map fun p => keyD p.1).zip ds)) (a :: F) n :=
  ⟨.od (.dic e nf g) fun a' kvs e1 e2 => (by cases e1; rw [e] at e2; cases e2; exact nk), b, fun x m => by
    rcases List.mem_cons.mp m with rfl | m
    · exact ⟨fa, _, .dK e⟩
    · exact fr x m⟩
end
theorem noK_a {a : Addr} : noKey "more" [(Sum.inr "a", V.ref a)] := by
  show (decide ((Sum.inr "a" : Key) = (Sum.inr "more" : Key)) || false) = false
  rw [Bool.or_false]
  decide +kernel
theorem bd0 {d : PyData} (g : good d) (h1 : d.depth ≤ 90) (h2 : sz d ≤ 3000) : Bd d 3000 := ⟨g, h1, h2⟩
def sp_law_thing (K : PySem.W.Frag) : Sp := sp1 fun x H Q _ => ∃ (p : Addr) (nb : Nat), x = .ref p ∧ Box H p nb ∧ nb ≤ 900000 ∧ ∀ (y : V) (d : PyData) (F : List Addr) (H' : Hp), Oq K H H' y d F 3000 → p ∉ F → Box H' p (nb + 2) → Kp [p] H H' → Q y H'
set_option maxHeartbeats 16000000 in
theorem ok_law_thing (T : Tx K mg) : FnOk P w K mg base (L2.CX P w) 2 T.a_law_thing T.d_law_thing ["_law_box_here"] (sp_law_thing K) := by
  have G_law_take := ok_law_take (P := P) (w := w) (base := base) T
  refine T.F_law_thing.okX sc_law_thing (fun vs H Q E h => ?_) (fun cd A o s H vs Q E hr h => ?_)
  · obtain ⟨v0, rfl, h⟩ := h; rfl
  obtain ⟨v0, rfl, h⟩ := h
  obtain ⟨p, nb, rfl, hB, hnb, k⟩ := h
  refine ⟨_, (pss_cons (ps_set (i := 1) sc_law_thing.nd rfl (Or.inl rfl) (pe_co G_law_take (hr.mono (by decide)) rfl T.m_law_take T.F_law_take.kp T.B_law_take (takes_of (E := E) rfl rfl rfl rfl) (pa_cons (pv 0) (pa_cons (pe_op o_pow pe_int pe_int) pa_nil))))
    (pss_cons (ps_set (i := 2) sc_law_thing.nd rfl (Or.inl rfl) (pe_lst (pa_cons pe_non (pa_cons pe_bl (pa_cons (pv 1) (pa_cons pe_str (pa_cons pe_str (pa_cons (pe_lst (pa_cons (pv 1) pa_nil)) (pa_cons (pe_tup (pa_cons (pv 1) (pa_cons pe_str pa_nil))) (pa_cons (pe_dd (pps_cons pe_str (pe_lst (pa_cons (pv 1) pa_nil)) pps_nil) rfl rfl (by simp) (by decide)) (pa_cons (pe_lst (pa_cons (pe_lst pa_nil) (pa_cons (pe_lst (pa_cons pe_int pa_nil)) pa_nil))) (pa_cons (pe_op o_sub pe_int (pv 1)) (pa_cons (pe_lst pa_nil) (pa_cons pe_dnewK pa_nil))))))))))))))
    (pss_one (ps_ret (pe_ix (ix_u (K := K) rfl) (pv 2) (pe_co G_law_take (hr.mono (by decide)) rfl T.m_law_take T.F_law_take.kp T.B_law_take (takes_of (E := E) rfl rfl rfl rfl) (pa_cons (pv 0) (pa_cons pe_int pa_nil))) (fun _ _ => rfl)))))), ?_⟩
  rw [st_law_thing]
  walk_at "u"
  walk_at "tk"
  intro n H1 n0 n1 B1 k1
  walk_at "u"
  walk_at "na"
  intro a2 H2 f2 e2 k2
  walk_at "u"
  walk_at "na"
  intro a3 H3 f3 e3 k3
  walk_at "u"
  refine s_dd fun a4 H4 f4 e4 k4 => ?_
  walk_at "u"
  walk_at "na"
  intro a5 H5 f5 e5 k5
  walk_at "u"
  refine s_ddk (kvs := [(Sum.inr "a", .ref a5)]) (ks := [(Sum.inr "a", .ref a5)]) (by walk_at "g") rfl (by simp) rfl fun H6 e6 k6 => ?_
  walk_at "u"
  walk_at "na"
  intro a7 H7 f7 e7 k7
  walk_at "u"
  walk_at "na"
  intro a8 H8 f8 e8 k8
  walk_at "u"
  walk_at "na"
  intro a9 H9 f9 e9 k9
  walk_at "u"
  walk_at "na"
  intro a10 H10 f10 e10 k10
  walk_at "u"
  refine s_dnew fun a11 H11 f11 e11 k11 => ?_
  walk_at "u"
  walk_at "na"
  intro l12 H12 f12 e12 k12
  walk_at "u"
  walk_at "tk"
  intro c H13 c0 c1 B13 k13
  have g2 : H13 a2 = some (.lst [.int n]) := by walk_at "g"
  have g3 : H13 a3 = some (.tup [.int n, .str "a"]) := by walk_at "gt"
  have g4 : H13 a4 = some (.dK [(Sum.inr "a", .ref a5)]) := by walk_at "g"
  have g5 : H13 a5 = some (.lst [.int n]) := by walk_at "g"
  have g7 : H13 a7 = some (.lst []) := by walk_at "g"
  have g8 : H13 a8 = some (.lst [.int 1]) := by walk_at "g"
  have g9 : H13 a9 = some (.lst [.ref a7, .ref a8]) := by walk_at "g"
  have g10 : H13 a10 = some (.lst []) := by walk_at "g"
  have g11 : H13 a11 = some (.dK []) := by walk_at "g"
  have g12 : H13 l12 = some (.lst [.non, .bl true, .int n, .str "none", .str "", .ref a2, .ref a3, .ref a4, .ref a9, .int (0 - n), .ref a10, .ref a11]) := by walk_at "g"
  have n45 : a4 ≠ a5 := by walk_at "ne"
  have n97 : a9 ≠ a7 := by walk_at "ne"
  have n98 : a9 ≠ a8 := by walk_at "ne"
  have n78 : a7 ≠ a8 := by walk_at "ne"
  have z13 : Kp [p] H H13 := by walk_at "k"
  have f2 : H a2 = none := by walk_at "f"
  have f4 : H a4 = none := by walk_at "f"
  have f5 : H a5 = none := by walk_at "f"
  have f7 : H a7 = none := by walk_at "f"
  have f8 : H a8 = none := by walk_at "f"
  have f9 : H a9 = none := by walk_at "f"
  have f10 : H a10 = none := by walk_at "f"
  have f11 : H a11 = none := by walk_at "f"
  have np : ∀ {a : Addr}, H a = none → p ≠ a := fun h z => hB.ne h z.symm
  have B13 : Box H13 p (nb + 2) := B13.more (by omega)
  have hn : n.natAbs < 10 ^ 100 := Nat.lt_of_lt_of_le (show n.natAbs < 10 ^ 40 by omega) (by decide +kernel)
  have hn' : (0 - n).natAbs < 10 ^ 100 := Nat.lt_of_lt_of_le (show (0 - n).natAbs < 10 ^ 40 by omega) (by decide +kernel)
  have sa : SS ("a" : Str) 20 := ssx (by decide +kernel)
  have s0 : SS ("" : Str) 20 := ssx (by decide +kernel)
  have sn : SS ("none" : Str) 20 := ssx (by decide +kernel)
  clear k1 k2 k3 k4 k5 k6 k7 k8 k9 k10 k11 k12 k13 e2 e3 e4 e5 e6 e7 e8 e9 e10 e11 e12
  obtain ⟨v, hv, ev⟩ := ix_mem (xs := [V.non, .bl true, .int n, .str "none", .str "", .ref a2, .ref a3, .ref a4, .ref a9, .int (0 - n), .ref a10, .ref a11]) c0 (by simpa using c1)
  walk_at "u"
  refine s_ixl g12 ev ?_
  have bn := Bd.int hn
  have bs := Bd.str sa
  have key : ∃ d F, Oq K H H13 v d F 3000 ∧ p ∉ F := by
    simp only [List.mem_cons, List.not_mem_nil, or_false] at hv
    rcases hv with rfl | rfl | rfl | rfl | rfl | rfl | rfl | rfl | rfl | rfl | rfl | rfl
    · exact ⟨_, _, Oq.at' Od.non (Bd.non.mono (by omega)) (by simp), by simp⟩
    · exact ⟨_, _, Oq.at' Od.bl (Bd.bl.mono (by omega)) (by simp), by simp⟩
    · exact ⟨_, _, Oq.at' Od.int (bn.mono (by omega)) (by simp), by simp⟩
    · exact ⟨_, _, Oq.at' Od.str ((Bd.str sn).mono (by omega)) (by simp), by simp⟩
    · exact ⟨_, _, Oq.at' Od.str ((Bd.str s0).mono (by omega)) (by simp), by simp⟩
    · refine ⟨_, _, Oq.lst (F := []) g2 (by simp) (.cons (.int n) .nil) (bd0 ⟨hn, trivial⟩ ?_ ?_) f2 (by simp), by simpa using np f2⟩
      · simp [PyData.depth, PyData.depthAll]
      · simp [sz, szA]
    · refine ⟨_, [], Oq.tup g3 (.cons (.int n) (.cons (.str "a") .nil)) (bd0 ⟨hn, bs.good, trivial⟩ ?_ ?_) (by simp), by simp⟩
      · simp [PyData.depth, PyData.depthAll]
      · have := sa.len
        simp only [sz, szA]; omega
    · refine ⟨_, _, Oq.dic (F := [a5]) g4 (by simpa using n45) (.cons (.lst (Or.inl (vis_of g5 (Or.inr (by simp)))) (.cons (.int n) .nil)) .nil) noK_a (bd0 ⟨bs.good, ⟨hn, trivial⟩, trivial⟩ ?_ ?_) f4 (by simpa using ⟨f5, _, Th.lst g5⟩), by simpa using ⟨np f4, np f5⟩⟩
      · simp [keyD, PyData.depth, PyData.depthAll, PyData.depthKv]
      · have := sa.len
        simp only [keyD, List.map_cons, List.map_nil, List.zip_cons_cons, List.zip_nil_right, sz, szA, szK]; omega
    · refine ⟨_, _, Oq.lst (F := [a7, a8]) g9 (by simp [n97, n98]) (.cons (.lst (Or.inl (vis_of g7 (Or.inr (by simp)))) .nil) (.cons (.lst (Or.inl (vis_of g8 (Or.inr (by simp)))) (.cons (.int 1) .nil)) .nil)) (bd0 ⟨trivial, ⟨(Bd.int (i := 1) (by decide +kernel)).good, trivial⟩, trivial⟩ ?_ ?_) f9 (by simpa using ⟨⟨f7, _, Th.lst g7⟩, f8, _, Th.lst g8⟩), by simpa using ⟨np f9, np f7, np f8⟩⟩
      · simp [PyData.depth, PyData.depthAll]
      · simp [sz, szA]
    · exact ⟨_, _, Oq.at' Od.int ((Bd.int hn').mono (by omega)) (by simp), by simp⟩
    · refine ⟨_, _, Oq.lst (F := []) g10 (by simp) .nil (bd0 trivial ?_ ?_) f10 (by simp), by simpa using np f10⟩
      · simp [PyData.depth, PyData.depthAll]
      · simp [sz, szA]
    · refine ⟨_, _, Oq.dic (F := []) (kvs := []) g11 (by simp) .nil rfl (bd0 trivial ?_ ?_) f11 (by simp), by simpa using np f11⟩
      · simp [PyData.depth, PyData.depthKv]
      · simp [sz, szK]
  obtain ⟨d, F, o, hp⟩ := key
  walk_at "u"
  exact k v d F H13 o hp B13 z13

local macro_rules | `(tactic| walk_at "u2") => `(tactic| first
  | (with_reducible refine' s_nx ?_)
  | (with_reducible refine' s_fx ?_)
  | (with_reducible refine' s_ny ?_))
/-! the errors, made -/
inductive Er1 (K : PySem.W.Frag) (H : Hp) : V → Addr → Option (Str × V) → Prop
  | f {a C : Addr} {f : Str} {v : V} : Eo H a C f v → XfC K C → PySem.W.findIn K (.ref C) f = some none → ExcC K C → Er1 K H (.ref a) C (some (f, v))
  | n {a C : Addr} : H a = some (exo a C none) → ExcC K C → Er1 K H (.ref a) C none
abbrev Ee := Addr × Option (Str × V)
abbrev ee1 (C : Addr) (f : Str) (v : V) : Ee := (C, some (f, v))
abbrev ee0 (C : Addr) : Ee := (C, none)
inductive Els (K : PySem.W.Frag) (H : Hp) : List V → List Ee → Prop
  | nil : Els K H [] []
  | cons {x : V} {e : Ee} {xs : List V} {es : List Ee} : Er1 K H x e.1 e.2 → Els K H xs es → Els K H (x :: xs) (e :: es)
section
variable {H H1 : Hp} {x : V} {C : Addr} {o : Option (Str × V)} {xs ys : List V} {es gs : List Ee} {a : Addr} {u : HO}
theorem Eo.put {a' : Addr} {f : Str} {v : V} (h : Eo H a' C f v) (k : Kp [a] H H1) (e : H a = some u) (n : ∀ φ, u ≠ .ext φ) : Eo H1 a' C f v := by
  obtain ⟨dx, e1, e2⟩ := h
  refine ⟨dx, k.get1 e1 fun z => ?_, k.get1 e2 fun z => ?_⟩
  · rw [z, e] at e1; exact n _ (Option.some.inj e1)
  · rw [z, e] at e2; exact n _ (Option.some.inj e2)
theorem Er1.put (h : Er1 K H x C o) (k : Kp [a] H H1) (e : H a = some u) (n : ∀ φ, u ≠ .ext φ) : Er1 K H1 x C o := by
  cases h with
  | f h1 h2 h3 h4 => exact .f (Eo.put h1 k e n) h2 h3 h4
  | n h1 h2 =>
    refine .n (k.get1 h1 fun z => ?_) h2
    rw [z, e] at h1; exact n _ (Option.some.inj h1)
theorem Er1.kp (h : Er1 K H x C o) (k : Kp [] H H1) : Er1 K H1 x C o := by
  cases h with
  | f h1 h2 h3 h4 => exact .f (h1.kp k) h2 h3 h4
  | n h1 h2 => exact .n (k.get0 h1) h2
theorem Els.kp (h : Els K H xs es) (k : Kp [] H H1) : Els K H1 xs es := by
  induction h with
  | nil => exact .nil
  | cons a _ ih => exact .cons (a.kp k) ih
theorem Els.put (h : Els K H xs es) (k : Kp [a] H H1) (e : H a = some u) (n : ∀ φ, u ≠ .ext φ) : Els K H1 xs es := by
  induction h with
  | nil => exact .nil
  | cons a _ ih => exact .cons (a.put k e n) ih
theorem Els.app (h : Els K H xs es) (g : Els K H ys gs) : Els K H (xs ++ ys) (es ++ gs) := by
  induction h with
  | nil => exact g
  | cons a _ ih => exact .cons a ih
theorem Els.len (h : Els K H xs es) : xs.length = es.length := by
  induction h with
  | nil => rfl
  | cons _ _ ih => simp [ih]
theorem Els.at (h : Els K H xs es) {i : Nat} (e : xs[i]? = some x) : ∃ g, es[i]? = some g ∧ Er1 K H x g.1 g.2 := by
  induction h generalizing i with
  | nil => simp at e
  | @cons y g xs es a _ ih =>
    cases i with
    | zero => cases e; exact ⟨g, rfl, a⟩
    | succ i => exact ih (by simpa using e)
theorem Er1.eg (h : Er1 K H x C o) : ∃ a, x = .ref a ∧ Eg H a C ∧ ExcC K C := by
  cases h with
  | f h1 _ _ h4 => exact ⟨_, rfl, h1.eg, h4⟩
  | n h1 h2 => exact ⟨_, rfl, .n h1, h2⟩
end
def CLs (T : Tx K mg) : List Addr := [T.C_NoName, T.C_NoPlace, T.C_NoTrain, T.C_NoTrains, T.C_NoEnds, T.C_NoStretch, T.C_NoLong, T.C_NoPlaces, T.C_NoStretches, T.C_NoLongs, T.C_NoNumber, T.C_NoThing, T.C_NoKind, T.C_NoWord, T.C_NoDeed, T.C_NoWay, T.C_NoUse, T.C_NoBooks, T.C_NoRows, T.C_NoMove, T.C_NoRuns, T.C_NoRun, T.C_NoLine, T.C_NoState, T.C_Twice, T.C_NotHere, T.C_NotIn, T.C_NotHeld, T.C_NotHelped, T.C_Full, T.C_Lacks, T.C_Shut, T.C_Held, T.C_NotClear, T.C_NoTickets, T.C_NoRight, T.C_NotShut, T.C_Taken, T.C_Boxed, T.C_Silent, T.C_TooMany, T.C_NoText, T.C_Gap, T.C_NotSo, T.C_NoTrip, T.C_NoStart, T.C_NoBack]
def esT (T : Tx K mg) (one oth : V) : List Ee := [ee1 T.C_NoName "found" one, ee1 T.C_NoPlace "found" one, ee1 T.C_NoTrain "found" one, ee1 T.C_NoTrains "found" one, ee1 T.C_NoEnds "found" one, ee1 T.C_NoStretch "found" one, ee1 T.C_NoLong "found" one, ee1 T.C_NoPlaces "found" one, ee1 T.C_NoStretches "found" one, ee1 T.C_NoLongs "found" one, ee1 T.C_NoNumber "found" one, ee1 T.C_NoThing "found" one, ee1 T.C_NoKind "found" one, ee1 T.C_NoWord "found" one, ee1 T.C_NoDeed "found" one, ee1 T.C_NoWay "found" one, ee1 T.C_NoUse "found" one, ee1 T.C_NoBooks "found" one, ee1 T.C_NoRows "found" one, ee1 T.C_NoMove "found" one, ee1 T.C_NoRuns "found" one, ee1 T.C_NoRun "found" one, ee1 T.C_NoLine "found" one, ee1 T.C_NoState "found" one, ee1 T.C_Twice "found" one, ee1 T.C_NotHere "found" one, ee1 T.C_NotIn "found" one, ee1 T.C_NotHeld "found" one, ee1 T.C_NotHelped "found" one, ee1 T.C_Full "found" one, ee1 T.C_Lacks "found" one, ee1 T.C_Shut "found" one, ee1 T.C_Held "found" one, ee1 T.C_NotClear "found" one, ee1 T.C_NoTickets "found" one, ee1 T.C_NoRight "found" one, ee1 T.C_NotShut "found" one, ee1 T.C_Taken "found" one, ee1 T.C_Boxed "found" one, ee1 T.C_Silent "found" one, ee1 T.C_TooMany "many" one, ee1 T.C_NoText "row" one, ee1 T.C_Gap "number" oth, ee1 T.C_NotSo "number" one, ee1 T.C_NoTrip "run" oth, ee0 T.C_NoStart, ee0 T.C_NoBack]
theorem esT_1 (T : Tx K mg) (one oth : V) : (esT T one oth).map (·.1) = CLs T := rfl
def sp_law_made (T : Tx K mg) : Sp := sp2 fun x y H Q _ => ∀ l xs H', H l = none → H' l = some (.lst xs) → Els K H' xs (esT T x y) → Kp [] H H' → Q (.ref l) H'
set_option maxHeartbeats 16000000 in
theorem ok_law_made (T : Tx K mg) : FnOk P w K mg base (L2.CX P w) 3 T.a_law_made T.d_law_made ["_law_one", "_law_other"] (sp_law_made T) := by
  have G_NoName_init := ok_NoName_init (P := P) (w := w) (base := base) T
  have G_NoPlace_init := ok_NoPlace_init (P := P) (w := w) (base := base) T
  have G_NoTrain_init := ok_NoTrain_init (P := P) (w := w) (base := base) T
  have G_NoTrains_init := ok_NoTrains_init (P := P) (w := w) (base := base) T
  have G_NoEnds_init := ok_NoEnds_init (P := P) (w := w) (base := base) T
  have G_NoStretch_init := ok_NoStretch_init (P := P) (w := w) (base := base) T
  have G_NoLong_init := ok_NoLong_init (P := P) (w := w) (base := base) T
  have G_NoPlaces_init := ok_NoPlaces_init (P := P) (w := w) (base := base) T
  have G_NoStretches_init := ok_NoStretches_init (P := P) (w := w) (base := base) T
  have G_NoLongs_init := ok_NoLongs_init (P := P) (w := w) (base := base) T
  have G_NoNumber_init := ok_NoNumber_init (P := P) (w := w) (base := base) T
  have G_NoThing_init := ok_NoThing_init (P := P) (w := w) (base := base) T
  have G_NoKind_init := ok_NoKind_init (P := P) (w := w) (base := base) T
  have G_NoWord_init := ok_NoWord_init (P := P) (w := w) (base := base) T
  have G_NoDeed_init := ok_NoDeed_init (P := P) (w := w) (base := base) T
  have G_NoWay_init := ok_NoWay_init (P := P) (w := w) (base := base) T
  have G_NoUse_init := ok_NoUse_init (P := P) (w := w) (base := base) T
  have G_NoBooks_init := ok_NoBooks_init (P := P) (w := w) (base := base) T
  have G_NoRows_init := ok_NoRows_init (P := P) (w := w) (base := base) T
  have G_NoMove_init := ok_NoMove_init (P := P) (w := w) (base := base) T
  have G_NoRuns_init := ok_NoRuns_init (P := P) (w := w) (base := base) T
  have G_NoRun_init := ok_NoRun_init (P := P) (w := w) (base := base) T
  have G_NoLine_init := ok_NoLine_init (P := P) (w := w) (base := base) T
  have G_NoState_init := ok_NoState_init (P := P) (w := w) (base := base) T
  have G_Twice_init := ok_Twice_init (P := P) (w := w) (base := base) T
  have G_NotHere_init := ok_NotHere_init (P := P) (w := w) (base := base) T
  have G_NotIn_init := ok_NotIn_init (P := P) (w := w) (base := base) T
  have G_NotHeld_init := ok_NotHeld_init (P := P) (w := w) (base := base) T
  have G_NotHelped_init := ok_NotHelped_init (P := P) (w := w) (base := base) T
  have G_Full_init := ok_Full_init (P := P) (w := w) (base := base) T
  have G_Lacks_init := ok_Lacks_init (P := P) (w := w) (base := base) T
  have G_Shut_init := ok_Shut_init (P := P) (w := w) (base := base) T
  have G_Held_init := ok_Held_init (P := P) (w := w) (base := base) T
  have G_NotClear_init := ok_NotClear_init (P := P) (w := w) (base := base) T
  have G_NoTickets_init := ok_NoTickets_init (P := P) (w := w) (base := base) T
  have G_NoRight_init := ok_NoRight_init (P := P) (w := w) (base := base) T
  have G_NotShut_init := ok_NotShut_init (P := P) (w := w) (base := base) T
  have G_Taken_init := ok_Taken_init (P := P) (w := w) (base := base) T
  have G_Boxed_init := ok_Boxed_init (P := P) (w := w) (base := base) T
  have G_Silent_init := ok_Silent_init (P := P) (w := w) (base := base) T
  have G_TooMany_init := ok_TooMany_init (P := P) (w := w) (base := base) T
  have G_NoText_init := ok_NoText_init (P := P) (w := w) (base := base) T
  have G_Gap_init := ok_Gap_init (P := P) (w := w) (base := base) T
  have G_NotSo_init := ok_NotSo_init (P := P) (w := w) (base := base) T
  have G_NoTrip_init := ok_NoTrip_init (P := P) (w := w) (base := base) T
  have G_NoStart_init := ok_NoStart_init (P := P) (w := w) (base := base) T
  have G_NoBack_init := ok_NoBack_init (P := P) (w := w) (base := base) T
  refine T.F_law_made.okX sc_law_made (fun vs H Q E h => ?_) (fun cd A o s H vs Q E hr h => ?_)
  · obtain ⟨v0, v1, rfl, h⟩ := h; rfl
  obtain ⟨v0, v1, rfl, h⟩ := h
  refine ⟨_, (pss_cons (ps_set (i := 2) sc_law_made.nd rfl (Or.inl rfl) (pe_lst (pa_cons (pe_nx T.er_NoName.oex T.er_NoName.iC T.er_NoName.tI G_NoName_init (hr.mono (by decide)) rfl T.m_NoName T.B_NoName_init (pa_cons (pv 0) pa_nil)) (pa_cons (pe_nx T.er_NoPlace.oex T.er_NoPlace.iC T.er_NoPlace.tI G_NoPlace_init (hr.mono (by decide)) rfl T.m_NoPlace T.B_NoPlace_init (pa_cons (pv 0) pa_nil)) (pa_cons (pe_nx T.er_NoTrain.oex T.er_NoTrain.iC T.er_NoTrain.tI G_NoTrain_init (hr.mono (by decide)) rfl T.m_NoTrain T.B_NoTrain_init (pa_cons (pv 0) pa_nil)) (pa_cons (pe_nx T.er_NoTrains.oex T.er_NoTrains.iC T.er_NoTrains.tI G_NoTrains_init (hr.mono (by decide)) rfl T.m_NoTrains T.B_NoTrains_init (pa_cons (pv 0) pa_nil)) (pa_cons (pe_nx T.er_NoEnds.oex T.er_NoEnds.iC T.er_NoEnds.tI G_NoEnds_init (hr.mono (by decide)) rfl T.m_NoEnds T.B_NoEnds_init (pa_cons (pv 0) pa_nil)) (pa_cons (pe_nx T.er_NoStretch.oex T.er_NoStretch.iC T.er_NoStretch.tI G_NoStretch_init (hr.mono (by decide)) rfl T.m_NoStretch T.B_NoStretch_init (pa_cons (pv 0) pa_nil)) pa_nil))))))))
    (pss_cons (ps_set (i := 2) sc_law_made.nd rfl (Or.inl rfl) (pe_op (o_add (K := K) rfl) (pv 2) (pe_lst (pa_cons (pe_nx T.er_NoLong.oex T.er_NoLong.iC T.er_NoLong.tI G_NoLong_init (hr.mono (by decide)) rfl T.m_NoLong T.B_NoLong_init (pa_cons (pv 0) pa_nil)) (pa_cons (pe_nx T.er_NoPlaces.oex T.er_NoPlaces.iC T.er_NoPlaces.tI G_NoPlaces_init (hr.mono (by decide)) rfl T.m_NoPlaces T.B_NoPlaces_init (pa_cons (pv 0) pa_nil)) (pa_cons (pe_nx T.er_NoStretches.oex T.er_NoStretches.iC T.er_NoStretches.tI G_NoStretches_init (hr.mono (by decide)) rfl T.m_NoStretches T.B_NoStretches_init (pa_cons (pv 0) pa_nil)) (pa_cons (pe_nx T.er_NoLongs.oex T.er_NoLongs.iC T.er_NoLongs.tI G_NoLongs_init (hr.mono (by decide)) rfl T.m_NoLongs T.B_NoLongs_init (pa_cons (pv 0) pa_nil)) (pa_cons (pe_nx T.er_NoNumber.oex T.er_NoNumber.iC T.er_NoNumber.tI G_NoNumber_init (hr.mono (by decide)) rfl T.m_NoNumber T.B_NoNumber_init (pa_cons (pv 0) pa_nil)) (pa_cons (pe_nx T.er_NoThing.oex T.er_NoThing.iC T.er_NoThing.tI G_NoThing_init (hr.mono (by decide)) rfl T.m_NoThing T.B_NoThing_init (pa_cons (pv 0) pa_nil)) pa_nil)))))))))
    (pss_cons (ps_set (i := 2) sc_law_made.nd rfl (Or.inl rfl) (pe_op (o_add (K := K) rfl) (pv 2) (pe_lst (pa_cons (pe_nx T.er_NoKind.oex T.er_NoKind.iC T.er_NoKind.tI G_NoKind_init (hr.mono (by decide)) rfl T.m_NoKind T.B_NoKind_init (pa_cons (pv 0) pa_nil)) (pa_cons (pe_nx T.er_NoWord.oex T.er_NoWord.iC T.er_NoWord.tI G_NoWord_init (hr.mono (by decide)) rfl T.m_NoWord T.B_NoWord_init (pa_cons (pv 0) pa_nil)) (pa_cons (pe_nx T.er_NoDeed.oex T.er_NoDeed.iC T.er_NoDeed.tI G_NoDeed_init (hr.mono (by decide)) rfl T.m_NoDeed T.B_NoDeed_init (pa_cons (pv 0) pa_nil)) (pa_cons (pe_nx T.er_NoWay.oex T.er_NoWay.iC T.er_NoWay.tI G_NoWay_init (hr.mono (by decide)) rfl T.m_NoWay T.B_NoWay_init (pa_cons (pv 0) pa_nil)) (pa_cons (pe_nx T.er_NoUse.oex T.er_NoUse.iC T.er_NoUse.tI G_NoUse_init (hr.mono (by decide)) rfl T.m_NoUse T.B_NoUse_init (pa_cons (pv 0) pa_nil)) (pa_cons (pe_nx T.er_NoBooks.oex T.er_NoBooks.iC T.er_NoBooks.tI G_NoBooks_init (hr.mono (by decide)) rfl T.m_NoBooks T.B_NoBooks_init (pa_cons (pv 0) pa_nil)) pa_nil)))))))))
    (pss_cons (ps_set (i := 2) sc_law_made.nd rfl (Or.inl rfl) (pe_op (o_add (K := K) rfl) (pv 2) (pe_lst (pa_cons (pe_nx T.er_NoRows.oex T.er_NoRows.iC T.er_NoRows.tI G_NoRows_init (hr.mono (by decide)) rfl T.m_NoRows T.B_NoRows_init (pa_cons (pv 0) pa_nil)) (pa_cons (pe_nx T.er_NoMove.oex T.er_NoMove.iC T.er_NoMove.tI G_NoMove_init (hr.mono (by decide)) rfl T.m_NoMove T.B_NoMove_init (pa_cons (pv 0) pa_nil)) (pa_cons (pe_nx T.er_NoRuns.oex T.er_NoRuns.iC T.er_NoRuns.tI G_NoRuns_init (hr.mono (by decide)) rfl T.m_NoRuns T.B_NoRuns_init (pa_cons (pv 0) pa_nil)) (pa_cons (pe_nx T.er_NoRun.oex T.er_NoRun.iC T.er_NoRun.tI G_NoRun_init (hr.mono (by decide)) rfl T.m_NoRun T.B_NoRun_init (pa_cons (pv 0) pa_nil)) (pa_cons (pe_nx T.er_NoLine.oex T.er_NoLine.iC T.er_NoLine.tI G_NoLine_init (hr.mono (by decide)) rfl T.m_NoLine T.B_NoLine_init (pa_cons (pv 0) pa_nil)) (pa_cons (pe_nx T.er_NoState.oex T.er_NoState.iC T.er_NoState.tI G_NoState_init (hr.mono (by decide)) rfl T.m_NoState T.B_NoState_init (pa_cons (pv 0) pa_nil)) pa_nil)))))))))
    (pss_cons (ps_set (i := 2) sc_law_made.nd rfl (Or.inl rfl) (pe_op (o_add (K := K) rfl) (pv 2) (pe_lst (pa_cons (pe_nx T.er_Twice.oex T.er_Twice.iC T.er_Twice.tI G_Twice_init (hr.mono (by decide)) rfl T.m_Twice T.B_Twice_init (pa_cons (pv 0) pa_nil)) (pa_cons (pe_nx T.er_NotHere.oex T.er_NotHere.iC T.er_NotHere.tI G_NotHere_init (hr.mono (by decide)) rfl T.m_NotHere T.B_NotHere_init (pa_cons (pv 0) pa_nil)) (pa_cons (pe_nx T.er_NotIn.oex T.er_NotIn.iC T.er_NotIn.tI G_NotIn_init (hr.mono (by decide)) rfl T.m_NotIn T.B_NotIn_init (pa_cons (pv 0) pa_nil)) (pa_cons (pe_nx T.er_NotHeld.oex T.er_NotHeld.iC T.er_NotHeld.tI G_NotHeld_init (hr.mono (by decide)) rfl T.m_NotHeld T.B_NotHeld_init (pa_cons (pv 0) pa_nil)) (pa_cons (pe_nx T.er_NotHelped.oex T.er_NotHelped.iC T.er_NotHelped.tI G_NotHelped_init (hr.mono (by decide)) rfl T.m_NotHelped T.B_NotHelped_init (pa_cons (pv 0) pa_nil)) (pa_cons (pe_nx T.er_Full.oex T.er_Full.iC T.er_Full.tI G_Full_init (hr.mono (by decide)) rfl T.m_Full T.B_Full_init (pa_cons (pv 0) pa_nil)) pa_nil)))))))))
    (pss_cons (ps_set (i := 2) sc_law_made.nd rfl (Or.inl rfl) (pe_op (o_add (K := K) rfl) (pv 2) (pe_lst (pa_cons (pe_nx T.er_Lacks.oex T.er_Lacks.iC T.er_Lacks.tI G_Lacks_init (hr.mono (by decide)) rfl T.m_Lacks T.B_Lacks_init (pa_cons (pv 0) pa_nil)) (pa_cons (pe_nx T.er_Shut.oex T.er_Shut.iC T.er_Shut.tI G_Shut_init (hr.mono (by decide)) rfl T.m_Shut T.B_Shut_init (pa_cons (pv 0) pa_nil)) (pa_cons (pe_nx T.er_Held.oex T.er_Held.iC T.er_Held.tI G_Held_init (hr.mono (by decide)) rfl T.m_Held T.B_Held_init (pa_cons (pv 0) pa_nil)) (pa_cons (pe_nx T.er_NotClear.oex T.er_NotClear.iC T.er_NotClear.tI G_NotClear_init (hr.mono (by decide)) rfl T.m_NotClear T.B_NotClear_init (pa_cons (pv 0) pa_nil)) (pa_cons (pe_nx T.er_NoTickets.oex T.er_NoTickets.iC T.er_NoTickets.tI G_NoTickets_init (hr.mono (by decide)) rfl T.m_NoTickets T.B_NoTickets_init (pa_cons (pv 0) pa_nil)) (pa_cons (pe_nx T.er_NoRight.oex T.er_NoRight.iC T.er_NoRight.tI G_NoRight_init (hr.mono (by decide)) rfl T.m_NoRight T.B_NoRight_init (pa_cons (pv 0) pa_nil)) pa_nil)))))))))
    (pss_cons (ps_set (i := 2) sc_law_made.nd rfl (Or.inl rfl) (pe_op (o_add (K := K) rfl) (pv 2) (pe_lst (pa_cons (pe_nx T.er_NotShut.oex T.er_NotShut.iC T.er_NotShut.tI G_NotShut_init (hr.mono (by decide)) rfl T.m_NotShut T.B_NotShut_init (pa_cons (pv 0) pa_nil)) (pa_cons (pe_nx T.er_Taken.oex T.er_Taken.iC T.er_Taken.tI G_Taken_init (hr.mono (by decide)) rfl T.m_Taken T.B_Taken_init (pa_cons (pv 0) pa_nil)) (pa_cons (pe_nx T.er_Boxed.oex T.er_Boxed.iC T.er_Boxed.tI G_Boxed_init (hr.mono (by decide)) rfl T.m_Boxed T.B_Boxed_init (pa_cons (pv 0) pa_nil)) (pa_cons (pe_nx T.er_Silent.oex T.er_Silent.iC T.er_Silent.tI G_Silent_init (hr.mono (by decide)) rfl T.m_Silent T.B_Silent_init (pa_cons (pv 0) pa_nil)) pa_nil)))))))
    (pss_cons (ps_set (i := 2) sc_law_made.nd rfl (Or.inl rfl) (pe_op (o_add (K := K) rfl) (pv 2) (pe_lst (pa_cons (pe_nx T.er_TooMany.oex T.er_TooMany.iC T.er_TooMany.tI G_TooMany_init (hr.mono (by decide)) rfl T.m_TooMany T.B_TooMany_init (pa_cons (pv 0) pa_nil)) (pa_cons (pe_nx T.er_NoText.oex T.er_NoText.iC T.er_NoText.tI G_NoText_init (hr.mono (by decide)) rfl T.m_NoText T.B_NoText_init (pa_cons (pv 0) pa_nil)) (pa_cons (pe_nx T.er_Gap.oex T.er_Gap.iC T.er_Gap.tI G_Gap_init (hr.mono (by decide)) rfl T.m_Gap T.B_Gap_init (pa_cons (pv 1) pa_nil)) (pa_cons (pe_nx T.er_NotSo.oex T.er_NotSo.iC T.er_NotSo.tI G_NotSo_init (hr.mono (by decide)) rfl T.m_NotSo T.B_NotSo_init (pa_cons (pv 0) pa_nil)) (pa_cons (pe_nx T.er_NoTrip.oex T.er_NoTrip.iC T.er_NoTrip.tI G_NoTrip_init (hr.mono (by decide)) rfl T.m_NoTrip T.B_NoTrip_init (pa_cons (pv 1) pa_nil)) pa_nil))))))))
    (pss_one (ps_ret (pe_op (o_add (K := K) rfl) (pv 2) (pe_lst (pa_cons (pe_nx0 T.er_NoStart.oex T.er_NoStart.iC T.er_NoStart.tI G_NoStart_init (hr.mono (by decide)) rfl T.m_NoStart T.B_NoStart_init) (pa_cons (pe_nx0 T.er_NoBack.oex T.er_NoBack.iC T.er_NoBack.tI G_NoBack_init (hr.mono (by decide)) rfl T.m_NoBack T.B_NoBack_init) pa_nil)))))))))))))), ?_⟩
  rw [st_law_made]
  walk_at "u"
  refine s_nxE fun a1 H1 f1 e1 k1 => ?_
  walk_at "u"
  refine s_nxE fun a2 H2 f2 e2 k2 => ?_
  walk_at "u"
  refine s_nxE fun a3 H3 f3 e3 k3 => ?_
  walk_at "u"
  refine s_nxE fun a4 H4 f4 e4 k4 => ?_
  walk_at "u"
  refine s_nxE fun a5 H5 f5 e5 k5 => ?_
  walk_at "u"
  refine s_nxE fun a6 H6 f6 e6 k6 => ?_
  walk_at "u"
  walk_at "na"
  intro l7 H7 f7 e7 k7
  have q1 : Er1 K H7 (.ref a1) T.C_NoName (some ("found", v0)) := .f (((((((e1).kp k2).kp k3).kp k4).kp k5).kp k6).kp k7) T.er_NoName.xf T.er_NoName.no (T.er_NoName.exC T.oc_get T.oc_take)
  have q2 : Er1 K H7 (.ref a2) T.C_NoPlace (some ("found", v0)) := .f ((((((e2).kp k3).kp k4).kp k5).kp k6).kp k7) T.er_NoPlace.xf T.er_NoPlace.no (T.er_NoPlace.exC T.oc_get T.oc_take)
  have q3 : Er1 K H7 (.ref a3) T.C_NoTrain (some ("found", v0)) := .f (((((e3).kp k4).kp k5).kp k6).kp k7) T.er_NoTrain.xf T.er_NoTrain.no (T.er_NoTrain.exC T.oc_get T.oc_take)
  have q4 : Er1 K H7 (.ref a4) T.C_NoTrains (some ("found", v0)) := .f ((((e4).kp k5).kp k6).kp k7) T.er_NoTrains.xf T.er_NoTrains.no (T.er_NoTrains.exC T.oc_get T.oc_take)
  have q5 : Er1 K H7 (.ref a5) T.C_NoEnds (some ("found", v0)) := .f (((e5).kp k6).kp k7) T.er_NoEnds.xf T.er_NoEnds.no (T.er_NoEnds.exC T.oc_get T.oc_take)
  have q6 : Er1 K H7 (.ref a6) T.C_NoStretch (some ("found", v0)) := .f ((e6).kp k7) T.er_NoStretch.xf T.er_NoStretch.no (T.er_NoStretch.exC T.oc_get T.oc_take)
  have c0 : Els K H7 [.ref a1, .ref a2, .ref a3, .ref a4, .ref a5, .ref a6] [ee1 T.C_NoName "found" v0, ee1 T.C_NoPlace "found" v0, ee1 T.C_NoTrain "found" v0, ee1 T.C_NoTrains "found" v0, ee1 T.C_NoEnds "found" v0, ee1 T.C_NoStretch "found" v0] := .cons q1 (.cons q2 (.cons q3 (.cons q4 (.cons q5 (.cons q6 (.nil))))))
  have m0 : Kp [] H H7 := ((((((k1).trans k2).trans k3).trans k4).trans k5).trans k6).trans k7
  clear q1 q2 q3 q4 q5 q6 e1 e2 e3 e4 e5 e6 k1 k2 k3 k4 k5 k6 k7 f1 f2 f3 f4 f5 f6 f7
  obtain ⟨x0, hx0⟩ : ∃ x : List V, x = [.ref a1, .ref a2, .ref a3, .ref a4, .ref a5, .ref a6] := ⟨_, rfl⟩
  rw [← hx0] at c0 e7
  clear hx0
  walk_at "u"
  refine s_nxE fun a8 H8 f8 e8 k8 => ?_
  walk_at "u"
  refine s_nxE fun a9 H9 f9 e9 k9 => ?_
  walk_at "u"
  refine s_nxE fun a10 H10 f10 e10 k10 => ?_
  walk_at "u"
  refine s_nxE fun a11 H11 f11 e11 k11 => ?_
  walk_at "u"
  refine s_nxE fun a12 H12 f12 e12 k12 => ?_
  walk_at "u"
  refine s_nxE fun a13 H13 f13 e13 k13 => ?_
  walk_at "u"
  walk_at "na"
  intro l14 H14 f14 e14 k14
  have q8 : Er1 K H14 (.ref a8) T.C_NoLong (some ("found", v0)) := .f (((((((e8).kp k9).kp k10).kp k11).kp k12).kp k13).kp k14) T.er_NoLong.xf T.er_NoLong.no (T.er_NoLong.exC T.oc_get T.oc_take)
  have q9 : Er1 K H14 (.ref a9) T.C_NoPlaces (some ("found", v0)) := .f ((((((e9).kp k10).kp k11).kp k12).kp k13).kp k14) T.er_NoPlaces.xf T.er_NoPlaces.no (T.er_NoPlaces.exC T.oc_get T.oc_take)
  have q10 : Er1 K H14 (.ref a10) T.C_NoStretches (some ("found", v0)) := .f (((((e10).kp k11).kp k12).kp k13).kp k14) T.er_NoStretches.xf T.er_NoStretches.no (T.er_NoStretches.exC T.oc_get T.oc_take)
  have q11 : Er1 K H14 (.ref a11) T.C_NoLongs (some ("found", v0)) := .f ((((e11).kp k12).kp k13).kp k14) T.er_NoLongs.xf T.er_NoLongs.no (T.er_NoLongs.exC T.oc_get T.oc_take)
  have q12 : Er1 K H14 (.ref a12) T.C_NoNumber (some ("found", v0)) := .f (((e12).kp k13).kp k14) T.er_NoNumber.xf T.er_NoNumber.no (T.er_NoNumber.exC T.oc_get T.oc_take)
  have q13 : Er1 K H14 (.ref a13) T.C_NoThing (some ("found", v0)) := .f ((e13).kp k14) T.er_NoThing.xf T.er_NoThing.no (T.er_NoThing.exC T.oc_get T.oc_take)
  have c1 : Els K H14 [.ref a8, .ref a9, .ref a10, .ref a11, .ref a12, .ref a13] [ee1 T.C_NoLong "found" v0, ee1 T.C_NoPlaces "found" v0, ee1 T.C_NoStretches "found" v0, ee1 T.C_NoLongs "found" v0, ee1 T.C_NoNumber "found" v0, ee1 T.C_NoThing "found" v0] := .cons q8 (.cons q9 (.cons q10 (.cons q11 (.cons q12 (.cons q13 (.nil))))))
  have m1 : Kp [] H7 H14 := ((((((k8).trans k9).trans k10).trans k11).trans k12).trans k13).trans k14
  clear q8 q9 q10 q11 q12 q13 e8 e9 e10 e11 e12 e13 k8 k9 k10 k11 k12 k13 k14 f8 f9 f10 f11 f12 f13 f14
  obtain ⟨x1, hx1⟩ : ∃ x : List V, x = [.ref a8, .ref a9, .ref a10, .ref a11, .ref a12, .ref a13] := ⟨_, rfl⟩
  rw [← hx1] at c1 e14
  clear hx1
  have w1 := (c0).len
  have y1 := (c1).len
  refine s_addL (m1.get0 e7) e14 (zle (by rw [w1, y1]; simp)) fun l15 H15 f15 e15 k15 => ?_
  have d1 := ((c0.kp m1).app c1).kp k15
  have z1 := (m0.trans m1).trans k15
  clear c0 m0 e7 c1 m1 e14 f15 k15 w1 y1
  obtain ⟨X1, hX1⟩ : ∃ x : List V, x = x0 ++ x1 := ⟨_, rfl⟩
  rw [← hX1] at d1 e15
  clear hX1
  walk_at "u"
  refine s_nxE fun a16 H16 f16 e16 k16 => ?_
  walk_at "u"
  refine s_nxE fun a17 H17 f17 e17 k17 => ?_
  walk_at "u"
  refine s_nxE fun a18 H18 f18 e18 k18 => ?_
  walk_at "u"
  refine s_nxE fun a19 H19 f19 e19 k19 => ?_
  walk_at "u"
  refine s_nxE fun a20 H20 f20 e20 k20 => ?_
  walk_at "u"
  refine s_nxE fun a21 H21 f21 e21 k21 => ?_
  walk_at "u"
  walk_at "na"
  intro l22 H22 f22 e22 k22
  have q16 : Er1 K H22 (.ref a16) T.C_NoKind (some ("found", v0)) := .f (((((((e16).kp k17).kp k18).kp k19).kp k20).kp k21).kp k22) T.er_NoKind.xf T.er_NoKind.no (T.er_NoKind.exC T.oc_get T.oc_take)
  have q17 : Er1 K H22 (.ref a17) T.C_NoWord (some ("found", v0)) := .f ((((((e17).kp k18).kp k19).kp k20).kp k21).kp k22) T.er_NoWord.xf T.er_NoWord.no (T.er_NoWord.exC T.oc_get T.oc_take)
  have q18 : Er1 K H22 (.ref a18) T.C_NoDeed (some ("found", v0)) := .f (((((e18).kp k19).kp k20).kp k21).kp k22) T.er_NoDeed.xf T.er_NoDeed.no (T.er_NoDeed.exC T.oc_get T.oc_take)
  have q19 : Er1 K H22 (.ref a19) T.C_NoWay (some ("found", v0)) := .f ((((e19).kp k20).kp k21).kp k22) T.er_NoWay.xf T.er_NoWay.no (T.er_NoWay.exC T.oc_get T.oc_take)
  have q20 : Er1 K H22 (.ref a20) T.C_NoUse (some ("found", v0)) := .f (((e20).kp k21).kp k22) T.er_NoUse.xf T.er_NoUse.no (T.er_NoUse.exC T.oc_get T.oc_take)
  have q21 : Er1 K H22 (.ref a21) T.C_NoBooks (some ("found", v0)) := .f ((e21).kp k22) T.er_NoBooks.xf T.er_NoBooks.no (T.er_NoBooks.exC T.oc_get T.oc_take)
  have c2 : Els K H22 [.ref a16, .ref a17, .ref a18, .ref a19, .ref a20, .ref a21] [ee1 T.C_NoKind "found" v0, ee1 T.C_NoWord "found" v0, ee1 T.C_NoDeed "found" v0, ee1 T.C_NoWay "found" v0, ee1 T.C_NoUse "found" v0, ee1 T.C_NoBooks "found" v0] := .cons q16 (.cons q17 (.cons q18 (.cons q19 (.cons q20 (.cons q21 (.nil))))))
  have m2 : Kp [] H15 H22 := ((((((k16).trans k17).trans k18).trans k19).trans k20).trans k21).trans k22
  clear q16 q17 q18 q19 q20 q21 e16 e17 e18 e19 e20 e21 k16 k17 k18 k19 k20 k21 k22 f16 f17 f18 f19 f20 f21 f22
  obtain ⟨x2, hx2⟩ : ∃ x : List V, x = [.ref a16, .ref a17, .ref a18, .ref a19, .ref a20, .ref a21] := ⟨_, rfl⟩
  rw [← hx2] at c2 e22
  clear hx2
  have w2 := (d1).len
  have y2 := (c2).len
  refine s_addL (m2.get0 e15) e22 (zle (by rw [w2, y2]; simp)) fun l23 H23 f23 e23 k23 => ?_
  have d2 := ((d1.kp m2).app c2).kp k23
  have z2 := (z1.trans m2).trans k23
  clear d1 z1 e15 c2 m2 e22 f23 k23 w2 y2
  obtain ⟨X2, hX2⟩ : ∃ x : List V, x = X1 ++ x2 := ⟨_, rfl⟩
  rw [← hX2] at d2 e23
  clear hX2
  walk_at "u"
  refine s_nxE fun a24 H24 f24 e24 k24 => ?_
  walk_at "u"
  refine s_nxE fun a25 H25 f25 e25 k25 => ?_
  walk_at "u"
  refine s_nxE fun a26 H26 f26 e26 k26 => ?_
  walk_at "u"
  refine s_nxE fun a27 H27 f27 e27 k27 => ?_
  walk_at "u"
  refine s_nxE fun a28 H28 f28 e28 k28 => ?_
  walk_at "u"
  refine s_nxE fun a29 H29 f29 e29 k29 => ?_
  walk_at "u"
  walk_at "na"
  intro l30 H30 f30 e30 k30
  have q24 : Er1 K H30 (.ref a24) T.C_NoRows (some ("found", v0)) := .f (((((((e24).kp k25).kp k26).kp k27).kp k28).kp k29).kp k30) T.er_NoRows.xf T.er_NoRows.no (T.er_NoRows.exC T.oc_get T.oc_take)
  have q25 : Er1 K H30 (.ref a25) T.C_NoMove (some ("found", v0)) := .f ((((((e25).kp k26).kp k27).kp k28).kp k29).kp k30) T.er_NoMove.xf T.er_NoMove.no (T.er_NoMove.exC T.oc_get T.oc_take)
  have q26 : Er1 K H30 (.ref a26) T.C_NoRuns (some ("found", v0)) := .f (((((e26).kp k27).kp k28).kp k29).kp k30) T.er_NoRuns.xf T.er_NoRuns.no (T.er_NoRuns.exC T.oc_get T.oc_take)
  have q27 : Er1 K H30 (.ref a27) T.C_NoRun (some ("found", v0)) := .f ((((e27).kp k28).kp k29).kp k30) T.er_NoRun.xf T.er_NoRun.no (T.er_NoRun.exC T.oc_get T.oc_take)
  have q28 : Er1 K H30 (.ref a28) T.C_NoLine (some ("found", v0)) := .f (((e28).kp k29).kp k30) T.er_NoLine.xf T.er_NoLine.no (T.er_NoLine.exC T.oc_get T.oc_take)
  have q29 : Er1 K H30 (.ref a29) T.C_NoState (some ("found", v0)) := .f ((e29).kp k30) T.er_NoState.xf T.er_NoState.no (T.er_NoState.exC T.oc_get T.oc_take)
  have c3 : Els K H30 [.ref a24, .ref a25, .ref a26, .ref a27, .ref a28, .ref a29] [ee1 T.C_NoRows "found" v0, ee1 T.C_NoMove "found" v0, ee1 T.C_NoRuns "found" v0, ee1 T.C_NoRun "found" v0, ee1 T.C_NoLine "found" v0, ee1 T.C_NoState "found" v0] := .cons q24 (.cons q25 (.cons q26 (.cons q27 (.cons q28 (.cons q29 (.nil))))))
  have m3 : Kp [] H23 H30 := ((((((k24).trans k25).trans k26).trans k27).trans k28).trans k29).trans k30
  clear q24 q25 q26 q27 q28 q29 e24 e25 e26 e27 e28 e29 k24 k25 k26 k27 k28 k29 k30 f24 f25 f26 f27 f28 f29 f30
  obtain ⟨x3, hx3⟩ : ∃ x : List V, x = [.ref a24, .ref a25, .ref a26, .ref a27, .ref a28, .ref a29] := ⟨_, rfl⟩
  rw [← hx3] at c3 e30
  clear hx3
  have w3 := (d2).len
  have y3 := (c3).len
  refine s_addL (m3.get0 e23) e30 (zle (by rw [w3, y3]; simp)) fun l31 H31 f31 e31 k31 => ?_
  have d3 := ((d2.kp m3).app c3).kp k31
  have z3 := (z2.trans m3).trans k31
  clear d2 z2 e23 c3 m3 e30 f31 k31 w3 y3
  obtain ⟨X3, hX3⟩ : ∃ x : List V, x = X2 ++ x3 := ⟨_, rfl⟩
  rw [← hX3] at d3 e31
  clear hX3
  walk_at "u"
  refine s_nxE fun a32 H32 f32 e32 k32 => ?_
  walk_at "u"
  refine s_nxE fun a33 H33 f33 e33 k33 => ?_
  walk_at "u"
  refine s_nxE fun a34 H34 f34 e34 k34 => ?_
  walk_at "u"
  refine s_nxE fun a35 H35 f35 e35 k35 => ?_
  walk_at "u"
  refine s_nxE fun a36 H36 f36 e36 k36 => ?_
  walk_at "u"
  refine s_nxE fun a37 H37 f37 e37 k37 => ?_
  walk_at "u"
  walk_at "na"
  intro l38 H38 f38 e38 k38
  have q32 : Er1 K H38 (.ref a32) T.C_Twice (some ("found", v0)) := .f (((((((e32).kp k33).kp k34).kp k35).kp k36).kp k37).kp k38) T.er_Twice.xf T.er_Twice.no (T.er_Twice.exC T.oc_get T.oc_take)
  have q33 : Er1 K H38 (.ref a33) T.C_NotHere (some ("found", v0)) := .f ((((((e33).kp k34).kp k35).kp k36).kp k37).kp k38) T.er_NotHere.xf T.er_NotHere.no (T.er_NotHere.exC T.oc_get T.oc_take)
  have q34 : Er1 K H38 (.ref a34) T.C_NotIn (some ("found", v0)) := .f (((((e34).kp k35).kp k36).kp k37).kp k38) T.er_NotIn.xf T.er_NotIn.no (T.er_NotIn.exC T.oc_get T.oc_take)
  have q35 : Er1 K H38 (.ref a35) T.C_NotHeld (some ("found", v0)) := .f ((((e35).kp k36).kp k37).kp k38) T.er_NotHeld.xf T.er_NotHeld.no (T.er_NotHeld.exC T.oc_get T.oc_take)
  have q36 : Er1 K H38 (.ref a36) T.C_NotHelped (some ("found", v0)) := .f (((e36).kp k37).kp k38) T.er_NotHelped.xf T.er_NotHelped.no (T.er_NotHelped.exC T.oc_get T.oc_take)
  have q37 : Er1 K H38 (.ref a37) T.C_Full (some ("found", v0)) := .f ((e37).kp k38) T.er_Full.xf T.er_Full.no (T.er_Full.exC T.oc_get T.oc_take)
  have c4 : Els K H38 [.ref a32, .ref a33, .ref a34, .ref a35, .ref a36, .ref a37] [ee1 T.C_Twice "found" v0, ee1 T.C_NotHere "found" v0, ee1 T.C_NotIn "found" v0, ee1 T.C_NotHeld "found" v0, ee1 T.C_NotHelped "found" v0, ee1 T.C_Full "found" v0] := .cons q32 (.cons q33 (.cons q34 (.cons q35 (.cons q36 (.cons q37 (.nil))))))
  have m4 : Kp [] H31 H38 := ((((((k32).trans k33).trans k34).trans k35).trans k36).trans k37).trans k38
  clear q32 q33 q34 q35 q36 q37 e32 e33 e34 e35 e36 e37 k32 k33 k34 k35 k36 k37 k38 f32 f33 f34 f35 f36 f37 f38
  obtain ⟨x4, hx4⟩ : ∃ x : List V, x = [.ref a32, .ref a33, .ref a34, .ref a35, .ref a36, .ref a37] := ⟨_, rfl⟩
  rw [← hx4] at c4 e38
  clear hx4
  have w4 := (d3).len
  have y4 := (c4).len
  refine s_addL (m4.get0 e31) e38 (zle (by rw [w4, y4]; simp)) fun l39 H39 f39 e39 k39 => ?_
  have d4 := ((d3.kp m4).app c4).kp k39
  have z4 := (z3.trans m4).trans k39
  clear d3 z3 e31 c4 m4 e38 f39 k39 w4 y4
  obtain ⟨X4, hX4⟩ : ∃ x : List V, x = X3 ++ x4 := ⟨_, rfl⟩
  rw [← hX4] at d4 e39
  clear hX4
  walk_at "u"
  refine s_nxE fun a40 H40 f40 e40 k40 => ?_
  walk_at "u"
  refine s_nxE fun a41 H41 f41 e41 k41 => ?_
  walk_at "u"
  refine s_nxE fun a42 H42 f42 e42 k42 => ?_
  walk_at "u"
  refine s_nxE fun a43 H43 f43 e43 k43 => ?_
  walk_at "u"
  refine s_nxE fun a44 H44 f44 e44 k44 => ?_
  walk_at "u"
  refine s_nxE fun a45 H45 f45 e45 k45 => ?_
  walk_at "u"
  walk_at "na"
  intro l46 H46 f46 e46 k46
  have q40 : Er1 K H46 (.ref a40) T.C_Lacks (some ("found", v0)) := .f (((((((e40).kp k41).kp k42).kp k43).kp k44).kp k45).kp k46) T.er_Lacks.xf T.er_Lacks.no (T.er_Lacks.exC T.oc_get T.oc_take)
  have q41 : Er1 K H46 (.ref a41) T.C_Shut (some ("found", v0)) := .f ((((((e41).kp k42).kp k43).kp k44).kp k45).kp k46) T.er_Shut.xf T.er_Shut.no (T.er_Shut.exC T.oc_get T.oc_take)
  have q42 : Er1 K H46 (.ref a42) T.C_Held (some ("found", v0)) := .f (((((e42).kp k43).kp k44).kp k45).kp k46) T.er_Held.xf T.er_Held.no (T.er_Held.exC T.oc_get T.oc_take)
  have q43 : Er1 K H46 (.ref a43) T.C_NotClear (some ("found", v0)) := .f ((((e43).kp k44).kp k45).kp k46) T.er_NotClear.xf T.er_NotClear.no (T.er_NotClear.exC T.oc_get T.oc_take)
  have q44 : Er1 K H46 (.ref a44) T.C_NoTickets (some ("found", v0)) := .f (((e44).kp k45).kp k46) T.er_NoTickets.xf T.er_NoTickets.no (T.er_NoTickets.exC T.oc_get T.oc_take)
  have q45 : Er1 K H46 (.ref a45) T.C_NoRight (some ("found", v0)) := .f ((e45).kp k46) T.er_NoRight.xf T.er_NoRight.no (T.er_NoRight.exC T.oc_get T.oc_take)
  have c5 : Els K H46 [.ref a40, .ref a41, .ref a42, .ref a43, .ref a44, .ref a45] [ee1 T.C_Lacks "found" v0, ee1 T.C_Shut "found" v0, ee1 T.C_Held "found" v0, ee1 T.C_NotClear "found" v0, ee1 T.C_NoTickets "found" v0, ee1 T.C_NoRight "found" v0] := .cons q40 (.cons q41 (.cons q42 (.cons q43 (.cons q44 (.cons q45 (.nil))))))
  have m5 : Kp [] H39 H46 := ((((((k40).trans k41).trans k42).trans k43).trans k44).trans k45).trans k46
  clear q40 q41 q42 q43 q44 q45 e40 e41 e42 e43 e44 e45 k40 k41 k42 k43 k44 k45 k46 f40 f41 f42 f43 f44 f45 f46
  obtain ⟨x5, hx5⟩ : ∃ x : List V, x = [.ref a40, .ref a41, .ref a42, .ref a43, .ref a44, .ref a45] := ⟨_, rfl⟩
  rw [← hx5] at c5 e46
  clear hx5
  have w5 := (d4).len
  have y5 := (c5).len
  refine s_addL (m5.get0 e39) e46 (zle (by rw [w5, y5]; simp)) fun l47 H47 f47 e47 k47 => ?_
  have d5 := ((d4.kp m5).app c5).kp k47
  have z5 := (z4.trans m5).trans k47
  clear d4 z4 e39 c5 m5 e46 f47 k47 w5 y5
  obtain ⟨X5, hX5⟩ : ∃ x : List V, x = X4 ++ x5 := ⟨_, rfl⟩
  rw [← hX5] at d5 e47
  clear hX5
  walk_at "u"
  refine s_nxE fun a48 H48 f48 e48 k48 => ?_
  walk_at "u"
  refine s_nxE fun a49 H49 f49 e49 k49 => ?_
  walk_at "u"
  refine s_nxE fun a50 H50 f50 e50 k50 => ?_
  walk_at "u"
  refine s_nxE fun a51 H51 f51 e51 k51 => ?_
  walk_at "u"
  walk_at "na"
  intro l52 H52 f52 e52 k52
  have q48 : Er1 K H52 (.ref a48) T.C_NotShut (some ("found", v0)) := .f (((((e48).kp k49).kp k50).kp k51).kp k52) T.er_NotShut.xf T.er_NotShut.no (T.er_NotShut.exC T.oc_get T.oc_take)
  have q49 : Er1 K H52 (.ref a49) T.C_Taken (some ("found", v0)) := .f ((((e49).kp k50).kp k51).kp k52) T.er_Taken.xf T.er_Taken.no (T.er_Taken.exC T.oc_get T.oc_take)
  have q50 : Er1 K H52 (.ref a50) T.C_Boxed (some ("found", v0)) := .f (((e50).kp k51).kp k52) T.er_Boxed.xf T.er_Boxed.no (T.er_Boxed.exC T.oc_get T.oc_take)
  have q51 : Er1 K H52 (.ref a51) T.C_Silent (some ("found", v0)) := .f ((e51).kp k52) T.er_Silent.xf T.er_Silent.no (T.er_Silent.exC T.oc_get T.oc_take)
  have c6 : Els K H52 [.ref a48, .ref a49, .ref a50, .ref a51] [ee1 T.C_NotShut "found" v0, ee1 T.C_Taken "found" v0, ee1 T.C_Boxed "found" v0, ee1 T.C_Silent "found" v0] := .cons q48 (.cons q49 (.cons q50 (.cons q51 (.nil))))
  have m6 : Kp [] H47 H52 := ((((k48).trans k49).trans k50).trans k51).trans k52
  clear q48 q49 q50 q51 e48 e49 e50 e51 k48 k49 k50 k51 k52 f48 f49 f50 f51 f52
  obtain ⟨x6, hx6⟩ : ∃ x : List V, x = [.ref a48, .ref a49, .ref a50, .ref a51] := ⟨_, rfl⟩
  rw [← hx6] at c6 e52
  clear hx6
  have w6 := (d5).len
  have y6 := (c6).len
  refine s_addL (m6.get0 e47) e52 (zle (by rw [w6, y6]; simp)) fun l53 H53 f53 e53 k53 => ?_
  have d6 := ((d5.kp m6).app c6).kp k53
  have z6 := (z5.trans m6).trans k53
  clear d5 z5 e47 c6 m6 e52 f53 k53 w6 y6
  obtain ⟨X6, hX6⟩ : ∃ x : List V, x = X5 ++ x6 := ⟨_, rfl⟩
  rw [← hX6] at d6 e53
  clear hX6
  walk_at "u"
  refine s_nxE fun a54 H54 f54 e54 k54 => ?_
  walk_at "u"
  refine s_nxE fun a55 H55 f55 e55 k55 => ?_
  walk_at "u"
  refine s_nxE fun a56 H56 f56 e56 k56 => ?_
  walk_at "u"
  refine s_nxE fun a57 H57 f57 e57 k57 => ?_
  walk_at "u"
  refine s_nxE fun a58 H58 f58 e58 k58 => ?_
  walk_at "u"
  walk_at "na"
  intro l59 H59 f59 e59 k59
  have q54 : Er1 K H59 (.ref a54) T.C_TooMany (some ("many", v0)) := .f ((((((e54).kp k55).kp k56).kp k57).kp k58).kp k59) T.er_TooMany.xf T.er_TooMany.no (T.er_TooMany.exC T.oc_get T.oc_take)
  have q55 : Er1 K H59 (.ref a55) T.C_NoText (some ("row", v0)) := .f (((((e55).kp k56).kp k57).kp k58).kp k59) T.er_NoText.xf T.er_NoText.no (T.er_NoText.exC T.oc_get T.oc_take)
  have q56 : Er1 K H59 (.ref a56) T.C_Gap (some ("number", v1)) := .f ((((e56).kp k57).kp k58).kp k59) T.er_Gap.xf T.er_Gap.no (T.er_Gap.exC T.oc_get T.oc_take)
  have q57 : Er1 K H59 (.ref a57) T.C_NotSo (some ("number", v0)) := .f (((e57).kp k58).kp k59) T.er_NotSo.xf T.er_NotSo.no (T.er_NotSo.exC T.oc_get T.oc_take)
  have q58 : Er1 K H59 (.ref a58) T.C_NoTrip (some ("run", v1)) := .f ((e58).kp k59) T.er_NoTrip.xf T.er_NoTrip.no (T.er_NoTrip.exC T.oc_get T.oc_take)
  have c7 : Els K H59 [.ref a54, .ref a55, .ref a56, .ref a57, .ref a58] [ee1 T.C_TooMany "many" v0, ee1 T.C_NoText "row" v0, ee1 T.C_Gap "number" v1, ee1 T.C_NotSo "number" v0, ee1 T.C_NoTrip "run" v1] := .cons q54 (.cons q55 (.cons q56 (.cons q57 (.cons q58 (.nil)))))
  have m7 : Kp [] H53 H59 := (((((k54).trans k55).trans k56).trans k57).trans k58).trans k59
  clear q54 q55 q56 q57 q58 e54 e55 e56 e57 e58 k54 k55 k56 k57 k58 k59 f54 f55 f56 f57 f58 f59
  obtain ⟨x7, hx7⟩ : ∃ x : List V, x = [.ref a54, .ref a55, .ref a56, .ref a57, .ref a58] := ⟨_, rfl⟩
  rw [← hx7] at c7 e59
  clear hx7
  have w7 := (d6).len
  have y7 := (c7).len
  refine s_addL (m7.get0 e53) e59 (zle (by rw [w7, y7]; simp)) fun l60 H60 f60 e60 k60 => ?_
  have d7 := ((d6.kp m7).app c7).kp k60
  have z7 := (z6.trans m7).trans k60
  clear d6 z6 e53 c7 m7 e59 f60 k60 w7 y7
  obtain ⟨X7, hX7⟩ : ∃ x : List V, x = X6 ++ x7 := ⟨_, rfl⟩
  rw [← hX7] at d7 e60
  clear hX7
  walk_at "u"
  refine s_nxN fun a61 H61 f61 e61 k61 => ?_
  walk_at "u"
  refine s_nxN fun a62 H62 f62 e62 k62 => ?_
  walk_at "u"
  walk_at "na"
  intro l63 H63 f63 e63 k63
  have q61 : Er1 K H63 (.ref a61) T.C_NoStart none := .n (k63.get0 (k62.get0 (e61))) (T.er_NoStart.exC T.oc_get T.oc_take)
  have q62 : Er1 K H63 (.ref a62) T.C_NoBack none := .n (k63.get0 (e62)) (T.er_NoBack.exC T.oc_get T.oc_take)
  have c8 : Els K H63 [.ref a61, .ref a62] [ee0 T.C_NoStart, ee0 T.C_NoBack] := .cons q61 (.cons q62 (.nil))
  have m8 : Kp [] H60 H63 := ((k61).trans k62).trans k63
  clear q61 q62 e61 e62 k61 k62 k63 f61 f62 f63
  obtain ⟨x8, hx8⟩ : ∃ x : List V, x = [.ref a61, .ref a62] := ⟨_, rfl⟩
  rw [← hx8] at c8 e63
  clear hx8
  have w8 := (d7).len
  have y8 := (c8).len
  refine s_addL (m8.get0 e60) e63 (zle (by rw [w8, y8]; simp)) fun l64 H64 f64 e64 k64 => ?_
  have d8 := ((d7.kp m8).app c8).kp k64
  have z8 := (z7.trans m8).trans k64
  have fl := (z7.trans m8).dom _ f64
  clear d7 z7 e60 c8 m8 e63 f64 k64 w8 y8
  obtain ⟨X8, hX8⟩ : ∃ x : List V, x = X7 ++ x8 := ⟨_, rfl⟩
  rw [← hX8] at d8 e64
  clear hX8
  walk_at "u"
  exact h l64 X8 _ fl e64 d8 z8

/-! of which class -/
def sp_law_kinds (T : Tx K mg) : Sp := sp1 fun x H Q _ => ∃ (a D : Addr) (g : Addr → Bool), x = .ref a ∧ Eg H a D ∧ ExcC K D ∧ (∀ C ∈ CLs T, PySem.W.kitOne K (.ref D) (.ref C) = some (g C)) ∧ ∀ l H', H' l = some (.lst ((CLs T).map fun C => .bl (g C))) → Kp [] H H' → Q (.ref l) H'
set_option maxHeartbeats 16000000 in
theorem ok_law_kinds (T : Tx K mg) : FnOk P w K mg base (L2.CX P w) 1 T.a_law_kinds T.d_law_kinds ["_law_error"] (sp_law_kinds T) := by
  refine T.F_law_kinds.okX sc_law_kinds (fun vs H Q E h => ?_) (fun cd A o s H vs Q E hr h => ?_)
  · obtain ⟨v0, rfl, h⟩ := h; rfl
  obtain ⟨v0, rfl, h⟩ := h
  obtain ⟨a, D, g, rfl, hE, hX, hg, k⟩ := h
  refine ⟨_, (pss_cons (ps_set (i := 1) sc_law_kinds.nd rfl (Or.inl rfl) (pe_lst (pa_cons (pe_callB (c_isXK (K := K) rfl) rfl T.z_isinstance bt_isinstance (pa_cons (pv 0) (pa_cons (pe_glob rfl T.m_NoName (show RelV (V.ref T.C_NoName) (Value.ref T.C_NoName) from rfl)) pa_nil))) (pa_cons (pe_callB (c_isXK (K := K) rfl) rfl T.z_isinstance bt_isinstance (pa_cons (pv 0) (pa_cons (pe_glob rfl T.m_NoPlace (show RelV (V.ref T.C_NoPlace) (Value.ref T.C_NoPlace) from rfl)) pa_nil))) (pa_cons (pe_callB (c_isXK (K := K) rfl) rfl T.z_isinstance bt_isinstance (pa_cons (pv 0) (pa_cons (pe_glob rfl T.m_NoTrain (show RelV (V.ref T.C_NoTrain) (Value.ref T.C_NoTrain) from rfl)) pa_nil))) pa_nil)))))
    (pss_cons (ps_set (i := 1) sc_law_kinds.nd rfl (Or.inl rfl) (pe_op (o_add (K := K) rfl) (pv 1) (pe_lst (pa_cons (pe_callB (c_isXK (K := K) rfl) rfl T.z_isinstance bt_isinstance (pa_cons (pv 0) (pa_cons (pe_glob rfl T.m_NoTrains (show RelV (V.ref T.C_NoTrains) (Value.ref T.C_NoTrains) from rfl)) pa_nil))) (pa_cons (pe_callB (c_isXK (K := K) rfl) rfl T.z_isinstance bt_isinstance (pa_cons (pv 0) (pa_cons (pe_glob rfl T.m_NoEnds (show RelV (V.ref T.C_NoEnds) (Value.ref T.C_NoEnds) from rfl)) pa_nil))) (pa_cons (pe_callB (c_isXK (K := K) rfl) rfl T.z_isinstance bt_isinstance (pa_cons (pv 0) (pa_cons (pe_glob rfl T.m_NoStretch (show RelV (V.ref T.C_NoStretch) (Value.ref T.C_NoStretch) from rfl)) pa_nil))) pa_nil))))))
    (pss_cons (ps_set (i := 1) sc_law_kinds.nd rfl (Or.inl rfl) (pe_op (o_add (K := K) rfl) (pv 1) (pe_lst (pa_cons (pe_callB (c_isXK (K := K) rfl) rfl T.z_isinstance bt_isinstance (pa_cons (pv 0) (pa_cons (pe_glob rfl T.m_NoLong (show RelV (V.ref T.C_NoLong) (Value.ref T.C_NoLong) from rfl)) pa_nil))) (pa_cons (pe_callB (c_isXK (K := K) rfl) rfl T.z_isinstance bt_isinstance (pa_cons (pv 0) (pa_cons (pe_glob rfl T.m_NoPlaces (show RelV (V.ref T.C_NoPlaces) (Value.ref T.C_NoPlaces) from rfl)) pa_nil))) (pa_cons (pe_callB (c_isXK (K := K) rfl) rfl T.z_isinstance bt_isinstance (pa_cons (pv 0) (pa_cons (pe_glob rfl T.m_NoStretches (show RelV (V.ref T.C_NoStretches) (Value.ref T.C_NoStretches) from rfl)) pa_nil))) pa_nil))))))
    (pss_cons (ps_set (i := 1) sc_law_kinds.nd rfl (Or.inl rfl) (pe_op (o_add (K := K) rfl) (pv 1) (pe_lst (pa_cons (pe_callB (c_isXK (K := K) rfl) rfl T.z_isinstance bt_isinstance (pa_cons (pv 0) (pa_cons (pe_glob rfl T.m_NoLongs (show RelV (V.ref T.C_NoLongs) (Value.ref T.C_NoLongs) from rfl)) pa_nil))) (pa_cons (pe_callB (c_isXK (K := K) rfl) rfl T.z_isinstance bt_isinstance (pa_cons (pv 0) (pa_cons (pe_glob rfl T.m_NoNumber (show RelV (V.ref T.C_NoNumber) (Value.ref T.C_NoNumber) from rfl)) pa_nil))) (pa_cons (pe_callB (c_isXK (K := K) rfl) rfl T.z_isinstance bt_isinstance (pa_cons (pv 0) (pa_cons (pe_glob rfl T.m_NoThing (show RelV (V.ref T.C_NoThing) (Value.ref T.C_NoThing) from rfl)) pa_nil))) pa_nil))))))
    (pss_cons (ps_set (i := 1) sc_law_kinds.nd rfl (Or.inl rfl) (pe_op (o_add (K := K) rfl) (pv 1) (pe_lst (pa_cons (pe_callB (c_isXK (K := K) rfl) rfl T.z_isinstance bt_isinstance (pa_cons (pv 0) (pa_cons (pe_glob rfl T.m_NoKind (show RelV (V.ref T.C_NoKind) (Value.ref T.C_NoKind) from rfl)) pa_nil))) (pa_cons (pe_callB (c_isXK (K := K) rfl) rfl T.z_isinstance bt_isinstance (pa_cons (pv 0) (pa_cons (pe_glob rfl T.m_NoWord (show RelV (V.ref T.C_NoWord) (Value.ref T.C_NoWord) from rfl)) pa_nil))) (pa_cons (pe_callB (c_isXK (K := K) rfl) rfl T.z_isinstance bt_isinstance (pa_cons (pv 0) (pa_cons (pe_glob rfl T.m_NoDeed (show RelV (V.ref T.C_NoDeed) (Value.ref T.C_NoDeed) from rfl)) pa_nil))) pa_nil))))))
    (pss_cons (ps_set (i := 1) sc_law_kinds.nd rfl (Or.inl rfl) (pe_op (o_add (K := K) rfl) (pv 1) (pe_lst (pa_cons (pe_callB (c_isXK (K := K) rfl) rfl T.z_isinstance bt_isinstance (pa_cons (pv 0) (pa_cons (pe_glob rfl T.m_NoWay (show RelV (V.ref T.C_NoWay) (Value.ref T.C_NoWay) from rfl)) pa_nil))) (pa_cons (pe_callB (c_isXK (K := K) rfl) rfl T.z_isinstance bt_isinstance (pa_cons (pv 0) (pa_cons (pe_glob rfl T.m_NoUse (show RelV (V.ref T.C_NoUse) (Value.ref T.C_NoUse) from rfl)) pa_nil))) (pa_cons (pe_callB (c_isXK (K := K) rfl) rfl T.z_isinstance bt_isinstance (pa_cons (pv 0) (pa_cons (pe_glob rfl T.m_NoBooks (show RelV (V.ref T.C_NoBooks) (Value.ref T.C_NoBooks) from rfl)) pa_nil))) pa_nil))))))
    (pss_cons (ps_set (i := 1) sc_law_kinds.nd rfl (Or.inl rfl) (pe_op (o_add (K := K) rfl) (pv 1) (pe_lst (pa_cons (pe_callB (c_isXK (K := K) rfl) rfl T.z_isinstance bt_isinstance (pa_cons (pv 0) (pa_cons (pe_glob rfl T.m_NoRows (show RelV (V.ref T.C_NoRows) (Value.ref T.C_NoRows) from rfl)) pa_nil))) (pa_cons (pe_callB (c_isXK (K := K) rfl) rfl T.z_isinstance bt_isinstance (pa_cons (pv 0) (pa_cons (pe_glob rfl T.m_NoMove (show RelV (V.ref T.C_NoMove) (Value.ref T.C_NoMove) from rfl)) pa_nil))) (pa_cons (pe_callB (c_isXK (K := K) rfl) rfl T.z_isinstance bt_isinstance (pa_cons (pv 0) (pa_cons (pe_glob rfl T.m_NoRuns (show RelV (V.ref T.C_NoRuns) (Value.ref T.C_NoRuns) from rfl)) pa_nil))) pa_nil))))))
    (pss_cons (ps_set (i := 1) sc_law_kinds.nd rfl (Or.inl rfl) (pe_op (o_add (K := K) rfl) (pv 1) (pe_lst (pa_cons (pe_callB (c_isXK (K := K) rfl) rfl T.z_isinstance bt_isinstance (pa_cons (pv 0) (pa_cons (pe_glob rfl T.m_NoRun (show RelV (V.ref T.C_NoRun) (Value.ref T.C_NoRun) from rfl)) pa_nil))) (pa_cons (pe_callB (c_isXK (K := K) rfl) rfl T.z_isinstance bt_isinstance (pa_cons (pv 0) (pa_cons (pe_glob rfl T.m_NoLine (show RelV (V.ref T.C_NoLine) (Value.ref T.C_NoLine) from rfl)) pa_nil))) (pa_cons (pe_callB (c_isXK (K := K) rfl) rfl T.z_isinstance bt_isinstance (pa_cons (pv 0) (pa_cons (pe_glob rfl T.m_NoState (show RelV (V.ref T.C_NoState) (Value.ref T.C_NoState) from rfl)) pa_nil))) pa_nil))))))
    (pss_cons (ps_set (i := 1) sc_law_kinds.nd rfl (Or.inl rfl) (pe_op (o_add (K := K) rfl) (pv 1) (pe_lst (pa_cons (pe_callB (c_isXK (K := K) rfl) rfl T.z_isinstance bt_isinstance (pa_cons (pv 0) (pa_cons (pe_glob rfl T.m_Twice (show RelV (V.ref T.C_Twice) (Value.ref T.C_Twice) from rfl)) pa_nil))) (pa_cons (pe_callB (c_isXK (K := K) rfl) rfl T.z_isinstance bt_isinstance (pa_cons (pv 0) (pa_cons (pe_glob rfl T.m_NotHere (show RelV (V.ref T.C_NotHere) (Value.ref T.C_NotHere) from rfl)) pa_nil))) (pa_cons (pe_callB (c_isXK (K := K) rfl) rfl T.z_isinstance bt_isinstance (pa_cons (pv 0) (pa_cons (pe_glob rfl T.m_NotIn (show RelV (V.ref T.C_NotIn) (Value.ref T.C_NotIn) from rfl)) pa_nil))) pa_nil))))))
    (pss_cons (ps_set (i := 1) sc_law_kinds.nd rfl (Or.inl rfl) (pe_op (o_add (K := K) rfl) (pv 1) (pe_lst (pa_cons (pe_callB (c_isXK (K := K) rfl) rfl T.z_isinstance bt_isinstance (pa_cons (pv 0) (pa_cons (pe_glob rfl T.m_NotHeld (show RelV (V.ref T.C_NotHeld) (Value.ref T.C_NotHeld) from rfl)) pa_nil))) (pa_cons (pe_callB (c_isXK (K := K) rfl) rfl T.z_isinstance bt_isinstance (pa_cons (pv 0) (pa_cons (pe_glob rfl T.m_NotHelped (show RelV (V.ref T.C_NotHelped) (Value.ref T.C_NotHelped) from rfl)) pa_nil))) (pa_cons (pe_callB (c_isXK (K := K) rfl) rfl T.z_isinstance bt_isinstance (pa_cons (pv 0) (pa_cons (pe_glob rfl T.m_Full (show RelV (V.ref T.C_Full) (Value.ref T.C_Full) from rfl)) pa_nil))) pa_nil))))))
    (pss_cons (ps_set (i := 1) sc_law_kinds.nd rfl (Or.inl rfl) (pe_op (o_add (K := K) rfl) (pv 1) (pe_lst (pa_cons (pe_callB (c_isXK (K := K) rfl) rfl T.z_isinstance bt_isinstance (pa_cons (pv 0) (pa_cons (pe_glob rfl T.m_Lacks (show RelV (V.ref T.C_Lacks) (Value.ref T.C_Lacks) from rfl)) pa_nil))) (pa_cons (pe_callB (c_isXK (K := K) rfl) rfl T.z_isinstance bt_isinstance (pa_cons (pv 0) (pa_cons (pe_glob rfl T.m_Shut (show RelV (V.ref T.C_Shut) (Value.ref T.C_Shut) from rfl)) pa_nil))) (pa_cons (pe_callB (c_isXK (K := K) rfl) rfl T.z_isinstance bt_isinstance (pa_cons (pv 0) (pa_cons (pe_glob rfl T.m_Held (show RelV (V.ref T.C_Held) (Value.ref T.C_Held) from rfl)) pa_nil))) pa_nil))))))
    (pss_cons (ps_set (i := 1) sc_law_kinds.nd rfl (Or.inl rfl) (pe_op (o_add (K := K) rfl) (pv 1) (pe_lst (pa_cons (pe_callB (c_isXK (K := K) rfl) rfl T.z_isinstance bt_isinstance (pa_cons (pv 0) (pa_cons (pe_glob rfl T.m_NotClear (show RelV (V.ref T.C_NotClear) (Value.ref T.C_NotClear) from rfl)) pa_nil))) (pa_cons (pe_callB (c_isXK (K := K) rfl) rfl T.z_isinstance bt_isinstance (pa_cons (pv 0) (pa_cons (pe_glob rfl T.m_NoTickets (show RelV (V.ref T.C_NoTickets) (Value.ref T.C_NoTickets) from rfl)) pa_nil))) (pa_cons (pe_callB (c_isXK (K := K) rfl) rfl T.z_isinstance bt_isinstance (pa_cons (pv 0) (pa_cons (pe_glob rfl T.m_NoRight (show RelV (V.ref T.C_NoRight) (Value.ref T.C_NoRight) from rfl)) pa_nil))) pa_nil))))))
    (pss_cons (ps_set (i := 1) sc_law_kinds.nd rfl (Or.inl rfl) (pe_op (o_add (K := K) rfl) (pv 1) (pe_lst (pa_cons (pe_callB (c_isXK (K := K) rfl) rfl T.z_isinstance bt_isinstance (pa_cons (pv 0) (pa_cons (pe_glob rfl T.m_NotShut (show RelV (V.ref T.C_NotShut) (Value.ref T.C_NotShut) from rfl)) pa_nil))) (pa_cons (pe_callB (c_isXK (K := K) rfl) rfl T.z_isinstance bt_isinstance (pa_cons (pv 0) (pa_cons (pe_glob rfl T.m_Taken (show RelV (V.ref T.C_Taken) (Value.ref T.C_Taken) from rfl)) pa_nil))) (pa_cons (pe_callB (c_isXK (K := K) rfl) rfl T.z_isinstance bt_isinstance (pa_cons (pv 0) (pa_cons (pe_glob rfl T.m_Boxed (show RelV (V.ref T.C_Boxed) (Value.ref T.C_Boxed) from rfl)) pa_nil))) pa_nil))))))
    (pss_cons (ps_set (i := 1) sc_law_kinds.nd rfl (Or.inl rfl) (pe_op (o_add (K := K) rfl) (pv 1) (pe_lst (pa_cons (pe_callB (c_isXK (K := K) rfl) rfl T.z_isinstance bt_isinstance (pa_cons (pv 0) (pa_cons (pe_glob rfl T.m_Silent (show RelV (V.ref T.C_Silent) (Value.ref T.C_Silent) from rfl)) pa_nil))) (pa_cons (pe_callB (c_isXK (K := K) rfl) rfl T.z_isinstance bt_isinstance (pa_cons (pv 0) (pa_cons (pe_glob rfl T.m_TooMany (show RelV (V.ref T.C_TooMany) (Value.ref T.C_TooMany) from rfl)) pa_nil))) (pa_cons (pe_callB (c_isXK (K := K) rfl) rfl T.z_isinstance bt_isinstance (pa_cons (pv 0) (pa_cons (pe_glob rfl T.m_NoText (show RelV (V.ref T.C_NoText) (Value.ref T.C_NoText) from rfl)) pa_nil))) pa_nil))))))
    (pss_cons (ps_set (i := 1) sc_law_kinds.nd rfl (Or.inl rfl) (pe_op (o_add (K := K) rfl) (pv 1) (pe_lst (pa_cons (pe_callB (c_isXK (K := K) rfl) rfl T.z_isinstance bt_isinstance (pa_cons (pv 0) (pa_cons (pe_glob rfl T.m_Gap (show RelV (V.ref T.C_Gap) (Value.ref T.C_Gap) from rfl)) pa_nil))) (pa_cons (pe_callB (c_isXK (K := K) rfl) rfl T.z_isinstance bt_isinstance (pa_cons (pv 0) (pa_cons (pe_glob rfl T.m_NotSo (show RelV (V.ref T.C_NotSo) (Value.ref T.C_NotSo) from rfl)) pa_nil))) (pa_cons (pe_callB (c_isXK (K := K) rfl) rfl T.z_isinstance bt_isinstance (pa_cons (pv 0) (pa_cons (pe_glob rfl T.m_NoTrip (show RelV (V.ref T.C_NoTrip) (Value.ref T.C_NoTrip) from rfl)) pa_nil))) pa_nil))))))
    (pss_cons (ps_set (i := 1) sc_law_kinds.nd rfl (Or.inl rfl) (pe_op (o_add (K := K) rfl) (pv 1) (pe_lst (pa_cons (pe_callB (c_isXK (K := K) rfl) rfl T.z_isinstance bt_isinstance (pa_cons (pv 0) (pa_cons (pe_glob rfl T.m_NoStart (show RelV (V.ref T.C_NoStart) (Value.ref T.C_NoStart) from rfl)) pa_nil))) (pa_cons (pe_callB (c_isXK (K := K) rfl) rfl T.z_isinstance bt_isinstance (pa_cons (pv 0) (pa_cons (pe_glob rfl T.m_NoBack (show RelV (V.ref T.C_NoBack) (Value.ref T.C_NoBack) from rfl)) pa_nil))) pa_nil)))))
    (pss_one (ps_ret (pv 1))))))))))))))))))), ?_⟩
  rw [st_law_kinds]
  have hk : ∀ {i : Nat} {C : Addr}, (CLs T)[i]? = some C → PySem.W.kitOne K (.ref D) (.ref C) = some (g C) := fun h => hg _ (List.mem_of_getElem? h)
  walk_at "u"
  refine s_isX hE hX (C2 := T.C_NoName) (b := g T.C_NoName) (hk (i := 0) rfl) ?_
  walk_at "u"
  refine s_isX hE hX (C2 := T.C_NoPlace) (b := g T.C_NoPlace) (hk (i := 1) rfl) ?_
  walk_at "u"
  refine s_isX hE hX (C2 := T.C_NoTrain) (b := g T.C_NoTrain) (hk (i := 2) rfl) ?_
  walk_at "u"
  walk_at "na"
  intro l1 H1 f1 e1 k1
  have hE := hE.kp k1
  have z := k1
  walk_at "u"
  refine s_isX hE hX (C2 := T.C_NoTrains) (b := g T.C_NoTrains) (hk (i := 3) rfl) ?_
  walk_at "u"
  refine s_isX hE hX (C2 := T.C_NoEnds) (b := g T.C_NoEnds) (hk (i := 4) rfl) ?_
  walk_at "u"
  refine s_isX hE hX (C2 := T.C_NoStretch) (b := g T.C_NoStretch) (hk (i := 5) rfl) ?_
  walk_at "u"
  walk_at "na"
  intro l2 H2 f2 e2 k2
  refine s_addL (k2.get0 e1) e2 (zle (by simp)) fun l3 H3 f3 e3 k3 => ?_
  have e3 : H3 l3 = some (.lst [.bl (g T.C_NoName), .bl (g T.C_NoPlace), .bl (g T.C_NoTrain), .bl (g T.C_NoTrains), .bl (g T.C_NoEnds), .bl (g T.C_NoStretch)]) := e3
  have hE := (hE.kp k2).kp k3
  have z := (z.trans k2).trans k3
  clear k2 k3 f2 f3 e2 e1
  walk_at "u"
  refine s_isX hE hX (C2 := T.C_NoLong) (b := g T.C_NoLong) (hk (i := 6) rfl) ?_
  walk_at "u"
  refine s_isX hE hX (C2 := T.C_NoPlaces) (b := g T.C_NoPlaces) (hk (i := 7) rfl) ?_
  walk_at "u"
  refine s_isX hE hX (C2 := T.C_NoStretches) (b := g T.C_NoStretches) (hk (i := 8) rfl) ?_
  walk_at "u"
  walk_at "na"
  intro l4 H4 f4 e4 k4
  refine s_addL (k4.get0 e3) e4 (zle (by simp)) fun l5 H5 f5 e5 k5 => ?_
  have e5 : H5 l5 = some (.lst [.bl (g T.C_NoName), .bl (g T.C_NoPlace), .bl (g T.C_NoTrain), .bl (g T.C_NoTrains), .bl (g T.C_NoEnds), .bl (g T.C_NoStretch), .bl (g T.C_NoLong), .bl (g T.C_NoPlaces), .bl (g T.C_NoStretches)]) := e5
  have hE := (hE.kp k4).kp k5
  have z := (z.trans k4).trans k5
  clear k4 k5 f4 f5 e4 e3
  walk_at "u"
  refine s_isX hE hX (C2 := T.C_NoLongs) (b := g T.C_NoLongs) (hk (i := 9) rfl) ?_
  walk_at "u"
  refine s_isX hE hX (C2 := T.C_NoNumber) (b := g T.C_NoNumber) (hk (i := 10) rfl) ?_
  walk_at "u"
  refine s_isX hE hX (C2 := T.C_NoThing) (b := g T.C_NoThing) (hk (i := 11) rfl) ?_
  walk_at "u"
  walk_at "na"
  intro l6 H6 f6 e6 k6
  refine s_addL (k6.get0 e5) e6 (zle (by simp)) fun l7 H7 f7 e7 k7 => ?_
  have e7 : H7 l7 = some (.lst [.bl (g T.C_NoName), .bl (g T.C_NoPlace), .bl (g T.C_NoTrain), .bl (g T.C_NoTrains), .bl (g T.C_NoEnds), .bl (g T.C_NoStretch), .bl (g T.C_NoLong), .bl (g T.C_NoPlaces), .bl (g T.C_NoStretches), .bl (g T.C_NoLongs), .bl (g T.C_NoNumber), .bl (g T.C_NoThing)]) := e7
  have hE := (hE.kp k6).kp k7
  have z := (z.trans k6).trans k7
  clear k6 k7 f6 f7 e6 e5
  walk_at "u"
  refine s_isX hE hX (C2 := T.C_NoKind) (b := g T.C_NoKind) (hk (i := 12) rfl) ?_
  walk_at "u"
  refine s_isX hE hX (C2 := T.C_NoWord) (b := g T.C_NoWord) (hk (i := 13) rfl) ?_
  walk_at "u"
  refine s_isX hE hX (C2 := T.C_NoDeed) (b := g T.C_NoDeed) (hk (i := 14) rfl) ?_
  walk_at "u"
  walk_at "na"
  intro l8 H8 f8 e8 k8
  refine s_addL (k8.get0 e7) e8 (zle (by simp)) fun l9 H9 f9 e9 k9 => ?_
  have e9 : H9 l9 = some (.lst [.bl (g T.C_NoName), .bl (g T.C_NoPlace), .bl (g T.C_NoTrain), .bl (g T.C_NoTrains), .bl (g T.C_NoEnds), .bl (g T.C_NoStretch), .bl (g T.C_NoLong), .bl (g T.C_NoPlaces), .bl (g T.C_NoStretches), .bl (g T.C_NoLongs), .bl (g T.C_NoNumber), .bl (g T.C_NoThing), .bl (g T.C_NoKind), .bl (g T.C_NoWord), .bl (g T.C_NoDeed)]) := e9
  have hE := (hE.kp k8).kp k9
  have z := (z.trans k8).trans k9
  clear k8 k9 f8 f9 e8 e7
  walk_at "u"
  refine s_isX hE hX (C2 := T.C_NoWay) (b := g T.C_NoWay) (hk (i := 15) rfl) ?_
  walk_at "u"
  refine s_isX hE hX (C2 := T.C_NoUse) (b := g T.C_NoUse) (hk (i := 16) rfl) ?_
  walk_at "u"
  refine s_isX hE hX (C2 := T.C_NoBooks) (b := g T.C_NoBooks) (hk (i := 17) rfl) ?_
  walk_at "u"
  walk_at "na"
  intro l10 H10 f10 e10 k10
  refine s_addL (k10.get0 e9) e10 (zle (by simp)) fun l11 H11 f11 e11 k11 => ?_
  have e11 : H11 l11 = some (.lst [.bl (g T.C_NoName), .bl (g T.C_NoPlace), .bl (g T.C_NoTrain), .bl (g T.C_NoTrains), .bl (g T.C_NoEnds), .bl (g T.C_NoStretch), .bl (g T.C_NoLong), .bl (g T.C_NoPlaces), .bl (g T.C_NoStretches), .bl (g T.C_NoLongs), .bl (g T.C_NoNumber), .bl (g T.C_NoThing), .bl (g T.C_NoKind), .bl (g T.C_NoWord), .bl (g T.C_NoDeed), .bl (g T.C_NoWay), .bl (g T.C_NoUse), .bl (g T.C_NoBooks)]) := e11
  have hE := (hE.kp k10).kp k11
  have z := (z.trans k10).trans k11
  clear k10 k11 f10 f11 e10 e9
  walk_at "u"
  refine s_isX hE hX (C2 := T.C_NoRows) (b := g T.C_NoRows) (hk (i := 18) rfl) ?_
  walk_at "u"
  refine s_isX hE hX (C2 := T.C_NoMove) (b := g T.C_NoMove) (hk (i := 19) rfl) ?_
  walk_at "u"
  refine s_isX hE hX (C2 := T.C_NoRuns) (b := g T.C_NoRuns) (hk (i := 20) rfl) ?_
  walk_at "u"
  walk_at "na"
  intro l12 H12 f12 e12 k12
  refine s_addL (k12.get0 e11) e12 (zle (by simp)) fun l13 H13 f13 e13 k13 => ?_
  have e13 : H13 l13 = some (.lst [.bl (g T.C_NoName), .bl (g T.C_NoPlace), .bl (g T.C_NoTrain), .bl (g T.C_NoTrains), .bl (g T.C_NoEnds), .bl (g T.C_NoStretch), .bl (g T.C_NoLong), .bl (g T.C_NoPlaces), .bl (g T.C_NoStretches), .bl (g T.C_NoLongs), .bl (g T.C_NoNumber), .bl (g T.C_NoThing), .bl (g T.C_NoKind), .bl (g T.C_NoWord), .bl (g T.C_NoDeed), .bl (g T.C_NoWay), .bl (g T.C_NoUse), .bl (g T.C_NoBooks), .bl (g T.C_NoRows), .bl (g T.C_NoMove), .bl (g T.C_NoRuns)]) := e13
  have hE := (hE.kp k12).kp k13
  have z := (z.trans k12).trans k13
  clear k12 k13 f12 f13 e12 e11
  walk_at "u"
  refine s_isX hE hX (C2 := T.C_NoRun) (b := g T.C_NoRun) (hk (i := 21) rfl) ?_
  walk_at "u"
  refine s_isX hE hX (C2 := T.C_NoLine) (b := g T.C_NoLine) (hk (i := 22) rfl) ?_
  walk_at "u"
  refine s_isX hE hX (C2 := T.C_NoState) (b := g T.C_NoState) (hk (i := 23) rfl) ?_
  walk_at "u"
  walk_at "na"
  intro l14 H14 f14 e14 k14
  refine s_addL (k14.get0 e13) e14 (zle (by simp)) fun l15 H15 f15 e15 k15 => ?_
  have e15 : H15 l15 = some (.lst [.bl (g T.C_NoName), .bl (g T.C_NoPlace), .bl (g T.C_NoTrain), .bl (g T.C_NoTrains), .bl (g T.C_NoEnds), .bl (g T.C_NoStretch), .bl (g T.C_NoLong), .bl (g T.C_NoPlaces), .bl (g T.C_NoStretches), .bl (g T.C_NoLongs), .bl (g T.C_NoNumber), .bl (g T.C_NoThing), .bl (g T.C_NoKind), .bl (g T.C_NoWord), .bl (g T.C_NoDeed), .bl (g T.C_NoWay), .bl (g T.C_NoUse), .bl (g T.C_NoBooks), .bl (g T.C_NoRows), .bl (g T.C_NoMove), .bl (g T.C_NoRuns), .bl (g T.C_NoRun), .bl (g T.C_NoLine), .bl (g T.C_NoState)]) := e15
  have hE := (hE.kp k14).kp k15
  have z := (z.trans k14).trans k15
  clear k14 k15 f14 f15 e14 e13
  walk_at "u"
  refine s_isX hE hX (C2 := T.C_Twice) (b := g T.C_Twice) (hk (i := 24) rfl) ?_
  walk_at "u"
  refine s_isX hE hX (C2 := T.C_NotHere) (b := g T.C_NotHere) (hk (i := 25) rfl) ?_
  walk_at "u"
  refine s_isX hE hX (C2 := T.C_NotIn) (b := g T.C_NotIn) (hk (i := 26) rfl) ?_
  walk_at "u"
  walk_at "na"
  intro l16 H16 f16 e16 k16
  refine s_addL (k16.get0 e15) e16 (zle (by simp)) fun l17 H17 f17 e17 k17 => ?_
  have e17 : H17 l17 = some (.lst [.bl (g T.C_NoName), .bl (g T.C_NoPlace), .bl (g T.C_NoTrain), .bl (g T.C_NoTrains), .bl (g T.C_NoEnds), .bl (g T.C_NoStretch), .bl (g T.C_NoLong), .bl (g T.C_NoPlaces), .bl (g T.C_NoStretches), .bl (g T.C_NoLongs), .bl (g T.C_NoNumber), .bl (g T.C_NoThing), .bl (g T.C_NoKind), .bl (g T.C_NoWord), .bl (g T.C_NoDeed), .bl (g T.C_NoWay), .bl (g T.C_NoUse), .bl (g T.C_NoBooks), .bl (g T.C_NoRows), .bl (g T.C_NoMove), .bl (g T.C_NoRuns), .bl (g T.C_NoRun), .bl (g T.C_NoLine), .bl (g T.C_NoState), .bl (g T.C_Twice), .bl (g T.C_NotHere), .bl (g T.C_NotIn)]) := e17
  have hE := (hE.kp k16).kp k17
  have z := (z.trans k16).trans k17
  clear k16 k17 f16 f17 e16 e15
  walk_at "u"
  refine s_isX hE hX (C2 := T.C_NotHeld) (b := g T.C_NotHeld) (hk (i := 27) rfl) ?_
  walk_at "u"
  refine s_isX hE hX (C2 := T.C_NotHelped) (b := g T.C_NotHelped) (hk (i := 28) rfl) ?_
  walk_at "u"
  refine s_isX hE hX (C2 := T.C_Full) (b := g T.C_Full) (hk (i := 29) rfl) ?_
  walk_at "u"
  walk_at "na"
  intro l18 H18 f18 e18 k18
  refine s_addL (k18.get0 e17) e18 (zle (by simp)) fun l19 H19 f19 e19 k19 => ?_
  have e19 : H19 l19 = some (.lst [.bl (g T.C_NoName), .bl (g T.C_NoPlace), .bl (g T.C_NoTrain), .bl (g T.C_NoTrains), .bl (g T.C_NoEnds), .bl (g T.C_NoStretch), .bl (g T.C_NoLong), .bl (g T.C_NoPlaces), .bl (g T.C_NoStretches), .bl (g T.C_NoLongs), .bl (g T.C_NoNumber), .bl (g T.C_NoThing), .bl (g T.C_NoKind), .bl (g T.C_NoWord), .bl (g T.C_NoDeed), .bl (g T.C_NoWay), .bl (g T.C_NoUse), .bl (g T.C_NoBooks), .bl (g T.C_NoRows), .bl (g T.C_NoMove), .bl (g T.C_NoRuns), .bl (g T.C_NoRun), .bl (g T.C_NoLine), .bl (g T.C_NoState), .bl (g T.C_Twice), .bl (g T.C_NotHere), .bl (g T.C_NotIn), .bl (g T.C_NotHeld), .bl (g T.C_NotHelped), .bl (g T.C_Full)]) := e19
  have hE := (hE.kp k18).kp k19
  have z := (z.trans k18).trans k19
  clear k18 k19 f18 f19 e18 e17
  walk_at "u"
  refine s_isX hE hX (C2 := T.C_Lacks) (b := g T.C_Lacks) (hk (i := 30) rfl) ?_
  walk_at "u"
  refine s_isX hE hX (C2 := T.C_Shut) (b := g T.C_Shut) (hk (i := 31) rfl) ?_
  walk_at "u"
  refine s_isX hE hX (C2 := T.C_Held) (b := g T.C_Held) (hk (i := 32) rfl) ?_
  walk_at "u"
  walk_at "na"
  intro l20 H20 f20 e20 k20
  refine s_addL (k20.get0 e19) e20 (zle (by simp)) fun l21 H21 f21 e21 k21 => ?_
  have e21 : H21 l21 = some (.lst [.bl (g T.C_NoName), .bl (g T.C_NoPlace), .bl (g T.C_NoTrain), .bl (g T.C_NoTrains), .bl (g T.C_NoEnds), .bl (g T.C_NoStretch), .bl (g T.C_NoLong), .bl (g T.C_NoPlaces), .bl (g T.C_NoStretches), .bl (g T.C_NoLongs), .bl (g T.C_NoNumber), .bl (g T.C_NoThing), .bl (g T.C_NoKind), .bl (g T.C_NoWord), .bl (g T.C_NoDeed), .bl (g T.C_NoWay), .bl (g T.C_NoUse), .bl (g T.C_NoBooks), .bl (g T.C_NoRows), .bl (g T.C_NoMove), .bl (g T.C_NoRuns), .bl (g T.C_NoRun), .bl (g T.C_NoLine), .bl (g T.C_NoState), .bl (g T.C_Twice), .bl (g T.C_NotHere), .bl (g T.C_NotIn), .bl (g T.C_NotHeld), .bl (g T.C_NotHelped), .bl (g T.C_Full), .bl (g T.C_Lacks), .bl (g T.C_Shut), .bl (g T.C_Held)]) := e21
  have hE := (hE.kp k20).kp k21
  have z := (z.trans k20).trans k21
  clear k20 k21 f20 f21 e20 e19
  walk_at "u"
  refine s_isX hE hX (C2 := T.C_NotClear) (b := g T.C_NotClear) (hk (i := 33) rfl) ?_
  walk_at "u"
  refine s_isX hE hX (C2 := T.C_NoTickets) (b := g T.C_NoTickets) (hk (i := 34) rfl) ?_
  walk_at "u"
  refine s_isX hE hX (C2 := T.C_NoRight) (b := g T.C_NoRight) (hk (i := 35) rfl) ?_
  walk_at "u"
  walk_at "na"
  intro l22 H22 f22 e22 k22
  refine s_addL (k22.get0 e21) e22 (zle (by simp)) fun l23 H23 f23 e23 k23 => ?_
  have e23 : H23 l23 = some (.lst [.bl (g T.C_NoName), .bl (g T.C_NoPlace), .bl (g T.C_NoTrain), .bl (g T.C_NoTrains), .bl (g T.C_NoEnds), .bl (g T.C_NoStretch), .bl (g T.C_NoLong), .bl (g T.C_NoPlaces), .bl (g T.C_NoStretches), .bl (g T.C_NoLongs), .bl (g T.C_NoNumber), .bl (g T.C_NoThing), .bl (g T.C_NoKind), .bl (g T.C_NoWord), .bl (g T.C_NoDeed), .bl (g T.C_NoWay), .bl (g T.C_NoUse), .bl (g T.C_NoBooks), .bl (g T.C_NoRows), .bl (g T.C_NoMove), .bl (g T.C_NoRuns), .bl (g T.C_NoRun), .bl (g T.C_NoLine), .bl (g T.C_NoState), .bl (g T.C_Twice), .bl (g T.C_NotHere), .bl (g T.C_NotIn), .bl (g T.C_NotHeld), .bl (g T.C_NotHelped), .bl (g T.C_Full), .bl (g T.C_Lacks), .bl (g T.C_Shut), .bl (g T.C_Held), .bl (g T.C_NotClear), .bl (g T.C_NoTickets), .bl (g T.C_NoRight)]) := e23
  have hE := (hE.kp k22).kp k23
  have z := (z.trans k22).trans k23
  clear k22 k23 f22 f23 e22 e21
  walk_at "u"
  refine s_isX hE hX (C2 := T.C_NotShut) (b := g T.C_NotShut) (hk (i := 36) rfl) ?_
  walk_at "u"
  refine s_isX hE hX (C2 := T.C_Taken) (b := g T.C_Taken) (hk (i := 37) rfl) ?_
  walk_at "u"
  refine s_isX hE hX (C2 := T.C_Boxed) (b := g T.C_Boxed) (hk (i := 38) rfl) ?_
  walk_at "u"
  walk_at "na"
  intro l24 H24 f24 e24 k24
  refine s_addL (k24.get0 e23) e24 (zle (by simp)) fun l25 H25 f25 e25 k25 => ?_
  have e25 : H25 l25 = some (.lst [.bl (g T.C_NoName), .bl (g T.C_NoPlace), .bl (g T.C_NoTrain), .bl (g T.C_NoTrains), .bl (g T.C_NoEnds), .bl (g T.C_NoStretch), .bl (g T.C_NoLong), .bl (g T.C_NoPlaces), .bl (g T.C_NoStretches), .bl (g T.C_NoLongs), .bl (g T.C_NoNumber), .bl (g T.C_NoThing), .bl (g T.C_NoKind), .bl (g T.C_NoWord), .bl (g T.C_NoDeed), .bl (g T.C_NoWay), .bl (g T.C_NoUse), .bl (g T.C_NoBooks), .bl (g T.C_NoRows), .bl (g T.C_NoMove), .bl (g T.C_NoRuns), .bl (g T.C_NoRun), .bl (g T.C_NoLine), .bl (g T.C_NoState), .bl (g T.C_Twice), .bl (g T.C_NotHere), .bl (g T.C_NotIn), .bl (g T.C_NotHeld), .bl (g T.C_NotHelped), .bl (g T.C_Full), .bl (g T.C_Lacks), .bl (g T.C_Shut), .bl (g T.C_Held), .bl (g T.C_NotClear), .bl (g T.C_NoTickets), .bl (g T.C_NoRight), .bl (g T.C_NotShut), .bl (g T.C_Taken), .bl (g T.C_Boxed)]) := e25
  have hE := (hE.kp k24).kp k25
  have z := (z.trans k24).trans k25
  clear k24 k25 f24 f25 e24 e23
  walk_at "u"
  refine s_isX hE hX (C2 := T.C_Silent) (b := g T.C_Silent) (hk (i := 39) rfl) ?_
  walk_at "u"
  refine s_isX hE hX (C2 := T.C_TooMany) (b := g T.C_TooMany) (hk (i := 40) rfl) ?_
  walk_at "u"
  refine s_isX hE hX (C2 := T.C_NoText) (b := g T.C_NoText) (hk (i := 41) rfl) ?_
  walk_at "u"
  walk_at "na"
  intro l26 H26 f26 e26 k26
  refine s_addL (k26.get0 e25) e26 (zle (by simp)) fun l27 H27 f27 e27 k27 => ?_
  have e27 : H27 l27 = some (.lst [.bl (g T.C_NoName), .bl (g T.C_NoPlace), .bl (g T.C_NoTrain), .bl (g T.C_NoTrains), .bl (g T.C_NoEnds), .bl (g T.C_NoStretch), .bl (g T.C_NoLong), .bl (g T.C_NoPlaces), .bl (g T.C_NoStretches), .bl (g T.C_NoLongs), .bl (g T.C_NoNumber), .bl (g T.C_NoThing), .bl (g T.C_NoKind), .bl (g T.C_NoWord), .bl (g T.C_NoDeed), .bl (g T.C_NoWay), .bl (g T.C_NoUse), .bl (g T.C_NoBooks), .bl (g T.C_NoRows), .bl (g T.C_NoMove), .bl (g T.C_NoRuns), .bl (g T.C_NoRun), .bl (g T.C_NoLine), .bl (g T.C_NoState), .bl (g T.C_Twice), .bl (g T.C_NotHere), .bl (g T.C_NotIn), .bl (g T.C_NotHeld), .bl (g T.C_NotHelped), .bl (g T.C_Full), .bl (g T.C_Lacks), .bl (g T.C_Shut), .bl (g T.C_Held), .bl (g T.C_NotClear), .bl (g T.C_NoTickets), .bl (g T.C_NoRight), .bl (g T.C_NotShut), .bl (g T.C_Taken), .bl (g T.C_Boxed), .bl (g T.C_Silent), .bl (g T.C_TooMany), .bl (g T.C_NoText)]) := e27
  have hE := (hE.kp k26).kp k27
  have z := (z.trans k26).trans k27
  clear k26 k27 f26 f27 e26 e25
  walk_at "u"
  refine s_isX hE hX (C2 := T.C_Gap) (b := g T.C_Gap) (hk (i := 42) rfl) ?_
  walk_at "u"
  refine s_isX hE hX (C2 := T.C_NotSo) (b := g T.C_NotSo) (hk (i := 43) rfl) ?_
  walk_at "u"
  refine s_isX hE hX (C2 := T.C_NoTrip) (b := g T.C_NoTrip) (hk (i := 44) rfl) ?_
  walk_at "u"
  walk_at "na"
  intro l28 H28 f28 e28 k28
  refine s_addL (k28.get0 e27) e28 (zle (by simp)) fun l29 H29 f29 e29 k29 => ?_
  have e29 : H29 l29 = some (.lst [.bl (g T.C_NoName), .bl (g T.C_NoPlace), .bl (g T.C_NoTrain), .bl (g T.C_NoTrains), .bl (g T.C_NoEnds), .bl (g T.C_NoStretch), .bl (g T.C_NoLong), .bl (g T.C_NoPlaces), .bl (g T.C_NoStretches), .bl (g T.C_NoLongs), .bl (g T.C_NoNumber), .bl (g T.C_NoThing), .bl (g T.C_NoKind), .bl (g T.C_NoWord), .bl (g T.C_NoDeed), .bl (g T.C_NoWay), .bl (g T.C_NoUse), .bl (g T.C_NoBooks), .bl (g T.C_NoRows), .bl (g T.C_NoMove), .bl (g T.C_NoRuns), .bl (g T.C_NoRun), .bl (g T.C_NoLine), .bl (g T.C_NoState), .bl (g T.C_Twice), .bl (g T.C_NotHere), .bl (g T.C_NotIn), .bl (g T.C_NotHeld), .bl (g T.C_NotHelped), .bl (g T.C_Full), .bl (g T.C_Lacks), .bl (g T.C_Shut), .bl (g T.C_Held), .bl (g T.C_NotClear), .bl (g T.C_NoTickets), .bl (g T.C_NoRight), .bl (g T.C_NotShut), .bl (g T.C_Taken), .bl (g T.C_Boxed), .bl (g T.C_Silent), .bl (g T.C_TooMany), .bl (g T.C_NoText), .bl (g T.C_Gap), .bl (g T.C_NotSo), .bl (g T.C_NoTrip)]) := e29
  have hE := (hE.kp k28).kp k29
  have z := (z.trans k28).trans k29
  clear k28 k29 f28 f29 e28 e27
  walk_at "u"
  refine s_isX hE hX (C2 := T.C_NoStart) (b := g T.C_NoStart) (hk (i := 45) rfl) ?_
  walk_at "u"
  refine s_isX hE hX (C2 := T.C_NoBack) (b := g T.C_NoBack) (hk (i := 46) rfl) ?_
  walk_at "u"
  walk_at "na"
  intro l30 H30 f30 e30 k30
  refine s_addL (k30.get0 e29) e30 (zle (by simp)) fun l31 H31 f31 e31 k31 => ?_
  have e31 : H31 l31 = some (.lst [.bl (g T.C_NoName), .bl (g T.C_NoPlace), .bl (g T.C_NoTrain), .bl (g T.C_NoTrains), .bl (g T.C_NoEnds), .bl (g T.C_NoStretch), .bl (g T.C_NoLong), .bl (g T.C_NoPlaces), .bl (g T.C_NoStretches), .bl (g T.C_NoLongs), .bl (g T.C_NoNumber), .bl (g T.C_NoThing), .bl (g T.C_NoKind), .bl (g T.C_NoWord), .bl (g T.C_NoDeed), .bl (g T.C_NoWay), .bl (g T.C_NoUse), .bl (g T.C_NoBooks), .bl (g T.C_NoRows), .bl (g T.C_NoMove), .bl (g T.C_NoRuns), .bl (g T.C_NoRun), .bl (g T.C_NoLine), .bl (g T.C_NoState), .bl (g T.C_Twice), .bl (g T.C_NotHere), .bl (g T.C_NotIn), .bl (g T.C_NotHeld), .bl (g T.C_NotHelped), .bl (g T.C_Full), .bl (g T.C_Lacks), .bl (g T.C_Shut), .bl (g T.C_Held), .bl (g T.C_NotClear), .bl (g T.C_NoTickets), .bl (g T.C_NoRight), .bl (g T.C_NotShut), .bl (g T.C_Taken), .bl (g T.C_Boxed), .bl (g T.C_Silent), .bl (g T.C_TooMany), .bl (g T.C_NoText), .bl (g T.C_Gap), .bl (g T.C_NotSo), .bl (g T.C_NoTrip), .bl (g T.C_NoStart), .bl (g T.C_NoBack)]) := e31
  have hE := (hE.kp k30).kp k31
  have z := (z.trans k30).trans k31
  clear k30 k31 f30 f31 e30 e29
  walk_at "u"
  exact k l31 _ e31 z
/-! their fields -/
def ef (e : Ee) : V := match e.2 with | some p => p.2 | none => .non
def flds (T : Tx K mg) (one oth : V) : List V := (List.replicate 40 one) ++ [one, one, oth, one, oth]
theorem els_split {H : Hp} {xs : List V} {es gs : List Ee} (h : Els K H xs (es ++ gs)) : ∃ ys zs, xs = ys ++ zs ∧ Els K H ys es ∧ Els K H zs gs := by
  induction es generalizing xs with
  | nil => exact ⟨[], xs, rfl, .nil, h⟩
  | cons e es ih =>
    cases h with
    | @cons x _ xs _ a b =>
      obtain ⟨ys, zs, rfl, h1, h2⟩ := ih b
      exact ⟨x :: ys, zs, rfl, .cons a h1, h2⟩
theorem esT_found (T : Tx K mg) (one oth : V) : ∀ g ∈ (esT T one oth).take 40, g.2 = some (("found" : Str), one) := by
  intro g hg
  have e : (esT T one oth).take 40 = ((CLs T).take 40).map fun C => ee1 C "found" one := rfl
  rw [e] at hg
  obtain ⟨C, _, rfl⟩ := List.mem_map.mp hg
  rfl
theorem els_one {H : Hp} {x : V} {f : Str} {v : V} {C : Addr} {Q : VK} (h : Er1 K H x C (some (f, v))) (q : Q v H) : FxK f K Q x H := by
  cases h with
  | f h1 h2 h3 _ => exact s_fxk h1 h2 h3 q
theorem atN {ys zs : List V} {i : Int} {j : Nat} {v : V} (hi : i = (j : Int) - zs.length) (hj : j < zs.length) (e : zs[j]? = some v) : atI (ys ++ zs) i = some v := by
  have h1 : ¬ (0 ≤ i) := by omega
  have h2 : ixN (ys ++ zs).length i = some (ys.length + j) := by
    unfold ixN
    simp only [List.length_append]
    rw [if_neg (by omega)]
    split <;> first | omega | skip
    · congr 1
      omega
  unfold atI
  rw [h2]
  simp only [Option.bind_some]
  rw [List.getElem?_append_right (by omega)]
  simpa using e
theorem cutN {ys zs : List V} {n : Int} (h : n = -(zs.length : Int)) (hz : 0 < zs.length) : cutV (ys ++ zs) none (some n) = ys := by
  subst h
  unfold cutV
  have e1 : ∀ d : Nat, HT.sIx (ys ++ zs).length d (some (-(zs.length : Int))) = ys.length := fun d => by
    show (if -(zs.length : Int) < 0 then (-(zs.length : Int) + ((ys ++ zs).length : Int)).toNat else min (-(zs.length : Int)).toNat (ys ++ zs).length) = ys.length
    rw [if_pos (by omega), List.length_append]
    omega
  rw [e1, HT.sIx_none, Nat.sub_zero, List.drop_zero]
  simp
def sp_law_fields (K : PySem.W.Frag) : Sp := sp1 fun x H Q _ => ∃ (a : Addr) (ys zs : List V) (es : List Ee) (C1 C2 C3 C4 C5 C6 C7 : Addr) (one oth : V), x = .ref a ∧ H a = some (.lst (ys ++ zs)) ∧ Els K H ys es ∧ es.length = 40 ∧ (∀ g ∈ es, g.2 = some (("found" : Str), one)) ∧
  Els K H zs [ee1 C1 "many" one, ee1 C2 "row" one, ee1 C3 "number" oth, ee1 C4 "number" one, ee1 C5 "run" oth, ee0 C6, ee0 C7] ∧ ∀ l H', H' l = some (.lst (List.replicate 40 one ++ [one, one, oth, one, oth])) → Kp [] H H' → Q (.ref l) H'
set_option maxHeartbeats 16000000 in
theorem ok_law_fields (T : Tx K mg) : FnOk P w K mg base (L2.CX P w) 1 T.a_law_fields T.d_law_fields ["_law_made_here"] (sp_law_fields K) := by
  refine T.F_law_fields.okX sc_law_fields (fun vs H Q E h => ?_) (fun cd A o s H vs Q E hr h => ?_)
  · obtain ⟨v0, rfl, h⟩ := h; rfl
  obtain ⟨v0, rfl, h⟩ := h
  obtain ⟨a, ys, zs, es, C1, C2, C3, C4, C5, C6, C7, one, oth, rfl, ea, hy, h40, hf, hz, k⟩ := h
  refine ⟨_, (pss_cons (ps_setLc (i := 1) (own := [("_law_error", 2)]) rfl sc_law_fields.nd rfl rfl (sw_true rfl rfl rfl (by decide +kernel)) (pi_lst (K := K) rfl (pe_slice (sl_u (K := K) rfl) (pv 0) po_none (po_some (pe_un un_neg pe_int)))) (blkOk_by (own := [("_law_error", 2)]) (N := N_law_fields) (sc := defScope s_law_fields) (by decide +kernel)) (fun _ _ _ _ _ => (pg_name (i := 2) sc_law_fields.nd rfl (Or.inl rfl))) (fun _ _ _ _ _ => pts_nil) (fun _ _ _ _ _ => (pe_fx (K := K) rfl (pv 2) rfl)))
    (pss_one (ps_ret (pe_op (o_add (K := K) rfl) (pv 1) (pe_lst (pa_cons (pe_fx (K := K) rfl (pe_ix (ix_u (K := K) rfl) (pv 0) (pe_un un_neg pe_int) (fun _ _ => rfl)) rfl) (pa_cons (pe_fx (K := K) rfl (pe_ix (ix_u (K := K) rfl) (pv 0) (pe_un un_neg pe_int) (fun _ _ => rfl)) rfl) (pa_cons (pe_fx (K := K) rfl (pe_ix (ix_u (K := K) rfl) (pv 0) (pe_un un_neg pe_int) (fun _ _ => rfl)) rfl) (pa_cons (pe_fx (K := K) rfl (pe_ix (ix_u (K := K) rfl) (pv 0) (pe_un un_neg pe_int) (fun _ _ => rfl)) rfl) (pa_cons (pe_fx (K := K) rfl (pe_ix (ix_u (K := K) rfl) (pv 0) (pe_un un_neg pe_int) (fun _ _ => rfl)) rfl) pa_nil)))))))))), ?_⟩
  rw [st_law_fields]
  have ly : ys.length = 40 := by rw [hy.len, h40]
  cases hz with
  | cons q1 hz => cases hz with
  | cons q2 hz => cases hz with
  | cons q3 hz => cases hz with
  | cons q4 hz => cases hz with
  | cons q5 hz => cases hz with
  | cons q6 hz => cases hz with
  | cons q7 hz => cases hz with
  | nil =>
  rename_i r1 r2 r3 r4 r5 r6 r7
  walk_at "u"
  refine s_sll (SqL.of ea) fun l1 H1 f1 e1 k1 => ?_
  rw [cutN (by simp) (by simp)] at e1
  walk_at "u"
  refine s_ilst (SqL.of e1) ?_
  intro D hD
  refine lc_L e1 hD (fun i acc H' => Kp [D] H1 H' ∧ acc = List.replicate i one) (fun H2 e2 k2 => ⟨k2.nil, rfl⟩) (fun i acc H' q o e => q.1.get1 e (ne_of_none e1 hD)) ?_ ?_
  · rintro i x acc H2 ex e2 ⟨k2, rfl⟩
    have hi := (List.getElem?_eq_some_iff.mp ex).1
    obtain ⟨g, eg, er⟩ := ((hy.kp k1).kp (k2.drop hD)).at ex
    rw [hf g (List.mem_of_getElem? eg)] at er
    walk_at "u"
    refine ⟨rfl, ?_⟩
    walk_at "u"
    refine els_one er ?_
    refine PvD.add (acc := List.replicate i one) e2 (by simp; omega) fun H3 e3 k3 => ⟨k2.trans k3, ?_⟩
    rw [List.replicate_succ']
  rintro acc H2 e2 ⟨k2, rfl⟩
  rw [ly] at e2
  have k02 := k1.trans (k2.drop hD)
  have ea2 := k02.get0 ea
  clear k1 k2 e1 f1 hD
  walk_at "u"
  refine s_ixl ea2 (atN (j := 0) (by simp) (by simp) rfl) ?_
  walk_at "u"
  refine els_one (q1.kp k02) ?_
  walk_at "u"
  refine s_ixl ea2 (atN (j := 1) (by simp) (by simp) rfl) ?_
  walk_at "u"
  refine els_one (q2.kp k02) ?_
  walk_at "u"
  refine s_ixl ea2 (atN (j := 2) (by simp) (by simp) rfl) ?_
  walk_at "u"
  refine els_one (q3.kp k02) ?_
  walk_at "u"
  refine s_ixl ea2 (atN (j := 3) (by simp) (by simp) rfl) ?_
  walk_at "u"
  refine els_one (q4.kp k02) ?_
  walk_at "u"
  refine s_ixl ea2 (atN (j := 4) (by simp) (by simp) rfl) ?_
  walk_at "u"
  refine els_one (q5.kp k02) ?_
  walk_at "u"
  walk_at "na"
  intro l3 H3 f3 e3 k3
  refine s_addL (k3.get0 e2) e3 (zle (by simp)) fun l4 H4 f4 e4 k4 => ?_
  walk_at "u"
  exact k l4 _ e4 ((k02.trans k3).trans k4)

/-! the errors are right -/
theorem one_at {L : List Addr} (nd : L.Nodup) {i : Nat} {C : Addr} (h : L[i]? = some C) : (L.map fun D => V.bl (decide (C = D))) = (List.range L.length).map fun (k : Nat) => V.bl (decide ((i : Int) = 0 + (k : Int))) := by
  refine List.ext_getElem? fun k => ?_
  rw [List.getElem?_map, List.getElem?_map]
  cases e : L[k]? with
  | none =>
    have := List.getElem?_eq_none_iff.mp e
    rw [List.getElem?_eq_none (by simpa using this)]
    rfl
  | some D =>
    have hk := (List.getElem?_eq_some_iff.mp e).1
    have hi := (List.getElem?_eq_some_iff.mp h).1
    rw [List.getElem?_range hk]
    simp only [Option.map_some, Option.some.injEq, V.bl.injEq]
    by_cases c : C = D
    · subst c
      have : i = k := (List.getElem?_inj hi nd).mp (h.trans e.symm)
      rw [decide_eq_true rfl, decide_eq_true (by omega)]
    · rw [decide_eq_false c, decide_eq_false]
      intro z
      have : i = k := by omega
      subst this
      rw [h] at e
      exact c (Option.some.inj e)
theorem bls_dn {H : Hp} : ∀ bs : List Bool, DnA K H (bs.map V.bl) (bs.map PyData.bool)
  | [] => .nil
  | b :: bs => .cons (.bl b) (bls_dn bs)
theorem bls_shp : ∀ bs : List Bool, PyData.canLayAll0 (bs.map PyData.bool) = true ∧ PyData.depthAll (bs.map PyData.bool) ≤ 1
  | [] => ⟨rfl, by simp [PyData.depthAll]⟩
  | b :: bs => by
    obtain ⟨h1, h2⟩ := bls_shp bs
    refine ⟨by simp only [List.map_cons, PyData.canLayAll0, PyData.canLay0, h1, Bool.and_self], ?_⟩
    simp only [List.map_cons, PyData.depthAll, PyData.depth]
    omega
theorem bls_ok (bs : List Bool) : SeqAt.shaped (.list (bs.map PyData.bool)) = true := by
  obtain ⟨h1, h2⟩ := bls_shp bs
  unfold SeqAt.shaped
  rw [Bool.and_eq_true]
  refine ⟨by simpa only [PyData.canLay0] using h1, decide_eq_true ?_⟩
  simp only [PyData.depth]
  omega
theorem sh_all {H : Hp} {n : Nat} : ∀ {xs : List V}, (∀ x ∈ xs, ∃ d, Dn K H x d ∧ Bd d n) → ∃ ds, DnA K H xs ds ∧ goodA ds ∧ PyData.depthAll ds ≤ 90 ∧ szA ds ≤ xs.length * (n + 2)
  | [], _ => ⟨[], .nil, trivial, by simp [PyData.depthAll], by simp [szA]⟩
  | x :: xs, h => by
    obtain ⟨d, a, b⟩ := h x List.mem_cons_self
    obtain ⟨ds, a1, a2, a3, a4⟩ := sh_all (xs := xs) fun y hy => h y (List.mem_cons_of_mem _ hy)
    refine ⟨d :: ds, .cons a a1, ⟨b.good, a2⟩, ?_, ?_⟩
    · have := b.depth
      simp only [PyData.depthAll]; omega
    · have := b.sz
      simp only [szA, List.length_cons, Nat.add_mul]; omega
theorem sh_fld {H : Hp} {l1 l2 : Addr} {one oth : V} {d1 d2 : PyData} {F1 F2 : List Addr} (e1 : H l1 = some (.lst (List.replicate 40 one ++ [one, one, oth, one, oth]))) (e2 : H l2 = some (.lst (List.replicate 40 one ++ [one, one, oth, one, oth]))) (O1 : Ot K H "more" one d1 F1) (b1 : Bd d1 10000) (O2 : Ot K H "more" oth d2 F2) (b2 : Bd d2 10000) : ∃ d, Sh K H (.ref l1) d ∧ Sh K H (.ref l2) d := by
  obtain ⟨ds, a1, a2, a3, a4⟩ := sh_all (K := K) (H := H) (n := 10000) (xs := List.replicate 40 one ++ [one, one, oth, one, oth]) fun x hx => by
    have : x = one ∨ x = oth := by
      rcases List.mem_append.mp hx with hx | hx
      · exact Or.inl (List.mem_replicate.mp hx).2
      · simp only [List.mem_cons, List.not_mem_nil, or_false] at hx
        rcases hx with h | h | h | h | h <;> simp [h]
    rcases this with rfl | rfl
    · exact ⟨_, O1.dn, b1⟩
    · exact ⟨_, O2.dn, b2⟩
  have l45 : (List.replicate 40 one ++ [one, one, oth, one, oth]).length = 45 := by simp
  rw [l45] at a4
  have g : ∀ {l : Addr}, H l = some (.lst (List.replicate 40 one ++ [one, one, oth, one, oth])) → Sh K H (.ref l) (.list ds) := fun e => ⟨.lst (Or.inl e) a1, a2, by simp only [PyData.depth]; omega, by simp only [sz]; omega⟩
  exact ⟨_, g e1, g e2⟩
def sp_law_right (T : Tx K mg) : Sp := sp1 fun x H Q _ => ∃ (p : Addr) (n : Nat), x = .ref p ∧ Box H p n ∧ n ≤ 800000 ∧ ∀ H', Box H' p (n + 10) → Kp [p] H H' → Q (.bl true) H'
set_option maxHeartbeats 16000000 in
theorem ok_law_right (T : Tx K mg) (hs : ∃ mm, base.Ns sysModules mm) : FnG P w K mg base (L2.CX P w) 4 T.a_law_right T.d_law_right ["_law_box_here"] (sp_law_right T) := by
  have G_law_thing := ok_law_thing (P := P) (w := w) (base := base) T
  have G_law_made := ok_law_made (P := P) (w := w) (base := base) T
  have G_law_kinds := ok_law_kinds (P := P) (w := w) (base := base) T
  have G_law_fields := ok_law_fields (P := P) (w := w) (base := base) T
  refine okG T.F_law_right sc_law_right (fun vs H Q E h => ?_) (fun cd A o s H vs Q E hg hr h => ?_)
  · obtain ⟨v0, rfl, h⟩ := h; rfl
  obtain ⟨v0, rfl, h⟩ := h
  obtain ⟨p, nb, rfl, hB, hnb, k⟩ := h
  refine ⟨_, (pss_cons (ps_set (i := 1) sc_law_right.nd rfl (Or.inr rfl) (pe_co G_law_thing (hr.mono (by decide)) rfl T.m_law_thing T.F_law_thing.kp T.B_law_thing (takes_of (E := E) rfl rfl rfl rfl) (pa_cons (pv 0) pa_nil)))
    (pss_cons (ps_set (i := 2) sc_law_right.nd rfl (Or.inl rfl) (pe_co G_law_thing (hr.mono (by decide)) rfl T.m_law_thing T.F_law_thing.kp T.B_law_thing (takes_of (E := E) rfl rfl rfl rfl) (pa_cons (pv 0) pa_nil)))
    (pss_cons (ps_set (i := 3) sc_law_right.nd rfl (Or.inl rfl) (pe_co G_law_made (hr.mono (by decide)) rfl T.m_law_made T.F_law_made.kp T.B_law_made (takes_of (E := E) rfl rfl rfl rfl) (pa_cons (pv 1) (pa_cons (pv 2) pa_nil))))
    (pss_cons (ps_for PassesOwn.leaving rfl (pi_enumL (K := K) rfl rfl T.z_enumerate (pa_cons (pv 3) pa_nil)) (pg_tupK (K := K) (n := 2) rfl rfl (pgs_cons (pg_name (i := 4) sc_law_right.nd rfl (Or.inr rfl)) (pgs_cons (pg_name (i := 5) sc_law_right.nd rfl (Or.inl rfl)) pgs_nil)))
    (pss_cons (ps_if (pt_cmpR (o_ne (K := K) rfl hr) (pe_co G_law_kinds (hr.mono (by decide)) rfl T.m_law_kinds T.F_law_kinds.kp T.B_law_kinds (takes_of (E := E) rfl rfl rfl rfl) (pa_cons (pv 5) pa_nil)) (pe_lc (own := [("_law_k", 8)]) rfl sc_law_right.nd (pi_range1 rfl T.z_range (pa_cons (pe_callB (c_len (K := K) rfl) rfl T.z_len bt_len (pa_cons (pv 3) pa_nil)) pa_nil)) (blkOk_by (own := [("_law_k", 8)]) (N := N_law_right) (sc := defScope s_law_right) (by decide +kernel)) (fun _ _ _ _ _ => (pg_name (i := 8) sc_law_right.nd rfl (Or.inl rfl))) (fun _ _ _ _ _ => pts_nil) (fun _ _ _ _ _ => (pe_cmpR (o_eq (K := K) rfl hr) (pv 4) (pv 8) (nomark _)))) (nomark _))
    (pss_one (ps_ret pe_bl))
    pss_nil)
    (pss_one (ps_if (PW.pt (pw_or (pt_not (pt_val (pe_callB (c_isXK (K := K) rfl) rfl T.z_isinstance bt_isinstance (pa_cons (pv 5) (pa_cons (pe_glob rfl T.m_StaffError (show RelV (V.ref T.C_StaffError) (Value.ref T.C_StaffError) from rfl)) pa_nil))))) (pw_or1 (pt_not (pt_val (pe_callB (c_isXK (K := K) rfl) rfl T.z_isinstance bt_isinstance (pa_cons (pv 5) (pa_cons (pe_ty rfl T.z_ValueError bt_ValueError) pa_nil))))))))
    (pss_one (ps_ret pe_bl))
    pss_nil))))
    (pss_cons (ps_set (i := 6) sc_law_right.nd rfl (Or.inl rfl) (pe_op (o_add (K := K) rfl) (pe_lc (own := [("_law_error", 5)]) rfl sc_law_right.nd (pi_lst (K := K) rfl (pe_slice (sl_u (K := K) rfl) (pv 3) po_none (po_some (pe_un un_neg pe_int)))) (blkOk_by (own := [("_law_error", 5)]) (N := N_law_right) (sc := defScope s_law_right) (by decide +kernel)) (fun _ _ _ _ _ => (pg_name (i := 5) sc_law_right.nd rfl (Or.inl rfl))) (fun _ _ _ _ _ => pts_nil) (fun _ _ _ _ _ => (pv 1))) (pe_lst (pa_cons (pv 1) (pa_cons (pv 1) (pa_cons (pv 2) (pa_cons (pv 1) (pa_cons (pv 2) pa_nil))))))))
    (pss_cons (ps_for PassesOwn.leaving rfl (pi_lst (K := K) rfl (pe_lst (pa_cons (pv 1) (pa_cons (pv 2) pa_nil)))) (pg_name (i := 7) sc_law_right.nd rfl (Or.inl rfl))
    (pss_cons (ps_if (pt_cmpR (o_ne (K := K) rfl hr) (pe_callB (c_repr (K := K) rfl hg hr hs) rfl T.z_repr bt_repr (pa_cons (pe_co G_law_fields (hr.mono (by decide)) rfl T.m_law_fields T.F_law_fields.kp T.B_law_fields (takes_of (E := E) rfl rfl rfl rfl) (pa_cons (pv 3) pa_nil)) pa_nil)) (pe_callB (c_repr (K := K) rfl hg hr hs) rfl T.z_repr bt_repr (pa_cons (pv 6) pa_nil)) (nomark _))
    (pss_one (ps_ret pe_bl))
    pss_nil)
    (pss_cons (ps_if (pt_val (pe_callB (c_isXK (K := K) rfl) rfl T.z_isinstance bt_isinstance (pa_cons (pv 7) (pa_cons (pe_ty rfl T.z_list bt_list) pa_nil))))
    (pss_one (ps_expr (pe_bm PySem.F.plainAttrs_list PySem.F.slot_list_append PySem.F.type_list_append mt_append (pv 7) (pa_cons pe_str pa_nil))))
    pss_nil)
    (pss_one (ps_if (pt_val (pe_callB (c_isXK (K := K) rfl) rfl T.z_isinstance bt_isinstance (pa_cons (pv 7) (pa_cons (pe_ty rfl T.z_dict bt_dict) pa_nil))))
    (pss_one (ps_asg pe_int (pg_sub (pv 7) pe_str (set_u hr))))
    pss_nil)))))
    (pss_one (ps_ret (pe_cmpR (o_eq (K := K) rfl hr) (pe_callB (c_repr (K := K) rfl hg hr hs) rfl T.z_repr bt_repr (pa_cons (pe_co G_law_fields (hr.mono (by decide)) rfl T.m_law_fields T.F_law_fields.kp T.B_law_fields (takes_of (E := E) rfl rfl rfl rfl) (pa_cons (pv 3) pa_nil)) pa_nil)) (pe_callB (c_repr (K := K) rfl hg hr hs) rfl T.z_repr bt_repr (pa_cons (pv 6) pa_nil)) (nomark _)))))))))), ?_⟩
  rw [st_law_right]
  walk_at "u"
  refine ⟨_, rfl, p, nb, rfl, hB, by omega, fun one d1 F1 H1 o1 np1 B1 k1 => ?_⟩
  walk_at "u"
  refine ⟨_, rfl, p, nb + 2, rfl, B1, by omega, fun oth d2 F2 H2 o2 np2 B2 k2 => ?_⟩
  have dj1 : ∀ a ∈ F1, a ∉ F2 := fun a h1 h2 => by
    obtain ⟨_, i, t⟩ := o1.fr a h1
    exact t.ne (o2.fr a h2).1 rfl
  have dj2 : ∀ a ∈ F2, a ∉ F1 := fun a h2 h1 => dj1 a h1 h2
  have fF : ∀ a ∈ F1 ++ F2, H a = none := fun a h => (List.mem_append.mp h).elim (fun h => (o1.fr a h).1) fun h => k1.dom _ (o2.fr a h).1
  have o1 := o1.kpn k2 (by simpa using np1)
  have k02 := k1.trans k2
  have nF : ∀ {a : Addr} {H' : Hp}, Kp [] H2 H' → H' a = none → a ∉ F1 ++ F2 := fun kk h m => (List.mem_append.mp m).elim (fun m => o1.nm (kk.dom _ h) m) fun m => o2.nm (kk.dom _ h) m
  walk_at "u"
  refine ⟨_, _, rfl, fun l xs H3 fl el hE k3 => ?_⟩
  have lx : xs.length = 47 := hE.len
  walk_at "u"
  refine for_eL el (fun i σ H' => Kp [] H3 H' ∧ ∃ u4 u5, σ = [some (.ref p), some one, some oth, some (.ref l), u4, u5, none, none, none]) ⟨Kp.refl, _, _, rfl⟩ (fun i σ' H' q o e => q.1.get0 e) ?_ ?_
  · rintro i x σ H4 T5 H5 ex ⟨k4, u4, u5, rfl⟩ f5 e5 k5
    have k35 := k4.trans k5
    obtain ⟨g, eg, er⟩ := (hE.kp k35).at ex
    obtain ⟨a, rfl, hg, hX⟩ := er.eg
    have hC : (CLs T)[i]? = some g.1 := by rw [← esT_1 T one oth, List.getElem?_map, eg]; rfl
    have mC := List.mem_of_getElem? hC
    walk_at "u"
    refine ⟨_, rfl, a, g.1, fun C => decide (g.1 = C), rfl, hg, hX, fun C hC' => T.tab.one _ mC _ hC', fun l6 H6 e6 k6 => ?_⟩
    have k36 := k35.trans k6
    walk_at "u"
    refine s_lenl (k36.get0 el) ?_
    rw [lx]
    refine s_rng (by omega) (by omega) ?_
    intro D hD
    refine lc_R hD (fun j acc H' => Kp [D] H6 H' ∧ acc = (List.range j).map fun (k : Nat) => V.bl (decide ((i : Int) = 0 + (k : Int)))) (fun H7 e7 k7 => ⟨k7.nil, rfl⟩) ?_ ?_
    · rintro j acc H7 hj e7 ⟨k7, rfl⟩
      have hj : j < 47 := hj
      walk_at "u"
      refine ⟨rfl, ?_⟩
      walk_at "u"
      refine PvD.add e7 (by simp; omega) fun H8 e8 k8 => ⟨k7.trans k8, ?_⟩
      rw [List.range_succ, List.map_append]
      rfl
    rintro acc H7 e7 ⟨k7, rfl⟩
    have k67 : Kp [] H6 H7 := k7.drop hD
    have e67 : H7 l6 = some (.lst ((CLs T).map fun D => V.bl (decide (g.1 = D)))) := k67.get0 e6
    have nd : (CLs T).Nodup := T.tab.nd
    rw [one_at nd hC] at e67
    have hl : (CLs T).length = 47 := rfl
    rw [hl] at e67
    have d7 := bls_dn (K := K) (H := H7) ((List.range 47).map fun (k : Nat) => decide ((i : Int) = 0 + (k : Int)))
    rw [List.map_map] at d7
    refine s_neR (.lst (Or.inl e67) d7) (.lst (Or.inl e7) d7) (bls_ok _) ?_
    walk_at "u"
    have hg7 := (hg.kp k6).kp k67
    refine s_isX hg7 hX (T.tab.up _ mC) ?_
    walk_at "u"
    refine s_isXt hg7 hX (T.tab.ve _ mC) ?_
    walk_at "u"
    exact ⟨k36.trans k67, _, _, rfl⟩
  rintro σ H4 ⟨k4, u4, u5, rfl⟩
  have hE4 := hE.kp k4
  have el4 := k4.get0 el
  have k24 := k3.trans k4
  clear hE el k3 k4 lx
  have hE' : Els K H4 xs (((CLs T).take 40).map (fun C => ee1 C "found" one) ++ [ee1 T.C_TooMany "many" one, ee1 T.C_NoText "row" one, ee1 T.C_Gap "number" oth, ee1 T.C_NotSo "number" one, ee1 T.C_NoTrip "run" oth, ee0 T.C_NoStart, ee0 T.C_NoBack]) := hE4
  clear hE4
  obtain ⟨ys, zs, rfl, hy, hz⟩ := els_split hE'
  have hf : ∀ g ∈ ((CLs T).take 40).map (fun C => ee1 C "found" one), g.2 = some (("found" : Str), one) := fun g hg => by
    obtain ⟨C, _, rfl⟩ := List.mem_map.mp hg
    rfl
  have h40 : (((CLs T).take 40).map (fun C => ee1 C "found" one)).length = 40 := rfl
  have ly : ys.length = 40 := by rw [hy.len, h40]
  have lz : zs.length = 7 := hz.len
  generalize ((CLs T).take 40).map (fun C => ee1 C "found" one) = es at hy hf h40
  clear hE'
  walk_at "u"
  refine s_sll (SqL.of el4) fun l5 H5 f5 e5 k5 => ?_
  rw [cutN (by rw [lz]; rfl) (by omega)] at e5
  walk_at "u"
  refine s_ilst (SqL.of e5) ?_
  intro D hD
  refine lc_L e5 hD (fun i acc H' => Kp [D] H5 H' ∧ acc = List.replicate i one) (fun H6 e6 k6 => ⟨k6.nil, rfl⟩) (fun i acc H' q o e => q.1.get1 e (ne_of_none e5 hD)) ?_ ?_
  · rintro i x acc H6 ex e6 ⟨k6, rfl⟩
    have hi := (List.getElem?_eq_some_iff.mp ex).1
    walk_at "u"
    refine ⟨rfl, ?_⟩
    walk_at "u"
    refine PvD.add (acc := List.replicate i one) e6 (by simp; omega) fun H7 e7 k7 => ⟨k6.trans k7, ?_⟩
    rw [List.replicate_succ']
  rintro acc H6 e6 ⟨k6, rfl⟩
  rw [ly] at e6
  have k46 := k5.trans (k6.drop hD)
  walk_at "u"
  walk_at "na"
  intro l7 H7 f7 e7 k7
  refine s_addL (k7.get0 e6) e7 (zle (by simp)) fun l8 H8 f8 e8 k8 => ?_
  walk_at "u"
  walk_at "na"
  intro l9 H9 f9 e9 k9
  have k28 := ((k24.trans k46).trans k7)
  have nl8 := nF k28 f8
  have nl9 := nF (k28.trans k8) f9
  have k49 := ((k46.trans k7).trans k8).trans k9
  have k29 := k24.trans k49
  have e89 := k9.get0 e8
  have el9 := k49.get0 el4
  have hy := hy.kp k49
  have hz := hz.kp k49
  have o1 := o1.kp k29
  have o2 := o2.kp k29
  have B9 := B2.kpn k29 (by simp)
  have np : p ∉ F1 ++ F2 := by simp [np1, np2]
  have nll : l ∉ F1 ++ F2 := nF Kp.refl fl
  have z9 : Kp [p] H H9 := k02.trans k29.nil
  clear k5 k6 k7 k8 k9 e5 e6 e7 e8 f5 f7 f8 f9 hD k24 k46 k28 k49 k29 el4 B2
  walk_at "u"
  refine s_ilst (SqL.of e9) ?_
  refine for_L e9 (fun i σ H' => Kp (F1 ++ F2) H9 H' ∧ (∃ d1 d2, Ot K H' "more" one d1 F1 ∧ Bd d1 (3000 + 600 * i) ∧ Ot K H' "more" oth d2 F2 ∧ Bd d2 (3000 + 600 * i)) ∧ Els K H' ys es ∧ Els K H' zs _ ∧ ∃ u6 u7, σ = [some (.ref p), some one, some oth, some (.ref l), u4, u5, some (.ref l8), u6, u7]) ⟨Kp.refl, ⟨d1, d2, o1.ot, o1.bd, o2.ot, o2.bd⟩, hy, hz, _, _, rfl⟩ (fun i σ' H' q o e => q.1.get e nl9) ?_ ?_
  · rintro i x σ H10 ex ⟨k10, ⟨d1, d2, O1, b1, O2, b2⟩, hy, hz, u6, u7, rfl⟩
    have hi : i < 2 := (List.getElem?_eq_some_iff.mp ex).1
    have el10 := k10.get el9 nll
    have e810 := k10.get e89 nl8
    walk_at "u"
    refine ⟨_, rfl, l, ys, zs, es, _, _, _, _, _, _, _, one, oth, rfl, el10, hy, h40, hf, hz, fun l11 H11 e11 k11' => ?_⟩
    have O1 := O1.kp k11'
    have O2 := O2.kp k11'
    have hy := hy.kp k11'
    have hz := hz.kp k11'
    have k11 := k10.trans (k11'.nil (ps := F1 ++ F2))
    obtain ⟨dd, s1, s2⟩ := sh_fld e11 (k11'.get0 e810) O1 (b1.mono (by omega)) O2 (b2.mono (by omega))
    walk_at "u"
    refine s_rep s1 ?_
    walk_at "u"
    refine s_rep s2 ?_
    walk_at "u"
    generalize dd.shown = sw
    rw [decide_eq_true rfl]
    clear s1 s2 e11 k10 k11' el10 e810
    match i, hi, ex with
    | 0, _, ex =>
      have hx := Option.some.inj ex
      subst hx
      have ho := O2
      rcases O1.cs more20 with ⟨kd, ty, c1, c2⟩ | ⟨a, xs', e1, ma, ea, hl, hs'⟩ | ⟨a, kvs, e1, ma, ea, hl, hs'⟩
      · walk_at "u"
        refine s_isXo ?_
        walk_at "u"
        refine s_itF c1 ?_
        walk_at "u"
        refine s_isXo ?_
        walk_at "u"
        refine s_itF c2 ?_
        walk_at "u"
        exact ⟨k11, ⟨d1, d2, O1, b1.mono (by omega), O2, b2.mono (by omega)⟩, hy, hz, _, _, rfl⟩
      · have := hl _ b1
        have na : ∀ b ∈ [a], b ∉ F2 := fun b hb => by rw [List.mem_singleton.mp hb]; exact dj1 a ma
        have e1' : one = .ref a := e1
        subst e1'
        walk_at "u"
        refine s_isXo ?_
        walk_at "u"
        refine s_app ea (zlt (by omega)) fun H12 e12 k12 => ?_
        obtain ⟨d5, O5, hb5⟩ := hs' (.str "more") (.str "more") H12 (fun _ => .str _) e12 k12
        have b5 := hb5 _ _ b1 (Bd.str more20) (by simp [PyData.depth])
        have ho := O2.kpn k12 na
        walk_at "u"
        refine s_isXo ?_
        walk_at "u"
        exact ⟨k11.trans (k12.mono (by simp [ma])), ⟨d5, d2, O5, b5.mono (by omega), ho, b2.mono (by omega)⟩, hy.put k12 ea (by simp), hz.put k12 ea (by simp), _, _, rfl⟩
      · have := hl _ b1
        have na : ∀ b ∈ [a], b ∉ F2 := fun b hb => by rw [List.mem_singleton.mp hb]; exact dj1 a ma
        have e1' : one = .ref a := e1
        subst e1'
        walk_at "u"
        refine s_isXo ?_
        walk_at "u"
        refine s_isXo ?_
        walk_at "u"
        refine s_uds ea (zlt (by omega)) rfl fun H12 e12 k12 => ?_
        obtain ⟨d5, O5, hb5⟩ := hs' (.int 5) (.int 5) H12 (fun _ => .int 5) e12 k12
        have b5 := hb5 _ _ b1 (Bd.int (by decide +kernel)) (by simp [PyData.depth])
        have ho := O2.kpn k12 na
        walk_at "u"
        exact ⟨k11.trans (k12.mono (by simp [ma])), ⟨d5, d2, O5, b5.mono (by omega), ho, b2.mono (by omega)⟩, hy.put k12 ea (by simp), hz.put k12 ea (by simp), _, _, rfl⟩
    | 1, _, ex =>
      have hx := Option.some.inj ex
      subst hx
      have ho := O1
      rcases O2.cs more20 with ⟨kd, ty, c1, c2⟩ | ⟨a, xs', e1, ma, ea, hl, hs'⟩ | ⟨a, kvs, e1, ma, ea, hl, hs'⟩
      · walk_at "u"
        refine s_isXo ?_
        walk_at "u"
        refine s_itF c1 ?_
        walk_at "u"
        refine s_isXo ?_
        walk_at "u"
        refine s_itF c2 ?_
        walk_at "u"
        exact ⟨k11, ⟨d1, d2, O1, b1.mono (by omega), O2, b2.mono (by omega)⟩, hy, hz, _, _, rfl⟩
      · have := hl _ b2
        have na : ∀ b ∈ [a], b ∉ F1 := fun b hb => by rw [List.mem_singleton.mp hb]; exact dj2 a ma
        have e1' : oth = .ref a := e1
        subst e1'
        walk_at "u"
        refine s_isXo ?_
        walk_at "u"
        refine s_app ea (zlt (by omega)) fun H12 e12 k12 => ?_
        obtain ⟨d5, O5, hb5⟩ := hs' (.str "more") (.str "more") H12 (fun _ => .str _) e12 k12
        have b5 := hb5 _ _ b2 (Bd.str more20) (by simp [PyData.depth])
        have ho := O1.kpn k12 na
        walk_at "u"
        refine s_isXo ?_
        walk_at "u"
        exact ⟨k11.trans (k12.mono (by simp [ma])), ⟨d1, d5, ho, b1.mono (by omega), O5, b5.mono (by omega)⟩, hy.put k12 ea (by simp), hz.put k12 ea (by simp), _, _, rfl⟩
      · have := hl _ b2
        have na : ∀ b ∈ [a], b ∉ F1 := fun b hb => by rw [List.mem_singleton.mp hb]; exact dj2 a ma
        have e1' : oth = .ref a := e1
        subst e1'
        walk_at "u"
        refine s_isXo ?_
        walk_at "u"
        refine s_isXo ?_
        walk_at "u"
        refine s_uds ea (zlt (by omega)) rfl fun H12 e12 k12 => ?_
        obtain ⟨d5, O5, hb5⟩ := hs' (.int 5) (.int 5) H12 (fun _ => .int 5) e12 k12
        have b5 := hb5 _ _ b2 (Bd.int (by decide +kernel)) (by simp [PyData.depth])
        have ho := O1.kpn k12 na
        walk_at "u"
        exact ⟨k11.trans (k12.mono (by simp [ma])), ⟨d1, d5, ho, b1.mono (by omega), O5, b5.mono (by omega)⟩, hy.put k12 ea (by simp), hz.put k12 ea (by simp), _, _, rfl⟩
  rintro σ H10 ⟨k10, ⟨d1, d2, O1, b1, O2, b2⟩, hy, hz, u6, u7, rfl⟩
  have b1 : Bd d1 10000 := b1.mono (by simp)
  have b2 : Bd d2 10000 := b2.mono (by simp)
  walk_at "u"
  refine ⟨_, rfl, l, ys, zs, es, _, _, _, _, _, _, _, one, oth, rfl, k10.get el9 nll, hy, h40, hf, hz, fun l11 H11 e11 k11 => ?_⟩
  obtain ⟨dd, s1, s2⟩ := sh_fld e11 (k11.get0 (k10.get e89 nl8)) (O1.kp k11) b1 (O2.kp k11) b2
  walk_at "u"
  refine s_rep s1 ?_
  walk_at "u"
  refine s_rep s2 ?_
  walk_at "u"
  rw [decide_eq_true rfl]
  have k911 : Kp (F1 ++ F2) H9 H11 := k10.trans k11.nil
  exact k H11 ((B9.kpn k911 np).more (by omega)) (Kp.step z9 k911 fun q hq => Or.inr (fF q hq))
def sp_law (K : PySem.W.Frag) : Sp := sp1 fun x H Q _ => ∃ (a : Addr) (ns : List Int), x = .ref a ∧ SqL K H a (ns.map V.int) ∧ ns.length ≤ 63 ∧ ∀ H', Q (.bl true) H'
set_option maxHeartbeats 16000000 in
theorem ok_law (T : Tx K mg) (hs : ∃ mm, base.Ns sysModules mm) : FnG P w K mg base (L2.CX P w) 5 T.a_law T.d_law ["_law_script"] (sp_law K) := by
  have G_law_box := ok_law_box (P := P) (w := w) (base := base) T
  have G_law_cell := ok_law_cell (P := P) (w := w) (base := base) T
  have G_law_kinds := ok_law_kinds (P := P) (w := w) (base := base) T
  have G_law_right := ok_law_right (P := P) (w := w) (base := base) T hs
  refine okG T.F_law sc_law (fun vs H Q E h => ?_) (fun cd A o s H vs Q E hg hr h => ?_)
  · obtain ⟨v0, rfl, h⟩ := h; rfl
  obtain ⟨v0, rfl, h⟩ := h
  obtain ⟨a, ns, rfl, hS, hl63, k⟩ := h
  refine ⟨_, (pss_cons (ps_for PassesOwn.leaving rfl (pi_range1 rfl T.z_range (pa_cons (pe_callB (c_max rfl) rfl T.z_max bt_max (pa_cons pe_int (pa_cons (pe_callB (c_min rfl) rfl T.z_min bt_min (pa_cons pe_int (pa_cons (pe_callB (c_len (K := K) rfl) rfl T.z_len bt_len (pa_cons (pv 0) pa_nil)) pa_nil))) pa_nil))) pa_nil)) (pg_name (i := 1) sc_law.nd rfl (Or.inl rfl))
    (pss_cons (ps_set (i := 3) sc_law.nd rfl (Or.inl rfl) (pe_co G_law_box (hr.mono (by decide)) rfl T.m_law_box T.F_law_box.kp T.B_law_box (takes_of (E := E) rfl rfl rfl rfl) (pa_cons (pe_co G_law_cell (hr.mono (by decide)) rfl T.m_law_cell T.F_law_cell.kp T.B_law_cell (takes_of (E := E) rfl rfl rfl rfl) (pa_cons (pv 0) (pa_cons (pv 1) pa_nil))) pa_nil)))
    (pss_one (ps_if (PW.pt (pw_or (pt_not (pt_val (pe_cg G_law_right hg (hr.mono (by decide)) rfl T.m_law_right T.F_law_right.kp T.B_law_right (takes_of (E := E) rfl rfl rfl rfl) (pa_cons (pv 3) pa_nil)))) (pw_or1 (pt_not (pt_val (pe_cg G_law_right hg (hr.mono (by decide)) rfl T.m_law_right T.F_law_right.kp T.B_law_right (takes_of (E := E) rfl rfl rfl rfl) (pa_cons (pv 3) pa_nil)))))))
    (pss_one (ps_ret pe_bl))
    pss_nil))))
    (pss_cons (ps_set (i := 2) sc_law.nd rfl (Or.inl rfl) (pe_ny PySem.F.excBase_ValueError T.xs_StaffError rfl T.m_StaffError T.kc_StaffError pe_str))
    (pss_one (ps_ret (pe_and (pe_callB (c_isXK (K := K) rfl) rfl T.z_isinstance bt_isinstance (pa_cons (pv 2) (pa_cons (pe_ty rfl T.z_ValueError bt_ValueError) pa_nil))) (pe_one (pe_cmpR (o_notin (K := K) rfl) pe_bl (pe_co G_law_kinds (hr.mono (by decide)) rfl T.m_law_kinds T.F_law_kinds.kp T.B_law_kinds (takes_of (E := E) rfl rfl rfl rfl) (pa_cons (pv 2) pa_nil)) rfl))))))), ?_⟩
  rw [st_law]
  walk_at "u"
  refine s_lenL hS ?_
  walk_at "u"
  rw [List.length_map]
  obtain ⟨j, ej, hj2, hj⟩ := many_j ns.length 2 3 (by omega) (by omega)
  rw [ej]
  refine s_rng (by omega) (by omega) ?_
  refine for_R (fun i σ H' => Kp [] H H' ∧ ∃ u1 u3, σ = [some (.ref a), u1, none, u3]) ⟨Kp.refl, _, _, rfl⟩ ?_ ?_
  · rintro i σ H2 hi ⟨z2, u1, u2, rfl⟩
    walk_at "u"
    walk_at "cl"
    intro q0
    walk_at "u"
    refine c_box fun p H3 f3 k3 B3 => ?_
    walk_at "u"
    refine ⟨_, rfl, p, 0, rfl, B3, by omega, fun H4 B4 k4 => ?_⟩
    walk_at "u"
    refine ⟨_, rfl, p, 0 + 10, rfl, B4, by omega, fun H5 B5 k5 => ?_⟩
    walk_at "u"
    exact ⟨z2.trans (Kp.step Kp.refl ((k3.nil.trans k4).trans k5) (by intro q hq; rw [List.mem_singleton.mp hq]; exact Or.inr f3)), _, _, rfl⟩
  · rintro σ H2 ⟨z2, u1, u2, rfl⟩
    walk_at "u"
    refine fun b fb => ?_
    have e3 : upd H2 b (ExO (.ref T.C_StaffError) b) b = some (ExO (.ref T.C_StaffError) b) := upd_same
    have k3 : Kp [] H2 (upd H2 b (ExO (.ref T.C_StaffError) b)) := Kp.refl.new fb
    generalize upd H2 b (ExO (.ref T.C_StaffError) b) = H3 at e3 k3 ⊢
    walk_at "u"
    refine s_isXt (.o e3) T.ec_StaffError T.tab.vs ?_
    walk_at "u"
    refine ⟨_, rfl, b, T.C_StaffError, fun _ => false, rfl, .o e3, T.ec_StaffError, fun C hC => T.tab.no C hC, fun l4 H4 e4 k4 => ?_⟩
    walk_at "u"
    have hv : inV (.bl true) ((CLs T).map fun _ => V.bl false) = false := (show inV (.bl true) (List.replicate 47 (V.bl false)) = false by decide +kernel)
    refine Or.inr ⟨l4, _, rfl, Or.inl (SqL.of e4), rfl, rfl, ?_⟩
    rw [hv]
    walk_at "u"
    exact k _

theorem all_mk {l : PySem.W.OpenLaw} {wW : World} {K : PySem.W.Frag} {h : Heap} {mg : Str → Option Value} {fa : Addr} (X : K.In h) (G : h.Ns mainGlobals mg) (hfa : mg "law" = some (.ref fa))
    {C_NoName : Addr} (n_NoName : PySem.W.nsIn K mainGlobals "NoName" = some (some (.ref C_NoName)))
    {C_NoPlace : Addr} (n_NoPlace : PySem.W.nsIn K mainGlobals "NoPlace" = some (some (.ref C_NoPlace)))
    {C_NoTrain : Addr} (n_NoTrain : PySem.W.nsIn K mainGlobals "NoTrain" = some (some (.ref C_NoTrain)))
    {C_NoTrains : Addr} (n_NoTrains : PySem.W.nsIn K mainGlobals "NoTrains" = some (some (.ref C_NoTrains)))
    {C_NoEnds : Addr} (n_NoEnds : PySem.W.nsIn K mainGlobals "NoEnds" = some (some (.ref C_NoEnds)))
    {C_NoStretch : Addr} (n_NoStretch : PySem.W.nsIn K mainGlobals "NoStretch" = some (some (.ref C_NoStretch)))
    {C_NoLong : Addr} (n_NoLong : PySem.W.nsIn K mainGlobals "NoLong" = some (some (.ref C_NoLong)))
    {C_NoPlaces : Addr} (n_NoPlaces : PySem.W.nsIn K mainGlobals "NoPlaces" = some (some (.ref C_NoPlaces)))
    {C_NoStretches : Addr} (n_NoStretches : PySem.W.nsIn K mainGlobals "NoStretches" = some (some (.ref C_NoStretches)))
    {C_NoLongs : Addr} (n_NoLongs : PySem.W.nsIn K mainGlobals "NoLongs" = some (some (.ref C_NoLongs)))
    {C_NoNumber : Addr} (n_NoNumber : PySem.W.nsIn K mainGlobals "NoNumber" = some (some (.ref C_NoNumber)))
    {C_NoThing : Addr} (n_NoThing : PySem.W.nsIn K mainGlobals "NoThing" = some (some (.ref C_NoThing)))
    {C_NoKind : Addr} (n_NoKind : PySem.W.nsIn K mainGlobals "NoKind" = some (some (.ref C_NoKind)))
    {C_NoWord : Addr} (n_NoWord : PySem.W.nsIn K mainGlobals "NoWord" = some (some (.ref C_NoWord)))
    {C_NoDeed : Addr} (n_NoDeed : PySem.W.nsIn K mainGlobals "NoDeed" = some (some (.ref C_NoDeed)))
    {C_NoWay : Addr} (n_NoWay : PySem.W.nsIn K mainGlobals "NoWay" = some (some (.ref C_NoWay)))
    {C_NoUse : Addr} (n_NoUse : PySem.W.nsIn K mainGlobals "NoUse" = some (some (.ref C_NoUse)))
    {C_NoBooks : Addr} (n_NoBooks : PySem.W.nsIn K mainGlobals "NoBooks" = some (some (.ref C_NoBooks)))
    {C_NoRows : Addr} (n_NoRows : PySem.W.nsIn K mainGlobals "NoRows" = some (some (.ref C_NoRows)))
    {C_NoMove : Addr} (n_NoMove : PySem.W.nsIn K mainGlobals "NoMove" = some (some (.ref C_NoMove)))
    {C_NoRuns : Addr} (n_NoRuns : PySem.W.nsIn K mainGlobals "NoRuns" = some (some (.ref C_NoRuns)))
    {C_NoRun : Addr} (n_NoRun : PySem.W.nsIn K mainGlobals "NoRun" = some (some (.ref C_NoRun)))
    {C_NoLine : Addr} (n_NoLine : PySem.W.nsIn K mainGlobals "NoLine" = some (some (.ref C_NoLine)))
    {C_NoState : Addr} (n_NoState : PySem.W.nsIn K mainGlobals "NoState" = some (some (.ref C_NoState)))
    {C_Twice : Addr} (n_Twice : PySem.W.nsIn K mainGlobals "Twice" = some (some (.ref C_Twice)))
    {C_NotHere : Addr} (n_NotHere : PySem.W.nsIn K mainGlobals "NotHere" = some (some (.ref C_NotHere)))
    {C_NotIn : Addr} (n_NotIn : PySem.W.nsIn K mainGlobals "NotIn" = some (some (.ref C_NotIn)))
    {C_NotHeld : Addr} (n_NotHeld : PySem.W.nsIn K mainGlobals "NotHeld" = some (some (.ref C_NotHeld)))
    {C_NotHelped : Addr} (n_NotHelped : PySem.W.nsIn K mainGlobals "NotHelped" = some (some (.ref C_NotHelped)))
    {C_Full : Addr} (n_Full : PySem.W.nsIn K mainGlobals "Full" = some (some (.ref C_Full)))
    {C_Lacks : Addr} (n_Lacks : PySem.W.nsIn K mainGlobals "Lacks" = some (some (.ref C_Lacks)))
    {C_Shut : Addr} (n_Shut : PySem.W.nsIn K mainGlobals "Shut" = some (some (.ref C_Shut)))
    {C_Held : Addr} (n_Held : PySem.W.nsIn K mainGlobals "Held" = some (some (.ref C_Held)))
    {C_NotClear : Addr} (n_NotClear : PySem.W.nsIn K mainGlobals "NotClear" = some (some (.ref C_NotClear)))
    {C_NoTickets : Addr} (n_NoTickets : PySem.W.nsIn K mainGlobals "NoTickets" = some (some (.ref C_NoTickets)))
    {C_NoRight : Addr} (n_NoRight : PySem.W.nsIn K mainGlobals "NoRight" = some (some (.ref C_NoRight)))
    {C_NotShut : Addr} (n_NotShut : PySem.W.nsIn K mainGlobals "NotShut" = some (some (.ref C_NotShut)))
    {C_Taken : Addr} (n_Taken : PySem.W.nsIn K mainGlobals "Taken" = some (some (.ref C_Taken)))
    {C_Boxed : Addr} (n_Boxed : PySem.W.nsIn K mainGlobals "Boxed" = some (some (.ref C_Boxed)))
    {C_Silent : Addr} (n_Silent : PySem.W.nsIn K mainGlobals "Silent" = some (some (.ref C_Silent)))
    {C_TooMany : Addr} (n_TooMany : PySem.W.nsIn K mainGlobals "TooMany" = some (some (.ref C_TooMany)))
    {C_NoText : Addr} (n_NoText : PySem.W.nsIn K mainGlobals "NoText" = some (some (.ref C_NoText)))
    {C_Gap : Addr} (n_Gap : PySem.W.nsIn K mainGlobals "Gap" = some (some (.ref C_Gap)))
    {C_NotSo : Addr} (n_NotSo : PySem.W.nsIn K mainGlobals "NotSo" = some (some (.ref C_NotSo)))
    {C_NoTrip : Addr} (n_NoTrip : PySem.W.nsIn K mainGlobals "NoTrip" = some (some (.ref C_NoTrip)))
    {C_NoStart : Addr} (n_NoStart : PySem.W.nsIn K mainGlobals "NoStart" = some (some (.ref C_NoStart)))
    {C_NoBack : Addr} (n_NoBack : PySem.W.nsIn K mainGlobals "NoBack" = some (some (.ref C_NoBack)))
    {C_StaffError : Addr} (n_StaffError : PySem.W.nsIn K mainGlobals "StaffError" = some (some (.ref C_StaffError)))
    {f1 : Addr} {od1 an1 : Option Addr} {sl1 : Array (Option Value)} {oc1 kV1 dc1 pm1 cd1 ct1 : Value}
    (a1 : PySem.W.findIn K (.ref C_NoName) "__init__" = some (some (.ref f1)))
    (l1 : K.lookup f1 = some ⟨oc1, od1, .func (PySem.W.fnOf "__init__" "NoName.__init__" (defArgs s_NoName_init) (defBody s_NoName_init) (defScope s_NoName_init) .none kV1 dc1 pm1 an1 cd1 ct1), sl1⟩) (c1 : PySem.W.codeIn K cd1 "NoName.__init__" = true) (k1 : PySem.W.keepIn K (.ref f1) = true)
    {f2 : Addr} {od2 an2 : Option Addr} {sl2 : Array (Option Value)} {oc2 kV2 dc2 pm2 cd2 ct2 : Value}
    (a2 : PySem.W.findIn K (.ref C_NoPlace) "__init__" = some (some (.ref f2)))
    (l2 : K.lookup f2 = some ⟨oc2, od2, .func (PySem.W.fnOf "__init__" "NoPlace.__init__" (defArgs s_NoPlace_init) (defBody s_NoPlace_init) (defScope s_NoPlace_init) .none kV2 dc2 pm2 an2 cd2 ct2), sl2⟩) (c2 : PySem.W.codeIn K cd2 "NoPlace.__init__" = true) (k2 : PySem.W.keepIn K (.ref f2) = true)
    {f3 : Addr} {od3 an3 : Option Addr} {sl3 : Array (Option Value)} {oc3 kV3 dc3 pm3 cd3 ct3 : Value}
    (a3 : PySem.W.findIn K (.ref C_NoTrain) "__init__" = some (some (.ref f3)))
    (l3 : K.lookup f3 = some ⟨oc3, od3, .func (PySem.W.fnOf "__init__" "NoTrain.__init__" (defArgs s_NoTrain_init) (defBody s_NoTrain_init) (defScope s_NoTrain_init) .none kV3 dc3 pm3 an3 cd3 ct3), sl3⟩) (c3 : PySem.W.codeIn K cd3 "NoTrain.__init__" = true) (k3 : PySem.W.keepIn K (.ref f3) = true)
    {f4 : Addr} {od4 an4 : Option Addr} {sl4 : Array (Option Value)} {oc4 kV4 dc4 pm4 cd4 ct4 : Value}
    (a4 : PySem.W.findIn K (.ref C_NoTrains) "__init__" = some (some (.ref f4)))
    (l4 : K.lookup f4 = some ⟨oc4, od4, .func (PySem.W.fnOf "__init__" "NoTrains.__init__" (defArgs s_NoTrains_init) (defBody s_NoTrains_init) (defScope s_NoTrains_init) .none kV4 dc4 pm4 an4 cd4 ct4), sl4⟩) (c4 : PySem.W.codeIn K cd4 "NoTrains.__init__" = true) (k4 : PySem.W.keepIn K (.ref f4) = true)
    {f5 : Addr} {od5 an5 : Option Addr} {sl5 : Array (Option Value)} {oc5 kV5 dc5 pm5 cd5 ct5 : Value}
    (a5 : PySem.W.findIn K (.ref C_NoEnds) "__init__" = some (some (.ref f5)))
    (l5 : K.lookup f5 = some ⟨oc5, od5, .func (PySem.W.fnOf "__init__" "NoEnds.__init__" (defArgs s_NoEnds_init) (defBody s_NoEnds_init) (defScope s_NoEnds_init) .none kV5 dc5 pm5 an5 cd5 ct5), sl5⟩) (c5 : PySem.W.codeIn K cd5 "NoEnds.__init__" = true) (k5 : PySem.W.keepIn K (.ref f5) = true)
    {f6 : Addr} {od6 an6 : Option Addr} {sl6 : Array (Option Value)} {oc6 kV6 dc6 pm6 cd6 ct6 : Value}
    (a6 : PySem.W.findIn K (.ref C_NoStretch) "__init__" = some (some (.ref f6)))
    (l6 : K.lookup f6 = some ⟨oc6, od6, .func (PySem.W.fnOf "__init__" "NoStretch.__init__" (defArgs s_NoStretch_init) (defBody s_NoStretch_init) (defScope s_NoStretch_init) .none kV6 dc6 pm6 an6 cd6 ct6), sl6⟩) (c6 : PySem.W.codeIn K cd6 "NoStretch.__init__" = true) (k6 : PySem.W.keepIn K (.ref f6) = true)
    {f7 : Addr} {od7 an7 : Option Addr} {sl7 : Array (Option Value)} {oc7 kV7 dc7 pm7 cd7 ct7 : Value}
    (a7 : PySem.W.findIn K (.ref C_NoLong) "__init__" = some (some (.ref f7)))
    (l7 : K.lookup f7 = some ⟨oc7, od7, .func (PySem.W.fnOf "__init__" "NoLong.__init__" (defArgs s_NoLong_init) (defBody s_NoLong_init) (defScope s_NoLong_init) .none kV7 dc7 pm7 an7 cd7 ct7), sl7⟩) (c7 : PySem.W.codeIn K cd7 "NoLong.__init__" = true) (k7 : PySem.W.keepIn K (.ref f7) = true)
    {f8 : Addr} {od8 an8 : Option Addr} {sl8 : Array (Option Value)} {oc8 kV8 dc8 pm8 cd8 ct8 : Value}
    (a8 : PySem.W.findIn K (.ref C_NoPlaces) "__init__" = some (some (.ref f8)))
    (l8 : K.lookup f8 = some ⟨oc8, od8, .func (PySem.W.fnOf "__init__" "NoPlaces.__init__" (defArgs s_NoPlaces_init) (defBody s_NoPlaces_init) (defScope s_NoPlaces_init) .none kV8 dc8 pm8 an8 cd8 ct8), sl8⟩) (c8 : PySem.W.codeIn K cd8 "NoPlaces.__init__" = true) (k8 : PySem.W.keepIn K (.ref f8) = true)
    {f9 : Addr} {od9 an9 : Option Addr} {sl9 : Array (Option Value)} {oc9 kV9 dc9 pm9 cd9 ct9 : Value}
    (a9 : PySem.W.findIn K (.ref C_NoStretches) "__init__" = some (some (.ref f9)))
    (l9 : K.lookup f9 = some ⟨oc9, od9, .func (PySem.W.fnOf "__init__" "NoStretches.__init__" (defArgs s_NoStretches_init) (defBody s_NoStretches_init) (defScope s_NoStretches_init) .none kV9 dc9 pm9 an9 cd9 ct9), sl9⟩) (c9 : PySem.W.codeIn K cd9 "NoStretches.__init__" = true) (k9 : PySem.W.keepIn K (.ref f9) = true)
    {f10 : Addr} {od10 an10 : Option Addr} {sl10 : Array (Option Value)} {oc10 kV10 dc10 pm10 cd10 ct10 : Value}
    (a10 : PySem.W.findIn K (.ref C_NoLongs) "__init__" = some (some (.ref f10)))
    (l10 : K.lookup f10 = some ⟨oc10, od10, .func (PySem.W.fnOf "__init__" "NoLongs.__init__" (defArgs s_NoLongs_init) (defBody s_NoLongs_init) (defScope s_NoLongs_init) .none kV10 dc10 pm10 an10 cd10 ct10), sl10⟩) (c10 : PySem.W.codeIn K cd10 "NoLongs.__init__" = true) (k10 : PySem.W.keepIn K (.ref f10) = true)
    {f11 : Addr} {od11 an11 : Option Addr} {sl11 : Array (Option Value)} {oc11 kV11 dc11 pm11 cd11 ct11 : Value}
    (a11 : PySem.W.findIn K (.ref C_NoNumber) "__init__" = some (some (.ref f11)))
    (l11 : K.lookup f11 = some ⟨oc11, od11, .func (PySem.W.fnOf "__init__" "NoNumber.__init__" (defArgs s_NoNumber_init) (defBody s_NoNumber_init) (defScope s_NoNumber_init) .none kV11 dc11 pm11 an11 cd11 ct11), sl11⟩) (c11 : PySem.W.codeIn K cd11 "NoNumber.__init__" = true) (k11 : PySem.W.keepIn K (.ref f11) = true)
    {f12 : Addr} {od12 an12 : Option Addr} {sl12 : Array (Option Value)} {oc12 kV12 dc12 pm12 cd12 ct12 : Value}
    (a12 : PySem.W.findIn K (.ref C_NoThing) "__init__" = some (some (.ref f12)))
    (l12 : K.lookup f12 = some ⟨oc12, od12, .func (PySem.W.fnOf "__init__" "NoThing.__init__" (defArgs s_NoThing_init) (defBody s_NoThing_init) (defScope s_NoThing_init) .none kV12 dc12 pm12 an12 cd12 ct12), sl12⟩) (c12 : PySem.W.codeIn K cd12 "NoThing.__init__" = true) (k12 : PySem.W.keepIn K (.ref f12) = true)
    {f13 : Addr} {od13 an13 : Option Addr} {sl13 : Array (Option Value)} {oc13 kV13 dc13 pm13 cd13 ct13 : Value}
    (a13 : PySem.W.findIn K (.ref C_NoKind) "__init__" = some (some (.ref f13)))
    (l13 : K.lookup f13 = some ⟨oc13, od13, .func (PySem.W.fnOf "__init__" "NoKind.__init__" (defArgs s_NoKind_init) (defBody s_NoKind_init) (defScope s_NoKind_init) .none kV13 dc13 pm13 an13 cd13 ct13), sl13⟩) (c13 : PySem.W.codeIn K cd13 "NoKind.__init__" = true) (k13 : PySem.W.keepIn K (.ref f13) = true)
    {f14 : Addr} {od14 an14 : Option Addr} {sl14 : Array (Option Value)} {oc14 kV14 dc14 pm14 cd14 ct14 : Value}
    (a14 : PySem.W.findIn K (.ref C_NoWord) "__init__" = some (some (.ref f14)))
    (l14 : K.lookup f14 = some ⟨oc14, od14, .func (PySem.W.fnOf "__init__" "NoWord.__init__" (defArgs s_NoWord_init) (defBody s_NoWord_init) (defScope s_NoWord_init) .none kV14 dc14 pm14 an14 cd14 ct14), sl14⟩) (c14 : PySem.W.codeIn K cd14 "NoWord.__init__" = true) (k14 : PySem.W.keepIn K (.ref f14) = true)
    {f15 : Addr} {od15 an15 : Option Addr} {sl15 : Array (Option Value)} {oc15 kV15 dc15 pm15 cd15 ct15 : Value}
    (a15 : PySem.W.findIn K (.ref C_NoDeed) "__init__" = some (some (.ref f15)))
    (l15 : K.lookup f15 = some ⟨oc15, od15, .func (PySem.W.fnOf "__init__" "NoDeed.__init__" (defArgs s_NoDeed_init) (defBody s_NoDeed_init) (defScope s_NoDeed_init) .none kV15 dc15 pm15 an15 cd15 ct15), sl15⟩) (c15 : PySem.W.codeIn K cd15 "NoDeed.__init__" = true) (k15 : PySem.W.keepIn K (.ref f15) = true)
    {f16 : Addr} {od16 an16 : Option Addr} {sl16 : Array (Option Value)} {oc16 kV16 dc16 pm16 cd16 ct16 : Value}
    (a16 : PySem.W.findIn K (.ref C_NoWay) "__init__" = some (some (.ref f16)))
    (l16 : K.lookup f16 = some ⟨oc16, od16, .func (PySem.W.fnOf "__init__" "NoWay.__init__" (defArgs s_NoWay_init) (defBody s_NoWay_init) (defScope s_NoWay_init) .none kV16 dc16 pm16 an16 cd16 ct16), sl16⟩) (c16 : PySem.W.codeIn K cd16 "NoWay.__init__" = true) (k16 : PySem.W.keepIn K (.ref f16) = true)
    {f17 : Addr} {od17 an17 : Option Addr} {sl17 : Array (Option Value)} {oc17 kV17 dc17 pm17 cd17 ct17 : Value}
    (a17 : PySem.W.findIn K (.ref C_NoUse) "__init__" = some (some (.ref f17)))
    (l17 : K.lookup f17 = some ⟨oc17, od17, .func (PySem.W.fnOf "__init__" "NoUse.__init__" (defArgs s_NoUse_init) (defBody s_NoUse_init) (defScope s_NoUse_init) .none kV17 dc17 pm17 an17 cd17 ct17), sl17⟩) (c17 : PySem.W.codeIn K cd17 "NoUse.__init__" = true) (k17 : PySem.W.keepIn K (.ref f17) = true)
    {f18 : Addr} {od18 an18 : Option Addr} {sl18 : Array (Option Value)} {oc18 kV18 dc18 pm18 cd18 ct18 : Value}
    (a18 : PySem.W.findIn K (.ref C_NoBooks) "__init__" = some (some (.ref f18)))
    (l18 : K.lookup f18 = some ⟨oc18, od18, .func (PySem.W.fnOf "__init__" "NoBooks.__init__" (defArgs s_NoBooks_init) (defBody s_NoBooks_init) (defScope s_NoBooks_init) .none kV18 dc18 pm18 an18 cd18 ct18), sl18⟩) (c18 : PySem.W.codeIn K cd18 "NoBooks.__init__" = true) (k18 : PySem.W.keepIn K (.ref f18) = true)
    {f19 : Addr} {od19 an19 : Option Addr} {sl19 : Array (Option Value)} {oc19 kV19 dc19 pm19 cd19 ct19 : Value}
    (a19 : PySem.W.findIn K (.ref C_NoRows) "__init__" = some (some (.ref f19)))
    (l19 : K.lookup f19 = some ⟨oc19, od19, .func (PySem.W.fnOf "__init__" "NoRows.__init__" (defArgs s_NoRows_init) (defBody s_NoRows_init) (defScope s_NoRows_init) .none kV19 dc19 pm19 an19 cd19 ct19), sl19⟩) (c19 : PySem.W.codeIn K cd19 "NoRows.__init__" = true) (k19 : PySem.W.keepIn K (.ref f19) = true)
    {f20 : Addr} {od20 an20 : Option Addr} {sl20 : Array (Option Value)} {oc20 kV20 dc20 pm20 cd20 ct20 : Value}
    (a20 : PySem.W.findIn K (.ref C_NoMove) "__init__" = some (some (.ref f20)))
    (l20 : K.lookup f20 = some ⟨oc20, od20, .func (PySem.W.fnOf "__init__" "NoMove.__init__" (defArgs s_NoMove_init) (defBody s_NoMove_init) (defScope s_NoMove_init) .none kV20 dc20 pm20 an20 cd20 ct20), sl20⟩) (c20 : PySem.W.codeIn K cd20 "NoMove.__init__" = true) (k20 : PySem.W.keepIn K (.ref f20) = true)
    {f21 : Addr} {od21 an21 : Option Addr} {sl21 : Array (Option Value)} {oc21 kV21 dc21 pm21 cd21 ct21 : Value}
    (a21 : PySem.W.findIn K (.ref C_NoRuns) "__init__" = some (some (.ref f21)))
    (l21 : K.lookup f21 = some ⟨oc21, od21, .func (PySem.W.fnOf "__init__" "NoRuns.__init__" (defArgs s_NoRuns_init) (defBody s_NoRuns_init) (defScope s_NoRuns_init) .none kV21 dc21 pm21 an21 cd21 ct21), sl21⟩) (c21 : PySem.W.codeIn K cd21 "NoRuns.__init__" = true) (k21 : PySem.W.keepIn K (.ref f21) = true)
    {f22 : Addr} {od22 an22 : Option Addr} {sl22 : Array (Option Value)} {oc22 kV22 dc22 pm22 cd22 ct22 : Value}
    (a22 : PySem.W.findIn K (.ref C_NoRun) "__init__" = some (some (.ref f22)))
    (l22 : K.lookup f22 = some ⟨oc22, od22, .func (PySem.W.fnOf "__init__" "NoRun.__init__" (defArgs s_NoRun_init) (defBody s_NoRun_init) (defScope s_NoRun_init) .none kV22 dc22 pm22 an22 cd22 ct22), sl22⟩) (c22 : PySem.W.codeIn K cd22 "NoRun.__init__" = true) (k22 : PySem.W.keepIn K (.ref f22) = true)
    {f23 : Addr} {od23 an23 : Option Addr} {sl23 : Array (Option Value)} {oc23 kV23 dc23 pm23 cd23 ct23 : Value}
    (a23 : PySem.W.findIn K (.ref C_NoLine) "__init__" = some (some (.ref f23)))
    (l23 : K.lookup f23 = some ⟨oc23, od23, .func (PySem.W.fnOf "__init__" "NoLine.__init__" (defArgs s_NoLine_init) (defBody s_NoLine_init) (defScope s_NoLine_init) .none kV23 dc23 pm23 an23 cd23 ct23), sl23⟩) (c23 : PySem.W.codeIn K cd23 "NoLine.__init__" = true) (k23 : PySem.W.keepIn K (.ref f23) = true)
    {f24 : Addr} {od24 an24 : Option Addr} {sl24 : Array (Option Value)} {oc24 kV24 dc24 pm24 cd24 ct24 : Value}
    (a24 : PySem.W.findIn K (.ref C_NoState) "__init__" = some (some (.ref f24)))
    (l24 : K.lookup f24 = some ⟨oc24, od24, .func (PySem.W.fnOf "__init__" "NoState.__init__" (defArgs s_NoState_init) (defBody s_NoState_init) (defScope s_NoState_init) .none kV24 dc24 pm24 an24 cd24 ct24), sl24⟩) (c24 : PySem.W.codeIn K cd24 "NoState.__init__" = true) (k24 : PySem.W.keepIn K (.ref f24) = true)
    {f25 : Addr} {od25 an25 : Option Addr} {sl25 : Array (Option Value)} {oc25 kV25 dc25 pm25 cd25 ct25 : Value}
    (a25 : PySem.W.findIn K (.ref C_Twice) "__init__" = some (some (.ref f25)))
    (l25 : K.lookup f25 = some ⟨oc25, od25, .func (PySem.W.fnOf "__init__" "Twice.__init__" (defArgs s_Twice_init) (defBody s_Twice_init) (defScope s_Twice_init) .none kV25 dc25 pm25 an25 cd25 ct25), sl25⟩) (c25 : PySem.W.codeIn K cd25 "Twice.__init__" = true) (k25 : PySem.W.keepIn K (.ref f25) = true)
    {f26 : Addr} {od26 an26 : Option Addr} {sl26 : Array (Option Value)} {oc26 kV26 dc26 pm26 cd26 ct26 : Value}
    (a26 : PySem.W.findIn K (.ref C_NotHere) "__init__" = some (some (.ref f26)))
    (l26 : K.lookup f26 = some ⟨oc26, od26, .func (PySem.W.fnOf "__init__" "NotHere.__init__" (defArgs s_NotHere_init) (defBody s_NotHere_init) (defScope s_NotHere_init) .none kV26 dc26 pm26 an26 cd26 ct26), sl26⟩) (c26 : PySem.W.codeIn K cd26 "NotHere.__init__" = true) (k26 : PySem.W.keepIn K (.ref f26) = true)
    {f27 : Addr} {od27 an27 : Option Addr} {sl27 : Array (Option Value)} {oc27 kV27 dc27 pm27 cd27 ct27 : Value}
    (a27 : PySem.W.findIn K (.ref C_NotIn) "__init__" = some (some (.ref f27)))
    (l27 : K.lookup f27 = some ⟨oc27, od27, .func (PySem.W.fnOf "__init__" "NotIn.__init__" (defArgs s_NotIn_init) (defBody s_NotIn_init) (defScope s_NotIn_init) .none kV27 dc27 pm27 an27 cd27 ct27), sl27⟩) (c27 : PySem.W.codeIn K cd27 "NotIn.__init__" = true) (k27 : PySem.W.keepIn K (.ref f27) = true)
    {f28 : Addr} {od28 an28 : Option Addr} {sl28 : Array (Option Value)} {oc28 kV28 dc28 pm28 cd28 ct28 : Value}
    (a28 : PySem.W.findIn K (.ref C_NotHeld) "__init__" = some (some (.ref f28)))
    (l28 : K.lookup f28 = some ⟨oc28, od28, .func (PySem.W.fnOf "__init__" "NotHeld.__init__" (defArgs s_NotHeld_init) (defBody s_NotHeld_init) (defScope s_NotHeld_init) .none kV28 dc28 pm28 an28 cd28 ct28), sl28⟩) (c28 : PySem.W.codeIn K cd28 "NotHeld.__init__" = true) (k28 : PySem.W.keepIn K (.ref f28) = true)
    {f29 : Addr} {od29 an29 : Option Addr} {sl29 : Array (Option Value)} {oc29 kV29 dc29 pm29 cd29 ct29 : Value}
    (a29 : PySem.W.findIn K (.ref C_NotHelped) "__init__" = some (some (.ref f29)))
    (l29 : K.lookup f29 = some ⟨oc29, od29, .func (PySem.W.fnOf "__init__" "NotHelped.__init__" (defArgs s_NotHelped_init) (defBody s_NotHelped_init) (defScope s_NotHelped_init) .none kV29 dc29 pm29 an29 cd29 ct29), sl29⟩) (c29 : PySem.W.codeIn K cd29 "NotHelped.__init__" = true) (k29 : PySem.W.keepIn K (.ref f29) = true)
    {f30 : Addr} {od30 an30 : Option Addr} {sl30 : Array (Option Value)} {oc30 kV30 dc30 pm30 cd30 ct30 : Value}
    (a30 : PySem.W.findIn K (.ref C_Full) "__init__" = some (some (.ref f30)))
    (l30 : K.lookup f30 = some ⟨oc30, od30, .func (PySem.W.fnOf "__init__" "Full.__init__" (defArgs s_Full_init) (defBody s_Full_init) (defScope s_Full_init) .none kV30 dc30 pm30 an30 cd30 ct30), sl30⟩) (c30 : PySem.W.codeIn K cd30 "Full.__init__" = true) (k30 : PySem.W.keepIn K (.ref f30) = true)
    {f31 : Addr} {od31 an31 : Option Addr} {sl31 : Array (Option Value)} {oc31 kV31 dc31 pm31 cd31 ct31 : Value}
    (a31 : PySem.W.findIn K (.ref C_Lacks) "__init__" = some (some (.ref f31)))
    (l31 : K.lookup f31 = some ⟨oc31, od31, .func (PySem.W.fnOf "__init__" "Lacks.__init__" (defArgs s_Lacks_init) (defBody s_Lacks_init) (defScope s_Lacks_init) .none kV31 dc31 pm31 an31 cd31 ct31), sl31⟩) (c31 : PySem.W.codeIn K cd31 "Lacks.__init__" = true) (k31 : PySem.W.keepIn K (.ref f31) = true)
    {f32 : Addr} {od32 an32 : Option Addr} {sl32 : Array (Option Value)} {oc32 kV32 dc32 pm32 cd32 ct32 : Value}
    (a32 : PySem.W.findIn K (.ref C_Shut) "__init__" = some (some (.ref f32)))
    (l32 : K.lookup f32 = some ⟨oc32, od32, .func (PySem.W.fnOf "__init__" "Shut.__init__" (defArgs s_Shut_init) (defBody s_Shut_init) (defScope s_Shut_init) .none kV32 dc32 pm32 an32 cd32 ct32), sl32⟩) (c32 : PySem.W.codeIn K cd32 "Shut.__init__" = true) (k32 : PySem.W.keepIn K (.ref f32) = true)
    {f33 : Addr} {od33 an33 : Option Addr} {sl33 : Array (Option Value)} {oc33 kV33 dc33 pm33 cd33 ct33 : Value}
    (a33 : PySem.W.findIn K (.ref C_Held) "__init__" = some (some (.ref f33)))
    (l33 : K.lookup f33 = some ⟨oc33, od33, .func (PySem.W.fnOf "__init__" "Held.__init__" (defArgs s_Held_init) (defBody s_Held_init) (defScope s_Held_init) .none kV33 dc33 pm33 an33 cd33 ct33), sl33⟩) (c33 : PySem.W.codeIn K cd33 "Held.__init__" = true) (k33 : PySem.W.keepIn K (.ref f33) = true)
    {f34 : Addr} {od34 an34 : Option Addr} {sl34 : Array (Option Value)} {oc34 kV34 dc34 pm34 cd34 ct34 : Value}
    (a34 : PySem.W.findIn K (.ref C_NotClear) "__init__" = some (some (.ref f34)))
    (l34 : K.lookup f34 = some ⟨oc34, od34, .func (PySem.W.fnOf "__init__" "NotClear.__init__" (defArgs s_NotClear_init) (defBody s_NotClear_init) (defScope s_NotClear_init) .none kV34 dc34 pm34 an34 cd34 ct34), sl34⟩) (c34 : PySem.W.codeIn K cd34 "NotClear.__init__" = true) (k34 : PySem.W.keepIn K (.ref f34) = true)
    {f35 : Addr} {od35 an35 : Option Addr} {sl35 : Array (Option Value)} {oc35 kV35 dc35 pm35 cd35 ct35 : Value}
    (a35 : PySem.W.findIn K (.ref C_NoTickets) "__init__" = some (some (.ref f35)))
    (l35 : K.lookup f35 = some ⟨oc35, od35, .func (PySem.W.fnOf "__init__" "NoTickets.__init__" (defArgs s_NoTickets_init) (defBody s_NoTickets_init) (defScope s_NoTickets_init) .none kV35 dc35 pm35 an35 cd35 ct35), sl35⟩) (c35 : PySem.W.codeIn K cd35 "NoTickets.__init__" = true) (k35 : PySem.W.keepIn K (.ref f35) = true)
    {f36 : Addr} {od36 an36 : Option Addr} {sl36 : Array (Option Value)} {oc36 kV36 dc36 pm36 cd36 ct36 : Value}
    (a36 : PySem.W.findIn K (.ref C_NoRight) "__init__" = some (some (.ref f36)))
    (l36 : K.lookup f36 = some ⟨oc36, od36, .func (PySem.W.fnOf "__init__" "NoRight.__init__" (defArgs s_NoRight_init) (defBody s_NoRight_init) (defScope s_NoRight_init) .none kV36 dc36 pm36 an36 cd36 ct36), sl36⟩) (c36 : PySem.W.codeIn K cd36 "NoRight.__init__" = true) (k36 : PySem.W.keepIn K (.ref f36) = true)
    {f37 : Addr} {od37 an37 : Option Addr} {sl37 : Array (Option Value)} {oc37 kV37 dc37 pm37 cd37 ct37 : Value}
    (a37 : PySem.W.findIn K (.ref C_NotShut) "__init__" = some (some (.ref f37)))
    (l37 : K.lookup f37 = some ⟨oc37, od37, .func (PySem.W.fnOf "__init__" "NotShut.__init__" (defArgs s_NotShut_init) (defBody s_NotShut_init) (defScope s_NotShut_init) .none kV37 dc37 pm37 an37 cd37 ct37), sl37⟩) (c37 : PySem.W.codeIn K cd37 "NotShut.__init__" = true) (k37 : PySem.W.keepIn K (.ref f37) = true)
    {f38 : Addr} {od38 an38 : Option Addr} {sl38 : Array (Option Value)} {oc38 kV38 dc38 pm38 cd38 ct38 : Value}
    (a38 : PySem.W.findIn K (.ref C_Taken) "__init__" = some (some (.ref f38)))
    (l38 : K.lookup f38 = some ⟨oc38, od38, .func (PySem.W.fnOf "__init__" "Taken.__init__" (defArgs s_Taken_init) (defBody s_Taken_init) (defScope s_Taken_init) .none kV38 dc38 pm38 an38 cd38 ct38), sl38⟩) (c38 : PySem.W.codeIn K cd38 "Taken.__init__" = true) (k38 : PySem.W.keepIn K (.ref f38) = true)
    {f39 : Addr} {od39 an39 : Option Addr} {sl39 : Array (Option Value)} {oc39 kV39 dc39 pm39 cd39 ct39 : Value}
    (a39 : PySem.W.findIn K (.ref C_Boxed) "__init__" = some (some (.ref f39)))
    (l39 : K.lookup f39 = some ⟨oc39, od39, .func (PySem.W.fnOf "__init__" "Boxed.__init__" (defArgs s_Boxed_init) (defBody s_Boxed_init) (defScope s_Boxed_init) .none kV39 dc39 pm39 an39 cd39 ct39), sl39⟩) (c39 : PySem.W.codeIn K cd39 "Boxed.__init__" = true) (k39 : PySem.W.keepIn K (.ref f39) = true)
    {f40 : Addr} {od40 an40 : Option Addr} {sl40 : Array (Option Value)} {oc40 kV40 dc40 pm40 cd40 ct40 : Value}
    (a40 : PySem.W.findIn K (.ref C_Silent) "__init__" = some (some (.ref f40)))
    (l40 : K.lookup f40 = some ⟨oc40, od40, .func (PySem.W.fnOf "__init__" "Silent.__init__" (defArgs s_Silent_init) (defBody s_Silent_init) (defScope s_Silent_init) .none kV40 dc40 pm40 an40 cd40 ct40), sl40⟩) (c40 : PySem.W.codeIn K cd40 "Silent.__init__" = true) (k40 : PySem.W.keepIn K (.ref f40) = true)
    {f41 : Addr} {od41 an41 : Option Addr} {sl41 : Array (Option Value)} {oc41 kV41 dc41 pm41 cd41 ct41 : Value}
    (a41 : PySem.W.findIn K (.ref C_TooMany) "__init__" = some (some (.ref f41)))
    (l41 : K.lookup f41 = some ⟨oc41, od41, .func (PySem.W.fnOf "__init__" "TooMany.__init__" (defArgs s_TooMany_init) (defBody s_TooMany_init) (defScope s_TooMany_init) .none kV41 dc41 pm41 an41 cd41 ct41), sl41⟩) (c41 : PySem.W.codeIn K cd41 "TooMany.__init__" = true) (k41 : PySem.W.keepIn K (.ref f41) = true)
    {f42 : Addr} {od42 an42 : Option Addr} {sl42 : Array (Option Value)} {oc42 kV42 dc42 pm42 cd42 ct42 : Value}
    (a42 : PySem.W.findIn K (.ref C_NoText) "__init__" = some (some (.ref f42)))
    (l42 : K.lookup f42 = some ⟨oc42, od42, .func (PySem.W.fnOf "__init__" "NoText.__init__" (defArgs s_NoText_init) (defBody s_NoText_init) (defScope s_NoText_init) .none kV42 dc42 pm42 an42 cd42 ct42), sl42⟩) (c42 : PySem.W.codeIn K cd42 "NoText.__init__" = true) (k42 : PySem.W.keepIn K (.ref f42) = true)
    {f43 : Addr} {od43 an43 : Option Addr} {sl43 : Array (Option Value)} {oc43 kV43 dc43 pm43 cd43 ct43 : Value}
    (a43 : PySem.W.findIn K (.ref C_Gap) "__init__" = some (some (.ref f43)))
    (l43 : K.lookup f43 = some ⟨oc43, od43, .func (PySem.W.fnOf "__init__" "Gap.__init__" (defArgs s_Gap_init) (defBody s_Gap_init) (defScope s_Gap_init) .none kV43 dc43 pm43 an43 cd43 ct43), sl43⟩) (c43 : PySem.W.codeIn K cd43 "Gap.__init__" = true) (k43 : PySem.W.keepIn K (.ref f43) = true)
    {f44 : Addr} {od44 an44 : Option Addr} {sl44 : Array (Option Value)} {oc44 kV44 dc44 pm44 cd44 ct44 : Value}
    (a44 : PySem.W.findIn K (.ref C_NotSo) "__init__" = some (some (.ref f44)))
    (l44 : K.lookup f44 = some ⟨oc44, od44, .func (PySem.W.fnOf "__init__" "NotSo.__init__" (defArgs s_NotSo_init) (defBody s_NotSo_init) (defScope s_NotSo_init) .none kV44 dc44 pm44 an44 cd44 ct44), sl44⟩) (c44 : PySem.W.codeIn K cd44 "NotSo.__init__" = true) (k44 : PySem.W.keepIn K (.ref f44) = true)
    {f45 : Addr} {od45 an45 : Option Addr} {sl45 : Array (Option Value)} {oc45 kV45 dc45 pm45 cd45 ct45 : Value}
    (a45 : PySem.W.findIn K (.ref C_NoTrip) "__init__" = some (some (.ref f45)))
    (l45 : K.lookup f45 = some ⟨oc45, od45, .func (PySem.W.fnOf "__init__" "NoTrip.__init__" (defArgs s_NoTrip_init) (defBody s_NoTrip_init) (defScope s_NoTrip_init) .none kV45 dc45 pm45 an45 cd45 ct45), sl45⟩) (c45 : PySem.W.codeIn K cd45 "NoTrip.__init__" = true) (k45 : PySem.W.keepIn K (.ref f45) = true)
    {f46 : Addr} {od46 an46 : Option Addr} {sl46 : Array (Option Value)} {oc46 kV46 dc46 pm46 cd46 ct46 : Value}
    (a46 : PySem.W.findIn K (.ref C_NoStart) "__init__" = some (some (.ref f46)))
    (l46 : K.lookup f46 = some ⟨oc46, od46, .func (PySem.W.fnOf "__init__" "NoStart.__init__" (defArgs s_NoStart_init) (defBody s_NoStart_init) (defScope s_NoStart_init) .none kV46 dc46 pm46 an46 cd46 ct46), sl46⟩) (c46 : PySem.W.codeIn K cd46 "NoStart.__init__" = true) (k46 : PySem.W.keepIn K (.ref f46) = true)
    {f47 : Addr} {od47 an47 : Option Addr} {sl47 : Array (Option Value)} {oc47 kV47 dc47 pm47 cd47 ct47 : Value}
    (a47 : PySem.W.findIn K (.ref C_NoBack) "__init__" = some (some (.ref f47)))
    (l47 : K.lookup f47 = some ⟨oc47, od47, .func (PySem.W.fnOf "__init__" "NoBack.__init__" (defArgs s_NoBack_init) (defBody s_NoBack_init) (defScope s_NoBack_init) .none kV47 dc47 pm47 an47 cd47 ct47), sl47⟩) (c47 : PySem.W.codeIn K cd47 "NoBack.__init__" = true) (k47 : PySem.W.keepIn K (.ref f47) = true)
    {f48 : Addr} {od48 an48 : Option Addr} {sl48 : Array (Option Value)} {oc48 kV48 dc48 pm48 cd48 ct48 : Value}
    (a48 : PySem.W.nsIn K mainGlobals "_law_cell" = some (some (.ref f48)))
    (l48 : K.lookup f48 = some ⟨oc48, od48, .func (PySem.W.fnOf "_law_cell" "_law_cell" (defArgs s_law_cell) (defBody s_law_cell) (defScope s_law_cell) .none kV48 dc48 pm48 an48 cd48 ct48), sl48⟩) (c48 : PySem.W.codeIn K cd48 "_law_cell" = true) (k48 : PySem.W.keepIn K (.ref f48) = true)
    {f49 : Addr} {od49 an49 : Option Addr} {sl49 : Array (Option Value)} {oc49 kV49 dc49 pm49 cd49 ct49 : Value}
    (a49 : PySem.W.nsIn K mainGlobals "_law_box" = some (some (.ref f49)))
    (l49 : K.lookup f49 = some ⟨oc49, od49, .func (PySem.W.fnOf "_law_box" "_law_box" (defArgs s_law_box) (defBody s_law_box) (defScope s_law_box) .none kV49 dc49 pm49 an49 cd49 ct49), sl49⟩) (c49 : PySem.W.codeIn K cd49 "_law_box" = true) (k49 : PySem.W.keepIn K (.ref f49) = true)
    {f50 : Addr} {od50 an50 : Option Addr} {sl50 : Array (Option Value)} {oc50 kV50 dc50 pm50 cd50 ct50 : Value}
    (a50 : PySem.W.nsIn K mainGlobals "_law_take" = some (some (.ref f50)))
    (l50 : K.lookup f50 = some ⟨oc50, od50, .func (PySem.W.fnOf "_law_take" "_law_take" (defArgs s_law_take) (defBody s_law_take) (defScope s_law_take) .none kV50 dc50 pm50 an50 cd50 ct50), sl50⟩) (c50 : PySem.W.codeIn K cd50 "_law_take" = true) (k50 : PySem.W.keepIn K (.ref f50) = true)
    {f51 : Addr} {od51 an51 : Option Addr} {sl51 : Array (Option Value)} {oc51 kV51 dc51 pm51 cd51 ct51 : Value}
    (a51 : PySem.W.nsIn K mainGlobals "_law_thing" = some (some (.ref f51)))
    (l51 : K.lookup f51 = some ⟨oc51, od51, .func (PySem.W.fnOf "_law_thing" "_law_thing" (defArgs s_law_thing) (defBody s_law_thing) (defScope s_law_thing) .none kV51 dc51 pm51 an51 cd51 ct51), sl51⟩) (c51 : PySem.W.codeIn K cd51 "_law_thing" = true) (k51 : PySem.W.keepIn K (.ref f51) = true)
    {f52 : Addr} {od52 an52 : Option Addr} {sl52 : Array (Option Value)} {oc52 kV52 dc52 pm52 cd52 ct52 : Value}
    (a52 : PySem.W.nsIn K mainGlobals "_law_kinds" = some (some (.ref f52)))
    (l52 : K.lookup f52 = some ⟨oc52, od52, .func (PySem.W.fnOf "_law_kinds" "_law_kinds" (defArgs s_law_kinds) (defBody s_law_kinds) (defScope s_law_kinds) .none kV52 dc52 pm52 an52 cd52 ct52), sl52⟩) (c52 : PySem.W.codeIn K cd52 "_law_kinds" = true) (k52 : PySem.W.keepIn K (.ref f52) = true)
    {f53 : Addr} {od53 an53 : Option Addr} {sl53 : Array (Option Value)} {oc53 kV53 dc53 pm53 cd53 ct53 : Value}
    (a53 : PySem.W.nsIn K mainGlobals "_law_made" = some (some (.ref f53)))
    (l53 : K.lookup f53 = some ⟨oc53, od53, .func (PySem.W.fnOf "_law_made" "_law_made" (defArgs s_law_made) (defBody s_law_made) (defScope s_law_made) .none kV53 dc53 pm53 an53 cd53 ct53), sl53⟩) (c53 : PySem.W.codeIn K cd53 "_law_made" = true) (k53 : PySem.W.keepIn K (.ref f53) = true)
    {f54 : Addr} {od54 an54 : Option Addr} {sl54 : Array (Option Value)} {oc54 kV54 dc54 pm54 cd54 ct54 : Value}
    (a54 : PySem.W.nsIn K mainGlobals "_law_fields" = some (some (.ref f54)))
    (l54 : K.lookup f54 = some ⟨oc54, od54, .func (PySem.W.fnOf "_law_fields" "_law_fields" (defArgs s_law_fields) (defBody s_law_fields) (defScope s_law_fields) .none kV54 dc54 pm54 an54 cd54 ct54), sl54⟩) (c54 : PySem.W.codeIn K cd54 "_law_fields" = true) (k54 : PySem.W.keepIn K (.ref f54) = true)
    {f55 : Addr} {od55 an55 : Option Addr} {sl55 : Array (Option Value)} {oc55 kV55 dc55 pm55 cd55 ct55 : Value}
    (a55 : PySem.W.nsIn K mainGlobals "_law_right" = some (some (.ref f55)))
    (l55 : K.lookup f55 = some ⟨oc55, od55, .func (PySem.W.fnOf "_law_right" "_law_right" (defArgs s_law_right) (defBody s_law_right) (defScope s_law_right) .none kV55 dc55 pm55 an55 cd55 ct55), sl55⟩) (c55 : PySem.W.codeIn K cd55 "_law_right" = true) (k55 : PySem.W.keepIn K (.ref f55) = true)
    {f56 : Addr} {od56 an56 : Option Addr} {sl56 : Array (Option Value)} {oc56 kV56 dc56 pm56 cd56 ct56 : Value}
    (a56 : PySem.W.nsIn K mainGlobals "law" = some (some (.ref f56)))
    (l56 : K.lookup f56 = some ⟨oc56, od56, .func (PySem.W.fnOf "law" "law" (defArgs s_law) (defBody s_law) (defScope s_law) .none kV56 dc56 pm56 an56 cd56 ct56), sl56⟩) (c56 : PySem.W.codeIn K cd56 "law" = true) (k56 : PySem.W.keepIn K (.ref f56) = true)
    (er_NoName : ErrC K C_NoName f1 "found")
    (er_NoPlace : ErrC K C_NoPlace f2 "found")
    (er_NoTrain : ErrC K C_NoTrain f3 "found")
    (er_NoTrains : ErrC K C_NoTrains f4 "found")
    (er_NoEnds : ErrC K C_NoEnds f5 "found")
    (er_NoStretch : ErrC K C_NoStretch f6 "found")
    (er_NoLong : ErrC K C_NoLong f7 "found")
    (er_NoPlaces : ErrC K C_NoPlaces f8 "found")
    (er_NoStretches : ErrC K C_NoStretches f9 "found")
    (er_NoLongs : ErrC K C_NoLongs f10 "found")
    (er_NoNumber : ErrC K C_NoNumber f11 "found")
    (er_NoThing : ErrC K C_NoThing f12 "found")
    (er_NoKind : ErrC K C_NoKind f13 "found")
    (er_NoWord : ErrC K C_NoWord f14 "found")
    (er_NoDeed : ErrC K C_NoDeed f15 "found")
    (er_NoWay : ErrC K C_NoWay f16 "found")
    (er_NoUse : ErrC K C_NoUse f17 "found")
    (er_NoBooks : ErrC K C_NoBooks f18 "found")
    (er_NoRows : ErrC K C_NoRows f19 "found")
    (er_NoMove : ErrC K C_NoMove f20 "found")
    (er_NoRuns : ErrC K C_NoRuns f21 "found")
    (er_NoRun : ErrC K C_NoRun f22 "found")
    (er_NoLine : ErrC K C_NoLine f23 "found")
    (er_NoState : ErrC K C_NoState f24 "found")
    (er_Twice : ErrC K C_Twice f25 "found")
    (er_NotHere : ErrC K C_NotHere f26 "found")
    (er_NotIn : ErrC K C_NotIn f27 "found")
    (er_NotHeld : ErrC K C_NotHeld f28 "found")
    (er_NotHelped : ErrC K C_NotHelped f29 "found")
    (er_Full : ErrC K C_Full f30 "found")
    (er_Lacks : ErrC K C_Lacks f31 "found")
    (er_Shut : ErrC K C_Shut f32 "found")
    (er_Held : ErrC K C_Held f33 "found")
    (er_NotClear : ErrC K C_NotClear f34 "found")
    (er_NoTickets : ErrC K C_NoTickets f35 "found")
    (er_NoRight : ErrC K C_NoRight f36 "found")
    (er_NotShut : ErrC K C_NotShut f37 "found")
    (er_Taken : ErrC K C_Taken f38 "found")
    (er_Boxed : ErrC K C_Boxed f39 "found")
    (er_Silent : ErrC K C_Silent f40 "found")
    (er_TooMany : ErrC K C_TooMany f41 "many")
    (er_NoText : ErrC K C_NoText f42 "row")
    (er_Gap : ErrC K C_Gap f43 "number")
    (er_NotSo : ErrC K C_NotSo f44 "number")
    (er_NoTrip : ErrC K C_NoTrip f45 "run")
    (er_NoStart : ErrC K C_NoStart f46 "found")
    (er_NoBack : ErrC K C_NoBack f47 "found")
    (rd_StaffError : PySem.W.readsIn K C_StaffError (.type "type") = true) (rg_StaffError : PySem.W.specialIn K (.ref C_StaffError) "__getattribute__" = some (some (.builtin "type.__getattribute__"))) (vi_StaffError : PySem.W.findCls K (.ref C_StaffError) (.type "type") "__init__" = some (.val (.builtin "ValueError.__init__")))
    (oc_get : PySem.W.specialIn K (.builtin "object.__class__") "__get__" = some (some (.builtin "getset_descriptor.__get__"))) (oc_take : PySem.W.takesIn K (.builtin "object.__class__") = some true)
    (xs_StaffError : PySem.W.excIn K C_StaffError [.type "ValueError", .type "Exception", .type "BaseException", .type "object"] "ValueError.__new__" = true) (kc_StaffError : PySem.W.keepIn K (.ref C_StaffError) = true) (ec_StaffError : excCB K C_StaffError = true)
    (tab : tabB K C_StaffError [C_NoName, C_NoPlace, C_NoTrain, C_NoTrains, C_NoEnds, C_NoStretch, C_NoLong, C_NoPlaces, C_NoStretches, C_NoLongs, C_NoNumber, C_NoThing, C_NoKind, C_NoWord, C_NoDeed, C_NoWay, C_NoUse, C_NoBooks, C_NoRows, C_NoMove, C_NoRuns, C_NoRun, C_NoLine, C_NoState, C_Twice, C_NotHere, C_NotIn, C_NotHeld, C_NotHelped, C_Full, C_Lacks, C_Shut, C_Held, C_NotClear, C_NoTickets, C_NoRight, C_NotShut, C_Taken, C_Boxed, C_Silent, C_TooMany, C_NoText, C_Gap, C_NotSo, C_NoTrip, C_NoStart, C_NoBack] = true)
    (z_ValueError : PySem.W.nsIn K mainGlobals "ValueError" = some none)
    (z_dict : PySem.W.nsIn K mainGlobals "dict" = some none)
    (z_enumerate : PySem.W.nsIn K mainGlobals "enumerate" = some none)
    (z_isinstance : PySem.W.nsIn K mainGlobals "isinstance" = some none)
    (z_len : PySem.W.nsIn K mainGlobals "len" = some none)
    (z_list : PySem.W.nsIn K mainGlobals "list" = some none)
    (z_max : PySem.W.nsIn K mainGlobals "max" = some none)
    (z_min : PySem.W.nsIn K mainGlobals "min" = some none)
    (z_range : PySem.W.nsIn K mainGlobals "range" = some none)
    (z_repr : PySem.W.nsIn K mainGlobals "repr" = some none) :
    ∃ fd : FuncData, (∀ (s : Shared) (v : Value), BindsTo s fd ⟨[v], []⟩ [("_law_script", v)]) ∧ ∀ base : Heap, K.In base → base.Ns mainGlobals mg → (∃ mm, base.Ns sysModules mm) → FnG l.prog wW K mg base (L2.CX l.prog wW) 5 fa fd ["_law_script"] (sp_law K) := by
  have e : fa = f56 := by
    have z := hfa.symm.trans (PySem.W.mg_of X G a56)
    injection z with z; injection z
  let D0 : Td0 := { C_NoName := C_NoName, C_NoPlace := C_NoPlace, C_NoTrain := C_NoTrain, C_NoTrains := C_NoTrains, C_NoEnds := C_NoEnds, C_NoStretch := C_NoStretch, C_NoLong := C_NoLong, C_NoPlaces := C_NoPlaces, C_NoStretches := C_NoStretches, C_NoLongs := C_NoLongs, C_NoNumber := C_NoNumber, C_NoThing := C_NoThing, C_NoKind := C_NoKind, C_NoWord := C_NoWord, C_NoDeed := C_NoDeed, C_NoWay := C_NoWay, C_NoUse := C_NoUse, C_NoBooks := C_NoBooks, C_NoRows := C_NoRows, C_NoMove := C_NoMove, C_NoRuns := C_NoRuns, C_NoRun := C_NoRun, C_NoLine := C_NoLine, C_NoState := C_NoState }
  let D1 : Td1 := { C_Twice := C_Twice, C_NotHere := C_NotHere, C_NotIn := C_NotIn, C_NotHeld := C_NotHeld, C_NotHelped := C_NotHelped, C_Full := C_Full, C_Lacks := C_Lacks, C_Shut := C_Shut, C_Held := C_Held, C_NotClear := C_NotClear, C_NoTickets := C_NoTickets, C_NoRight := C_NoRight, C_NotShut := C_NotShut, C_Taken := C_Taken, C_Boxed := C_Boxed, C_Silent := C_Silent, C_TooMany := C_TooMany, C_NoText := C_NoText, C_Gap := C_Gap, C_NotSo := C_NotSo, C_NoTrip := C_NoTrip, C_NoStart := C_NoStart, C_NoBack := C_NoBack, C_StaffError := C_StaffError }
  let D2 : Td2 := { a_NoName_init := f1, d_NoName_init := PySem.W.fnOf "__init__" "NoName.__init__" (defArgs s_NoName_init) (defBody s_NoName_init) (defScope s_NoName_init) .none kV1 dc1 pm1 an1 cd1 ct1, a_NoPlace_init := f2, d_NoPlace_init := PySem.W.fnOf "__init__" "NoPlace.__init__" (defArgs s_NoPlace_init) (defBody s_NoPlace_init) (defScope s_NoPlace_init) .none kV2 dc2 pm2 an2 cd2 ct2, a_NoTrain_init := f3, d_NoTrain_init := PySem.W.fnOf "__init__" "NoTrain.__init__" (defArgs s_NoTrain_init) (defBody s_NoTrain_init) (defScope s_NoTrain_init) .none kV3 dc3 pm3 an3 cd3 ct3, a_NoTrains_init := f4, d_NoTrains_init := PySem.W.fnOf "__init__" "NoTrains.__init__" (defArgs s_NoTrains_init) (defBody s_NoTrains_init) (defScope s_NoTrains_init) .none kV4 dc4 pm4 an4 cd4 ct4, a_NoEnds_init := f5, d_NoEnds_init := PySem.W.fnOf "__init__" "NoEnds.__init__" (defArgs s_NoEnds_init) (defBody s_NoEnds_init) (defScope s_NoEnds_init) .none kV5 dc5 pm5 an5 cd5 ct5, a_NoStretch_init := f6, d_NoStretch_init := PySem.W.fnOf "__init__" "NoStretch.__init__" (defArgs s_NoStretch_init) (defBody s_NoStretch_init) (defScope s_NoStretch_init) .none kV6 dc6 pm6 an6 cd6 ct6, a_NoLong_init := f7, d_NoLong_init := PySem.W.fnOf "__init__" "NoLong.__init__" (defArgs s_NoLong_init) (defBody s_NoLong_init) (defScope s_NoLong_init) .none kV7 dc7 pm7 an7 cd7 ct7, a_NoPlaces_init := f8, d_NoPlaces_init := PySem.W.fnOf "__init__" "NoPlaces.__init__" (defArgs s_NoPlaces_init) (defBody s_NoPlaces_init) (defScope s_NoPlaces_init) .none kV8 dc8 pm8 an8 cd8 ct8, a_NoStretches_init := f9, d_NoStretches_init := PySem.W.fnOf "__init__" "NoStretches.__init__" (defArgs s_NoStretches_init) (defBody s_NoStretches_init) (defScope s_NoStretches_init) .none kV9 dc9 pm9 an9 cd9 ct9, a_NoLongs_init := f10, d_NoLongs_init := PySem.W.fnOf "__init__" "NoLongs.__init__" (defArgs s_NoLongs_init) (defBody s_NoLongs_init) (defScope s_NoLongs_init) .none kV10 dc10 pm10 an10 cd10 ct10, a_NoNumber_init := f11, d_NoNumber_init := PySem.W.fnOf "__init__" "NoNumber.__init__" (defArgs s_NoNumber_init) (defBody s_NoNumber_init) (defScope s_NoNumber_init) .none kV11 dc11 pm11 an11 cd11 ct11, a_NoThing_init := f12, d_NoThing_init := PySem.W.fnOf "__init__" "NoThing.__init__" (defArgs s_NoThing_init) (defBody s_NoThing_init) (defScope s_NoThing_init) .none kV12 dc12 pm12 an12 cd12 ct12 }
  let D3 : Td3 := { a_NoKind_init := f13, d_NoKind_init := PySem.W.fnOf "__init__" "NoKind.__init__" (defArgs s_NoKind_init) (defBody s_NoKind_init) (defScope s_NoKind_init) .none kV13 dc13 pm13 an13 cd13 ct13, a_NoWord_init := f14, d_NoWord_init := PySem.W.fnOf "__init__" "NoWord.__init__" (defArgs s_NoWord_init) (defBody s_NoWord_init) (defScope s_NoWord_init) .none kV14 dc14 pm14 an14 cd14 ct14, a_NoDeed_init := f15, d_NoDeed_init := PySem.W.fnOf "__init__" "NoDeed.__init__" (defArgs s_NoDeed_init) (defBody s_NoDeed_init) (defScope s_NoDeed_init) .none kV15 dc15 pm15 an15 cd15 ct15, a_NoWay_init := f16, d_NoWay_init := PySem.W.fnOf "__init__" "NoWay.__init__" (defArgs s_NoWay_init) (defBody s_NoWay_init) (defScope s_NoWay_init) .none kV16 dc16 pm16 an16 cd16 ct16, a_NoUse_init := f17, d_NoUse_init := PySem.W.fnOf "__init__" "NoUse.__init__" (defArgs s_NoUse_init) (defBody s_NoUse_init) (defScope s_NoUse_init) .none kV17 dc17 pm17 an17 cd17 ct17, a_NoBooks_init := f18, d_NoBooks_init := PySem.W.fnOf "__init__" "NoBooks.__init__" (defArgs s_NoBooks_init) (defBody s_NoBooks_init) (defScope s_NoBooks_init) .none kV18 dc18 pm18 an18 cd18 ct18, a_NoRows_init := f19, d_NoRows_init := PySem.W.fnOf "__init__" "NoRows.__init__" (defArgs s_NoRows_init) (defBody s_NoRows_init) (defScope s_NoRows_init) .none kV19 dc19 pm19 an19 cd19 ct19, a_NoMove_init := f20, d_NoMove_init := PySem.W.fnOf "__init__" "NoMove.__init__" (defArgs s_NoMove_init) (defBody s_NoMove_init) (defScope s_NoMove_init) .none kV20 dc20 pm20 an20 cd20 ct20, a_NoRuns_init := f21, d_NoRuns_init := PySem.W.fnOf "__init__" "NoRuns.__init__" (defArgs s_NoRuns_init) (defBody s_NoRuns_init) (defScope s_NoRuns_init) .none kV21 dc21 pm21 an21 cd21 ct21, a_NoRun_init := f22, d_NoRun_init := PySem.W.fnOf "__init__" "NoRun.__init__" (defArgs s_NoRun_init) (defBody s_NoRun_init) (defScope s_NoRun_init) .none kV22 dc22 pm22 an22 cd22 ct22, a_NoLine_init := f23, d_NoLine_init := PySem.W.fnOf "__init__" "NoLine.__init__" (defArgs s_NoLine_init) (defBody s_NoLine_init) (defScope s_NoLine_init) .none kV23 dc23 pm23 an23 cd23 ct23, a_NoState_init := f24, d_NoState_init := PySem.W.fnOf "__init__" "NoState.__init__" (defArgs s_NoState_init) (defBody s_NoState_init) (defScope s_NoState_init) .none kV24 dc24 pm24 an24 cd24 ct24 }
  let D4 : Td4 := { a_Twice_init := f25, d_Twice_init := PySem.W.fnOf "__init__" "Twice.__init__" (defArgs s_Twice_init) (defBody s_Twice_init) (defScope s_Twice_init) .none kV25 dc25 pm25 an25 cd25 ct25, a_NotHere_init := f26, d_NotHere_init := PySem.W.fnOf "__init__" "NotHere.__init__" (defArgs s_NotHere_init) (defBody s_NotHere_init) (defScope s_NotHere_init) .none kV26 dc26 pm26 an26 cd26 ct26, a_NotIn_init := f27, d_NotIn_init := PySem.W.fnOf "__init__" "NotIn.__init__" (defArgs s_NotIn_init) (defBody s_NotIn_init) (defScope s_NotIn_init) .none kV27 dc27 pm27 an27 cd27 ct27, a_NotHeld_init := f28, d_NotHeld_init := PySem.W.fnOf "__init__" "NotHeld.__init__" (defArgs s_NotHeld_init) (defBody s_NotHeld_init) (defScope s_NotHeld_init) .none kV28 dc28 pm28 an28 cd28 ct28, a_NotHelped_init := f29, d_NotHelped_init := PySem.W.fnOf "__init__" "NotHelped.__init__" (defArgs s_NotHelped_init) (defBody s_NotHelped_init) (defScope s_NotHelped_init) .none kV29 dc29 pm29 an29 cd29 ct29, a_Full_init := f30, d_Full_init := PySem.W.fnOf "__init__" "Full.__init__" (defArgs s_Full_init) (defBody s_Full_init) (defScope s_Full_init) .none kV30 dc30 pm30 an30 cd30 ct30, a_Lacks_init := f31, d_Lacks_init := PySem.W.fnOf "__init__" "Lacks.__init__" (defArgs s_Lacks_init) (defBody s_Lacks_init) (defScope s_Lacks_init) .none kV31 dc31 pm31 an31 cd31 ct31, a_Shut_init := f32, d_Shut_init := PySem.W.fnOf "__init__" "Shut.__init__" (defArgs s_Shut_init) (defBody s_Shut_init) (defScope s_Shut_init) .none kV32 dc32 pm32 an32 cd32 ct32, a_Held_init := f33, d_Held_init := PySem.W.fnOf "__init__" "Held.__init__" (defArgs s_Held_init) (defBody s_Held_init) (defScope s_Held_init) .none kV33 dc33 pm33 an33 cd33 ct33, a_NotClear_init := f34, d_NotClear_init := PySem.W.fnOf "__init__" "NotClear.__init__" (defArgs s_NotClear_init) (defBody s_NotClear_init) (defScope s_NotClear_init) .none kV34 dc34 pm34 an34 cd34 ct34, a_NoTickets_init := f35, d_NoTickets_init := PySem.W.fnOf "__init__" "NoTickets.__init__" (defArgs s_NoTickets_init) (defBody s_NoTickets_init) (defScope s_NoTickets_init) .none kV35 dc35 pm35 an35 cd35 ct35, a_NoRight_init := f36, d_NoRight_init := PySem.W.fnOf "__init__" "NoRight.__init__" (defArgs s_NoRight_init) (defBody s_NoRight_init) (defScope s_NoRight_init) .none kV36 dc36 pm36 an36 cd36 ct36 }
  let D5 : Td5 := { a_NotShut_init := f37, d_NotShut_init := PySem.W.fnOf "__init__" "NotShut.__init__" (defArgs s_NotShut_init) (defBody s_NotShut_init) (defScope s_NotShut_init) .none kV37 dc37 pm37 an37 cd37 ct37, a_Taken_init := f38, d_Taken_init := PySem.W.fnOf "__init__" "Taken.__init__" (defArgs s_Taken_init) (defBody s_Taken_init) (defScope s_Taken_init) .none kV38 dc38 pm38 an38 cd38 ct38, a_Boxed_init := f39, d_Boxed_init := PySem.W.fnOf "__init__" "Boxed.__init__" (defArgs s_Boxed_init) (defBody s_Boxed_init) (defScope s_Boxed_init) .none kV39 dc39 pm39 an39 cd39 ct39, a_Silent_init := f40, d_Silent_init := PySem.W.fnOf "__init__" "Silent.__init__" (defArgs s_Silent_init) (defBody s_Silent_init) (defScope s_Silent_init) .none kV40 dc40 pm40 an40 cd40 ct40, a_TooMany_init := f41, d_TooMany_init := PySem.W.fnOf "__init__" "TooMany.__init__" (defArgs s_TooMany_init) (defBody s_TooMany_init) (defScope s_TooMany_init) .none kV41 dc41 pm41 an41 cd41 ct41, a_NoText_init := f42, d_NoText_init := PySem.W.fnOf "__init__" "NoText.__init__" (defArgs s_NoText_init) (defBody s_NoText_init) (defScope s_NoText_init) .none kV42 dc42 pm42 an42 cd42 ct42, a_Gap_init := f43, d_Gap_init := PySem.W.fnOf "__init__" "Gap.__init__" (defArgs s_Gap_init) (defBody s_Gap_init) (defScope s_Gap_init) .none kV43 dc43 pm43 an43 cd43 ct43, a_NotSo_init := f44, d_NotSo_init := PySem.W.fnOf "__init__" "NotSo.__init__" (defArgs s_NotSo_init) (defBody s_NotSo_init) (defScope s_NotSo_init) .none kV44 dc44 pm44 an44 cd44 ct44, a_NoTrip_init := f45, d_NoTrip_init := PySem.W.fnOf "__init__" "NoTrip.__init__" (defArgs s_NoTrip_init) (defBody s_NoTrip_init) (defScope s_NoTrip_init) .none kV45 dc45 pm45 an45 cd45 ct45, a_NoStart_init := f46, d_NoStart_init := PySem.W.fnOf "__init__" "NoStart.__init__" (defArgs s_NoStart_init) (defBody s_NoStart_init) (defScope s_NoStart_init) .none kV46 dc46 pm46 an46 cd46 ct46, a_NoBack_init := f47, d_NoBack_init := PySem.W.fnOf "__init__" "NoBack.__init__" (defArgs s_NoBack_init) (defBody s_NoBack_init) (defScope s_NoBack_init) .none kV47 dc47 pm47 an47 cd47 ct47, a_law_cell := f48, d_law_cell := PySem.W.fnOf "_law_cell" "_law_cell" (defArgs s_law_cell) (defBody s_law_cell) (defScope s_law_cell) .none kV48 dc48 pm48 an48 cd48 ct48 }
  let D6 : Td6 := { a_law_box := f49, d_law_box := PySem.W.fnOf "_law_box" "_law_box" (defArgs s_law_box) (defBody s_law_box) (defScope s_law_box) .none kV49 dc49 pm49 an49 cd49 ct49, a_law_take := f50, d_law_take := PySem.W.fnOf "_law_take" "_law_take" (defArgs s_law_take) (defBody s_law_take) (defScope s_law_take) .none kV50 dc50 pm50 an50 cd50 ct50, a_law_thing := f51, d_law_thing := PySem.W.fnOf "_law_thing" "_law_thing" (defArgs s_law_thing) (defBody s_law_thing) (defScope s_law_thing) .none kV51 dc51 pm51 an51 cd51 ct51, a_law_kinds := f52, d_law_kinds := PySem.W.fnOf "_law_kinds" "_law_kinds" (defArgs s_law_kinds) (defBody s_law_kinds) (defScope s_law_kinds) .none kV52 dc52 pm52 an52 cd52 ct52, a_law_made := f53, d_law_made := PySem.W.fnOf "_law_made" "_law_made" (defArgs s_law_made) (defBody s_law_made) (defScope s_law_made) .none kV53 dc53 pm53 an53 cd53 ct53, a_law_fields := f54, d_law_fields := PySem.W.fnOf "_law_fields" "_law_fields" (defArgs s_law_fields) (defBody s_law_fields) (defScope s_law_fields) .none kV54 dc54 pm54 an54 cd54 ct54, a_law_right := f55, d_law_right := PySem.W.fnOf "_law_right" "_law_right" (defArgs s_law_right) (defBody s_law_right) (defScope s_law_right) .none kV55 dc55 pm55 an55 cd55 ct55, a_law := f56, d_law := PySem.W.fnOf "law" "law" (defArgs s_law) (defBody s_law) (defScope s_law) .none kV56 dc56 pm56 an56 cd56 ct56 }
  let D : Td := { p0 := D0, p1 := D1, p2 := D2, p3 := D3, p4 := D4, p5 := D5, p6 := D6 }
  have q0 : Tp0 K mg D := {
    m_NoName := PySem.W.mg_of X G n_NoName,
    m_NoPlace := PySem.W.mg_of X G n_NoPlace,
    m_NoTrain := PySem.W.mg_of X G n_NoTrain,
    m_NoTrains := PySem.W.mg_of X G n_NoTrains,
    m_NoEnds := PySem.W.mg_of X G n_NoEnds,
    m_NoStretch := PySem.W.mg_of X G n_NoStretch,
    m_NoLong := PySem.W.mg_of X G n_NoLong,
    m_NoPlaces := PySem.W.mg_of X G n_NoPlaces,
    m_NoStretches := PySem.W.mg_of X G n_NoStretches,
    m_NoLongs := PySem.W.mg_of X G n_NoLongs,
    m_NoNumber := PySem.W.mg_of X G n_NoNumber,
    m_NoThing := PySem.W.mg_of X G n_NoThing,
    m_NoKind := PySem.W.mg_of X G n_NoKind,
    m_NoWord := PySem.W.mg_of X G n_NoWord,
    m_NoDeed := PySem.W.mg_of X G n_NoDeed,
    m_NoWay := PySem.W.mg_of X G n_NoWay,
    m_NoUse := PySem.W.mg_of X G n_NoUse,
    m_NoBooks := PySem.W.mg_of X G n_NoBooks,
    m_NoRows := PySem.W.mg_of X G n_NoRows,
    m_NoMove := PySem.W.mg_of X G n_NoMove,
    m_NoRuns := PySem.W.mg_of X G n_NoRuns,
    m_NoRun := PySem.W.mg_of X G n_NoRun,
    m_NoLine := PySem.W.mg_of X G n_NoLine,
    m_NoState := PySem.W.mg_of X G n_NoState }
  have q1 : Tp1 K mg D := {
    m_Twice := PySem.W.mg_of X G n_Twice,
    m_NotHere := PySem.W.mg_of X G n_NotHere,
    m_NotIn := PySem.W.mg_of X G n_NotIn,
    m_NotHeld := PySem.W.mg_of X G n_NotHeld,
    m_NotHelped := PySem.W.mg_of X G n_NotHelped,
    m_Full := PySem.W.mg_of X G n_Full,
    m_Lacks := PySem.W.mg_of X G n_Lacks,
    m_Shut := PySem.W.mg_of X G n_Shut,
    m_Held := PySem.W.mg_of X G n_Held,
    m_NotClear := PySem.W.mg_of X G n_NotClear,
    m_NoTickets := PySem.W.mg_of X G n_NoTickets,
    m_NoRight := PySem.W.mg_of X G n_NoRight,
    m_NotShut := PySem.W.mg_of X G n_NotShut,
    m_Taken := PySem.W.mg_of X G n_Taken,
    m_Boxed := PySem.W.mg_of X G n_Boxed,
    m_Silent := PySem.W.mg_of X G n_Silent,
    m_TooMany := PySem.W.mg_of X G n_TooMany,
    m_NoText := PySem.W.mg_of X G n_NoText,
    m_Gap := PySem.W.mg_of X G n_Gap,
    m_NotSo := PySem.W.mg_of X G n_NotSo,
    m_NoTrip := PySem.W.mg_of X G n_NoTrip,
    m_NoStart := PySem.W.mg_of X G n_NoStart,
    m_NoBack := PySem.W.mg_of X G n_NoBack,
    m_StaffError := PySem.W.mg_of X G n_StaffError }
  have q2 : Tp2 K mg D := {
    F_NoName_init := fun_mk (st := s_NoName_init) l1 c1 k1,
    B_NoName_init := (fun_mk (st := s_NoName_init) l1 c1 k1).binds (ps := ["self", "found"]) (fun _ _ _ _ _ _ us hl => match us, hl with | [_, _], _ => by kernel_rfl),
    F_NoPlace_init := fun_mk (st := s_NoPlace_init) l2 c2 k2,
    B_NoPlace_init := (fun_mk (st := s_NoPlace_init) l2 c2 k2).binds (ps := ["self", "found"]) (fun _ _ _ _ _ _ us hl => match us, hl with | [_, _], _ => by kernel_rfl),
    F_NoTrain_init := fun_mk (st := s_NoTrain_init) l3 c3 k3,
    B_NoTrain_init := (fun_mk (st := s_NoTrain_init) l3 c3 k3).binds (ps := ["self", "found"]) (fun _ _ _ _ _ _ us hl => match us, hl with | [_, _], _ => by kernel_rfl),
    F_NoTrains_init := fun_mk (st := s_NoTrains_init) l4 c4 k4,
    B_NoTrains_init := (fun_mk (st := s_NoTrains_init) l4 c4 k4).binds (ps := ["self", "found"]) (fun _ _ _ _ _ _ us hl => match us, hl with | [_, _], _ => by kernel_rfl),
    F_NoEnds_init := fun_mk (st := s_NoEnds_init) l5 c5 k5,
    B_NoEnds_init := (fun_mk (st := s_NoEnds_init) l5 c5 k5).binds (ps := ["self", "found"]) (fun _ _ _ _ _ _ us hl => match us, hl with | [_, _], _ => by kernel_rfl),
    F_NoStretch_init := fun_mk (st := s_NoStretch_init) l6 c6 k6,
    B_NoStretch_init := (fun_mk (st := s_NoStretch_init) l6 c6 k6).binds (ps := ["self", "found"]) (fun _ _ _ _ _ _ us hl => match us, hl with | [_, _], _ => by kernel_rfl),
    F_NoLong_init := fun_mk (st := s_NoLong_init) l7 c7 k7,
    B_NoLong_init := (fun_mk (st := s_NoLong_init) l7 c7 k7).binds (ps := ["self", "found"]) (fun _ _ _ _ _ _ us hl => match us, hl with | [_, _], _ => by kernel_rfl),
    F_NoPlaces_init := fun_mk (st := s_NoPlaces_init) l8 c8 k8,
    B_NoPlaces_init := (fun_mk (st := s_NoPlaces_init) l8 c8 k8).binds (ps := ["self", "found"]) (fun _ _ _ _ _ _ us hl => match us, hl with | [_, _], _ => by kernel_rfl),
    F_NoStretches_init := fun_mk (st := s_NoStretches_init) l9 c9 k9,
    B_NoStretches_init := (fun_mk (st := s_NoStretches_init) l9 c9 k9).binds (ps := ["self", "found"]) (fun _ _ _ _ _ _ us hl => match us, hl with | [_, _], _ => by kernel_rfl),
    F_NoLongs_init := fun_mk (st := s_NoLongs_init) l10 c10 k10,
    B_NoLongs_init := (fun_mk (st := s_NoLongs_init) l10 c10 k10).binds (ps := ["self", "found"]) (fun _ _ _ _ _ _ us hl => match us, hl with | [_, _], _ => by kernel_rfl),
    F_NoNumber_init := fun_mk (st := s_NoNumber_init) l11 c11 k11,
    B_NoNumber_init := (fun_mk (st := s_NoNumber_init) l11 c11 k11).binds (ps := ["self", "found"]) (fun _ _ _ _ _ _ us hl => match us, hl with | [_, _], _ => by kernel_rfl),
    F_NoThing_init := fun_mk (st := s_NoThing_init) l12 c12 k12,
    B_NoThing_init := (fun_mk (st := s_NoThing_init) l12 c12 k12).binds (ps := ["self", "found"]) (fun _ _ _ _ _ _ us hl => match us, hl with | [_, _], _ => by kernel_rfl) }
  have q3 : Tp3 K mg D := {
    F_NoKind_init := fun_mk (st := s_NoKind_init) l13 c13 k13,
    B_NoKind_init := (fun_mk (st := s_NoKind_init) l13 c13 k13).binds (ps := ["self", "found"]) (fun _ _ _ _ _ _ us hl => match us, hl with | [_, _], _ => by kernel_rfl),
    F_NoWord_init := fun_mk (st := s_NoWord_init) l14 c14 k14,
    B_NoWord_init := (fun_mk (st := s_NoWord_init) l14 c14 k14).binds (ps := ["self", "found"]) (fun _ _ _ _ _ _ us hl => match us, hl with | [_, _], _ => by kernel_rfl),
    F_NoDeed_init := fun_mk (st := s_NoDeed_init) l15 c15 k15,
    B_NoDeed_init := (fun_mk (st := s_NoDeed_init) l15 c15 k15).binds (ps := ["self", "found"]) (fun _ _ _ _ _ _ us hl => match us, hl with | [_, _], _ => by kernel_rfl),
    F_NoWay_init := fun_mk (st := s_NoWay_init) l16 c16 k16,
    B_NoWay_init := (fun_mk (st := s_NoWay_init) l16 c16 k16).binds (ps := ["self", "found"]) (fun _ _ _ _ _ _ us hl => match us, hl with | [_, _], _ => by kernel_rfl),
    F_NoUse_init := fun_mk (st := s_NoUse_init) l17 c17 k17,
    B_NoUse_init := (fun_mk (st := s_NoUse_init) l17 c17 k17).binds (ps := ["self", "found"]) (fun _ _ _ _ _ _ us hl => match us, hl with | [_, _], _ => by kernel_rfl),
    F_NoBooks_init := fun_mk (st := s_NoBooks_init) l18 c18 k18,
    B_NoBooks_init := (fun_mk (st := s_NoBooks_init) l18 c18 k18).binds (ps := ["self", "found"]) (fun _ _ _ _ _ _ us hl => match us, hl with | [_, _], _ => by kernel_rfl),
    F_NoRows_init := fun_mk (st := s_NoRows_init) l19 c19 k19,
    B_NoRows_init := (fun_mk (st := s_NoRows_init) l19 c19 k19).binds (ps := ["self", "found"]) (fun _ _ _ _ _ _ us hl => match us, hl with | [_, _], _ => by kernel_rfl),
    F_NoMove_init := fun_mk (st := s_NoMove_init) l20 c20 k20,
    B_NoMove_init := (fun_mk (st := s_NoMove_init) l20 c20 k20).binds (ps := ["self", "found"]) (fun _ _ _ _ _ _ us hl => match us, hl with | [_, _], _ => by kernel_rfl),
    F_NoRuns_init := fun_mk (st := s_NoRuns_init) l21 c21 k21,
    B_NoRuns_init := (fun_mk (st := s_NoRuns_init) l21 c21 k21).binds (ps := ["self", "found"]) (fun _ _ _ _ _ _ us hl => match us, hl with | [_, _], _ => by kernel_rfl),
    F_NoRun_init := fun_mk (st := s_NoRun_init) l22 c22 k22,
    B_NoRun_init := (fun_mk (st := s_NoRun_init) l22 c22 k22).binds (ps := ["self", "found"]) (fun _ _ _ _ _ _ us hl => match us, hl with | [_, _], _ => by kernel_rfl),
    F_NoLine_init := fun_mk (st := s_NoLine_init) l23 c23 k23,
    B_NoLine_init := (fun_mk (st := s_NoLine_init) l23 c23 k23).binds (ps := ["self", "found"]) (fun _ _ _ _ _ _ us hl => match us, hl with | [_, _], _ => by kernel_rfl),
    F_NoState_init := fun_mk (st := s_NoState_init) l24 c24 k24,
    B_NoState_init := (fun_mk (st := s_NoState_init) l24 c24 k24).binds (ps := ["self", "found"]) (fun _ _ _ _ _ _ us hl => match us, hl with | [_, _], _ => by kernel_rfl) }
  have q4 : Tp4 K mg D := {
    F_Twice_init := fun_mk (st := s_Twice_init) l25 c25 k25,
    B_Twice_init := (fun_mk (st := s_Twice_init) l25 c25 k25).binds (ps := ["self", "found"]) (fun _ _ _ _ _ _ us hl => match us, hl with | [_, _], _ => by kernel_rfl),
    F_NotHere_init := fun_mk (st := s_NotHere_init) l26 c26 k26,
    B_NotHere_init := (fun_mk (st := s_NotHere_init) l26 c26 k26).binds (ps := ["self", "found"]) (fun _ _ _ _ _ _ us hl => match us, hl with | [_, _], _ => by kernel_rfl),
    F_NotIn_init := fun_mk (st := s_NotIn_init) l27 c27 k27,
    B_NotIn_init := (fun_mk (st := s_NotIn_init) l27 c27 k27).binds (ps := ["self", "found"]) (fun _ _ _ _ _ _ us hl => match us, hl with | [_, _], _ => by kernel_rfl),
    F_NotHeld_init := fun_mk (st := s_NotHeld_init) l28 c28 k28,
    B_NotHeld_init := (fun_mk (st := s_NotHeld_init) l28 c28 k28).binds (ps := ["self", "found"]) (fun _ _ _ _ _ _ us hl => match us, hl with | [_, _], _ => by kernel_rfl),
    F_NotHelped_init := fun_mk (st := s_NotHelped_init) l29 c29 k29,
    B_NotHelped_init := (fun_mk (st := s_NotHelped_init) l29 c29 k29).binds (ps := ["self", "found"]) (fun _ _ _ _ _ _ us hl => match us, hl with | [_, _], _ => by kernel_rfl),
    F_Full_init := fun_mk (st := s_Full_init) l30 c30 k30,
    B_Full_init := (fun_mk (st := s_Full_init) l30 c30 k30).binds (ps := ["self", "found"]) (fun _ _ _ _ _ _ us hl => match us, hl with | [_, _], _ => by kernel_rfl),
    F_Lacks_init := fun_mk (st := s_Lacks_init) l31 c31 k31,
    B_Lacks_init := (fun_mk (st := s_Lacks_init) l31 c31 k31).binds (ps := ["self", "found"]) (fun _ _ _ _ _ _ us hl => match us, hl with | [_, _], _ => by kernel_rfl),
    F_Shut_init := fun_mk (st := s_Shut_init) l32 c32 k32,
    B_Shut_init := (fun_mk (st := s_Shut_init) l32 c32 k32).binds (ps := ["self", "found"]) (fun _ _ _ _ _ _ us hl => match us, hl with | [_, _], _ => by kernel_rfl),
    F_Held_init := fun_mk (st := s_Held_init) l33 c33 k33,
    B_Held_init := (fun_mk (st := s_Held_init) l33 c33 k33).binds (ps := ["self", "found"]) (fun _ _ _ _ _ _ us hl => match us, hl with | [_, _], _ => by kernel_rfl),
    F_NotClear_init := fun_mk (st := s_NotClear_init) l34 c34 k34,
    B_NotClear_init := (fun_mk (st := s_NotClear_init) l34 c34 k34).binds (ps := ["self", "found"]) (fun _ _ _ _ _ _ us hl => match us, hl with | [_, _], _ => by kernel_rfl),
    F_NoTickets_init := fun_mk (st := s_NoTickets_init) l35 c35 k35,
    B_NoTickets_init := (fun_mk (st := s_NoTickets_init) l35 c35 k35).binds (ps := ["self", "found"]) (fun _ _ _ _ _ _ us hl => match us, hl with | [_, _], _ => by kernel_rfl),
    F_NoRight_init := fun_mk (st := s_NoRight_init) l36 c36 k36,
    B_NoRight_init := (fun_mk (st := s_NoRight_init) l36 c36 k36).binds (ps := ["self", "found"]) (fun _ _ _ _ _ _ us hl => match us, hl with | [_, _], _ => by kernel_rfl) }
  have q5 : Tp5 K mg D := {
    F_NotShut_init := fun_mk (st := s_NotShut_init) l37 c37 k37,
    B_NotShut_init := (fun_mk (st := s_NotShut_init) l37 c37 k37).binds (ps := ["self", "found"]) (fun _ _ _ _ _ _ us hl => match us, hl with | [_, _], _ => by kernel_rfl),
    F_Taken_init := fun_mk (st := s_Taken_init) l38 c38 k38,
    B_Taken_init := (fun_mk (st := s_Taken_init) l38 c38 k38).binds (ps := ["self", "found"]) (fun _ _ _ _ _ _ us hl => match us, hl with | [_, _], _ => by kernel_rfl),
    F_Boxed_init := fun_mk (st := s_Boxed_init) l39 c39 k39,
    B_Boxed_init := (fun_mk (st := s_Boxed_init) l39 c39 k39).binds (ps := ["self", "found"]) (fun _ _ _ _ _ _ us hl => match us, hl with | [_, _], _ => by kernel_rfl),
    F_Silent_init := fun_mk (st := s_Silent_init) l40 c40 k40,
    B_Silent_init := (fun_mk (st := s_Silent_init) l40 c40 k40).binds (ps := ["self", "found"]) (fun _ _ _ _ _ _ us hl => match us, hl with | [_, _], _ => by kernel_rfl),
    F_TooMany_init := fun_mk (st := s_TooMany_init) l41 c41 k41,
    B_TooMany_init := (fun_mk (st := s_TooMany_init) l41 c41 k41).binds (ps := ["self", "many"]) (fun _ _ _ _ _ _ us hl => match us, hl with | [_, _], _ => by kernel_rfl),
    F_NoText_init := fun_mk (st := s_NoText_init) l42 c42 k42,
    B_NoText_init := (fun_mk (st := s_NoText_init) l42 c42 k42).binds (ps := ["self", "row"]) (fun _ _ _ _ _ _ us hl => match us, hl with | [_, _], _ => by kernel_rfl),
    F_Gap_init := fun_mk (st := s_Gap_init) l43 c43 k43,
    B_Gap_init := (fun_mk (st := s_Gap_init) l43 c43 k43).binds (ps := ["self", "number"]) (fun _ _ _ _ _ _ us hl => match us, hl with | [_, _], _ => by kernel_rfl),
    F_NotSo_init := fun_mk (st := s_NotSo_init) l44 c44 k44,
    B_NotSo_init := (fun_mk (st := s_NotSo_init) l44 c44 k44).binds (ps := ["self", "number"]) (fun _ _ _ _ _ _ us hl => match us, hl with | [_, _], _ => by kernel_rfl),
    F_NoTrip_init := fun_mk (st := s_NoTrip_init) l45 c45 k45,
    B_NoTrip_init := (fun_mk (st := s_NoTrip_init) l45 c45 k45).binds (ps := ["self", "run"]) (fun _ _ _ _ _ _ us hl => match us, hl with | [_, _], _ => by kernel_rfl),
    F_NoStart_init := fun_mk (st := s_NoStart_init) l46 c46 k46,
    B_NoStart_init := (fun_mk (st := s_NoStart_init) l46 c46 k46).binds (ps := ["self"]) (fun _ _ _ _ _ _ us hl => match us, hl with | [_], _ => by kernel_rfl),
    F_NoBack_init := fun_mk (st := s_NoBack_init) l47 c47 k47,
    B_NoBack_init := (fun_mk (st := s_NoBack_init) l47 c47 k47).binds (ps := ["self"]) (fun _ _ _ _ _ _ us hl => match us, hl with | [_], _ => by kernel_rfl),
    F_law_cell := fun_mk (st := s_law_cell) l48 c48 k48,
    B_law_cell := (fun_mk (st := s_law_cell) l48 c48 k48).binds (ps := ["_law_script", "_law_k"]) (fun _ _ _ _ _ _ us hl => match us, hl with | [_, _], _ => by kernel_rfl) }
  have q6 : Tp6 K mg D := {
    m_law_cell := PySem.W.mg_of X G a48,
    F_law_box := fun_mk (st := s_law_box) l49 c49 k49,
    B_law_box := (fun_mk (st := s_law_box) l49 c49 k49).binds (ps := ["_law_cell_here"]) (fun _ _ _ _ _ _ us hl => match us, hl with | [_], _ => by kernel_rfl),
    m_law_box := PySem.W.mg_of X G a49,
    F_law_take := fun_mk (st := s_law_take) l50 c50 k50,
    B_law_take := (fun_mk (st := s_law_take) l50 c50 k50).binds (ps := ["_law_box_here", "_law_many"]) (fun _ _ _ _ _ _ us hl => match us, hl with | [_, _], _ => by kernel_rfl),
    m_law_take := PySem.W.mg_of X G a50,
    F_law_thing := fun_mk (st := s_law_thing) l51 c51 k51,
    B_law_thing := (fun_mk (st := s_law_thing) l51 c51 k51).binds (ps := ["_law_box_here"]) (fun _ _ _ _ _ _ us hl => match us, hl with | [_], _ => by kernel_rfl),
    m_law_thing := PySem.W.mg_of X G a51,
    F_law_kinds := fun_mk (st := s_law_kinds) l52 c52 k52,
    B_law_kinds := (fun_mk (st := s_law_kinds) l52 c52 k52).binds (ps := ["_law_error"]) (fun _ _ _ _ _ _ us hl => match us, hl with | [_], _ => by kernel_rfl),
    m_law_kinds := PySem.W.mg_of X G a52,
    F_law_made := fun_mk (st := s_law_made) l53 c53 k53,
    B_law_made := (fun_mk (st := s_law_made) l53 c53 k53).binds (ps := ["_law_one", "_law_other"]) (fun _ _ _ _ _ _ us hl => match us, hl with | [_, _], _ => by kernel_rfl),
    m_law_made := PySem.W.mg_of X G a53,
    F_law_fields := fun_mk (st := s_law_fields) l54 c54 k54,
    B_law_fields := (fun_mk (st := s_law_fields) l54 c54 k54).binds (ps := ["_law_made_here"]) (fun _ _ _ _ _ _ us hl => match us, hl with | [_], _ => by kernel_rfl),
    m_law_fields := PySem.W.mg_of X G a54,
    F_law_right := fun_mk (st := s_law_right) l55 c55 k55,
    B_law_right := (fun_mk (st := s_law_right) l55 c55 k55).binds (ps := ["_law_box_here"]) (fun _ _ _ _ _ _ us hl => match us, hl with | [_], _ => by kernel_rfl),
    m_law_right := PySem.W.mg_of X G a55,
    F_law := fun_mk (st := s_law) l56 c56 k56,
    B_law := (fun_mk (st := s_law) l56 c56 k56).binds (ps := ["_law_script"]) (fun _ _ _ _ _ _ us hl => match us, hl with | [_], _ => by kernel_rfl) }
  have q7 : Tp7 K mg D := {
    m_law := PySem.W.mg_of X G a56,
    er_NoName := er_NoName,
    er_NoPlace := er_NoPlace,
    er_NoTrain := er_NoTrain,
    er_NoTrains := er_NoTrains,
    er_NoEnds := er_NoEnds,
    er_NoStretch := er_NoStretch,
    er_NoLong := er_NoLong,
    er_NoPlaces := er_NoPlaces,
    er_NoStretches := er_NoStretches,
    er_NoLongs := er_NoLongs,
    er_NoNumber := er_NoNumber,
    er_NoThing := er_NoThing,
    er_NoKind := er_NoKind,
    er_NoWord := er_NoWord,
    er_NoDeed := er_NoDeed,
    er_NoWay := er_NoWay,
    er_NoUse := er_NoUse,
    er_NoBooks := er_NoBooks,
    er_NoRows := er_NoRows,
    er_NoMove := er_NoMove,
    er_NoRuns := er_NoRuns,
    er_NoRun := er_NoRun,
    er_NoLine := er_NoLine }
  have q8 : Tp8 K mg D := {
    er_NoState := er_NoState,
    er_Twice := er_Twice,
    er_NotHere := er_NotHere,
    er_NotIn := er_NotIn,
    er_NotHeld := er_NotHeld,
    er_NotHelped := er_NotHelped,
    er_Full := er_Full,
    er_Lacks := er_Lacks,
    er_Shut := er_Shut,
    er_Held := er_Held,
    er_NotClear := er_NotClear,
    er_NoTickets := er_NoTickets,
    er_NoRight := er_NoRight,
    er_NotShut := er_NotShut,
    er_Taken := er_Taken,
    er_Boxed := er_Boxed,
    er_Silent := er_Silent,
    er_TooMany := er_TooMany,
    er_NoText := er_NoText,
    er_Gap := er_Gap,
    er_NotSo := er_NotSo,
    er_NoTrip := er_NoTrip,
    er_NoStart := er_NoStart,
    er_NoBack := er_NoBack }
  have q9 : Tp9 K mg D := {
    rd_StaffError := ⟨rd_StaffError, rg_StaffError⟩,
    vi_StaffError := vi_StaffError,
    oc_get := oc_get,
    oc_take := oc_take,
    xs_StaffError := xs_StaffError,
    kc_StaffError := kc_StaffError,
    ec_StaffError := excCB_ok ec_StaffError oc_get oc_take,
    tab := tabB_ok tab,
    z_ValueError := PySem.W.mg_none_of X G z_ValueError,
    z_dict := PySem.W.mg_none_of X G z_dict,
    z_enumerate := PySem.W.mg_none_of X G z_enumerate,
    z_isinstance := PySem.W.mg_none_of X G z_isinstance,
    z_len := PySem.W.mg_none_of X G z_len,
    z_list := PySem.W.mg_none_of X G z_list,
    z_max := PySem.W.mg_none_of X G z_max,
    z_min := PySem.W.mg_none_of X G z_min,
    z_range := PySem.W.mg_none_of X G z_range,
    z_repr := PySem.W.mg_none_of X G z_repr }
  let T : Tx K mg := { D := D, q0 := q0, q1 := q1, q2 := q2, q3 := q3, q4 := q4, q5 := q5, q6 := q6, q7 := q7, q8 := q8, q9 := q9 }
  rw [e]
  exact ⟨T.d_law, fun s v => .of_eq rfl, fun base _ _ hs => ok_law T hs⟩
set_option maxHeartbeats 0 in
theorem facts {l : PySem.W.OpenLaw} {w : World} {K : PySem.W.Frag} {h : Heap} {mg : Str → Option Value} {fa : Addr} (X : K.In h) (G : h.Ns mainGlobals mg) (hfa : mg "law" = some (.ref fa)) (c : U.obsU hcks hdefs K = He.valD hdefs) :
    ∃ fd : FuncData, (∀ (s : Shared) (v : Value), BindsTo s fd ⟨[v], []⟩ [("_law_script", v)]) ∧ ∀ base : Heap, K.In base → base.Ns mainGlobals mg → (∃ mm, base.Ns sysModules mm) → FnG l.prog w K mg base (L2.CX l.prog w) 5 fa fd ["_law_script"] (sp_law K) := by
  have n_NoName := of_decide_eq_true (show (decide (PySem.W.nsIn K mainGlobals "NoName" = some (some (.ref (He.ga K "NoName"))))) = true from U.ckU c 0 0 rfl rfl)
  have n_NoPlace := of_decide_eq_true (show (decide (PySem.W.nsIn K mainGlobals "NoPlace" = some (some (.ref (He.ga K "NoPlace"))))) = true from U.ckU c 0 1 rfl rfl)
  have n_NoTrain := of_decide_eq_true (show (decide (PySem.W.nsIn K mainGlobals "NoTrain" = some (some (.ref (He.ga K "NoTrain"))))) = true from U.ckU c 0 2 rfl rfl)
  have n_NoTrains := of_decide_eq_true (show (decide (PySem.W.nsIn K mainGlobals "NoTrains" = some (some (.ref (He.ga K "NoTrains"))))) = true from U.ckU c 0 3 rfl rfl)
  have n_NoEnds := of_decide_eq_true (show (decide (PySem.W.nsIn K mainGlobals "NoEnds" = some (some (.ref (He.ga K "NoEnds"))))) = true from U.ckU c 0 4 rfl rfl)
  have n_NoStretch := of_decide_eq_true (show (decide (PySem.W.nsIn K mainGlobals "NoStretch" = some (some (.ref (He.ga K "NoStretch"))))) = true from U.ckU c 0 5 rfl rfl)
  have n_NoLong := of_decide_eq_true (show (decide (PySem.W.nsIn K mainGlobals "NoLong" = some (some (.ref (He.ga K "NoLong"))))) = true from U.ckU c 0 6 rfl rfl)
  have n_NoPlaces := of_decide_eq_true (show (decide (PySem.W.nsIn K mainGlobals "NoPlaces" = some (some (.ref (He.ga K "NoPlaces"))))) = true from U.ckU c 0 7 rfl rfl)
  have n_NoStretches := of_decide_eq_true (show (decide (PySem.W.nsIn K mainGlobals "NoStretches" = some (some (.ref (He.ga K "NoStretches"))))) = true from U.ckU c 0 8 rfl rfl)
  have n_NoLongs := of_decide_eq_true (show (decide (PySem.W.nsIn K mainGlobals "NoLongs" = some (some (.ref (He.ga K "NoLongs"))))) = true from U.ckU c 0 9 rfl rfl)
  have n_NoNumber := of_decide_eq_true (show (decide (PySem.W.nsIn K mainGlobals "NoNumber" = some (some (.ref (He.ga K "NoNumber"))))) = true from U.ckU c 0 10 rfl rfl)
  have n_NoThing := of_decide_eq_true (show (decide (PySem.W.nsIn K mainGlobals "NoThing" = some (some (.ref (He.ga K "NoThing"))))) = true from U.ckU c 0 11 rfl rfl)
  have n_NoKind := of_decide_eq_true (show (decide (PySem.W.nsIn K mainGlobals "NoKind" = some (some (.ref (He.ga K "NoKind"))))) = true from U.ckU c 0 12 rfl rfl)
  have n_NoWord := of_decide_eq_true (show (decide (PySem.W.nsIn K mainGlobals "NoWord" = some (some (.ref (He.ga K "NoWord"))))) = true from U.ckU c 0 13 rfl rfl)
  have n_NoDeed := of_decide_eq_true (show (decide (PySem.W.nsIn K mainGlobals "NoDeed" = some (some (.ref (He.ga K "NoDeed"))))) = true from U.ckU c 0 14 rfl rfl)
  have n_NoWay := of_decide_eq_true (show (decide (PySem.W.nsIn K mainGlobals "NoWay" = some (some (.ref (He.ga K "NoWay"))))) = true from U.ckU c 0 15 rfl rfl)
  have n_NoUse := of_decide_eq_true (show (decide (PySem.W.nsIn K mainGlobals "NoUse" = some (some (.ref (He.ga K "NoUse"))))) = true from U.ckU c 0 16 rfl rfl)
  have n_NoBooks := of_decide_eq_true (show (decide (PySem.W.nsIn K mainGlobals "NoBooks" = some (some (.ref (He.ga K "NoBooks"))))) = true from U.ckU c 0 17 rfl rfl)
  have n_NoRows := of_decide_eq_true (show (decide (PySem.W.nsIn K mainGlobals "NoRows" = some (some (.ref (He.ga K "NoRows"))))) = true from U.ckU c 0 18 rfl rfl)
  have n_NoMove := of_decide_eq_true (show (decide (PySem.W.nsIn K mainGlobals "NoMove" = some (some (.ref (He.ga K "NoMove"))))) = true from U.ckU c 0 19 rfl rfl)
  have n_NoRuns := of_decide_eq_true (show (decide (PySem.W.nsIn K mainGlobals "NoRuns" = some (some (.ref (He.ga K "NoRuns"))))) = true from U.ckU c 1 0 rfl rfl)
  have n_NoRun := of_decide_eq_true (show (decide (PySem.W.nsIn K mainGlobals "NoRun" = some (some (.ref (He.ga K "NoRun"))))) = true from U.ckU c 1 1 rfl rfl)
  have n_NoLine := of_decide_eq_true (show (decide (PySem.W.nsIn K mainGlobals "NoLine" = some (some (.ref (He.ga K "NoLine"))))) = true from U.ckU c 1 2 rfl rfl)
  have n_NoState := of_decide_eq_true (show (decide (PySem.W.nsIn K mainGlobals "NoState" = some (some (.ref (He.ga K "NoState"))))) = true from U.ckU c 1 3 rfl rfl)
  have n_Twice := of_decide_eq_true (show (decide (PySem.W.nsIn K mainGlobals "Twice" = some (some (.ref (He.ga K "Twice"))))) = true from U.ckU c 1 4 rfl rfl)
  have n_NotHere := of_decide_eq_true (show (decide (PySem.W.nsIn K mainGlobals "NotHere" = some (some (.ref (He.ga K "NotHere"))))) = true from U.ckU c 1 5 rfl rfl)
  have n_NotIn := of_decide_eq_true (show (decide (PySem.W.nsIn K mainGlobals "NotIn" = some (some (.ref (He.ga K "NotIn"))))) = true from U.ckU c 1 6 rfl rfl)
  have n_NotHeld := of_decide_eq_true (show (decide (PySem.W.nsIn K mainGlobals "NotHeld" = some (some (.ref (He.ga K "NotHeld"))))) = true from U.ckU c 1 7 rfl rfl)
  have n_NotHelped := of_decide_eq_true (show (decide (PySem.W.nsIn K mainGlobals "NotHelped" = some (some (.ref (He.ga K "NotHelped"))))) = true from U.ckU c 1 8 rfl rfl)
  have n_Full := of_decide_eq_true (show (decide (PySem.W.nsIn K mainGlobals "Full" = some (some (.ref (He.ga K "Full"))))) = true from U.ckU c 1 9 rfl rfl)
  have n_Lacks := of_decide_eq_true (show (decide (PySem.W.nsIn K mainGlobals "Lacks" = some (some (.ref (He.ga K "Lacks"))))) = true from U.ckU c 1 10 rfl rfl)
  have n_Shut := of_decide_eq_true (show (decide (PySem.W.nsIn K mainGlobals "Shut" = some (some (.ref (He.ga K "Shut"))))) = true from U.ckU c 1 11 rfl rfl)
  have n_Held := of_decide_eq_true (show (decide (PySem.W.nsIn K mainGlobals "Held" = some (some (.ref (He.ga K "Held"))))) = true from U.ckU c 1 12 rfl rfl)
  have n_NotClear := of_decide_eq_true (show (decide (PySem.W.nsIn K mainGlobals "NotClear" = some (some (.ref (He.ga K "NotClear"))))) = true from U.ckU c 1 13 rfl rfl)
  have n_NoTickets := of_decide_eq_true (show (decide (PySem.W.nsIn K mainGlobals "NoTickets" = some (some (.ref (He.ga K "NoTickets"))))) = true from U.ckU c 1 14 rfl rfl)
  have n_NoRight := of_decide_eq_true (show (decide (PySem.W.nsIn K mainGlobals "NoRight" = some (some (.ref (He.ga K "NoRight"))))) = true from U.ckU c 1 15 rfl rfl)
  have n_NotShut := of_decide_eq_true (show (decide (PySem.W.nsIn K mainGlobals "NotShut" = some (some (.ref (He.ga K "NotShut"))))) = true from U.ckU c 1 16 rfl rfl)
  have n_Taken := of_decide_eq_true (show (decide (PySem.W.nsIn K mainGlobals "Taken" = some (some (.ref (He.ga K "Taken"))))) = true from U.ckU c 1 17 rfl rfl)
  have n_Boxed := of_decide_eq_true (show (decide (PySem.W.nsIn K mainGlobals "Boxed" = some (some (.ref (He.ga K "Boxed"))))) = true from U.ckU c 1 18 rfl rfl)
  have n_Silent := of_decide_eq_true (show (decide (PySem.W.nsIn K mainGlobals "Silent" = some (some (.ref (He.ga K "Silent"))))) = true from U.ckU c 1 19 rfl rfl)
  have n_TooMany := of_decide_eq_true (show (decide (PySem.W.nsIn K mainGlobals "TooMany" = some (some (.ref (He.ga K "TooMany"))))) = true from U.ckU c 2 0 rfl rfl)
  have n_NoText := of_decide_eq_true (show (decide (PySem.W.nsIn K mainGlobals "NoText" = some (some (.ref (He.ga K "NoText"))))) = true from U.ckU c 2 1 rfl rfl)
  have n_Gap := of_decide_eq_true (show (decide (PySem.W.nsIn K mainGlobals "Gap" = some (some (.ref (He.ga K "Gap"))))) = true from U.ckU c 2 2 rfl rfl)
  have n_NotSo := of_decide_eq_true (show (decide (PySem.W.nsIn K mainGlobals "NotSo" = some (some (.ref (He.ga K "NotSo"))))) = true from U.ckU c 2 3 rfl rfl)
  have n_NoTrip := of_decide_eq_true (show (decide (PySem.W.nsIn K mainGlobals "NoTrip" = some (some (.ref (He.ga K "NoTrip"))))) = true from U.ckU c 2 4 rfl rfl)
  have n_NoStart := of_decide_eq_true (show (decide (PySem.W.nsIn K mainGlobals "NoStart" = some (some (.ref (He.ga K "NoStart"))))) = true from U.ckU c 2 5 rfl rfl)
  have n_NoBack := of_decide_eq_true (show (decide (PySem.W.nsIn K mainGlobals "NoBack" = some (some (.ref (He.ga K "NoBack"))))) = true from U.ckU c 2 6 rfl rfl)
  have n_StaffError := of_decide_eq_true (show (decide (PySem.W.nsIn K mainGlobals "StaffError" = some (some (.ref (He.ga K "StaffError"))))) = true from U.ckU c 2 7 rfl rfl)
  have a1 := of_decide_eq_true (show (decide (PySem.W.findIn K (.ref (He.ga K "NoName")) "__init__" = some (some (.ref (He.ma K (He.ga K "NoName") "__init__"))))) = true from U.ckU c 2 8 rfl rfl)
  have a2 := of_decide_eq_true (show (decide (PySem.W.findIn K (.ref (He.ga K "NoPlace")) "__init__" = some (some (.ref (He.ma K (He.ga K "NoPlace") "__init__"))))) = true from U.ckU c 2 9 rfl rfl)
  have a3 := of_decide_eq_true (show (decide (PySem.W.findIn K (.ref (He.ga K "NoTrain")) "__init__" = some (some (.ref (He.ma K (He.ga K "NoTrain") "__init__"))))) = true from U.ckU c 2 10 rfl rfl)
  have a4 := of_decide_eq_true (show (decide (PySem.W.findIn K (.ref (He.ga K "NoTrains")) "__init__" = some (some (.ref (He.ma K (He.ga K "NoTrains") "__init__"))))) = true from U.ckU c 2 11 rfl rfl)
  have a5 := of_decide_eq_true (show (decide (PySem.W.findIn K (.ref (He.ga K "NoEnds")) "__init__" = some (some (.ref (He.ma K (He.ga K "NoEnds") "__init__"))))) = true from U.ckU c 2 12 rfl rfl)
  have a6 := of_decide_eq_true (show (decide (PySem.W.findIn K (.ref (He.ga K "NoStretch")) "__init__" = some (some (.ref (He.ma K (He.ga K "NoStretch") "__init__"))))) = true from U.ckU c 2 13 rfl rfl)
  have a7 := of_decide_eq_true (show (decide (PySem.W.findIn K (.ref (He.ga K "NoLong")) "__init__" = some (some (.ref (He.ma K (He.ga K "NoLong") "__init__"))))) = true from U.ckU c 2 14 rfl rfl)
  have a8 := of_decide_eq_true (show (decide (PySem.W.findIn K (.ref (He.ga K "NoPlaces")) "__init__" = some (some (.ref (He.ma K (He.ga K "NoPlaces") "__init__"))))) = true from U.ckU c 2 15 rfl rfl)
  have a9 := of_decide_eq_true (show (decide (PySem.W.findIn K (.ref (He.ga K "NoStretches")) "__init__" = some (some (.ref (He.ma K (He.ga K "NoStretches") "__init__"))))) = true from U.ckU c 2 16 rfl rfl)
  have a10 := of_decide_eq_true (show (decide (PySem.W.findIn K (.ref (He.ga K "NoLongs")) "__init__" = some (some (.ref (He.ma K (He.ga K "NoLongs") "__init__"))))) = true from U.ckU c 2 17 rfl rfl)
  have a11 := of_decide_eq_true (show (decide (PySem.W.findIn K (.ref (He.ga K "NoNumber")) "__init__" = some (some (.ref (He.ma K (He.ga K "NoNumber") "__init__"))))) = true from U.ckU c 2 18 rfl rfl)
  have a12 := of_decide_eq_true (show (decide (PySem.W.findIn K (.ref (He.ga K "NoThing")) "__init__" = some (some (.ref (He.ma K (He.ga K "NoThing") "__init__"))))) = true from U.ckU c 2 19 rfl rfl)
  have a13 := of_decide_eq_true (show (decide (PySem.W.findIn K (.ref (He.ga K "NoKind")) "__init__" = some (some (.ref (He.ma K (He.ga K "NoKind") "__init__"))))) = true from U.ckU c 3 0 rfl rfl)
  have a14 := of_decide_eq_true (show (decide (PySem.W.findIn K (.ref (He.ga K "NoWord")) "__init__" = some (some (.ref (He.ma K (He.ga K "NoWord") "__init__"))))) = true from U.ckU c 3 1 rfl rfl)
  have a15 := of_decide_eq_true (show (decide (PySem.W.findIn K (.ref (He.ga K "NoDeed")) "__init__" = some (some (.ref (He.ma K (He.ga K "NoDeed") "__init__"))))) = true from U.ckU c 3 2 rfl rfl)
  have a16 := of_decide_eq_true (show (decide (PySem.W.findIn K (.ref (He.ga K "NoWay")) "__init__" = some (some (.ref (He.ma K (He.ga K "NoWay") "__init__"))))) = true from U.ckU c 3 3 rfl rfl)
  have a17 := of_decide_eq_true (show (decide (PySem.W.findIn K (.ref (He.ga K "NoUse")) "__init__" = some (some (.ref (He.ma K (He.ga K "NoUse") "__init__"))))) = true from U.ckU c 3 4 rfl rfl)
  have a18 := of_decide_eq_true (show (decide (PySem.W.findIn K (.ref (He.ga K "NoBooks")) "__init__" = some (some (.ref (He.ma K (He.ga K "NoBooks") "__init__"))))) = true from U.ckU c 3 5 rfl rfl)
  have a19 := of_decide_eq_true (show (decide (PySem.W.findIn K (.ref (He.ga K "NoRows")) "__init__" = some (some (.ref (He.ma K (He.ga K "NoRows") "__init__"))))) = true from U.ckU c 3 6 rfl rfl)
  have a20 := of_decide_eq_true (show (decide (PySem.W.findIn K (.ref (He.ga K "NoMove")) "__init__" = some (some (.ref (He.ma K (He.ga K "NoMove") "__init__"))))) = true from U.ckU c 3 7 rfl rfl)
  have a21 := of_decide_eq_true (show (decide (PySem.W.findIn K (.ref (He.ga K "NoRuns")) "__init__" = some (some (.ref (He.ma K (He.ga K "NoRuns") "__init__"))))) = true from U.ckU c 3 8 rfl rfl)
  have a22 := of_decide_eq_true (show (decide (PySem.W.findIn K (.ref (He.ga K "NoRun")) "__init__" = some (some (.ref (He.ma K (He.ga K "NoRun") "__init__"))))) = true from U.ckU c 3 9 rfl rfl)
  have a23 := of_decide_eq_true (show (decide (PySem.W.findIn K (.ref (He.ga K "NoLine")) "__init__" = some (some (.ref (He.ma K (He.ga K "NoLine") "__init__"))))) = true from U.ckU c 3 10 rfl rfl)
  have a24 := of_decide_eq_true (show (decide (PySem.W.findIn K (.ref (He.ga K "NoState")) "__init__" = some (some (.ref (He.ma K (He.ga K "NoState") "__init__"))))) = true from U.ckU c 3 11 rfl rfl)
  have a25 := of_decide_eq_true (show (decide (PySem.W.findIn K (.ref (He.ga K "Twice")) "__init__" = some (some (.ref (He.ma K (He.ga K "Twice") "__init__"))))) = true from U.ckU c 3 12 rfl rfl)
  have a26 := of_decide_eq_true (show (decide (PySem.W.findIn K (.ref (He.ga K "NotHere")) "__init__" = some (some (.ref (He.ma K (He.ga K "NotHere") "__init__"))))) = true from U.ckU c 3 13 rfl rfl)
  have a27 := of_decide_eq_true (show (decide (PySem.W.findIn K (.ref (He.ga K "NotIn")) "__init__" = some (some (.ref (He.ma K (He.ga K "NotIn") "__init__"))))) = true from U.ckU c 3 14 rfl rfl)
  have a28 := of_decide_eq_true (show (decide (PySem.W.findIn K (.ref (He.ga K "NotHeld")) "__init__" = some (some (.ref (He.ma K (He.ga K "NotHeld") "__init__"))))) = true from U.ckU c 3 15 rfl rfl)
  have a29 := of_decide_eq_true (show (decide (PySem.W.findIn K (.ref (He.ga K "NotHelped")) "__init__" = some (some (.ref (He.ma K (He.ga K "NotHelped") "__init__"))))) = true from U.ckU c 3 16 rfl rfl)
  have a30 := of_decide_eq_true (show (decide (PySem.W.findIn K (.ref (He.ga K "Full")) "__init__" = some (some (.ref (He.ma K (He.ga K "Full") "__init__"))))) = true from U.ckU c 3 17 rfl rfl)
  have a31 := of_decide_eq_true (show (decide (PySem.W.findIn K (.ref (He.ga K "Lacks")) "__init__" = some (some (.ref (He.ma K (He.ga K "Lacks") "__init__"))))) = true from U.ckU c 3 18 rfl rfl)
  have a32 := of_decide_eq_true (show (decide (PySem.W.findIn K (.ref (He.ga K "Shut")) "__init__" = some (some (.ref (He.ma K (He.ga K "Shut") "__init__"))))) = true from U.ckU c 3 19 rfl rfl)
  have a33 := of_decide_eq_true (show (decide (PySem.W.findIn K (.ref (He.ga K "Held")) "__init__" = some (some (.ref (He.ma K (He.ga K "Held") "__init__"))))) = true from U.ckU c 4 0 rfl rfl)
  have a34 := of_decide_eq_true (show (decide (PySem.W.findIn K (.ref (He.ga K "NotClear")) "__init__" = some (some (.ref (He.ma K (He.ga K "NotClear") "__init__"))))) = true from U.ckU c 4 1 rfl rfl)
  have a35 := of_decide_eq_true (show (decide (PySem.W.findIn K (.ref (He.ga K "NoTickets")) "__init__" = some (some (.ref (He.ma K (He.ga K "NoTickets") "__init__"))))) = true from U.ckU c 4 2 rfl rfl)
  have a36 := of_decide_eq_true (show (decide (PySem.W.findIn K (.ref (He.ga K "NoRight")) "__init__" = some (some (.ref (He.ma K (He.ga K "NoRight") "__init__"))))) = true from U.ckU c 4 3 rfl rfl)
  have a37 := of_decide_eq_true (show (decide (PySem.W.findIn K (.ref (He.ga K "NotShut")) "__init__" = some (some (.ref (He.ma K (He.ga K "NotShut") "__init__"))))) = true from U.ckU c 4 4 rfl rfl)
  have a38 := of_decide_eq_true (show (decide (PySem.W.findIn K (.ref (He.ga K "Taken")) "__init__" = some (some (.ref (He.ma K (He.ga K "Taken") "__init__"))))) = true from U.ckU c 4 5 rfl rfl)
  have a39 := of_decide_eq_true (show (decide (PySem.W.findIn K (.ref (He.ga K "Boxed")) "__init__" = some (some (.ref (He.ma K (He.ga K "Boxed") "__init__"))))) = true from U.ckU c 4 6 rfl rfl)
  have a40 := of_decide_eq_true (show (decide (PySem.W.findIn K (.ref (He.ga K "Silent")) "__init__" = some (some (.ref (He.ma K (He.ga K "Silent") "__init__"))))) = true from U.ckU c 4 7 rfl rfl)
  have a41 := of_decide_eq_true (show (decide (PySem.W.findIn K (.ref (He.ga K "TooMany")) "__init__" = some (some (.ref (He.ma K (He.ga K "TooMany") "__init__"))))) = true from U.ckU c 4 8 rfl rfl)
  have a42 := of_decide_eq_true (show (decide (PySem.W.findIn K (.ref (He.ga K "NoText")) "__init__" = some (some (.ref (He.ma K (He.ga K "NoText") "__init__"))))) = true from U.ckU c 4 9 rfl rfl)
  have a43 := of_decide_eq_true (show (decide (PySem.W.findIn K (.ref (He.ga K "Gap")) "__init__" = some (some (.ref (He.ma K (He.ga K "Gap") "__init__"))))) = true from U.ckU c 4 10 rfl rfl)
  have a44 := of_decide_eq_true (show (decide (PySem.W.findIn K (.ref (He.ga K "NotSo")) "__init__" = some (some (.ref (He.ma K (He.ga K "NotSo") "__init__"))))) = true from U.ckU c 4 11 rfl rfl)
  have a45 := of_decide_eq_true (show (decide (PySem.W.findIn K (.ref (He.ga K "NoTrip")) "__init__" = some (some (.ref (He.ma K (He.ga K "NoTrip") "__init__"))))) = true from U.ckU c 4 12 rfl rfl)
  have a46 := of_decide_eq_true (show (decide (PySem.W.findIn K (.ref (He.ga K "NoStart")) "__init__" = some (some (.ref (He.ma K (He.ga K "NoStart") "__init__"))))) = true from U.ckU c 4 13 rfl rfl)
  have a47 := of_decide_eq_true (show (decide (PySem.W.findIn K (.ref (He.ga K "NoBack")) "__init__" = some (some (.ref (He.ma K (He.ga K "NoBack") "__init__"))))) = true from U.ckU c 4 14 rfl rfl)
  have a48 := of_decide_eq_true (show (decide (PySem.W.nsIn K mainGlobals "_law_cell" = some (some (.ref (He.ga K "_law_cell"))))) = true from U.ckU c 4 15 rfl rfl)
  have a49 := of_decide_eq_true (show (decide (PySem.W.nsIn K mainGlobals "_law_box" = some (some (.ref (He.ga K "_law_box"))))) = true from U.ckU c 4 16 rfl rfl)
  have a50 := of_decide_eq_true (show (decide (PySem.W.nsIn K mainGlobals "_law_take" = some (some (.ref (He.ga K "_law_take"))))) = true from U.ckU c 4 17 rfl rfl)
  have a51 := of_decide_eq_true (show (decide (PySem.W.nsIn K mainGlobals "_law_thing" = some (some (.ref (He.ga K "_law_thing"))))) = true from U.ckU c 4 18 rfl rfl)
  have a52 := of_decide_eq_true (show (decide (PySem.W.nsIn K mainGlobals "_law_kinds" = some (some (.ref (He.ga K "_law_kinds"))))) = true from U.ckU c 4 19 rfl rfl)
  have a53 := of_decide_eq_true (show (decide (PySem.W.nsIn K mainGlobals "_law_made" = some (some (.ref (He.ga K "_law_made"))))) = true from U.ckU c 5 0 rfl rfl)
  have a54 := of_decide_eq_true (show (decide (PySem.W.nsIn K mainGlobals "_law_fields" = some (some (.ref (He.ga K "_law_fields"))))) = true from U.ckU c 5 1 rfl rfl)
  have a55 := of_decide_eq_true (show (decide (PySem.W.nsIn K mainGlobals "_law_right" = some (some (.ref (He.ga K "_law_right"))))) = true from U.ckU c 5 2 rfl rfl)
  have a56 := of_decide_eq_true (show (decide (PySem.W.nsIn K mainGlobals "law" = some (some (.ref (He.ga K "law"))))) = true from U.ckU c 5 3 rfl rfl)
  have eb_NoName := (show (U.errB K (He.ga K "NoName") (He.ma K (He.ga K "NoName") "__init__") "found") = true from U.ckU c 5 4 rfl rfl)
  have eb_NoPlace := (show (U.errB K (He.ga K "NoPlace") (He.ma K (He.ga K "NoPlace") "__init__") "found") = true from U.ckU c 5 5 rfl rfl)
  have eb_NoTrain := (show (U.errB K (He.ga K "NoTrain") (He.ma K (He.ga K "NoTrain") "__init__") "found") = true from U.ckU c 5 6 rfl rfl)
  have eb_NoTrains := (show (U.errB K (He.ga K "NoTrains") (He.ma K (He.ga K "NoTrains") "__init__") "found") = true from U.ckU c 5 7 rfl rfl)
  have eb_NoEnds := (show (U.errB K (He.ga K "NoEnds") (He.ma K (He.ga K "NoEnds") "__init__") "found") = true from U.ckU c 5 8 rfl rfl)
  have eb_NoStretch := (show (U.errB K (He.ga K "NoStretch") (He.ma K (He.ga K "NoStretch") "__init__") "found") = true from U.ckU c 5 9 rfl rfl)
  have eb_NoLong := (show (U.errB K (He.ga K "NoLong") (He.ma K (He.ga K "NoLong") "__init__") "found") = true from U.ckU c 5 10 rfl rfl)
  have eb_NoPlaces := (show (U.errB K (He.ga K "NoPlaces") (He.ma K (He.ga K "NoPlaces") "__init__") "found") = true from U.ckU c 5 11 rfl rfl)
  have eb_NoStretches := (show (U.errB K (He.ga K "NoStretches") (He.ma K (He.ga K "NoStretches") "__init__") "found") = true from U.ckU c 5 12 rfl rfl)
  have eb_NoLongs := (show (U.errB K (He.ga K "NoLongs") (He.ma K (He.ga K "NoLongs") "__init__") "found") = true from U.ckU c 5 13 rfl rfl)
  have eb_NoNumber := (show (U.errB K (He.ga K "NoNumber") (He.ma K (He.ga K "NoNumber") "__init__") "found") = true from U.ckU c 5 14 rfl rfl)
  have eb_NoThing := (show (U.errB K (He.ga K "NoThing") (He.ma K (He.ga K "NoThing") "__init__") "found") = true from U.ckU c 5 15 rfl rfl)
  have eb_NoKind := (show (U.errB K (He.ga K "NoKind") (He.ma K (He.ga K "NoKind") "__init__") "found") = true from U.ckU c 5 16 rfl rfl)
  have eb_NoWord := (show (U.errB K (He.ga K "NoWord") (He.ma K (He.ga K "NoWord") "__init__") "found") = true from U.ckU c 5 17 rfl rfl)
  have eb_NoDeed := (show (U.errB K (He.ga K "NoDeed") (He.ma K (He.ga K "NoDeed") "__init__") "found") = true from U.ckU c 5 18 rfl rfl)
  have eb_NoWay := (show (U.errB K (He.ga K "NoWay") (He.ma K (He.ga K "NoWay") "__init__") "found") = true from U.ckU c 5 19 rfl rfl)
  have eb_NoUse := (show (U.errB K (He.ga K "NoUse") (He.ma K (He.ga K "NoUse") "__init__") "found") = true from U.ckU c 6 0 rfl rfl)
  have eb_NoBooks := (show (U.errB K (He.ga K "NoBooks") (He.ma K (He.ga K "NoBooks") "__init__") "found") = true from U.ckU c 6 1 rfl rfl)
  have eb_NoRows := (show (U.errB K (He.ga K "NoRows") (He.ma K (He.ga K "NoRows") "__init__") "found") = true from U.ckU c 6 2 rfl rfl)
  have eb_NoMove := (show (U.errB K (He.ga K "NoMove") (He.ma K (He.ga K "NoMove") "__init__") "found") = true from U.ckU c 6 3 rfl rfl)
  have eb_NoRuns := (show (U.errB K (He.ga K "NoRuns") (He.ma K (He.ga K "NoRuns") "__init__") "found") = true from U.ckU c 6 4 rfl rfl)
  have eb_NoRun := (show (U.errB K (He.ga K "NoRun") (He.ma K (He.ga K "NoRun") "__init__") "found") = true from U.ckU c 6 5 rfl rfl)
  have eb_NoLine := (show (U.errB K (He.ga K "NoLine") (He.ma K (He.ga K "NoLine") "__init__") "found") = true from U.ckU c 6 6 rfl rfl)
  have eb_NoState := (show (U.errB K (He.ga K "NoState") (He.ma K (He.ga K "NoState") "__init__") "found") = true from U.ckU c 6 7 rfl rfl)
  have eb_Twice := (show (U.errB K (He.ga K "Twice") (He.ma K (He.ga K "Twice") "__init__") "found") = true from U.ckU c 6 8 rfl rfl)
  have eb_NotHere := (show (U.errB K (He.ga K "NotHere") (He.ma K (He.ga K "NotHere") "__init__") "found") = true from U.ckU c 6 9 rfl rfl)
  have eb_NotIn := (show (U.errB K (He.ga K "NotIn") (He.ma K (He.ga K "NotIn") "__init__") "found") = true from U.ckU c 6 10 rfl rfl)
  have eb_NotHeld := (show (U.errB K (He.ga K "NotHeld") (He.ma K (He.ga K "NotHeld") "__init__") "found") = true from U.ckU c 6 11 rfl rfl)
  have eb_NotHelped := (show (U.errB K (He.ga K "NotHelped") (He.ma K (He.ga K "NotHelped") "__init__") "found") = true from U.ckU c 6 12 rfl rfl)
  have eb_Full := (show (U.errB K (He.ga K "Full") (He.ma K (He.ga K "Full") "__init__") "found") = true from U.ckU c 6 13 rfl rfl)
  have eb_Lacks := (show (U.errB K (He.ga K "Lacks") (He.ma K (He.ga K "Lacks") "__init__") "found") = true from U.ckU c 6 14 rfl rfl)
  have eb_Shut := (show (U.errB K (He.ga K "Shut") (He.ma K (He.ga K "Shut") "__init__") "found") = true from U.ckU c 6 15 rfl rfl)
  have eb_Held := (show (U.errB K (He.ga K "Held") (He.ma K (He.ga K "Held") "__init__") "found") = true from U.ckU c 6 16 rfl rfl)
  have eb_NotClear := (show (U.errB K (He.ga K "NotClear") (He.ma K (He.ga K "NotClear") "__init__") "found") = true from U.ckU c 6 17 rfl rfl)
  have eb_NoTickets := (show (U.errB K (He.ga K "NoTickets") (He.ma K (He.ga K "NoTickets") "__init__") "found") = true from U.ckU c 6 18 rfl rfl)
  have eb_NoRight := (show (U.errB K (He.ga K "NoRight") (He.ma K (He.ga K "NoRight") "__init__") "found") = true from U.ckU c 6 19 rfl rfl)
  have eb_NotShut := (show (U.errB K (He.ga K "NotShut") (He.ma K (He.ga K "NotShut") "__init__") "found") = true from U.ckU c 7 0 rfl rfl)
  have eb_Taken := (show (U.errB K (He.ga K "Taken") (He.ma K (He.ga K "Taken") "__init__") "found") = true from U.ckU c 7 1 rfl rfl)
  have eb_Boxed := (show (U.errB K (He.ga K "Boxed") (He.ma K (He.ga K "Boxed") "__init__") "found") = true from U.ckU c 7 2 rfl rfl)
  have eb_Silent := (show (U.errB K (He.ga K "Silent") (He.ma K (He.ga K "Silent") "__init__") "found") = true from U.ckU c 7 3 rfl rfl)
  have eb_TooMany := (show (U.errB K (He.ga K "TooMany") (He.ma K (He.ga K "TooMany") "__init__") "many") = true from U.ckU c 7 4 rfl rfl)
  have eb_NoText := (show (U.errB K (He.ga K "NoText") (He.ma K (He.ga K "NoText") "__init__") "row") = true from U.ckU c 7 5 rfl rfl)
  have eb_Gap := (show (U.errB K (He.ga K "Gap") (He.ma K (He.ga K "Gap") "__init__") "number") = true from U.ckU c 7 6 rfl rfl)
  have eb_NotSo := (show (U.errB K (He.ga K "NotSo") (He.ma K (He.ga K "NotSo") "__init__") "number") = true from U.ckU c 7 7 rfl rfl)
  have eb_NoTrip := (show (U.errB K (He.ga K "NoTrip") (He.ma K (He.ga K "NoTrip") "__init__") "run") = true from U.ckU c 7 8 rfl rfl)
  have eb_NoStart := (show (U.errB K (He.ga K "NoStart") (He.ma K (He.ga K "NoStart") "__init__") "found") = true from U.ckU c 7 9 rfl rfl)
  have eb_NoBack := (show (U.errB K (He.ga K "NoBack") (He.ma K (He.ga K "NoBack") "__init__") "found") = true from U.ckU c 7 10 rfl rfl)
  have rd_StaffError := (show (PySem.W.readsIn K (He.ga K "StaffError") (.type "type")) = true from U.ckU c 7 11 rfl rfl)
  have rg_StaffError := of_decide_eq_true (show (decide (PySem.W.specialIn K (.ref (He.ga K "StaffError")) "__getattribute__" = some (some (.builtin "type.__getattribute__")))) = true from U.ckU c 7 12 rfl rfl)
  have vi_StaffError := (show (U.isVal (PySem.W.findCls K (.ref (He.ga K "StaffError")) (.type "type") "__init__") (.builtin "ValueError.__init__")) = true from U.ckU c 7 13 rfl rfl)
  have oc_get := of_decide_eq_true (show (decide (PySem.W.specialIn K (.builtin "object.__class__") "__get__" = some (some (.builtin "getset_descriptor.__get__")))) = true from U.ckU c 7 14 rfl rfl)
  have oc_take := of_decide_eq_true (show (decide (PySem.W.takesIn K (.builtin "object.__class__") = some true)) = true from U.ckU c 7 15 rfl rfl)
  have xs_StaffError := (show (PySem.W.excIn K (He.ga K "StaffError") [.type "ValueError", .type "Exception", .type "BaseException", .type "object"] "ValueError.__new__") = true from U.ckU c 7 16 rfl rfl)
  have kc_StaffError := (show (PySem.W.keepIn K (.ref (He.ga K "StaffError"))) = true from U.ckU c 7 17 rfl rfl)
  have ec_StaffError := (show (U.excCB K (He.ga K "StaffError")) = true from U.ckU c 7 18 rfl rfl)
  have tab := (show (U.tabB K (He.ga K "StaffError") [(He.ga K "NoName"), (He.ga K "NoPlace"), (He.ga K "NoTrain"), (He.ga K "NoTrains"), (He.ga K "NoEnds"), (He.ga K "NoStretch"), (He.ga K "NoLong"), (He.ga K "NoPlaces"), (He.ga K "NoStretches"), (He.ga K "NoLongs"), (He.ga K "NoNumber"), (He.ga K "NoThing"), (He.ga K "NoKind"), (He.ga K "NoWord"), (He.ga K "NoDeed"), (He.ga K "NoWay"), (He.ga K "NoUse"), (He.ga K "NoBooks"), (He.ga K "NoRows"), (He.ga K "NoMove"), (He.ga K "NoRuns"), (He.ga K "NoRun"), (He.ga K "NoLine"), (He.ga K "NoState"), (He.ga K "Twice"), (He.ga K "NotHere"), (He.ga K "NotIn"), (He.ga K "NotHeld"), (He.ga K "NotHelped"), (He.ga K "Full"), (He.ga K "Lacks"), (He.ga K "Shut"), (He.ga K "Held"), (He.ga K "NotClear"), (He.ga K "NoTickets"), (He.ga K "NoRight"), (He.ga K "NotShut"), (He.ga K "Taken"), (He.ga K "Boxed"), (He.ga K "Silent"), (He.ga K "TooMany"), (He.ga K "NoText"), (He.ga K "Gap"), (He.ga K "NotSo"), (He.ga K "NoTrip"), (He.ga K "NoStart"), (He.ga K "NoBack")]) = true from U.ckU c 7 19 rfl rfl)
  have z_ValueError := of_decide_eq_true (show (decide (PySem.W.nsIn K mainGlobals "ValueError" = some none)) = true from U.ckU c 8 0 rfl rfl)
  have z_dict := of_decide_eq_true (show (decide (PySem.W.nsIn K mainGlobals "dict" = some none)) = true from U.ckU c 8 1 rfl rfl)
  have z_enumerate := of_decide_eq_true (show (decide (PySem.W.nsIn K mainGlobals "enumerate" = some none)) = true from U.ckU c 8 2 rfl rfl)
  have z_isinstance := of_decide_eq_true (show (decide (PySem.W.nsIn K mainGlobals "isinstance" = some none)) = true from U.ckU c 8 3 rfl rfl)
  have z_len := of_decide_eq_true (show (decide (PySem.W.nsIn K mainGlobals "len" = some none)) = true from U.ckU c 8 4 rfl rfl)
  have z_list := of_decide_eq_true (show (decide (PySem.W.nsIn K mainGlobals "list" = some none)) = true from U.ckU c 8 5 rfl rfl)
  have z_max := of_decide_eq_true (show (decide (PySem.W.nsIn K mainGlobals "max" = some none)) = true from U.ckU c 8 6 rfl rfl)
  have z_min := of_decide_eq_true (show (decide (PySem.W.nsIn K mainGlobals "min" = some none)) = true from U.ckU c 8 7 rfl rfl)
  have z_range := of_decide_eq_true (show (decide (PySem.W.nsIn K mainGlobals "range" = some none)) = true from U.ckU c 8 8 rfl rfl)
  have z_repr := of_decide_eq_true (show (decide (PySem.W.nsIn K mainGlobals "repr" = some none)) = true from U.ckU c 8 9 rfl rfl)
  obtain ⟨_, _, _, _, _, _, _, _, _, l1, c1, k1⟩ := U.def0 (U.defU c 0 (d := d1) rfl)
  obtain ⟨_, _, _, _, _, _, _, _, _, l2, c2, k2⟩ := U.def0 (U.defU c 1 (d := d2) rfl)
  obtain ⟨_, _, _, _, _, _, _, _, _, l3, c3, k3⟩ := U.def0 (U.defU c 2 (d := d3) rfl)
  obtain ⟨_, _, _, _, _, _, _, _, _, l4, c4, k4⟩ := U.def0 (U.defU c 3 (d := d4) rfl)
  obtain ⟨_, _, _, _, _, _, _, _, _, l5, c5, k5⟩ := U.def0 (U.defU c 4 (d := d5) rfl)
  obtain ⟨_, _, _, _, _, _, _, _, _, l6, c6, k6⟩ := U.def0 (U.defU c 5 (d := d6) rfl)
  obtain ⟨_, _, _, _, _, _, _, _, _, l7, c7, k7⟩ := U.def0 (U.defU c 6 (d := d7) rfl)
  obtain ⟨_, _, _, _, _, _, _, _, _, l8, c8, k8⟩ := U.def0 (U.defU c 7 (d := d8) rfl)
  obtain ⟨_, _, _, _, _, _, _, _, _, l9, c9, k9⟩ := U.def0 (U.defU c 8 (d := d9) rfl)
  obtain ⟨_, _, _, _, _, _, _, _, _, l10, c10, k10⟩ := U.def0 (U.defU c 9 (d := d10) rfl)
  obtain ⟨_, _, _, _, _, _, _, _, _, l11, c11, k11⟩ := U.def0 (U.defU c 10 (d := d11) rfl)
  obtain ⟨_, _, _, _, _, _, _, _, _, l12, c12, k12⟩ := U.def0 (U.defU c 11 (d := d12) rfl)
  obtain ⟨_, _, _, _, _, _, _, _, _, l13, c13, k13⟩ := U.def0 (U.defU c 12 (d := d13) rfl)
  obtain ⟨_, _, _, _, _, _, _, _, _, l14, c14, k14⟩ := U.def0 (U.defU c 13 (d := d14) rfl)
  obtain ⟨_, _, _, _, _, _, _, _, _, l15, c15, k15⟩ := U.def0 (U.defU c 14 (d := d15) rfl)
  obtain ⟨_, _, _, _, _, _, _, _, _, l16, c16, k16⟩ := U.def0 (U.defU c 15 (d := d16) rfl)
  obtain ⟨_, _, _, _, _, _, _, _, _, l17, c17, k17⟩ := U.def0 (U.defU c 16 (d := d17) rfl)
  obtain ⟨_, _, _, _, _, _, _, _, _, l18, c18, k18⟩ := U.def0 (U.defU c 17 (d := d18) rfl)
  obtain ⟨_, _, _, _, _, _, _, _, _, l19, c19, k19⟩ := U.def0 (U.defU c 18 (d := d19) rfl)
  obtain ⟨_, _, _, _, _, _, _, _, _, l20, c20, k20⟩ := U.def0 (U.defU c 19 (d := d20) rfl)
  obtain ⟨_, _, _, _, _, _, _, _, _, l21, c21, k21⟩ := U.def0 (U.defU c 20 (d := d21) rfl)
  obtain ⟨_, _, _, _, _, _, _, _, _, l22, c22, k22⟩ := U.def0 (U.defU c 21 (d := d22) rfl)
  obtain ⟨_, _, _, _, _, _, _, _, _, l23, c23, k23⟩ := U.def0 (U.defU c 22 (d := d23) rfl)
  obtain ⟨_, _, _, _, _, _, _, _, _, l24, c24, k24⟩ := U.def0 (U.defU c 23 (d := d24) rfl)
  obtain ⟨_, _, _, _, _, _, _, _, _, l25, c25, k25⟩ := U.def0 (U.defU c 24 (d := d25) rfl)
  obtain ⟨_, _, _, _, _, _, _, _, _, l26, c26, k26⟩ := U.def0 (U.defU c 25 (d := d26) rfl)
  obtain ⟨_, _, _, _, _, _, _, _, _, l27, c27, k27⟩ := U.def0 (U.defU c 26 (d := d27) rfl)
  obtain ⟨_, _, _, _, _, _, _, _, _, l28, c28, k28⟩ := U.def0 (U.defU c 27 (d := d28) rfl)
  obtain ⟨_, _, _, _, _, _, _, _, _, l29, c29, k29⟩ := U.def0 (U.defU c 28 (d := d29) rfl)
  obtain ⟨_, _, _, _, _, _, _, _, _, l30, c30, k30⟩ := U.def0 (U.defU c 29 (d := d30) rfl)
  obtain ⟨_, _, _, _, _, _, _, _, _, l31, c31, k31⟩ := U.def0 (U.defU c 30 (d := d31) rfl)
  obtain ⟨_, _, _, _, _, _, _, _, _, l32, c32, k32⟩ := U.def0 (U.defU c 31 (d := d32) rfl)
  obtain ⟨_, _, _, _, _, _, _, _, _, l33, c33, k33⟩ := U.def0 (U.defU c 32 (d := d33) rfl)
  obtain ⟨_, _, _, _, _, _, _, _, _, l34, c34, k34⟩ := U.def0 (U.defU c 33 (d := d34) rfl)
  obtain ⟨_, _, _, _, _, _, _, _, _, l35, c35, k35⟩ := U.def0 (U.defU c 34 (d := d35) rfl)
  obtain ⟨_, _, _, _, _, _, _, _, _, l36, c36, k36⟩ := U.def0 (U.defU c 35 (d := d36) rfl)
  obtain ⟨_, _, _, _, _, _, _, _, _, l37, c37, k37⟩ := U.def0 (U.defU c 36 (d := d37) rfl)
  obtain ⟨_, _, _, _, _, _, _, _, _, l38, c38, k38⟩ := U.def0 (U.defU c 37 (d := d38) rfl)
  obtain ⟨_, _, _, _, _, _, _, _, _, l39, c39, k39⟩ := U.def0 (U.defU c 38 (d := d39) rfl)
  obtain ⟨_, _, _, _, _, _, _, _, _, l40, c40, k40⟩ := U.def0 (U.defU c 39 (d := d40) rfl)
  obtain ⟨_, _, _, _, _, _, _, _, _, l41, c41, k41⟩ := U.def0 (U.defU c 40 (d := d41) rfl)
  obtain ⟨_, _, _, _, _, _, _, _, _, l42, c42, k42⟩ := U.def0 (U.defU c 41 (d := d42) rfl)
  obtain ⟨_, _, _, _, _, _, _, _, _, l43, c43, k43⟩ := U.def0 (U.defU c 42 (d := d43) rfl)
  obtain ⟨_, _, _, _, _, _, _, _, _, l44, c44, k44⟩ := U.def0 (U.defU c 43 (d := d44) rfl)
  obtain ⟨_, _, _, _, _, _, _, _, _, l45, c45, k45⟩ := U.def0 (U.defU c 44 (d := d45) rfl)
  obtain ⟨_, _, _, _, _, _, _, _, _, l46, c46, k46⟩ := U.def0 (U.defU c 45 (d := d46) rfl)
  obtain ⟨_, _, _, _, _, _, _, _, _, l47, c47, k47⟩ := U.def0 (U.defU c 46 (d := d47) rfl)
  obtain ⟨_, _, _, _, _, _, _, _, _, l48, c48, k48⟩ := U.def0 (U.defU c 47 (d := d48) rfl)
  obtain ⟨_, _, _, _, _, _, _, _, _, l49, c49, k49⟩ := U.def0 (U.defU c 48 (d := d49) rfl)
  obtain ⟨_, _, _, _, _, _, _, _, _, l50, c50, k50⟩ := U.def0 (U.defU c 49 (d := d50) rfl)
  obtain ⟨_, _, _, _, _, _, _, _, _, l51, c51, k51⟩ := U.def0 (U.defU c 50 (d := d51) rfl)
  obtain ⟨_, _, _, _, _, _, _, _, _, l52, c52, k52⟩ := U.def0 (U.defU c 51 (d := d52) rfl)
  obtain ⟨_, _, _, _, _, _, _, _, _, l53, c53, k53⟩ := U.def0 (U.defU c 52 (d := d53) rfl)
  obtain ⟨_, _, _, _, _, _, _, _, _, l54, c54, k54⟩ := U.def0 (U.defU c 53 (d := d54) rfl)
  obtain ⟨_, _, _, _, _, _, _, _, _, l55, c55, k55⟩ := U.def0 (U.defU c 54 (d := d55) rfl)
  obtain ⟨_, _, _, _, _, _, _, _, _, l56, c56, k56⟩ := U.def0 (U.defU c 55 (d := d56) rfl)
  have er_NoName := U.errB_ok eb_NoName
  have er_NoPlace := U.errB_ok eb_NoPlace
  have er_NoTrain := U.errB_ok eb_NoTrain
  have er_NoTrains := U.errB_ok eb_NoTrains
  have er_NoEnds := U.errB_ok eb_NoEnds
  have er_NoStretch := U.errB_ok eb_NoStretch
  have er_NoLong := U.errB_ok eb_NoLong
  have er_NoPlaces := U.errB_ok eb_NoPlaces
  have er_NoStretches := U.errB_ok eb_NoStretches
  have er_NoLongs := U.errB_ok eb_NoLongs
  have er_NoNumber := U.errB_ok eb_NoNumber
  have er_NoThing := U.errB_ok eb_NoThing
  have er_NoKind := U.errB_ok eb_NoKind
  have er_NoWord := U.errB_ok eb_NoWord
  have er_NoDeed := U.errB_ok eb_NoDeed
  have er_NoWay := U.errB_ok eb_NoWay
  have er_NoUse := U.errB_ok eb_NoUse
  have er_NoBooks := U.errB_ok eb_NoBooks
  have er_NoRows := U.errB_ok eb_NoRows
  have er_NoMove := U.errB_ok eb_NoMove
  have er_NoRuns := U.errB_ok eb_NoRuns
  have er_NoRun := U.errB_ok eb_NoRun
  have er_NoLine := U.errB_ok eb_NoLine
  have er_NoState := U.errB_ok eb_NoState
  have er_Twice := U.errB_ok eb_Twice
  have er_NotHere := U.errB_ok eb_NotHere
  have er_NotIn := U.errB_ok eb_NotIn
  have er_NotHeld := U.errB_ok eb_NotHeld
  have er_NotHelped := U.errB_ok eb_NotHelped
  have er_Full := U.errB_ok eb_Full
  have er_Lacks := U.errB_ok eb_Lacks
  have er_Shut := U.errB_ok eb_Shut
  have er_Held := U.errB_ok eb_Held
  have er_NotClear := U.errB_ok eb_NotClear
  have er_NoTickets := U.errB_ok eb_NoTickets
  have er_NoRight := U.errB_ok eb_NoRight
  have er_NotShut := U.errB_ok eb_NotShut
  have er_Taken := U.errB_ok eb_Taken
  have er_Boxed := U.errB_ok eb_Boxed
  have er_Silent := U.errB_ok eb_Silent
  have er_TooMany := U.errB_ok eb_TooMany
  have er_NoText := U.errB_ok eb_NoText
  have er_Gap := U.errB_ok eb_Gap
  have er_NotSo := U.errB_ok eb_NotSo
  have er_NoTrip := U.errB_ok eb_NoTrip
  have er_NoStart := U.errB_ok eb_NoStart
  have er_NoBack := U.errB_ok eb_NoBack
  exact all_mk X G hfa n_NoName n_NoPlace n_NoTrain n_NoTrains n_NoEnds n_NoStretch n_NoLong n_NoPlaces n_NoStretches n_NoLongs n_NoNumber n_NoThing n_NoKind n_NoWord n_NoDeed n_NoWay n_NoUse n_NoBooks n_NoRows n_NoMove n_NoRuns n_NoRun n_NoLine n_NoState n_Twice n_NotHere n_NotIn n_NotHeld n_NotHelped n_Full n_Lacks n_Shut n_Held n_NotClear n_NoTickets n_NoRight n_NotShut n_Taken n_Boxed n_Silent n_TooMany n_NoText n_Gap n_NotSo n_NoTrip n_NoStart n_NoBack n_StaffError a1 l1 c1 k1 a2 l2 c2 k2 a3 l3 c3 k3 a4 l4 c4 k4 a5 l5 c5 k5 a6 l6 c6 k6 a7 l7 c7 k7 a8 l8 c8 k8 a9 l9 c9 k9 a10 l10 c10 k10 a11 l11 c11 k11 a12 l12 c12 k12 a13 l13 c13 k13 a14 l14 c14 k14 a15 l15 c15 k15 a16 l16 c16 k16 a17 l17 c17 k17 a18 l18 c18 k18 a19 l19 c19 k19 a20 l20 c20 k20 a21 l21 c21 k21 a22 l22 c22 k22 a23 l23 c23 k23 a24 l24 c24 k24 a25 l25 c25 k25 a26 l26 c26 k26 a27 l27 c27 k27 a28 l28 c28 k28 a29 l29 c29 k29 a30 l30 c30 k30 a31 l31 c31 k31 a32 l32 c32 k32 a33 l33 c33 k33 a34 l34 c34 k34 a35 l35 c35 k35 a36 l36 c36 k36 a37 l37 c37 k37 a38 l38 c38 k38 a39 l39 c39 k39 a40 l40 c40 k40 a41 l41 c41 k41 a42 l42 c42 k42 a43 l43 c43 k43 a44 l44 c44 k44 a45 l45 c45 k45 a46 l46 c46 k46 a47 l47 c47 k47 a48 l48 c48 k48 a49 l49 c49 k49 a50 l50 c50 k50 a51 l51 c51 k51 a52 l52 c52 k52 a53 l53 c53 k53 a54 l54 c54 k54 a55 l55 c55 k55 a56 l56 c56 k56 er_NoName er_NoPlace er_NoTrain er_NoTrains er_NoEnds er_NoStretch er_NoLong er_NoPlaces er_NoStretches er_NoLongs er_NoNumber er_NoThing er_NoKind er_NoWord er_NoDeed er_NoWay er_NoUse er_NoBooks er_NoRows er_NoMove er_NoRuns er_NoRun er_NoLine er_NoState er_Twice er_NotHere er_NotIn er_NotHeld er_NotHelped er_Full er_Lacks er_Shut er_Held er_NotClear er_NoTickets er_NoRight er_NotShut er_Taken er_Boxed er_Silent er_TooMany er_NoText er_Gap er_NotSo er_NoTrip er_NoStart er_NoBack rd_StaffError rg_StaffError (U.isVal_ok vi_StaffError) oc_get oc_take xs_StaffError kc_StaffError ec_StaffError tab z_ValueError z_dict z_enumerate z_isinstance z_len z_list z_max z_min z_range z_repr
theorem walk {q : Program} {lo : List Str} {XP : (Str → Option Value) → Heap → Prop} {d : DefRec} (hdf : d.params.defaults = []) (hdn : d.name = ("law" : Str)) (hi : PyProof.Rows.importsNone q = true) :
    PySem.W.WalkO q lo XP hk.says PySem.Challenge.rw_onestaff_k09_refusals_apart.row.toRowW d [] (fun f vs => PySem.call f vs) :=
  U.walkGE (l := PySem.Challenge.rw_onestaff_k09_refusals_apart) (n := 63) (k := 5) (x := "_law_script") (cx := fun w => L2.CX PySem.Challenge.rw_onestaff_k09_refusals_apart.prog w) (sp := fun w K => sp_law K) rfl (by decide) hdf ⟨rfl, by decide, by decide⟩ hi (fun w mg fa h Y G hmg => by
    obtain ⟨K, KX, c⟩ := Y
    rw [hdn] at hmg
    obtain ⟨fd, hb, hF⟩ := facts (l := PySem.Challenge.rw_onestaff_k09_refusals_apart) (w := w) KX G hmg c
    exact ⟨K, fd, KX, hb, hF⟩) (fun _ _ _ a ns hl _ hS => ⟨_, rfl, a, ns, rfl, hS, hl, fun _ => rfl⟩) fun _ _ _ _ _ z => by obtain ⟨_, _, _, _, _, _, _, _, _, _, _, _, y⟩ := z; exact y
end K09
open PySem PySem.W PySem.Calls PyProof.Rows
set_option maxRecDepth 100000 in
set_option maxHeartbeats 0 in
theorem PySem.Challenge.cw_onestaff_k09_refusals_apart_holds : PySem.Challenge.rw_onestaff_k09_refusals_apart.Holds := by
  w_on; o_law
  refine UH.head_cut (r := OpenLaw.row PySem.Challenge.rw_onestaff_k09_refusals_apart) (q' := view (OpenLaw.row PySem.Challenge.rw_onestaff_k09_refusals_apart).prog [58]) (H := K09.hk) (ob := K09.hob) (M := 20000) (loose := K09.hnames) (d := HandSHeadRun.topDef (OpenLaw.row PySem.Challenge.rw_onestaff_k09_refusals_apart).prog 58) (kwd := []) K09.hob_eq
    (by kernel_rfl) (fun s => by kernel_rfl) K09.hAE K09.hrun (by kernel_rfl) (by kernel_rfl) (by kernel_rfl) (by rfl) (by first | assumption | decide +kernel) (by decide +kernel) ⟨rfl, rfl, rfl, rfl, rfl, by decide +kernel⟩ ?hw ?hc
  case hw => w_witness2
  case hc => exact K09.walk (by kernel_rfl) (by kernel_rfl) (by kernel_rfl)
#print axioms PySem.Challenge.cw_onestaff_k09_refusals_apart_holds

