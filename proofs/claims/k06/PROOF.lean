import PyProof.Rows.All
import Wide.All
import OpenK.AllK
import Wide.FinOn
import HandS.ForMost
import KE.RegKTryMore
import KE.RegKIsAll
import PyProof.ReprRoads
import HandS.EndBits
import PyProof.ReprBulk
import PyProof.StrLaws
import HandS.Wide
import HandS.IsInst
import HandS.TupAny
import HandS.Walk
import HandS.Small
import HandS.ForExc
import HandS.ExcInit
import HandS.ExcField
import HandS.ClsMeth
import HandS.Codes
import KE.KExcIs
import HandS.SortInts
import PyProof.P3Eq
import HandS.TupLe
import HandS.Defaults
import HandS.Iter
import KE.GoesEnum
import HandS.TryOnly
import HandS.Conv
import HandS.Sort
import PyProof.RangeFor
import PyProof.EqKinds
import HandS.Deep
import HandS.Text
import HandS.FStr
import HandS.Strs
import PyProof.StrLawsTight
import HandS.Zip
import HandS.RaiseMore
import HandS.HeadHook3
import KE.GoesZip
import KE.GoesMore
import HandS.Replace
import PyProof.StrBlock2
import PyProof.ListStr
import HandS.Style
import HandS.SetFor
import HandS.Head0
import HandS.Head1
import HandS.Head2
import HandS.HeadHook2
import KE.KRevSl
import HandS.RevTup
import KE.KDictZip
import PySem.Challenge.RW_onestaff_k06_other_lines
set_option Elab.async false
set_option linter.all false
set_option maxRecDepth 100000
set_option maxHeartbeats 4000000

namespace U
open PySem L2 PySem.Spec PyProof.Rows

/-! a def's promise where no repr is under way around it -/
section
variable (P : Program) (w : World) (K : PySem.W.Frag) (mg : Str → Option Value) (base : Heap)
structure FnG (cx : CXT) (k : Nat) (f : Addr) (fd : FuncData) (ps : List Str) (sp : Sp) : Prop where
  len : ∀ vs H Q E, sp vs H Q E → vs.length = ps.length
  run : ∀ (A : Around) (o : List Env) (s : Shared) (H : Hp) (ar : Args) (us : List Value) (vs : List V) (Q : VK) (E : XK),
    A.guards = some [] → Room k A → Env0 P w K mg base A o s H → BindsTo s fd ar (ps.zip us) → Vals vs us → sp vs H Q E →
    codeAny (model P w) A (.call (.ref f) ar) (CR cx o P w H s Q E) s
end
section
variable {P : Program} {w : World} {K : PySem.W.Frag} {mg : Str → Option Value} {base : Heap} {cx : CXT} {k : Nat} {f : Addr} {fd : FuncData} {ps : List Str} {sp : Sp}
theorem FnG.of (F : FnOk P w K mg base cx k f fd ps sp) : FnG P w K mg base cx k f fd ps sp :=
  ⟨F.len, fun A o s H ar us vs Q E _ => F.run A o s H ar us vs Q E⟩
theorem FnG.mono {j : Nat} (F : FnG P w K mg base cx j f fd ps sp) (h : j ≤ k) : FnG P w K mg base cx k f fd ps sp :=
  ⟨F.len, fun A o s H ar us vs Q E g r => F.run A o s H ar us vs Q E g (r.mono h)⟩

theorem fnG_of {nm ql : Str} {pr : Arguments} {bd : List Stmt} {sc : Scope} {dV kV dc pm cd ct oc : Value} {an od : Option Addr} {os : Array (Option Value)} {N : List Str}
    (lk : K.lookup f = some ⟨oc, od, .func (PySem.W.fnOf nm ql pr bd sc dV kV dc pm an cd ct), os⟩) (hc : PySem.W.codeIn K cd ql = true) (S : FnScope N ps sc)
    (len : ∀ vs H Q E, sp vs H Q E → vs.length = ps.length)
    (hb : ∀ (A : Around) (o : List Env) (s : Shared) (H : Hp) (vs : List V) (Q : VK) (E : XK), A.guards = some [] → Room k (A.deeper (envOfC ql sc s.heap.objs.size f cd)) → sp vs H Q E →
      ∃ t, PSs (cxOf cx P w K mg base N ql sc f cd A o s H E) bd t ∧ t { nx := fun _ H' => Q .non H', rt := Q } (start N vs) H) :
    FnG P w K mg base cx (k + 1) f (PySem.W.fnOf nm ql pr bd sc dV kV dc pm an cd ct) ps sp where
  len := len
  run := by
    intro A o s H ar us vs Q E hg hr e0 bi vv q
    have hl := len vs H Q E q
    have kp : ∀ b ob, base.get? b = some ob → s.heap.get? b = some ob := fun b ob e => (e0.bs b ob e).1
    have KX : K.In s.heap := e0.mod.kin.keeps kp
    have nl : s.heap.NoLimit := e0.mod.nolimit.keeps kp
    refine codeAny_call_function hr.depth (KX f _ lk) rfl S.co S.gen rfl (PySem.W.codeRec_of KX hc) (bi _ _ _ _ ?_)
    refine wpAny_newFunctionEnv_cells S.kind (fun y hy => ?_) fun ev he s1 x => ?_
    · obtain ⟨n, v⟩ := y
      rcases S.par n (List.of_mem_zip hy).1 with e | e
      · exact Or.inl e
      · exact Or.inr ⟨e, PySem.W.cellsFrom_some _ _ _ (Or.inl e)⟩
    · subst he
      obtain ⟨t, ht, z⟩ := hb A o s H vs Q E hg (hr.deeper _) q
      have J0 : Inv (cxOf cx P w K mg base N ql sc f cd A o s H E) [] (start N vs) H s1 := inv_start S hr.hd e0 hl vv x
      refine ⟨nl.keeps x.toInCall.keep, codeAny_func (wpAny_mono (ht.run [] s1 (start N vs) H _ J0 z) (fun fl s2 h2 => ?_) fun _ _ h2 => h2)⟩
      cases fl with
      | brk => obtain ⟨_, _, _, z⟩ := h2; exact z.elim
      | cont => obtain ⟨_, _, _, z⟩ := h2; exact z.elim
      | next =>
        obtain ⟨σ2, H2, J, z⟩ := h2
        exact ⟨V.non, H2, J.os, J.bare, J.base, J.hok, rfl, z⟩
      | ret u =>
        obtain ⟨v, σ2, H2, J, rv, z⟩ := h2
        exact ⟨v, H2, J.os, J.bare, J.base, J.hok, rv, z⟩
theorem okG {nm ql : Str} {st : Stmt} {N : List Str} (F : Fun K nm ql st f fd) (S : FnScope N ps (defScope st)) (len : ∀ vs H Q E, sp vs H Q E → vs.length = ps.length)
    (hb : ∀ (cd : Value) (A : Around) (o : List Env) (s : Shared) (H : Hp) (vs : List V) (Q : VK) (E : XK), A.guards = some [] → Room k (A.deeper (envOfC ql (defScope st) s.heap.objs.size f cd)) → sp vs H Q E →
      ∃ t, PSs (cxOf cx P w K mg base N ql (defScope st) f cd A o s H E) (defBody st) t ∧ t { nx := fun _ H' => Q .non H', rt := Q } (start N vs) H) :
    FnG P w K mg base cx (k + 1) f fd ps sp := by
  obtain ⟨_, _, _, _, _, _, cd, _, _, rfl, lk, hc⟩ := F.ex
  exact fnG_of lk hc S len fun A o s H vs Q E g r q => hb cd A o s H vs Q E g r q
theorem okG0 {nm ql : Str} {st : Stmt} {N : List Str} (F : Fun K nm ql st f fd) (S : FnScope N ps (defScope st)) (len : ∀ vs H Q E, sp vs H Q E → vs.length = ps.length)
    (hb : ∀ (cd : Value) (A : Around) (o : List Env) (s : Shared) (H : Hp) (vs : List V) (Q : VK) (E : XK), A.guards = some [] → Room k (A.deeper (envOfC ql (defScope st) s.heap.objs.size f cd)) → sp vs H Q E →
      ∃ t, PSs (cxOf CX0 P w K mg base N ql (defScope st) f cd A o s H E).nox (defBody st) t ∧ t { nx := fun _ H' => Q .non H', rt := Q } (start N vs) H) :
    FnG P w K mg base CX0 (k + 1) f fd ps sp :=
  okG F S len fun cd A o s H vs Q E g r q => by
    obtain ⟨t, h, z⟩ := hb cd A o s H vs Q E g r q
    exact ⟨t, h.nox, z⟩
end

section
variable {X : Cx} {cx : CXT} {k : Nat} {f : Addr} {fd : FuncData} {ps : List Str} {sp : Sp} {E : XK} {x : Str} {p pos : Pos} {e : Expr} {es : List Expr} {t : TA}
theorem run_fnG {pins : List (Addr × Obj)} {σ : L2.St} {H : Hp} {s : Shared} {Q : VK} {us : List Value} {vs : List V} (F : FnG X.prog X.w X.K X.mg X.base cx k f fd ps sp) (hg : X.A.guards = some []) (hr : Room k X.A) (hb : Binds X.K fd ps [])
    (hx : Passes cx X E) (I : Inv X pins σ H s) (r : Vals vs us) (h : sp vs H Q E) : wpAny (model X.prog X.w) X.A (call (.ref f) us) (EP X pins σ Q) X.xe s := by
  have e1 : us ++ [] = us := List.append_nil us
  have hl : (us ++ []).length = ps.length := by rw [e1, ← r.length]; exact F.len _ _ _ _ h
  have b1 := hb s us I.kIn hl
  rw [e1] at b1
  refine wpAny_call (codeAny_mono (F.run X.A X.stack s H ⟨us, []⟩ us vs Q E hg hr I.env0 b1 r h) fun rr s' hq => ?_)
  match rr, hq with
  | .error er, hq => exact hx pins σ H s er s' I hq
  | .ok (.ret u), hq => exact I.after hq
  | .ok .next, hq => exact False.elim hq
  | .ok .brk, hq => exact False.elim hq
  | .ok .cont, hq => exact False.elim hq
def tGo (sp : Sp) (E : XK) (t : TA) : TE := fun σ H Q => t σ H fun vs H1 => sp vs H1 Q E
/-- f(e, ..) -/
theorem pe_go (F : FnG X.prog X.w X.K X.mg X.base cx k f fd ps sp) (hg : X.A.guards = some []) (hr : Room k X.A) (gl : Gl X x) (hm : X.mg x = some (.ref f)) (hk : PySem.W.keepIn X.K (.ref f) = true) (hb : Binds X.K fd ps []) (hx : Passes cx X E)
    (ha : PA X (e :: es) t) (h1 : (x == ("__debug__" : Str)) = false := by decide) (h2 : starEach (e :: es) X.env = (false, eval e X.env) :: starEach es X.env := by rfl) (h3 : (backTo pos (starEach es X.env)).any (·.1) = false := by rfl) :
    PE X (.Call (.Name x p) (e :: es) [] pos) (tGo sp E t) := by
  refine ⟨fun pi s σ H Q I h => wpAny_Call_Name_kw (ld_glob I gl hm ?_ h1)⟩
  refine PySem.W.callWith_K (h₀ := X.base) I.ok.mod.kin hk (thn (ha.run pos pi s σ H _ I h) ?_) h2 h3
  rintro us s1 ⟨vs, H1, I1, r, q⟩
  exact ⟨I1.kIn, run_fnG F hg hr hb hx I1 r q⟩
theorem pe_go0 (F : FnG X.prog X.w X.K X.mg X.base cx k f fd ps sp) (hg : X.A.guards = some []) (hr : Room k X.A) (gl : Gl X x) (hm : X.mg x = some (.ref f)) (hk : PySem.W.keepIn X.K (.ref f) = true) (hb : Binds X.K fd ps []) (hx : Passes cx X E)
    (h1 : (x == ("__debug__" : Str)) = false := by decide) : PE X (.Call (.Name x p) [] [] pos) (tGo sp E tNil) := by
  refine ⟨fun pi s σ H Q I h => wpAny_Call_Name_kw (ld_glob I gl hm ?_ h1)⟩
  exact PySem.W.callWith_K0 I.kIn hk (run_fnG (us := []) F hg hr hb hx I .nil h)
end

/-! the law's own call -/
section
variable {P : Program} {w : World} {K : PySem.W.Frag} {mg mb : Str → Option Value} {cx : CXT} {k : Nat} {fa a : Addr} {fd : FuncData} {x : Str} {sp : Sp} {s1 : Shared} {vs : List Value} {ns : List Int}
/-- the heap at the entry: the script alone is tracked, as it stands -/
def Hin (K : PySem.W.Frag) (a : Addr) (o : Obj) (ns : List Int) : Hp := fun b => if b = a ∧ K.lookup a = none then some (.frz o (.lst (ns.map V.int))) else none
theorem law_callG (KX : K.In s1.heap) (hns : s1.heap.Ns mainGlobals mg) (hb : s1.heap.Ns builtinsNs mb) (hbb : ∀ x : Str, x ≠ "__name__" → mb x = bootBuiltins x) (hlim : s1.heap.NoLimit) (hsy : ∃ mm, s1.heap.Ns sysModules mm) (hg : s1.gens = #[])
    (ha : s1.heap.get? a = some { cls := .type "list", data := .seq vs.toArray }) (hi : IntsAre vs ns) (hl : ns.length ≤ sizeLine) (hr : Room k callerA)
    (F : ∀ base : Heap, K.In base → base.Ns mainGlobals mg → (∃ mm, base.Ns sysModules mm) → FnG P w K mg base cx k fa fd [x] sp)
    (hbind : ∀ (s : Shared) (u : Value), BindsTo s fd ⟨[u], []⟩ [(x, u)])
    (hsp : ∀ H : Hp, SqL K H a (ns.map V.int) → sp [.ref a] H (fun v _ => v = .bl true) fun _ _ _ => False)
    (hcx : ∀ H e s', cx [] H s1 (fun _ _ _ => False) e s' → False) :
    codeAny (model P w) callerA (.call (.ref fa) ⟨[.ref a], []⟩) (fun r s' => r = .ok (.ret (.bool true)) ∧ OldK s1.heap s'.heap ∧ s'.os = s1.os ∧ AllBare s'.gens) s1 := by
  generalize ho : ({ cls := .type "list", data := .seq vs.toArray } : Obj) = o at ha
  have rv := vals_ints hi
  have hlen := hi.length
  have hH : ∀ b u, Hin K a o ns b = some u → b = a ∧ K.lookup a = none ∧ u = .frz o (.lst (ns.map V.int)) := fun b u e => by
    unfold Hin at e
    by_cases c : b = a ∧ K.lookup a = none
    · rw [if_pos c] at e; exact ⟨c.1, c.2, (Option.some.inj e).symm⟩
    · rw [if_neg c] at e; cases e
  have hok : HOk P w (Hin K a o ns) s1.heap := fun b u e => by
    obtain ⟨rfl, _, rfl⟩ := hH b u e
    exact ⟨ha, by rw [List.length_map]; exact hl, vs, _, rv, by rw [ha, ← ho]⟩
  have hS : SqL K (Hin K a o ns) a (ns.map V.int) := by
    cases hk : K.lookup a with
    | none => exact Or.inl (Or.inr ⟨o, if_pos ⟨rfl, hk⟩⟩)
    | some o2 =>
      have e := KX a o2 hk
      rw [ha] at e
      cases e
      exact Or.inr ⟨_, vs.toArray, 0, hk, by rw [← ho], by rw [← ho], by rw [← ho], by rw [List.size_toArray, hlen]; exact hl, rv⟩
  have toB : ∀ {b : Addr} {ob : Obj}, s1.heap.get? b = some ob → Hin K a o ns b = none → (hidT s1.heap (Hin K a o ns)).get? b = some ob := fun e n => hidT_get e n
  have dictN : ∀ {b : Addr} {ob : Obj}, s1.heap.get? b = some ob → (∀ it n, ob.data ≠ .seq it n) → Hin K a o ns b = none := fun {b ob} e d => by
    cases q : Hin K a o ns b with
    | none => rfl
    | some u =>
      obtain ⟨rfl, _, _⟩ := hH b u q
      rw [ha] at e
      cases e
      exact (d vs.toArray 0 (by rw [← ho])).elim
  have nsB : ∀ {b : Addr} {m : Str → Option Value}, s1.heap.Ns b m → (hidT s1.heap (Hin K a o ns)).Ns b m := fun {b m} h => by
    obtain ⟨ob, es, ep, e, d, r⟩ := h
    exact ⟨ob, es, ep, toB e (dictN e fun it n z => by rw [d] at z; cases z), d, r⟩
  have KB : K.In (hidT s1.heap (Hin K a o ns)) := fun b ob e => toB (KX b ob e) (by
    cases q : Hin K a o ns b with
    | none => rfl
    | some u =>
      obtain ⟨rfl, z, _⟩ := hH b u q
      rw [z] at e; cases e)
  have lim : (hidT s1.heap (Hin K a o ns)).NoLimit := by
    obtain ⟨mc, h1, h2⟩ := hlim
    exact ⟨mc, nsB h1, h2⟩
  have M : Mod K mg (hidT s1.heap (Hin K a o ns)) := ⟨KB, nsB hns, ⟨mb, nsB hb, hbb⟩, lim⟩
  have e0 : Env0 P w K mg (hidT s1.heap (Hin K a o ns)) callerA [] s1 (Hin K a o ns) :=
    ⟨rfl, M, fun b ob e => of_hidT e, Nat.le_of_eq (hidT_size _ _), trivial, fun b z => (nomatch z), hok, .of_eq hg⟩
  have G := F _ KB (nsB hns) (by obtain ⟨mm, z⟩ := hsy; exact ⟨mm, nsB z⟩)
  refine codeAny_mono (G.run callerA [] s1 _ ⟨[.ref a], []⟩ [.ref a] [.ref a] _ _ rfl hr e0 (hbind s1 (.ref a)) (.cons rfl .nil) (hsp _ hS)) fun r s2 h => ?_
  match r, h with
  | .error er, h => exact (hcx _ er s2 h).elim
  | .ok .next, h => exact False.elim h
  | .ok .brk, h => exact False.elim h
  | .ok .cont, h => exact False.elim h
  | .ok (.ret u), h =>
    obtain ⟨v, H2, os, br, un, hok2, r2, q⟩ := h
    have q2 : v = .bl true := q
    subst q2
    obtain rfl : u = Value.bool true := r2
    refine ⟨rfl, OldK.of_keep fun b ob e => ?_, os, br⟩
    cases z : Hin K a o ns b with
    | none => exact un.keep b ob e z (fun m => nomatch m) (fun m => nomatch m)
    | some u =>
      obtain ⟨rfl, _, rfl⟩ := hH b u z
      obtain ⟨y, _⟩ := hok2 b _ (un.frzs b _ _ z)
      rw [ha] at e
      cases e
      exact y
end
/-- the end of a law: what k_head leaves, from the law's promise -/
theorem walkG {l : PySem.W.OpenLaw} {n k : Nat} {q : Program} {lo : List Str} {XP : (Str → Option Value) → Heap → Prop} {YP : World → Heap → Prop} {d : DefRec} {K : Params → PySem.W.Frag} {cx : World → CXT} {sp : World → Sp} {x : Str}
    (hn : l.most = some n) (hn2 : n ≤ sizeLine) (hdf : d.params.defaults = []) (hr : Room k callerA) (him : importsNone q = true)
    (hY : ∀ (w : World) (h : Heap), YP w h → (K w.params).In h)
    (F : ∀ (w : World) (mg : Str → Option Value) (fa : Addr) (h : Heap), (K w.params).In h → h.Ns mainGlobals mg → mg d.name = some (.ref fa) →
      ∃ fd : FuncData, (∀ (s : Shared) (u : Value), BindsTo s fd ⟨[u], []⟩ [(x, u)]) ∧
        ∀ base : Heap, (K w.params).In base → base.Ns mainGlobals mg → (∃ mm, base.Ns sysModules mm) → FnG l.prog w (K w.params) mg base (cx w) k fa fd [x] (sp w))
    (hsp : ∀ (w : World) (H : Hp) (a : Addr) (ns : List Int), ns.length ≤ n → (∀ z ∈ ns, Builtin.Int.intBits z ≤ 1048576) → SqL (K w.params) H a (ns.map V.int) → sp w [.ref a] H (fun v _ => v = .bl true) fun _ _ _ => False)
    (hcx : ∀ (w : World) (H : Hp) (s : Shared) (e : Value) (s' : Shared), cx w [] H s (fun _ _ _ => False) e s' → False) :
    PySem.W.WalkO q lo XP YP l.row.toRowW d [] (fun f vs => PySem.call f vs) := by
  refine Att.attach_callB hn hdf ?_
  intro w s0 s1 mg mb fa o pm cd doc a vs ns G Y ho hd hcd hmg hob hin hle hbi hge
  obtain ⟨fd, hb, hF⟩ := F w mg fa _ (hY w _ Y) G.T.g hmg
  have hsy : ∃ mm, s1.heap.Ns sysModules mm := by
    obtain ⟨mm, z, _⟩ := (G.T.seer him).mods
    exact ⟨mm, z⟩
  exact law_callG (hY w _ Y) G.T.g G.T.b G.T.builtins G.T.nolimit hsy hge hob hin (Nat.le_trans hle hn2) hr hF hb (fun H hS => hsp w H a ns hle hbi hS) fun H e s' => hcx w H s1 e s'

/-! data, by what repr shows -/
def keyD (k : Key) : PyData := match k with | .inl i => PyData.int i | .inr x => PyData.str x
mutual
inductive Dn (K : PySem.W.Frag) (H : Hp) : V → PyData → Prop
  | non : Dn K H .non .none
  | bl (b : Bool) : Dn K H (.bl b) (.bool b)
  | int (i : Int) : Dn K H (.int i) (.int i)
  | str (x : Str) : Dn K H (.str x) (.str x)
  | lst {a : Addr} {xs : List V} {ds : List PyData} : Rd H a (.lst xs) → DnA K H xs ds → Dn K H (.ref a) (.list ds)
  | tup {a : Addr} {xs : List V} {ds : List PyData} : SqT K H a xs → DnA K H xs ds → Dn K H (.ref a) (.tuple ds)
  | dic {a : Addr} {kvs : List (Key × V)} {ds : List PyData} : Rd H a (.dK kvs) → DnA K H (kvs.map (·.2)) ds → Dn K H (.ref a) (.dict ((kvs.map fun p => keyD p.1).zip ds))
inductive DnA (K : PySem.W.Frag) (H : Hp) : List V → List PyData → Prop
  | nil : DnA K H [] []
  | cons {v : V} {vs : List V} {d : PyData} {ds : List PyData} : Dn K H v d → DnA K H vs ds → DnA K H (v :: vs) (d :: ds)
end
end U

namespace U
open PySem L2 PySem.Spec PyProof.Rows

section
variable {X : Cx} {pins : List (Addr × Obj)} {σ : L2.St} {H : Hp} {s : Shared}
theorem rd_low (I : Inv X pins σ H s) (hs : ∃ mm, X.base.Ns sysModules mm) {a : Addr} {u : HO} (r : Rd H a u) : a ≠ sysModules := by
  rintro rfl
  obtain ⟨mm, ob, es, ep, e, _⟩ := hs
  have n := (I.bs _ ob e).2
  rcases r with r | ⟨o, r⟩ <;> (rw [n] at r; cases r)
theorem pairs_reads {P : Program} {w : World} {h : Heap} : ∀ {es : List DictEntry} {kvs : List (Key × V)} {vs : List (Key × Value)}, Pairs (mixKind P w) es vs → KV kvs vs →
    ReadsAll h (es.map (·.key)) (kvs.map fun p => keyD p.1) [] ∧ Vals (kvs.map (·.2)) (es.map (·.val))
  | _, _, _, .nil, .nil => ⟨.nil, .nil⟩
  | e :: es, (k, v) :: kvs, (k2, u) :: vs, .cons h1 h2 h3, .cons ⟨q1, q2⟩ h4 => by
    obtain ⟨r1, r2⟩ := pairs_reads (h := h) h3 h4
    have q1 : k = k2 := q1
    subst q1
    refine ⟨?_, .cons (show RelV v e.val by rw [h2]; exact q2) r2⟩
    show ReadsAll h (e.key :: _) (keyD k :: _) ([] ++ [])
    refine .cons ?_ r1
    rcases keyIs_shape h1 with ⟨i, t, z, y⟩ | ⟨x, t, z, y⟩
    · have z : k = Sum.inl i := z
      rw [y, z]; exact Reads.int i t
    · have z : k = Sum.inr x := z
      rw [y, z]; exact Reads.str x t
mutual
theorem Dn.reads (I : Inv X pins σ H s) (hs : ∃ mm, X.base.Ns sysModules mm) : ∀ {v : V} {d : PyData} {u : Value}, Dn X.K H v d → RelV v u → ∃ as, Reads s.heap u d as ∧ sysModules ∉ as
  | _, _, _, .non, r => by cases r; exact ⟨[], Reads.none, by simp⟩
  | _, _, _, .bl b, r => by cases r; exact ⟨[], Reads.bool b, by simp⟩
  | _, _, _, .int i, r => by obtain ⟨t, rfl⟩ := r; exact ⟨[], Reads.int i t, by simp⟩
  | _, _, _, .str x, r => by obtain ⟨t, rfl⟩ := r; exact ⟨[], Reads.str x t, by simp⟩
  | _, _, _, .lst h1 h2, r => by
    cases r
    obtain ⟨its, rv, ⟨o, n, ho, hc, _, hd⟩, _⟩ := I.list (Or.inl h1)
    obtain ⟨as, q1, q2⟩ := DnA.reads I hs h2 rv
    exact ⟨_, Reads.list ho hc hd q1, fun m => (List.mem_cons.mp m).elim (fun e => rd_low I hs h1 e.symm) q2⟩
  | _, _, _, .tup h1 h2, r => by
    cases r
    obtain ⟨its, rv, ⟨o, ho, hc, n, hd⟩, _⟩ := I.tuple h1
    obtain ⟨as, q1, q2⟩ := DnA.reads I hs h2 rv
    exact ⟨_, Reads.tuple ho hc hd q1, q2⟩
  | _, _, _, .dic (kvs := kvs) (ds := ds) h1 h2, r => by
    cases r
    obtain ⟨_, low, vs, kv, o, es, ep, ho, hc, hd, _, hp, _⟩ := h1.ok I.hok
    obtain ⟨q1, q2⟩ := pairs_reads (h := s.heap) hp kv
    obtain ⟨as, q3, q4⟩ := DnA.reads I hs h2 q2
    have el : ds.length = kvs.length := by
      have e1 := DnA.len h2
      rw [List.length_map] at e1
      exact e1.symm
    have z1 : ((kvs.map fun p => keyD p.1).zip ds).map (·.1) = kvs.map fun p => keyD p.1 := by
      rw [List.map_fst_zip]; rw [List.length_map]; omega
    have z2 : ((kvs.map fun p => keyD p.1).zip ds).map (·.2) = ds := by
      rw [List.map_snd_zip]; rw [List.length_map]; omega
    refine ⟨_, Reads.dict ho hc.1 hd (kvs := (kvs.map fun p => keyD p.1).zip ds) (as := []) (bs := as) ?_ ?_, ?_⟩
    · rw [z1]; exact q1
    · rw [z2]; exact q3
    · intro m
      rcases List.mem_cons.mp m with e | e
      · exact rd_low I hs h1 e.symm
      · exact q4 (by simpa using e)
theorem DnA.reads (I : Inv X pins σ H s) (hs : ∃ mm, X.base.Ns sysModules mm) : ∀ {vs : List V} {ds : List PyData} {us : List Value}, DnA X.K H vs ds → Vals vs us → ∃ as, ReadsAll s.heap us ds as ∧ sysModules ∉ as
  | _, _, _, .nil, r => by cases r; exact ⟨[], ReadsAll.nil, by simp⟩
  | _, _, _, .cons h1 h2, r => by
    cases r with
    | cons r1 r2 =>
      obtain ⟨as, q1, q2⟩ := Dn.reads I hs h1 r1
      obtain ⟨bs, q3, q4⟩ := DnA.reads I hs h2 r2
      exact ⟨_, ReadsAll.cons q1 q3, fun m => (List.mem_append.mp m).elim q2 q4⟩
theorem DnA.len {K : PySem.W.Frag} : ∀ {vs : List V} {ds : List PyData}, DnA K H vs ds → vs.length = ds.length
  | _, _, .nil => rfl
  | _, _, .cons _ h => by rw [List.length_cons, List.length_cons, DnA.len h]
end
end
/-! what may be shown, and how long it is -/
mutual
def good : PyData → Prop
  | .none => True
  | .bool _ => True
  | .int i => i.natAbs < 10 ^ 100
  | .str x => ∀ c ∈ x.cps.toList, c < 4294967296
  | .list xs => goodA xs
  | .tuple xs => goodA xs
  | .dict kvs => goodK kvs
def goodA : List PyData → Prop
  | [] => True
  | x :: xs => good x ∧ goodA xs
def goodK : List (PyData × PyData) → Prop
  | [] => True
  | (k, v) :: r => good k ∧ good v ∧ goodK r
end
mutual
def sz : PyData → Nat
  | .none => 4
  | .bool _ => 5
  | .int _ => 102
  | .str x => 10 * x.length + 2
  | .list xs => szA xs + 3
  | .tuple xs => szA xs + 3
  | .dict kvs => szK kvs + 3
def szA : List PyData → Nat
  | [] => 0
  | x :: xs => sz x + 2 + szA xs
def szK : List (PyData × PyData) → Nat
  | [] => 0
  | (k, v) :: r => sz k + sz v + 4 + szK r
end
theorem int_len {i : Int} (h : i.natAbs < 10 ^ 100) : (Str.ofString (toString i)).length ≤ 102 := by
  have e := int_text_length_le10 (k := 100) (by decide) h
  rw [PySem.ofString_length]
  omega
mutual
theorem good_show : ∀ {d : PyData}, good d → d.showable = true ∧ d.shown.length ≤ sz d
  | .none, _ => ⟨rfl, by decide +kernel⟩
  | .bool b, _ => ⟨rfl, by cases b <;> decide +kernel⟩
  | .int i, h => by
    refine ⟨?_, ?_⟩
    · simp only [PyData.showable, decide_eq_true_eq]
      have h : i.natAbs < 10 ^ 100 := by simpa only [good] using h
      refine log2_small (Nat.lt_of_lt_of_le h ?_)
      decide +kernel
    · have h : i.natAbs < 10 ^ 100 := by simpa only [good] using h
      exact int_len h
  | .str x, h => by
    refine ⟨rfl, ?_⟩
    have h : ∀ c ∈ x.cps.toList, c < 4294967296 := by simpa only [good] using h
    simp only [PyData.shown, sz]
    exact StrLaws.reprText_len x h
  | .list xs, h => by
    have q := goodA_show (ds := xs) (by simpa only [good] using h)
    refine ⟨by simpa only [PyData.showable] using q.1, ?_⟩
    simp only [PyData.shown, sz]
    have := listText_len_le (PyData.shownAll xs)
    have e : (PyData.shownAll xs).length = xs.length := q.2.2
    omega
  | .tuple xs, h => by
    have q := goodA_show (ds := xs) (by simpa only [good] using h)
    refine ⟨by simpa only [PyData.showable] using q.1, ?_⟩
    simp only [PyData.shown, sz]
    have := tupleText_len_le (PyData.shownAll xs)
    have e : (PyData.shownAll xs).length = xs.length := q.2.2
    omega
  | .dict kvs, h => by
    have q := goodK_show (ds := kvs) (by simpa only [good] using h)
    refine ⟨by simpa only [PyData.showable] using q.1, ?_⟩
    simp only [PyData.shown, sz]
    have := dictText_len_le (PyData.shownKv kvs)
    have e : (PyData.shownKv kvs).length = kvs.length := q.2.2
    omega
theorem goodA_show : ∀ {ds : List PyData}, goodA ds → PyData.showableAll ds = true ∧ ((PyData.shownAll ds).map (·.length)).sum + 2 * ds.length ≤ szA ds ∧ (PyData.shownAll ds).length = ds.length
  | [], _ => ⟨rfl, by simp [PyData.shownAll, szA], rfl⟩
  | x :: xs, h => by
    obtain ⟨h1, h2⟩ : good x ∧ goodA xs := by simpa only [goodA] using h
    obtain ⟨a1, a2⟩ := good_show h1
    obtain ⟨b1, b2, b3⟩ := goodA_show h2
    refine ⟨by simp only [PyData.showableAll, a1, b1, Bool.and_self], ?_, by simp only [PyData.shownAll, List.length_cons, b3]⟩
    simp only [PyData.shownAll, szA, List.map_cons, List.sum_cons, List.length_cons]
    omega
theorem goodK_show : ∀ {ds : List (PyData × PyData)}, goodK ds → PyData.showableKv ds = true ∧ ((PyData.shownKv ds).map (·.length)).sum + 2 * ds.length ≤ szK ds ∧ (PyData.shownKv ds).length = ds.length
  | [], _ => ⟨rfl, by simp [PyData.shownKv, szK], rfl⟩
  | (k, v) :: r, h => by
    obtain ⟨h1, h2, h3⟩ : good k ∧ good v ∧ goodK r := by simpa only [goodK] using h
    obtain ⟨a1, a2⟩ := good_show h1
    obtain ⟨c1, c2⟩ := good_show h2
    obtain ⟨b1, b2, b3⟩ := goodK_show h3
    refine ⟨by simp only [PyData.showableKv, a1, c1, b1, Bool.and_self], ?_, by simp only [PyData.shownKv, List.length_cons, b3]⟩
    have e : (": " : Str).length = 2 := by decide +kernel
    simp only [PyData.shownKv, szK, List.map_cons, List.sum_cons, List.length_cons, Str.length_append]
    have e : (Str.ofString ": ").length = 2 := by decide +kernel
    omega
end
/-- repr -/
def rRepr (K : PySem.W.Frag) : List V → Hp → VK → Prop := fun xs H Q => ∃ v d, xs = [v] ∧ Dn K H v d ∧ good d ∧ d.depth ≤ 100 ∧ sz d ≤ 16000000 ∧ Q (.str d.shown) H
theorem call_repr {X : Cx} {k : Nat} (hg : X.A.guards = some []) (hr : Room k X.A) (hs : ∃ mm, X.base.Ns sysModules mm) : CallR X (.builtin "repr") (rRepr X.K) := by
  rintro pi s σ H xs us Q I vv ⟨v, d, rfl, hd, g, dp, zz, q⟩
  obtain ⟨u, rfl, rv⟩ := Vals.one vv
  obtain ⟨sh, le⟩ := good_show g
  have le2 : d.shown.length ≤ sizeLine := Nat.le_trans (Nat.le_trans le zz) (by decide)
  have hu := hr.un
  cases hd with
  | non => cases rv; exact PySem.P.repr_of_none ⟨.str _, H, I.tok _, ⟨_, rfl⟩, q⟩
  | bl b => cases rv; exact PySem.P.repr_of_bool ⟨.str _, H, I.tok _, ⟨_, rfl⟩, q⟩
  | int i =>
    obtain ⟨t, rfl⟩ := rv
    simp only [PyData.showable, decide_eq_true_eq] at sh
    exact PySem.P.repr_of_int sh ⟨.str _, H, I.tok _, ⟨_, rfl⟩, q⟩
  | str x =>
    obtain ⟨t, rfl⟩ := rv
    exact PySem.P.repr_of_str ⟨.str _, H, I.tok _, ⟨_, rfl⟩, q⟩ le2
  | lst h1 h2 =>
    obtain ⟨as, r1, r2⟩ := Dn.reads I hs (.lst h1 h2) rv
    cases rv
    exact repr_of_reads' r1 sh (fun _ => r2) hg (by omega) (fun _ _ e => e) (fun h' u tk hk => ⟨.str _, H, I.kept hk, ⟨_, rfl⟩, q⟩) le2
  | tup h1 h2 =>
    obtain ⟨as, r1, r2⟩ := Dn.reads I hs (.tup h1 h2) rv
    cases rv
    exact repr_of_reads' r1 sh (fun _ => r2) hg (by omega) (fun _ _ e => e) (fun h' u tk hk => ⟨.str _, H, I.kept hk, ⟨_, rfl⟩, q⟩) le2
  | dic h1 h2 =>
    obtain ⟨as, r1, r2⟩ := Dn.reads I hs (.dic h1 h2) rv
    cases rv
    exact repr_of_reads' r1 sh (fun _ => r2) hg (by omega) (fun _ _ e => e) (fun h' u tk hk => ⟨.str _, H, I.kept hk, ⟨_, rfl⟩, q⟩) le2
end U

namespace U
open PySem L2 PySem.Spec PyProof.Rows

/-! operators, whatever the values -/
def rStrCat : R2 := fun x y H Q => ∃ i j, x = .str i ∧ y = .str j ∧ i.length + j.length ≤ sizeLine ∧ Q (.str (i ++ j)) H
def uAdd (K : PySem.W.Frag) : R2 := fun x y H Q => (rI0 fun i j => .int (i + j)) x y H Q ∨ rStrCat x y H Q ∨ rCat x y H Q ∨ rCatA K x y H Q
def uSub : R2 := rI0 fun i j => .int (i - j)
def uMul : R2 := fun x y H Q => (rI CMul fun i j => .int (i * j)) x y H Q ∨ rRep x y H Q
def uMod : R2 := rI (fun _ j => 0 < j) fun i j => .int (i % j)
def uDiv : R2 := rI CDivW fun i j => .int (i / j)
def uPow : R2 := rI CPow fun i j => .int (i ^ j.toNat)
def uLt : R2 := rI0 fun i j => .bl (decide (i < j))
def uLe : R2 := rI0 fun i j => .bl (decide (i ≤ j))
def uGt : R2 := rI0 fun i j => .bl (decide (j < i))
def uGe : R2 := rI0 fun i j => .bl (decide (j ≤ i))
def uEq (K : PySem.W.Frag) : R2 := fun x y H Q => rEq x y H Q ∨ rEqD K x y H Q
def uNe (K : PySem.W.Frag) : R2 := fun x y H Q => rNe x y H Q ∨ rNeD K x y H Q
def rInSign (ng : Bool) : R2 := fun x y H Q => ∃ (c : Nat) (z : Str), x = .str ⟨#[c]⟩ ∧ y = .str z ∧ Q (.bl (if ng then !decide (c ∈ z.cps.toList) else decide (c ∈ z.cps.toList))) H
def uIn (K : PySem.W.Frag) (ng : Bool) : R2 := fun x y H Q => rInSign ng x y H Q ∨ rIn K ng x y H Q
def uIs : R2 := fun x y H Q => y = .non ∧ Q (.bl (decide (x = .non))) H
def uIsNot : R2 := fun x y H Q => y = .non ∧ Q (.bl (!decide (x = .non))) H
section
variable {X : Cx} {k : Nat} {K : PySem.W.Frag}
theorem o_add (hK : X.K = K) : OpR X (binaryOp .Add) (uAdd K) := hK ▸ op_add.or (op_add_str.or (op_cat.or op_catA))
theorem o_sub : OpR X (binaryOp .Sub) uSub := op_sub
theorem o_mul : OpR X (binaryOp .Mult) uMul := op_mul.or op_rep
theorem o_mod : OpR X (binaryOp .Mod) uMod := op_mod
theorem o_div : OpR X (binaryOp .FloorDiv) uDiv := op_fdivW
theorem o_pow : OpR X (binaryOp .Pow) uPow := op_pow
theorem o_lt : OpR X (compareOp .Lt) uLt := op_lt
theorem o_le : OpR X (compareOp .LtE) uLe := op_le
theorem o_gt : OpR X (compareOp .Gt) uGt := op_gt
theorem o_ge : OpR X (compareOp .GtE) uGe := op_ge
theorem o_eq (hK : X.K = K) (hr : Room k X.A) : OpR X (compareOp .Eq) (uEq K) := hK ▸ op_eq.or (op_eqD hr.units)
theorem o_ne (hK : X.K = K) (hr : Room k X.A) : OpR X (compareOp .NotEq) (uNe K) := hK ▸ op_ne.or (op_neD hr.units)
theorem o_in (hK : X.K = K) : OpR X (compareOp .In) (uIn K false) := hK ▸ op_in_sign.or op_in_seq
theorem o_notin (hK : X.K = K) : OpR X (compareOp .NotIn) (uIn K true) := hK ▸ op_notIn_sign.or op_notIn_seq
theorem o_is : OpR X (compareOp .Is) uIs := op_isN
theorem o_isnot : OpR X (compareOp .IsNot) uIsNot := op_notN
/-- a built-in type's name as a value -/
theorem pe_ty {x : Str} {n : String} {pos : Pos} (hg : Gl X x) (hm : X.mg x = none) (hv : bootBuiltins x = some (.type n)) (hn : x ≠ "__name__" := by decide) (hd : (x == ("__debug__" : Str)) = false := by decide) : PE X (.Name x pos) (tC (.ty n)) :=
  pe_bltn hg hm hv rfl hn hd
def uSl (K : PySem.W.Frag) : V → Option Int → Option Int → Hp → VK → Prop := fun x lo hi H Q => rSlL K x lo hi H Q ∨ rSlS x lo hi H Q ∨ rSlA K x lo hi H Q
theorem ix_u (hK : X.K = K) : IxR X (rIx K) := hK ▸ ix_seq
theorem sl_u (hK : X.K = K) : SlR X (uSl K) := hK ▸ sl_list.or (sl_str.or sl_tupA)
end

/-! steps -/
section
variable {K : PySem.W.Frag} {σ : L2.St} {H : Hp} {Q : VK} {D : Ends} {t u : TS} {ta tb tc te : TE} {tA tB' : TT} {r r' : R2} {x y v : V} {i : Nat} {n m : Int} {a b : Str}
theorem s_seq (h : t { D with nx := u D } σ H) : tSeq t u D σ H := h
theorem s_next (h : D.nx σ H) : tNext D σ H := h
theorem s_brk (h : D.bk σ H) : tBreak D σ H := h
theorem s_cnt (h : D.ct σ H) : tCont D σ H := h
theorem s_retN (h : D.rt .non H) : tRetN D σ H := h
theorem s_var (h : σ[i]? = some (some v)) (q : Q v H) : tVar i σ H Q := ⟨v, h, q⟩
theorem s_c (q : Q v H) : tC v σ H Q := q
theorem s_op (h : ta σ H fun x H1 => tb σ H1 fun y H2 => r x y H2 Q) : tOp r ta tb σ H Q := h
theorem s_un {r : V → Hp → VK → Prop} (h : ta σ H fun x H1 => r x H1 Q) : tUn r ta σ H Q := h
theorem s_neg (q : Q (.int (-n)) H) : (rU fun i => .int (-i)) (.int n) H Q := ⟨n, rfl, q⟩
theorem s_test {Q : Bool → Hp → Prop} (h : te σ H fun x H' => ∃ k, x = .bl k ∧ Q k H') : tTest te σ H Q := h
theorem s_B {Q : Bool → Hp → Prop} (h : te σ H fun x H' => ∃ k, x = .bl k ∧ Q k H') : tB te σ H Q := h
theorem s_bl {P : Bool → Prop} {k : Bool} (q : P k) : ∃ c, V.bl k = .bl c ∧ P c := ⟨k, rfl, q⟩
theorem s_chain (h : ta σ H fun x H1 => tb σ H1 fun y H2 => r x y H2 fun z H3 => ∃ k, z = .bl k ∧ (if k = true then tc σ H3 fun w' H4 => r' y w' H4 Q else Q (.bl false) H3)) : tChain r r' ta tb tc σ H Q := h
theorem s_asg {g : TG} (h : te σ H fun x H1 => g x σ H1 D.nx) : tAsg te g D σ H := h
theorem s_name {R : L2.St → Hp → Prop} (h : R (σ.set i (some v)) H) : gName i v σ H R := h
theorem s_ret (h : te σ H D.rt) : tRet te D σ H := h
theorem s_drop (h : te σ H fun _ H1 => D.nx σ H1) : tDrop te D σ H := h
theorem s_ifS (h : tA σ H fun b H1 => if b = true then t D σ H1 else u D σ H1) : tIfS tA t u D σ H := h
theorem s_and {Q : Bool → Hp → Prop} (h : tA σ H fun c H1 => if c = true then tB' σ H1 Q else Q false H1) : tAnd tA tB' σ H Q := h
theorem s_or {Q : Bool → Hp → Prop} (h : tA σ H fun c H1 => if c = true then Q true H1 else tB' σ H1 Q) : tOr tA tB' σ H Q := h
theorem s_not {Q : Bool → Hp → Prop} (h : tA σ H fun c H1 => Q (!c) H1) : tNot tA σ H Q := h
theorem s_andV (h : ta σ H fun x H1 => ∃ c, x = .bl c ∧ if c = true then tb σ H1 Q else Q (.bl false) H1) : tAndV ta tb σ H Q := h
theorem s_orV (h : ta σ H fun x H1 => ∃ c, x = .bl c ∧ if c = true then Q (.bl true) H1 else tb σ H1 Q) : tOrV ta tb σ H Q := h
theorem s_notV (h : ta σ H fun x H1 => ∃ c, x = .bl c ∧ Q (.bl (!c)) H1) : tNotV ta σ H Q := h
theorem s_if (h : tA σ H fun c H1 => if c = true then ta σ H1 Q else tb σ H1 Q) : tIf tA ta tb σ H Q := h
theorem s_add (q : Q (.int (n + m)) H) : uAdd K (.int n) (.int m) H Q := Or.inl ⟨n, m, rfl, rfl, q⟩
theorem s_adds (h : a.length + b.length ≤ sizeLine) (q : Q (.str (a ++ b)) H) : uAdd K (.str a) (.str b) H Q := Or.inr (Or.inl ⟨a, b, rfl, rfl, h, q⟩)
theorem s_sub (q : Q (.int (n - m)) H) : uSub (.int n) (.int m) H Q := ⟨n, m, rfl, rfl, q⟩
theorem s_mul (h : CMul n m) (q : Q (.int (n * m)) H) : uMul (.int n) (.int m) H Q := Or.inl ⟨n, m, rfl, rfl, h, q⟩
theorem s_mod (h : 0 < m) (q : Q (.int (n % m)) H) : uMod (.int n) (.int m) H Q := ⟨n, m, rfl, rfl, h, q⟩
theorem s_div (h : CDivW n m) (q : Q (.int (n / m)) H) : uDiv (.int n) (.int m) H Q := ⟨n, m, rfl, rfl, h, q⟩
theorem s_pow {r : Int} (h : CPow n m) (e : n ^ m.toNat = r) (q : Q (.int r) H) : uPow (.int n) (.int m) H Q := ⟨n, m, rfl, rfl, h, (show Q (.int (n ^ m.toNat)) H by rw [e]; exact q)⟩
theorem cpow {i j : Int} (h0 : 0 ≤ i) (h1 : i < 9223372036854775808) (h2 : 0 ≤ j) (h3 : j ≤ 1000000) : CPow i j := ⟨h2, h3, by omega⟩
theorem cdiv {i j : Int} (h0 : 0 < j) (h1 : j < 100000000000000000000000000000000000000000) : CDivW i j := wide_div (b := 200) h0 (by
  have e : ((j.natAbs : Nat) : Int) < ((2 ^ 200 : Nat) : Int) := by
    rw [Int.natAbs_of_nonneg (by omega)]
    exact Int.lt_trans h1 (by decide)
  exact Int.ofNat_lt.mp e) (by decide) (by decide)
theorem cmulL {i j : Int} (h1 : -9223372036854775808 < i) (h2 : i < 9223372036854775808) : CMul i j := Or.inl ⟨by omega, by omega⟩
theorem cmulR {i j : Int} (h1 : -9223372036854775808 < j) (h2 : j < 9223372036854775808) : CMul i j := Or.inr ⟨by omega, by omega⟩
theorem s_lt (q : Q (.bl (decide (n < m))) H) : uLt (.int n) (.int m) H Q := ⟨n, m, rfl, rfl, q⟩
theorem s_le (q : Q (.bl (decide (n ≤ m))) H) : uLe (.int n) (.int m) H Q := ⟨n, m, rfl, rfl, q⟩
theorem s_gt (q : Q (.bl (decide (m < n))) H) : uGt (.int n) (.int m) H Q := ⟨n, m, rfl, rfl, q⟩
theorem s_ge (q : Q (.bl (decide (m ≤ n))) H) : uGe (.int n) (.int m) H Q := ⟨n, m, rfl, rfl, q⟩
theorem dec_int {n m : Int} : decide (V.int n = V.int m) = decide (n = m) := by
  by_cases h : n = m
  · subst h; simp
  · rw [decide_eq_false h]; exact decide_eq_false fun q => h (V.int.inj q)
theorem dec_str {n m : Str} : decide (V.str n = V.str m) = decide (n = m) := by
  by_cases h : n = m
  · subst h; simp
  · rw [decide_eq_false h]; exact decide_eq_false fun q => h (V.str.inj q)
theorem s_eqi (q : Q (.bl (decide (n = m))) H) : uEq K (.int n) (.int m) H Q := Or.inl ⟨rfl, by rw [dec_int]; exact q⟩
theorem s_nei (q : Q (.bl (!decide (n = m))) H) : uNe K (.int n) (.int m) H Q := Or.inl ⟨rfl, by rw [dec_int]; exact q⟩
theorem s_eqs (q : Q (.bl (decide (a = b))) H) : uEq K (.str a) (.str b) H Q := Or.inl ⟨rfl, by rw [dec_str]; exact q⟩
theorem s_nes (q : Q (.bl (!decide (a = b))) H) : uNe K (.str a) (.str b) H Q := Or.inl ⟨rfl, by rw [dec_str]; exact q⟩
theorem s_in1 {c : Nat} {z : Str} (q : Q (.bl (decide (c ∈ z.cps.toList))) H) : uIn K false (.str ⟨#[c]⟩) (.str z) H Q := Or.inl ⟨c, z, rfl, rfl, q⟩
theorem s_notin1 {c : Nat} {z : Str} (q : Q (.bl (!decide (c ∈ z.cps.toList))) H) : uIn K true (.str ⟨#[c]⟩) (.str z) H Q := Or.inl ⟨c, z, rfl, rfl, q⟩
theorem s_is (q : Q (.bl (decide (x = .non))) H) : uIs x .non H Q := ⟨rfl, q⟩
theorem s_isnot (q : Q (.bl (!decide (x = .non))) H) : uIsNot x .non H Q := ⟨rfl, q⟩
/-- items of lists -/
theorem s_nil {Q : List V → Hp → Prop} (q : Q [] H) : tNil σ H Q := q
theorem s_cons {Q : List V → Hp → Prop} {tr : TA} (h : te σ H fun x H1 => tr σ H1 fun xs H2 => Q (x :: xs) H2) : tCons te tr σ H Q := h
def LstK (Q : VK) (xs : List V) (H : Hp) : Prop := xs.length ≤ sizeLine ∧ ∀ p, H p = none → Q (.ref p) (upd H p (.lst xs))
def TupK (Q : VK) (xs : List V) (H : Hp) : Prop := xs.length ≤ sizeLine ∧ ∀ p, H p = none → Q (.ref p) (upd H p (.tup xs))
theorem s_lst {t : TA} (h : t σ H (LstK Q)) : tLst t σ H Q := h
theorem s_tup {t : TA} (h : t σ H (TupK Q)) : tTup t σ H Q := h
theorem s_cb {r : List V → Hp → VK → Prop} {t : TA} (h : t σ H fun vs H1 => r vs H1 Q) : tCB r t σ H Q := h
theorem s_go {sp : Sp} {E : XK} {t : TA} (h : t σ H fun vs H1 => sp vs H1 Q E) : tGo sp E t σ H Q := h
theorem s_max (q : Q (.int (if m > n then m else n)) H) : (fun xs H Q => ∃ i j, xs = [V.int i, V.int j] ∧ Q (.int (if j > i then j else i)) H : List V → Hp → VK → Prop) [.int n, .int m] H Q := ⟨n, m, rfl, q⟩
theorem at_nat {α : Type} {xs : List α} {j : Nat} {z : α} (h : xs[j]? = some z) : atI xs (j : Int) = some z := by
  have hj : j < xs.length := (List.getElem?_eq_some_iff.mp h).1
  unfold atI ixN
  rw [if_pos (by omega), if_pos (by omega)]
  simpa using h
theorem at_int {α : Type} {xs : List α} {j : Int} (h0 : 0 ≤ j) (h1 : j < xs.length) : ∃ z, xs[j.toNat]? = some z ∧ atI xs j = some z := by
  refine ⟨xs[j.toNat]'(by omega), by simp, ?_⟩
  have := at_nat (xs := xs) (j := j.toNat) (z := xs[j.toNat]'(by omega)) (by simp)
  rwa [Int.toNat_of_nonneg h0] at this
theorem s_ixL {p : Addr} {xs : List V} (h : SqL K H p xs) (ha : atI xs n = some v) (q : Q v H) : rIx K (.ref p) (.int n) H Q := Or.inl ⟨p, xs, n, v, rfl, rfl, h, ha, q⟩
theorem s_ixl {p : Addr} {xs : List V} (h : H p = some (.lst xs)) (ha : atI xs n = some v) (q : Q v H) : rIx K (.ref p) (.int n) H Q := Or.inl ⟨p, xs, n, v, rfl, rfl, SqL.of h, ha, q⟩
theorem s_ixt {p : Addr} {xs : List V} (h : H p = some (.tup xs)) (ha : atI xs n = some v) (q : Q v H) : rIx K (.ref p) (.int n) H Q := Or.inr (Or.inl ⟨p, xs, n, v, rfl, rfl, SqT.of h, ha, q⟩)
theorem s_ixs {z : Str} {c : Nat} (hz : z.length ≤ sizeLine) (ha : atI z.cps.toList n = some c) (q : Q (.str ⟨#[c]⟩) H) : rIx K (.str z) (.int n) H Q := Or.inr (Or.inr ⟨z, n, c, rfl, rfl, hz, ha, q⟩)
theorem s_sub2 {to ti : TE} {t : V → V → V → Hp → (Hp → Prop) → Prop} {R : L2.St → Hp → Prop} (h : to σ H fun o H1 => ti σ H1 fun i H2 => t o i v H2 fun H3 => R σ H3) : gSub to ti t v σ H R := h
theorem s_setl {p : Addr} {xs ys : List V} {j : Nat} {R : Hp → Prop} (h : H p = some (.lst xs)) (hj : ixN xs.length n = some j) (e : xs.set j v = ys) (q : R (upd H p (.lst ys))) : rSetL (.ref p) (.int n) v H R := ⟨p, xs, n, j, rfl, rfl, h, hj, by rw [e]; exact q⟩
theorem s_ite {p : Prop} [Decidable p] {A B : Prop} (h1 : p → A) (h2 : ¬p → B) : if decide p = true then A else B := by
  by_cases h : p
  · rw [decide_eq_true h, if_pos rfl]; exact h1 h
  · rw [decide_eq_false h, if_neg Bool.false_ne_true]; exact h2 h
theorem s_itn {p : Prop} [Decidable p] {A B : Prop} (h1 : ¬p → A) (h2 : p → B) : if (!decide p) = true then A else B := by
  by_cases h : p
  · rw [decide_eq_true h]; exact h2 h
  · rw [decide_eq_false h]; exact h1 h
theorem s_itt {A B : Prop} (h : A) : if true = true then A else B := h
theorem s_itf {A B : Prop} (h : B) : if false = true then A else B := h
theorem s_itb {k : Bool} {A B : Prop} (h1 : k = true → A) (h2 : k = false → B) : if k = true then A else B := by
  cases k with
  | true => exact h1 rfl
  | false => exact h2 rfl
end

/-! heaps: what stands still stands -/
section
variable {K : PySem.W.Frag} {H H1 H2 : Hp} {ps qs : List Addr} {a b p : Addr} {o u : HO}
/-- the kind of what stands -/
def ko : HO → Nat
  | .lst _ => 0 | .tup _ => 1 | .dK _ => 2 | .dT _ => 3 | .set _ _ => 4 | .ins _ _ _ => 5 | .own _ => 6 | .xd _ => 7 | .met _ _ => 8 | .rng _ _ => 9 | .frz _ _ => 10 | .tbl _ => 11
  | _ => 12
def Th (H : Hp) (a : Addr) (i : Nat) : Prop := ∃ o, H a = some o ∧ ko o = i
theorem Th.of (h : H a = some o) : Th H a (ko o) := ⟨o, h, rfl⟩
theorem Th.lst {xs : List V} (h : H a = some (.lst xs)) : Th H a 0 := ⟨_, h, rfl⟩
theorem Th.tup {xs : List V} (h : H a = some (.tup xs)) : Th H a 1 := ⟨_, h, rfl⟩
theorem Th.dK {xs : List (Key × V)} (h : H a = some (.dK xs)) : Th H a 2 := ⟨_, h, rfl⟩
theorem Th.ins {C dx : Addr} {xs : List (Str × V)} (h : H a = some (.ins C dx xs)) : Th H a 5 := ⟨_, h, rfl⟩
theorem Th.xd {xs : List (Str × V)} (h : H a = some (.xd xs)) : Th H a 7 := ⟨_, h, rfl⟩
/-- all that stood, but at the places ps, stands as it stood; and what stood stands, of its kind -/
structure Kp (ps : List Addr) (H H' : Hp) : Prop where
  keep : ∀ b o, H b = some o → b ∉ ps → H' b = some o
  kd : ∀ b i, Th H b i → Th H' b i
  tp : ∀ b xs, H b = some (.tup xs) → H' b = some (.tup xs)
theorem Kp.dom (h : Kp ps H H1) (b : Addr) (n : H1 b = none) : H b = none := by
  cases e : H b with
  | none => rfl
  | some o =>
    obtain ⟨o', e', _⟩ := h.kd b _ (Th.of e)
    rw [e'] at n; cases n
theorem Kp.refl : Kp ps H H := ⟨fun _ _ e _ => e, fun _ _ e => e, fun _ _ e => e⟩
theorem Kp.trans (h : Kp ps H H1) (g : Kp ps H1 H2) : Kp ps H H2 := ⟨fun b o e n => g.keep b o (h.keep b o e n) n, fun b i e => g.kd b i (h.kd b i e), fun b xs e => g.tp b xs (h.tp b xs e)⟩
theorem Kp.mono (h : Kp ps H H1) (g : ∀ a ∈ ps, a ∈ qs) : Kp qs H H1 := ⟨fun b o e n => h.keep b o e fun m => n (g b m), h.kd, h.tp⟩
theorem Kp.nil (h : Kp [] H H1) : Kp ps H H1 := h.mono fun _ m => nomatch m
theorem Kp.get (h : Kp ps H H1) (e : H b = some o) (n : b ∉ ps) : H1 b = some o := h.keep b o e n
theorem Kp.get0 (h : Kp [] H H1) (e : H b = some o) : H1 b = some o := h.keep b o e (by simp)
theorem Kp.get1 (h : Kp [p] H H1) (e : H b = some o) (n : b ≠ p) : H1 b = some o := h.keep b o e (by simpa using n)
theorem Kp.new (h : Kp ps H H1) (n : H1 p = none) : Kp ps H (upd H1 p u) := ⟨fun b o e m => by
  have e1 := h.keep b o e m
  rw [upd_ne (ne_of_none e1 n)]
  exact e1, fun b i e => by
  obtain ⟨o, e1, r⟩ := h.kd b i e
  exact ⟨o, by rw [upd_ne (ne_of_none e1 n)]; exact e1, r⟩, fun b xs e => by
  have e1 := h.tp b xs e
  rw [upd_ne (ne_of_none e1 n)]
  exact e1⟩
theorem Kp.put (h : Kp ps H H1) (m : p ∈ ps) (z : Th H1 p (ko u)) (y : Nat.beq (ko u) 1 = false := by rfl) : Kp ps H (upd H1 p u) := ⟨fun b o e n => by
  rw [upd_ne (fun z => n (by rw [z]; exact m))]
  exact h.keep b o e n, fun b i e => by
  by_cases y : b = p
  · subst y
    obtain ⟨o1, e1, r1⟩ := z
    obtain ⟨o2, e2, r2⟩ := h.kd b i e
    rw [e1] at e2
    cases e2
    exact ⟨u, upd_same, by rw [← r1, r2]⟩
  · obtain ⟨o2, e2, r2⟩ := h.kd b i e
    exact ⟨o2, by rw [upd_ne y]; exact e2, r2⟩, fun b xs e => by
  have e1 := h.tp b xs e
  have n : b ≠ p := fun x => by
    subst x
    obtain ⟨o1, e2, r1⟩ := z
    rw [e1] at e2
    cases e2
    rw [← r1] at y
    cases y
  rw [upd_ne n]
  exact e1⟩
theorem Kp.tgt {xs : List V} (h : Kp ps H H1) (e : H b = some (.tup xs)) : H1 b = some (.tup xs) := h.tp b xs e
theorem Kp.fresh (h : Kp ps H H1) (n : H1 p = none) : H p = none := h.dom p n
theorem Kp.fresh0 (h : Kp [] H H1) (n : H1 p = none) : H p = none := h.dom p n
/-- a place that did not stand may have changed -/
theorem Kp.drop (h : Kp (p :: ps) H H1) (n : H p = none) : Kp ps H H1 := ⟨fun b o e m => h.keep b o e (by
  intro z
  rcases List.mem_cons.mp z with z | z
  · subst z; rw [n] at e; cases e
  · exact m z), h.kd, h.tp⟩
/-- a new object, the heap behind it as a letter -/
theorem new_abs {o : HO} {R : Addr → Hp → Prop} (h : ∀ p H', H p = none → H' p = some o → Kp [] H H' → R p H') : ∀ p, H p = none → R p (upd H p o) :=
  fun p f => h p _ f upd_same (Kp.refl.new f)
theorem s_newl {Q : VK} {xs : List V} (hz : xs.length ≤ sizeLine) (h : ∀ p H', H p = none → H' p = some (.lst xs) → Kp [] H H' → Q (.ref p) H') : LstK Q xs H := ⟨hz, new_abs h⟩
theorem s_newt {Q : VK} {xs : List V} (hz : xs.length ≤ sizeLine) (h : ∀ p H', H p = none → H' p = some (.tup xs) → Kp [] H H' → Q (.ref p) H') : TupK Q xs H := ⟨hz, new_abs h⟩
theorem s_addl {Q : VK} {p q : Addr} {xs ys : List V} (h1 : H p = some (.lst xs)) (h2 : H q = some (.lst ys)) (h : xs.length + ys.length ≤ sizeLine)
    (z : ∀ p' H', H p' = none → H' p' = some (.lst (xs ++ ys)) → Kp [] H H' → Q (.ref p') H') : uAdd K (.ref p) (.ref q) H Q :=
  Or.inr (Or.inr (Or.inl ⟨p, q, xs, ys, rfl, rfl, h1, h2, h, new_abs z⟩))
theorem Kp.rd (h : Kp [] H H1) (e : Rd H a u) : Rd H1 a u := by
  rcases e with e | ⟨o, e⟩
  · exact Or.inl (h.get0 e)
  · exact Or.inr ⟨o, h.get0 e⟩
theorem Kp.sql {xs : List V} (h : Kp [] H H1) (e : SqL K H a xs) : SqL K H1 a xs := by
  rcases e with e | e
  · exact Or.inl (h.rd e)
  · exact Or.inr e
theorem Kp.sqt {xs : List V} (h : Kp [] H H1) (e : SqT K H a xs) : SqT K H1 a xs := by
  rcases e with e | e
  · exact Or.inl (h.rd e)
  · exact Or.inr e
end
end U

namespace U
open PySem L2 PySem.Spec PyProof.Rows

/-! promises by the number of arguments -/
abbrev P0 := Hp → VK → XK → Prop
def sp0 (F : P0) : Sp := fun vs H Q E => vs = [] ∧ F H Q E
def sp1 (F : V → P0) : Sp := fun vs H Q E => ∃ a, vs = [a] ∧ F a H Q E
def sp2 (F : V → V → P0) : Sp := fun vs H Q E => ∃ a b, vs = [a, b] ∧ F a b H Q E
def sp3 (F : V → V → V → P0) : Sp := fun vs H Q E => ∃ a b c, vs = [a, b, c] ∧ F a b c H Q E
def sp4 (F : V → V → V → V → P0) : Sp := fun vs H Q E => ∃ a b c d, vs = [a, b, c, d] ∧ F a b c d H Q E
def sp5 (F : V → V → V → V → V → P0) : Sp := fun vs H Q E => ∃ a b c d e, vs = [a, b, c, d, e] ∧ F a b c d e H Q E
def sp6 (F : V → V → V → V → V → V → P0) : Sp := fun vs H Q E => ∃ a b c d e f, vs = [a, b, c, d, e, f] ∧ F a b c d e f H Q E
section
variable {H : Hp} {Q : VK} {E : XK} {a b c d e f : V}
theorem s_sp0 {F : P0} (h : F H Q E) : sp0 F [] H Q E := ⟨rfl, h⟩
theorem s_sp1 {F : V → P0} (h : F a H Q E) : sp1 F [a] H Q E := ⟨a, rfl, h⟩
theorem s_sp2 {F : V → V → P0} (h : F a b H Q E) : sp2 F [a, b] H Q E := ⟨a, b, rfl, h⟩
theorem s_sp3 {F : V → V → V → P0} (h : F a b c H Q E) : sp3 F [a, b, c] H Q E := ⟨a, b, c, rfl, h⟩
theorem s_sp4 {F : V → V → V → V → P0} (h : F a b c d H Q E) : sp4 F [a, b, c, d] H Q E := ⟨a, b, c, d, rfl, h⟩
theorem s_sp5 {F : V → V → V → V → V → P0} (h : F a b c d e H Q E) : sp5 F [a, b, c, d, e] H Q E := ⟨a, b, c, d, e, rfl, h⟩
theorem s_sp6 {F : V → V → V → V → V → V → P0} (h : F a b c d e f H Q E) : sp6 F [a, b, c, d, e, f] H Q E := ⟨a, b, c, d, e, f, rfl, h⟩
end

/-! built-in names -/
theorem bt_len : bootBuiltins "len" = some (.builtin "len") := by decide +kernel
theorem bt_max : bootBuiltins "max" = some (.builtin "max") := by decide +kernel
theorem bt_min : bootBuiltins "min" = some (.builtin "min") := by decide +kernel
theorem bt_all : bootBuiltins "all" = some (.builtin "all") := by decide +kernel
theorem bt_any : bootBuiltins "any" = some (.builtin "any") := by decide +kernel
theorem bt_repr : bootBuiltins "repr" = some (.builtin "repr") := by decide +kernel
theorem bt_sorted : bootBuiltins "sorted" = some (.builtin "sorted") := by decide +kernel
theorem bt_sum : bootBuiltins "sum" = some (.builtin "sum") := by decide +kernel
theorem bt_isinstance : bootBuiltins "isinstance" = some (.builtin "isinstance") := by decide +kernel
theorem bt_int : bootBuiltins "int" = some (.type "int") := by decide +kernel
theorem bt_bool : bootBuiltins "bool" = some (.type "bool") := by decide +kernel
theorem bt_str : bootBuiltins "str" = some (.type "str") := by decide +kernel
theorem bt_list : bootBuiltins "list" = some (.type "list") := by decide +kernel
theorem bt_tuple : bootBuiltins "tuple" = some (.type "tuple") := by decide +kernel
theorem bt_dict : bootBuiltins "dict" = some (.type "dict") := by decide +kernel
theorem bt_set : bootBuiltins "set" = some (.type "set") := by decide +kernel
theorem bt_range : bootBuiltins "range" = some (.type "range") := by decide +kernel

section
variable {X : Cx} {K : PySem.W.Frag}
def uLen (K : PySem.W.Frag) : List V → Hp → VK → Prop := fun xs H Q => (∃ x n, xs = [x] ∧ LenV K x H n ∧ Q (.int n) H) ∨ ∃ a kvs, xs = [V.ref a] ∧ H a = some (.dK kvs) ∧ Q (.int kvs.length) H
theorem c_len (hK : X.K = K) : CallR X (.builtin "len") (uLen K) := hK ▸ call_len.or call_lenD
def uMax : List V → Hp → VK → Prop := fun xs H Q => ∃ i j, xs = [.int i, .int j] ∧ Q (.int (if j > i then j else i)) H
def uMin : List V → Hp → VK → Prop := fun xs H Q => ∃ i j, xs = [.int i, .int j] ∧ Q (.int (if j < i then j else i)) H
theorem c_max (hc : X.calm = true) : CallR X (.builtin "max") uMax := call_max2 hc
theorem c_min (hc : X.calm = true) : CallR X (.builtin "min") uMin := call_min2 hc
def uStr : List V → Hp → VK → Prop := fun xs H Q => ∃ i, xs = [.int i] ∧ i.natAbs.log2 < 1920 ∧ Q (.str (toString i)) H
theorem c_isi (hK : X.K = K) : CallR X (.builtin "isinstance") (rIsi K) := hK ▸ call_isi
theorem c_all (hK : X.K = K) (hc : X.calm = true) : CallR X (.builtin "all") (rAll K) := hK ▸ cr_all hc
theorem c_any (hK : X.K = K) (hc : X.calm = true) : CallR X (.builtin "any") (rAny K) := hK ▸ cr_any hc
theorem c_repr {k : Nat} (hK : X.K = K) (hg : X.A.guards = some []) (hr : Room k X.A) (hs : ∃ mm, X.base.Ns sysModules mm) : CallR X (.builtin "repr") (rRepr K) := hK ▸ call_repr hg hr hs
theorem c_str : CallR X (.type "str") uStr := call_str_int
end

def uJoin (K : PySem.W.Frag) : V → List V → Hp → VK → Prop := fun x xs H Q => ∃ a p, ∃ ys : List Str, x = .str a ∧ xs = [.ref p] ∧ (SqL K H p (ys.map V.str) ∨ SqT K H p (ys.map V.str)) ∧
  (ys.map (·.length)).sum + ys.length * a.length ≤ 16777216 ∧ Q (.str (Txt.join a ys)) H
theorem pe_joinU {X : Cx} {K : PySem.W.Frag} {o e : Expr} {to te : TE} {ap pos : Pos} (hK : X.K = K) (ho : PE X o to) (he : PE X e te) (h1 : starEach [e] X.env = [(false, eval e X.env)] := by rfl) (h2 : attributeBase o "join" X.env (eval o X.env) = eval o X.env := by rfl)
    (h3 : (ap.endLine == pos.line) = true := by rfl) : PE X (.Call (.Attribute o "join" ap) [e] [] pos) (tM1 (uJoin K) to te) := hK ▸ pe_join ho he h1 h2 h3

theorem pi_lst {X : Cx} {K : PySem.W.Frag} {tg l : Expr} {tl : TE} (hK : X.K = K) (hl : PE X l tl) : PI X tg l (iList K tl) := hK ▸ pi_list hl
theorem pi_tpl {X : Cx} {K : PySem.W.Frag} {tg l : Expr} {tl : TE} (hK : X.K = K) (hl : PE X l tl) : PI X tg l (iTup K tl) := hK ▸ pi_tup hl

/-! more steps -/
theorem zle {n : Nat} (h : n ≤ 1000000) : n ≤ sizeLine := Nat.le_trans h (by decide)
/-- what kind of thing a value is -/
inductive Kd | non | bl | int | str | lst | tup | dic
def Kd.nm : Kd → String
  | .non => "NoneType" | .bl => "bool" | .int => "int" | .str => "str" | .lst => "list" | .tup => "tuple" | .dic => "dict"
inductive TyN (H : Hp) : V → Kd → Prop
  | non : TyN H .non .non
  | bl {b : Bool} : TyN H (.bl b) .bl
  | int {i : Int} : TyN H (.int i) .int
  | str {z : Str} : TyN H (.str z) .str
  | lst {a : Addr} {xs : List V} : H a = some (.lst xs) → TyN H (.ref a) .lst
  | tup {a : Addr} {xs : List V} : H a = some (.tup xs) → TyN H (.ref a) .tup
  | dic {a : Addr} {kvs : List (Key × V)} : H a = some (.dK kvs) → TyN H (.ref a) .dic
theorem TyN.ty {K : PySem.W.Frag} {H : Hp} {v : V} {n : Kd} (h : TyN H v n) : TyX K H v (.type n.nm) := by
  cases h with
  | non => exact .base .non
  | bl => exact .base (.bl _)
  | int => exact .base (.int _)
  | str => exact .base (.str _)
  | lst e => exact .base (.lst e)
  | tup e => exact .base (.tup e)
  | dic e => exact .base (.dK e)
theorem TyN.kp {H H' : Hp} {v : V} {n : Kd} (h : TyN H v n) (k : Kp [] H H') : TyN H' v n := by
  cases h with
  | non => exact .non
  | bl => exact .bl
  | int => exact .int
  | str => exact .str
  | lst e => exact .lst (k.get0 e)
  | tup e => exact .tup (k.get0 e)
  | dic e => exact .dic (k.get0 e)
def Kd.isInt : Kd → Bool | .int => true | .bl => true | _ => false
def Kd.isBool : Kd → Bool | .bl => true | _ => false
def Kd.isStr : Kd → Bool | .str => true | _ => false
def Kd.isList : Kd → Bool | .lst => true | _ => false
def Kd.isTup : Kd → Bool | .tup => true | _ => false
def Kd.isDict : Kd → Bool | .dic => true | _ => false
theorem kb_int (t : Kd) : kitB t.nm "int" = some t.isInt := by cases t <;> decide +kernel
theorem kb_bool (t : Kd) : kitB t.nm "bool" = some t.isBool := by cases t <;> decide +kernel
theorem kb_str (t : Kd) : kitB t.nm "str" = some t.isStr := by cases t <;> decide +kernel
theorem kb_list (t : Kd) : kitB t.nm "list" = some t.isList := by cases t <;> decide +kernel
theorem kb_tup (t : Kd) : kitB t.nm "tuple" = some t.isTup := by cases t <;> decide +kernel
theorem kb_dict (t : Kd) : kitB t.nm "dict" = some t.isDict := by cases t <;> decide +kernel
section
variable {K : PySem.W.Frag} {σ : L2.St} {H : Hp} {Q : VK} {D : Ends} {x y v : V} {i : Nat} {n m : Int} {a b : Str}
theorem s_max2 (q : Q (.int (if m > n then m else n)) H) : uMax [.int n, .int m] H Q := ⟨n, m, rfl, q⟩
theorem s_min2 (q : Q (.int (if m < n then m else n)) H) : uMin [.int n, .int m] H Q := ⟨n, m, rfl, q⟩
theorem s_lens (h : a.length ≤ sizeLine) (q : Q (.int a.length) H) : uLen K [.str a] H Q := Or.inl ⟨_, a.length, rfl, ⟨h, rfl⟩, q⟩
theorem s_lenL {p : Addr} {xs : List V} (h : SqL K H p xs) (q : Q (.int xs.length) H) : uLen K [.ref p] H Q := Or.inl ⟨_, xs.length, rfl, Or.inl ⟨xs, h, rfl⟩, q⟩
theorem s_lenl {p : Addr} {xs : List V} (h : H p = some (.lst xs)) (q : Q (.int xs.length) H) : uLen K [.ref p] H Q := s_lenL (SqL.of h) q
theorem s_lent {p : Addr} {xs : List V} (h : H p = some (.tup xs)) (q : Q (.int xs.length) H) : uLen K [.ref p] H Q := Or.inl ⟨_, xs.length, rfl, Or.inr ⟨xs, SqT.of h, rfl⟩, q⟩
theorem s_lend {p : Addr} {xs : List (Key × V)} (h : H p = some (.dK xs)) (q : Q (.int xs.length) H) : uLen K [.ref p] H Q := Or.inr ⟨p, xs, rfl, h, q⟩
theorem s_str (h : n.natAbs.log2 < 1920) (q : Q (.str (toString n)) H) : uStr [.int n] H Q := ⟨n, rfl, h, q⟩
theorem s_isi0 {s t : String} {k : Bool} (h : TyX K H v (.type s)) (hk : kitB s t = some k) (q : Q (.bl k) H) : rIsi K [v, .ty t] H Q := ⟨v, .ty t, .type s, .type t, k, rfl, .ty t, h, kit_ty hk, q⟩
theorem s_isInt {t : Kd} (h : TyN H v t) (q : Q (.bl t.isInt) H) : rIsi K [v, .ty "int"] H Q := s_isi0 h.ty (kb_int t) q
theorem s_isBool {t : Kd} (h : TyN H v t) (q : Q (.bl t.isBool) H) : rIsi K [v, .ty "bool"] H Q := s_isi0 h.ty (kb_bool t) q
theorem s_isStr {t : Kd} (h : TyN H v t) (q : Q (.bl t.isStr) H) : rIsi K [v, .ty "str"] H Q := s_isi0 h.ty (kb_str t) q
theorem s_isList {t : Kd} (h : TyN H v t) (q : Q (.bl t.isList) H) : rIsi K [v, .ty "list"] H Q := s_isi0 h.ty (kb_list t) q
theorem s_isTup {t : Kd} (h : TyN H v t) (q : Q (.bl t.isTup) H) : rIsi K [v, .ty "tuple"] H Q := s_isi0 h.ty (kb_tup t) q
theorem s_isDict {t : Kd} (h : TyN H v t) (q : Q (.bl t.isDict) H) : rIsi K [v, .ty "dict"] H Q := s_isi0 h.ty (kb_dict t) q
theorem s_itT {k : Bool} {A B : Prop} (e : k = true) (h : A) : if k = true then A else B := by subst e; exact h
theorem s_itF {k : Bool} {A B : Prop} (e : k = false) (h : B) : if k = true then A else B := by subst e; exact h
theorem s_sl {r : V → Option Int → Option Int → Hp → VK → Prop} {te : TE} {tl th : TO} (h : te σ H fun x H1 => tl σ H1 fun l H2 => th σ H2 fun u H3 => r x l u H3 Q) : tSl r te tl th σ H Q := h
theorem s_nopart {Q : Option Int → Hp → Prop} (q : Q none H) : tNoPart σ H Q := q
theorem s_part {Q : Option Int → Hp → Prop} {t : TE} (h : t σ H fun x H1 => ∃ i, x = .int i ∧ Q (some i) H1) : tPart t σ H Q := h
theorem s_int {P : Int → Prop} (q : P n) : ∃ i, V.int n = .int i ∧ P i := ⟨n, rfl, q⟩
theorem s_sls {lo hi : Option Int} (h : a.length ≤ sizeLine) (q : Q (.str (cutS a lo hi)) H) : uSl K (.str a) lo hi H Q := Or.inr (Or.inl ⟨a, rfl, h, q⟩)
theorem s_sll {lo hi : Option Int} {p : Addr} {xs : List V} (h : SqL K H p xs) (q : ∀ p' H', H p' = none → H' p' = some (.lst (cutV xs lo hi)) → Kp [] H H' → Q (.ref p') H') : uSl K (.ref p) lo hi H Q := Or.inl ⟨p, xs, rfl, h, new_abs q⟩
theorem s_m1 {r : V → List V → Hp → VK → Prop} {to te : TE} (h : to σ H fun x H1 => (∃ a, x = .str a) ∧ te σ H1 fun y H2 => r x [y] H2 Q) : tM1 r to te σ H Q := h
theorem s_isstr {R : Prop} (h : R) : (∃ b, V.str a = .str b) ∧ R := ⟨⟨a, rfl⟩, h⟩
theorem s_join {p : Addr} {ys : List Str} (h : H p = some (.lst (ys.map V.str))) (hz : (ys.map (·.length)).sum + ys.length * a.length ≤ 16777216) (q : Q (.str (Txt.join a ys)) H) : uJoin K (.str a) [.ref p] H Q :=
  ⟨a, p, ys, rfl, rfl, Or.inl (SqL.of h), hz, q⟩
theorem s_rng1 {ta : TA} {R : It → Hp → Prop} (h : ta σ H fun vs H1 => ∃ j : Int, vs = [.int j] ∧ -(2 ^ 62) ≤ j ∧ j < 2 ^ 62 ∧ R (Itr 0 j.toNat) H1) : iRng1 ta σ H R := h
theorem s_rng {R : Int → Prop} (h1 : -(2 ^ 62) ≤ n) (h2 : n < 2 ^ 62) (q : R n) : ∃ j : Int, [V.int n] = [.int j] ∧ -(2 ^ 62) ≤ j ∧ j < 2 ^ 62 ∧ R j := ⟨n, rfl, h1, h2, q⟩
theorem s_ilist {tl : TE} {R : It → Hp → Prop} (h : tl σ H fun x H1 => ∃ a, x = .ref a ∧ (∃ xs, SqL K H1 a xs) ∧ R (Itl K a) H1) : iList K tl σ H R := h
theorem s_ilst {p : Addr} {xs : List V} {R : Addr → Prop} (h : SqL K H p xs) (q : R p) : ∃ a, V.ref p = .ref a ∧ (∃ xs, SqL K H a xs) ∧ R a := ⟨p, rfl, ⟨xs, h⟩, q⟩
theorem s_istr {te : TE} {R : It → Hp → Prop} (h : te σ H fun v H1 => ∃ x, v = .str x ∧ R (Its x) H1) : iStr te σ H R := h
theorem s_istr1 {R : Str → Prop} (q : R a) : ∃ x, V.str a = .str x ∧ R x := ⟨a, rfl, q⟩
theorem s_dnew (h : ∀ d H', H d = none → H' d = some (.dK []) → Kp [] H H' → Q (.ref d) H') : tDNewK σ H Q := new_abs (R := fun d H' => Q (.ref d) H') h
theorem s_all {p : Addr} {bs : List Bool} (h : H p = some (.lst (bs.map V.bl))) (q : Q (.bl (bs.all id)) H) : rAll K [.ref p] H Q := ⟨p, bs, rfl, SqL.of h, q⟩
theorem s_yes {Q : Bool → Hp → Prop} (q : Q true H) : tYes σ H Q := q
theorem dpa_strs : ∀ zs : List Str, DpAll K H (zs.map V.str) (zs.map PyData.str)
  | [] => .nil
  | z :: zs => .cons (.str z) (dpa_strs zs)
theorem lay_strs : ∀ {zs : List Str}, (∀ z ∈ zs, ∀ c ∈ z.cps.toList, c < 1114112) → PyData.canLayAll0 (zs.map PyData.str) = true ∧ PyData.depthAll (zs.map PyData.str) ≤ 1
  | [], _ => ⟨rfl, by simp [PyData.depthAll]⟩
  | z :: zs, h => by
    obtain ⟨h1, h2⟩ := lay_strs (zs := zs) fun y hy => h y (List.mem_cons_of_mem _ hy)
    refine ⟨?_, ?_⟩
    · simp only [List.map_cons, PyData.canLayAll0, PyData.canLay0, h1, Bool.and_true, PyData.strOk, Array.all_eq_true', decide_eq_true_eq]
      intro c hc
      exact h z List.mem_cons_self c (by simpa using hc)
    · simp only [List.map_cons, PyData.depthAll, PyData.depth]
      omega
theorem shp_strs {zs : List Str} (h : ∀ z ∈ zs, ∀ c ∈ z.cps.toList, c < 1114112) : SeqAt.shaped (.list (zs.map PyData.str)) = true := by
  obtain ⟨h1, h2⟩ := lay_strs h
  unfold SeqAt.shaped
  rw [Bool.and_eq_true]
  refine ⟨by simpa only [PyData.canLay0] using h1, decide_eq_true ?_⟩
  simp only [PyData.depth]
  omega
theorem s_eqNil {p q : Addr} {zs : List Str} (h1 : H p = some (.lst (zs.map V.str))) (h2 : H q = some (.lst [])) (ok : ∀ z ∈ zs, ∀ c ∈ z.cps.toList, c < 1114112) (k : Q (.bl zs.isEmpty) H) : uEq K (.ref p) (.ref q) H Q := by
  refine Or.inr ⟨_, _, .lst (SqL.of h1) (dpa_strs zs), .lst (SqL.of h2) .nil, shp_strs ok, by decide +kernel, ?_⟩
  have e : PyData.eqv (.list (zs.map PyData.str)) (.list []) = zs.isEmpty := by
    cases zs <;> simp [PyData.eqv, PyData.eqvAll]
  rw [e]
  exact k
/-- a comprehension -/
theorem s_lc {wi : TI} {g : TG} {tt : TT} {te : TE} {vs : List Nat} (h : wi σ H fun J H1 => ∀ D, H1 D = none → ∃ W : Nat → Nat → Hp → Prop, (∃ m, W 0 m (upd H1 D (.lst []))) ∧ ∀ i m H, W i m H →
    (J.stop i H ∧ Q (.ref D) H) ∨ (J.go i H ∧ ∃ Nx : Hp → Prop, (∀ H', Nx H' → ∃ m', m' < m ∧ W (i + 1) m' H') ∧ ∀ x H', J.yld i H x H' → g x (wipe σ vs) H' fun σ2 H2 => wipe σ2 vs = wipe σ vs ∧ tt σ2 H2 fun b H3 =>
      if b = true then te σ2 H3 fun y H4 => ∃ acc, H4 D = some (.lst acc) ∧ acc.length < sizeLine ∧ Nx (upd H4 D (.lst (acc ++ [y]))) else Nx H3)) : tLc wi g tt te vs σ H Q := h
/-- a loop -/
theorem s_for {wi : TI} {g : TG} {tb : TS} (h : wi σ H fun J H1 => ∃ W : Nat → Nat → L2.St → Hp → Prop, (∃ m, W 0 m σ H1) ∧ ∀ i m σ H, W i m σ H →
    (J.stop i H ∧ D.nx σ H) ∨ (J.go i H ∧ ∃ N : L2.St → Hp → Prop, (∀ σ' H', N σ' H' → ∃ m', m' < m ∧ W (i + 1) m' σ' H') ∧ ∀ x H', J.yld i H x H' → g x σ H' fun σ2 H2 => tb { D with nx := N, ct := N, bk := D.nx } σ2 H2)) : tFor wi g tb D σ H := h
/-- a comprehension's invariant, by the items made so far -/
def PvD (D : Addr) (Pv : Nat → List V → Hp → Prop) (i : Nat) (H : Hp) : Prop := ∃ acc, H D = some (.lst acc) ∧ Pv i acc H
theorem PvD.start {D : Addr} {Pv : Nat → List V → Hp → Prop} (h : Pv 0 [] (upd H D (.lst []))) : PvD D Pv 0 (upd H D (.lst [])) := ⟨[], upd_same, h⟩
theorem PvD.more {D : Addr} {Pv : Nat → List V → Hp → Prop} {acc : List V} (e : H D = some (.lst acc)) (hz : acc.length < sizeLine) (h : Pv i (acc ++ [y]) (upd H D (.lst (acc ++ [y])))) :
    ∃ acc, H D = some (.lst acc) ∧ acc.length < sizeLine ∧ PvD D Pv i (upd H D (.lst (acc ++ [y]))) := ⟨acc, e, hz, acc ++ [y], upd_same, h⟩
theorem PvD.skip {D : Addr} {Pv : Nat → List V → Hp → Prop} {acc : List V} (e : H D = some (.lst acc)) (h : Pv i acc H) : PvD D Pv i H := ⟨acc, e, h⟩
end
end U

namespace U
open PySem L2 PySem.Spec PyProof.Rows
theorem log2s {m : Nat} (h : m < 10 ^ 100) : m.log2 < 1920 := log2_small (Nat.lt_of_lt_of_le h (by decide +kernel))
/-- a text of at most n signs -/
structure SS (z : Str) (n : Nat) : Prop where
  len : z.length ≤ n
  ok : ∀ c ∈ z.cps.toList, c < 1114112
theorem SS.mono {z : Str} {n m : Nat} (h : SS z n) (e : n ≤ m) : SS z m := ⟨Nat.le_trans h.len e, h.ok⟩
theorem SS.app {a b : Str} {n m : Nat} (h : SS a n) (g : SS b m) : SS (a ++ b) (n + m) := by
  refine ⟨by rw [Str.length_append]; have := h.len; have := g.len; omega, fun c hc => ?_⟩
  rw [Str.cps_append, Array.toList_append, List.mem_append] at hc
  rcases hc with hc | hc
  · exact h.ok c hc
  · exact g.ok c hc
theorem SS.cut {a : Str} {n : Nat} {lo hi : Option Int} (h : SS a n) : SS (cutS a lo hi) n := by
  refine ⟨?_, fun c hc => ?_⟩
  · show (List.toArray _).size ≤ n
    rw [List.size_toArray, List.length_take, List.length_drop, Array.length_toList]
    have : a.cps.size ≤ n := h.len
    omega
  · have hc : c ∈ (List.take (HT.sIx a.length a.length hi - HT.sIx a.length 0 lo) (List.drop (HT.sIx a.length 0 lo) a.cps.toList)) := by simpa [cutS] using hc
    exact h.ok c (List.mem_of_mem_drop (List.mem_of_mem_take hc))
theorem SS.one {c : Nat} (h : c < 1114112) : SS ⟨#[c]⟩ 1 := ⟨by simp [Str.length], fun d hd => by
  have : d = c := by simpa using hd
  subst this; exact h⟩
theorem SS.mk' {z : Str} {n : Nat} (h : z.length ≤ n ∧ ∀ c ∈ z.cps.toList, c < 1114112) : SS z n := ⟨h.1, h.2⟩
theorem join_ones : ∀ cs : List Nat, Txt.join (Str.ofString "") (cs.map fun c => ⟨#[c]⟩) = ⟨cs.toArray⟩ := fun cs => by
  rw [show ∀ y l, Txt.join y l = Str.join y l from fun y l => StrLaws.glued_eq_join y l]
  have e0 : Str.ofString "" = Str.empty := by decide +kernel
  rw [e0]
  induction cs with
  | nil => rfl
  | cons c cs ih =>
    cases cs with
    | nil => rfl
    | cons d cs =>
      show (⟨#[c]⟩ : Str) ++ Str.empty ++ Str.join Str.empty ((d :: cs).map fun c => ⟨#[c]⟩) = _
      rw [ih]
      refine Str.ext' ?_
      simp [Str.cps_append, Str.empty]
theorem SS.ones {cs : List Nat} (h : ∀ c ∈ cs, c < 1114112) : SS (Txt.join (Str.ofString "") (cs.map fun c => ⟨#[c]⟩)) cs.length := by
  rw [join_ones]
  exact ⟨by simp [Str.length], by simpa using h⟩
theorem SS.num {i : Int} (h : i.natAbs < 10 ^ 100) : SS (Str.ofString (toString i)) 102 := by
  refine ⟨int_len h, fun c hc => ?_⟩
  rw [Str.ofString_eq_toList] at hc
  have hc : c ∈ (toString i).toList.map Char.toNat := by simpa using hc
  obtain ⟨d, _, rfl⟩ := List.mem_map.mp hc
  have h2 : d.toNat.isValidChar := d.valid
  unfold Nat.isValidChar at h2
  omega
theorem SS.at {z : Str} {n : Nat} {i : Int} (h : SS z n) (h0 : 0 ≤ i) (h1 : i < z.length) : ∃ c, atI z.cps.toList i = some c ∧ c < 1114112 ∧ c ∈ z.cps.toList := by
  obtain ⟨c, e1, e2⟩ := at_int (xs := z.cps.toList) h0 (by rw [Array.length_toList]; exact h1)
  have m := List.mem_of_getElem? e1
  exact ⟨c, e2, h.ok c m, m⟩
theorem ones_len (cs : List Nat) : ((cs.map fun c => (⟨#[c]⟩ : Str)).map (·.length)).sum = cs.length := by
  induction cs with
  | nil => rfl
  | cons c cs ih =>
    rw [List.map_cons, List.map_cons, List.sum_cons, ih, List.length_cons]
    simp [Str.length]
    omega
end U

namespace U
open PySem L2 PySem.Spec PyProof.Rows

theorem peImp {X : Cx} {e : Expr} {t u : TE} (h : PE X e t) (w : ∀ σ H (Q : VK), u σ H Q → ∃ Q0 : VK, t σ H Q0 ∧ ∀ x H1, Q0 x H1 → Q x H1) : PE X e u :=
  ⟨fun pi s σ H Q I q => by
    obtain ⟨Q0, q0, z⟩ := w σ H Q q
    exact thn (h.run pi s σ H Q0 I q0) fun a s1 ⟨x, H1, I1, r1, q1⟩ => ⟨x, H1, I1, r1, z x H1 q1⟩⟩
def tMo (t : TE) : TE := fun σ H Q => ∃ Q0 : VK, t σ H Q0 ∧ ∀ x H1, Q0 x H1 → Q x H1
theorem peMo {X : Cx} {e : Expr} {t : TE} (h : PE X e t) : PE X e (tMo t) := peImp h fun _ _ _ q => q
def tMa (t : TA) : TA := fun σ H Q => ∃ Q0 : List V → Hp → Prop, t σ H Q0 ∧ ∀ x H1, Q0 x H1 → Q x H1
theorem paMo {X : Cx} {es : List Expr} {t : TA} (h : PA X es t) : PA X es (tMa t) :=
  ⟨fun pos pi s σ H Q I ⟨Q0, q0, z⟩ => thn (h.run pos pi s σ H Q0 I q0) fun a s1 ⟨x, H1, I1, r1, q1⟩ => ⟨x, H1, I1, r1, z x H1 q1⟩⟩
theorem psImp {X : Cx} {st : Stmt} {t u : TS} (h : PS X st t) (w : ∀ D σ H, u D σ H → t D σ H) : PS X st u :=
  ⟨fun pi s σ H D I q => h.run pi s σ H D I (w D σ H q)⟩

/-! what is raised passes -/
section
variable {X : Cx} {E : XK}
theorem passF : Passes (L2.CX X.prog X.w) X (fun _ _ _ => False) := fun _ _ _ _ _ _ _ c => by
  obtain ⟨_, _, _, _, _, _, _, _, _, _, _, _, z⟩ := c
  exact z.elim
/-- the wish of a def's body -/
abbrev wE (E : XK) : WX := fun cls d _ H => E cls d H
abbrev wNo : WX := fun _ _ _ _ => False
end

/-! calls -/
section
variable {X : Cx} {k : Nat} {f C : Addr} {fd : FuncData} {ps : List Str} {sp : Sp} {W : WX} {x m : Str} {p ap pos : Pos} {e o : Expr} {es : List Expr} {t : TA} {ta : TE} {K : PySem.W.Frag}
variable {pi : List (Addr × Obj)} {σ : L2.St} {H : Hp} {s : Shared} {Q : VK} {us : List Value} {vs : List V}
theorem bind0 (hb : Binds X.K fd ps []) (I : Inv X pi σ H s) (r : Vals vs us) (l : vs.length = ps.length) : BindsTo s fd ⟨us, []⟩ (ps.zip us) := by
  have e1 : us ++ [] = us := List.append_nil us
  have b1 := hb s us I.kIn (by rw [e1, ← r.length]; exact l)
  rw [e1] at b1
  exact b1
theorem run_o (F : FnOk X.prog X.w X.K X.mg X.base (L2.CX X.prog X.w) k f fd ps sp) (hr : Room k X.A) (hb : Binds X.K fd ps []) (tk : Takes X W) (I : Inv X pi σ H s) (r : Vals vs us) (h : sp vs H Q (fun cls d H' => W cls d σ H')) :
    wpAny (model X.prog X.w) X.A (call (.ref f) us) (EP X pi σ Q) X.xe s := by
  refine wpAny_call (codeAny_mono (F.run X.A X.stack s H ⟨us, []⟩ us vs Q _ hr I.env0 (bind0 hb I r (F.len _ _ _ _ h)) r h) fun rr s' hq => ?_)
  match rr, hq with
  | .error er, z => exact tk er s' (XE.of_call I (fun _ _ _ y => y) z)
  | .ok (.ret u), z => exact I.after z
  | .ok .next, z => exact z.elim
  | .ok .brk, z => exact z.elim
  | .ok .cont, z => exact z.elim
theorem run_g (F : FnG X.prog X.w X.K X.mg X.base (L2.CX X.prog X.w) k f fd ps sp) (hg : X.A.guards = some []) (hr : Room k X.A) (hb : Binds X.K fd ps []) (tk : Takes X W) (I : Inv X pi σ H s) (r : Vals vs us) (h : sp vs H Q (fun cls d H' => W cls d σ H')) :
    wpAny (model X.prog X.w) X.A (call (.ref f) us) (EP X pi σ Q) X.xe s := by
  refine wpAny_call (codeAny_mono (F.run X.A X.stack s H ⟨us, []⟩ us vs Q _ hg hr I.env0 (bind0 hb I r (F.len _ _ _ _ h)) r h) fun rr s' hq => ?_)
  match rr, hq with
  | .error er, z => exact tk er s' (XE.of_call I (fun _ _ _ y => y) z)
  | .ok (.ret u), z => exact I.after z
  | .ok .next, z => exact z.elim
  | .ok .brk, z => exact z.elim
  | .ok .cont, z => exact z.elim
def tCo (sp : Sp) (W : WX) (t : TA) : TE := fun σ H Q => t σ H fun vs H1 => sp vs H1 Q fun cls d H' => W cls d σ H'
/-- f(e, ..), f of a promise that asks nothing of what is around -/
theorem pe_co (F : FnOk X.prog X.w X.K X.mg X.base (L2.CX X.prog X.w) k f fd ps sp) (hr : Room k X.A) (gl : Gl X x) (hm : X.mg x = some (.ref f)) (hk : PySem.W.keepIn X.K (.ref f) = true) (hb : Binds X.K fd ps []) (tk : Takes X W)
    (ha : PA X (e :: es) t) (h1 : (x == ("__debug__" : Str)) = false := by decide) (h2 : starEach (e :: es) X.env = (false, eval e X.env) :: starEach es X.env := by rfl) (h3 : (backTo pos (starEach es X.env)).any (·.1) = false := by rfl) :
    PE X (.Call (.Name x p) (e :: es) [] pos) (tCo sp W t) := by
  refine ⟨fun pi s σ H Q I h => wpAny_Call_Name_kw (ld_glob I gl hm ?_ h1)⟩
  refine PySem.W.callWith_K (h₀ := X.base) I.ok.mod.kin hk (thn (ha.run pos pi s σ H _ I h) ?_) h2 h3
  rintro us s1 ⟨vs, H1, I1, r, q⟩
  exact ⟨I1.kIn, run_o F hr hb tk I1 r q⟩
theorem pe_co0 (F : FnOk X.prog X.w X.K X.mg X.base (L2.CX X.prog X.w) k f fd ps sp) (hr : Room k X.A) (gl : Gl X x) (hm : X.mg x = some (.ref f)) (hk : PySem.W.keepIn X.K (.ref f) = true) (hb : Binds X.K fd ps []) (tk : Takes X W)
    (h1 : (x == ("__debug__" : Str)) = false := by decide) : PE X (.Call (.Name x p) [] [] pos) (tCo sp W tNil) :=
  ⟨fun pi s σ H Q I h => wpAny_Call_Name_kw (ld_glob I gl hm (PySem.W.callWith_K0 I.kIn hk (run_o (us := []) F hr hb tk I .nil h)) h1)⟩
/-- .. where no repr is under way -/
theorem pe_cg (F : FnG X.prog X.w X.K X.mg X.base (L2.CX X.prog X.w) k f fd ps sp) (hg : X.A.guards = some []) (hr : Room k X.A) (gl : Gl X x) (hm : X.mg x = some (.ref f)) (hk : PySem.W.keepIn X.K (.ref f) = true) (hb : Binds X.K fd ps []) (tk : Takes X W)
    (ha : PA X (e :: es) t) (h1 : (x == ("__debug__" : Str)) = false := by decide) (h2 : starEach (e :: es) X.env = (false, eval e X.env) :: starEach es X.env := by rfl) (h3 : (backTo pos (starEach es X.env)).any (·.1) = false := by rfl) :
    PE X (.Call (.Name x p) (e :: es) [] pos) (tCo sp W t) := by
  refine ⟨fun pi s σ H Q I h => wpAny_Call_Name_kw (ld_glob I gl hm ?_ h1)⟩
  refine PySem.W.callWith_K (h₀ := X.base) I.ok.mod.kin hk (thn (ha.run pos pi s σ H _ I h) ?_) h2 h3
  rintro us s1 ⟨vs, H1, I1, r, q⟩
  exact ⟨I1.kIn, run_g F hg hr hb tk I1 r q⟩
theorem pe_cg0 (F : FnG X.prog X.w X.K X.mg X.base (L2.CX X.prog X.w) k f fd ps sp) (hg : X.A.guards = some []) (hr : Room k X.A) (gl : Gl X x) (hm : X.mg x = some (.ref f)) (hk : PySem.W.keepIn X.K (.ref f) = true) (hb : Binds X.K fd ps []) (tk : Takes X W)
    (h1 : (x == ("__debug__" : Str)) = false := by decide) : PE X (.Call (.Name x p) [] [] pos) (tCo sp W tNil) :=
  ⟨fun pi s σ H Q I h => wpAny_Call_Name_kw (ld_glob I gl hm (PySem.W.callWith_K0 I.kIn hk (run_g (us := []) F hg hr hb tk I .nil h)) h1)⟩
/-- o.m(e, ..) -/
def MtK (C : Addr) (m : Str) (R : V → Hp → Prop) (x : V) (H : Hp) : Prop := ∃ a dx fs, x = .ref a ∧ H a = some (.ins C dx fs) ∧ fs.lookup m = none ∧ R x H
def tMt (C : Addr) (m : Str) (sp : Sp) (W : WX) (ta : TE) (t : TA) : TE := fun σ H Q => ta σ H (MtK C m fun x H1 => t σ H1 fun vs H2 => sp (x :: vs) H2 Q fun cls d H' => W cls d σ H')
theorem pe_mo {pl : Sem Bool} (c : Cls X.K C) (hm : Meth X.K C m f) (F : FnOk X.prog X.w X.K X.mg X.base (L2.CX X.prog X.w) k f fd ps sp) (hr : Room k X.A) (hb : Binds X.K fd ps []) (tk : Takes X W) (he : PE X o ta) (ha : PA X (e :: es) t)
    (h2 : starEach (e :: es) X.env = (false, eval e X.env) :: starEach es X.env := by rfl) (h3 : (backTo pos (starEach es X.env)).any (·.1) = false := by rfl)
    (h4 : eval (.Call (.Attribute o m ap) (e :: es) [] pos) X.env = (do
      let ov ← eval o X.env
      standAt ap.atName
      let (f, first) ← holding [ov] (getMethod ov m pl)
      callWith pos f first (backTo pos (starEach (e :: es) X.env)) (backToKw pos (keywordEach [] X.env))) := by rfl) :
    PE X (.Call (.Attribute o m ap) (e :: es) [] pos) (tMt C m sp W ta t) := by
  refine ⟨fun pi s σ H Q I h => PySem.W.methodCall_KW (pl := pl) (thn (he.run pi s σ H _ I h) ?_) h4⟩
  rintro u s1 ⟨x, H1, I1, rx, a, dx, fs, rfl, ea, l, q⟩
  obtain rfl : u = Value.ref a := rx
  refine getmeth_ok I1 ea c hm l (PySem.W.callWith_K (first := [.ref a]) (h₀ := X.base) I.ok.mod.kin hm.kp (thn (ha.run pos pi s1 σ H1 _ I1 q) ?_) h2 h3)
  rintro us s2 ⟨vs, H2, I2, r, q2⟩
  exact ⟨I2.kIn, run_o (us := .ref a :: us) (vs := .ref a :: vs) F hr hb tk I2 (.cons rfl r) q2⟩
theorem pe_mo0 {pl : Sem Bool} (c : Cls X.K C) (hm : Meth X.K C m f) (F : FnOk X.prog X.w X.K X.mg X.base (L2.CX X.prog X.w) k f fd ps sp) (hr : Room k X.A) (hb : Binds X.K fd ps []) (tk : Takes X W) (he : PE X o ta)
    (h4 : eval (.Call (.Attribute o m ap) [] [] pos) X.env = (do
      let ov ← eval o X.env
      standAt ap.atName
      let (f, first) ← holding [ov] (getMethod ov m pl)
      callWith pos f first (backTo pos (starEach [] X.env)) (backToKw pos (keywordEach [] X.env))) := by rfl) :
    PE X (.Call (.Attribute o m ap) [] [] pos) (tMt C m sp W ta tNil) := by
  refine ⟨fun pi s σ H Q I h => PySem.W.methodCall_KW (pl := pl) (thn (he.run pi s σ H _ I h) ?_) h4⟩
  rintro u s1 ⟨x, H1, I1, rx, a, dx, fs, rfl, ea, l, q⟩
  obtain rfl : u = Value.ref a := rx
  exact getmeth_ok I1 ea c hm l (PySem.W.callWith_K0 (first := [.ref a]) I1.kIn hm.kp (run_o (us := [.ref a]) (vs := [.ref a]) F hr hb tk I1 (.cons rfl .nil) q))
/-- C(e, ..) -/
def NewK (C : Addr) (sp : Sp) (E : XK) (Q : VK) (vs : List V) (H : Hp) : Prop := ∀ x dx H', H x = none → H' x = some (.ins C dx []) → Kp [] H H' → sp (.ref x :: vs) H' (fun v H2 => v = .non ∧ Q (.ref x) H2) E
def tNw (C : Addr) (sp : Sp) (W : WX) (t : TA) : TE := fun σ H Q => t σ H (NewK C sp (fun cls d H' => W cls d σ H') Q)
theorem run_nw (M : Mk X.K C f) (F : FnOk X.prog X.w X.K X.mg X.base (L2.CX X.prog X.w) k f fd ps sp) (hr : Room (k + 1) X.A) (hb : Binds X.K fd ps []) (tk : Takes X W) (I : Inv X pi σ H s) (r : Vals vs us)
    (h : NewK C sp (fun cls d H' => W cls d σ H') Q vs H) : wpAny (model X.prog X.w) X.A (call (.ref C) us) (EP X pi σ Q) X.xe s := by
  have n1 : H (s.heap.objs.size + 1) = none := I.hok.fresh (Nat.le_succ _)
  have n0 : H s.heap.objs.size = none := I.hok.fresh (Nat.le_refl _)
  have hq := h (s.heap.objs.size + 1) s.heap.objs.size _ n1 upd_same ((Kp.refl.new (u := .own (s.heap.objs.size + 1)) n0).new (by rw [upd_ne (Nat.succ_ne_self _)]; exact n1))
  have I2 := Inv.made (C := C) I
  have r2 : Vals (V.ref (s.heap.objs.size + 1) :: vs) (Value.ref (s.heap.objs.size + 1) :: us) := .cons rfl r
  refine wpAny_call (make_map (f := f) I.kIn M.makes M.init (beq_iff_eq.mp M.fn) (codeAny_mono (F.run _ X.stack _ _ ⟨Value.ref (s.heap.objs.size + 1) :: us, []⟩ (Value.ref (s.heap.objs.size + 1) :: us) _ _ _ (hr.make C us [])
    (I2.env0.make C us []) (bind0 hb I2 r2 (F.len _ _ _ _ hq)) r2 hq) fun rr s' z => ?_))
  match rr, z with
  | .error er, z => exact tk er s' (XE.of_call I2 (fun _ _ _ y => y) z)
  | .ok (.ret u), z =>
    obtain ⟨v, H', I3, rv, ev, q3⟩ := I2.after z
    subst ev
    exact ⟨rv, ⟨V.ref (s.heap.objs.size + 1), H', I3, rfl, q3⟩⟩
  | .ok .next, z => exact z.elim
  | .ok .brk, z => exact z.elim
  | .ok .cont, z => exact z.elim
theorem pe_nw (M : Mk X.K C f) (F : FnOk X.prog X.w X.K X.mg X.base (L2.CX X.prog X.w) k f fd ps sp) (hr : Room (k + 1) X.A) (gl : Gl X x) (hm : X.mg x = some (.ref C)) (hb : Binds X.K fd ps []) (tk : Takes X W)
    (ha : PA X (e :: es) t) (h1 : (x == ("__debug__" : Str)) = false := by decide) (h2 : starEach (e :: es) X.env = (false, eval e X.env) :: starEach es X.env := by rfl) (h3 : (backTo pos (starEach es X.env)).any (·.1) = false := by rfl) :
    PE X (.Call (.Name x p) (e :: es) [] pos) (tNw C sp W t) := by
  refine ⟨fun pi s σ H Q I h => wpAny_Call_Name_kw (ld_glob I gl hm ?_ h1)⟩
  refine PySem.W.callWith_K (h₀ := X.base) I.ok.mod.kin M.kp (thn (ha.run pos pi s σ H _ I h) ?_) h2 h3
  rintro us s1 ⟨vs, H1, I1, r, q⟩
  exact ⟨I1.kIn, run_nw M F hr hb tk I1 r q⟩
theorem pe_nw0 (M : Mk X.K C f) (F : FnOk X.prog X.w X.K X.mg X.base (L2.CX X.prog X.w) k f fd ps sp) (hr : Room (k + 1) X.A) (gl : Gl X x) (hm : X.mg x = some (.ref C)) (hb : Binds X.K fd ps []) (tk : Takes X W)
    (h1 : (x == ("__debug__" : Str)) = false := by decide) : PE X (.Call (.Name x p) [] [] pos) (tNw C sp W tNil) :=
  ⟨fun pi s σ H Q I h => wpAny_Call_Name_kw (ld_glob I gl hm (PySem.W.callWith_K0 I.kIn M.kp (run_nw (us := []) M F hr hb tk I .nil h)) h1)⟩
/-- e.f -/
def FldK (K : PySem.W.Frag) (f : Str) (Q : VK) (x : V) (H : Hp) : Prop := ∃ a C dx fs v, x = .ref a ∧ H a = some (.ins C dx fs) ∧ Cls K C ∧ NoAttr K C f ∧ fs.lookup f = some v ∧ Q v H
def tFd (K : PySem.W.Frag) (ta : TE) (f : Str) : TE := fun σ H Q => ta σ H (FldK K f Q)
theorem pe_fd {f : Str} (hK : X.K = K) (he : PE X e ta) (hb : attributeBase e f X.env (eval e X.env) = eval e X.env) : PE X (.Attribute e f pos) (tFd K ta f) := hK ▸ pe_fld he hb
/-- e.f = v -/
def SetK (K : PySem.W.Frag) (f : Str) (y : V) (R : Hp → Prop) (x : V) (H : Hp) : Prop := ∃ a C dx fs, x = .ref a ∧ H a = some (.ins C dx fs) ∧ Cls K C ∧ NoAttr K C f ∧ fs.length < 1000 ∧ R (upd H a (.ins C dx (putF f y fs)))
def tSd (K : PySem.W.Frag) (ta tv : TE) (f : Str) : TS := fun D σ H => tv σ H fun y H1 => ta σ H1 (SetK K f y (D.nx σ))
theorem ps_fd {f : Str} {value : Expr} {tv : TE} {pos' : Pos} (hK : X.K = K) (he : PE X o ta) (hv : PE X value tv) (hs : swapsWith value (some (.Attribute o f pos')) pos.line X.env = pure false) : PS X (.Assign [.Attribute o f pos'] value pos) (tSd K ta tv f) :=
  hK ▸ ps_fld he hv hs
end

/-! steps -/
section
variable {K : PySem.W.Frag} {σ : L2.St} {H : Hp} {Q : VK} {D : Ends} {x y v : V} {C p : Addr} {m f : Str} {ta tv : TE} {t : TA} {sp : Sp} {W : WX}
theorem s_co (h : t σ H fun vs H1 => sp vs H1 Q fun cls d H' => W cls d σ H') : tCo sp W t σ H Q := h
theorem s_mt (h : ta σ H (MtK C m fun x H1 => t σ H1 fun vs H2 => sp (x :: vs) H2 Q fun cls d H' => W cls d σ H')) : tMt C m sp W ta t σ H Q := h
theorem s_mtk {R : V → Hp → Prop} {dx : Addr} {fs : List (Str × V)} (h : H p = some (.ins C dx fs)) (l : fs.lookup m = none) (q : R (.ref p) H) : MtK C m R (.ref p) H := ⟨p, dx, fs, rfl, h, l, q⟩
theorem s_nw (h : t σ H (NewK C sp (fun cls d H' => W cls d σ H') Q)) : tNw C sp W t σ H Q := h
theorem s_fd (h : ta σ H (FldK K f Q)) : tFd K ta f σ H Q := h
theorem s_fdk {dx : Addr} {fs : List (Str × V)} (h : H p = some (.ins C dx fs)) (c : Cls K C) (n : NoAttr K C f) (l : fs.lookup f = some v) (q : Q v H) : FldK K f Q (.ref p) H := ⟨p, C, dx, fs, v, rfl, h, c, n, l, q⟩
theorem s_sd (h : tv σ H fun y H1 => ta σ H1 (SetK K f y (D.nx σ))) : tSd K ta tv f D σ H := h
/-- an object is changed, the heap behind it as a letter -/
theorem put_abs {o o0 : HO} {R : Hp → Prop} (e : H p = some o0) (z : ko o0 = ko o) (h : ∀ H', H' p = some o → Kp [p] H H' → R H') (y : Nat.beq (ko o) 1 = false := by rfl) : R (upd H p o) := h _ upd_same (Kp.refl.put (by simp) ⟨o0, e, z⟩ y)
theorem s_sdk {dx : Addr} {fs gs : List (Str × V)} {R : Hp → Prop} (h : H p = some (.ins C dx fs)) (c : Cls K C) (n : NoAttr K C f) (z : fs.length < 1000) (e : putF f y fs = gs) (q : ∀ H', H' p = some (.ins C dx gs) → Kp [p] H H' → R H') : SetK K f y R (.ref p) H :=
  ⟨p, C, dx, fs, rfl, h, c, n, z, by rw [e]; exact put_abs h rfl q⟩
end

/-! an error with one field -/
/-- __init__ of an error: its field, the class's -/
def spE (C : Addr) (f : Str) : Sp := sp2 fun x y H Q _ => ∃ a, x = .ref a ∧ H a = some (exo a C none) ∧ ∀ dx, H dx = none → dx ≠ a → Q .non (upd (upd H dx (exd dx [(f, y)])) a (exo a C (some dx)))
section
variable {X : Cx} {C S fI : Addr} {f x : Str} {e : Expr} {es : List Expr} {ta : TA} {te to : TE} {p p1 p2 pos pos' : Pos} {K : PySem.W.Frag}
/-- a class that is read -/
structure RdC (K : PySem.W.Frag) (C : Addr) : Prop where
  rd : PySem.W.readsIn K C (.type "type") = true
  ga : PySem.W.specialIn K (.ref C) "__getattribute__" = some (some (.builtin "type.__getattribute__"))
/-- S.__init__(self, ..), S a class over ValueError without an __init__ of its own -/
def SeK (K : PySem.W.Frag) (Q : VK) (vs : List V) (H : Hp) : Prop := ∃ (a C : Addr) (ws : List V), vs = .ref a :: ws ∧ ws.length ≤ 1000 ∧ OexC K C ∧ H a = some (exo a C none) ∧ Q .non H
def tSe (K : PySem.W.Frag) (ta : TA) : TE := fun σ H Q => ta σ H (SeK K Q)
theorem pe_se {pl : Sem Bool} (hK : X.K = K) (gl : Gl X x) (hm : X.mg x = some (.ref S)) (r : RdC X.K S) (vV : PySem.W.findCls X.K (.ref S) (.type "type") "__init__" = some (.val (.builtin "ValueError.__init__"))) (ha : PA X (e :: es) ta)
    (h1 : (x == ("__debug__" : Str)) = false := by decide)
    (hc : eval (.Call (.Attribute (.Name x p1) "__init__" p2) (e :: es) [] pos) X.env = (do
      let ov ← eval (.Name x p1) X.env
      standAt p2.atName
      let (f, first) ← holding [ov] (getMethod ov "__init__" pl)
      callWith pos f first (backTo pos (starEach (e :: es) X.env)) (backToKw pos (keywordEach [] X.env))) := by rfl)
    (h2 : starEach (e :: es) X.env = (false, eval e X.env) :: starEach es X.env := by rfl) (h3 : (backTo pos (starEach es X.env)).any (·.1) = false := by rfl) :
    PE X (.Call (.Attribute (.Name x p1) "__init__" p2) (e :: es) [] pos) (tSe K ta) := by
  subst hK
  refine ⟨fun pi s σ H Q I h => PySem.W.methodCall_KW (ld_glob I gl hm ?_ h1) hc⟩
  refine PySem.W.method_cls I.kIn r.ga (PySem.W.cls_value I.kIn r.rd vV (by decide +kernel) ?_)
  refine PyProof.Rows.callWith_method1 (thn (ha.run pos pi _ σ H _ (I.tok _) h) ?_) h2 h3
  rintro us s1 ⟨vs, H1, I1, r1, a, D, ws, rfl, hl, T, ea, q⟩
  cases r1 with
  | @cons _ u0 _ ur ra rw' =>
    obtain rfl : u0 = Value.ref a := ra
    have z := Paired.length rw'
    exact oinit_ok T I1 ea (by rw [sizeLine_eq]; omega) fun s' J => ⟨.non, H1, J, rfl, q⟩
/-- self.f = e in such an __init__ -/
def OsK (K : PySem.W.Frag) (f : Str) (y : V) (R : Hp → Prop) (x : V) (H : Hp) : Prop := ∃ a C : Addr, x = .ref a ∧ OexC K C ∧ PySem.W.findIn K (.ref C) f = some none ∧ H a = some (exo a C none) ∧ ∀ dx, H dx = none → dx ≠ a → R (upd (upd H dx (exd dx [(f, y)])) a (exo a C (some dx)))
def tOs (K : PySem.W.Frag) (f : Str) (to te : TE) : TS := fun D σ H => te σ H fun y H1 => to σ H1 (OsK K f y (D.nx σ))
theorem ps_os {o : Expr} (hK : X.K = K) (ho : PE X o to) (he : PE X e te) (hs : swapsWith e (some (.Attribute o f p')) pos.line X.env = pure false := by rfl) : PS X (.Assign [.Attribute o f p'] e pos) (tOs K f to te) := by
  subst hK
  refine psImp (ps_ost (f := f) (peMo ho) (peMo he) hs) fun D σ H q => ⟨_, q, fun y H1 z => ⟨_, z, fun x H2 w => ?_⟩⟩
  obtain ⟨a, C, rfl, h1, h2, h3, h4⟩ := w
  exact ⟨a, C, rfl, h1, h2, Or.inl ⟨h3, h4⟩⟩
/-- raise C(e) -/
def RzK (C : Addr) (f : Str) (R : Value → Option Addr → Hp → Prop) (v : V) (H : Hp) : Prop := ∀ d H', H d = none → H' d = some (.xd [(f, v)]) → Kp [] H H' → R (.ref C) (some d) H'
def tRz (C : Addr) (f : Str) (W : WX) (te : TE) : TS := fun _ σ H => te σ H (RzK C f fun cls d H' => W cls d σ H')
theorem ps_rz {k : Nat} {fd : FuncData} {ps : List Str} {W : WX} (hc : X.calm = true) (T : OexC X.K C) (iC : PySem.W.findIn X.K (.ref C) "__init__" = some (some (.ref fI))) (tI : PySem.W.typeIn X.K (.ref fI) = some (.type "function"))
    (F : FnOk X.prog X.w X.K X.mg X.base (L2.CX X.prog X.w) k fI fd ps (spE C f)) (hr : Room (k + 1) X.A) (hb : Binds X.K fd ps []) (gl : Gl X x) (hm : X.mg x = some (.ref C)) (tk : Takes X W) (he : PE X e te)
    (h1 : (x == ("__debug__" : Str)) = false := by decide) (h2 : starEach [e] X.env = [(false, eval e X.env)] := by rfl) :
    PS X (.Raise (some (.Call (.Name x p) [e] [] pos)) none pos') (tRz C f W te) := by
  refine psImp (ps_raise hc tk (pmk_oex T iC tI F hr hb .nil passF gl hm (pa_cons (peMo he) pa_nil h2) h1 h2 rfl)) fun D σ H q => ?_
  refine ⟨_, q, fun v H1 z => ⟨by simp, fun a na => ⟨_, _, rfl, a, rfl, upd_same, fun dx nd ne => ⟨rfl, dx, [(f, v)], upd_same, ?_, ?_, ?_⟩⟩⟩⟩
  · rw [upd_ne ne, upd_same]
  · rw [upd_ne ne] at nd; exact nd
  · rw [upd_ne ne] at nd
    refine z dx _ nd upd_same ⟨fun b o eb _ => ?_, fun b i eb => ?_, fun b xs eb => ?_⟩
    · have nb : b ≠ dx := ne_of_none eb nd
      have nb2 : b ≠ a := ne_of_none eb na
      rw [upd_ne nb, del_ne nb2, upd_ne nb2, upd_ne nb, upd_ne nb2]
      exact eb
    · obtain ⟨o1, e1, r1⟩ := eb
      have nb : b ≠ dx := ne_of_none e1 nd
      have nb2 : b ≠ a := ne_of_none e1 na
      refine ⟨o1, ?_, r1⟩
      rw [upd_ne nb, del_ne nb2, upd_ne nb2, upd_ne nb, upd_ne nb2]
      exact e1
    · have nb : b ≠ dx := ne_of_none eb nd
      have nb2 : b ≠ a := ne_of_none eb na
      rw [upd_ne nb, del_ne nb2, upd_ne nb2, upd_ne nb, upd_ne nb2]
      exact eb
end
end U

namespace U
open PySem L2 PySem.Spec PyProof.Rows
/-! try with clauses of any number, with names or without -/
/-- a clause: its class, the slot of its name, its suite's reading -/
abbrev Clause := Value × Option Nat × (Addr → Value → Option Addr → TS)
def dropS (i : Option Nat) (σ : L2.St) : L2.St := match i with | none => σ | some i => σ.set i none
def putS (i : Option Nat) (a : Addr) (σ : L2.St) : L2.St := match i with | none => σ | some i => σ.set i (some (.ref a))
def endS (i : Option Nat) (D : Ends) : Ends := { nx := fun σ H => D.nx (dropS i σ) H, rt := D.rt, bk := fun σ H => D.bk (dropS i σ) H, ct := fun σ H => D.ct (dropS i σ) H }
def wCl (K : PySem.W.Frag) (Wout : WX) (D : Ends) : List Clause → WX
  | [] => Wout
  | (c, i, ts) :: r => fun cls d σ H => ∃ b, PySem.W.exmOne K cls c = some b ∧ (b = true → ∀ a, H a = none → ts a cls d (endS i D) (putS i a σ) H) ∧ (b = false → wCl K Wout D r cls d σ H)
inductive ClOk (X : Cx) : List ExceptHandler → List Clause → Prop
  | nil : ClOk X [] []
  | only {x : Str} {c : Value} {ts : Addr → Value → Option Addr → TS} {b0 : Stmt} {su : List Stmt} {np p' : Pos} {hds : List ExceptHandler} {l : List Clause} (hc : Names X x c)
      (hsu : ∀ (a : Addr) (oe : Obj) (cls : Value) (d : Option Addr) (pn : List (Addr × Obj)), Zc cls d oe → (∃ vs, oe.data = .fields vs) → PSs (X.suite a ((a, oe) :: pn)) (b0 :: su) (ts a cls d)) (r : ClOk X hds l) :
      ClOk X (.ExceptHandler (some (.Name x np)) none (b0 :: su) p' :: hds) ((c, none, ts) :: l)
  | as {x n : Str} {i : Nat} {c : Value} {ts : Addr → Value → Option Addr → TS} {b0 : Stmt} {su : List Stmt} {np p' : Pos} {hds : List ExceptHandler} {l : List Clause} (hc : Names X x c) (hi : X.N[i]? = some n) (hln : X.env.kindOf n = some .local)
      (hsu : ∀ (a : Addr) (oe : Obj) (cls : Value) (d : Option Addr) (pn : List (Addr × Obj)), Zc cls d oe → (∃ vs, oe.data = .fields vs) → PSs (X.suite a ((a, oe) :: pn)) (b0 :: su) (ts a cls d)) (r : ClOk X hds l) :
      ClOk X (.ExceptHandler (some (.Name x np)) (some n) (b0 :: su) p' :: hds) ((c, some i, ts) :: l)
section
variable {X : Cx} {body : List Stmt} {h0 : ExceptHandler} {hds : List ExceptHandler} {l : List Clause} {pos : Pos} {tb : WX → TS} {Wout : WX} {K : PySem.W.Frag}
def tTry (K : PySem.W.Frag) (Wout : WX) (l : List Clause) (tb : WX → TS) : TS := fun D σ H => tb (wCl K Wout D l) D σ H
theorem ps_try (hK : X.K = K) (hs : X.stack = X.env :: X.outer) (hf : X.env.frame = some X.env.locals) (hN : X.N.Nodup) (tk : Takes X Wout)
    (hb : ∀ (W : WX) (pn : List (Addr × Obj)) (xe : Value → Shared → Prop), Takes (X.tr pn xe) W → PassesOwn (model X.prog X.w) X.A X.env xe → PSs (X.tr pn xe) body (tb W))
    (hh : ClOk X (h0 :: hds) l) : PS X (.Try body (h0 :: hds) [] [] pos) (tTry K Wout l tb) := by
  subst hK
  refine ⟨fun pi s σ H D I h => wpAny_Try_except ?_⟩
  have ok := I.ok
  have hfr : X.A.frames = some (X.env :: X.outer) := by rw [ok.frames, hs]
  let xe : Value → Shared → Prop := fun e s1 => wpAny (model X.prog X.w) X.A (noteFrame e X.env) (fun _ s2 => wpAny (model X.prog X.w) X.A (setFlight e none)
    (fun _ s3 => wpAny (model X.prog X.w) X.A (handleBy e X.env (h0 :: hds)) (SP X pi D) X.xe s3) X.xe s2) X.xe s1
  have tkx : Takes (X.tr (X.pn ++ pi) xe) (wCl X.K Wout D l) := by
    rintro u s1 ⟨a, B, sI, pins1, σ1, H1, cls, d, rfl, J1, nb, up, sky, na, os, ag, w⟩
    have J : Inv X pi σ1 H1 sI := J1.ofTry ok
    have sky1 : Sky B (X.env :: X.outer) a (Zc cls d) X.env.locals s1.heap := hs ▸ sky
    show wpAny (model X.prog X.w) X.A (noteFrame (.ref a) X.env) _ _ _
    refine Sky.land Zc.steady hfr hf sky1 fun h3 f3 u3 => ?_
    have J3 : Inv X pi σ1 H1 { s1 with heap := h3 } := J.landed nb f3.1 (up.trans u3) os ag
    obtain ⟨oe3, vs3, he3, hz3, hd3⟩ := f3.there
    have nfr : a ∉ frs (X.env :: X.outer) := fun hm => by
      obtain ⟨_, o', e', hnf⟩ := f3.2.2.1.mem hm
      rw [he3] at e'; cases e'
      exact hnf _ hd3
    have nL : a ≠ X.env.locals := fun z => nfr (List.mem_filterMap.mpr ⟨X.env, List.mem_cons_self, by rw [hf, z]⟩)
    have nF : a ∉ X.fs := fun hm => by
      obtain ⟨e, he, q⟩ := List.mem_filterMap.mp hm
      exact nfr (List.mem_filterMap.mpr ⟨e, List.mem_cons_of_mem _ he, q⟩)
    have S3 := J3.suite he3 hd3 na nL nF
    have LT : PySem.W.Looks (model X.prog X.w) h3 (typeOf (.ref a)) cls := fun A Q E s k q => wpAny_typeOf_ref (k _ _ he3) (by rw [hz3.1]; exact q)
    have test : ∀ {x : Str} {c : Value} {np : Pos} {Q : Value → Shared → Prop} {E : Value → Shared → Prop}, Names X x c → Q c { s1 with heap := h3 } →
        wpAny (model X.prog X.w) (X.A.mark (some (.ref a))) (eval (.Name x np) X.env) Q E { s1 with heap := h3 } := fun {x c np Q E} hc q => by
      obtain ⟨hg, hdb, hm | ⟨hm, hv, hnn⟩⟩ := hc
      · exact ld_glob (X := X.suite a ((a, oe3) :: (X.pn ++ pi))) S3 hg hm q hdb
      · exact ld_blt (X := X.suite a ((a, oe3) :: (X.pn ++ pi))) S3 hg hm hv q hnn hdb
    have go : ∀ {hds' : List ExceptHandler} {l' : List Clause}, ClOk X hds' l' → wCl X.K Wout D l' cls d σ1 H1 →
        wpAny (model X.prog X.w) X.A (handleBy (.ref a) X.env hds') (SP X pi D) X.xe { s1 with heap := h3 } := by
      intro hds' l' hk
      induction hk with
      | nil =>
        intro w
        refine wpAny_handleBy_nil ?_
        obtain ⟨_, _, _, oe, vs, T, oT, ts', he, hz, hd, h1, hr⟩ := id f3
        unfold PySem.passOn
        refine wpAny_bind (wpAny_field he hd h1 ?_)
        rw [if_neg (show ¬ ((Value.ref T == Value.none) = true) from by simp)]
        have fin : wpAny (model X.prog X.w) X.A (setFlight (.ref a) X.env.frame) (fun _ s4 => wpAny (model X.prog X.w) X.A (throw (.ref a) : Sem Flow) (SP X pi D) X.xe s4) X.xe { s1 with heap := h3 } := by
          rw [hf]
          refine HandSPX.setFlight_upZ f3 fun h4 hh4 up4 => wpAny_throw (tk _ _ ?_)
          exact ⟨a, B, sI, pi, σ1, H1, cls, d, rfl, J, nb, (up.trans u3).trans up4, Or.inr (Or.inr (by rw [hs]; exact hh4)), na, os, ag, w⟩
        first
          | exact wpAny_bind (wpAny_pure (wpAny_bind fin))
          | exact wpAny_bind fin
      | @only x c ts b0 su np p' hds2 l2 hc hsu r ih =>
        rintro ⟨b, hb1, yes, no⟩
        refine wpAny_handleBy_cons (codeAny_handlers_test (test hc ((PySem.W.exm_one (M := model X.prog X.w) J3.kIn LT hb1).here ?_))) (by intro q; cases q)
        cases b with
        | false => exact ih (no rfl)
        | true =>
          refine codeAny_handlers_suite (HandSPX.lands_againZ f3 fun h4 fl4 up4 => ?_)
          have J4 : Inv X pi σ1 H1 { s1 with heap := h4 } := J.landed nb fl4.1 ((up.trans u3).trans up4) os ag
          obtain ⟨oe4, vs4, he4, hz4, hd4⟩ := fl4.there
          refine wpAny_mono ((hsu a oe4 cls d (X.pn ++ pi) hz4 ⟨_, hd4⟩).run [] _ _ H1 _ (J4.suite he4 hd4 na nL nF) (yes rfl a na)) (fun f s6 hsp => ?_) (fun _ _ z => False.elim z)
          match f, hsp with
          | .next, ⟨_, _, S6, q6⟩ => exact ⟨_, _, S6.unsuite ok, q6⟩
          | .brk, ⟨_, _, S6, q6⟩ => exact ⟨_, _, S6.unsuite ok, q6⟩
          | .cont, ⟨_, _, S6, q6⟩ => exact ⟨_, _, S6.unsuite ok, q6⟩
          | .ret u, ⟨_, _, _, S6, r6, q6⟩ => exact ⟨_, _, _, S6.unsuite ok, r6, q6⟩
      | @as x n i c ts b0 su np p' hds2 l2 hc hi hln hsu r ih =>
        rintro ⟨b, hb1, yes, no⟩
        refine wpAny_handleBy_cons (codeAny_handlers_test (test hc ((PySem.W.exm_one (M := model X.prog X.w) J3.kIn LT hb1).here ?_))) (by intro q; cases q)
        cases b with
        | false => exact ih (no rfl)
        | true =>
          refine codeAny_handlers_suite_as (HandSPX.lands_againZ f3 fun h4 fl4 up4 => ?_)
          have J4 : Inv X pi σ1 H1 { s1 with heap := h4 } := J.landed nb fl4.1 ((up.trans u3).trans up4) os ag
          obtain ⟨oe4, vs4, he4, hz4, hd4⟩ := fl4.there
          refine store_ok (X := X.suite a ((a, oe4) :: (X.pn ++ pi))) (v := .ref a) (J4.suite he4 hd4 na nL nF) hN hi (Or.inl hln) rfl (fun s5 S5 => ?_) (Or.inr hln)
          refine wpAny_mono ((hsu a oe4 cls d (X.pn ++ pi) hz4 ⟨_, hd4⟩).run [] s5 _ H1 _ S5 (yes rfl a na)) (fun f s6 hsp => ?_) (fun _ _ z => False.elim z)
          have gone : ∀ {σ6 : L2.St} {H6 : Hp} {Q : Shared → Prop}, Inv (X.suite a ((a, oe4) :: (X.pn ++ pi))) [] σ6 H6 s6 → (∀ s7, Inv X pi (σ6.set i none) H6 s7 → Q s7) →
              wpAny (model X.prog X.w) X.A (do bindName X.env n .none; unbindBehindTheSuite X.env n p') (fun _ s7 => Q s7) X.xe s6 := fun S6 hq => gone_ok (S6.unsuite ok) hN hi hln hq
          match f, hsp with
          | .next, ⟨_, _, S6, q6⟩ => exact gone S6 fun s7 J7 => ⟨_, _, J7, q6⟩
          | .brk, ⟨_, _, S6, q6⟩ => exact gone S6 fun s7 J7 => ⟨_, _, J7, q6⟩
          | .cont, ⟨_, _, S6, q6⟩ => exact gone S6 fun s7 J7 => ⟨_, _, J7, q6⟩
          | .ret u, ⟨_, _, _, S6, r6, q6⟩ => exact gone S6 fun s7 J7 => ⟨_, _, _, J7, r6, q6⟩
    exact go hh w
  refine wpAny_mono ((hb _ (X.pn ++ pi) xe tkx PassesOwn.looking).run [] s σ H D (I.toTry _) h) (fun f s1 hsp => ?_) (fun e s1 he => he)
  match f, hsp with
  | .next, ⟨σ1, H1, J1, q⟩ => exact wpAny_execs_nil ⟨σ1, H1, J1.ofTry ok, q⟩
  | .brk, ⟨σ1, H1, J1, q⟩ => exact ⟨σ1, H1, J1.ofTry ok, q⟩
  | .cont, ⟨σ1, H1, J1, q⟩ => exact ⟨σ1, H1, J1.ofTry ok, q⟩
  | .ret u, ⟨v, σ1, H1, J1, r, q⟩ => exact ⟨v, σ1, H1, J1.ofTry ok, r, q⟩
end
end U

namespace U
open PySem L2 PySem.Spec PyProof.Rows
/-- what the written part says of an error's class at C, its __init__ at fI, its field f -/
structure ErrC (K : PySem.W.Frag) (C fI : Addr) (f : Str) : Prop where
  oex : OexC K C
  xf : XfC K C
  no : PySem.W.findIn K (.ref C) f = some none
  iC : PySem.W.findIn K (.ref C) "__init__" = some (some (.ref fI))
  tI : PySem.W.typeIn K (.ref fI) = some (.type "function")
  ha : PySem.W.findIn K (.ref C) "__class__" = some (some (.builtin "object.__class__"))
  hm : PySem.W.mroIn K C (.type "object") = some true
section
variable {X : Cx} {a C fI : Addr} {oe : Obj} {cls : Value} {d : Option Addr} {pn : List (Addr × Obj)} {e : Expr} {te : TE} {pos : Pos} {f : Str} {K : PySem.W.Frag}
/-- e.f += v -/
def FaK (K : PySem.W.Frag) (f : Str) (R : Addr → Addr → V → Hp → Prop) (x : V) (H : Hp) : Prop := ∃ a C dx fs v, x = .ref a ∧ H a = some (.ins C dx fs) ∧ Cls K C ∧ NoAttr K C f ∧ fs.lookup f = some v ∧ R a C v H
def FbK (f : Str) (a C : Addr) (R : Hp → Prop) (z : V) (H : Hp) : Prop := ∃ dx fs, H a = some (.ins C dx fs) ∧ fs.length < 1000 ∧ R (upd H a (.ins C dx (putF f z fs)))
def tFa (K : PySem.W.Frag) (ta tv : TE) (rd : V → V → Hp → VK → Prop) (f : Str) : TS := fun D σ H => ta σ H (FaK K f fun a C v H1 => tv σ H1 fun y H2 => rd v y H2 (FbK f a C (D.nx σ)))
theorem ps_fa {o value : Expr} {op : Operator} {ta tv : TE} {rd : V → V → Hp → VK → Prop} {tp : Pos} (hK : X.K = K) (ha : PE X o ta) (hv : PE X value tv) (hop : InOp X op rd) : PS X (.AugAssign (.Attribute o f tp) op value pos) (tFa K ta tv rd f) :=
  hK ▸ ps_fldaug ha hv hop
/-- err.f in its suite -/
def XfK (a : Addr) (cls : Value) (d : Option Addr) (C : Addr) (f : Str) (Q : VK) (x : V) (H : Hp) : Prop := x = .ref a ∧ cls = .ref C ∧ ∃ (dd : Addr) (fs : List (Str × V)) (v : V), d = some dd ∧ H dd = some (.xd fs) ∧ fs.lookup f = some v ∧ Q v H
def tXe (a : Addr) (cls : Value) (d : Option Addr) (C : Addr) (f : Str) (te : TE) : TE := fun σ H Q => te σ H (XfK a cls d C f Q)
theorem pe_xe (T : ErrC X.K C fI f) (hz : Zc cls d oe) (hf : ∃ vs, oe.data = .fields vs) (he : PE (X.suite a ((a, oe) :: pn)) e te) (hb : attributeBase e f X.env (eval e X.env) = eval e X.env := by rfl) :
    PE (X.suite a ((a, oe) :: pn)) (.Attribute e f pos) (tXe a cls d C f te) := pe_xf T.xf T.no hz hf he hb
/-- isinstance(err, T) in its suite -/
def rIsX (K : PySem.W.Frag) (a : Addr) (cls : Value) (d : Option Addr) (C : Addr) : List V → Hp → VK → Prop := fun xs H Q => ∃ (c : V) (cv : Value) (b : Bool) (dd : Addr) (fs : List (Str × V)), xs = [.ref a, c] ∧ ClsV c cv ∧ cls = .ref C ∧ d = some dd ∧ H dd = some (.xd fs) ∧
  PySem.W.kitOne K (.ref C) cv = some b ∧ Q (.bl b) H
theorem c_isx (hK : X.K = K) (T : ErrC X.K C fI f) (hn : PySem.W.specialIn X.K (.builtin "object.__class__") "__get__" = some (some (.builtin "getset_descriptor.__get__"))) (ht : PySem.W.takesIn X.K (.builtin "object.__class__") = some true)
    (hz : Zc cls d oe) (hf : ∃ vs, oe.data = .fields vs) : CallR (X.suite a ((a, oe) :: pn)) (.builtin "isinstance") (rIsX K a cls d C) := by
  subst hK
  rintro pi s σ H xs us Q I vv ⟨c, cv, b, dd, fs, rfl, hc, rfl, rfl, hd, e, q⟩
  cases vv with
  | cons rx rr =>
    cases rr with
    | cons rt rr =>
      cases rr
      cases rx
      obtain rfl := hc.eq rt
      obtain ⟨hget, _⟩ := I.pin (a, oe) (List.mem_append.mpr (Or.inl List.mem_cons_self))
      obtain ⟨vs, hv⟩ := hf
      have hx : ObjOk X.prog X.w H s.heap dd (.xd fs) := I.hok dd _ hd
      obtain ⟨mA, hns, _⟩ := hx
      obtain ⟨od, ho, _⟩ := lookIn_ns hns
      have J : PySem.W.InstAt s.heap a oe C (some od) := ⟨hget, hz.1, by unfold PySem.W.notCls; rw [hv] <;> rfl, by rw [hz.2]; exact ho⟩
      have hcl : (PySem.W.clsIn X.K C).isSome = true := by
        have z := T.xf.hdC
        unfold PySem.W.hasDictIn at z
        cases y : PySem.W.clsIn X.K C with
        | none => rw [y] at z; simp at z
        | some _ => rfl
      exact PySem.W.kia_one (PySem.W.kitx_exc hcl T.xf.ga T.xf.gg T.xf.exC T.ha hn ht T.hm) I.kIn J e (fun z => nomatch z) fun tk => ⟨.bl b, H, I.kept (t' := tk) fun _ _ z => z, rfl, q⟩
end
section
variable {K : PySem.W.Frag} {σ : L2.St} {H : Hp} {Q : VK} {D : Ends} {a C dd : Addr} {f : Str} {v : V} {te to : TE} {t : TA}
theorem s_fa {tv : TE} {rd : V → V → Hp → VK → Prop} (h : te σ H (FaK K f fun a C v H1 => tv σ H1 fun y H2 => rd v y H2 (FbK f a C (D.nx σ)))) : tFa K te tv rd f D σ H := h
theorem s_fak {R : Addr → Addr → V → Hp → Prop} {dx : Addr} {fs : List (Str × V)} (h : H a = some (.ins C dx fs)) (c : Cls K C) (n : NoAttr K C f) (l : fs.lookup f = some v) (q : R a C v H) : FaK K f R (.ref a) H := ⟨a, C, dx, fs, v, rfl, h, c, n, l, q⟩
theorem s_fbk {R : Hp → Prop} {dx : Addr} {fs gs : List (Str × V)} (h : H a = some (.ins C dx fs)) (z : fs.length < 1000) (e : putF f v fs = gs) (q : ∀ H', H' a = some (.ins C dx gs) → Kp [a] H H' → R H') : FbK f a C R v H := ⟨dx, fs, h, z, by rw [e]; exact put_abs h rfl q⟩
theorem s_radd {n m : Int} (q : Q (.int (n + m)) H) : rAdd (.int n) (.int m) H Q := ⟨n, m, rfl, rfl, q⟩
theorem s_rsub {n m : Int} (q : Q (.int (n - m)) H) : rSub (.int n) (.int m) H Q := ⟨n, m, rfl, rfl, q⟩
theorem s_xe {cls : Value} {d : Option Addr} (h : te σ H (XfK a cls d C f Q)) : tXe a cls d C f te σ H Q := h
theorem s_xek {fs : List (Str × V)} (h : H dd = some (.xd fs)) (l : fs.lookup f = some v) (q : Q v H) : XfK a (.ref C) (some dd) C f Q (.ref a) H := ⟨rfl, rfl, dd, fs, v, rfl, h, l, q⟩
theorem s_isx {C2 : Addr} {b : Bool} {fs : List (Str × V)} (h : H dd = some (.xd fs)) (e : PySem.W.kitOne K (.ref C) (.ref C2) = some b) (q : Q (.bl b) H) : rIsX K a (.ref C) (some dd) C [.ref a, .ref C2] H Q := ⟨.ref C2, .ref C2, b, dd, fs, rfl, .own C2, rfl, rfl, h, e, q⟩
theorem s_se (h : t σ H (SeK K Q)) : tSe K t σ H Q := h
theorem s_sek {z : V} (T : OexC K C) (h : H a = some (exo a C none)) (q : Q .non H) : SeK K Q [.ref a, z] H := ⟨a, C, [z], rfl, by simp, T, h, q⟩
theorem s_os (h : te σ H fun y H1 => to σ H1 (OsK K f y (D.nx σ))) : tOs K f to te D σ H := h
theorem s_rz {W : WX} (h : te σ H (RzK C f fun cls d H' => W cls d σ H')) : tRz C f W te D σ H := h
theorem s_try {Wout : WX} {l : List Clause} {tb : WX → TS} (h : tb (wCl K Wout D l) D σ H) : tTry K Wout l tb D σ H := h
end
end U

namespace U
open PySem L2 PySem.Spec PyProof.Rows
/-! dicts -/
section
variable {X : Cx} {k : Nat} {K : PySem.W.Frag} {o i e value : Expr} {pos p' ap : Pos} {td ty tv : TE} {trs : List (TE × TE)} {keys : List (Option Expr)} {values : List Expr}
def DdK (Q : VK) (p : Addr) (ps : List (V × V)) (H : Hp) : Prop := H p = some (.dK []) ∧ ∃ kvs : List (Key × V), ps = kvs.map (fun kv => (kV kv.1, kv.2)) ∧ kvs.length ≤ 15 ∧ Q (.ref p) (upd H p (.dK (mergeK [] kvs)))
def tDd (trs : List (TE × TE)) : TE := fun σ H Q => ∀ p, H p = none → tPairs trs σ (upd H p (.dK [])) (DdK Q p)
theorem pe_dd (h : PPs X pos keys values trs) (h1 : keys.all (·.isSome) = true) (h2 : keys.length = values.length) (h3 : keys ≠ []) (h4 : keys.length ≤ 15) : PE X (.Dict keys values pos) (tDd trs) := pe_disp h h1 h2 h3 h4
def DgK (x : V) (Q : VK) (y : V) (H : Hp) : Prop := ∃ a v, x = .ref a ∧ DGet H a y (some v) ∧ Q v H
def tDg (td ty : TE) : TE := fun σ H Q => td σ H fun x H1 => ty σ H1 (DgK x Q)
theorem pe_dg (hr : Room k X.A) (ho : PE X o td) (hi : PE X i ty) (hs : NoSl i) : PE X (.Subscript o i pos) (tDg td ty) := pe_dget (hu_of hr) ho hi hs
def DnK (ng : Bool) (y : V) (Q : VK) (x : V) (H : Hp) : Prop := ∃ a r, x = .ref a ∧ DGet H a y r ∧ Q (.bl (if ng then !r.isSome else r.isSome)) H
def tDn (ng : Bool) (ty td : TE) : TE := fun σ H Q => ty σ H fun y H1 => td σ H1 (DnK ng y Q)
theorem pc_in (hr : Room k X.A) (hi : PE X i ty) (ho : PE X o td) : PC X .In i o (tDn false ty td) := pc_din (hu_of hr) hi ho
theorem pc_nin (hr : Room k X.A) (hi : PE X i ty) (ho : PE X o td) : PC X .NotIn i o (tDn true ty td) := pc_dnotin (hu_of hr) hi ho
/-- o[i] = v, of a list or a dict -/
def uSet : V → V → V → Hp → (Hp → Prop) → Prop := fun o i v H Q => rSetL o i v H Q ∨ rSetD o i v H Q
theorem set_u (hr : Room k X.A) : PSet X uSet := by
  intro pi s σ H o i v ov iv u Q I ro ri rv h
  rcases h with h | h
  · exact set_list pi s σ H o i v ov iv u Q I ro ri rv h
  · exact set_dict (hu_of hr) pi s σ H o i v ov iv u Q I ro ri rv h
def PopK (a : Addr) (Q : VK) (y : V) (H : Hp) : Prop := ∃ kvs k v, H a = some (.dK kvs) ∧ y = kV k ∧ valV kvs k = some v ∧ Q v (upd H a (.dK (dropK kvs k)))
def PopJ (ty : TE) (σ : L2.St) (Q : VK) (x : V) (H : Hp) : Prop := ∃ a, x = .ref a ∧ IsD H a ∧ ty σ H (PopK a Q)
def tPop (td ty : TE) : TE := fun σ H Q => td σ H (PopJ ty σ Q)
theorem pe_pop (ho : PE X o td) (he : PE X e ty) (m : M1 X o "pop" ap e pos) : PE X (.Call (.Attribute o "pop" ap) [e] [] pos) (tPop td ty) := pe_dpop1 ho he m
def uDict : List V → Hp → VK → Prop := fun xs H Q => ∃ (a : Addr) (kvs : List (Key × V)), xs = [.ref a] ∧ Rd H a (.dK kvs) ∧ ∀ p, H p = none → Q (.ref p) (upd H p (.dK kvs))
theorem c_dict : CallR X (.type "dict") uDict := call_dictD
def uList (K : PySem.W.Frag) : List V → Hp → VK → Prop := fun xs H Q => ∃ p ys, xs = [.ref p] ∧ (SqL K H p ys ∨ SqT K H p ys) ∧ ∀ l, H l = none → Q (.ref l) (upd H l (.lst ys))
end
section
variable {K : PySem.W.Frag} {σ : L2.St} {H : Hp} {Q : VK} {D : Ends} {x y v : V} {p : Addr} {n : Int} {z : Str} {kvs ks : List (Key × V)} {td ty : TE} {trs : List (TE × TE)}
theorem s_dd (h : ∀ p H', H p = none → H' p = some (.dK []) → Kp [] H H' → tPairs trs σ H' (DdK Q p)) : tDd trs σ H Q := fun p f => h p _ f upd_same (Kp.refl.new f)
theorem s_ddk {ps : List (V × V)} (h : H p = some (.dK [])) (e : ps = kvs.map (fun kv => (kV kv.1, kv.2))) (hl : kvs.length ≤ 15) (m : mergeK [] kvs = ks) (q : ∀ H', H' p = some (.dK ks) → Kp [p] H H' → Q (.ref p) H') : DdK Q p ps H :=
  ⟨h, kvs, e, hl, by rw [m]; exact put_abs h rfl (R := fun H' => Q (.ref p) H') q⟩
theorem s_dg (h : td σ H fun x H1 => ty σ H1 (DgK x Q)) : tDg td ty σ H Q := h
theorem s_dgi (h : H p = some (.dK kvs)) (e : valV kvs (Sum.inl n : Key) = some v) (q : Q v H) : DgK (.ref p) Q (.int n) H := ⟨p, v, rfl, by rw [← e]; exact DGet.k (k := Sum.inl n) h, q⟩
theorem s_dgs (h : H p = some (.dK kvs)) (e : valV kvs (Sum.inr z : Key) = some v) (q : Q v H) : DgK (.ref p) Q (.str z) H := ⟨p, v, rfl, by rw [← e]; exact DGet.k (k := Sum.inr z) h, q⟩
theorem s_dn {ng : Bool} (h : ty σ H fun y H1 => td σ H1 (DnK ng y Q)) : tDn ng ty td σ H Q := h
theorem s_dni {ng : Bool} (h : H p = some (.dK kvs)) (q : Q (.bl (if ng then !(valV kvs (Sum.inl n : Key)).isSome else (valV kvs (Sum.inl n : Key)).isSome)) H) : DnK ng (.int n) Q (.ref p) H := ⟨p, _, rfl, DGet.k (k := Sum.inl n) h, q⟩
theorem s_dns {ng : Bool} (h : H p = some (.dK kvs)) (q : Q (.bl (if ng then !(valV kvs (Sum.inr z : Key)).isSome else (valV kvs (Sum.inr z : Key)).isSome)) H) : DnK ng (.str z) Q (.ref p) H := ⟨p, _, rfl, DGet.k (k := Sum.inr z) h, q⟩
theorem s_ul {xs ys : List V} {j : Nat} {R : Hp → Prop} (h : H p = some (.lst xs)) (hj : ixN xs.length n = some j) (e : xs.set j v = ys) (q : ∀ H', H' p = some (.lst ys) → Kp [p] H H' → R H') : uSet (.ref p) (.int n) v H R := Or.inl ⟨p, xs, n, j, rfl, rfl, h, hj, by rw [e]; exact put_abs h rfl q⟩
theorem s_uds {R : Hp → Prop} (h : H p = some (.dK kvs)) (hl : kvs.length < sizeLine) (e : putK kvs (Sum.inr z : Key) v = ks) (q : ∀ H', H' p = some (.dK ks) → Kp [p] H H' → R H') : uSet (.ref p) (.str z) v H R :=
  Or.inr ⟨p, _, rfl, DPut.k (k := Sum.inr z) h hl, by rw [e]; exact put_abs h rfl q⟩
theorem s_udi {R : Hp → Prop} (h : H p = some (.dK kvs)) (hl : kvs.length < sizeLine) (e : putK kvs (Sum.inl n : Key) v = ks) (q : ∀ H', H' p = some (.dK ks) → Kp [p] H H' → R H') : uSet (.ref p) (.int n) v H R :=
  Or.inr ⟨p, _, rfl, DPut.k (k := Sum.inl n) h hl, by rw [e]; exact put_abs h rfl q⟩
theorem s_pop (h : td σ H (PopJ ty σ Q)) : tPop td ty σ H Q := h
theorem s_popj (h : H p = some (.dK kvs)) (q : ty σ H (PopK p Q)) : PopJ ty σ Q (.ref p) H := ⟨p, rfl, Or.inl ⟨kvs, Or.inl h⟩, q⟩
theorem s_popk (h : H p = some (.dK kvs)) (e : valV kvs (Sum.inl n : Key) = some v) (m : dropK kvs (Sum.inl n : Key) = ks) (q : ∀ H', H' p = some (.dK ks) → Kp [p] H H' → Q v H') : PopK p Q (.int n) H :=
  ⟨kvs, Sum.inl n, v, h, rfl, e, by rw [m]; exact put_abs h rfl (R := fun H' => Q v H') q⟩
theorem s_dict (h : H p = some (.dK kvs)) (q : ∀ l H', H l = none → H' l = some (.dK kvs) → Kp [] H H' → Q (.ref l) H') : uDict [.ref p] H Q := ⟨p, kvs, rfl, Or.inl h, fun l f => q l _ f upd_same (Kp.refl.new f)⟩
theorem s_list {ys : List V} (h : SqL K H p ys) (q : ∀ l H', H l = none → H' l = some (.lst ys) → Kp [] H H' → Q (.ref l) H') : uList K [.ref p] H Q := ⟨p, ys, rfl, Or.inl h, fun l f => q l _ f upd_same (Kp.refl.new f)⟩
end
theorem c_list {X : Cx} {K : PySem.W.Frag} (hK : X.K = K) : CallR X (.type "list") (uList K) := hK ▸ call_list_of
end U

namespace U
open PySem L2 PySem.Spec PyProof.Rows
/-- may be shown -/
structure Sh (K : PySem.W.Frag) (H : Hp) (v : V) (d : PyData) : Prop where
  dn : Dn K H v d
  good : U.good d
  depth : d.depth ≤ 100
  sz : U.sz d ≤ 16000000
section
variable {K : PySem.W.Frag} {σ : L2.St} {H : Hp} {Q : VK} {D : Ends} {x y v : V} {p : Addr} {n : Int} {z : Str} {to te : TE} {t : TA} {r : V → List V → Hp → VK → Prop} {T : String} {xs : List V}
theorem s_rep {d : PyData} (h : Sh K H v d) (q : Q (.str d.shown) H) : rRepr K [v] H Q := ⟨v, d, rfl, h.dn, h.good, h.depth, h.sz, q⟩
theorem s_bm (h : to σ H fun x H1 => tyV K T x H1 ∧ t σ H1 fun xs H2 => r x xs H2 Q) : tBM K T r to t σ H Q := h
theorem s_bm0 (h : to σ H fun x H1 => tyV K T x H1 ∧ r x [] H1 Q) : tBM0 K T r to σ H Q := h
theorem s_tyl {R : Prop} (h : H p = some (.lst xs)) (q : R) : tyV K "list" (.ref p) H ∧ R := ⟨Or.inl ⟨rfl, xs, SqL.of h⟩, q⟩
theorem s_tys {R : Prop} (q : R) : tyV K "str" (.str z) H ∧ R := ⟨rfl, q⟩
theorem s_tyd {R : Prop} {kvs : List (Key × V)} (h : H p = some (.dK kvs)) (q : R) : tyV K "dict" (.ref p) H ∧ R := ⟨Or.inr (Or.inr (Or.inl ⟨rfl, Or.inl ⟨kvs, h⟩⟩)), q⟩
theorem s_app (h : H p = some (.lst xs)) (hz : xs.length < sizeLine) (q : ∀ H', H' p = some (.lst (xs ++ [y])) → Kp [p] H H' → Q .non H') : rAppend (.ref p) [y] H Q :=
  ⟨p, xs, y, rfl, rfl, h, hz, put_abs h rfl (R := fun H' => Q .non H') q⟩
theorem s_pnil {Q : List (V × V) → Hp → Prop} (q : Q [] H) : tPairs [] σ H Q := q
theorem s_pcons {Q : List (V × V) → Hp → Prop} {tk tv : TE} {r : List (TE × TE)} (h : tk σ H fun x H1 => tv σ H1 fun y H2 => tPairs r σ H2 fun ps H3 => Q ((x, y) :: ps) H3) : tPairs ((tk, tv) :: r) σ H Q := h
/-! a meeting of ways -/
theorem meetT {tt : TT} {Q : Bool → Hp → Prop} (R : Bool → Hp → Prop) (key : ∀ b H1, R b H1 → Q b H1) (w : (∀ b H1, R b H1 → Q b H1) → tt σ H Q) : tt σ H Q := w key
theorem meetE (R : V → Hp → Prop) (key : ∀ b H1, R b H1 → Q b H1) (w : (∀ b H1, R b H1 → Q b H1) → te σ H Q) : te σ H Q := w key
theorem meetS {t u : TS} (R : L2.St → Hp → Prop) (key : ∀ σ1 H1, R σ1 H1 → u D σ1 H1) (w : (∀ σ1 H1, R σ1 H1 → u D σ1 H1) → t { D with nx := u D } σ H) : tSeq t u D σ H := w key
theorem zlt {n : Nat} (h : n ≤ 1000000) : n < sizeLine := Nat.lt_of_le_of_lt h (by decide)
end
section
variable {K : PySem.W.Frag} {H H' : Hp}
mutual
theorem Dn.kp (k : Kp [] H H') : ∀ {v : V} {d : PyData}, Dn K H v d → Dn K H' v d
  | _, _, .non => .non
  | _, _, .bl b => .bl b
  | _, _, .int i => .int i
  | _, _, .str x => .str x
  | _, _, .lst r a => .lst (k.rd r) (DnA.kp k a)
  | _, _, .tup r a => .tup (k.sqt r) (DnA.kp k a)
  | _, _, .dic r a => .dic (k.rd r) (DnA.kp k a)
theorem DnA.kp (k : Kp [] H H') : ∀ {vs : List V} {ds : List PyData}, DnA K H vs ds → DnA K H' vs ds
  | _, _, .nil => .nil
  | _, _, .cons a b => .cons (Dn.kp k a) (DnA.kp k b)
end
theorem Sh.kp (k : Kp [] H H') {v : V} {d : PyData} (h : Sh K H v d) : Sh K H' v d := ⟨h.dn.kp k, h.good, h.depth, h.sz⟩
end
end U

namespace U
open PySem L2 PySem.Spec PyProof.Rows
section
variable {K : PySem.W.Frag} {σ : L2.St} {H H' : Hp} {Q : VK} {D : Ends} {x y v : V} {p : Addr} {n : Int} {xs vs : List V} {ps : List Addr}
theorem s_gtu {R : L2.St → Hp → Prop} {t : TGs} {k : Nat} (h : H p = some (.tup xs)) (hl : xs.length = k) (q : t xs σ H R) : gTup K k t (.ref p) σ H R := ⟨p, xs, rfl, SqT.of h, hl, q⟩
theorem s_gn {R : L2.St → Hp → Prop} (q : R σ H) : gNil [] σ H R := ⟨rfl, q⟩
theorem s_gc {R : L2.St → Hp → Prop} {t : TG} {u : TGs} (q : t v σ H fun σ1 H1 => u vs σ1 H1 R) : gCons t u (v :: vs) σ H R := ⟨v, vs, rfl, q⟩
theorem s_rng2 {ta : TA} {R : It → Hp → Prop} (h : ta σ H fun vs H1 => ∃ i j : Int, vs = [.int i, .int j] ∧ (-(2 ^ 62) ≤ i ∧ i < 2 ^ 62 ∧ -(2 ^ 62) ≤ j ∧ j < 2 ^ 62) ∧ R (Itr i (j - i).toNat) H1) : iRng2 ta σ H R := h
theorem s_rn2 {i j : Int} {R : Int → Int → Prop} (h : -(2 ^ 62) ≤ i ∧ i < 2 ^ 62 ∧ -(2 ^ 62) ≤ j ∧ j < 2 ^ 62) (q : R i j) : ∃ i' j' : Int, [V.int i, V.int j] = [.int i', .int j'] ∧ (-(2 ^ 62) ≤ i' ∧ i' < 2 ^ 62 ∧ -(2 ^ 62) ≤ j' ∧ j' < 2 ^ 62) ∧ R i' j' := ⟨i, j, rfl, h, q⟩
/-! a meeting of ways, what is behind it a letter -/
theorem jT {tt : TT} {Q : Bool → Hp → Prop} (R : Bool → Hp → Prop) (key : ∀ b H1, R b H1 → Q b H1) (w : ∀ Q' : Bool → Hp → Prop, (∀ b H1, R b H1 → Q' b H1) → tt σ H Q') : tt σ H Q := w _ key
theorem jE {te : TE} (R : V → Hp → Prop) (key : ∀ b H1, R b H1 → Q b H1) (w : ∀ Q' : VK, (∀ b H1, R b H1 → Q' b H1) → te σ H Q') : te σ H Q := w _ key
theorem jS {t u : TS} (R : L2.St → Hp → Prop) (key : ∀ σ1 H1, R σ1 H1 → u D σ1 H1) (w : ∀ u' : L2.St → Hp → Prop, (∀ σ1 H1, R σ1 H1 → u' σ1 H1) → t { D with nx := u' } σ H) : tSeq t u D σ H := w _ key
/-- no tuple -/
def Nt (H : Hp) (p : Addr) : Prop := ∀ xs, H p ≠ some (.tup xs)
theorem Nt.lst (h : H p = some (.lst xs)) : Nt H p := fun ys e => by rw [h] at e; cases e
theorem Nt.ins {C dx : Addr} {fs : List (Str × V)} (h : H p = some (.ins C dx fs)) : Nt H p := fun ys e => by rw [h] at e; cases e
theorem Nt.none (h : H p = none) : Nt H p := fun ys e => by rw [h] at e; cases e
theorem Kp.tup (k : Kp ps H H') (n : ∀ q ∈ ps, Nt H q) (e : H p = some (.tup xs)) : H' p = some (.tup xs) := k.get e fun m => n p m xs e
/-- new since -/
theorem Kp.all (k : Kp ps H H') (f : ∀ q ∈ ps, H q = none) : Kp [] H H' := ⟨fun b o e _ => k.keep b o e fun m => (by rw [f b m] at e; cases e), k.kd, k.tp⟩
end
end U

namespace U
open PySem L2 PySem.Spec PyProof.Rows
/-! xs[a:] = ys -/
theorem bounds_tail {a n : Nat} (h : a ≤ n) : sliceBounds (some (a : Int)) none none n = ((a : Int), (n : Int), 1) := by
  simp only [sliceBounds, Option.getD_none]
  have h1 : ¬ ((a : Int) < 0) := by omega
  simp only [h1, if_false, show (1 : Int) > 0 by decide, if_true]
  congr 1
  omega
section
variable {prog : Program} {w : World} {A : Around} {s : Shared} {E : Value → Shared → Prop}
theorem setItem_tail {l b sl : Addr} {items new : Array Value} {n n2 : Nat} {vl : Value} {a : Nat} {Q : Unit → Shared → Prop}
    (e : s.heap.get? l = some { cls := .type "list", data := .seq items n }) (e2 : s.heap.get? b = some { cls := .type "list", data := .seq new n2 }) (hne : l ≠ b)
    (hs : s.heap.IsSliceOf sl vl .none .none) (pl : IsPart vl (some (a : Int))) (ha : a ≤ items.size) (hsz : items.size + new.size ≤ sizeLine)
    (h : Q () { s with heap := s.heap.update l (Obj.mapSeq fun xs => xs.extract 0 a ++ new ++ xs.extract items.size xs.size) }) :
    wpAny (model prog w) A (setItem (.ref l) (.ref sl) (.ref b)) Q E s := by
  have hl : s.heap.IsList l items := PySem.IsL.isList e
  have hb : s.heap.IsList b new := PySem.IsL.isList e2
  obtain ⟨os, hos, hcs, hds⟩ := id hs
  have hTs : s.TypeIs (.ref sl) "slice" := ⟨os, hos, hcs⟩
  have hsame : Builtin.List.listSameRef (.ref l) (.ref b) = false := by
    unfold Builtin.List.listSameRef
    exact beq_eq_false_iff_ne.mpr hne
  have hmax : (max (a : Int) (items.size : Int)).toNat = items.size := by omega
  have hz' : ((fun xs : Array Value => xs.extract 0 a ++ new ++ xs.extract items.size xs.size) items).size ≤ sizeLine + 1 := by
    simp only [Array.size_append, Array.size_extract]
    omega
  unfold setItem
  try with_reducible refine wpAny_holding ?_
  first | refine wpAny_bind (wpAny_pure ?_) | skip
  refine wpAny_bind (wpAny_sequenceKey hl.typeIs (by decide) ?_)
  refine wpAny_bind (wpAny_callSpecial?_slot (name := Str.ofString "__setitem__") hl.typeIs slot_list_setitem (wpAny_call_entry slot_list_setitem hl.typeIs entry_list_setitem ?_ (args_list_setitem _ _ _)))
  show wpAny _ _ (Builtin.List.listSubscript? (.ref sl) >>= _) _ _ s
  refine wpAny_bind ?_
  unfold Builtin.List.listSubscript?
  refine wpAny_bind (wpAny_specialOf hTs slice_no_index ?_)
  simp only [Option.isNone_none, if_true]
  refine wpAny_pure ?_
  show wpAny _ _ (typeOf (.ref sl) >>= _) _ _ s
  refine wpAny_bind (wpAny_typeOf hTs ?_)
  first
    | rw [if_neg (by decide)]
    | refine PySem.W.KFB.if_not (by decide) ?_
  rw [listSliceParts_eq]
  refine wpAny_bind (wpAny_bind (wpAny_field hos hds (x := .none) rfl (wpAny_bind (wpAny_listPart .none ?_))))
  rw [if_neg (show ¬ ((rawPart none == rawInt 0) = true) from Bool.false_ne_true)]
  refine wpAny_bind (wpAny_field hos hds (x := vl) rfl (wpAny_bind (wpAny_listPart pl ?_)))
  refine wpAny_bind (wpAny_field hos hds (x := .none) rfl (wpAny_bind (wpAny_listPart .none (wpAny_pure ?_))))
  first
    | simp only [hsame, Bool.false_eq_true, if_false]
    | refine PySem.W.KFB.if_not hsame ?_
    | (dsimp only
       rw [if_neg (by rw [hsame]; exact Bool.false_ne_true)])
  refine wpAny_bind (m := Builtin.List.listAllItems (.ref b) "must assign iterable to extended slice") ?_
  unfold Builtin.List.listAllItems
  refine wpAny_bind (wpAny_typeOf hb.typeIs ?_)
  first
    | refine PySem.W.KFB.if_so (by decide) ?_
    | rw [if_pos (by decide)]
    | simp only [beq_self_eq_true, Bool.true_or, if_true]
  unfold Builtin.List.listItems
  refine wpAny_bind (wpAny_seqItems e2 rfl (wpAny_pure ?_))
  refine wpAny_bind (wpAny_bind (wpAny_seqItems e rfl (wpAny_pure ?_)))
  refine wpAny_bind (wpAny_of_eq ((sliceIndices_raw (some (a : Int)) none none items.size (by simp)).trans (congrArg (pure : Int × Int × Int → Sem (Int × Int × Int)) (bounds_tail ha))) ?_)
  show wpAny _ _ (if ((1 : Int) == 1) = true then _ else _) _ _ s
  rw [if_pos (by decide)]
  refine wpAny_bind (wpAny_rule ?_)
  first
    | simp only [notLongL hsz, Bool.false_eq_true, if_false]
    | refine PySem.W.KFB.if_not (notLongL hsz) ?_
  first | refine wpAny_bind (wpAny_pure ?_) | skip
  show wpAny _ _ (updateSeq l (fun xs => xs.extract 0 ((a : Int)).toNat ++ new ++ xs.extract (max (a : Int) (items.size : Int)).toNat xs.size) >>= _) _ _ s
  rw [hmax, Int.toNat_natCast]
  refine wpAny_bind (wpAny_updateSeq (hz := Nat.le_trans (Nat.le_add_right _ _) hsz) (_hz' := hz') e rfl ?_)
  refine wpAny_bind (wpAny_letGo ?_)
  first
    | exact wpAny_bind (wpAny_pure (wpAny_pure ⟨.none, rfl, wpAny_pure h⟩))
    | exact wpAny_pure ⟨.none, rfl, wpAny_pure h⟩
end
section
variable {X : Cx} {o lo : Expr} {to tl : TE} {pos p2 : Pos}
def TlK (x v : V) (R : Hp → Prop) (y : V) (H : Hp) : Prop := ∃ (l b : Addr) (xs ys : List V) (a : Int), x = .ref l ∧ v = .ref b ∧ y = .int a ∧ H l = some (.lst xs) ∧ H b = some (.lst ys) ∧ l ≠ b ∧ 0 ≤ a ∧ a ≤ xs.length ∧ xs.length + ys.length ≤ sizeLine ∧ R (upd H l (.lst (xs.take a.toNat ++ ys)))
def gTl (to tl : TE) : TG := fun v σ H R => to σ H fun x H1 => tl σ H1 (TlK x v (R σ))
theorem pg_tail (ho : PE X o to) (hl : PE X lo tl)
    (ha : ∀ v, assign (.Subscript o (.Slice (some lo) none none p2) pos) X.env v = (do
      let ov ← holding [v] (eval o X.env)
      let iv ← holding [v, ov] (eval (.Slice (some lo) none none p2) X.env)
      standAt pos
      holding [v, ov, iv] (setItem ov iv v)
      release [iv, v, ov] []) := by intro _; rfl) : PG X (.Subscript o (.Slice (some lo) none none p2) pos) (gTl to tl) := by
  refine ⟨fun pins s σ H v u Q I r h => ?_⟩
  rw [ha]
  refine wpAny_bind (wpAny_holding (thn (ho.run pins s σ H _ I h) fun ov s1 ⟨x, H1, I1, r1, q1⟩ => ?_))
  have hpo := po_some (peMo hl)
  refine wpAny_bind (wpAny_holding (wpAny_Slice (thn (hpo.run pins s1 σ H1 (fun o H2 => ∃ a, o = some a ∧ TlK x v (Q σ) (.int a) H2) I1 ⟨_, q1, fun y H2 z => ?_⟩) fun vl s2 ⟨a0, H2, I2, pl, a, ea, q2⟩ => ?_)))
  · obtain ⟨l, b, xs, ys, a, e1, e2, rfl, z⟩ := z
    exact ⟨a, rfl, a, rfl, l, b, xs, ys, a, e1, e2, rfl, z⟩
  subst ea
  refine thn (po_none.run pins s2 σ H2 (fun o H3 => o = none ∧ H3 = H2) I2 ⟨rfl, rfl⟩) fun vu s3 ⟨u', H3, I3, pu, eu, e3⟩ => ?_
  subst eu
  subst e3
  cases pu
  rw [evalPart_none]
  refine wpAny_pure ?_
  have I4 : Inv X pins σ H3 { s3 with heap := s3.heap.push { cls := .type "slice", data := .fields #[vl, .none, .none] } } := I3.kept (t' := s3.toks) fun b ob q => Heap.get?_push_of_some _ q
  obtain ⟨l, b, xs, ys, a', rfl, rfl, ea, hH, hB, hne, h0, h1, hz, q⟩ := q2
  cases ea
  cases r1
  cases r
  obtain ⟨z, its, n, rr, hl', e⟩ := I4.lstM hH
  obtain ⟨z2, its2, n2, r2, hl2, e2⟩ := I4.lstM hB
  obtain ⟨a', rfl⟩ := Int.eq_ofNat_of_zero_le h0
  simp only [Int.toNat_natCast] at q
  refine wpAny_bind (wpAny_standAt (wpAny_bind (wpAny_holding (setItem_tail (a := a') e e2 hne (Heap.IsSliceOf.new ..) pl (by rw [List.size_toArray]; omega) (by rw [List.size_toArray, List.size_toArray]; omega) ?_))))
  refine wpAny_release ⟨σ, _, I4.lset (its' := its.take a' ++ its2) (t' := s3.toks) hH e ?_ ((rr.take _).append r2) ?_, q⟩
  · have := splice_eq its its2 a' its.length
    rw [List.drop_length, List.append_nil] at this
    rw [List.size_toArray]
    exact this
  · rw [List.length_append, List.length_take]
    omega
section
variable {σ : L2.St} {H : Hp} {v x y : V} {l b : Addr} {xs ys zs : List V} {a : Int}
theorem s_tl {R : L2.St → Hp → Prop} (h : to σ H fun x H1 => tl σ H1 (TlK x v (R σ))) : gTl to tl v σ H R := h
theorem s_tlk {R : Hp → Prop} (h1 : H l = some (.lst xs)) (h2 : H b = some (.lst ys)) (n : l ≠ b) (h0 : 0 ≤ a) (ha : a ≤ xs.length) (hz : xs.length + ys.length ≤ sizeLine) (e : xs.take a.toNat ++ ys = zs)
    (q : ∀ H', H' l = some (.lst zs) → Kp [l] H H' → R H') : TlK (.ref l) (.ref b) R (.int a) H := ⟨l, b, xs, ys, a, rfl, rfl, rfl, h1, h2, n, h0, ha, hz, by rw [e]; exact put_abs h1 rfl q⟩
end
end
end U

namespace U
open PySem L2 PySem.Spec PyProof.Rows
section
variable {X : Cx}
/-- sorted(d), a dict with int keys, any number of them -/
def uSortD : List V → Hp → VK → Prop := fun xs H Q => ∃ (a : Addr) (kvs : List (Key × V)) (ks : List Int), xs = [.ref a] ∧ Rd H a (.dK kvs) ∧ kvs.map (·.1) = ks.map Sum.inl ∧
    ∀ (ys : List Int) (p : Addr), ys.Perm ks → ys.Pairwise (· ≤ ·) → H p = none → Q (.ref p) (upd H p (.lst (ys.map V.int)))
theorem c_sortD (hcalm : X.calm = true) : CallR X (.builtin "sorted") uSortD := by
  intro pins s σ H xs us Q I r q
  obtain ⟨a, kvs, ks, ex, hd, hks, q⟩ := q
  subst ex
  obtain ⟨u, eu, rx⟩ := vals1 r
  subst eu
  cases rx
  obtain ⟨z, lo, vs, rel, dd⟩ := dk_rd I.hok hd
  obtain ⟨ep, hat⟩ := dd.dictAt
  have hkeys : vs.map (·.1) = ks.map Sum.inl := rel.keys.symm.trans hks
  have hl : vs.length = ks.length := by
    have e := congrArg List.length hkeys
    rwa [List.length_map, List.length_map] at e
  have h16 : vs.length ≤ sizeLine := by rw [← rel.length]; exact z
  refine Calls.call_function_entry PyProof.Rows.kind_sorted PyProof.Rows.plain_sorted PyProof.Rows.entry_sorted (PyProof.Rows.args_sorted1 _) ?_
  unfold Builtin.«sorted»
  refine wpAny_bind (m := checkCount "sorted" 1 1 _) (wpAny_pure ?_)
  refine wpAny_bind (PySem.W.kdu_collect (A := X.A.in1) (PySem.W.kdl_dict (knd := mixKind X.prog X.w) (kvs := vs) (ep := ep) lo) (I.ok.hd hcalm) hat h16 fun h' tk acc hk hacc => ?_)
  have hal : acc.toList.length = ks.length := by rw [Array.length_toList, hacc.1, hl]
  have hS : IntsAre acc.toList ks := ints_each hal fun j v e => by
    obtain ⟨k, x, e1, e2⟩ := hacc.2 j v (by rw [← Array.getElem?_toList]; exact e)
    have e3 : (vs.map (·.1))[j]? = some k := by rw [List.getElem?_map, e1]; rfl
    rw [hkeys, List.getElem?_map] at e3
    obtain ⟨y, e4, rfl⟩ := Option.map_eq_some_iff.mp e3
    rcases keyIs_shape (show keyIs (Sum.inl y) v = true from e2) with ⟨i, t, ek, ev⟩ | ⟨z, t, ek, ev⟩
    · cases ek
      exact ⟨_, t, e4, ev⟩
    · cases ek
  have I1 : Inv X pins σ H { s with heap := h', toks := tk } := I.kept hk
  refine wpAny_bind (wpAny_newList ?_ (by rw [hal, ← hl]; exact h16))
  have hoL : (h'.push (seqObj "list" acc.toList.toArray 0)).get? h'.objs.size = some (seqObj "list" acc.toList.toArray 0) := Heap.get?_push_size _ rfl
  show wpAny _ _ _ _ _ { s with heap := h'.push (seqObj "list" acc.toList.toArray 0), toks := tk }
  refine wpAny_bind (wpAny_holding (wpAny_call_entry PyProof.Rows.slot_list_sort ⟨_, hoL, rfl⟩ PyProof.Rows.entry_list_sort
    (SrtO.list_sort_ord (s := { s with heap := h'.push (seqObj "list" acc.toList.toArray 0), toks := tk }) SrtO.swo_int hoL (by rw [hal, ← hl]; exact h16) (fun h2 => SrtO.ints_sortable hS h2) fun out h1 h2 => ⟨_, rfl, ?_⟩) (PyProof.Rows.args_list_sort _)))
  obtain ⟨g1, g2, g3⟩ := SrtO.ints_out hS h1 h2
  obtain ⟨e', he'⟩ := PyProof.Rows.sortedHeap_at (vs := acc.toList) (out := out.toArray) hoL
  have hlen : ((out.map SrtO.iv).map V.int).length ≤ sizeLine := by
    rw [List.length_map, g2.length_eq, ← hl]
    exact h16
  refine wpAny_pure ⟨_, rfl, .ref h'.objs.size, upd H h'.objs.size (.lst ((out.map SrtO.iv).map V.int)), I1.laid (t' := tk) (fun b u e => ?_) (Nat.le_refl _)
    (show ObjOk X.prog X.w _ _ _ (.lst ((out.map SrtO.iv).map V.int)) from ⟨hlen, out, e', vals_of_ints g1, he'⟩), rfl, q _ _ g2 g3 (I1.hok.fresh (Nat.le_refl _))⟩
  have hb : b < h'.objs.size := Heap.lt_size e
  rw [PyProof.Rows.sortedHeap_old (Nat.ne_of_lt hb) (by rw [size_push']; exact Nat.lt_succ_of_lt hb)]
  exact Heap.get?_push_of_some _ e
end
/-! d.update(e), another dict -/
section
variable {X : Cx}
theorem merge_len : ∀ (more kvs : List (Key × V)), (mergeK kvs more).length ≤ kvs.length + more.length
  | [], kvs => by simp [mergeK]
  | p :: r, kvs => by
    have h1 := merge_len r (putK kvs p.1 p.2)
    have h2 := length_putK kvs p.1 p.2
    have e : mergeK kvs (p :: r) = mergeK (putK kvs p.1 p.2) r := rfl
    rw [e, List.length_cons]
    omega
def rUpd : V → List V → Hp → VK → Prop := fun x xs H Q => ∃ (a b : Addr) (kvs more : List (Key × V)), x = .ref a ∧ xs = [.ref b] ∧ H a = some (.dK kvs) ∧ H b = some (.dK more) ∧ a ≠ b ∧ kvs.length + more.length ≤ sizeLine ∧ Q .non (upd H a (.dK (mergeK kvs more)))
theorem mt_update : MtR X "dict.update" rUpd := by
  intro pins s σ H x xs v us Q I rx rxs h
  obtain ⟨a, b, kvs, more, rfl, rfl, ha, hb, hne, hz, q⟩ := h
  cases rx
  obtain rfl := Vals.ref1 rxs
  obtain ⟨z, hd, vs, rel, dd⟩ := dk_of I.hok ha
  obtain ⟨z2, hd2, rs, rel2, dd2⟩ := dk_of I.hok hb
  refine call_meetsIn PySem.F.slot_dict_update dd.typeIs PySem.F.entry_dict_update (PySem.F.args_dict_update_2 _ _) (meets_dict_update (mixKind X.prog X.w) a b hne hd2) ⟨vs, rs, dd, dd2, by rw [← rel.length, ← rel2.length]; exact hz, fun h' dd' _ hs => ?_⟩
  have he : ∃ q, h'.get? a = some q := let ⟨q, _, _, hq, _⟩ := dd'; ⟨q, hq⟩
  exact ⟨.non, _, d_write (t' := s.toks) I (by rw [ha]; exact True.intro) hs he (dk_new (Nat.le_trans (merge_len _ _) hz) hd (KV.merge rel2 rel) dd'), rfl, q⟩
end
section
variable {K : PySem.W.Frag} {σ : L2.St} {H : Hp} {Q : VK} {a b : Addr} {kvs more ks : List (Key × V)}
theorem s_upd (ha : H a = some (.dK kvs)) (hb : H b = some (.dK more)) (n : a ≠ b) (hz : kvs.length + more.length ≤ sizeLine) (e : mergeK kvs more = ks) (q : ∀ H', H' a = some (.dK ks) → Kp [a] H H' → Q .non H') : rUpd (.ref a) [.ref b] H Q :=
  ⟨a, b, kvs, more, rfl, rfl, ha, hb, n, hz, by rw [e]; exact put_abs ha rfl (R := fun H' => Q .non H') q⟩
end
section
variable {K : PySem.W.Frag} {σ : L2.St} {H : Hp} {Q : VK} {p : Addr} {kvs : List (Key × V)} {ks : List Int}
theorem s_sortD (h : H p = some (.dK kvs)) (e : kvs.map (·.1) = ks.map Sum.inl) (q : ∀ (ys : List Int) l H', ys.Perm ks → ys.Pairwise (· ≤ ·) → H l = none → H' l = some (.lst (ys.map V.int)) → Kp [] H H' → Q (.ref l) H') : uSortD [.ref p] H Q :=
  ⟨p, kvs, ks, rfl, Or.inl h, e, fun ys l hp hs f => q ys l _ hp hs f upd_same (Kp.refl.new f)⟩
end
end U

namespace U
open PySem L2 PySem.Spec PyProof.Rows
/-! what the stepping words lean on: where things stand, by search -/
section
variable {K : PySem.W.Frag} {H H1 H2 : Hp} {ps qs : List Addr} {a b p q : Addr} {o u : HO} {i j : Nat}
theorem Kp.step (h : Kp ps H H1) (k : Kp qs H1 H2) (n : ∀ q ∈ qs, q ∈ ps ∨ H q = none) : Kp ps H H2 := ⟨fun b o e m => by
  refine k.keep b o (h.keep b o e m) fun z => ?_
  rcases n b z with y | y
  · exact m y
  · (rw [y] at e; cases e), fun b i e => k.kd b i (h.kd b i e), fun b xs e => k.tp b xs (h.tp b xs e)⟩
/-- told of heaps that are further apart (no step of the search) -/
structure Kz (ps : List Addr) (H H' : Hp) : Prop where
  k : Kp ps H H'
/-- told for later: it did not stand -/
structure Fz (H : Hp) (p : Addr) : Prop where
  f : H p = none
theorem nt1 {H : Hp} {p : Addr} (h : Nt H p) : ∀ q ∈ [p], Nt H q := by simpa using h
theorem nm0 : a ∉ ([] : List Addr) := by simp
theorem nmc (h : a ≠ p) (g : a ∉ ps) : a ∉ p :: ps := by simp [h, g]
theorem al0 {P : Addr → Prop} : ∀ q ∈ ([] : List Addr), P q := by simp
theorem alc {P : Addr → Prop} (h : P p) (g : ∀ q ∈ ps, P q) : ∀ q ∈ p :: ps, P q := by simpa using ⟨h, g⟩
/-- what stands was none before -/
def Dm (H H1 : Hp) : Prop := ∀ b, H1 b = none → H b = none
theorem Dm.refl : Dm H H := fun _ e => e
theorem Dm.step (h : Dm H H1) (k : Kp ps H1 H2) : Dm H H2 := fun b e => h b (k.dom b e)
theorem Dm.fr (n : H1 p = none) (h : Dm H H1) : H p = none := h p n
theorem Th.kp (k : Kp ps H H1) (h : Th H a i) : Th H1 a i := k.kd a i h
theorem Th.ne (h : Th H a i) (f : H p = none) : a ≠ p := by obtain ⟨o, e, r⟩ := h; exact ne_of_none e f
theorem Th.nk (h : Th H a i) (g : Th H p j) (d : Nat.beq i j = false) : a ≠ p := fun z => by
  subst z
  obtain ⟨o, e, rfl⟩ := h
  obtain ⟨o', e', rfl⟩ := g
  rw [e] at e'
  cases e'
  exact Nat.ne_of_beq_eq_false d rfl
theorem Th.nt (h : Th H a i) (d : Nat.beq i 1 = false) : Nt H a := fun xs e => by
  obtain ⟨o, e2, rfl⟩ := h
  rw [e] at e2
  cases e2
  cases d
theorem SqL.kpn {xs : List V} (k : Kp ps H H1) (h : SqL K H a xs) (n : a ∉ ps) : SqL K H1 a xs := by
  rcases h with (e | ⟨o, e⟩) | e
  · exact Or.inl (Or.inl (k.get e n))
  · exact Or.inl (Or.inr ⟨o, k.get e n⟩)
  · exact Or.inr e
theorem TyN.kpn {v : V} {t : Kd} (h : TyN H v t) (k : Kp ps H H1) (n : ∀ q ∈ ps, v ≠ .ref q) : TyN H1 v t := by
  cases h with
  | non => exact .non
  | bl => exact .bl
  | int => exact .int
  | str => exact .str
  | lst e => exact .lst (k.get e fun m => n _ m rfl)
  | tup e => exact .tup (k.get e fun m => n _ m rfl)
  | dic e => exact .dic (k.get e fun m => n _ m rfl)
theorem kn {a b : Str} (h : decide (a = b) = false) : ¬ ((Sum.inr a : Key) = Sum.inr b) := fun z => by
  injection z with z
  exact absurd z (of_decide_eq_false h)
/-- the box: a list of three numbers, the last one at most n -/
structure Box (H : Hp) (p : Addr) (n : Nat) : Prop where
  ex : ∃ a b c : Int, H p = some (.lst [.int a, .int b, .int c]) ∧ 0 ≤ a ∧ 0 ≤ b ∧ b < 2147483629 ∧ 0 ≤ c ∧ c ≤ n
theorem Box.th {n : Nat} (h : Box H p n) : Th H p 0 := by obtain ⟨a, b, c, e, r⟩ := h.ex; exact .lst e
theorem Box.kp {n : Nat} (h : Box H p n) (k : Kp [] H H1) : Box H1 p n := by
  obtain ⟨a, b, c, e, r⟩ := h.ex
  exact ⟨a, b, c, k.get0 e, r⟩
theorem Box.kpn {n : Nat} (h : Box H p n) (k : Kp ps H H1) (z : p ∉ ps) : Box H1 p n := by
  obtain ⟨a, b, c, e, r⟩ := h.ex
  exact ⟨a, b, c, k.get e z, r⟩
theorem Box.ne {l : Addr} {n : Nat} (h : Box H p n) (hl : H l = none) : l ≠ p := (h.th.ne hl).symm
theorem Box.more {n m : Nat} (h : Box H p n) (e : n ≤ m) : Box H p m := by
  obtain ⟨a, b, c, e1, h1, h2, h3, h4, h5⟩ := h.ex
  exact ⟨a, b, c, e1, h1, h2, h3, h4, by omega⟩
theorem Box.nt {n : Nat} (h : Box H p n) : Nt H p := by
  obtain ⟨a, b, c, e, r⟩ := h.ex
  exact Nt.lst e
theorem PvD.begin {H : Hp} {D : Addr} {Pv : Nat → List V → Hp → Prop} (f : H D = none) (h : ∀ H', H' D = some (.lst []) → Kp [] H H' → Pv 0 [] H') : PvD D Pv 0 (upd H D (.lst [])) := ⟨[], upd_same, h _ upd_same (Kp.refl.new f)⟩
theorem PvD.add {H : Hp} {D : Addr} {Pv : Nat → List V → Hp → Prop} {acc : List V} {y : V} {i : Nat} (e : H D = some (.lst acc)) (hz : acc.length ≤ 1000000) (h : ∀ H', H' D = some (.lst (acc ++ [y])) → Kp [D] H H' → Pv i (acc ++ [y]) H') :
    ∃ acc, H D = some (.lst acc) ∧ acc.length < sizeLine ∧ PvD D Pv i (upd H D (.lst (acc ++ [y]))) := ⟨acc, e, zlt hz, acc ++ [y], upd_same, h _ upd_same (Kp.refl.put (by simp) (.lst e))⟩
theorem many_j (n : Nat) (lo hi : Int) (h0 : 0 ≤ lo) (h : lo ≤ hi) : ∃ j : Nat, (if (if (n : Int) < hi then (n : Int) else hi) > lo then (if (n : Int) < hi then (n : Int) else hi) else lo) = (j : Int) ∧ lo ≤ j ∧ j ≤ hi := by
  refine ⟨(if (if (n : Int) < hi then (n : Int) else hi) > lo then (if (n : Int) < hi then (n : Int) else hi) else lo).toNat, ?_, ?_, ?_⟩ <;> (split <;> split <;> omega)
end
end U

namespace U
open PySem L2 PySem.Spec PyProof.Rows
/-! == and != of data -/
section
variable {K : PySem.W.Frag} {H H1 : Hp} {Q : VK} {x y : V} {d e : PyData} {ps qs : List Addr}
mutual
theorem Dn.dp : ∀ {v : V} {d : PyData}, d.canLay0 = true → Dn K H v d → Dp K H v d
  | _, _, _, .non => .non
  | _, _, _, .bl b => .bl b
  | _, _, _, .int i => .int i
  | _, _, _, .str x => .str x
  | _, _, h, .lst r a => .lst (Or.inl r) (DnA.dp (by simpa only [PyData.canLay0] using h) a)
  | _, _, h, .tup r a => .tup r (DnA.dp (by simpa only [PyData.canLay0] using h) a)
  | _, _, h, .dic r a => by simp [PyData.canLay0] at h
theorem DnA.dp : ∀ {vs : List V} {ds : List PyData}, PyData.canLayAll0 ds = true → DnA K H vs ds → DpAll K H vs ds
  | _, _, _, .nil => .nil
  | _, _, h, .cons a b => by
    rw [PyData.canLayAll0, Bool.and_eq_true] at h
    exact .cons (Dn.dp h.1 a) (DnA.dp h.2 b)
end
theorem shp {d : PyData} (h : SeqAt.shaped d = true) : d.canLay0 = true := by
  unfold SeqAt.shaped at h
  rw [Bool.and_eq_true] at h
  exact h.1
theorem s_eqD (h1 : Dn K H x d) (h2 : Dn K H y e) (s1 : SeqAt.shaped d = true) (s2 : SeqAt.shaped e = true) (q : Q (.bl (PyData.eqv d e)) H) : uEq K x y H Q :=
  Or.inr ⟨d, e, h1.dp (shp s1), h2.dp (shp s2), s1, s2, q⟩
theorem s_neD (h1 : Dn K H x d) (h2 : Dn K H y e) (s1 : SeqAt.shaped d = true) (s2 : SeqAt.shaped e = true) (q : Q (.bl (!PyData.eqv d e)) H) : uNe K x y H Q :=
  Or.inr ⟨d, e, h1.dp (shp s1), h2.dp (shp s2), s1, s2, q⟩
theorem s_eqR (h1 : Dn K H x d) (h2 : Dn K H y d) (s1 : SeqAt.shaped d = true) (q : Q (.bl true) H) : uEq K x y H Q :=
  s_eqD h1 h2 s1 s1 (by rw [PySem.SeqAt.eqv_refl d (shp s1)]; exact q)
theorem s_neR (h1 : Dn K H x d) (h2 : Dn K H y d) (s1 : SeqAt.shaped d = true) (q : Q (.bl false) H) : uNe K x y H Q :=
  s_neD h1 h2 s1 s1 (by rw [PySem.SeqAt.eqv_refl d (shp s1)]; exact q)
/-- a list against [] -/
theorem s_neN {p r : Addr} {ds : List PyData} (h1 : Dn K H (.ref p) (.list ds)) (h2 : H r = some (.lst [])) (s1 : SeqAt.shaped (.list ds) = true) (q : Q (.bl (!ds.isEmpty)) H) : uNe K (.ref p) (.ref r) H Q := by
  refine s_neD h1 (.lst (Or.inl h2) .nil) s1 (by decide +kernel) ?_
  have e : PyData.eqv (.list ds) (.list []) = ds.isEmpty := by
    cases ds <;> simp [PyData.eqv, PyData.eqvAll]
  rw [e]
  exact q
theorem s_eqN {p r : Addr} {ds : List PyData} (h1 : Dn K H (.ref p) (.list ds)) (h2 : H r = some (.lst [])) (s1 : SeqAt.shaped (.list ds) = true) (q : Q (.bl ds.isEmpty) H) : uEq K (.ref p) (.ref r) H Q := by
  refine s_eqD h1 (.lst (Or.inl h2) .nil) s1 (by decide +kernel) ?_
  have e : PyData.eqv (.list ds) (.list []) = ds.isEmpty := by
    cases ds <;> simp [PyData.eqv, PyData.eqvAll]
  rw [e]
  exact q
/-! data of the part of the heap that is not at ps -/
def hid (ps : List Addr) (H : Hp) : Hp := fun a => if a ∈ ps then none else H a
theorem hid_some {a : Addr} {o : HO} (h : hid ps H a = some o) : H a = some o ∧ a ∉ ps := by
  unfold hid at h
  by_cases m : a ∈ ps
  · rw [if_pos m] at h; cases h
  · rw [if_neg m] at h; exact ⟨h, m⟩
theorem hid_of {a : Addr} {o : HO} (h : H a = some o) (m : a ∉ ps) : hid ps H a = some o := by
  unfold hid; rw [if_neg m]; exact h
theorem hid_kp (k : Kp qs H H1) (n : ∀ q ∈ qs, q ∈ ps ∨ H q = none) : Kp [] (hid ps H) (hid ps H1) := ⟨fun b o e _ => by
  obtain ⟨e1, m⟩ := hid_some e
  refine hid_of (k.get e1 fun z => ?_) m
  rcases n b z with y | y
  · exact m y
  · (rw [y] at e1; cases e1), fun b i e => by
  obtain ⟨o, e, r⟩ := e
  obtain ⟨e1, m⟩ := hid_some e
  obtain ⟨o', e', r'⟩ := k.kd b i ⟨o, e1, r⟩
  exact ⟨o', hid_of e' m, r'⟩, fun b xs e => by
  obtain ⟨e1, m⟩ := hid_some e
  exact hid_of (k.tp b xs e1) m⟩
/-- a thing that is data, no part of it at ps -/
def Dx (ps : List Addr) (K : PySem.W.Frag) (H : Hp) (v : V) (d : PyData) : Prop := Dn K (hid ps H) v d
theorem Dx.kpn (h : Dx ps K H x d) (k : Kp qs H H1) (n : ∀ q ∈ qs, q ∈ ps ∨ H q = none) : Dx ps K H1 x d := Dn.kp (hid_kp k n) h
theorem rdh {a : Addr} {u : HO} (r : Rd (hid ps H) a u) : Rd H a u := by
  rcases r with r | ⟨o, r⟩
  · exact Or.inl (hid_some r).1
  · exact Or.inr ⟨o, (hid_some r).1⟩
mutual
theorem Dn.unhid : ∀ {v : V} {d : PyData}, Dn K (hid ps H) v d → Dn K H v d
  | _, _, .non => .non
  | _, _, .bl b => .bl b
  | _, _, .int i => .int i
  | _, _, .str x => .str x
  | _, _, .lst r a => .lst (rdh r) (DnA.unhid a)
  | _, _, .tup r a => .tup (r.elim (fun z => Or.inl (rdh z)) Or.inr) (DnA.unhid a)
  | _, _, .dic r a => .dic (rdh r) (DnA.unhid a)
theorem DnA.unhid : ∀ {vs : List V} {ds : List PyData}, DnA K (hid ps H) vs ds → DnA K H vs ds
  | _, _, .nil => .nil
  | _, _, .cons a b => .cons (Dn.unhid a) (DnA.unhid b)
end
end
def uIsB : R2 := fun x y H Q => ∃ a b : Bool, x = .bl a ∧ y = .bl b ∧ Q (.bl (decide (a = b))) H
theorem o_isb {X : Cx} : OpR X (compareOp .Is) uIsB := op_is_bl
theorem s_isb {a b : Bool} {H : Hp} {Q : VK} (q : Q (.bl (decide (a = b))) H) : uIsB (.bl a) (.bl b) H Q := ⟨a, b, rfl, rfl, q⟩
section
variable {K : PySem.W.Frag} {σ : L2.St} {H : Hp} {Q : VK} {p : Addr} {xs : List V} {X : Cx}
def uTuple (K : PySem.W.Frag) : List V → Hp → VK → Prop := fun xs H Q => ∃ p ys, xs = [.ref p] ∧ ((SqL K H p ys ∧ ∀ l, H l = none → Q (.ref l) (upd H l (.tup ys))) ∨ (SqT K H p ys ∧ Q (.ref p) H))
theorem c_tuple (hK : X.K = K) : CallR X (.type "tuple") (uTuple K) := hK ▸ call_tuple_of
theorem s_tuple (h : SqL K H p xs) (q : ∀ l H', H l = none → H' l = some (.tup xs) → Kp [] H H' → Q (.ref l) H') : uTuple K [.ref p] H Q := ⟨p, xs, rfl, Or.inl ⟨h, new_abs (R := fun l H' => Q (.ref l) H') q⟩⟩
theorem s_tupleT (h : H p = some (.tup xs)) (q : Q (.ref p) H) : uTuple K [.ref p] H Q := ⟨p, xs, rfl, Or.inr ⟨SqT.of h, q⟩⟩
theorem s_rev (h : H p = some (.lst xs)) (q : ∀ H', H' p = some (.lst xs.reverse) → Kp [p] H H' → Q .non H') : rReverse (.ref p) [] H Q := ⟨p, xs, rfl, rfl, h, put_abs h rfl (R := fun H' => Q .non H') q⟩
end
theorem ix_mem {xs : List V} {i : Int} (h0 : 0 ≤ i) (h1 : i < xs.length) : ∃ v, v ∈ xs ∧ atI xs i = some v := by
  obtain ⟨v, e1, e2⟩ := at_int h0 h1
  exact ⟨v, List.mem_of_getElem? e1, e2⟩
theorem natAbs_lt {i : Int} {n : Nat} (h1 : -(n : Int) < i) (h2 : i < n) : i.natAbs < n := by omega
theorem s_par {i j : Nat} {ta : TA} {D : Ends} {σ : L2.St} {H : Hp} (h : ta σ H fun vs H1 => ∃ u v, vs = [u, v] ∧ D.nx ((σ.set i (some u)).set j (some v)) H1) : tPar i j ta D σ H := h
theorem s_two {u v : V} {R : V → V → Prop} (q : R u v) : ∃ u' v', [u, v] = [u', v'] ∧ R u' v' := ⟨u, v, rfl, q⟩
theorem at_last {α : Type} {xs : List α} (h : xs ≠ []) : ∃ v, v ∈ xs ∧ atI xs (-1) = some v := by
  have hp := List.length_pos_iff.mpr h
  refine ⟨xs[xs.length - 1]'(by omega), List.getElem_mem _, ?_⟩
  unfold atI ixN
  rw [if_neg (by omega), if_pos (by omega)]
  have e : (-1 + (xs.length : Int)).toNat = xs.length - 1 := by omega
  simp [e]
end U

namespace U
open PySem L2 PySem.Spec PyProof.Rows
/-! a def whose last parameter has the default None -/
section
variable {P : Program} {w : World} {K : PySem.W.Frag} {mg : Str → Option Value} {base : Heap} {x ql : Str} {st : Stmt} {f : Addr} {fd : FuncData} {N ps : List Str} {k : Nat} {sp : Sp}
abbrev FunN (K : PySem.W.Frag) (x ql : Str) (st : Stmt) (f : Addr) (fd : FuncData) : Prop := FunD K x ql (defArgs st) (defBody st) (defScope st) [.non] [] f fd
theorem funN_okX (F : FunN K x ql st f fd) (S : FnScope N ps (defScope st)) (len : ∀ vs H Q E, sp vs H Q E → vs.length = ps.length)
    (hb : ∀ (cdv : Value) (A : Around) (outer : List Env) (s : Shared) (H : Hp) (vs : List V) (Q : VK) (E : XK), Room k (A.deeper (envOfC ql (defScope st) s.heap.objs.size f cdv)) → sp vs H Q E →
      ∃ t, PSs (cxOf (L2.CX P w) P w K mg base N ql (defScope st) f cdv A outer s H E) (defBody st) t ∧ t { nx := fun _ H' => Q .non H', rt := Q } (start N vs) H) : FnOk P w K mg base (L2.CX P w) (k + 1) f fd ps sp :=
  F.ok S len hb
theorem funN_full (F : FunN K x ql st f fd) (n : Nat) (hn : n = ps.length)
    (h : ∀ (T : Addr) (kV doc pm : Value) (an : Option Addr) (cdv ct : Value) (us its : List Value), us.length = n → its.length = 1 →
      ∃ k, bindArgs (PySem.W.fnOf x ql (defArgs st) (defBody st) (defScope st) (.ref T) kV doc pm an cdv ct) ⟨us, []⟩ = seqItems? (.ref T) >>= k ∧ k (some its.toArray) = pure (ps.zip (us ++ its.drop 1))) : Binds K fd ps [] := by
  obtain ⟨ds, v, b⟩ := F.binds1 (ps := ps) n 1 (by simp) (by simp [hn]) h
  cases v
  exact b
theorem funN_part (F : FunN K x ql st f fd) (n : Nat) (hn : n + 1 = ps.length)
    (h : ∀ (T : Addr) (kV doc pm : Value) (an : Option Addr) (cdv ct : Value) (us its : List Value), us.length = n → its.length = 1 →
      ∃ k, bindArgs (PySem.W.fnOf x ql (defArgs st) (defBody st) (defScope st) (.ref T) kV doc pm an cdv ct) ⟨us, []⟩ = seqItems? (.ref T) >>= k ∧ k (some its.toArray) = pure (ps.zip (us ++ its.drop 0))) : Binds K fd ps [.none] := by
  obtain ⟨ds, v, b⟩ := F.binds1 (ps := ps) n 0 (by simp) (by simp [hn]) h
  cases v with
  | cons a r =>
    cases r
    cases a
    exact b
theorem funN_mk {oc : Value} {od an : Option Addr} {osl : Array (Option Value)} {kV doc pm cdv ct : Value} {T : Addr} {oT : Obj} {nT : Nat} (l : K.lookup f = some ⟨oc, od, .func (PySem.W.fnOf x ql (defArgs st) (defBody st) (defScope st) (.ref T) kV doc pm an cdv ct), osl⟩)
    (c : PySem.W.codeIn K cdv ql = true) (k : PySem.W.keepIn K (.ref f) = true) (lT : K.lookup T = some oT) (dT : oT.data = .seq #[Value.none] nT) : FunN K x ql st f (PySem.W.fnOf x ql (defArgs st) (defBody st) (defScope st) (.ref T) kV doc pm an cdv ct) :=
  ⟨⟨oc, od, _, kV, doc, pm, an, cdv, ct, osl, rfl, l, c, Or.inr ⟨by simp, T, oT, [.none], nT, rfl, lT, dT, .cons rfl .nil⟩, Or.inl rfl⟩, k⟩
end
/-! a walk over a list or a tuple -/
section
variable {X : Cx} {K : PySem.W.Frag} {tg l : Expr} {tl : TE}
def iSeq (K : PySem.W.Frag) (tl : TE) : TI := fun σ H R => tl σ H fun x H1 => ∃ a, x = .ref a ∧ (((∃ xs, SqL K H1 a xs) ∧ R (Itl K a) H1) ∨ ((∃ xs, SqT K H1 a xs) ∧ R (Itt K a) H1))
theorem pi_seq (hK : X.K = K) (hl : PE X l tl) : PI X tg l (iSeq K tl) := by
  subst hK
  refine ⟨fun pins s σ H R I h => ?_⟩
  refine thn (hl.run pins s σ H _ I h) fun v s1 ⟨x, H1, I1, r1, q1⟩ => ?_
  obtain ⟨a, e, q1⟩ := q1
  subst e
  cases r1
  rcases q1 with ⟨⟨xs, hq⟩, q⟩ | ⟨⟨xs, hq⟩, q⟩
  · obtain ⟨its, rv, p, hz⟩ := I1.list hq
    refine wpAny_pyIter_list p.isList ?_
    refine ⟨s1.heap.objs.size, [s1.heap.objs.size], _, _, H1, rfl, I1.kept (t' := s1.toks) fun b o e => Heap.get?_push_of_some _ e, turn_list a _, ⟨_, Heap.get?_push_size _ rfl, rfl, rfl⟩, fun b hb => ?_, q⟩
    have e : b = s1.heap.objs.size := by simpa using hb
    subst e
    exact I1.fpOk (Nat.le_refl _) (I1.hok.fresh (Nat.le_refl _))
  · obtain ⟨its, rv, p, hz⟩ := I1.tuple hq
    refine wpAny_pyIter_tuple (show s1.heap.IsTuple a its.toArray from p) ?_
    refine ⟨s1.heap.objs.size, [s1.heap.objs.size], _, _, H1, rfl, I1.kept (t' := s1.toks) fun b o e => Heap.get?_push_of_some _ e, turn_tuple a _, ⟨_, Heap.get?_push_size _ rfl, rfl, rfl⟩, fun b hb => ?_, q⟩
    have e : b = s1.heap.objs.size := by simpa using hb
    subst e
    exact I1.fpOk (Nat.le_refl _) (I1.hok.fresh (Nat.le_refl _))
variable {σ : L2.St} {H : Hp} {R : It → Hp → Prop}
theorem s_iseq (h : tl σ H fun x H1 => ∃ a, x = .ref a ∧ (((∃ xs, SqL K H1 a xs) ∧ R (Itl K a) H1) ∨ ((∃ xs, SqT K H1 a xs) ∧ R (Itt K a) H1))) : iSeq K tl σ H R := h
theorem s_isqT {p : Addr} {xs : List V} {S L : Addr → Prop} (h : H p = some (.tup xs)) (q : S p) : ∃ a, V.ref p = .ref a ∧ (((∃ xs, SqL K H a xs) ∧ L a) ∨ ((∃ xs, SqT K H a xs) ∧ S a)) := ⟨p, rfl, Or.inr ⟨⟨xs, SqT.of h⟩, q⟩⟩
theorem s_isqL {p : Addr} {xs : List V} {S L : Addr → Prop} (h : H p = some (.lst xs)) (q : L p) : ∃ a, V.ref p = .ref a ∧ (((∃ xs, SqL K H a xs) ∧ L a) ∨ ((∃ xs, SqT K H a xs) ∧ S a)) := ⟨p, rfl, Or.inl ⟨⟨xs, SqL.of h⟩, q⟩⟩
theorem s_itup (h : tl σ H fun x H1 => ∃ a, x = .ref a ∧ (∃ xs, SqT K H1 a xs) ∧ R (Itt K a) H1) : iTup K tl σ H R := h
theorem s_itp {p : Addr} {xs : List V} {S : Addr → Prop} (h : H p = some (.tup xs)) (q : S p) : ∃ a, V.ref p = .ref a ∧ (∃ xs, SqT K H a xs) ∧ S a := ⟨p, rfl, ⟨xs, SqT.of h⟩, q⟩
end
/-! isinstance(x, (list, tuple)) -/
section
variable {X : Cx} {K : PySem.W.Frag} {H : Hp} {Q : VK}
theorem c_isiT (hK : X.K = K) : CallR X (.builtin "isinstance") (rIsiT K) := hK ▸ call_isiT
def Kd.isSeq : Kd → Bool | .lst => true | .tup => true | _ => false
theorem kb_seq (t : Kd) : PySem.W.kitAny K (.type t.nm) [.type "list", .type "tuple"] = some t.isSeq := by cases t <;> rfl
theorem s_isSeq {v : V} {t : Kd} {tp : Addr} (h : TyN H v t) (e : H tp = some (.tup [.ty "list", .ty "tuple"])) (q : Q (.bl t.isSeq) H) : rIsiT K [v, .ref tp] H Q :=
  ⟨v, tp, _, _, _, _, rfl, e, .cons (.ty _) (.cons (.ty _) .nil), h.ty, kb_seq t, q⟩
def uAbs : List V → Hp → VK → Prop := fun xs H Q => ∃ i, xs = [.int i] ∧ Q (.int (if i < 0 then -i else i)) H
theorem c_abs : CallR X (.builtin "abs") uAbs := call_abs
theorem s_abs {i : Int} (q : Q (.int (if i < 0 then -i else i)) H) : uAbs [.int i] H Q := ⟨i, rfl, q⟩
theorem bt_abs : bootBuiltins "abs" = some (.builtin "abs") := by decide +kernel
theorem bt_enumerate : bootBuiltins "enumerate" = some (.type "enumerate") := by decide +kernel
end
end U

namespace U
open PySem L2 PySem.Spec PyProof.Rows
/-! enumerate(t), t a tuple -/
def IteT (K : PySem.W.Frag) (a : Addr) : It :=
  ⟨fun i H => ∃ (xs : List V) (x : V), SqT K H a xs ∧ xs[i]? = some x, fun i H v H' => ∃ T x, v = .ref T ∧ H T = none ∧ H' = upd H T (.tup [.int (i : Nat), x]) ∧ ∀ xs, SqT K H a xs → xs[i]? = some x, fun i H => ∃ xs : List V, SqT K H a xs ∧ xs.length ≤ i⟩
theorem turn_enumT {P : Program} {w : World} {K : PySem.W.Frag} {elts : List Expr} {kk : Nat} {tpos : Pos} (a e it : Addr) :
    Turn P w K (.Tuple elts kk tpos) (IteT K a) [e, it] e (fun i h => (∃ old, IsEnum h e it ((i : Nat) : Int) old) ∧ h.IsTupleIter it a i ∧ e ≠ it) where
  mem := by simp
  obj := fun i h st b hb => by
    obtain ⟨⟨old, he⟩, ⟨o, ho, hc, hd⟩, _⟩ := st
    have e' : b = e ∨ b = it := by simpa using hb
    rcases e' with z | z
    · rw [z]; exact ⟨_, he, fun v q => nomatch q⟩
    · rw [z]; exact ⟨o, ho, fun v q => by rw [hd] at q; cases q⟩
  keep := fun i h h' st k => let ⟨⟨old, he⟩, hi, hne⟩ := st; ⟨⟨old, k e (by simp) _ he⟩, hi.at fun o q => k it (by simp) o q, hne⟩
  item := by
    intro X hP hw hK hc i pins s σ H E I hf st hg
    subst hP hw hK
    obtain ⟨⟨old, he⟩, hit, hne⟩ := st
    obtain ⟨xs, x, hq, hx⟩ := hg
    obtain ⟨its, rv, p, hz⟩ := I.tuple hq
    obtain ⟨u, hu, ru⟩ := rv.get hx
    have p' : s.heap.IsTuple a its.toArray := p
    have nai : a ≠ it := fun z => by
      subst z
      obtain ⟨o1, e1, c1, _⟩ := p'
      obtain ⟨o2, e2, c2, _⟩ := hit
      rw [e1] at e2; cases e2
      rw [c1] at c2; exact absurd c2 (by simp)
    have nae : a ≠ e := fun z => by
      subst z
      obtain ⟨o1, e1, c1, _⟩ := p'
      have he' := he
      unfold IsEnum at he'
      rw [e1] at he'
      cases he'
      exact absurd c1 (by simp)
    have hel : e < s.heap.objs.size := Heap.lt_size he
    have hil : it < s.heap.objs.size := by obtain ⟨_, q, _⟩ := hit; exact Heap.lt_size q
    have hi : i < its.toArray.size := by
      rw [List.size_toArray]
      exact (List.getElem?_eq_some_iff.mp hu).1
    refine wpAny_pyNext_enum_itemD (Draws.tuple (A := X.A.in1) (show X.A.in1.handled = none from I.ok.hd hc) it a nai its.toArray) he ⟨hit, p'⟩ hi hne (by simp; exact ⟨hne, nae.symm⟩) fun x' h' tk hP ho hst' hT hsz hk => ?_
    obtain ⟨hit', _⟩ := hst'
    have ex : x' = u := by
      have hP' : its.toArray[i]? = some x' := hP
      rw [List.getElem?_toArray, hu] at hP'
      exact (Option.some.inj hP').symm
    subst ex
    refine ⟨_, rfl, wpAny_letOwnedTupleGo_enum (s := { s with heap := h', toks := tk + 1 }) ho fun h'' he' sb => ?_⟩
    have hT2 : h''.get? s.heap.objs.size = some { cls := .type "tuple", data := .seq #[.int i tk, x'] } := (sb.2 _ (Nat.ne_of_gt hel)).trans hT
    have new : ObjOk X.prog X.w (upd H s.heap.objs.size (.tup [.int (i : Nat), x])) h'' s.heap.objs.size (.tup [.int (i : Nat), x]) :=
      ⟨by show 2 ≤ sizeLine; decide, [.int i tk, x'], .cons ⟨_, rfl⟩ (.cons ru .nil), ⟨_, hT2, rfl, _, rfl⟩⟩
    have I1 : Inv X pins σ (upd H s.heap.objs.size (.tup [.int (i : Nat), x])) { s with heap := h'', toks := tk + 1 } :=
      I.turnedNew (ch := [e, it]) (fun b ob hb q => (sb.2 b (fun z => hb (by simp [z]))).trans (hk b ob (fun z => hb (by simp [z])) (fun z => hb (by simp [z])) q)) hf (Nat.le_refl _) new
    refine ⟨.ref s.heap.objs.size, _, I1, rfl, ⟨_, x, rfl, I.hok.fresh (Nat.le_refl _), rfl, fun ys hy => by rw [I.tuple_inj hy hq]; exact hx⟩, ⟨⟨x', ?_⟩, hit'.at fun o q => (sb.2 it (Ne.symm hne)).trans q, hne⟩, fun b hb => ?_⟩
    · have e1 : ((i + 1 : Nat) : Int) = (i : Int) + 1 := by omega
      rw [e1]; exact he'
    · have hb' : b < s.heap.objs.size := by
        have e' : b = e ∨ b = it := by simpa using hb
        rcases e' with z | z
        · rw [z]; exact hel
        · rw [z]; exact hil
      rw [upd_ne (Nat.ne_of_lt hb')]
      exact (hf b hb).1
  done := by
    intro X hP hw hK hc i pins s σ H E I hf st hg
    subst hP hw hK
    obtain ⟨⟨old, he⟩, hit, hne⟩ := st
    obtain ⟨xs, hq, hx⟩ := hg
    obtain ⟨its, rv, p, hz⟩ := I.tuple hq
    obtain ⟨f0, f1, f2, f3, f4, f5⟩ := hf it (by simp)
    have hl := rv.length
    have p' : s.heap.IsTuple a its.toArray := p
    refine (?_ : wpAny (model X.prog X.w) X.A (pyNext (.ref e)) _ _ s)
    have hT : s.TypeIs (.ref e) "enumerate" := ⟨_, he, rfl⟩
    unfold pyNext
    refine wpAny_bind (wpAny_attempt (wpAny_callSpecial?_slot (name := Str.ofString "__next__") hT F.slot_enumerate_next
      (wpAny_call_entry F.slot_enumerate_next hT F.entry_enumerate_next ?_ (F.args_enumerate_next_1 _))))
    show wpAny _ _ (field (.ref e) 2 >>= _) _ _ _
    refine wpAny_bind (wpAny_field he rfl (x := .ref it) rfl ?_)
    refine wpAny_bind (wpAny_nextOf_tuple_end (I.ok.hd hc) hit p' (by simp; omega) fun h' x he' hx' => ?_)
    obtain ⟨o, ho, hc'⟩ := hx'
    refine wpAny_bind (wpAny_isInstance (T := "StopIteration") (b := true) ⟨o, ho, hc'⟩ isSubtype_stop ?_)
    exact wpAny_pure ⟨rfl, I.turned (t' := s.toks) (fun b o hb q => he' b o hb q) f0 f1 f3 f4 f5⟩
  self := fun A i s Q E st h => let ⟨⟨_, he⟩, _⟩ := st; wpAny_pyIter_enum he h
theorem meets_enum1 {v : Value} {o : Obj} {H : Heap → Prop} (B : Begins v o H) :
    Meets (Builtin.«enumerate.__new__» ⟨[.type "enumerate", v], []⟩) (fun _ R s => H s.heap ∧
      R (.ok (.ret (.ref (s.heap.push o).objs.size))) { s with heap := (s.heap.push o).push { cls := .type "enumerate", data := .fields #[.none, .bool false, .ref s.heap.objs.size, rawInt 0, .none, .none] } }) :=
  .of_wp fun prog w A R s h => by
    obtain ⟨hp, g, d, tk, os⟩ := s; obtain ⟨h1, h⟩ := h
    have hsub := sub_enumerate
    have q1 : ∀ {A' : Around} {E : Value → Shared → Prop} {Q : Value → Shared → Prop}, Q (.ref hp.objs.size) ⟨hp.push o, g, d, tk, os⟩ → wpAny (model prog w) A' (pyIter v) Q E ⟨hp, g, d, tk, os⟩ :=
      fun q => B.iter prog w _ _ ⟨hp, g, d, tk, os⟩ _ h1 q
    wp_walk using q1
    refine wpAny_stack_any fun st => wpAny_pure ?_
    split
    · rename_i c _ _ _ _ _
      cases (c == Value.type "enumerate")
      · wp_walk using q1
        exact ⟨_, rfl, h⟩
      · wp_walk using q1
        exact ⟨_, rfl, h⟩
    · wp_walk using q1
      exact ⟨_, rfl, h⟩
section
variable {prog : Program} {w : World} {A : Around} {E : Value → Shared → Prop} {s : Shared}
theorem enum_begins1 {v : Value} {o : Obj} {H : Heap → Prop} {Q : Value → Shared → Prop} (B : Begins v o H) (h1 : H s.heap)
    (h : ∀ h', IsEnum h' (s.heap.objs.size + 1) s.heap.objs.size 0 .none → h'.get? s.heap.objs.size = some o → h'.objs.size = s.heap.objs.size + 2 →
      (∀ b o, s.heap.get? b = some o → h'.get? b = some o) → Q (.ref (s.heap.objs.size + 1)) { s with heap := h' }) :
    wpAny (model prog w) A (call (.type "enumerate") [v]) Q E s := by
  refine callType_new F.called_enumerate (by decide) (F.typeCall_enumerate_1 _) (F.newCall_enumerate_1 _) (fun obj => F.args_object_init_2 obj _) F.entry_enumerate_new
    (meets_enum1 B) ⟨h1, ?_⟩
  have hz : (s.heap.push o).objs.size = s.heap.objs.size + 1 := Heap.size_push ..
  show _ ∧ _
  rw [hz]
  have he : IsEnum ((s.heap.push o).push { cls := .type "enumerate", data := .fields #[.none, .bool false, .ref s.heap.objs.size, rawInt 0, .none, .none] }) (s.heap.objs.size + 1) s.heap.objs.size 0 .none := by
    have := Heap.get?_push_size (s.heap.push o) (o := { cls := .type "enumerate", data := .fields #[.none, .bool false, .ref s.heap.objs.size, rawInt 0, .none, .none] }) rfl
    rw [hz] at this; exact this
  refine ⟨⟨_, he, rfl⟩, h _ he (Heap.get?_push_of_some _ (Heap.get?_push_size _ B.free)) (by rw [Heap.size_push, hz]) fun b o x => Heap.get?_push_of_some _ (Heap.get?_push_of_some _ x)⟩
end
def iEnumT (K : PySem.W.Frag) (ta : TA) : TI := fun σ H R => ta σ H fun vs H1 => ∃ a xs, vs = [.ref a] ∧ SqT K H1 a xs ∧ R (IteT K a) H1
theorem pi_enumT {X : Cx} {K : PySem.W.Frag} {e : Expr} {ta : TA} {p pos tpos : Pos} {elts : List Expr} {kk : Nat} (hK : X.K = K) (hg : Gl X "enumerate") (hm : X.mg "enumerate" = none) (ha : PA X [e] ta) (hs : starEach [e] X.env = [(false, eval e X.env)] := by rfl) :
    PI X (.Tuple elts kk tpos) (.Call (.Name "enumerate" p) [e] [] pos) (iEnumT K ta) := by
  subst hK
  refine ⟨fun pins s σ H R I h => ?_⟩
  refine Call_ (ld_blt I hg hm boot_enumerate (PyProof.Rows.callWith_type1 (thn (ha.run pos pins s σ H _ I h) fun us s1 ⟨vs, H1, I1, r1, q1⟩ => ?_) hs rfl))
  obtain ⟨a, xs, ex, hq, q⟩ := q1
  subst ex
  cases r1 with
  | cons r rr =>
    cases rr
    cases r
    obtain ⟨its, rv, p', hz⟩ := I1.tuple hq
    refine enum_begins1 (begins_tuple a its.toArray) (show s1.heap.IsTuple a its.toArray from p') fun h' he hit hsz hk => wpAny_pyIter_enum he ?_
    have I2 : Inv X pins σ H1 { s1 with heap := h' } := I1.kept (t' := s1.toks) hk
    refine ⟨s1.heap.objs.size + 1, [s1.heap.objs.size + 1, s1.heap.objs.size], _, _, H1, rfl, I2, turn_enumT a (s1.heap.objs.size + 1) s1.heap.objs.size, ⟨⟨.none, he⟩, ⟨_, hit, rfl, rfl⟩, Nat.succ_ne_self _⟩, fun b hb => ?_, q⟩
    have e' : b = s1.heap.objs.size + 1 ∨ b = s1.heap.objs.size := by simpa using hb
    have hle : s1.heap.objs.size ≤ b := by
      rcases e' with z | z
      · rw [z]; exact Nat.le_add_right _ _
      · rw [z]; exact Nat.le_refl _
    exact I1.fpOk hle (I1.hok.fresh hle)
theorem walk_enumT {K : PySem.W.Frag} {a : Addr} {xs : List V} : Walk (IteT K a) xs.length (fun H => SqT K H a xs) (YPair (fun i => some (.int (i : Nat))) (fun i => xs[i]?)) := by
  refine ⟨fun i _ hi q => ⟨xs, xs[i], q, by simp [hi]⟩, fun _ q => ⟨xs, q, Nat.le_refl _⟩, fun i H v H' _ q y => ?_⟩
  obtain ⟨T, x, h1, h2, h3, h4⟩ := y
  exact ⟨T, .int (i : Nat), x, h1, h2, h3, rfl, h4 xs q⟩
theorem pi_enumL {X : Cx} {K : PySem.W.Frag} {e : Expr} {ta : TA} {p pos tpos : Pos} {elts : List Expr} {kk : Nat} (hK : X.K = K) (hg : Gl X "enumerate") (hm : X.mg "enumerate" = none) (ha : PA X [e] ta) (hs : starEach [e] X.env = [(false, eval e X.env)] := by rfl) :
    PI X (.Tuple elts kk tpos) (.Call (.Name "enumerate" p) [e] [] pos) (iEnum K ta) := hK ▸ pi_enum hg hm ha hs
section
variable {K : PySem.W.Frag} {σ : L2.St} {H : Hp} {R : It → Hp → Prop} {ta : TA} {a : Addr} {xs : List V}
theorem s_ienT (h : ta σ H fun vs H1 => ∃ a xs, vs = [.ref a] ∧ SqT K H1 a xs ∧ R (IteT K a) H1) : iEnumT K ta σ H R := h
theorem s_ienL (h : ta σ H fun vs H1 => ∃ a xs, vs = [.ref a] ∧ SqL K H1 a xs ∧ R (Ite K a) H1) : iEnum K ta σ H R := h
theorem s_eT {S : Addr → Prop} (h : H a = some (.tup xs)) (q : S a) : ∃ a' xs', [V.ref a] = [.ref a'] ∧ SqT K H a' xs' ∧ S a' := ⟨a, xs, rfl, SqT.of h, q⟩
theorem s_eL {S : Addr → Prop} (h : H a = some (.lst xs)) (q : S a) : ∃ a' xs', [V.ref a] = [.ref a'] ∧ SqL K H a' xs' ∧ S a' := ⟨a, xs, rfl, SqL.of h, q⟩
end
/-! lists of texts -/
section
variable {K : PySem.W.Frag} {H : Hp} {Q : VK} {p : Addr} {zs : List Str} {z : Str}
theorem flat_strs (zs : List Str) : (zs.map V.str).all flatV = true := by
  rw [List.all_eq_true]
  intro x hx
  obtain ⟨y, _, rfl⟩ := List.mem_map.mp hx
  rfl
theorem eqV_str {a b : Str} : eqV (.str a) (.str b) = decide (a = b) := by
  first
    | (show decide (V.str a = V.str b) = _; exact U.dec_str)
    | rfl
    | simp [eqV]
theorem inV_strs : inV (.str z) (zs.map V.str) = decide (z ∈ zs) := by
  induction zs with
  | nil => rfl
  | cons y zs ih =>
    unfold inV at ih ⊢
    rw [List.map_cons, List.any_cons, ih, eqV_str]
    by_cases h : y = z
    · subst h; simp
    · simp [h, Ne.symm h]
theorem s_inS (h : SqL K H p (zs.map V.str)) (q : Q (.bl (decide (z ∈ zs))) H) : uIn K false (.str z) (.ref p) H Q := Or.inr ⟨p, _, rfl, Or.inl h, rfl, flat_strs zs, by rw [inV_strs]; exact q⟩
theorem s_ninS (h : SqL K H p (zs.map V.str)) (q : Q (.bl (!decide (z ∈ zs))) H) : uIn K true (.str z) (.ref p) H Q := Or.inr ⟨p, _, rfl, Or.inl h, rfl, flat_strs zs, by rw [inV_strs]; exact q⟩
theorem s_inT (h : SqT K H p (zs.map V.str)) (q : Q (.bl (decide (z ∈ zs))) H) : uIn K false (.str z) (.ref p) H Q := Or.inr ⟨p, _, rfl, Or.inr h, rfl, flat_strs zs, by rw [inV_strs]; exact q⟩
theorem s_ninT (h : SqT K H p (zs.map V.str)) (q : Q (.bl (!decide (z ∈ zs))) H) : uIn K true (.str z) (.ref p) H Q := Or.inr ⟨p, _, rfl, Or.inr h, rfl, flat_strs zs, by rw [inV_strs]; exact q⟩
theorem mt_ix {X : Cx} (hK : X.K = K) : MtR X "list.index" (rIndex K) := hK ▸ mt_index
theorem s_indexS {j : Nat} (h : SqL K H p (zs.map V.str)) (e : zs[j]? = some z) (nd : zs.Nodup) (q : Q (.int j) H) : rIndex K (.ref p) [.str z] H Q := by
  refine ⟨p, _, .str z, j, .str z, rfl, rfl, h, rfl, flat_strs zs, by rw [List.getElem?_map, e]; rfl, by rw [eqV_str]; simp, fun m z' hm hz' => ?_, q⟩
  rw [List.getElem?_map] at hz'
  obtain ⟨y, ey, rfl⟩ := Option.map_eq_some_iff.mp hz'
  rw [eqV_str]
  refine decide_eq_false fun hy => ?_
  subst hy
  have := (List.getElem?_inj (List.getElem?_eq_some_iff.mp ey).1 nd).mp (ey.trans e.symm)
  omega
end
end U

namespace U
open PySem L2 PySem.Spec PyProof.Rows
section
variable {K : PySem.W.Frag} {σ : L2.St} {H : Hp} {a : Addr} {vs : List V} {g : TG} {tb : TS} {D : Ends}
/-- for x in a list or a tuple -/
theorem for_sq (e : H a = some (.lst vs) ∨ H a = some (.tup vs)) (Pv : Nat → L2.St → Hp → Prop) (h0 : Pv 0 σ H) (hG : ∀ i σ' H', Pv i σ' H' → ∀ o, H a = some o → H' a = some o)
    (hs : ∀ i x σ' H', vs[i]? = some x → Pv i σ' H' → g x σ' H' fun σ2 H2 => tb { D with nx := Pv (i + 1), ct := Pv (i + 1), bk := D.nx } σ2 H2) (hd : ∀ σ' H', Pv vs.length σ' H' → D.nx σ' H') :
    ∃ a', V.ref a = .ref a' ∧ (((∃ xs, SqL K H a' xs) ∧ ∃ W : Nat → Nat → L2.St → Hp → Prop, (∃ m, W 0 m σ H) ∧ ∀ i m σ H, W i m σ H →
      ((Itl K a').stop i H ∧ D.nx σ H) ∨ ((Itl K a').go i H ∧ ∃ N : L2.St → Hp → Prop, (∀ σ' H', N σ' H' → ∃ m', m' < m ∧ W (i + 1) m' σ' H') ∧ ∀ x H', (Itl K a').yld i H x H' → g x σ H' fun σ2 H2 => tb { D with nx := N, ct := N, bk := D.nx } σ2 H2)) ∨
      ((∃ xs, SqT K H a' xs) ∧ ∃ W : Nat → Nat → L2.St → Hp → Prop, (∃ m, W 0 m σ H) ∧ ∀ i m σ H, W i m σ H →
      ((Itt K a').stop i H ∧ D.nx σ H) ∨ ((Itt K a').go i H ∧ ∃ N : L2.St → Hp → Prop, (∀ σ' H', N σ' H' → ∃ m', m' < m ∧ W (i + 1) m' σ' H') ∧ ∀ x H', (Itt K a').yld i H x H' → g x σ H' fun σ2 H2 => tb { D with nx := N, ct := N, bk := D.nx } σ2 H2))) := by
  refine ⟨a, rfl, ?_⟩
  rcases e with e | e
  · refine Or.inl ⟨⟨vs, SqL.of e⟩, for_it (walk_list (xs := vs)) Pv h0 (fun i σ' H' _ p => SqL.of (hG i σ' H' p _ e)) (fun i x σ' H1 H2 hi p y => ?_) hd⟩
    obtain ⟨rfl, ex⟩ := y
    exact hs i x σ' H2 ex p
  · refine Or.inr ⟨⟨vs, SqT.of e⟩, for_it (walk_tup (xs := vs)) Pv h0 (fun i σ' H' _ p => SqT.of (hG i σ' H' p _ e)) (fun i x σ' H1 H2 hi p y => ?_) hd⟩
    obtain ⟨rfl, ex⟩ := y
    exact hs i x σ' H2 ex p
theorem for_L (e : H a = some (.lst vs)) (Pv : Nat → L2.St → Hp → Prop) (h0 : Pv 0 σ H) (hG : ∀ i σ' H', Pv i σ' H' → ∀ o, H a = some o → H' a = some o)
    (hs : ∀ i x σ' H', vs[i]? = some x → Pv i σ' H' → g x σ' H' fun σ2 H2 => tb { D with nx := Pv (i + 1), ct := Pv (i + 1), bk := D.nx } σ2 H2) (hd : ∀ σ' H', Pv vs.length σ' H' → D.nx σ' H') :
    ∃ W : Nat → Nat → L2.St → Hp → Prop, (∃ m, W 0 m σ H) ∧ ∀ i m σ H, W i m σ H →
      ((Itl K a).stop i H ∧ D.nx σ H) ∨ ((Itl K a).go i H ∧ ∃ N : L2.St → Hp → Prop, (∀ σ' H', N σ' H' → ∃ m', m' < m ∧ W (i + 1) m' σ' H') ∧ ∀ x H', (Itl K a).yld i H x H' → g x σ H' fun σ2 H2 => tb { D with nx := N, ct := N, bk := D.nx } σ2 H2) :=
  for_it (walk_list (xs := vs)) Pv h0 (fun i σ' H' _ p => SqL.of (hG i σ' H' p _ e)) (fun i x σ' H1 H2 hi p y => by
    obtain ⟨rfl, ex⟩ := y
    exact hs i x σ' H2 ex p) hd
/-- for j, x in enumerate(tuple): the pair T is new -/
theorem for_eT (e : H a = some (.tup vs)) (Pv : Nat → L2.St → Hp → Prop) (h0 : Pv 0 σ H) (hG : ∀ i σ' H', Pv i σ' H' → ∀ xs, H a = some (.tup xs) → H' a = some (.tup xs))
    (hs : ∀ i x σ' H' T H2, vs[i]? = some x → Pv i σ' H' → H' T = none → H2 T = some (.tup [.int (i : Nat), x]) → Kp [] H' H2 → g (.ref T) σ' H2 fun σ2 H3 => tb { D with nx := Pv (i + 1), ct := Pv (i + 1), bk := D.nx } σ2 H3) (hd : ∀ σ' H', Pv vs.length σ' H' → D.nx σ' H') :
    ∃ W : Nat → Nat → L2.St → Hp → Prop, (∃ m, W 0 m σ H) ∧ ∀ i m σ H, W i m σ H →
      ((IteT K a).stop i H ∧ D.nx σ H) ∨ ((IteT K a).go i H ∧ ∃ N : L2.St → Hp → Prop, (∀ σ' H', N σ' H' → ∃ m', m' < m ∧ W (i + 1) m' σ' H') ∧ ∀ x H', (IteT K a).yld i H x H' → g x σ H' fun σ2 H2 => tb { D with nx := N, ct := N, bk := D.nx } σ2 H2) :=
  for_it (walk_enumT (xs := vs)) Pv h0 (fun i σ' H' _ p => SqT.of (hG i σ' H' p _ e)) (fun i x σ' H1 H2 hi p y => by
    obtain ⟨T, x1, x2, rfl, f, rfl, e1, e2⟩ := y
    cases Option.some.inj e1
    exact hs i x2 σ' H1 T _ e2 p f upd_same (Kp.refl.new f)) hd
theorem for_eL (e : H a = some (.lst vs)) (Pv : Nat → L2.St → Hp → Prop) (h0 : Pv 0 σ H) (hG : ∀ i σ' H', Pv i σ' H' → ∀ o, H a = some o → H' a = some o)
    (hs : ∀ i x σ' H' T H2, vs[i]? = some x → Pv i σ' H' → H' T = none → H2 T = some (.tup [.int (i : Nat), x]) → Kp [] H' H2 → g (.ref T) σ' H2 fun σ2 H3 => tb { D with nx := Pv (i + 1), ct := Pv (i + 1), bk := D.nx } σ2 H3) (hd : ∀ σ' H', Pv vs.length σ' H' → D.nx σ' H') :
    ∃ W : Nat → Nat → L2.St → Hp → Prop, (∃ m, W 0 m σ H) ∧ ∀ i m σ H, W i m σ H →
      ((Ite K a).stop i H ∧ D.nx σ H) ∨ ((Ite K a).go i H ∧ ∃ N : L2.St → Hp → Prop, (∀ σ' H', N σ' H' → ∃ m', m' < m ∧ W (i + 1) m' σ' H') ∧ ∀ x H', (Ite K a).yld i H x H' → g x σ H' fun σ2 H2 => tb { D with nx := N, ct := N, bk := D.nx } σ2 H2) :=
  for_it (walk_enum (xs := vs)) Pv h0 (fun i σ' H' _ p => SqL.of (hG i σ' H' p _ e)) (fun i x σ' H1 H2 hi p y => by
    obtain ⟨T, x1, x2, rfl, f, rfl, e1, e2⟩ := y
    cases Option.some.inj e1
    exact hs i x2 σ' H1 T _ e2 p f upd_same (Kp.refl.new f)) hd
variable {tt : TT} {te : TE} {ns : List Nat} {A : Addr} {Qd : Hp → Prop} {Pv : Nat → List V → Hp → Prop}
/-- a comprehension over a tuple / a list -/
theorem lc_T (e : H a = some (.tup vs)) (hA : H A = none) (Pv : Nat → List V → Hp → Prop) (h0 : ∀ H', H' A = some (.lst []) → Kp [] H H' → Pv 0 [] H') (hG : ∀ i acc H', Pv i acc H' → ∀ xs, H a = some (.tup xs) → H' a = some (.tup xs))
    (hs : ∀ i x acc H', vs[i]? = some x → H' A = some (.lst acc) → Pv i acc H' → g x (wipe σ ns) H' fun σ2 H2 => wipe σ2 ns = wipe σ ns ∧ tt σ2 H2 fun b H3 =>
      if b = true then te σ2 H3 fun y H4 => ∃ acc, H4 A = some (.lst acc) ∧ acc.length < sizeLine ∧ PvD A Pv (i + 1) (upd H4 A (.lst (acc ++ [y]))) else PvD A Pv (i + 1) H3) (hd : ∀ acc H', H' A = some (.lst acc) → Pv vs.length acc H' → Qd H') :
    ∃ W : Nat → Nat → Hp → Prop, (∃ m, W 0 m (upd H A (.lst []))) ∧ ∀ i m H, W i m H →
      ((Itt K a).stop i H ∧ Qd H) ∨ ((Itt K a).go i H ∧ ∃ Nx : Hp → Prop, (∀ H', Nx H' → ∃ m', m' < m ∧ W (i + 1) m' H') ∧ ∀ x H', (Itt K a).yld i H x H' → g x (wipe σ ns) H' fun σ2 H2 => wipe σ2 ns = wipe σ ns ∧ tt σ2 H2 fun b H3 =>
        if b = true then te σ2 H3 fun y H4 => ∃ acc, H4 A = some (.lst acc) ∧ acc.length < sizeLine ∧ Nx (upd H4 A (.lst (acc ++ [y]))) else Nx H3) :=
  lc_it (walk_tup (xs := vs)) (PvD A Pv) (PvD.begin hA h0) (fun i H' _ p => by
    obtain ⟨acc, _, p⟩ := p
    exact SqT.of (hG i acc H' p _ e)) (fun i x H1 H2 hi p y => by
    obtain ⟨rfl, ex⟩ := y
    obtain ⟨acc, ea, p⟩ := p
    exact hs i x acc H2 ex ea p) (fun H' p => by
    obtain ⟨acc, ea, p⟩ := p
    exact hd acc H' ea p)
theorem lc_L (e : H a = some (.lst vs)) (hA : H A = none) (Pv : Nat → List V → Hp → Prop) (h0 : ∀ H', H' A = some (.lst []) → Kp [] H H' → Pv 0 [] H') (hG : ∀ i acc H', Pv i acc H' → ∀ o, H a = some o → H' a = some o)
    (hs : ∀ i x acc H', vs[i]? = some x → H' A = some (.lst acc) → Pv i acc H' → g x (wipe σ ns) H' fun σ2 H2 => wipe σ2 ns = wipe σ ns ∧ tt σ2 H2 fun b H3 =>
      if b = true then te σ2 H3 fun y H4 => ∃ acc, H4 A = some (.lst acc) ∧ acc.length < sizeLine ∧ PvD A Pv (i + 1) (upd H4 A (.lst (acc ++ [y]))) else PvD A Pv (i + 1) H3) (hd : ∀ acc H', H' A = some (.lst acc) → Pv vs.length acc H' → Qd H') :
    ∃ W : Nat → Nat → Hp → Prop, (∃ m, W 0 m (upd H A (.lst []))) ∧ ∀ i m H, W i m H →
      ((Itl K a).stop i H ∧ Qd H) ∨ ((Itl K a).go i H ∧ ∃ Nx : Hp → Prop, (∀ H', Nx H' → ∃ m', m' < m ∧ W (i + 1) m' H') ∧ ∀ x H', (Itl K a).yld i H x H' → g x (wipe σ ns) H' fun σ2 H2 => wipe σ2 ns = wipe σ ns ∧ tt σ2 H2 fun b H3 =>
        if b = true then te σ2 H3 fun y H4 => ∃ acc, H4 A = some (.lst acc) ∧ acc.length < sizeLine ∧ Nx (upd H4 A (.lst (acc ++ [y]))) else Nx H3) :=
  lc_it (walk_list (xs := vs)) (PvD A Pv) (PvD.begin hA h0) (fun i H' _ p => by
    obtain ⟨acc, _, p⟩ := p
    exact SqL.of (hG i acc H' p _ e)) (fun i x H1 H2 hi p y => by
    obtain ⟨rfl, ex⟩ := y
    obtain ⟨acc, ea, p⟩ := p
    exact hs i x acc H2 ex ea p) (fun H' p => by
    obtain ⟨acc, ea, p⟩ := p
    exact hd acc H' ea p)
theorem lc_eL (e : H a = some (.lst vs)) (hA : H A = none) (Pv : Nat → List V → Hp → Prop) (h0 : ∀ H', H' A = some (.lst []) → Kp [] H H' → Pv 0 [] H') (hG : ∀ i acc H', Pv i acc H' → ∀ o, H a = some o → H' a = some o)
    (hs : ∀ i x acc H' T H2, vs[i]? = some x → H' A = some (.lst acc) → Pv i acc H' → H' T = none → H2 T = some (.tup [.int (i : Nat), x]) → Kp [] H' H2 → g (.ref T) (wipe σ ns) H2 fun σ2 H2 => wipe σ2 ns = wipe σ ns ∧ tt σ2 H2 fun b H3 =>
      if b = true then te σ2 H3 fun y H4 => ∃ acc, H4 A = some (.lst acc) ∧ acc.length < sizeLine ∧ PvD A Pv (i + 1) (upd H4 A (.lst (acc ++ [y]))) else PvD A Pv (i + 1) H3) (hd : ∀ acc H', H' A = some (.lst acc) → Pv vs.length acc H' → Qd H') :
    ∃ W : Nat → Nat → Hp → Prop, (∃ m, W 0 m (upd H A (.lst []))) ∧ ∀ i m H, W i m H →
      ((Ite K a).stop i H ∧ Qd H) ∨ ((Ite K a).go i H ∧ ∃ Nx : Hp → Prop, (∀ H', Nx H' → ∃ m', m' < m ∧ W (i + 1) m' H') ∧ ∀ x H', (Ite K a).yld i H x H' → g x (wipe σ ns) H' fun σ2 H2 => wipe σ2 ns = wipe σ ns ∧ tt σ2 H2 fun b H3 =>
        if b = true then te σ2 H3 fun y H4 => ∃ acc, H4 A = some (.lst acc) ∧ acc.length < sizeLine ∧ Nx (upd H4 A (.lst (acc ++ [y]))) else Nx H3) :=
  lc_it (walk_enum (xs := vs)) (PvD A Pv) (PvD.begin hA h0) (fun i H' _ p => by
    obtain ⟨acc, _, p⟩ := p
    exact SqL.of (hG i acc H' p _ e)) (fun i x H1 H2 hi p y => by
    obtain ⟨T, x1, x2, rfl, f, rfl, e1, e2⟩ := y
    cases Option.some.inj e1
    obtain ⟨acc, ea, p⟩ := p
    exact hs i x2 acc H1 T _ e2 ea p f upd_same (Kp.refl.new f)) (fun H' p => by
    obtain ⟨acc, ea, p⟩ := p
    exact hd acc H' ea p)
/-- in range(n) -/
theorem lc_R {lo : Int} {n : Nat} (hA : H A = none) (Pv : Nat → List V → Hp → Prop) (h0 : ∀ H', H' A = some (.lst []) → Kp [] H H' → Pv 0 [] H')
    (hs : ∀ i acc H', i < n → H' A = some (.lst acc) → Pv i acc H' → g (.int (lo + i)) (wipe σ ns) H' fun σ2 H2 => wipe σ2 ns = wipe σ ns ∧ tt σ2 H2 fun b H3 =>
      if b = true then te σ2 H3 fun y H4 => ∃ acc, H4 A = some (.lst acc) ∧ acc.length < sizeLine ∧ PvD A Pv (i + 1) (upd H4 A (.lst (acc ++ [y]))) else PvD A Pv (i + 1) H3) (hd : ∀ acc H', H' A = some (.lst acc) → Pv n acc H' → Qd H') :
    ∃ W : Nat → Nat → Hp → Prop, (∃ m, W 0 m (upd H A (.lst []))) ∧ ∀ i m H, W i m H →
      ((Itr lo n).stop i H ∧ Qd H) ∨ ((Itr lo n).go i H ∧ ∃ Nx : Hp → Prop, (∀ H', Nx H' → ∃ m', m' < m ∧ W (i + 1) m' H') ∧ ∀ x H', (Itr lo n).yld i H x H' → g x (wipe σ ns) H' fun σ2 H2 => wipe σ2 ns = wipe σ ns ∧ tt σ2 H2 fun b H3 =>
        if b = true then te σ2 H3 fun y H4 => ∃ acc, H4 A = some (.lst acc) ∧ acc.length < sizeLine ∧ Nx (upd H4 A (.lst (acc ++ [y]))) else Nx H3) :=
  lc_it walk_range (PvD A Pv) (PvD.begin hA h0) (fun _ _ _ _ => trivial) (fun i x H1 H2 hi p y => by
    obtain ⟨rfl, rfl⟩ := y
    obtain ⟨acc, ea, p⟩ := p
    exact hs i acc H2 hi ea p) (fun H' p => by
    obtain ⟨acc, ea, p⟩ := p
    exact hd acc H' ea p)
theorem for_R {lo : Int} {n : Nat} (Pv : Nat → L2.St → Hp → Prop) (h0 : Pv 0 σ H)
    (hs : ∀ i σ' H', i < n → Pv i σ' H' → g (.int (lo + i)) σ' H' fun σ2 H2 => tb { D with nx := Pv (i + 1), ct := Pv (i + 1), bk := D.nx } σ2 H2) (hd : ∀ σ' H', Pv n σ' H' → D.nx σ' H') :
    ∃ W : Nat → Nat → L2.St → Hp → Prop, (∃ m, W 0 m σ H) ∧ ∀ i m σ H, W i m σ H →
      ((Itr lo n).stop i H ∧ D.nx σ H) ∨ ((Itr lo n).go i H ∧ ∃ N : L2.St → Hp → Prop, (∀ σ' H', N σ' H' → ∃ m', m' < m ∧ W (i + 1) m' σ' H') ∧ ∀ x H', (Itr lo n).yld i H x H' → g x σ H' fun σ2 H2 => tb { D with nx := N, ct := N, bk := D.nx } σ2 H2) :=
  for_it walk_range Pv h0 (fun _ _ _ _ _ => trivial) (fun i x σ' H1 H2 hi p y => by
    obtain ⟨rfl, rfl⟩ := y
    exact hs i σ' H2 hi p) hd
end
theorem pg_tupK {X : Cx} {K : PySem.W.Frag} {es : List Expr} {k n : Nat} {t : TGs} {pos : Pos} (hK : X.K = K) (hc : X.calm = true) (h : PGs X es t)
    (hn : (assignEach es X.env).length = n := by rfl) (hst : (assignEach es X.env).findIdx? (·.1) = none := by rfl) : PG X (.Tuple es k pos) (gTup K n t) := hK ▸ pg_tup hc h hn hst
theorem s_nameR {σ τ : L2.St} {H : Hp} {i : Nat} {v : V} {R : L2.St → Hp → Prop} (e : σ.set i (some v) = τ) (h : R τ H) : gName i v σ H R := by subst e; exact h
/-! rows: things that stand for tuples -/
inductive Rw (H : Hp) : List V → List (List V) → Prop
  | nil : Rw H [] []
  | cons {u : Addr} {r : List V} {vs : List V} {rs : List (List V)} : H u = some (.tup r) → Rw H vs rs → Rw H (.ref u :: vs) (r :: rs)
section
variable {H H1 : Hp} {vs ws : List V} {rs ss : List (List V)} {ps : List Addr}
theorem Rw.kp (h : Rw H vs rs) (k : Kp ps H H1) : Rw H1 vs rs := by
  induction h with
  | nil => exact .nil
  | cons e _ ih => exact .cons (k.tgt e) ih
theorem Rw.len (h : Rw H vs rs) : vs.length = rs.length := by
  induction h with
  | nil => rfl
  | cons e _ ih => simp [ih]
theorem Rw.app (h : Rw H vs rs) (g : Rw H ws ss) : Rw H (vs ++ ws) (rs ++ ss) := by
  induction h with
  | nil => exact g
  | cons e _ ih => exact .cons e ih
theorem Rw.one {u : Addr} {r : List V} (e : H u = some (.tup r)) : Rw H [.ref u] [r] := .cons e .nil
theorem Rw.at (h : Rw H vs rs) {i : Nat} {x : V} (e : vs[i]? = some x) : ∃ u r, x = .ref u ∧ rs[i]? = some r ∧ H u = some (.tup r) := by
  induction h generalizing i with
  | nil => simp at e
  | @cons u r vs rs e1 _ ih =>
    cases i with
    | zero => exact ⟨u, r, by simpa using e.symm, rfl, e1⟩
    | succ i => exact ih (by simpa using e)
theorem Rw.take (h : Rw H vs rs) (n : Nat) : Rw H (vs.take n) (rs.take n) := by
  induction h generalizing n with
  | nil => cases n <;> exact .nil
  | cons e _ ih => cases n with
    | zero => exact .nil
    | succ n => exact .cons e (ih n)
end
end U

namespace U
open PySem L2 PySem.Spec PyProof.Rows
theorem pg_lstK {X : Cx} {K : PySem.W.Frag} {es : List Expr} {k n : Nat} {t : TGs} {pos : Pos} (hK : X.K = K) (hc : X.calm = true) (h : PGs X es t)
    (hn : (assignEach es X.env).length = n := by rfl) (hst : (assignEach es X.env).findIdx? (·.1) = none := by rfl) : PG X (.Tuple es k pos) (gLst K n t) := hK ▸ pg_lst hc h hn hst
theorem s_glu {K : PySem.W.Frag} {σ : L2.St} {H : Hp} {p : Addr} {xs : List V} {R : L2.St → Hp → Prop} {t : TGs} {k : Nat} (h : H p = some (.lst xs)) (hl : xs.length = k) (q : t xs σ H R) : gLst K k t (.ref p) σ H R := ⟨p, xs, rfl, SqL.of h, hl, q⟩
theorem at_head {xs : List V} {v : V} : atI (xs ++ [v]) 0 = some (xs.head?.getD v) := by
  cases xs with
  | nil => rfl
  | cons x r =>
    unfold atI ixN
    rw [if_pos (by decide), if_pos (by simp; omega)]
    rfl
/-! texts by their signs -/
def S (cs : List Nat) : Str := ⟨cs.toArray⟩
theorem S_of (z : Str) : S z.cps.toList = z := by
  unfold S; simp
theorem S_len (cs : List Nat) : (S cs).length = cs.length := by simp [S, Str.length]
theorem S_app (a b : List Nat) : S a ++ S b = S (a ++ b) := Str.ext' (by simp [S, Str.cps_append])
theorem S_inj {a b : List Nat} (h : S a = S b) : a = b := by
  have := congrArg (fun z : Str => z.cps.toList) h
  simpa [S] using this
theorem S_cps (cs : List Nat) : (S cs).cps.toList = cs := by simp [S]
theorem S_cut (cs : List Nat) (lo hi : Option Int) : cutS (S cs) lo hi = S ((cs.drop (HT.sIx cs.length 0 lo)).take (HT.sIx cs.length cs.length hi - HT.sIx cs.length 0 lo)) := by
  unfold cutS
  rw [S_cps, S_len]
  rfl
theorem S_pre (cs : List Nat) {n : Int} (h0 : 0 ≤ n) : cutS (S cs) none (some n) = S (cs.take n.toNat) := by
  rw [S_cut]
  congr 1
  obtain ⟨k, rfl⟩ := Int.eq_ofNat_of_zero_le h0
  rw [HT.sIx_none, HT.sIx_nat, List.drop_zero]
  simp
theorem S_mid (cs : List Nat) {n m : Int} (h0 : 0 ≤ n) (h1 : 0 ≤ m) : cutS (S cs) (some n) (some m) = S ((cs.drop n.toNat).take (m.toNat - n.toNat)) := by
  rw [S_cut]
  congr 1
  obtain ⟨k, rfl⟩ := Int.eq_ofNat_of_zero_le h0
  obtain ⟨l, rfl⟩ := Int.eq_ofNat_of_zero_le h1
  rw [HT.sIx_nat, HT.sIx_nat]
  simp only [Int.toNat_natCast]
  apply List.ext_getElem?
  intro i
  simp only [List.getElem?_take, List.getElem?_drop]
  by_cases c : k + i < cs.length
  · have e1 : min k cs.length = k := by omega
    rw [e1]
    by_cases d : i < l - k
    · rw [if_pos (by omega), if_pos d]
    · rw [if_neg (by omega), if_neg d]
  · have e2 : cs[k + i]? = none := List.getElem?_eq_none (by omega)
    have e3 : cs[min k cs.length + i]? = none := List.getElem?_eq_none (by omega)
    rw [e2, e3]
    split <;> split <;> rfl
theorem S_join (cs : List Nat) : Txt.join (Str.ofString "") (cs.map fun c => ⟨#[c]⟩) = S cs := join_ones cs
theorem SS.S {cs : List Nat} {n : Nat} (h : cs.length ≤ n) (g : ∀ c ∈ cs, c < 1114112) : SS (S cs) n := ⟨by rw [S_len]; exact h, by rw [S_cps]; exact g⟩
theorem range_snoc {α : Type} (f : Nat → α) (i : Nat) : (List.range (i + 1)).map f = (List.range i).map f ++ [f i] := by
  rw [List.range_succ, List.map_append]
  rfl
theorem range_nodup {f : Nat → Str} {n : Nat} (h : ∀ i j, i < n → j < n → f i = f j → i = j) : ((List.range n).map f).Nodup := by
  rw [List.nodup_iff_pairwise_ne, List.pairwise_map]
  refine List.Pairwise.imp_of_mem ?_ (List.nodup_iff_pairwise_ne.mp List.nodup_range)
  intro a b ha hb hne e
  exact hne (h a b (List.mem_range.mp ha) (List.mem_range.mp hb) e)
section
variable {H : Hp} {ps : List Addr} {l : Addr} {vs : List V} {rs : List (List V)}
theorem hid_le : Kp [] (hid ps H) H := ⟨fun b o e _ => (hid_some e).1, fun b i ⟨o, e, r⟩ => ⟨o, (hid_some e).1, r⟩, fun b xs e => (hid_some e).1⟩
theorem hid_tup {b : Addr} {xs : List V} (e : H b = some (.tup xs)) (t : Th H l 0) : hid [l] H b = some (.tup xs) := hid_of e (by simpa using (Th.tup e).nk t rfl)
theorem Rw.hid (h : Rw H vs rs) (t : Th H l 0) : Rw (U.hid [l] H) vs rs := by
  induction h with
  | nil => exact .nil
  | cons e _ ih => exact .cons (hid_tup e t) ih
theorem cut_sub {lo hi : Option Int} {v : V} (h : v ∈ cutV vs lo hi) : v ∈ vs := List.mem_of_mem_drop (List.mem_of_mem_take h)
end
end U

namespace U
open PySem L2 PySem.Spec PyProof.Rows
/-! list(range(a, b)) -/
section
variable {X : Cx} {K : PySem.W.Frag} {H : Hp} {Q : VK} {p : Addr} {i j : Int}
def rngV (i : Int) (n : Nat) : List V := (List.range n).map fun k => V.int (i + (k : Nat))
def uRange : List V → Hp → VK → Prop := fun vs H Q => ∃ i j, vs = [V.int i, V.int j] ∧ ∀ p, H p = none → Q (.ref p) (upd H p (.rng i j))
theorem c_range2 : CallR X (.type "range") uRange := cr_range2
def uListR : List V → Hp → VK → Prop := fun xs H Q => ∃ p i j, xs = [.ref p] ∧ H p = some (.rng i j) ∧ -(2 ^ 30) ≤ i ∧ i < 2 ^ 30 ∧ -(2 ^ 30) ≤ j ∧ j < 2 ^ 30 ∧ (j - i).toNat ≤ 2 ^ 20 ∧ ∀ l, H l = none → Q (.ref l) (upd H l (.lst (rngV i (j - i).toNat)))
theorem c_listR (hc : X.calm = true) : CallR X (.type "list") uListR := by
  intro pins s σ H xs us Q I r h
  obtain ⟨p, i, j, rfl, hp, i0, i1, j0, j1, hn, q⟩ := h
  obtain ⟨u, eu, rx⟩ := vals1 r
  subst eu
  obtain rfl : u = Value.ref p := rx
  obtain ⟨t, u, v, e⟩ := (show ObjOk X.prog X.w H s.heap p (.rng i j) from I.hok p _ hp)
  have hsm : Builtin.Range.small i j 1 = true := small_one (by omega) (by omega) (by omega) (by omega)
  have hsz : Builtin.Range.rangeSize i j 1 = (j - i).toNat := by
    unfold Builtin.Range.rangeSize
    simp
    split <;> omega
  refine call_list_range (I.ok.hd hc) e hsm hsz (Nat.le_trans hn (by decide)) fun h' tk acc' c' hk hS hacc => ?_
  refine ⟨.ref s.heap.objs.size, upd H s.heap.objs.size (.lst (rngV i (j - i).toNat)), I.laid hk (Nat.le_refl _) (show ObjOk X.prog X.w _ _ _ (.lst (rngV i (j - i).toNat)) from ⟨?_, acc'.toList, c', ?_, ?_⟩), rfl, q _ (I.hok.fresh (Nat.le_refl _))⟩
  · rw [rngV, List.length_map, List.length_range]
    exact Nat.le_trans hn (by decide)
  · refine vals_of_at (by rw [rngV, List.length_map, List.length_range, Array.length_toList, hacc.1]) fun m x w h1 h2 => ?_
    obtain ⟨tk', ew⟩ := hacc.2 m w (by rw [← Array.getElem?_toList]; exact h2)
    rw [rngV, List.getElem?_map] at h1
    obtain ⟨m', e1, rfl⟩ := Option.map_eq_some_iff.mp h1
    have : m' = m := by
      have hm := (List.getElem?_eq_some_iff.mp e1)
      obtain ⟨h3, h4⟩ := hm
      rw [List.getElem_range] at h4
      exact h4.symm
    subst this
    refine ⟨tk', ?_⟩
    rw [ew]
    congr 1
    omega
  · simpa using hS
theorem s_rngN (q : ∀ p H', H p = none → H' p = some (.rng i j) → Kp [] H H' → Q (.ref p) H') : uRange [.int i, .int j] H Q := ⟨i, j, rfl, new_abs (R := fun p H' => Q (.ref p) H') q⟩
theorem s_listR (h : H p = some (.rng i j)) (b : -(2 ^ 30) ≤ i ∧ i < 2 ^ 30 ∧ -(2 ^ 30) ≤ j ∧ j < 2 ^ 30 ∧ (j - i).toNat ≤ 2 ^ 20) (q : ∀ l H', H l = none → H' l = some (.lst (rngV i (j - i).toNat)) → Kp [] H H' → Q (.ref l) H') : uListR [.ref p] H Q :=
  ⟨p, i, j, rfl, h, b.1, b.2.1, b.2.2.1, b.2.2.2.1, b.2.2.2.2, new_abs (R := fun p H' => Q (.ref p) H') q⟩
end
end U

namespace U
open PySem L2 PySem.Spec PyProof.Rows
/-! C(e, ..), the last one left out (its default is None) -/
section
variable {X : Cx} {k : Nat} {f C : Addr} {fd : FuncData} {ps : List Str} {sp : Sp} {W : WX} {x : Str} {p pos : Pos} {e : Expr} {es : List Expr} {t : TA}
variable {pi : List (Addr × Obj)} {σ : L2.St} {H : Hp} {s : Shared} {Q : VK} {us : List Value} {vs : List V}
def tNwD (C : Addr) (sp : Sp) (W : WX) (t : TA) : TE := fun σ H Q => t σ H fun vs H1 => NewK C sp (fun cls d H' => W cls d σ H') Q (vs ++ [.non]) H1
theorem run_nwD (M : Mk X.K C f) (F : FnOk X.prog X.w X.K X.mg X.base (L2.CX X.prog X.w) k f fd ps sp) (hr : Room (k + 1) X.A) (hb : Binds X.K fd ps [.none]) (tk : Takes X W) (I : Inv X pi σ H s) (r : Vals vs us)
    (h : NewK C sp (fun cls d H' => W cls d σ H') Q (vs ++ [.non]) H) : wpAny (model X.prog X.w) X.A (call (.ref C) us) (EP X pi σ Q) X.xe s := by
  have n1 : H (s.heap.objs.size + 1) = none := I.hok.fresh (Nat.le_succ _)
  have n0 : H s.heap.objs.size = none := I.hok.fresh (Nat.le_refl _)
  have hq := h (s.heap.objs.size + 1) s.heap.objs.size _ n1 upd_same ((Kp.refl.new (u := .own (s.heap.objs.size + 1)) n0).new (by rw [upd_ne (Nat.succ_ne_self _)]; exact n1))
  have I2 := Inv.made (C := C) I
  have r2 : Vals (V.ref (s.heap.objs.size + 1) :: (vs ++ [.non])) (Value.ref (s.heap.objs.size + 1) :: us ++ [.none]) := .cons rfl (r.append (.cons rfl .nil))
  have b : BindsTo _ fd ⟨Value.ref (s.heap.objs.size + 1) :: us, []⟩ (ps.zip (Value.ref (s.heap.objs.size + 1) :: us ++ [.none])) := hb _ (Value.ref (s.heap.objs.size + 1) :: us) I2.kIn (by rw [← r2.length]; exact F.len _ _ _ _ hq)
  refine wpAny_call (make_map (f := f) I.kIn M.makes M.init (beq_iff_eq.mp M.fn) (codeAny_mono (F.run _ X.stack _ _ ⟨Value.ref (s.heap.objs.size + 1) :: us, []⟩ (Value.ref (s.heap.objs.size + 1) :: us ++ [.none]) _ _ _ (hr.make C us [])
    (I2.env0.make C us []) b r2 hq) fun rr s' z => ?_))
  match rr, z with
  | .error er, z => exact tk er s' (XE.of_call I2 (fun _ _ _ y => y) z)
  | .ok (.ret u), z =>
    obtain ⟨v, H', I3, rv, ev, q3⟩ := I2.after z
    subst ev
    exact ⟨rv, ⟨V.ref (s.heap.objs.size + 1), H', I3, rfl, q3⟩⟩
  | .ok .next, z => exact z.elim
  | .ok .brk, z => exact z.elim
  | .ok .cont, z => exact z.elim
theorem pe_nwD (M : Mk X.K C f) (F : FnOk X.prog X.w X.K X.mg X.base (L2.CX X.prog X.w) k f fd ps sp) (hr : Room (k + 1) X.A) (gl : Gl X x) (hm : X.mg x = some (.ref C)) (hb : Binds X.K fd ps [.none]) (tk : Takes X W)
    (ha : PA X (e :: es) t) (h1 : (x == ("__debug__" : Str)) = false := by decide) (h2 : starEach (e :: es) X.env = (false, eval e X.env) :: starEach es X.env := by rfl) (h3 : (backTo pos (starEach es X.env)).any (·.1) = false := by rfl) :
    PE X (.Call (.Name x p) (e :: es) [] pos) (tNwD C sp W t) := by
  refine ⟨fun pi s σ H Q I h => wpAny_Call_Name_kw (ld_glob I gl hm ?_ h1)⟩
  refine PySem.W.callWith_K (h₀ := X.base) I.ok.mod.kin M.kp (thn (ha.run pos pi s σ H _ I h) ?_) h2 h3
  rintro us s1 ⟨vs, H1, I1, r, q⟩
  exact ⟨I1.kIn, run_nwD M F hr hb tk I1 r q⟩
theorem s_nwD {C : Addr} {sp : Sp} {W : WX} {t : TA} {σ : L2.St} {H : Hp} {Q : VK} (h : t σ H fun vs H1 => NewK C sp (fun cls d H' => W cls d σ H') Q (vs ++ [.non]) H1) : tNwD C sp W t σ H Q := h
end
theorem s_clear {H : Hp} {Q : VK} {p : Addr} {xs : List V} (h : H p = some (.lst xs)) (q : ∀ H', H' p = some (.lst []) → Kp [p] H H' → Q .non H') : rClear (.ref p) [] H Q := ⟨p, xs, rfl, rfl, h, put_abs h rfl (R := fun H' => Q .non H') q⟩
end U

namespace U
open PySem L2 PySem.Spec PyProof.Rows
/-! things that are data, by the places of their lists and dicts -/
section
variable {K : PySem.W.Frag} {H H1 H2 : Hp} {F G ps qs : List Addr} {a b p : Addr} {v y : V} {d e : PyData} {xs ys : List V} {ds : List PyData} {kvs : List (Key × V)}
def isTu : HO → Bool | .tup _ => true | _ => false
/-- the tuples, and what stands at F -/
def vis (F : List Addr) (H : Hp) : Hp := fun a => match H a with | none => none | some o => if isTu o = true ∨ a ∈ F then some o else none
theorem vis_some {o : HO} (h : vis F H a = some o) : H a = some o ∧ (isTu o = true ∨ a ∈ F) := by
  unfold vis at h
  cases e : H a with
  | none => rw [e] at h; cases h
  | some o' =>
    rw [e] at h
    simp only at h
    split at h
    · cases h; rename_i c; exact ⟨rfl, c⟩
    · cases h
theorem vis_of {o : HO} (h : H a = some o) (c : isTu o = true ∨ a ∈ F) : vis F H a = some o := by
  unfold vis
  rw [h]
  simp only
  rw [if_pos c]
theorem vis_tup (h : H a = some (.tup xs)) : vis F H a = some (.tup xs) := vis_of h (Or.inl rfl)
theorem ko_tu {o u : HO} (h : ko o = ko u) (c : isTu o = true) : isTu u = true := by
  cases o <;> simp [isTu] at c
  cases u <;> simp [ko, isTu] at h ⊢
theorem vis_kp (k : Kp ps H H1) (n : ∀ a ∈ ps, a ∉ F) : Kp [] (vis F H) (vis F H1) := ⟨fun b o e _ => by
  obtain ⟨e1, c⟩ := vis_some e
  rcases c with c | c
  · cases o <;> simp [isTu] at c
    exact vis_tup (k.tp b _ e1)
  · exact vis_of (k.get e1 fun m => n b m c) (Or.inr c), fun b i e => by
  obtain ⟨o, e, r⟩ := e
  obtain ⟨e1, c⟩ := vis_some e
  obtain ⟨o', e', r'⟩ := k.kd b i ⟨o, e1, r⟩
  exact ⟨o', vis_of e' (c.imp (fun z => ko_tu (r.trans r'.symm) z) id), r'⟩, fun b xs e => vis_tup (k.tp b xs (vis_some e).1)⟩
theorem vis_le : Kp [] (vis F H) H := ⟨fun b o e _ => (vis_some e).1, fun b i ⟨o, e, r⟩ => ⟨o, (vis_some e).1, r⟩, fun b xs e => (vis_some e).1⟩
theorem vis_mono (h : ∀ a ∈ F, a ∈ G) : Kp [] (vis F H) (vis G H) := ⟨fun b o e _ => by
  obtain ⟨e1, c⟩ := vis_some e
  exact vis_of e1 (c.imp id (h b)), fun b i ⟨o, e, r⟩ => by
  obtain ⟨e1, c⟩ := vis_some e
  exact ⟨o, vis_of e1 (c.imp id (h b)), r⟩, fun b xs e => vis_tup (vis_some e).1⟩
/-- a thing, its lists and dicts at F -/
inductive Od (K : PySem.W.Frag) (H : Hp) : V → PyData → List Addr → Prop
  | flat {v : V} {d : PyData} {F : List Addr} {kd : Kd} : Dn K (vis F H) v d → TyN H v kd → kd.isList = false → kd.isDict = false → Od K H v d F
  | lst {a : Addr} {xs : List V} {ds : List PyData} {F : List Addr} : H a = some (.lst xs) → a ∉ F → DnA K (vis F H) xs ds → Od K H (.ref a) (.list ds) (a :: F)
  | dic {a : Addr} {kvs : List (Key × V)} {ds : List PyData} {F : List Addr} : H a = some (.dK kvs) → a ∉ F → DnA K (vis F H) (kvs.map (·.2)) ds → Od K H (.ref a) (.dict ((kvs.map fun p => keyD p.1).zip ds)) (a :: F)
theorem TyN.kpt {kd : Kd} (h : TyN H v kd) (h1 : kd.isList = false) (h2 : kd.isDict = false) (k : Kp ps H H1) : TyN H1 v kd := by
  cases h with
  | non => exact .non
  | bl => exact .bl
  | int => exact .int
  | str => exact .str
  | lst e => cases h1
  | tup e => exact .tup (k.tp _ _ e)
  | dic e => cases h2
theorem Od.kpn (h : Od K H v d F) (k : Kp ps H H1) (n : ∀ a ∈ ps, a ∉ F) : Od K H1 v d F := by
  cases h with
  | flat a b c e => exact .flat (a.kp (vis_kp k n)) (b.kpt c e k) c e
  | lst a b c => exact .lst (k.get a fun m => n _ m List.mem_cons_self) b (c.kp (vis_kp k fun x m z => n x m (List.mem_cons_of_mem _ z)))
  | dic a b c => exact .dic (k.get a fun m => n _ m List.mem_cons_self) b (c.kp (vis_kp k fun x m z => n x m (List.mem_cons_of_mem _ z)))
theorem Od.kp (h : Od K H v d F) (k : Kp [] H H1) : Od K H1 v d F := h.kpn k (by simp)
theorem Od.dnv (h : Od K H v d F) : Dn K (vis F H) v d := by
  cases h with
  | flat a b c e => exact a
  | lst a b c => exact .lst (Or.inl (vis_of a (Or.inr List.mem_cons_self))) (c.kp (vis_mono fun x m => List.mem_cons_of_mem _ m))
  | dic a b c => exact .dic (Or.inl (vis_of a (Or.inr List.mem_cons_self))) (c.kp (vis_mono fun x m => List.mem_cons_of_mem _ m))
theorem Od.dn (h : Od K H v d F) : Dn K H v d := h.dnv.kp vis_le
theorem Od.ty (h : Od K H v d F) : ∃ kd, TyN H v kd := by
  cases h with
  | flat a b c e => exact ⟨_, b⟩
  | lst a b c => exact ⟨_, .lst a⟩
  | dic a b c => exact ⟨_, .dic a⟩
theorem Od.int {i : Int} : Od K H (.int i) (.int i) [] := .flat (.int _) .int rfl rfl
theorem Od.non : Od K H .non .none [] := .flat .non .non rfl rfl
theorem Od.bl {i : Bool} : Od K H (.bl i) (.bool i) [] := .flat (.bl _) .bl rfl rfl
theorem Od.str {i : Str} : Od K H (.str i) (.str i) [] := .flat (.str _) .str rfl rfl
theorem Od.tup (h : H a = some (.tup xs)) (g : DnA K (vis F H) xs ds) : Od K H (.ref a) (.tuple ds) F := .flat (.tup (SqT.of (vis_tup h)) g) (.tup h) rfl rfl
theorem DnA.app : ∀ {xs ys : List V} {ds es : List PyData}, DnA K H xs ds → DnA K H ys es → DnA K H (xs ++ ys) (ds ++ es)
  | _, _, _, _, .nil, h => h
  | _, _, _, _, .cons a b, h => .cons a (DnA.app b h)
theorem Od.more {dy : PyData} (e : H1 a = some (.lst (xs ++ [y]))) (n : a ∉ F) (c : DnA K (vis F H) xs ds) (k : Kp [a] H H1) (hy : ∀ H, Dn K H y dy) : Od K H1 (.ref a) (.list (ds ++ [dy])) (a :: F) :=
  .lst e n ((c.kp (vis_kp k (by simpa using n))).app (.cons (hy _) .nil))
/-- what repr may show -/
structure Bd (d : PyData) (n : Nat) : Prop where
  good : U.good d
  depth : d.depth ≤ 90
  sz : U.sz d ≤ n
theorem Bd.mono {n m : Nat} (h : Bd d n) (e : n ≤ m) : Bd d m := ⟨h.good, h.depth, Nat.le_trans h.sz e⟩
theorem Bd.sh {n : Nat} (h : Bd d n) (g : Dn K H v d) (e : n ≤ 16000000) : Sh K H v d := ⟨g, h.good, Nat.le_trans h.depth (by decide), Nat.le_trans h.sz e⟩
theorem good_app : ∀ {ds es : List PyData}, goodA ds → goodA es → goodA (ds ++ es)
  | [], _, _, h => h
  | _ :: _, _, ⟨a, b⟩, h => ⟨a, good_app b h⟩
theorem depth_app : ∀ (ds es : List PyData), PyData.depthAll (ds ++ es) = max (PyData.depthAll ds) (PyData.depthAll es)
  | [], es => by simp [PyData.depthAll]
  | d :: ds, es => by
    rw [List.cons_append, PyData.depthAll, PyData.depthAll, depth_app ds es]
    omega
theorem sz_app : ∀ (ds es : List PyData), szA (ds ++ es) = szA ds + szA es
  | [], es => by simp [szA]
  | d :: ds, es => by
    rw [List.cons_append, szA, szA, sz_app ds es]
    omega
theorem Bd.more {n m : Nat} (h : Bd (.list ds) n) (g : Bd e m) (z : e.depth ≤ 80) : Bd (.list (ds ++ [e])) (n + m + 2) := by
  obtain ⟨h1, h2, h3⟩ := h
  obtain ⟨g1, g2, g3⟩ := g
  refine ⟨good_app h1 ⟨g1, trivial⟩, ?_, ?_⟩
  · simp only [PyData.depth, depth_app, PyData.depthAll] at h2 ⊢
    omega
  · simp only [U.sz, sz_app, szA] at h3 ⊢
    omega
theorem Bd.int {i : Int} (h : i.natAbs < 10 ^ 100) : Bd (.int i) 102 := ⟨h, by simp [PyData.depth], by simp [U.sz]⟩
theorem Bd.non : Bd .none 4 := ⟨trivial, by simp [PyData.depth], by simp [U.sz]⟩
theorem Bd.bl {i : Bool} : Bd (.bool i) 5 := ⟨trivial, by simp [PyData.depth], by simp [U.sz]⟩
theorem Bd.str {z : Str} {n : Nat} (h : SS z n) : Bd (.str z) (10 * n + 2) := ⟨fun c hc => Nat.lt_trans (h.ok c hc) (by decide), by simp [PyData.depth], by have := h.len; simp only [U.sz]; omega⟩
end
end U

namespace U
open PySem L2 PySem.Spec PyProof.Rows
/-! range(n) as a value; whole numbers in lists -/
section
variable {X : Cx} {K : PySem.W.Frag} {H : Hp} {Q : VK} {p : Addr} {i j : Int} {ns : List Int}
def uRange1 : List V → Hp → VK → Prop := fun vs H Q => ∃ j, vs = [V.int j] ∧ ∀ p, H p = none → Q (.ref p) (upd H p (.rng 0 j))
theorem c_range1 : CallR X (.type "range") uRange1 := by
  intro pins s σ H vs us Q I r h
  obtain ⟨j, rfl, q⟩ := h
  obtain ⟨u1, rfl, rj⟩ := vals1 r
  obtain ⟨u, rfl⟩ := rj
  refine call_range_1 ⟨.ref s.heap.objs.size, upd H s.heap.objs.size (.rng 0 j), I.laid (t' := s.toks + 1 + 1) (fun b o e => Heap.get?_push_of_some _ e) (Nat.le_refl _) ?_, rfl, q _ (I.hok.fresh (Nat.le_refl _))⟩
  exact ⟨s.toks, u, s.toks + 1, Heap.get?_push_size _ rfl⟩
theorem s_rngN1 (q : ∀ p H', H p = none → H' p = some (.rng 0 j) → Kp [] H H' → Q (.ref p) H') : uRange1 [.int j] H Q := ⟨j, rfl, new_abs (R := fun p H' => Q (.ref p) H') q⟩
theorem flat_ints (ns : List Int) : (ns.map V.int).all flatV = true := by
  rw [List.all_eq_true]
  intro x hx
  obtain ⟨y, _, rfl⟩ := List.mem_map.mp hx
  rfl
theorem eqV_int {a b : Int} : eqV (.int a) (.int b) = decide (a = b) := by
  first
    | (show decide (V.int a = V.int b) = _; exact U.dec_int)
    | rfl
    | simp [eqV]
theorem inV_ints : inV (.int i) (ns.map V.int) = decide (i ∈ ns) := by
  induction ns with
  | nil => rfl
  | cons y zs ih =>
    unfold inV at ih ⊢
    rw [List.map_cons, List.any_cons, ih, eqV_int]
    by_cases h : y = i
    · subst h; simp
    · simp [h, Ne.symm h]
theorem s_inI (h : SqL K H p (ns.map V.int)) (q : Q (.bl (decide (i ∈ ns))) H) : uIn K false (.int i) (.ref p) H Q := Or.inr ⟨p, _, rfl, Or.inl h, rfl, flat_ints ns, by rw [inV_ints]; exact q⟩
theorem s_ninI (h : SqL K H p (ns.map V.int)) (q : Q (.bl (!decide (i ∈ ns))) H) : uIn K true (.int i) (.ref p) H Q := Or.inr ⟨p, _, rfl, Or.inl h, rfl, flat_ints ns, by rw [inV_ints]; exact q⟩
end
/-! a thing to which more may be added: an item to a list, an entry of one key to a dict -/
section
variable {K : PySem.W.Frag} {H H1 : Hp} {F ps : List Addr} {a : Addr} {kvs c : List (Key × V)} {ds es : List PyData} {key : Str} {v y : V} {d dv dy : PyData} {xs : List V} {n m : Nat}
def noKey (key : Str) (c : List (Key × V)) : Prop := (c.any fun kv => decide (kv.1 = (Sum.inr key : Key))) = false
theorem put_new (h : noKey key c) : putK c (Sum.inr key : Key) v = c ++ [(Sum.inr key, v)] := by
  unfold putK
  rw [if_neg (by rw [h]; exact Bool.false_ne_true)]
theorem put_old {w : V} (h : noKey key c) : putK (c ++ [((Sum.inr key : Key), w)]) (Sum.inr key : Key) v = c ++ [(Sum.inr key, v)] := by
  unfold putK
  rw [if_pos (by simp), List.map_append]
  congr 1
  · unfold noKey at h
    rw [List.any_eq_false] at h
    calc c.map _ = c.map id := List.map_congr_left fun kv hk => by
          have := h kv hk
          simp only [decide_eq_true_eq] at this
          rw [if_neg this]; rfl
      _ = c := List.map_id c
  · simp
inductive Ot (K : PySem.W.Frag) (H : Hp) (key : Str) : V → PyData → List Addr → Prop
  | od {v : V} {d : PyData} {F : List Addr} : Od K H v d F → (∀ a kvs, v = .ref a → H a = some (.dK kvs) → noKey key kvs) → Ot K H key v d F
  | put {a : Addr} {c : List (Key × V)} {ds : List PyData} {F : List Addr} {v : V} {dv : PyData} : H a = some (.dK (c ++ [(Sum.inr key, v)])) → noKey key c → a ∉ F → DnA K (vis F H) (c.map (·.2)) ds → (∀ H, Dn K H v dv) →
      Ot K H key (.ref a) (.dict (((c ++ [((Sum.inr key : Key), v)]).map fun p => keyD p.1).zip (ds ++ [dv]))) (a :: F)
theorem Ot.kpn (h : Ot K H key v d F) (k : Kp ps H H1) (n : ∀ a ∈ ps, a ∉ F) : Ot K H1 key v d F := by
  cases h with
  | od a b =>
    refine .od (a.kpn k n) fun x kvs e h1 => ?_
    subst e
    cases a with
    | flat z1 z2 z3 z4 =>
      cases z2 with
      | lst e => cases z3
      | dic e => cases z4
      | tup e => rw [k.tp _ _ e] at h1; cases h1
    | lst z1 z2 z3 => rw [k.get z1 fun m => n _ m List.mem_cons_self] at h1; cases h1
    | dic z1 z2 z3 =>
      rw [k.get z1 fun m => n _ m List.mem_cons_self] at h1
      cases h1
      exact b _ _ rfl z1
  | put a b c e f => exact .put (k.get a fun m => n _ m List.mem_cons_self) b c (e.kp (vis_kp k fun x m z => n x m (List.mem_cons_of_mem _ z))) f
theorem Ot.kp (h : Ot K H key v d F) (k : Kp [] H H1) : Ot K H1 key v d F := h.kpn k (by simp)
theorem Ot.dn (h : Ot K H key v d F) : Dn K H v d := by
  cases h with
  | od a b => exact a.dn
  | put a b c e f =>
    refine .dic (Or.inl a) ?_
    rw [List.map_append]
    exact (e.kp vis_le).app (.cons (f _) .nil)
theorem Ot.ty (h : Ot K H key v d F) : ∃ kd, TyN H v kd := by
  cases h with
  | od a b => exact a.ty
  | put a b c e f => exact ⟨_, .dic a⟩
theorem dna_len : ∀ {vs : List V} {ds : List PyData}, DnA K H vs ds → vs.length = ds.length
  | _, _, .nil => rfl
  | _, _, .cons _ b => by rw [List.length_cons, List.length_cons, dna_len b]
theorem sz_len : ∀ ds : List PyData, 2 * ds.length ≤ szA ds
  | [] => by simp [szA]
  | d :: ds => by
    have := sz_len ds
    rw [szA, List.length_cons]
    omega
theorem szK_len : ∀ ds : List (PyData × PyData), 4 * ds.length ≤ szK ds
  | [] => by simp [szK]
  | (k, d) :: ds => by
    have := szK_len ds
    rw [szK, List.length_cons]
    omega
theorem goodK_app : ∀ {ds es : List (PyData × PyData)}, goodK (ds ++ es) ↔ goodK ds ∧ goodK es
  | [], es => by simp [goodK]
  | (k, d) :: ds, es => by
    rw [List.cons_append, goodK, goodK, goodK_app (ds := ds) (es := es)]
    simp only [and_assoc]
theorem depthK_app : ∀ (ds es : List (PyData × PyData)), PyData.depthKv (ds ++ es) = max (PyData.depthKv ds) (PyData.depthKv es)
  | [], es => by simp [PyData.depthKv]
  | (k, d) :: ds, es => by
    rw [List.cons_append, PyData.depthKv, PyData.depthKv, depthK_app ds es]
    omega
theorem szK_app : ∀ (ds es : List (PyData × PyData)), szK (ds ++ es) = szK ds + szK es
  | [], es => by simp [szK]
  | (k, d) :: ds, es => by
    rw [List.cons_append, szK, szK, szK_app ds es]
    omega
theorem zip_snoc (hl : DnA K H (c.map (·.2)) ds) : ((c ++ [((Sum.inr key : Key), v)]).map fun p => keyD p.1).zip (ds ++ [dv]) = ((c.map fun p => keyD p.1).zip ds) ++ [(.str key, dv)] := by
  have e : ds.length = c.length := by
    have := dna_len hl
    rw [List.length_map] at this
    exact this.symm
  rw [List.map_append, List.zip_append (by rw [List.length_map, e])]
  rfl
theorem Bd.putK {l : List (PyData × PyData)} (h : Bd (.dict l) n) (g : Bd dy m) (z : dy.depth ≤ 80) (s : SS key 20) : Bd (.dict (l ++ [(.str key, dy)])) (n + m + 300) := by
  obtain ⟨h1, h2, h3⟩ := h
  obtain ⟨g1, g2, g3⟩ := g
  refine ⟨goodK_app.mpr ⟨h1, fun c hc => Nat.lt_trans (s.ok c hc) (by decide), g1, trivial⟩, ?_, ?_⟩
  · simp only [PyData.depth, depthK_app, PyData.depthKv] at h2 ⊢
    omega
  · have := s.len
    simp only [U.sz, szK_app, szK] at h3 ⊢
    omega
theorem Bd.dropK {l : List (PyData × PyData)} {x : PyData × PyData} (h : Bd (.dict (l ++ [x])) n) : Bd (.dict l) n := by
  obtain ⟨h1, h2, h3⟩ := h
  obtain ⟨x1, x2⟩ := x
  refine ⟨(goodK_app.mp h1).1, ?_, ?_⟩
  · simp only [PyData.depth, depthK_app, PyData.depthKv] at h2 ⊢
    omega
  · simp only [U.sz, szK_app, szK] at h3 ⊢
    omega
theorem Ot.cs (h : Ot K H key v d F) (s : SS key 20) : (∃ kd, TyN H v kd ∧ kd.isList = false ∧ kd.isDict = false) ∨
    (∃ a xs, v = .ref a ∧ a ∈ F ∧ H a = some (.lst xs) ∧ (∀ n, Bd d n → xs.length ≤ n) ∧ ∀ y dy H1, (∀ H, Dn K H y dy) → H1 a = some (.lst (xs ++ [y])) → Kp [a] H H1 → ∃ d', Ot K H1 key v d' F ∧ ∀ n m, Bd d n → Bd dy m → dy.depth ≤ 80 → Bd d' (n + m + 300)) ∨
    (∃ a kvs, v = .ref a ∧ a ∈ F ∧ H a = some (.dK kvs) ∧ (∀ n, Bd d n → kvs.length ≤ n) ∧ ∀ y dy H1, (∀ H, Dn K H y dy) → H1 a = some (.dK (L2.putK kvs (Sum.inr key : Key) y)) → Kp [a] H H1 → ∃ d', Ot K H1 key v d' F ∧ ∀ n m, Bd d n → Bd dy m → dy.depth ≤ 80 → Bd d' (n + m + 300)) := by
  cases h with
  | od a b =>
    cases a with
    | flat z1 z2 z3 z4 => exact Or.inl ⟨_, z2, z3, z4⟩
    | @lst a xs ds F z1 z2 z3 =>
      refine Or.inr (Or.inl ⟨a, xs, rfl, List.mem_cons_self, z1, fun n g => ?_, fun y dy H1 hy e k => ⟨_, .od (Od.more e z2 z3 k hy) (fun x kvs e1 e2 => ?_), fun n m g1 g2 g3 => (g1.more g2 g3).mono (by omega)⟩⟩)
      · have := sz_len ds
        have := g.sz
        simp only [U.sz] at this
        have := dna_len z3
        omega
      · cases e1
        rw [e] at e2
        cases e2
    | @dic a kvs ds F z1 z2 z3 =>
      refine Or.inr (Or.inr ⟨a, kvs, rfl, List.mem_cons_self, z1, fun n g => ?_, fun y dy H1 hy e k => ?_⟩)
      · have := szK_len ((kvs.map fun p => keyD p.1).zip ds)
        have := g.sz
        simp only [U.sz] at this
        have e := dna_len z3
        rw [List.length_map] at e
        have : ((kvs.map fun p => keyD p.1).zip ds).length = kvs.length := by rw [List.length_zip, List.length_map, ← e]; omega
        omega
      · have nk := b _ _ rfl z1
        rw [put_new nk] at e
        refine ⟨_, .put e nk z2 (z3.kp (vis_kp k (by simpa using z2))) hy, fun n m g1 g2 g3 => ?_⟩
        rw [zip_snoc z3]
        exact g1.putK g2 g3 s
  | @put a c ds F v dv z1 nk z2 z3 z4 =>
    refine Or.inr (Or.inr ⟨a, _, rfl, List.mem_cons_self, z1, fun n g => ?_, fun y dy H1 hy e k => ?_⟩)
    · rw [zip_snoc z3] at g
      have := szK_len ((c.map fun p => keyD p.1).zip ds ++ [(.str key, dv)])
      have := g.sz
      simp only [U.sz] at this
      have e := dna_len z3
      rw [List.length_map] at e
      have : ((c.map fun p => keyD p.1).zip ds).length = c.length := by rw [List.length_zip, List.length_map, ← e]; omega
      rw [List.length_append] at *
      simp only [List.length_cons, List.length_nil] at *
      omega
    · rw [put_old nk] at e
      refine ⟨_, .put e nk z2 (z3.kp (vis_kp k (by simpa using z2))) hy, fun n m g1 g2 g3 => ?_⟩
      rw [zip_snoc z3] at g1 ⊢
      exact g1.dropK.putK g2 g3 s
end
theorem s_slT {K : PySem.W.Frag} {H : Hp} {p : Addr} {xs ys : List V} {lo hi : Option Int} {Q : VK} (h : H p = some (.tup xs)) (ey : cutV xs lo hi = ys) (q : ∀ p' H', H' p' = some (.tup ys) → Kp [] H H' → Q (.ref p') H') : uSl K (.ref p) lo hi H Q := by
  subst ey
  refine Or.inr (Or.inr ⟨p, xs, rfl, SqT.of h, fun e => ?_, fun _ => new_abs (R := fun l H' => Q (.ref l) H') fun p' H' _ e k => q p' H' e k⟩)
  have : cutV xs lo hi = xs := by
    unfold cutV
    rw [e.1, e.2]
    simp
  exact q p H (by rw [this]; exact h) Kp.refl
theorem int_shw {K : PySem.W.Frag} {H : Hp} {i : Int} (h0 : 0 ≤ i) (h1 : i ≤ 1000000000) : Sh K H (.int i) (.int i) :=
  ⟨.int i, Nat.lt_of_le_of_lt (show i.natAbs ≤ 1000000000 by omega) (by decide +kernel), by simp [PyData.depth], by simp [sz]⟩
end U

namespace U
open PySem L2 PySem.Spec PyProof.Rows PySem.SeqAt
/-! a dict beside texts -/
theorem dict_eq_declines_str (l : Addr) (es : Array DictEntry) (n : Nat) (dd : Option Addr) (sl : Array (Option Value)) (b : Str) (u : Tok) :
    Meets (Builtin.«dict.__eq__» ⟨[.ref l, .str b u], []⟩) (fun _ R s => s.heap.get? l = some { cls := .type "dict", dict := dd, data := .dict es n, slots := sl } ∧ R (.ok (.ret .notImplemented)) s) :=
  .of_wp fun prog w A R s h => by obtain ⟨hp, g, d, tk, os⟩ := s; obtain ⟨hl, h⟩ := h; have f1 := F.sub_str_dict; wp_walk using wpAny_loadPart' hl; exact ⟨_, rfl, h⟩
theorem str_eq_declines_dict (b : Str) (u : Tok) (l : Addr) (c : Value) (es : Array DictEntry) (n : Nat) (dd : Option Addr) (sl : Array (Option Value)) :
    Meets (Builtin.«str.__eq__» ⟨[.str b u, .ref l], []⟩) (fun _ R s => s.heap.get? l = some { cls := c, dict := dd, data := .dict es n, slots := sl } ∧ R (.ok (.ret .notImplemented)) s) :=
  .of_wp fun prog w A R s h => by obtain ⟨hp, g, d, tk, os⟩ := s; obtain ⟨hl, h⟩ := h; wp_walk using wpAny_loadPart' hl, wpAny_load hl; exact ⟨_, rfl, h⟩
theorem eqAt_str_dict {A : Around} {s : Shared} {l : Addr} {o : Obj} {es : Array DictEntry} {n : Nat} (b : Str) (u : Tok) (ho : s.heap.get? l = some o) (hc : o.cls = .type "dict") (hd : o.data = .dict es n) (hu : A.units < cLine) : EqAt A s (.str b u) (.ref l) false := fun prog w E Q h => by
  obtain ⟨cls, dd, data, sl⟩ := o
  simp only at hc hd
  subst hc hd
  unfold eqBool
  refine wpAny_holding ?_
  refine wpAny_ite_split (fun hab => absurd (eq_of_beq hab) nofun) (fun _ => ?_)
  refine wpAny_bind (?_ : wpAny (model prog w) A (richCompare .Eq (.str b u) (.ref l)) _ E s)
  refine rc_eq_decline_or (k := false) (typeIs_str s b u) ⟨_, ho, rfl⟩ (by decide) F.sub_dict_str F.slot_str_eq F.slot_dict_eq_refl
    (fun _ hq => call_meets F.slot_str_eq (typeIs_str s b u) F.entry_str_eq (F.args_str_eq_2 _ _) (str_eq_declines_dict b u l (.type "dict") es n dd sl) ⟨ho, hq⟩)
    (fun _ hq => call_meets F.slot_dict_eq_refl ⟨_, ho, rfl⟩ F.entry_dict_eq (F.args_dict_eq_2 _ _) (dict_eq_declines_str l es n dd sl b u) ⟨ho, hq⟩)
    (fun _ hq => wpAny_of_eq (rfl : isSame (.str b u) (.ref l) = pure false) hq) (.inr hu) (wpAny_truthy_bool h)
/-! x in a list of texts, x any data -/
def rInX (K : PySem.W.Frag) (ng : Bool) : R2 := fun x y H Q => ∃ (p a : Addr) (zs : List Str) (kvs : List (Key × V)), x = .ref a ∧ H a = some (.dK kvs) ∧ y = .ref p ∧ SqL K H p (zs.map V.str) ∧ Q (.bl ng) H
def rInY (K : PySem.W.Frag) (ng : Bool) : R2 := fun x y H Q => ∃ d ds, Dp K H x d ∧ Dp K H y (.list ds) ∧ SeqAt.shaped d = true ∧ SeqAt.shaped (.list ds) = true ∧ Q (.bl (if ng then !ds.any fun z => PyData.eqv z d else ds.any fun z => PyData.eqv z d)) H
def uInX (K : PySem.W.Frag) (ng : Bool) : R2 := fun x y H Q => uIn K ng x y H Q ∨ rInX K ng x y H Q ∨ rInY K ng x y H Q
section
variable {X : Cx} {k : Nat} {K : PySem.W.Frag}
theorem strs_eqAt {A : Around} {s : Shared} {l : Addr} {o : Obj} {es : Array DictEntry} {n : Nat} (ho : s.heap.get? l = some o) (hc : o.cls = .type "dict") (hd : o.data = .dict es n) (hu : A.units < cLine) : ∀ {zs : List Str} {us : List Value}, Vals (zs.map V.str) us → ∀ u ∈ us, EqAt A s u (.ref l) false
  | [], _, .nil => fun u hu => by cases hu
  | z :: zs, _, .cons r t => fun u' hu' => by
    rcases List.mem_cons.mp hu' with rfl | hm
    · obtain ⟨tk, rfl⟩ := r
      exact eqAt_str_dict z tk ho hc hd hu
    · exact strs_eqAt ho hc hd hu t u' hm
theorem op_inX (hr : Room k X.A) : OpR X (compareOp .In) (rInX X.K false) := by
  intro pins s σ H x y v u Q I rx ry h
  obtain ⟨p, a, zs, kvs, rfl, ea, rfl, hq, q⟩ := h
  cases rx
  cases ry
  obtain ⟨z, hd, vs, rel, o, es, ep, h1, h2, h3, h4⟩ := dk_of I.hok ea
  obtain ⟨its, r, pl, hz⟩ := I.list hq
  refine SeqAt.in_listAt (fun _ => false) pl.isList (fun w hw => strs_eqAt h1 h2.1 h3 (hu_of hr) r w (by simpa using hw)) ⟨.bl _, H, I, rfl, ?_⟩
  rw [show its.toArray.any (fun _ => false) = false by simp]
  exact q
theorem op_notInX (hr : Room k X.A) : OpR X (compareOp .NotIn) (rInX X.K true) := by
  intro pins s σ H x y v u Q I rx ry h
  obtain ⟨p, a, zs, kvs, rfl, ea, rfl, hq, q⟩ := h
  cases rx
  cases ry
  obtain ⟨z, hd, vs, rel, o, es, ep, h1, h2, h3, h4⟩ := dk_of I.hok ea
  obtain ⟨its, r, pl, hz⟩ := I.list hq
  refine SeqAt.notIn_listAt (fun _ => false) pl.isList (fun w hw => strs_eqAt h1 h2.1 h3 (hu_of hr) r w (by simpa using hw)) ⟨.bl _, H, I, rfl, ?_⟩
  rw [show its.toArray.any (fun _ => false) = false by simp]
  exact q
theorem o_inX (hK : X.K = K) (hr : Room k X.A) : OpR X (compareOp .In) (uInX K false) := by
  subst hK
  exact (o_in rfl).or ((op_inX hr).or (op_inD (by have := hr.un; omega)))
theorem o_notinX (hK : X.K = K) (hr : Room k X.A) : OpR X (compareOp .NotIn) (uInX K true) := by
  subst hK
  exact (o_notin rfl).or ((op_notInX hr).or (op_notInD (by have := hr.un; omega)))
end
section
variable {K : PySem.W.Frag} {σ : L2.St} {H : Hp} {Q : VK} {p a : Addr} {zs : List Str} {ng : Bool} {x y : V} {d : PyData}
/-- a thing that is no text is in no list of texts -/
def noStr : PyData → Bool | .str _ => false | _ => true
theorem any_noStr (h : noStr d = true) : ∀ zs : List Str, ((zs.map PyData.str).any fun z => PyData.eqv z d) = false
  | [] => rfl
  | z :: zs => by
    rw [List.map_cons, List.any_cons, any_noStr h zs, Bool.or_false]
    cases d <;> first | rfl | (simp [noStr] at h) | simp [PyData.eqv]
theorem s_iX (h : uIn K ng x y H Q) : uInX K ng x y H Q := Or.inl h
theorem s_iXD {kvs : List (Key × V)} (h : H a = some (.dK kvs)) (g : SqL K H p (zs.map V.str)) (q : Q (.bl ng) H) : uInX K ng (.ref a) (.ref p) H Q := Or.inr (Or.inl ⟨p, a, zs, kvs, rfl, h, rfl, g, q⟩)
theorem s_iXY (h : Dn K H x d) (s : SeqAt.shaped d = true) (nd : noStr d = true) (g : SqL K H p (zs.map V.str)) (ok : ∀ z ∈ zs, ∀ c ∈ z.cps.toList, c < 1114112) (q : Q (.bl ng) H) : uInX K ng x (.ref p) H Q := by
  refine Or.inr (Or.inr ⟨d, zs.map PyData.str, h.dp (shp s), .lst g (dpa_strs zs), s, shp_strs ok, ?_⟩)
  rw [any_noStr nd zs]
  cases ng <;> exact q
theorem s_m0 {r : V → List V → Hp → VK → Prop} {to : TE} (h : to σ H fun x H1 => (∃ a, x = .str a) ∧ r x [] H1 Q) : tM0 r to σ H Q := h
theorem s_upper {z : Str} (h : z.length ≤ 5592405) (q : Q (.str (Txt.upper z)) H) : ∃ a, V.str z = .str a ∧ ([] : List V) = [] ∧ a.length ≤ 5592405 ∧ Q (.str (Txt.upper a)) H := ⟨z, rfl, rfl, h, q⟩
theorem up_let : ∀ c ∈ List.range' 97 26, Unicode.upperOf c = [c - 32] := by decide +kernel
theorem up_ss {z : Str} {n : Nat} (h : SS z n) (g : ∀ c ∈ z.cps.toList, 97 ≤ c ∧ c ≤ 122) : SS (Txt.upper z) (3 * n) := by
  refine ⟨Nat.le_trans (len_upper z) (by have := h.len; omega), fun c hc => ?_⟩
  have hc : c ∈ (PySem.placed z fun _ c => Unicode.upperOf c) := by simpa [Txt.upper] using hc
  unfold PySem.placed at hc
  obtain ⟨xs, hx, hc⟩ := Array.mem_flatten.mp hc
  obtain ⟨i, hi, rfl⟩ := Array.mem_mapIdx.mp hx
  have hm : z.cps[i] ∈ z.cps.toList := by simp
  have b := g _ hm
  simp only [] at hc
  rw [up_let _ (by rw [List.mem_range']; exact ⟨z.cps[i] - 97, by omega, by omega⟩)] at hc
  simp at hc
  omega
def uInt : List V → Hp → VK → Prop := fun xs H Q => (∃ i, xs = [.int i] ∧ Q (.int i) H) ∨ ∃ k : Bool, xs = [.bl k] ∧ Q (.int (if k then 1 else 0)) H
theorem c_int {X : Cx} : CallR X (.type "int") uInt := call_int1
theorem s_intB {k : Bool} (q : Q (.int (if k then 1 else 0)) H) : uInt [.bl k] H Q := Or.inr ⟨k, rfl, q⟩
end
end U

namespace U
open PySem L2 PySem.Spec PyProof.Rows
/-! enumerate(list, c) -/
def IteS (K : PySem.W.Frag) (a : Addr) (c : Int) : It :=
  ⟨fun i H => ∃ (xs : List V) (x : V), SqL K H a xs ∧ xs[i]? = some x, fun i H v H' => ∃ T x, v = .ref T ∧ H T = none ∧ H' = upd H T (.tup [.int (c + (i : Nat)), x]) ∧ ∀ xs, SqL K H a xs → xs[i]? = some x, fun i H => ∃ xs : List V, SqL K H a xs ∧ xs.length ≤ i⟩
theorem turn_enumS {P : Program} {w : World} {K : PySem.W.Frag} {elts : List Expr} {kk : Nat} {tpos : Pos} (a e it : Addr) (c : Int) :
    Turn P w K (.Tuple elts kk tpos) (IteS K a c) [e, it] e (fun i h => (∃ old, IsEnum h e it (c + ((i : Nat) : Int)) old) ∧ h.IsListIter it a i ∧ e ≠ it) where
  mem := by simp
  obj := fun i h st b hb => by
    obtain ⟨⟨old, he⟩, ⟨o, ho, hc, hd⟩, _⟩ := st
    have e' : b = e ∨ b = it := by simpa using hb
    rcases e' with z | z
    · rw [z]; exact ⟨_, he, fun v q => nomatch q⟩
    · rw [z]; exact ⟨o, ho, fun v q => by rw [hd] at q; cases q⟩
  keep := fun i h h' st k => let ⟨⟨old, he⟩, hi, hne⟩ := st; ⟨⟨old, k e (by simp) _ he⟩, hi.at fun o q => k it (by simp) o q, hne⟩
  item := by
    intro X hP hw hK hc i pins s σ H E I hf st hg
    subst hP hw hK
    obtain ⟨⟨old, he⟩, hit, hne⟩ := st
    obtain ⟨xs, x, hq, hx⟩ := hg
    obtain ⟨its, rv, p, hz⟩ := I.list hq
    obtain ⟨u, hu, ru⟩ := rv.get hx
    have p' : s.heap.IsList a its.toArray := p.isList
    have nai : a ≠ it := fun z => by
      subst z
      obtain ⟨o1, e1, c1, _⟩ := p'
      obtain ⟨o2, e2, c2, _⟩ := hit
      rw [e1] at e2; cases e2
      rw [c1] at c2; exact absurd c2 (by simp)
    have nae : a ≠ e := fun z => by
      subst z
      obtain ⟨o1, e1, c1, _⟩ := p'
      have he' := he
      unfold IsEnum at he'
      rw [e1] at he'
      cases he'
      exact absurd c1 (by simp)
    have hel : e < s.heap.objs.size := Heap.lt_size he
    have hil : it < s.heap.objs.size := by obtain ⟨_, q, _⟩ := hit; exact Heap.lt_size q
    have hi : i < its.toArray.size := by
      rw [List.size_toArray]
      exact (List.getElem?_eq_some_iff.mp hu).1
    refine wpAny_pyNext_enum_itemC (Draws.list (A := X.A.in1) (show X.A.in1.handled = none from I.ok.hd hc) it a nai its.toArray) he ⟨hit, p'⟩ hi hne (by simp; exact ⟨hne, nae.symm⟩) fun x' h' tk hP ho hst' hT hsz hk => ?_
    obtain ⟨hit', _⟩ := hst'
    have ex : x' = u := by
      have hP' : its.toArray[i]? = some x' := hP
      rw [List.getElem?_toArray, hu] at hP'
      exact (Option.some.inj hP').symm
    subst ex
    refine ⟨_, rfl, wpAny_letOwnedTupleGo_enum (s := { s with heap := h', toks := tk + 1 }) ho fun h'' he' sb => ?_⟩
    have hT2 : h''.get? s.heap.objs.size = some { cls := .type "tuple", data := .seq #[.int (c + i) tk, x'] } := (sb.2 _ (Nat.ne_of_gt hel)).trans hT
    have new : ObjOk X.prog X.w (upd H s.heap.objs.size (.tup [.int (c + (i : Nat)), x])) h'' s.heap.objs.size (.tup [.int (c + (i : Nat)), x]) :=
      ⟨by show 2 ≤ sizeLine; decide, [.int (c + i) tk, x'], .cons ⟨_, rfl⟩ (.cons ru .nil), ⟨_, hT2, rfl, _, rfl⟩⟩
    have I1 : Inv X pins σ (upd H s.heap.objs.size (.tup [.int (c + (i : Nat)), x])) { s with heap := h'', toks := tk + 1 } :=
      I.turnedNew (ch := [e, it]) (fun b ob hb q => (sb.2 b (fun z => hb (by simp [z]))).trans (hk b ob (fun z => hb (by simp [z])) (fun z => hb (by simp [z])) q)) hf (Nat.le_refl _) new
    refine ⟨.ref s.heap.objs.size, _, I1, rfl, ⟨_, x, rfl, I.hok.fresh (Nat.le_refl _), rfl, fun ys hy => by rw [I.list_inj hy hq]; exact hx⟩, ⟨⟨x', ?_⟩, hit'.at fun o q => (sb.2 it (Ne.symm hne)).trans q, hne⟩, fun b hb => ?_⟩
    · have e1 : c + ((i + 1 : Nat) : Int) = c + (i : Int) + 1 := by omega
      rw [e1]; exact he'
    · have hb' : b < s.heap.objs.size := by
        have e' : b = e ∨ b = it := by simpa using hb
        rcases e' with z | z
        · rw [z]; exact hel
        · rw [z]; exact hil
      rw [upd_ne (Nat.ne_of_lt hb')]
      exact (hf b hb).1
  done := by
    intro X hP hw hK hc i pins s σ H E I hf st hg
    subst hP hw hK
    obtain ⟨⟨old, he⟩, hit, hne⟩ := st
    obtain ⟨xs, hq, hx⟩ := hg
    obtain ⟨its, rv, p, hz⟩ := I.list hq
    obtain ⟨f0, f1, f2, f3, f4, f5⟩ := hf it (by simp)
    have hl := rv.length
    have p' : s.heap.IsList a its.toArray := p.isList
    refine (?_ : wpAny (model X.prog X.w) X.A (pyNext (.ref e)) _ _ s)
    have hT : s.TypeIs (.ref e) "enumerate" := ⟨_, he, rfl⟩
    unfold pyNext
    refine wpAny_bind (wpAny_attempt (wpAny_callSpecial?_slot (name := Str.ofString "__next__") hT F.slot_enumerate_next
      (wpAny_call_entry F.slot_enumerate_next hT F.entry_enumerate_next ?_ (F.args_enumerate_next_1 _))))
    show wpAny _ _ (field (.ref e) 2 >>= _) _ _ _
    refine wpAny_bind (wpAny_field he rfl (x := .ref it) rfl ?_)
    refine wpAny_bind (wpAny_nextOf_list_end (I.ok.hd hc) hit p' (by simp; omega) fun h' x he' hx' => ?_)
    obtain ⟨o, ho, hc'⟩ := hx'
    refine wpAny_bind (wpAny_isInstance (T := "StopIteration") (b := true) ⟨o, ho, hc'⟩ isSubtype_stop ?_)
    exact wpAny_pure ⟨rfl, I.turned (t' := s.toks) (fun b o hb q => he' b o hb q) f0 f1 f3 f4 f5⟩
  self := fun A i s Q E st h => let ⟨⟨_, he⟩, _⟩ := st; wpAny_pyIter_enum he h
def iEnumS (K : PySem.W.Frag) (ta : TA) : TI := fun σ H R => ta σ H fun vs H1 => ∃ a xs c, vs = [.ref a, .int c] ∧ SqL K H1 a xs ∧ (-(2 ^ 62) ≤ c ∧ c < 2 ^ 62) ∧ R (IteS K a c) H1
theorem pi_enumS {X : Cx} {K : PySem.W.Frag} {e e2 : Expr} {ta : TA} {p pos tpos : Pos} {elts : List Expr} {kk : Nat} (hK : X.K = K) (hg : Gl X "enumerate") (hm : X.mg "enumerate" = none) (ha : PA X [e, e2] ta) (hs : starEach [e, e2] X.env = (false, eval e X.env) :: starEach [e2] X.env := by rfl) (hs2 : (backTo pos (starEach [e2] X.env)).any (·.1) = false := by rfl) :
    PI X (.Tuple elts kk tpos) (.Call (.Name "enumerate" p) [e, e2] [] pos) (iEnumS K ta) := by
  subst hK
  refine ⟨fun pins s σ H R I h => ?_⟩
  refine Call_ (ld_blt I hg hm boot_enumerate (PyProof.Rows.callWith_type1 (thn (ha.run pos pins s σ H _ I h) fun us s1 ⟨vs, H1, I1, r1, q1⟩ => ?_) hs hs2))
  obtain ⟨a, xs, c, ex, hq, hc, q⟩ := q1
  subst ex
  cases r1 with
  | cons r rr =>
    cases rr with
    | cons r2 rr =>
      cases rr
      cases r
      obtain ⟨tk, rfl⟩ := r2
      obtain ⟨its, rv, p', hz⟩ := I1.list hq
      refine enum_begins (begins_list a its.toArray) (show s1.heap.IsList a its.toArray from p'.isList) (by omega) (by omega) fun h' he hit hsz hk => wpAny_pyIter_enum he ?_
      have I2 : Inv X pins σ H1 { s1 with heap := h' } := I1.kept (t' := s1.toks) hk
      refine ⟨s1.heap.objs.size + 1, [s1.heap.objs.size + 1, s1.heap.objs.size], _, _, H1, rfl, I2, turn_enumS a (s1.heap.objs.size + 1) s1.heap.objs.size c, ⟨⟨.none, by simpa using he⟩, ⟨_, hit, rfl, rfl⟩, Nat.succ_ne_self _⟩, fun b hb => ?_, q⟩
      have e' : b = s1.heap.objs.size + 1 ∨ b = s1.heap.objs.size := by simpa using hb
      have hle : s1.heap.objs.size ≤ b := by
        rcases e' with z | z
        · rw [z]; exact Nat.le_add_right _ _
        · rw [z]; exact Nat.le_refl _
      exact I1.fpOk hle (I1.hok.fresh hle)
theorem walk_enumS {K : PySem.W.Frag} {a : Addr} {xs : List V} {c : Int} : Walk (IteS K a c) xs.length (fun H => SqL K H a xs) (YPair (fun i => some (.int (c + (i : Nat)))) (fun i => xs[i]?)) := by
  refine ⟨fun i _ hi q => ⟨xs, xs[i], q, by simp [hi]⟩, fun _ q => ⟨xs, q, Nat.le_refl _⟩, fun i H v H' _ q y => ?_⟩
  obtain ⟨T, x, h1, h2, h3, h4⟩ := y
  exact ⟨T, .int (c + (i : Nat)), x, h1, h2, h3, rfl, h4 xs q⟩
section
variable {K : PySem.W.Frag} {σ : L2.St} {H : Hp} {a : Addr} {vs : List V} {g : TG} {tb : TS} {D : Ends} {c : Int} {R : It → Hp → Prop} {ta : TA} {xs : List V}
theorem for_eS (e : H a = some (.lst vs)) (Pv : Nat → L2.St → Hp → Prop) (h0 : Pv 0 σ H) (hG : ∀ i σ' H', Pv i σ' H' → ∀ o, H a = some o → H' a = some o)
    (hs : ∀ i x σ' H' T H2, vs[i]? = some x → Pv i σ' H' → H' T = none → H2 T = some (.tup [.int (c + (i : Nat)), x]) → Kp [] H' H2 → g (.ref T) σ' H2 fun σ2 H3 => tb { D with nx := Pv (i + 1), ct := Pv (i + 1), bk := D.nx } σ2 H3) (hd : ∀ σ' H', Pv vs.length σ' H' → D.nx σ' H') :
    ∃ W : Nat → Nat → L2.St → Hp → Prop, (∃ m, W 0 m σ H) ∧ ∀ i m σ H, W i m σ H →
      ((IteS K a c).stop i H ∧ D.nx σ H) ∨ ((IteS K a c).go i H ∧ ∃ N : L2.St → Hp → Prop, (∀ σ' H', N σ' H' → ∃ m', m' < m ∧ W (i + 1) m' σ' H') ∧ ∀ x H', (IteS K a c).yld i H x H' → g x σ H' fun σ2 H2 => tb { D with nx := N, ct := N, bk := D.nx } σ2 H2) :=
  for_it (walk_enumS (xs := vs)) Pv h0 (fun i σ' H' _ p => SqL.of (hG i σ' H' p _ e)) (fun i x σ' H1 H2 hi p y => by
    obtain ⟨T, x1, x2, rfl, f, rfl, e1, e2⟩ := y
    cases Option.some.inj e1
    exact hs i x2 σ' H1 T _ e2 p f upd_same (Kp.refl.new f)) hd
theorem s_ienS (h : ta σ H fun vs H1 => ∃ a xs c, vs = [.ref a, .int c] ∧ SqL K H1 a xs ∧ (-(2 ^ 62) ≤ c ∧ c < 2 ^ 62) ∧ R (IteS K a c) H1) : iEnumS K ta σ H R := h
theorem s_eS {S : Addr → Int → Prop} (h : H a = some (.lst xs)) (b : -(2 ^ 62) ≤ c ∧ c < 2 ^ 62) (q : S a c) : ∃ a' xs' c', [V.ref a, V.int c] = [.ref a', .int c'] ∧ SqL K H a' xs' ∧ (-(2 ^ 62) ≤ c' ∧ c' < 2 ^ 62) ∧ S a' c' := ⟨a, xs, c, rfl, SqL.of h, b, q⟩
end
end U

namespace U
open PySem L2 PySem.Spec PyProof.Rows
/-! texts that are joined, and split again -/
def jl (c : Nat) : List (List Nat) → List Nat
  | [] => []
  | [w] => w
  | w :: v :: r => w ++ c :: jl c (v :: r)
theorem app_inj {c : Nat} : ∀ {a b x y : List Nat}, c ∉ a → c ∉ b → a ++ c :: x = b ++ c :: y → a = b ∧ x = y
  | [], [], _, _, _, _, h => ⟨rfl, by simpa using h⟩
  | [], b :: bs, _, _, _, hb, h => by
    simp only [List.nil_append, List.cons_append, List.cons.injEq] at h
    exact (hb (by rw [h.1]; exact List.mem_cons_self)).elim
  | a :: as, [], _, _, ha, _, h => by
    simp only [List.nil_append, List.cons_append, List.cons.injEq] at h
    exact (ha (by rw [← h.1]; exact List.mem_cons_self)).elim
  | a :: as, b :: bs, x, y, ha, hb, h => by
    simp only [List.cons_append, List.cons.injEq] at h
    obtain ⟨h1, h2⟩ := app_inj (fun m => ha (List.mem_cons_of_mem _ m)) (fun m => hb (List.mem_cons_of_mem _ m)) h.2
    exact ⟨by rw [h.1, h1], h2⟩
theorem jl_inj {c : Nat} : ∀ {as bs : List (List Nat)}, as ≠ [] → bs ≠ [] → (∀ a ∈ as, c ∉ a) → (∀ b ∈ bs, c ∉ b) → jl c as = jl c bs → as = bs
  | [], _, h, _, _, _, _ => (h rfl).elim
  | _ :: _, [], _, h, _, _, _ => (h rfl).elim
  | [a], [b], _, _, _, _, h => by rw [show a = b from h]
  | [a], b :: b' :: r, _, _, ha, _, h => by
    have h : a = b ++ c :: jl c (b' :: r) := h
    exact (ha a List.mem_cons_self (by rw [h]; simp)).elim
  | a :: a' :: r, [b], _, _, _, hb, h => by
    have h : a ++ c :: jl c (a' :: r) = b := h
    exact (hb b List.mem_cons_self (by rw [← h]; simp)).elim
  | a :: a' :: r, b :: b' :: s, _, _, ha, hb, h => by
    have h : a ++ c :: jl c (a' :: r) = b ++ c :: jl c (b' :: s) := h
    obtain ⟨h1, h2⟩ := app_inj (ha a List.mem_cons_self) (hb b List.mem_cons_self) h
    rw [h1, jl_inj (by simp) (by simp) (fun x m => ha x (List.mem_cons_of_mem _ m)) (fun x m => hb x (List.mem_cons_of_mem _ m)) h2]
theorem join_jl (c : Nat) : ∀ ws : List Str, (Str.join ⟨#[c]⟩ ws).cps.toList = jl c (ws.map fun w => w.cps.toList)
  | [] => rfl
  | [w] => rfl
  | w :: v :: r => by
    have ih := join_jl c (v :: r)
    have e : Str.join ⟨#[c]⟩ (w :: v :: r) = w ++ ⟨#[c]⟩ ++ Str.join ⟨#[c]⟩ (v :: r) := rfl
    rw [e, Str.cps_append, Str.cps_append, Array.toList_append, Array.toList_append, ih]
    show (w.cps.toList ++ [c]) ++ _ = w.cps.toList ++ c :: _
    rw [List.append_assoc]
    rfl
theorem tj (y : Str) (l : List Str) : Txt.join y l = Str.join y l := StrLaws.glued_eq_join y l
theorem split_join {c : Nat} {ws : List Str} (hne : ws ≠ []) (h : ∀ w ∈ ws, c ∉ w.cps.toList) : Txt.split (Txt.join ⟨#[c]⟩ ws) ⟨#[c]⟩ = ws := by
  rw [tj]
  generalize hx : Str.join ⟨#[c]⟩ ws = x
  have h1 : Str.join ⟨#[c]⟩ (Txt.split x ⟨#[c]⟩) = Str.join ⟨#[c]⟩ ws := by rw [StrLaws.join_split, hx]
  have h2 := congrArg (fun z : Str => z.cps.toList) h1
  simp only [join_jl] at h2
  have h3 := jl_inj (by
    intro z
    have := PyProof.Rows.split_pos x ⟨#[c]⟩
    rw [List.map_eq_nil_iff] at z
    rw [z] at this
    simp at this) (by simpa using hne) (by
    intro a ha
    obtain ⟨p, hp, rfl⟩ := List.mem_map.mp ha
    exact StrLaws.split_free x c p hp) (by
    intro a ha
    obtain ⟨p, hp, rfl⟩ := List.mem_map.mp ha
    exact h p hp) h2
  exact (List.map_inj_right (fun a b (e : a.cps.toList = b.cps.toList) => Str.ext' (Array.toList_inj.mp e))).mp h3
theorem sp_eq : (" " : Str) = ⟨#[32]⟩ := by decide +kernel
theorem nl_eq : ("\n" : Str) = ⟨#[10]⟩ := by decide +kernel
section
variable {K : PySem.W.Frag} {σ : L2.St} {H : Hp} {Q : VK} {z sep acc y : Str} {ws : List Str} {p : Addr} {xs ys : List V} {n : Int} {v : V} {te : TE} {ts : List TE} {q : Str → Hp → Prop} {X : Cx}
theorem s_spl (h0 : (sep.length == 0) = false) (hz : z.length + 2 ≤ sizeLine) (e : Txt.split z sep = ws) (q : ∀ p H', H p = none → H' p = some (.lst (ws.map V.str)) → Kp [] H H' → Q (.ref p) H') :
    ∃ b, [V.str sep] = [V.str b] ∧ (b.length == 0) = false ∧ z.length + 2 ≤ sizeLine ∧ rNewStrs (Txt.split z b) H Q := by
  refine ⟨sep, rfl, h0, hz, ?_⟩
  rw [e]
  exact new_abs (R := fun l H' => Q (.ref l) H') q
/-! f-strings -/
def tJo (ts : List TE) : TE := fun σ H Q => tJs ts Str.empty σ H fun out H1 => Q (.str out) H1
theorem pe_jo {v1 v2 : Expr} {rest : List Expr} {pos : Pos} (h : PJ X (v1 :: v2 :: rest) ts) : PE X (.JoinedStr (v1 :: v2 :: rest) pos) (tJo ts) := pe_joined h
theorem s_jo (h : tJs ts Str.empty σ H fun out H1 => Q (.str out) H1) : tJo ts σ H Q := h
theorem s_js0 (h : q acc H) : tJs [] acc σ H q := h
theorem s_jsC (h : (acc ++ z).length ≤ sizeLine) (k : tJs ts (acc ++ z) σ H q) : tJs (tC (.str z) :: ts) acc σ H q := ⟨z, rfl, h, k⟩
def FmK (ts : List TE) (acc : Str) (σ : L2.St) (q : Str → Hp → Prop) : V → Hp → Prop := fun x H1 => (∃ y : Str, x = .str y ∧ y.length ≤ sizeLine ∧ ∃ y', V.str y = .str y' ∧ (acc ++ y').length ≤ sizeLine ∧ tJs ts (acc ++ y') σ H1 q) ∨
  ∃ i : Int, x = .int i ∧ i.natAbs.log2 < 1920 ∧ ∃ y', V.str (toString i) = .str y' ∧ (acc ++ y').length ≤ sizeLine ∧ tJs ts (acc ++ y') σ H1 q
theorem s_jsF (h : te σ H (FmK ts acc σ q)) : tJs (tFmt te :: ts) acc σ H q := h
theorem s_fmS (h : y.length ≤ sizeLine) (h2 : (acc ++ y).length ≤ sizeLine) (k : tJs ts (acc ++ y) σ H q) : FmK ts acc σ q (.str y) H := Or.inl ⟨y, rfl, h, y, rfl, h2, k⟩
theorem s_fmI (h : n.natAbs.log2 < 1920) (h2 : (acc ++ (toString n : Str)).length ≤ sizeLine) (k : tJs ts (acc ++ (toString n : Str)) σ H q) : FmK ts acc σ q (.int n) H := Or.inr ⟨n, rfl, h, _, rfl, h2, k⟩
/-! tuples of the module's top -/
structure KT (K : PySem.W.Frag) (a : Addr) (xs : List V) : Prop where
  ex : ∃ (o : Obj) (its : Array Value) (n : Nat), K.lookup a = some o ∧ (o.cls = .type "tuple" ∧ o.dict = none) ∧ o.data = .seq its n ∧ its.size ≤ sizeLine ∧ Vals xs its.toList
theorem KT.mk' {a : Addr} {o : Obj} (l : K.lookup a = some o) (h : (o.cls = .type "tuple" ∧ o.dict = none) ∧ ∃ (its : Array Value) (n : Nat), o.data = .seq its n ∧ its.size ≤ sizeLine ∧ Vals xs its.toList) : KT K a xs := by
  obtain ⟨h1, its, n, h2, h3, h4⟩ := h
  exact ⟨o, its, n, l, h1, h2, h3, h4⟩
theorem KT.sq (h : KT K p xs) : SqT K H p xs := by
  obtain ⟨o, its, n, l, h1, h2, h3, h4⟩ := h.ex
  exact Or.inr ⟨o, its, n, l, h1.1, h2, h3, h4⟩
theorem s_ixK (h : KT K p xs) (ha : atI xs n = some v) (q : Q v H) : rIx K (.ref p) (.int n) H Q := Or.inr (Or.inl ⟨p, xs, n, v, rfl, rfl, h.sq, ha, q⟩)
theorem s_tyK {R : Prop} (h : KT K p xs) (q : R) : tyV K "tuple" (.ref p) H ∧ R := by
  obtain ⟨o, its, n, l, h1, h2, h3, h4⟩ := h.ex
  exact ⟨Or.inr (Or.inl ⟨rfl, o, l, h1.1, h1.2⟩), q⟩
def rTIx (K : PySem.W.Frag) : V → List V → Hp → VK → Prop := fun x xs H Q => ∃ p, ∃ ys : List Str, ∃ z j, x = .ref p ∧ xs = [.str z] ∧ SqT K H p (ys.map V.str) ∧ ys[j]? = some z ∧ (∀ m, m < j → ys[m]? ≠ some z) ∧ Q (.int (j : Nat)) H
theorem mt_tix (hK : X.K = K) : MtR X "tuple.index" (rTIx K) := hK ▸ mt_tup_index
theorem s_tix {zs : List Str} {j : Nat} (h : KT K p (zs.map V.str)) (e : zs[j]? = some z) (nd : ∀ m, m < j → zs[m]? ≠ some z) (q : Q (.int (j : Nat)) H) : rTIx K (.ref p) [.str z] H Q := ⟨p, zs, z, j, rfl, rfl, h.sq, e, nd, q⟩
theorem s_ext {l b : Addr} (hl : H l = some (.lst xs)) (hb : H b = some (.lst ys)) (hz : xs.length + ys.length ≤ sizeLine) (q : ∀ H', H' l = some (.lst (xs ++ ys)) → Kp [l] H H' → Q .non H') : rExtend (.ref l) [.ref b] H Q :=
  ⟨l, b, xs, ys, rfl, rfl, hl, hb, hz, put_abs hl rfl (R := fun H' => Q .non H') q⟩
def uIntS : List V → Hp → VK → Prop := fun xs H Q => ∃ a n, xs = [.str a] ∧ PySem.intText? a = some n ∧ a.length ≤ 640 ∧ Q (.int n) H
theorem c_intS : CallR X (.type "int") uIntS := call_int_str
theorem s_intS (e : PySem.intText? z = some n) (h : z.length ≤ 640) (q : Q (.int n) H) : uIntS [.str z] H Q := ⟨z, n, rfl, e, h, q⟩
end
end U

namespace U
open PySem L2 PySem.Spec PyProof.Rows
section
variable {K : PySem.W.Frag} {H : Hp} {Q : VK} {p : Addr} {y : V} {d z : PyData} {ds : List PyData} {j : Nat} {X : Cx} {k : Nat} {ng : Bool}
/-- data in a list of data -/
theorem mt_ixD (hK : X.K = K) (hr : Room k X.A) : MtR X "list.index" (rIndexD K) := hK ▸ mt_indexD (by have := hr.un; omega)
theorem s_ixD (hl : Dn K H (.ref p) (.list ds)) (hy : Dn K H y d) (sl : SeqAt.shaped (.list ds) = true) (sd : SeqAt.shaped d = true) (e : ds[j]? = some z) (ez : PyData.eqv z d = true) (no : ∀ (m : Nat) (z' : PyData), m < j → ds[m]? = some z' → PyData.eqv z' d = false) (q : Q (.int (j : Nat)) H) : rIndexD K (.ref p) [y] H Q :=
  ⟨p, y, d, ds, j, z, rfl, rfl, hl.dp (shp sl), hy.dp (shp sd), sl, sd, e, ez, no, q⟩
theorem s_inD (hl : Dn K H (.ref p) (.list ds)) (hy : Dn K H y d) (sl : SeqAt.shaped (.list ds) = true) (sd : SeqAt.shaped d = true) (q : Q (.bl (ds.any fun z => PyData.eqv z d)) H) : uInX K false y (.ref p) H Q :=
  Or.inr (Or.inr ⟨d, ds, hy.dp (shp sd), hl.dp (shp sl), sd, sl, q⟩)
end
/-! texts are put together -/
theorem sa (a b c : Str) : a ++ b ++ c = a ++ (b ++ c) := Str.ext' (by simp [Str.cps_append])
theorem sj1 (a : Str) : Txt.join " " [a] = a := by rw [tj]; rfl
theorem sj2 (a b : Str) : Txt.join " " [a, b] = a ++ " " ++ b := by rw [tj]; rfl
theorem sj3 (a b c : Str) : Txt.join " " [a, b, c] = a ++ " " ++ (b ++ " " ++ c) := by rw [tj]; rfl
theorem sj4 (a b c d : Str) : Txt.join " " [a, b, c, d] = a ++ " " ++ (b ++ " " ++ (c ++ " " ++ d)) := by rw [tj]; rfl
theorem e_app (a : Str) : Str.empty ++ a = a := Str.ext' (by simp [Str.cps_append, Str.empty])
theorem join_len {a : Str} {ws : List Str} {n : Nat} (h : ∀ w ∈ ws, w.length ≤ n) : (Txt.join a ws).length ≤ ws.length * (n + a.length) := by
  rw [tj]
  refine Nat.le_trans (StrLaws.join_length_le a ws) ?_
  have : (ws.map (·.length)).sum ≤ ws.length * n := by
    induction ws with
    | nil => simp
    | cons w ws ih =>
      have h1 := h w List.mem_cons_self
      have h2 := ih fun x hx => h x (List.mem_cons_of_mem _ hx)
      rw [List.map_cons, List.sum_cons, List.length_cons, Nat.succ_mul]
      omega
  rw [Nat.mul_add]
  omega
theorem join_mem {c : Nat} {a : Str} : ∀ {ws : List Str}, c ∈ (Txt.join a ws).cps.toList → c ∈ a.cps.toList ∨ ∃ w ∈ ws, c ∈ w.cps.toList
  | [], h => by rw [tj] at h; simp [Str.join, Str.empty] at h
  | [w], h => by rw [tj] at h; exact Or.inr ⟨w, List.mem_cons_self, h⟩
  | w :: v :: r, h => by
    have e : Txt.join a (w :: v :: r) = w ++ a ++ Txt.join a (v :: r) := by rw [tj, tj]; rfl
    rw [e, Str.cps_append, Str.cps_append, Array.toList_append, Array.toList_append, List.mem_append, List.mem_append] at h
    rcases h with (h | h) | h
    · exact Or.inr ⟨w, List.mem_cons_self, h⟩
    · exact Or.inl h
    · rcases join_mem h with h | ⟨x, hx, h⟩
      · exact Or.inl h
      · exact Or.inr ⟨x, List.mem_cons_of_mem _ hx, h⟩
/-- what is said of a class whose instances isinstance is asked of -/
structure IsC (K : PySem.W.Frag) (C : Addr) : Prop where
  cl : Cls K C
  ha : PySem.W.findIn K (.ref C) "__class__" = some (some (.builtin "object.__class__"))
  hn : PySem.W.specialIn K (.builtin "object.__class__") "__get__" = some (some (.builtin "getset_descriptor.__get__"))
  tk : PySem.W.takesIn K (.builtin "object.__class__") = some true
  hm : PySem.W.mroIn K C (.type "object") = some true
theorem s_isO {K : PySem.W.Frag} {H : Hp} {Q : VK} {p C C2 dx : Addr} {fs : List (Str × V)} {b : Bool} (h : H p = some (.ins C dx fs)) (c : IsC K C) (ki : PySem.W.kitOne K (.ref C) (.ref C2) = some b) (q : Q (.bl b) H) : rIsi K [.ref p, .ref C2] H Q :=
  ⟨.ref p, .ref C2, .ref C, .ref C2, b, rfl, .own C2, .base (.ins h c.cl c.ha c.hn c.tk c.hm), ki, q⟩
section
variable {X : Cx} {K : PySem.W.Frag} {T id : String} {name : Str} {r : V → List V → Hp → VK → Prop} {o e : Expr} {es : List Expr} {to : TE} {t : TA} {apos cpos : Pos}
theorem pe_bmK (hK : X.K = K) (pa : PlainAttrs T) (slot : Slot T name id) (hty : typeOf (.builtin id) = pure (.type "method_descriptor")) (hm : MtR X id r) (ho : PE X o to) (ha : PA X (e :: es) t)
    (hbase : attributeBase o name X.env (eval o X.env) = eval o X.env := by rfl)
    (hfew : ((backTo cpos (starEach (e :: es) X.env)).all (fun x => !x.1) && (backToKw cpos (keywordEach [] X.env)).all (fun x => x.1.isSome)
      && decide ((e :: es).length + ([] : List Keyword).length + (if ([] : List Keyword).isEmpty then 0 else 1) < 30)) = true := by rfl)
    (hline : (apos.endLine == cpos.line) = true := by rfl) (hs : starEach (e :: es) X.env = (false, eval e X.env) :: starEach es X.env := by rfl) (hplain : (backTo cpos (starEach es X.env)).any (·.1) = false := by rfl) :
    PE X (.Call (.Attribute o name apos) (e :: es) [] cpos) (tBM K T r to t) := hK ▸ pe_bm pa slot hty hm ho ha hbase hfew hline hs hplain
theorem pe_bm0K (hK : X.K = K) (pa : PlainAttrs T) (slot : Slot T name id) (hty : typeOf (.builtin id) = pure (.type "method_descriptor")) (hm : MtR X id r) (ho : PE X o to)
    (hbase : attributeBase o name X.env (eval o X.env) = eval o X.env := by rfl) (hline : (apos.endLine == cpos.line) = true := by rfl) : PE X (.Call (.Attribute o name apos) [] [] cpos) (tBM0 K T r to) := hK ▸ pe_bm0 pa slot hty hm ho hbase hline
end
end U

namespace U
open PySem L2 PySem.Spec PyProof.Rows
/-! zip of lists and tuples in any mix (true: a tuple) -/
def SqB (K : PySem.W.Frag) (b : Bool) (H : Hp) (a : Addr) (xs : List V) : Prop := match b with
  | false => SqL K H a xs
  | true => SqT K H a xs
def IterB (b : Bool) (h : Heap) (i a : Addr) (n : Nat) : Prop := match b with
  | false => h.IsListIter i a n
  | true => h.IsTupleIter i a n
def IsB (b : Bool) (h : Heap) (a : Addr) (its : Array Value) : Prop := match b with
  | false => h.IsList a its
  | true => h.IsTuple a its
def oB (b : Bool) (a : Addr) : Obj := match b with
  | false => { cls := .type "list_iterator", data := .fields #[.ref a, .int 0 0] }
  | true => { cls := .type "tuple_iterator", data := .fields #[.ref a, .int 0 0] }
theorem beginsB (b : Bool) (a : Addr) (its : Array Value) : Begins (.ref a) (oB b a) fun h => IsB b h a its := by
  cases b
  · exact begins_list a its
  · exact begins_tuple a its
theorem iterB0 {b : Bool} {h : Heap} {i a : Addr} (e : h.get? i = some (oB b a)) : IterB b h i a 0 := by
  cases b
  · exact ⟨_, e, rfl, rfl⟩
  · exact ⟨_, e, rfl, rfl⟩
theorem drawsB {prog : Program} {w : World} {A : Around} (b : Bool) (hh : A.handled = none) (it l : Addr) (hne : l ≠ it) (its : Array Value) :
    Draws prog w A it [it, l] its.size (fun i v => its[i]? = some v) (fun i h => IterB b h it l i ∧ IsB b h l its) := by
  cases b
  · exact Draws.list hh it l hne its
  · exact Draws.tuple hh it l hne its
theorem IterB.obj {b : Bool} {h : Heap} {i a : Addr} {n : Nat} (x : IterB b h i a n) : ∃ o, h.get? i = some o ∧ o.data = .fields #[.ref a, .int n 0] := by
  cases b
  · obtain ⟨o, e, _, d⟩ := x; exact ⟨o, e, d⟩
  · obtain ⟨o, e, _, d⟩ := x; exact ⟨o, e, d⟩
theorem IterB.at {b : Bool} {h h' : Heap} {i a : Addr} {n : Nat} (x : IterB b h i a n) (k : ∀ o, h.get? i = some o → h'.get? i = some o) : IterB b h' i a n := by
  cases b
  · obtain ⟨o, e, c⟩ := x; exact ⟨o, k o e, c⟩
  · obtain ⟨o, e, c⟩ := x; exact ⟨o, k o e, c⟩
theorem IsB.lt {b : Bool} {h : Heap} {a : Addr} {its : Array Value} (x : IsB b h a its) : a < h.objs.size := by
  cases b
  · obtain ⟨o, e, _⟩ := x; exact Heap.lt_size e
  · obtain ⟨o, e, _⟩ := x; exact Heap.lt_size e
section
variable {X : Cx} {pins : List (Addr × Obj)} {σ : L2.St} {H : Hp} {s : Shared}
theorem seqB {b : Bool} {a : Addr} {xs : List V} (I : Inv X pins σ H s) (h : SqB X.K b H a xs) : ∃ its, Vals xs its ∧ IsB b s.heap a its.toArray := by
  cases b
  · obtain ⟨its, rv, p, _⟩ := I.list h; exact ⟨its, rv, p.isList⟩
  · obtain ⟨its, rv, p, _⟩ := I.tuple h; exact ⟨its, rv, p⟩
theorem seqB_inj {b : Bool} {a : Addr} {xs ys : List V} (I : Inv X pins σ H s) (h : SqB X.K b H a xs) (g : SqB X.K b H a ys) : xs = ys := by
  cases b
  · exact I.list_inj h g
  · exact I.tuple_inj h g
end
def ItzB (K : PySem.W.Frag) (b1 b2 : Bool) (a b : Addr) : It :=
  ⟨fun i H => ∃ (xs ys : List V) (x y : V), SqB K b1 H a xs ∧ SqB K b2 H b ys ∧ xs[i]? = some x ∧ ys[i]? = some y,
    fun i H v H' => ∃ T x y, v = .ref T ∧ H T = none ∧ H' = upd H T (.tup [x, y]) ∧ (∀ xs, SqB K b1 H a xs → xs[i]? = some x) ∧ ∀ ys, SqB K b2 H b ys → ys[i]? = some y,
    fun i H => ∃ xs ys : List V, SqB K b1 H a xs ∧ SqB K b2 H b ys ∧ i ≤ xs.length ∧ i ≤ ys.length ∧ (xs.length ≤ i ∨ ys.length ≤ i)⟩
theorem sep_of {z TI TO i1 i2 a b : Addr} (D : ZipApart z TI TO i1 i2 a b) : ZipSep2 z TI TO i1 i2 [i1, a] [i2, b] where
  TIz := D.TIz
  TOz := D.TOz
  TITO := D.TITO
  TIi1 := D.TIi1
  mem1 := by simp
  zf1 := by simp; exact ⟨D.i1z.symm, D.l1z.symm⟩
  Tf1 := by simp; exact ⟨D.TOi1, D.l1TO.symm⟩
  TIi2 := D.TIi2
  mem2 := by simp
  zf2 := by simp; exact ⟨D.i2z.symm, D.l2z.symm⟩
  Tf2 := by simp; exact ⟨D.TOi2, D.l2TO.symm⟩
  sep1_2 := by simp; exact ⟨D.i12, D.l2i1.symm⟩
  sep2_1 := by simp; exact ⟨D.i12.symm, D.l1i2.symm⟩
theorem turn_zipB {P : Program} {w : World} {K : PySem.W.Frag} {elts : List Expr} {kk : Nat} {tpos : Pos} {b1 b2 : Bool} {a b z TI TO i1 i2 : Addr} (D : ZipApart z TI TO i1 i2 a b) :
    Turn P w K (.Tuple elts kk tpos) (ItzB K b1 b2 a b) [z, TI, TO, i1, i2] z (fun i h => IsZip h z TI TO .none ∧ IsTupOf2 h TI (.ref i1) (.ref i2) ∧ (∃ x y, IsTupOf2 h TO x y) ∧ IterB b1 h i1 a i ∧ IterB b2 h i2 b i) where
  mem := by simp
  obj := fun i h st c hc => by
    obtain ⟨hz, hTI, ⟨x, y, hTO⟩, h1, h2⟩ := st
    obtain ⟨o1, e1, d1⟩ := h1.obj
    obtain ⟨o2, e2, d2⟩ := h2.obj
    have e' : c = z ∨ c = TI ∨ c = TO ∨ c = i1 ∨ c = i2 := by simpa using hc
    rcases e' with q | q | q | q | q
    · rw [q]; exact ⟨_, hz, fun v q => nomatch q⟩
    · rw [q]; exact ⟨_, hTI, fun v q => nomatch q⟩
    · rw [q]; exact ⟨_, hTO, fun v q => nomatch q⟩
    · rw [q]; exact ⟨o1, e1, fun v q => by rw [d1] at q; cases q⟩
    · rw [q]; exact ⟨o2, e2, fun v q => by rw [d2] at q; cases q⟩
  keep := fun i h h' st k => by
    obtain ⟨hz, hTI, ⟨x, y, hTO⟩, h1, h2⟩ := st
    exact ⟨k z (by simp) _ hz, k TI (by simp) _ hTI, ⟨x, y, k TO (by simp) _ hTO⟩, h1.at fun o q => k i1 (by simp) o q, h2.at fun o q => k i2 (by simp) o q⟩
  item := by
    intro X hP hw hK hc i pins s σ H E I hf st hg
    subst hP hw hK
    obtain ⟨hz, hTI, ⟨x0, y0, hTO⟩, h1, h2⟩ := st
    obtain ⟨xs, ys, x, y, hqx, hqy, hx, hy⟩ := hg
    obtain ⟨its, rv, p⟩ := seqB I hqx
    obtain ⟨its2, rv2, p2⟩ := seqB I hqy
    obtain ⟨u, hu, ru⟩ := rv.get hx
    obtain ⟨u2, hu2, ru2⟩ := rv2.get hy
    have hzl : z < s.heap.objs.size := Heap.lt_size hz
    have hh : X.A.in1.handled = none := I.ok.hd hc
    refine wpAny_pyNext_zipD2_item (sep_of D) (drawsB b1 hh i1 a D.l1i1 its.toArray) (drawsB b2 hh i2 b D.l2i2 its2.toArray) hz hTI hTO ⟨h1, p⟩ ⟨h2, p2⟩
      (by rw [List.size_toArray]; exact (List.getElem?_eq_some_iff.mp hu).1) (by rw [List.size_toArray]; exact (List.getElem?_eq_some_iff.mp hu2).1) fun x1 x2 h' tk hP1 hP2 z' TO' s1' s2' hT hsz hk => ?_
    have ex1 : x1 = u := by
      have hP' : its.toArray[i]? = some x1 := hP1
      rw [List.getElem?_toArray, hu] at hP'
      exact (Option.some.inj hP').symm
    have ex2 : x2 = u2 := by
      have hP' : its2.toArray[i]? = some x2 := hP2
      rw [List.getElem?_toArray, hu2] at hP'
      exact (Option.some.inj hP').symm
    subst ex1 ex2
    obtain ⟨h1', _⟩ := s1'
    obtain ⟨h2', _⟩ := s2'
    refine ⟨_, rfl, wpAny_letOwnedTupleGo_zip (s := { s with heap := h', toks := tk }) z' fun h'' z'' sb => ?_⟩
    have hT2 : h''.get? s.heap.objs.size = some { cls := .type "tuple", data := .seq #[x1, x2] } := (sb.2 _ (Nat.ne_of_gt hzl)).trans hT
    have new : ObjOk X.prog X.w (upd H s.heap.objs.size (.tup [x, y])) h'' s.heap.objs.size (.tup [x, y]) :=
      ⟨by show 2 ≤ sizeLine; decide, [x1, x2], .cons ru (.cons ru2 .nil), ⟨_, hT2, rfl, _, rfl⟩⟩
    have I1 : Inv X pins σ (upd H s.heap.objs.size (.tup [x, y])) { s with heap := h'', toks := tk } :=
      I.turnedNew (t' := tk) (ch := [z, TI, TO, i1, i2]) (fun c o hb q => (sb.2 c (fun q' => hb (by simp [q']))).trans (hk c o (fun q' => hb (by simp [q'])) (fun q' => hb (by simp [q'])) (fun q' => hb (by simp [q'])) (fun q' => hb (by simp [q'])) q)) hf (Nat.le_refl _) new
    refine ⟨.ref s.heap.objs.size, _, I1, rfl, ⟨_, x, y, rfl, I.hok.fresh (Nat.le_refl _), rfl, fun l hl => by rw [seqB_inj I hl hqx]; exact hx, fun l hl => by rw [seqB_inj I hl hqy]; exact hy⟩, ⟨z'', ?_, ⟨x1, x2, ?_⟩, ?_, ?_⟩, fun c hcm => ?_⟩
    · exact (sb.2 _ D.TIz).trans (hk _ _ D.TIz D.TITO D.TIi1 D.TIi2 hTI)
    · exact (sb.2 _ D.TOz).trans TO'
    · exact h1'.at fun o q => (sb.2 _ D.i1z).trans q
    · exact h2'.at fun o q => (sb.2 _ D.i2z).trans q
    · have hlt : c < s.heap.objs.size := by
        obtain ⟨o1, e1, _⟩ := h1.obj
        obtain ⟨o2, e2, _⟩ := h2.obj
        have e' : c = z ∨ c = TI ∨ c = TO ∨ c = i1 ∨ c = i2 := by simpa using hcm
        rcases e' with q | q | q | q | q
        · rw [q]; exact hzl
        · rw [q]; exact Heap.lt_size hTI
        · rw [q]; exact Heap.lt_size hTO
        · rw [q]; exact Heap.lt_size e1
        · rw [q]; exact Heap.lt_size e2
      rw [upd_ne (Nat.ne_of_lt hlt)]
      exact (hf c hcm).1
  done := by
    intro X hP hw hK hc i pins s σ H E I hf st hg
    subst hP hw hK
    obtain ⟨hz, hTI, ⟨x0, y0, hTO⟩, h1, h2⟩ := st
    obtain ⟨xs, ys, hqx, hqy, hle1, hle2, hend⟩ := hg
    obtain ⟨its, rv, p⟩ := seqB I hqx
    obtain ⟨its2, rv2, p2⟩ := seqB I hqy
    have l1 := rv.length
    have l2 := rv2.length
    have hh : X.A.in1.handled = none := I.ok.hd hc
    exact wpAny_pyNext_zipD2_end (sep_of D) (drawsB b1 hh i1 a D.l1i1 its.toArray) (drawsB b2 hh i2 b D.l2i2 its2.toArray) hz hTI hTO ⟨h1, p⟩ ⟨h2, p2⟩ (by simp; omega) (by simp; omega) (by simp; omega) fun h' tk hk =>
      ⟨rfl, I.turnedL (t' := tk) (ch := [z, TI, TO, i1, i2]) (fun c o hb q => hk c o (fun q' => hb (by simp [q'])) (fun q' => hb (by simp [q'])) (fun q' => hb (by simp [q'])) (fun q' => hb (by simp [q'])) q) hf⟩
  self := fun A i s Q E st h => wpAny_pyIter_zip st.1 h
def iZipB (K : PySem.W.Frag) (ta : TA) : TI := fun σ H R => ta σ H fun vs H1 => ∃ a b b1 b2 xs ys, vs = [.ref a, .ref b] ∧ SqB K b1 H1 a xs ∧ SqB K b2 H1 b ys ∧ R (ItzB K b1 b2 a b) H1
theorem pi_zipB {X : Cx} {K : PySem.W.Frag} {e e2 : Expr} {ta : TA} {p pos tpos : Pos} {elts : List Expr} {kk : Nat} (hK : X.K = K) (hg : Gl X "zip") (hm : X.mg "zip" = none) (ha : PA X [e, e2] ta)
    (hs : starEach [e, e2] X.env = (false, eval e X.env) :: starEach [e2] X.env := by rfl) (hpl : (backTo pos (starEach [e2] X.env)).any (·.1) = false := by rfl) :
    PI X (.Tuple elts kk tpos) (.Call (.Name "zip" p) [e, e2] [] pos) (iZipB K ta) := by
  subst hK
  refine ⟨fun pins s σ H R I h => ?_⟩
  refine Call_ (ld_blt I hg hm PyProof.Rows.boot_zip (PyProof.Rows.callWith_type1 (thn (ha.run pos pins s σ H _ I h) fun us s1 ⟨vs, H1, I1, r1, q1⟩ => ?_) hs hpl))
  obtain ⟨a, b, b1, b2, xs, ys, ex, hqx, hqy, q⟩ := q1
  subst ex
  cases r1 with
  | cons r rr =>
    cases rr with
    | cons r' rr =>
      cases rr
      cases r
      cases r'
      have fresh5 : ∀ c, c ∈ [s1.heap.objs.size + 4, s1.heap.objs.size + 2, s1.heap.objs.size + 3, s1.heap.objs.size, s1.heap.objs.size + 1] → FpOk X pins H1 c := fun c hcm => by
        have e' : c = s1.heap.objs.size + 4 ∨ c = s1.heap.objs.size + 2 ∨ c = s1.heap.objs.size + 3 ∨ c = s1.heap.objs.size ∨ c = s1.heap.objs.size + 1 := by simpa using hcm
        have hle : s1.heap.objs.size ≤ c := by
          rcases e' with z | z | z | z | z
          · rw [z]; exact Nat.le_add_right _ _
          · rw [z]; exact Nat.le_add_right _ _
          · rw [z]; exact Nat.le_add_right _ _
          · rw [z]; exact Nat.le_refl _
          · rw [z]; exact Nat.le_add_right _ _
        exact I1.fpOk hle (I1.hok.fresh hle)
      obtain ⟨its, rv, p1⟩ := seqB I1 hqx
      obtain ⟨its2, rv2, p2⟩ := seqB I1 hqy
      refine zip_begins2 (beginsB b1 a its.toArray) (beginsB b2 b its2.toArray) p1 p2 fun h' hz hTI hTO h1 h2 hsz hk => wpAny_pyIter_zip hz ?_
      have I2 : Inv X pins σ H1 { s1 with heap := h' } := I1.kept (t' := s1.toks) hk
      exact ⟨s1.heap.objs.size + 4, [s1.heap.objs.size + 4, s1.heap.objs.size + 2, s1.heap.objs.size + 3, s1.heap.objs.size, s1.heap.objs.size + 1], _, _, H1, rfl, I2, turn_zipB (PySem.W.ktu_apart s1.heap.objs.size a b p1.lt p2.lt), ⟨hz, hTI, ⟨_, _, hTO⟩, iterB0 h1, iterB0 h2⟩, fresh5, q⟩
theorem walk_zipB {K : PySem.W.Frag} {b1 b2 : Bool} {a b : Addr} {xs ys : List V} {n : Nat} (hn : n = min xs.length ys.length) : Walk (ItzB K b1 b2 a b) n (fun H => SqB K b1 H a xs ∧ SqB K b2 H b ys) (YPair (fun i => xs[i]?) (fun i => ys[i]?)) := by
  subst hn
  refine ⟨fun i _ hi q => ?_, fun _ q => ⟨xs, ys, q.1, q.2, by omega, by omega, by omega⟩, fun i H v H' _ q y => ?_⟩
  · have h1 : i < xs.length := by omega
    have h2 : i < ys.length := by omega
    exact ⟨xs, ys, xs[i], ys[i], q.1, q.2, by simp [h1], by simp [h2]⟩
  · obtain ⟨T, x, z, h1, h2, h3, h4, h5⟩ := y
    exact ⟨T, x, z, h1, h2, h3, h4 xs q.1, h5 ys q.2⟩
end U

namespace U
open PySem L2 PySem.Spec PyProof.Rows
section
variable {K : PySem.W.Frag} {σ : L2.St} {H : Hp} {a b A : Addr} {b1 b2 : Bool} {vs xs ys : List V} {g : TG} {tb : TS} {D : Ends} {R : It → Hp → Prop} {ta : TA} {tl : TE}
variable {tt : TT} {te : TE} {ns : List Nat} {Qd : Hp → Prop} {n : Nat}
/-! zip -/
theorem for_zB (hn : n = min xs.length ys.length) (Pv : Nat → L2.St → Hp → Prop) (h0 : Pv 0 σ H) (hG : ∀ i σ' H', Pv i σ' H' → SqB K b1 H' a xs ∧ SqB K b2 H' b ys)
    (hs : ∀ i x y σ' H' T H2, xs[i]? = some x → ys[i]? = some y → Pv i σ' H' → H' T = none → H2 T = some (.tup [x, y]) → Kp [] H' H2 → g (.ref T) σ' H2 fun σ2 H3 => tb { D with nx := Pv (i + 1), ct := Pv (i + 1), bk := D.nx } σ2 H3) (hd : ∀ σ' H', Pv n σ' H' → D.nx σ' H') :
    ∃ W : Nat → Nat → L2.St → Hp → Prop, (∃ m, W 0 m σ H) ∧ ∀ i m σ H, W i m σ H →
      ((ItzB K b1 b2 a b).stop i H ∧ D.nx σ H) ∨ ((ItzB K b1 b2 a b).go i H ∧ ∃ N : L2.St → Hp → Prop, (∀ σ' H', N σ' H' → ∃ m', m' < m ∧ W (i + 1) m' σ' H') ∧ ∀ x H', (ItzB K b1 b2 a b).yld i H x H' → g x σ H' fun σ2 H2 => tb { D with nx := N, ct := N, bk := D.nx } σ2 H2) :=
  for_it (walk_zipB hn) Pv h0 (fun i σ' H' _ p => hG i σ' H' p) (fun i x σ' H1 H2 hi p y => by
    obtain ⟨T, x1, x2, rfl, f, rfl, e1, e2⟩ := y
    exact hs i x1 x2 σ' H1 T _ e1 e2 p f upd_same (Kp.refl.new f)) hd
theorem lc_zB (hn : n = min xs.length ys.length) (hA : H A = none) (Pv : Nat → List V → Hp → Prop) (h0 : ∀ H', H' A = some (.lst []) → Kp [] H H' → Pv 0 [] H') (hG : ∀ i acc H', H' A = some (.lst acc) → Pv i acc H' → SqB K b1 H' a xs ∧ SqB K b2 H' b ys)
    (hs : ∀ i x y acc H' T H2, xs[i]? = some x → ys[i]? = some y → H' A = some (.lst acc) → Pv i acc H' → H' T = none → H2 T = some (.tup [x, y]) → Kp [] H' H2 → g (.ref T) (wipe σ ns) H2 fun σ2 H2 => wipe σ2 ns = wipe σ ns ∧ tt σ2 H2 fun b H3 =>
      if b = true then te σ2 H3 fun y H4 => ∃ acc, H4 A = some (.lst acc) ∧ acc.length < sizeLine ∧ PvD A Pv (i + 1) (upd H4 A (.lst (acc ++ [y]))) else PvD A Pv (i + 1) H3) (hd : ∀ acc H', H' A = some (.lst acc) → Pv n acc H' → Qd H') :
    ∃ W : Nat → Nat → Hp → Prop, (∃ m, W 0 m (upd H A (.lst []))) ∧ ∀ i m H, W i m H →
      ((ItzB K b1 b2 a b).stop i H ∧ Qd H) ∨ ((ItzB K b1 b2 a b).go i H ∧ ∃ Nx : Hp → Prop, (∀ H', Nx H' → ∃ m', m' < m ∧ W (i + 1) m' H') ∧ ∀ x H', (ItzB K b1 b2 a b).yld i H x H' → g x (wipe σ ns) H' fun σ2 H2 => wipe σ2 ns = wipe σ ns ∧ tt σ2 H2 fun b H3 =>
        if b = true then te σ2 H3 fun y H4 => ∃ acc, H4 A = some (.lst acc) ∧ acc.length < sizeLine ∧ Nx (upd H4 A (.lst (acc ++ [y]))) else Nx H3) :=
  lc_it (walk_zipB hn) (PvD A Pv) (PvD.begin hA h0) (fun i H' _ p => by
    obtain ⟨acc, ea, p⟩ := p
    exact hG i acc H' ea p) (fun i x H1 H2 hi p y => by
    obtain ⟨T, x1, x2, rfl, f, rfl, e1, e2⟩ := y
    obtain ⟨acc, ea, p⟩ := p
    exact hs i x1 x2 acc H1 T _ e1 e2 ea p f upd_same (Kp.refl.new f)) (fun H' p => by
    obtain ⟨acc, ea, p⟩ := p
    exact hd acc H' ea p)
theorem s_izB (h : ta σ H fun vs H1 => ∃ a b b1 b2 xs ys, vs = [.ref a, .ref b] ∧ SqB K b1 H1 a xs ∧ SqB K b2 H1 b ys ∧ R (ItzB K b1 b2 a b) H1) : iZipB K ta σ H R := h
theorem s_zB {S : Addr → Addr → Bool → Bool → Prop} (b1 b2 : Bool) (xs ys : List V) (h1 : SqB K b1 H a xs) (h2 : SqB K b2 H b ys) (q : S a b b1 b2) : ∃ a' b' b1 b2 xs ys, [V.ref a, V.ref b] = [.ref a', .ref b'] ∧ SqB K b1 H a' xs ∧ SqB K b2 H b' ys ∧ S a' b' b1 b2 := ⟨a, b, b1, b2, xs, ys, rfl, h1, h2, q⟩
theorem sqb_L (h : H a = some (.lst xs)) : SqB K false H a xs := SqL.of h
theorem sqb_T (h : H a = some (.tup xs)) : SqB K true H a xs := SqT.of h
theorem sqb_K (h : KT K a xs) : SqB K true H a xs := h.sq
/-! walks over tuples of the module -/
theorem s_itK {S : Addr → Prop} (h : KT K a xs) (q : S a) : ∃ a', V.ref a = .ref a' ∧ (∃ xs, SqT K H a' xs) ∧ S a' := ⟨a, rfl, ⟨xs, h.sq⟩, q⟩
theorem for_K (e : KT K a vs) (Pv : Nat → L2.St → Hp → Prop) (h0 : Pv 0 σ H)
    (hs : ∀ i x σ' H', vs[i]? = some x → Pv i σ' H' → g x σ' H' fun σ2 H2 => tb { D with nx := Pv (i + 1), ct := Pv (i + 1), bk := D.nx } σ2 H2) (hd : ∀ σ' H', Pv vs.length σ' H' → D.nx σ' H') :
    ∃ W : Nat → Nat → L2.St → Hp → Prop, (∃ m, W 0 m σ H) ∧ ∀ i m σ H, W i m σ H →
      ((Itt K a).stop i H ∧ D.nx σ H) ∨ ((Itt K a).go i H ∧ ∃ N : L2.St → Hp → Prop, (∀ σ' H', N σ' H' → ∃ m', m' < m ∧ W (i + 1) m' σ' H') ∧ ∀ x H', (Itt K a).yld i H x H' → g x σ H' fun σ2 H2 => tb { D with nx := N, ct := N, bk := D.nx } σ2 H2) :=
  for_it (walk_tup (xs := vs)) Pv h0 (fun i σ' H' _ p => e.sq) (fun i x σ' H1 H2 hi p y => by
    obtain ⟨rfl, ex⟩ := y
    exact hs i x σ' H2 ex p) hd
theorem lc_K (e : KT K a vs) (hA : H A = none) (Pv : Nat → List V → Hp → Prop) (h0 : ∀ H', H' A = some (.lst []) → Kp [] H H' → Pv 0 [] H')
    (hs : ∀ i x acc H', vs[i]? = some x → H' A = some (.lst acc) → Pv i acc H' → g x (wipe σ ns) H' fun σ2 H2 => wipe σ2 ns = wipe σ ns ∧ tt σ2 H2 fun b H3 =>
      if b = true then te σ2 H3 fun y H4 => ∃ acc, H4 A = some (.lst acc) ∧ acc.length < sizeLine ∧ PvD A Pv (i + 1) (upd H4 A (.lst (acc ++ [y]))) else PvD A Pv (i + 1) H3) (hd : ∀ acc H', H' A = some (.lst acc) → Pv vs.length acc H' → Qd H') :
    ∃ W : Nat → Nat → Hp → Prop, (∃ m, W 0 m (upd H A (.lst []))) ∧ ∀ i m H, W i m H →
      ((Itt K a).stop i H ∧ Qd H) ∨ ((Itt K a).go i H ∧ ∃ Nx : Hp → Prop, (∀ H', Nx H' → ∃ m', m' < m ∧ W (i + 1) m' H') ∧ ∀ x H', (Itt K a).yld i H x H' → g x (wipe σ ns) H' fun σ2 H2 => wipe σ2 ns = wipe σ ns ∧ tt σ2 H2 fun b H3 =>
        if b = true then te σ2 H3 fun y H4 => ∃ acc, H4 A = some (.lst acc) ∧ acc.length < sizeLine ∧ Nx (upd H4 A (.lst (acc ++ [y]))) else Nx H3) :=
  lc_it (walk_tup (xs := vs)) (PvD A Pv) (PvD.begin hA h0) (fun i H' _ p => e.sq) (fun i x H1 H2 hi p y => by
    obtain ⟨rfl, ex⟩ := y
    obtain ⟨acc, ea, p⟩ := p
    exact hs i x acc H2 ex ea p) (fun H' p => by
    obtain ⟨acc, ea, p⟩ := p
    exact hd acc H' ea p)
end
/-! written dicts of the module: texts to tuples of texts -/
structure KF (K : PySem.W.Frag) (w : World) (a : Addr) (f : Str → Option (List Str)) : Prop where
  ex : ∃ es n, KDict K w a es n
  hit : ∀ z xs, f z = some xs → ∃ t, PySem.W.nsIn K a z = some (some (.ref t)) ∧ KT K t (xs.map V.str)
  miss : ∀ z, f z = none → PySem.W.nsIn K a z = some none
def lk (l : List (Str × List Str)) (z : Str) : Option (List Str) := (l.find? fun p => p.1 == z).map Prod.snd
def Ents (K : PySem.W.Frag) (P : Params) : List DictEntry → List (Str × List Str) → Prop
  | [], [] => True
  | e :: r, kx :: s => ((∃ tk, e.key = .str kx.1 tk) ∧ e.hash = PyData.keyHash P kx.1 ∧ ∃ t, e.val = .ref t ∧ KT K t (kx.2.map V.str)) ∧ Ents K P r s
  | _, _ => False
theorem Ents.nil {K : PySem.W.Frag} {P : Params} : Ents K P [] [] := trivial
theorem Ents.cons {K : PySem.W.Frag} {P : Params} {e : DictEntry} {r : List DictEntry} {k : Str} {xs : List Str} {s : List (Str × List Str)} {t : Addr} (h1 : ∃ tk, e.key = .str k tk) (h2 : e.hash = PyData.keyHash P k) (h3 : e.val = .ref t) (h4 : KT K t (xs.map V.str)) (h5 : Ents K P r s) : Ents K P (e :: r) ((k, xs) :: s) :=
  ⟨⟨h1, h2, t, h3, h4⟩, h5⟩
theorem Ents.lit {K : PySem.W.Frag} {P : Params} : ∀ {es : List DictEntry} {l : List (Str × List Str)}, Ents K P es l → PySem.W.KeysLit P es
  | [], _, _ => trivial
  | _ :: _, [], h => h.elim
  | e :: r, kx :: s, ⟨⟨⟨tk, h1⟩, h2, _⟩, h3⟩ => ⟨⟨kx.1, tk, h1, h2⟩, Ents.lit h3⟩
theorem Ents.noref {K : PySem.W.Frag} {P : Params} : ∀ {es : List DictEntry} {l : List (Str × List Str)}, Ents K P es l → es.any (·.refKey) = false
  | [], _, _ => rfl
  | _ :: _, [], h => h.elim
  | e :: r, kx :: s, ⟨⟨⟨tk, h1⟩, h2, _⟩, h3⟩ => by
    rw [List.any_cons, Ents.noref h3, Bool.or_false]
    unfold DictEntry.refKey
    rw [h1]
theorem Ents.find {K : PySem.W.Frag} {P : Params} (z : Str) : ∀ {es : List DictEntry} {l : List (Str × List Str)}, Ents K P es l → match lk l z with
    | none => es.find? (·.key.isStr z) = none
    | some xs => ∃ e t, es.find? (·.key.isStr z) = some e ∧ e.val = .ref t ∧ KT K t (xs.map V.str)
  | [], [], _ => rfl
  | [], _ :: _, h => h.elim
  | _ :: _, [], h => h.elim
  | e :: r, kx :: s, ⟨⟨⟨tk, h1⟩, h2, t, h4, h5⟩, h3⟩ => by
    have hs : e.key.isStr z = (kx.1 == z) := by rw [h1]; rfl
    have ih := Ents.find z h3
    unfold lk at ih ⊢
    cases hb : (kx.1 == z) with
    | true =>
      rw [List.find?_cons_of_pos (by exact hb)]
      exact ⟨e, t, by rw [List.find?_cons_of_pos (by rw [hs]; exact hb)], h4, h5⟩
    | false =>
      rw [List.find?_cons_of_neg (by rw [hb]; simp), List.find?_cons_of_neg (by rw [hs, hb]; simp)]
      exact ih
theorem KF.mk' {K : PySem.W.Frag} {w : World} {a : Addr} {l : List (Str × List Str)} {es : Array DictEntry} {n : Nat} (hl : K.lookup a = some ⟨.type "dict", none, .dict es n, #[]⟩) (low : (a == sysModules) = false) (h : Ents K w.params es.toList l) : KF K w a (lk l) := by
  refine ⟨⟨es, n, hl, h.lit, low⟩, fun z xs e => ?_, fun z e => ?_⟩
  · have f := h.find z
    rw [e] at f
    obtain ⟨d, t, f1, f2, f3⟩ := f
    refine ⟨t, ?_, f3⟩
    unfold PySem.W.nsIn
    rw [hl]
    dsimp only
    rw [f1]
    dsimp only
    rw [f2]
  · have f := h.find z
    rw [e] at f
    unfold PySem.W.nsIn
    rw [hl]
    dsimp only
    rw [f]
    dsimp only
    rw [h.noref]
    rfl
def rInF (K : PySem.W.Frag) (w : World) (ng : Bool) : R2 := fun x y H Q => ∃ (d : Addr) (es : Array DictEntry) (n : Nat) (z : Str) (r : Option Value), x = .str z ∧ y = .ref d ∧ KDict K w d es n ∧ PySem.W.nsIn K d z = some r ∧ Q (.bl (xor ng r.isSome)) H
section
variable {X : Cx} {K : PySem.W.Frag} {w : World} {H : Hp} {Q : VK} {d : Addr} {f : Str → Option (List Str)} {z : Str} {xs : List Str}
theorem o_inF (hK : X.K = K) (hw : X.w = w) : OpR X (compareOp .In) (rInF K w false) := by
  subst hK hw
  intro pins s σ H x y v u Q I rx ry h
  obtain ⟨d, es, n, z, r, rfl, rfl, D, e, q⟩ := h
  exact op_in_kd D pins s σ H _ _ v u Q I rx ry ⟨z, r, rfl, rfl, e, by simpa using q⟩
theorem o_notinF (hK : X.K = K) (hw : X.w = w) : OpR X (compareOp .NotIn) (rInF K w true) := by
  subst hK hw
  intro pins s σ H x y v u Q I rx ry h
  obtain ⟨d, es, n, z, r, rfl, rfl, D, e, q⟩ := h
  exact op_notIn_kd D pins s σ H _ _ v u Q I rx ry ⟨z, r, rfl, rfl, e, by simpa using q⟩
theorem s_inF {ng : Bool} (h : KF K w d f) (q : Q (.bl (xor ng (f z).isSome)) H) : rInF K w ng (.str z) (.ref d) H Q := by
  obtain ⟨es, n, D⟩ := h.ex
  cases e : f z with
  | none => exact ⟨d, es, n, z, none, rfl, rfl, D, h.miss z e, by rw [e] at q; exact q⟩
  | some xs =>
    obtain ⟨t, e1, _⟩ := h.hit z xs e
    exact ⟨d, es, n, z, _, rfl, rfl, D, e1, by rw [e] at q; exact q⟩
theorem ix_F (hK : X.K = K) (hw : X.w = w) : IxR X (rIxD K w) := by
  subst hK hw
  exact ix_kdict
theorem s_ixF (h : KF K w d f) (e : f z = some xs) (q : ∀ t, KT K t (xs.map V.str) → Q (.ref t) H) : rIxD K w (.ref d) (.str z) H Q := by
  obtain ⟨es, n, D⟩ := h.ex
  obtain ⟨t, e1, e2⟩ := h.hit z xs e
  exact ⟨d, z, .ref t, rfl, rfl, ⟨es, n, _, D.at_, D.lit, e1, rfl⟩, q t e2⟩
end
/-! list.pop(0), str(x), tuple + tuple, isdigit, len of a tuple -/
section
variable {X : Cx} {K : PySem.W.Frag} {H : Hp} {Q : VK} {p a b : Addr} {xs ys : List V} {x : V} {z : Str} {n : Int} {o : Expr} {to : TE}
theorem s_pop0 (h : H p = some (.lst (x :: xs))) (q : ∀ H', H' p = some (.lst xs) → Kp [p] H H' → Q x H') : rPopAt (.ref p) [.int 0] H Q :=
  ⟨p, x :: xs, 0, 0, x, rfl, rfl, h, by decide, by decide, (by simp [seqIndex?]), rfl, put_abs h rfl (R := fun H' => Q x H') q⟩
def uStrA : List V → Hp → VK → Prop := fun xs H Q => uStr xs H Q ∨ ∃ a, xs = [.str a] ∧ Q (.str a) H
theorem c_strA : CallR X (.type "str") uStrA := by
  intro pins s σ H xs us Q I r h
  rcases h with h | h
  · exact c_str pins s σ H xs us Q I r h
  · exact SkE.call_str_str pins s σ H xs us Q I r h
theorem s_strS (q : Q (.str z) H) : uStrA [.str z] H Q := Or.inr ⟨z, rfl, q⟩
theorem s_cat (ha : H a = some (.tup xs)) (hb : H b = some (.tup ys)) (n1 : xs ≠ []) (n2 : ys ≠ []) (hz : xs.length + ys.length ≤ sizeLine) (q : ∀ p H', H p = none → H' p = some (.tup (xs ++ ys)) → Kp [] H H' → Q (.ref p) H') : uAdd K (.ref a) (.ref b) H Q :=
  Or.inr (Or.inr (Or.inr ⟨a, b, xs, ys, rfl, rfl, SqT.of ha, SqT.of hb, hz, fun e => (n1 e).elim, fun _ e => (n2 e).elim, fun _ _ => new_abs (R := fun p H' => Q (.ref p) H') q⟩))
theorem pe_isdg {apos pos : Pos} (ho : PE X o to) (hbase : attributeBase o "isdigit" X.env (eval o X.env) = eval o X.env := by rfl) (hline : (apos.endLine == pos.line) = true := by rfl) :
    PE X (.Call (.Attribute o "isdigit" apos) [] [] pos) (tM0 (fun x xs H Q => ∃ a, x = .str a ∧ xs = [] ∧ True ∧ Q (.bl (Txt.isdigit a)) H) to) :=
  pe_m0 F.slot_str_isdigit F.type_str_isdigit mt_isdigit ho hbase hline
theorem s_isdg (q : Q (.bl (Txt.isdigit z)) H) : ∃ a, V.str z = .str a ∧ ([] : List V) = [] ∧ True ∧ Q (.bl (Txt.isdigit a)) H := ⟨z, rfl, rfl, trivial, q⟩
end
/-! x == (), x a tuple of any things -/
def uEqE (K : PySem.W.Frag) : R2 := fun x y H Q => ∃ a b xs, x = .ref a ∧ y = .ref b ∧ SqT K H a xs ∧ SqT K H b [] ∧ Q (.bl xs.isEmpty) H
section
variable {X : Cx} {K : PySem.W.Frag} {H : Hp} {Q : VK} {a b : Addr} {xs : List V} {k : Nat}
theorem o_eqE (hK : X.K = K) (hr : Room k X.A) : OpR X (compareOp .Eq) (uEqE K) := by
  subst hK
  intro pins s σ H x y v u Q I rx ry h
  obtain ⟨a, b, xs, rfl, rfl, h1, h2, q⟩ := h
  cases rx
  cases ry
  obtain ⟨its, rv, p, _⟩ := I.tuple h1
  obtain ⟨its2, rv2, p2, _⟩ := I.tuple h2
  have e2 : its2 = [] := by cases rv2; rfl
  subst e2
  refine SeqAt.eq_tupleAt (e := fun _ => true) p p2 (Nat.lt_of_succ_lt (hu_of hr)) (fun j _ h => absurd h (by simp)) ⟨.bl xs.isEmpty, H, I, ?_, q⟩
  cases rv with
  | nil => rfl
  | cons r rr => exact congrArg Value.bool (by simp)
theorem s_eqE (h1 : H a = some (.tup xs)) (h2 : H b = some (.tup [])) (q : Q (.bl xs.isEmpty) H) : uEqE K (.ref a) (.ref b) H Q := ⟨a, b, xs, rfl, rfl, SqT.of h1, SqT.of h2, q⟩
end
end U

namespace U
open PySem L2 PySem.Spec PyProof.Rows
section
variable {K : PySem.W.Frag} {H H1 : Hp} {Q : VK} {p a b : Addr} {xs ys : List V} {z : Str}
/-- tuple + tuple, of any lengths -/
theorem s_catG (ha : H a = some (.tup xs)) (hb : H b = some (.tup ys)) (hz : xs.length + ys.length ≤ sizeLine) (q : ∀ p H', H' p = some (.tup (xs ++ ys)) → Kp [] H H' → Q (.ref p) H') : uAdd K (.ref a) (.ref b) H Q :=
  Or.inr (Or.inr (Or.inr ⟨a, b, xs, ys, rfl, rfl, SqT.of ha, SqT.of hb, hz, fun e => q b H (by rw [e]; exact hb) Kp.refl, fun _ e => q a H (by rw [e, List.append_nil]; exact ha) Kp.refl, fun _ _ => new_abs (R := fun p H' => Q (.ref p) H') fun p H' _ e k => q p H' e k⟩))
/-- list + list -/
theorem s_addL (h1 : H a = some (.lst xs)) (h2 : H b = some (.lst ys)) (h : xs.length + ys.length ≤ sizeLine)
    (z : ∀ p' H', H p' = none → H' p' = some (.lst (xs ++ ys)) → Kp [] H H' → Q (.ref p') H') : uAdd K (.ref a) (.ref b) H Q := s_addl h1 h2 h z
/-- list(tuple) -/
theorem s_listT (h : H p = some (.tup xs)) (q : ∀ l H', H l = none → H' l = some (.lst xs) → Kp [] H H' → Q (.ref l) H') : uList K [.ref p] H Q := ⟨p, xs, rfl, Or.inr (SqT.of h), fun l f => q l _ f upd_same (Kp.refl.new f)⟩
theorem dna_strs : ∀ zs : List Str, DnA K H (zs.map V.str) (zs.map PyData.str)
  | [] => .nil
  | z :: zs => .cons (.str z) (dna_strs zs)
theorem dna_rep {j : Int} : ∀ m : Nat, DnA K H (List.replicate m (V.int j)) (List.replicate m (.int j))
  | 0 => .nil
  | m + 1 => by rw [List.replicate_succ, List.replicate_succ]; exact .cons (.int j) (dna_rep m)
theorem lay_rep {j : Int} : ∀ m : Nat, PyData.canLayAll0 (List.replicate m (.int j)) = true ∧ PyData.depthAll (List.replicate m (.int j)) ≤ 1
  | 0 => ⟨rfl, by simp [PyData.depthAll]⟩
  | m + 1 => by
    obtain ⟨h1, h2⟩ := lay_rep (j := j) m
    rw [List.replicate_succ]
    refine ⟨by simp only [PyData.canLayAll0, PyData.canLay0, h1, Bool.and_self], ?_⟩
    simp only [PyData.depthAll, PyData.depth]
    omega
theorem shp_rep {j : Int} (m : Nat) : SeqAt.shaped (.list (List.replicate m (.int j))) = true := by
  obtain ⟨h1, h2⟩ := lay_rep (j := j) m
  unfold SeqAt.shaped
  rw [Bool.and_eq_true]
  refine ⟨by simpa only [PyData.canLay0] using h1, decide_eq_true ?_⟩
  simp only [PyData.depth]
  omega
theorem map_one (cs : List Nat) : cs.map (fun c => V.str ⟨#[c]⟩) = (cs.map fun c => (⟨#[c]⟩ : Str)).map V.str := by rw [List.map_map]; rfl
end
theorem cut_pre (xs : List V) {n : Int} (h0 : 0 ≤ n) : cutV xs none (some n) = xs.take n.toNat := by
  obtain ⟨k, rfl⟩ := Int.eq_ofNat_of_zero_le h0
  unfold cutV
  rw [HT.sIx_none, HT.sIx_nat, List.drop_zero]
  simp
theorem cut_tail (xs : List V) {n : Int} (h0 : 0 ≤ n) : cutV xs (some n) none = xs.drop n.toNat := by
  obtain ⟨k, rfl⟩ := Int.eq_ofNat_of_zero_le h0
  unfold cutV
  rw [HT.sIx_none, HT.sIx_nat]
  apply List.ext_getElem?
  intro i
  simp [List.getElem?_take, List.getElem?_drop]
  by_cases h : k ≤ xs.length
  · rw [Nat.min_eq_left h]
    by_cases h2 : i < xs.length - k
    · rw [if_pos h2]
    · rw [if_neg h2, List.getElem?_eq_none (by omega)]
  · rw [Nat.min_eq_right (by omega), if_neg (by omega), List.getElem?_eq_none (by omega)]
theorem S_tail (cs : List Nat) {n : Int} (h0 : 0 ≤ n) : cutS (S cs) (some n) none = S (cs.drop n.toNat) := by
  rw [S_cut]
  congr 1
  obtain ⟨k, rfl⟩ := Int.eq_ofNat_of_zero_le h0
  rw [HT.sIx_none, HT.sIx_nat]
  apply List.ext_getElem?
  intro i
  simp [List.getElem?_take, List.getElem?_drop]
  by_cases h : k ≤ cs.length
  · rw [Nat.min_eq_left h]
    by_cases h2 : i < cs.length - k
    · rw [if_pos h2]
    · rw [if_neg h2, List.getElem?_eq_none (by omega)]
  · rw [Nat.min_eq_right (by omega), if_neg (by omega), List.getElem?_eq_none (by omega)]
end U

namespace U
open PySem L2 PySem.Spec PyProof.Rows
/-! repr where an error is being handled -/
section
theorem call_reprU {X : Cx} (hg : X.A.guards = some []) (hu : X.A.units + 200 < cLine) (hs : ∃ mm, X.base.Ns sysModules mm) : CallR X (.builtin "repr") (rRepr X.K) := by
  rintro pi s σ H xs us Q I vv ⟨v, d, rfl, hd, g, dp, zz, q⟩
  obtain ⟨u, rfl, rv⟩ := Vals.one vv
  obtain ⟨sh, le⟩ := good_show g
  have le2 : d.shown.length ≤ sizeLine := Nat.le_trans (Nat.le_trans le zz) (by decide)
  cases hd with
  | non => cases rv; exact PySem.P.repr_of_none ⟨.str _, H, I.tok _, ⟨_, rfl⟩, q⟩
  | bl b => cases rv; exact PySem.P.repr_of_bool ⟨.str _, H, I.tok _, ⟨_, rfl⟩, q⟩
  | int i =>
    obtain ⟨t, rfl⟩ := rv
    simp only [PyData.showable, decide_eq_true_eq] at sh
    exact PySem.P.repr_of_int sh ⟨.str _, H, I.tok _, ⟨_, rfl⟩, q⟩
  | str x =>
    obtain ⟨t, rfl⟩ := rv
    exact PySem.P.repr_of_str ⟨.str _, H, I.tok _, ⟨_, rfl⟩, q⟩ le2
  | lst h1 h2 =>
    obtain ⟨as, r1, r2⟩ := Dn.reads I hs (.lst h1 h2) rv
    cases rv
    exact repr_of_reads' r1 sh (fun _ => r2) hg (by omega) (fun _ _ e => e) (fun h' u tk hk => ⟨.str _, H, I.kept hk, ⟨_, rfl⟩, q⟩) le2
  | tup h1 h2 =>
    obtain ⟨as, r1, r2⟩ := Dn.reads I hs (.tup h1 h2) rv
    cases rv
    exact repr_of_reads' r1 sh (fun _ => r2) hg (by omega) (fun _ _ e => e) (fun h' u tk hk => ⟨.str _, H, I.kept hk, ⟨_, rfl⟩, q⟩) le2
  | dic h1 h2 =>
    obtain ⟨as, r1, r2⟩ := Dn.reads I hs (.dic h1 h2) rv
    cases rv
    exact repr_of_reads' r1 sh (fun _ => r2) hg (by omega) (fun _ _ e => e) (fun h' u tk hk => ⟨.str _, H, I.kept hk, ⟨_, rfl⟩, q⟩) le2
theorem hu200 {k : Nat} {A : Around} {h : Option Value} (r : Room k A) : (A.mark h).units + 200 < cLine := by have := r.un; show A.units + 200 < cLine; omega
theorem o_eqU {X : Cx} {K : PySem.W.Frag} (hK : X.K = K) (hu : X.A.units + 200 < cLine) : OpR X (compareOp .Eq) (uEq K) := hK ▸ op_eq.or (op_eqD (by omega))
theorem o_neU {X : Cx} {K : PySem.W.Frag} (hK : X.K = K) (hu : X.A.units + 200 < cLine) : OpR X (compareOp .NotEq) (uNe K) := hK ▸ op_ne.or (op_neD (by omega))
theorem c_reprU {X : Cx} {K : PySem.W.Frag} (hK : X.K = K) (hg : X.A.guards = some []) (hu : X.A.units + 200 < cLine) (hs : ∃ mm, X.base.Ns sysModules mm) : CallR X (.builtin "repr") (rRepr K) := hK ▸ call_reprU hg hu hs
end
end U

namespace U
open PySem L2 PySem.Spec PyProof.Rows
/-! text * number; text.index(sign) -/
def rSmul : R2 := fun x y H Q => ∃ (a : Str) (n : Int), x = .str a ∧ y = .int n ∧ MulOk a n ∧ Q (.str (Txt.mul a n)) H
section
variable {X : Cx} {K : PySem.W.Frag} {H : Hp} {Q : VK} {z : Str}
theorem op_smul : OpR X (binaryOp .Mult) rSmul := by
  intro pins s σ H x y v u Q I rx ry h
  obtain ⟨a, n, rfl, rfl, hm, q⟩ := h
  obtain ⟨t, rfl⟩ := rx
  obtain ⟨u', rfl⟩ := ry
  exact SB.mul hm fun t' k => ⟨.str _, H, I.kept (h' := s.heap) (t' := k) fun _ _ e => e, ⟨_, rfl⟩, q⟩
def uMulS : R2 := fun x y H Q => uMul x y H Q ∨ rSmul x y H Q
theorem o_mulS : OpR X (binaryOp .Mult) uMulS := o_mul.or op_smul
theorem s_mulS0 (q : Q (.str Str.empty) H) : uMulS (.str z) (.int 0) H Q := Or.inr ⟨z, 0, rfl, rfl, ⟨by decide, fun h => absurd (by decide : (0 : Int) < 1) h, fun h => absurd (by decide : (0 : Int) < 1) h⟩, q⟩
theorem s_mulS1 (q : Q (.str z) H) : uMulS (.str z) (.int 1) H Q := Or.inr ⟨z, 1, rfl, rfl, ⟨by decide, fun _ h => by simp at h, fun _ h => by simp at h⟩, by
  have : Txt.mul z 1 = z := by unfold Txt.mul; simp
  rw [this]; exact q⟩
theorem s_mulI (h : uMul (.int i) (.int j) H Q) : uMulS (.int i) (.int j) H Q := Or.inl h
/-- list * number -/
theorem s_repL {l : Addr} {k : Int} {xs : List V} (h : H l = some (.lst xs)) (h0 : 0 ≤ k) (h1 : k ≤ 1000) (hz : xs.length * k.toNat ≤ 1000000) (q : ∀ p H', H p = none → H' p = some (.lst (List.replicate k.toNat xs).flatten) → Kp [] H H' → Q (.ref p) H') : uMul (.ref l) (.int k) H Q :=
  Or.inr ⟨l, k, xs, rfl, rfl, h, by omega, by omega, zle hz, new_abs (R := fun p H' => Q (.ref p) H') q⟩
theorem pe_sidx {o e : Expr} {to te : TE} {apos pos : Pos} (ho : PE X o to) (he : PE X e te) (h1 : starEach [e] X.env = [(false, eval e X.env)] := by rfl) (h2 : attributeBase o "index" X.env (eval o X.env) = eval o X.env := by rfl) (hline : (apos.endLine == pos.line) = true := by rfl) :
    PE X (.Call (.Attribute o "index" apos) [e] [] pos) (tM1 (fun x xs H Q => ∃ a b i rest, x = .str a ∧ xs = [.str b] ∧ Builtin.Str.occurrences a b 0 a.length 1 = i :: rest ∧ Q (.int (i : Nat)) H) to te) :=
  pe_m1 F.slot_str_index F.type_str_index mt_sindex ho he h1 h2 hline
theorem dig_occ : ∀ c ∈ List.range' 48 10, Builtin.Str.occurrences "0123456789" ⟨#[c]⟩ 0 ("0123456789" : Str).length 1 = [c - 48] := by decide +kernel
theorem s_digI {c : Nat} (h0 : 48 ≤ c) (h1 : c ≤ 57) (q : Q (.int ((c - 48 : Nat) : Int)) H) : ∃ a b i rest, V.str ("0123456789" : Str) = .str a ∧ [V.str (⟨#[c]⟩ : Str)] = [.str b] ∧ Builtin.Str.occurrences a b 0 a.length 1 = i :: rest ∧ Q (.int (i : Nat)) H :=
  ⟨_, _, c - 48, [], rfl, rfl, dig_occ c (by rw [List.mem_range']; exact ⟨c - 48, by omega, by omega⟩), q⟩
end
end U

namespace U
open PySem L2 PySem.Spec PyProof.Rows
/-! any list against [] -/
def uNeE (K : PySem.W.Frag) : R2 := fun x y H Q => ∃ a b xs, x = .ref a ∧ y = .ref b ∧ SqL K H a xs ∧ SqL K H b [] ∧ Q (.bl (!xs.isEmpty)) H
section
variable {X : Cx} {K : PySem.W.Frag} {H : Hp} {Q : VK} {a b : Addr} {xs : List V} {k : Nat}
theorem o_neE (hK : X.K = K) (hr : Room k X.A) : OpR X (compareOp .NotEq) (uNeE K) := by
  subst hK
  intro pins s σ H x y v u Q I rx ry h
  obtain ⟨a, b, xs, rfl, rfl, h1, h2, q⟩ := h
  cases rx
  cases ry
  obtain ⟨its, rv, p, _⟩ := I.list h1
  obtain ⟨its2, rv2, p2, _⟩ := I.list h2
  have e2 : its2 = [] := by cases rv2; rfl
  subst e2
  have p := p.isList
  have p2 := p2.isList
  have hu : X.A.units < cLine := Nat.lt_of_succ_lt (hu_of hr)
  cases rv with
  | nil => exact SeqAt.RcNeAt.lists (e := fun _ => false) p p2 rfl hu (fun j h _ => absurd h (by simp)) _ _ _ _ ⟨.bl false, H, I, rfl, q⟩
  | cons r rr => exact SeqAt.RcNeAt.lists_lengths p p2 (by simp) hu _ _ _ _ ⟨.bl true, H, I, rfl, q⟩
theorem s_neE (h1 : H a = some (.lst xs)) (h2 : H b = some (.lst [])) (q : Q (.bl (!xs.isEmpty)) H) : uNeE K (.ref a) (.ref b) H Q := ⟨a, b, xs, rfl, rfl, SqL.of h1, SqL.of h2, q⟩
end
/-! text * number, any small ones -/
theorem s_mulSn {H : Hp} {Q : VK} {z : Str} {n : Nat} (h1 : 1 < n) (h2 : n ≤ 1000) (hz : z.length ≤ 1000) (h0 : 0 < z.length) (q : ∀ r : Str, r.length = z.length * n → (∀ c ∈ r.cps.toList, c ∈ z.cps.toList) → Q (.str r) H) : uMulS (.str z) (.int (n : Int)) H Q := by
  have hp : z.length * n ≤ 1000 * 1000 := Nat.mul_le_mul hz h2
  refine Or.inr ⟨z, n, rfl, rfl, ⟨?_, fun _ _ => ?_, fun _ _ => ?_⟩, ?_⟩
  · simp only [Bool.or_eq_false_iff, decide_eq_false_iff_not]
    omega
  · have : (2 ^ 63 - 1) / 1000 ≤ (2 ^ 63 - 1) / (n : Int) := by
      apply Int.le_ediv_of_mul_le (by omega)
      have : ((2 ^ 63 - 1) / 1000 : Int) * (n : Int) ≤ ((2 ^ 63 - 1) / 1000 : Int) * 1000 := Int.mul_le_mul_of_nonneg_left (by omega) (by decide)
      omega
    have e : ((2 ^ 63 - 1) / 1000 : Int) = 9223372036854775 := by decide
    omega
  · unfold Builtin.Str.tooLong
    have : z.length * (n : Int).toNat ≤ sizeLine := zle (by rw [Int.toNat_natCast]; omega)
    simpa using this
  · have e : Txt.mul z n = ⟨(List.replicate n z.cps).foldl (· ++ ·) #[]⟩ := by
      unfold Txt.mul
      rw [if_neg (by omega), if_neg (by
        simp only [Bool.or_eq_true, beq_iff_eq]
        omega), Int.toNat_natCast]
    have key : ∀ (m : Nat) (acc : Array Nat), ((List.replicate m z.cps).foldl (· ++ ·) acc).toList = acc.toList ++ (List.replicate m z.cps.toList).flatten := by
      intro m
      induction m with
      | zero => intro acc; simp
      | succ m ih => intro acc; rw [List.replicate_succ, List.foldl_cons, ih, List.replicate_succ]; simp
    rw [e]
    refine q _ ?_ fun c hc => ?_
    · have := congrArg List.length (key n #[])
      rw [Array.length_toList] at this
      show Array.size _ = _
      rw [this]
      have e2 : z.cps.size = z.length := rfl
      simp [e2, Nat.mul_comm]
    · have hc : c ∈ ((List.replicate n z.cps).foldl (· ++ ·) #[]).toList := hc
      rw [key] at hc
      simp only [List.nil_append, List.mem_flatten, List.mem_replicate] at hc
      obtain ⟨l, ⟨_, rfl⟩, hc⟩ := hc
      exact hc
end U

namespace U
open PySem L2 PySem.Spec PyProof.Rows
/-! list(text) -/
def uListZ : List V → Hp → VK → Prop := fun xs H Q => ∃ z : Str, xs = [.str z] ∧ z.length ≤ sizeLine ∧ ∀ l, H l = none → Q (.ref l) (upd H l (.lst (z.cps.toList.map fun c => V.str ⟨#[c]⟩)))
section
variable {X : Cx} {K : PySem.W.Frag} {H : Hp} {Q : VK}
theorem c_listZ (hc : X.calm = true) : CallR X (.type "list") uListZ := by
  intro pins s σ H xs us Q I r h
  obtain ⟨z, rfl, hz, q⟩ := h
  obtain ⟨u, eu, rx⟩ := vals1 r
  subst eu
  obtain ⟨tz, rfl⟩ := rx
  refine call_list_str (I.ok.hd hc) z _ (hn := hz) fun h' tk acc' c' hk hS hacc => ?_
  refine ⟨.ref s.heap.objs.size, upd H s.heap.objs.size (.lst (z.cps.toList.map fun c => V.str ⟨#[c]⟩)), I.laid hk (Nat.le_refl _) (show ObjOk X.prog X.w _ _ _ (.lst (z.cps.toList.map fun c => V.str ⟨#[c]⟩)) from ⟨?_, acc'.toList, c', ?_, ?_⟩), rfl, q _ (I.hok.fresh (Nat.le_refl _))⟩
  · rw [List.length_map, Array.length_toList]
    exact hz
  · refine vals_of_at (by rw [List.length_map, Array.length_toList, Array.length_toList, hacc.1]) fun m x w h1 h2 => ?_
    obtain ⟨c, tk', ec, ew⟩ := hacc.2 m w (by rw [← Array.getElem?_toList]; exact h2)
    rw [List.getElem?_map, Array.getElem?_toList, ec] at h1
    cases h1
    subst ew
    exact ⟨tk', rfl⟩
  · simpa using hS
theorem s_listZ {z : Str} (h : z.length ≤ sizeLine) (q : ∀ l H', H l = none → H' l = some (.lst (z.cps.toList.map fun c => V.str ⟨#[c]⟩)) → Kp [] H H' → Q (.ref l) H') : uListZ [.str z] H Q :=
  ⟨z, rfl, h, new_abs (R := fun p H' => Q (.ref p) H') q⟩
end
end U

namespace U
open PySem L2 PySem.Spec PyProof.Rows
/-! an error that leaves a list comprehension -/
section
variable {X : Cx} {pins : List (Addr × Obj)} {σ : L2.St} {H : Hp} {s : Shared}
theorem Inv.xe {xe : Value → Shared → Prop} (I : Inv X pins σ H s) : Inv { X with xe := xe } pins σ H s := by
  obtain ⟨ok, a1, a2, a3, a4, a5, a6, a7, a8, a9, a10⟩ := I
  obtain ⟨b1, b2, b3, b4, b5, b6, b7, b8, b9, b10, b11, b12, b13, b14, b15, b16, b17, b18⟩ := ok
  exact ⟨⟨b1, b2, b3, b4, b5, b6, b7, b8, b9, b10, b11, b12, b13, b14, b15, b16, b17, b18⟩, a1, a2, a3, a4, a5, a6, a7, a8, a9, a10⟩
theorem noteFrame_eq {e : Value} {a b : Env} (h : a.frame = b.frame) : noteFrame e a = noteFrame e b := by
  unfold noteFrame PySem.frameOf
  rw [h]
/-- as the kit's compPost, with the frame of the block -/
def cPost (M : Model) (A : Around) (E : Value → Shared → Prop) (F : Option Addr) (use : Option (Value → Sem Unit)) (Q : Value → Shared → Prop) (acc : Value) (C : Addr) (r : Result) (s' : Shared) : Prop :=
  match r, use with
  | .ok _, none => ∃ m, s'.heap.Ns C m ∧ ∀ h', Heap.SameBut C s'.heap h' → Q acc { s' with heap := h' }
  | .ok _, some u => wpAny M A (u acc) (fun _ s'' => ∃ m, s''.heap.Ns C m ∧ ∀ h', Heap.SameBut C s''.heap h' → Q .none { s'' with heap := h' }) E s'
  | .error x, _ => ∃ m, s'.heap.Ns C m ∧ ∀ h', Heap.SameBut C s'.heap h' → ∀ cenv : Env, cenv.frame = F → wpAny M A (passOn "comprehension.variables-let-go" x cenv : Sem Value) (fun _ _ => False) E { s' with heap := h' }

theorem comp_freeX {M : Model} {A : Around} {E : Value → Shared → Prop} {s : Shared} {env : Env} {e : Expr} {scope : Scope} {pos : Pos} {newAcc first : Sem Value} {g : Comprehension} {gs : List Comprehension} {cl : List (Str × Addr)} {use : Option (Value → Sem Unit)}
    {Q : Value → Shared → Prop}
    (hcl : clausesOf e = g :: gs) (hs : ∀ x, foldedSetIterable g.iter env x = pure x) (hclos : closureFor scope env = pure cl)
    (hkind : scope.kind = .function) (hnames : ∀ x ∈ scope.names, x.2 = .local → scope.names.lookup x.1 = some .local)
    (h : wpAny M A first (fun x s₁ => wpAny M A (pyIter x) (fun it s₂ => wpAny M A newAcc (fun acc s₃ =>
      wpAny M A (newFunctionEnv scope env.globals cl [] env.qual none .none (some env)) (fun cenv s₄ =>
        codeAny M A (.compStart e 0 it acc { cenv with scope := relabel scope env }) (cPost M A E cenv.frame use Q acc cenv.locals) s₄) E s₃) E s₂) E s₁) E s) :
    wpAny M A (comprehension e scope env pos newAcc false first use) Q E s := by
  unfold comprehension
  rw [hclos, hcl]
  refine wpAny_bind (wpAny_mono h (fun x s₁ h₁ => wpAny_bind (wpAny_standAt (wpAny_bind (wpAny_of_eq (hs x) (wpAny_bind (wpAny_holding (wpAny_mono h₁ (fun it s₂ h₂ =>
    wpAny_standIf (wpAny_bind (wpAny_mono h₂ (fun acc s₃ h₃ => wpAny_bind (wpAny_pure (wpAny_bind (wpAny_mono h₃ (fun cenv s₄ h₄ => ?_) fun _ _ h' => h')))) fun _ _ h' => h')))
      fun _ _ h' => h'))))))) fun _ _ h' => h')
  dsimp only
  have hv : ∀ x ∈ (scope.names.filter fun x => (x.2 == .local || x.2 == .cell) && x.1 != (".0" : Str)).reverse, x.2 = .local →
      Env.kindOf { cenv with scope := relabel scope env } x.1 = some .local := fun x hx hl => lookup_relabel_local (hnames x (List.mem_filter.mp (List.mem_reverse.mp hx)).1 hl)
  have hv' : ∀ x ∈ (scope.names.filter fun x => (x.2 == .local || x.2 == .cell) && x.1 != (".0" : Str)).reverse.drop 1 ++ (scope.names.filter fun x => (x.2 == .local || x.2 == .cell) && x.1 != (".0" : Str)).reverse.take 1,
      x.2 = .local → Env.kindOf { cenv with scope := relabel scope env } x.1 = some .local := fun x hx hl => by
    rcases List.mem_append.mp hx with h1 | h1
    · exact hv x (List.mem_of_mem_drop h1) hl
    · exact hv x (List.mem_of_mem_take h1) hl
  refine wpAny_holding (wpAny_bind (wpAny_attempt (wpAny_holding (wpAny_run (codeAny_mono h₄ fun r s' hr => ?_)))))
  cases r with
  | ok f =>
    cases use with
    | none =>
      obtain ⟨m, hn, hr⟩ := hr
      exact wpAny_bind (wpAny_holding (wpAny_comp_letGo (cenv := { cenv with scope := relabel scope env }) hkind _ s' m hv hn fun h' m' _ hs' => wpAny_pure (hr h' hs')))
    | some u =>
      refine wpAny_bind (wpAny_rule (wpAny_bind (wpAny_holding (wpAny_mono hr (fun _ s'' hr' => ?_) fun _ _ h' => h'))))
      obtain ⟨m, hn, hr'⟩ := hr'
      exact wpAny_bind (wpAny_comp_letGo (cenv := { cenv with scope := relabel scope env }) hkind _ s'' m hv' hn fun h' m' _ hs' => wpAny_pure (hr' h' hs'))
  | error x =>
    have hr' : ∃ m, s'.heap.Ns cenv.locals m ∧ ∀ h', Heap.SameBut cenv.locals s'.heap h' → ∀ cenv' : Env, cenv'.frame = cenv.frame → wpAny M A (passOn "comprehension.variables-let-go" x cenv' : Sem Value) (fun _ _ => False) E { s' with heap := h' } := by cases use <;> exact hr
    obtain ⟨m, hn, hr⟩ := hr'
    exact wpAny_bind (wpAny_holding (wpAny_comp_letGo (cenv := { cenv with scope := relabel scope env }) hkind _ s' m hv hn fun h' m' _ hs' => wpAny_mono (hr h' hs' _ rfl) (fun _ _ f => f.elim) fun _ _ y => y))

theorem funFrames_but {base B h h' : Heap} {C : Addr} : ∀ {l : List Env}, h.FunFrames base l → (∀ L ∈ frs l, B.get? L = none) → (∀ b o, b ≠ C → h.get? b = some o → h'.get? b = some o) → C ∉ frs l → h'.FunFrames B l
  | [], _, _, _, _ => trivial
  | env :: l, h, hn, k, hC => by
    obtain ⟨hk, ⟨L, o, hf, _, ho, hd⟩, hr⟩ := h
    have mL : L ∈ frs (env :: l) := List.mem_filterMap.mpr ⟨env, List.mem_cons_self, hf⟩
    have up : ∀ b, b ∈ frs l → b ∈ frs (env :: l) := fun b hb => by
      obtain ⟨e, he, q⟩ := List.mem_filterMap.mp hb
      exact List.mem_filterMap.mpr ⟨e, List.mem_cons_of_mem _ he, q⟩
    exact ⟨hk, ⟨L, o, hf, hn L mL, k L o (fun z => hC (z ▸ mL)) ho, hd⟩, funFrames_but hr (fun b hb => hn b (up b hb)) k fun z => hC (up C z)⟩
/-- the block's context, with a place for errors -/
abbrev blx (X : Cx) (s : Shared) (H : Hp) (scope : Scope) (cenv : Env) (fp : List Addr) (xe : Value → Shared → Prop) : Cx := { X.blk s H scope cenv fp with xe := xe }

/-- a callee's error in the block leaves the comprehension -/
theorem blx_passes {E : XK} {scope : Scope} {ce : Env} {fp : List Addr} {use : Option (Value → Sem Unit)} {Qf : Value → Shared → Prop} {acc : Value} (hs : X.stack = X.env :: X.outer) (hf : X.env.frame = some X.env.locals) (tk : Takes X (wE E))
    (I3 : Inv X pins σ H s) (f3 : ∀ b ∈ fp, FpOk X pins H b) (hF : ce.frame = X.env.frame) (hC : ce.locals = s.heap.objs.size) :
    Passes (L2.CX X.prog X.w) (blx X s H scope ce fp (notedBy (model X.prog X.w) X.A ce fun e s' => cPost (model X.prog X.w) X.A X.xe X.env.frame use Qf acc s.heap.objs.size (.error e) s')) E := by
  intro pins' σ' H' s1 e s' I c
  obtain ⟨a, B, H2, cls, d, rfl, fl, hok, ub, na, os, ag, hE⟩ := c
  obtain ⟨G, g1, g2⟩ := restrict s'.heap fun b => (B.get? b).isSome || decide (b ∈ frs X.stack)
  have st : B.StaysIn s'.heap := fl.1
  have gB : ∀ b o, B.get? b = some o → G.get? b = some o := fun b o e => by
    rw [g1 b (by simp [e])]
    exact st b o e
  have gF : ∀ b, b ∈ frs X.stack → G.get? b = s'.heap.get? b := fun b hb => g1 b (by simp [hb])
  have og : ∀ b o, G.get? b = some o → s'.heap.get? b = some o ∧ ((B.get? b).isSome = true ∨ b ∈ frs X.stack) := fun b o e => by
    cases q : ((B.get? b).isSome || decide (b ∈ frs X.stack)) with
    | false => rw [g2 b q] at e; cases e
    | true =>
      rw [g1 b q] at e
      exact ⟨e, by simpa [Bool.or_eq_true] using q⟩
  have nb : ∀ b o, G.get? b = some o → b ∉ frs X.stack → B.get? b = some o := fun b o e hb => by
    obtain ⟨e', h⟩ := og b o e
    rcases h with h | h
    · obtain ⟨o', q⟩ := Option.isSome_iff_exists.mp h
      have z := st b o' q
      rw [e'] at z; cases z
      exact q
    · exact absurd h hb
  have IB : Inv (blx X s H scope ce fp (notedBy (model X.prog X.w) X.A ce fun e s' => cPost (model X.prog X.w) X.A X.xe X.env.frame use Qf acc s.heap.objs.size (.error e) s')) pins' σ' H2 { s1 with heap := G, gens := s'.gens, drawn := s'.drawn, toks := s'.toks } := by
    refine I.call (ch := []) ⟨fun b o e n hb _ => gB b o (ub.keep b o e n hb), fun b o e n hb _ => ?_, fun b o e n _ => ub.free b o e n, fun b o e _ => ?_, ub.tups, ub.frzs, ub.tbls⟩ (hok.kept gB) ag (fun _ z => nomatch z)
    · obtain ⟨sl, q⟩ := ub.slot b o e hb
      exact ⟨sl, by rw [gF b hb]; exact q⟩
    · by_cases hb : b ∈ frs X.stack
      · obtain ⟨sl, q⟩ := ub.slot b o e hb
        exact ⟨_, by rw [gF b hb]; exact q⟩
      · obtain ⟨o', q⟩ := ub.there b o e hb
        exact ⟨o', gB b o' q⟩
  have hfr : X.A.frames = some (X.env :: X.outer) := by rw [I3.ok.frames, hs]
  show wpAny _ _ (noteFrame (.ref a) ce) _ _ _
  rw [noteFrame_eq hF]
  rw [hs] at fl
  refine HandSPX.looks_onZ Zc.steady hfr hf fl fun h1 held up1 => ?_
  obtain ⟨m, hn, _⟩ := IB.loc
  have hn : G.Ns ce.locals m := hn
  rw [hC] at hn
  generalize hCC : s.heap.objs.size = C at *
  have nC : C ∉ frs X.stack := fun hm => by
    obtain ⟨_, o, ho, _⟩ := I3.stack.mem hm
    have := Heap.lt_size ho
    rw [hCC] at this
    exact Nat.lt_irrefl _ this
  have hn1 : h1.Ns C m := by
    obtain ⟨o, es, ep, ho, r⟩ := hn
    exact ⟨o, es, ep, held.1 _ _ (nb _ _ ho nC), r⟩
  refine ⟨m, hn1, fun h' sb cenv e1 => ?_⟩
  -- without the block's names
  obtain ⟨B2, b1, b2⟩ := restrict B fun b => !decide (b = C)
  obtain ⟨G2, c1, c2⟩ := restrict G fun b => !decide (b = C)
  have BB : ∀ b o, B2.get? b = some o → B.get? b = some o ∧ b ≠ C := fun b o e => by
    by_cases z : b = C
    · rw [b2 b (by simp [z])] at e; cases e
    · rw [b1 b (by simp [z])] at e; exact ⟨e, z⟩
  have GG : ∀ b o, G2.get? b = some o → G.get? b = some o ∧ b ≠ C := fun b o e => by
    by_cases z : b = C
    · rw [c2 b (by simp [z])] at e; cases e
    · rw [c1 b (by simp [z])] at e; exact ⟨e, z⟩
  have BN : ∀ b, B.get? b = none → B2.get? b = none := fun b e => by
    cases q : B2.get? b with
    | none => rfl
    | some o => rw [(BB b o q).1] at e; cases e
  obtain ⟨k1, k2, k3, oe, vs, T, oT, ts, he, hz, hd, hv1, hnT, hTe, hT, hdT, h3⟩ := held
  have hCB : ∃ o, B.get? C = some o := by
    obtain ⟨o, es, ep, ho, r⟩ := hn
    exact ⟨o, nb _ _ ho nC⟩
  have aC : a ≠ C := fun z => by
    obtain ⟨o, q⟩ := hCB
    rw [z, q] at k2; cases k2
  have TC : T ≠ C := fun z => by
    obtain ⟨o, q⟩ := hCB
    rw [z, q] at hnT; cases hnT
  have he' : h'.get? a = some oe := (sb.2 a aC).trans he
  have hT' : h'.get? T = some oT := (sb.2 T TC).trans hT
  have k1' : B2.StaysIn h' := fun b o e => (sb.2 b (BB b o e).2).trans (k1 b o (BB b o e).1)
  have k3' : h'.FunFrames B2 (X.env :: X.outer) := funFrames_but k3 (fun b hb => BN b (k3.mem hb).1) (fun b o hb e => (sb.2 b hb).trans e) (by rw [← hs]; exact nC)
  unfold PySem.passOn
  refine wpAny_bind (wpAny_field he' hd hv1 ?_)
  rw [if_neg (show ¬ ((Value.ref T == Value.none) = true) from by simp)]
  rw [e1, hf]
  refine wpAny_bind (HandSPX.setFlight_anyZ k1' k3' ⟨oe, vs, T, oT, ts, he', hz, hd, hv1, BN _ hnT, hTe, hT', hdT, h3⟩ fun h2 z1 z2 z3 z4 => ?_)
  refine wpAny_throw (tk _ _ ?_)
  have IX : Inv X pins σ H2 { s1 with heap := G, gens := s'.gens, drawn := s'.drawn, toks := s'.toks } :=
    I3.call' (ch := fp) IB.os IB.base IB.hok IB.bare fun b hb => ⟨(f3 b hb).2.2.2.1, (f3 b hb).2.1, (f3 b hb).2.2.2.2.1, (f3 b hb).2.2.2.2.2⟩
  have hC2 : H2 C = none := by
    have z : H2 ce.locals = none := IB.free
    rw [hC] at z
    exact z
  obtain ⟨q0, q1, q2, q3, q4, q5⟩ := I3.fpOk (b := C) (H' := H2) (Nat.le_of_eq hCC) hC2
  have IY := IX.turned (t' := s'.toks) (h' := G2) (it := C) (fun b o hb e => by rw [c1 b (by simp [hb])]; exact e) q0 q1 q3 q4 q5
  refine ⟨a, B2, _, pins, σ, H2, cls, d, rfl, IY, fun b o e hb => ?_, fun b o e hnf => ?_, ?_, na, os, ag, hE⟩
  · obtain ⟨e', z⟩ := GG b o e
    rw [b1 b (by simp [z])]
    exact nb b o e' hb
  · obtain ⟨e', z⟩ := GG b o e
    obtain ⟨sl, e2⟩ := up1 b o (og b o e').1 hnf
    obtain ⟨sl2, e3⟩ := z4 b _ ((sb.2 b z).trans e2) hnf
    exact ⟨sl2, e3⟩
  · rw [hs]
    exact .inr (.inr ⟨z1, BN _ k2, z2, z3⟩)
end
section
variable {X : Cx}
theorem lc_coreX {E : XK} {pins : List (Addr × Obj)} {s : Shared} {σ : L2.St} {H : Hp} {Q : VK} {elt tg iter : Expr} {ifs : List Expr} {scope : Scope} {own : List (Str × Nat)} {pos pos' : Pos} {wi : TI} {g : TG} {tt : TT} {te : TE} {use : Option (Value → Sem Unit)} {Qf : Value → Shared → Prop}
    (hs0 : X.stack = X.env :: X.outer) (hf0 : X.env.frame = some X.env.locals) (tk : Takes X (wE E))
    (hc : X.calm = true) (hN : X.N.Nodup) (I : Inv X pins σ H s) (hi : PI X tg iter wi) (ok : BlkOk X.N X.env.scope scope own)
    (hg : ∀ (s : Shared) (H : Hp) (C : Addr) (cl : List (Str × Addr)) (fp : List Addr) (xe : Value → Shared → Prop), PG (blx X s H scope (compEnvC scope cl C X.env) fp xe) tg g)
    (ht : ∀ (s : Shared) (H : Hp) (C : Addr) (cl : List (Str × Addr)) (fp : List Addr) (xe : Value → Shared → Prop), Passes (L2.CX X.prog X.w) (blx X s H scope (compEnvC scope cl C X.env) fp xe) E → PTs (blx X s H scope (compEnvC scope cl C X.env) fp xe) ifs tt)
    (he : ∀ (s : Shared) (H : Hp) (C : Addr) (cl : List (Str × Addr)) (fp : List Addr) (xe : Value → Shared → Prop), Passes (L2.CX X.prog X.w) (blx X s H scope (compEnvC scope cl C X.env) fp xe) E → PE (blx X s H scope (compEnvC scope cl C X.env) fp xe) elt te) (hs : ∀ x, foldedSetIterable iter X.env x = pure x)
    (h : tLc wi g tt te (own.map (·.2)) σ H Q)
    (hRR : ∀ D C s' m H', Inv X pins σ H' s' → Q (.ref D) H' → s'.heap.Ns C m → FpOk X pins H' C → cPost (model X.prog X.w) X.A X.xe X.env.frame use Qf (.ref D) C (.ok .next) s') :
    wpAny (model X.prog X.w) X.A (comprehension (.ListComp elt [⟨tg, iter, ifs, 0⟩] scope pos) scope X.env pos' (newList []) false (eval iter X.env) use) Qf X.xe s := by
  have hfree : ∀ y ∈ scope.names, y.2 = .free → ∃ c, X.env.cells.lookup y.1 = some c := fun y hy e => by
    rcases ok.free y hy e with k | k
    · exact I.ok.has _ (.inl k)
    · exact I.ok.has _ (.inr k)
  refine comp_freeX (use := use) rfl hs (closure_ok hfree) ok.kind (fun y hy e => by rw [ok.uniq y hy, e])
    (thn (hi.run pins s σ H _ I h) fun xv s1 hx => thn hx fun itv s2 h2 => ?_)
  obtain ⟨it, fp, tn, J, H2, e, I2, T, st2, f2, q⟩ := h2
  subst e
  refine wpAny_newObj_type (newEnv_comp ?_) (by show 0 ≤ sizeLine; decide)
  generalize hD : s2.heap.objs.size = D
  have hDn : H2 D = none := I2.hok.fresh (Nat.le_of_eq hD)
  obtain ⟨W, ⟨m0, w0⟩, turn⟩ := q D hDn
  -- the new list
  generalize hs3 : ({ s2 with heap := s2.heap.push { cls := .type "list", data := .seq ([] : List Value).toArray } } : Shared) = s3
  have I3 : Inv X pins σ (upd H2 D (.lst [])) s3 := by
    rw [← hs3]
    refine I2.laid (t' := s2.toks) (fun b o e => Heap.get?_push_of_some _ e) (Nat.le_of_eq hD) ⟨Nat.zero_le _, [], 0, .nil, ?_⟩
    rw [← hD]
    exact Heap.get?_push_size _ rfl
  have h3 : s3.heap = s2.heap.push { cls := .type "list", data := .seq ([] : List Value).toArray } := by rw [← hs3]
  have sz : ∀ b ∈ fp, b < s2.heap.objs.size := fun b hb => by
    obtain ⟨o, e, _⟩ := T.obj _ _ st2 b hb
    exact Heap.lt_size e
  have f3 : ∀ b ∈ fp, FpOk X pins (upd H2 D (.lst [])) b ∧ b < s3.heap.objs.size := fun b hb => by
    have hlt := sz b hb
    refine ⟨⟨?_, (f2 b hb).2⟩, by rw [h3, Heap.size_push]; exact Nat.lt_succ_of_lt hlt⟩
    rw [upd_ne (by rw [← hD]; exact Nat.ne_of_lt hlt)]
    exact (f2 b hb).1
  have st3 : tn 0 s3.heap := T.keep _ _ _ st2 fun b _ o e => by rw [h3]; exact Heap.get?_push_of_some _ e
  have I4 := block_start I3 ok hN f3
  have pg := hg s3 (upd H2 D (.lst [])) s3.heap.objs.size (cellsFrom (s3.heap.objs.size + 1) scope.names (cloFrom X.env.cells scope.names [])) fp
  have pt := ht s3 (upd H2 D (.lst [])) s3.heap.objs.size (cellsFrom (s3.heap.objs.size + 1) scope.names (cloFrom X.env.cells scope.names [])) fp
  have pe := he s3 (upd H2 D (.lst [])) s3.heap.objs.size (cellsFrom (s3.heap.objs.size + 1) scope.names (cloFrom X.env.cells scope.names [])) fp
  show codeAny _ _ (.compStart (.ListComp elt [⟨tg, iter, ifs, 0⟩] scope pos) 0 (.ref it) (.ref D) (compEnvC scope (cellsFrom (s3.heap.objs.size + 1) scope.names (cloFrom X.env.cells scope.names [])) s3.heap.objs.size X.env)) (cPost (model X.prog X.w) X.A X.xe X.env.frame use Qf (.ref D) s3.heap.objs.size) { s3 with heap := pushCells (s3.heap.push { cls := .type "dict", data := .dict #[] }) scope.names }
  have nfp : ∀ b ∈ fp, (upd H2 D (.lst [])) b = none := fun b hb => (f3 b hb).1.1
  generalize hce : compEnvC scope (cellsFrom (s3.heap.objs.size + 1) scope.names (cloFrom X.env.cells scope.names [])) s3.heap.objs.size X.env = ce at I4 pg pt pe ⊢
  have cL : ce.locals = s3.heap.objs.size := by subst hce; rfl
  have cF : ce.frame = X.env.frame := by subst hce; rfl
  generalize hH3 : upd H2 D (.lst []) = H3 at I3 I4 pg pt pe w0 nfp f3
  have ps := blx_passes (E := E) (scope := scope) (use := use) (Qf := Qf) (acc := .ref D) hs0 hf0 tk I3 (fun b hb => (f3 b hb).1) cF cL
  generalize hxe : (notedBy (model X.prog X.w) X.A ce fun e s' => cPost (model X.prog X.w) X.A X.xe X.env.frame use Qf (.ref D) s3.heap.objs.size (.error e) s') = xe at ps
  have pg := pg xe
  have pt := pt xe ps
  have pe := pe xe ps
  have I4 : Inv (blx X s3 H3 scope ce fp xe) [] (wipe σ (own.map (·.2))) H3 { s3 with heap := pushCells (s3.heap.push { cls := .type "dict", data := .dict #[] }) scope.names } := Inv.xe I4
  generalize hs4 : ({ s3 with heap := pushCells (s3.heap.push { cls := .type "dict", data := .dict #[] }) scope.names } : Shared) = s4 at I4 ⊢
  have st4 : tn 0 s4.heap := T.keep _ _ _ st3 fun b _ o e => by rw [← hs4]; exact pushCells_keeps _ _ _ _ (Heap.get?_push_of_some _ e)
  have stat : ∀ {σ' : L2.St} {H' : Hp} {s' : Shared}, Inv (blx X s3 H3 scope ce fp xe) [] σ' H' s' → (∀ b ∈ fp, H' b = none) → ∀ b ∈ fp, FpOk (blx X s3 H3 scope ce fp xe) [] H' b := fun {σ' H' s'} I' hn b hb =>
    ⟨hn b hb, (I'.ok.exf b hb).1, I'.ok.exfs b hb, .inl hb, fun x c e => (I'.ok.exf b hb).2 x c e, fun p hp => absurd (show p ∈ ([] : List (Addr × Obj)) ++ [] from hp) (by simp)⟩
  have loop : codeAny (model X.prog X.w) X.A (.compLoop (.ListComp elt [⟨tg, iter, ifs, 0⟩] scope pos) 0 (.ref it) (.ref D) ce) (cPost (model X.prog X.w) X.A X.xe X.env.frame use Qf (.ref D) s3.heap.objs.size) s4 := by
    refine compLoop_any (fun n s' => ∃ i H', Inv (blx X s3 H3 scope ce fp xe) [] (wipe σ (own.map (·.2))) H' s' ∧ tn i s'.heap ∧ (∀ b ∈ fp, H' b = none) ∧ W i n H') ?_ m0 ⟨0, H3, I4, st4, nfp, w0⟩
    rw [hxe]
    rintro n s5 ⟨i, H5, I5, st5, n5, w5⟩
    rcases turn i n H5 w5 with ⟨stop, qq⟩ | ⟨go, Nx, hNx, step⟩
    · have td := T.done (blx X s3 H3 scope ce fp xe) rfl rfl rfl hc i [] s5 _ H5 (fun _ _ => False) I5 (stat I5 n5) st5 stop
      refine thnF td fun r s6 ⟨hr, I6⟩ => ?_
      subst hr
      -- back in the def's context
      have I7 : Inv X pins σ H5 s6 := I3.call' (ch := fp) I6.os I6.base I6.hok I6.bare fun b hb => ⟨(f3 b hb).1.2.2.2.1, (f3 b hb).1.2.1, (f3 b hb).1.2.2.2.2.1, (f3 b hb).1.2.2.2.2.2⟩
      have nC : H5 s3.heap.objs.size = none := by
        have z : H5 ce.locals = none := I6.free
        rw [cL] at z
        exact z
      obtain ⟨m, hn, _⟩ := I6.loc
      have hn : s6.heap.Ns ce.locals m := hn
      rw [cL] at hn
      exact hRR D s3.heap.objs.size s6 m H5 I7 qq hn (I3.fpOk (Nat.le_refl _) nC)
    · have ti := T.item (blx X s3 H3 scope ce fp xe) rfl rfl rfl hc i [] s5 _ H5 (fun _ _ => False) I5 (stat I5 n5) st5 go
      refine thnF ti fun r s6 ⟨u, hr, h6⟩ => ?_
      subst hr
      refine thnF h6 fun _ s7 ⟨x, H7, I7, r7, y7, st7, n7⟩ => ?_
      have I7' := I7.pinned (stat I7 n7) (T.obj _ _ st7)
      refine thn (pg.run _ s7 _ H7 x u _ I7' r7 (step x H7 y7)) fun _ s8 ⟨σ8, H8, I8, hw8, q8⟩ => ?_
      refine thn (pt.run _ s8 σ8 H8 _ I8 q8) fun b s9 ⟨H9, I9, q9⟩ => ?_
      -- the turn's end
      have fin : ∀ {s' : Shared} {H' : Hp}, Inv (blx X s3 H3 scope ce fp xe) ([] ++ pinsAt fp s7.heap) σ8 H' s' → Nx H' → ∃ m, m < n ∧ ∃ i H', Inv (blx X s3 H3 scope ce fp xe) [] (wipe σ (own.map (·.2))) H' s' ∧ tn i s'.heap ∧ (∀ b ∈ fp, H' b = none) ∧ W i m H' := fun {s' H'} I' nx => by
        obtain ⟨m', hm, w'⟩ := hNx H' nx
        have pin' : ∀ b ∈ fp, ∀ o, s7.heap.get? b = some o → s'.heap.get? b = some o ∧ H' b = none := fun b hb o e =>
          let z := I'.pin (b, o) (List.mem_append_right _ (List.mem_append_right _ (mem_pinsAt hb e)))
          ⟨z.1, z.2.1⟩
        have hl : (wipe σ (own.map (·.2))).length = σ8.length := by rw [← hw8, wipe_length]
        refine ⟨m', hm, i + 1, H', (I'.unpinned (pins := [])).weak hl (fun j v e => ?_), T.keep _ _ _ st7 fun b hb o e => (pin' b hb o e).1, fun b hb => ?_, w'⟩
        · rw [← hw8] at e
          exact (wipe_some e).1
        · obtain ⟨o, e, _⟩ := T.obj _ _ st7 b hb
          exact (pin' b hb o e).2
      cases b with
      | false =>
        simp only [Bool.false_eq_true, if_false] at q9 ⊢
        exact fin I9 q9
      | true =>
        simp only [if_true] at q9 ⊢
        refine thn (pe.run _ s9 σ8 H9 _ I9 q9) fun z s10 ⟨yv, H10, I10, r10, acc, hD10, hz10, nx⟩ => ?_
        exact app_ok (X := blx X s3 H3 scope ce fp xe) I10 hD10 hz10 r10 fun s11 I11 => fin I11 nx
  exact codeAny_compStart_list loop (T.self X.A 0 _ _ _ st4 loop)
/-- as a value -/
theorem pe_lcX {E : XK} {elt tg iter : Expr} {ifs : List Expr} {scope : Scope} {own : List (Str × Nat)} {pos : Pos} {wi : TI} {g : TG} {tt : TT} {te : TE} (hs0 : X.stack = X.env :: X.outer) (hf0 : X.env.frame = some X.env.locals) (tk : Takes X (wE E)) (hc : X.calm = true) (hN : X.N.Nodup) (hi : PI X tg iter wi) (ok : BlkOk X.N X.env.scope scope own)
    (hg : ∀ (s : Shared) (H : Hp) (C : Addr) (cl : List (Str × Addr)) (fp : List Addr) (xe : Value → Shared → Prop), PG (blx X s H scope (compEnvC scope cl C X.env) fp xe) tg g)
    (ht : ∀ (s : Shared) (H : Hp) (C : Addr) (cl : List (Str × Addr)) (fp : List Addr) (xe : Value → Shared → Prop), Passes (L2.CX X.prog X.w) (blx X s H scope (compEnvC scope cl C X.env) fp xe) E → PTs (blx X s H scope (compEnvC scope cl C X.env) fp xe) ifs tt)
    (he : ∀ (s : Shared) (H : Hp) (C : Addr) (cl : List (Str × Addr)) (fp : List Addr) (xe : Value → Shared → Prop), Passes (L2.CX X.prog X.w) (blx X s H scope (compEnvC scope cl C X.env) fp xe) E → PE (blx X s H scope (compEnvC scope cl C X.env) fp xe) elt te) (hs : ∀ x, foldedSetIterable iter X.env x = pure x := by intro _; rfl) :
    PE X (.ListComp elt [⟨tg, iter, ifs, 0⟩] scope pos) (tLc wi g tt te (own.map (·.2))) := by
  refine ⟨fun pins s σ H Q I h => ?_⟩
  rw [eval_ListComp]
  refine lc_coreX hs0 hf0 tk hc hN I hi ok hg ht he hs h fun D C s' m H' I' q hn f => ⟨m, hn, fun h'' sb => ?_⟩
  obtain ⟨f0, f1, f2, f3, f4, f5⟩ := f
  exact ⟨.ref D, H', I'.turned (t' := s'.toks) (fun b o hb e => (sb.2 b hb).trans e) f0 f1 f3 f4 f5, rfl, q⟩
end
section
variable {X : Cx} {k : Nat} {f : Addr} {fd : FuncData} {ps : List Str} {sp : Sp} {E : XK} {x : Str} {p pos : Pos} {e : Expr} {es : List Expr} {t : TA}
/-- a call whose errors pass -/
theorem pe_coP (F : FnOk X.prog X.w X.K X.mg X.base (L2.CX X.prog X.w) k f fd ps sp) (hr : Room k X.A) (gl : Gl X x) (hm : X.mg x = some (.ref f)) (hk : PySem.W.keepIn X.K (.ref f) = true) (hb : Binds X.K fd ps []) (hx : Passes (L2.CX X.prog X.w) X E)
    (ha : PA X (e :: es) t) (h1 : (x == ("__debug__" : Str)) = false := by decide) (h2 : starEach (e :: es) X.env = (false, eval e X.env) :: starEach es X.env := by rfl) (h3 : (backTo pos (starEach es X.env)).any (·.1) = false := by rfl) :
    PE X (.Call (.Name x p) (e :: es) [] pos) (tCo sp (wE E) t) := by
  refine ⟨fun pi s σ H Q I h => wpAny_Call_Name_kw (ld_glob I gl hm ?_ h1)⟩
  refine PySem.W.callWith_K (h₀ := X.base) I.ok.mod.kin hk (thn (ha.run pos pi s σ H _ I h) ?_) h2 h3
  rintro us s1 ⟨vs, H1, I1, r, q⟩
  refine ⟨I1.kIn, wpAny_call (codeAny_mono (F.run X.A X.stack s1 H1 ⟨us, []⟩ us vs Q E hr I1.env0 (bind0 hb I1 r (F.len _ _ _ _ q)) r q) fun rr s' hq => ?_)⟩
  match rr, hq with
  | .error er, z => exact hx pi σ H1 s1 er s' I1 z
  | .ok (.ret u), z => exact I1.after z
  | .ok .next, z => exact z.elim
  | .ok .brk, z => exact z.elim
  | .ok .cont, z => exact z.elim
end
end U

namespace U
open PySem L2 PySem.Spec PyProof.Rows PySem.SeqAt
/-! a dict beside tuples -/
theorem dict_eq_declines_tuple (l b : Addr) (es : Array DictEntry) (n : Nat) (dd : Option Addr) (sl : Array (Option Value)) (items2 : Array Value) (n2 : Nat) (dd2 : Option Addr) (sl2 : Array (Option Value)) :
    Meets (Builtin.«dict.__eq__» ⟨[.ref l, .ref b], []⟩) (fun _ R s => s.heap.get? l = some { cls := .type "dict", dict := dd, data := .dict es n, slots := sl } ∧ s.heap.get? b = some { cls := .type "tuple", dict := dd2, data := .seq items2 n2, slots := sl2 } ∧ R (.ok (.ret .notImplemented)) s) :=
  .of_wp fun prog w A R s h => by obtain ⟨hp, g, d, tk, os⟩ := s; obtain ⟨hl, hb, h⟩ := h; have f1 := F.sub_tuple_dict; wp_walk using wpAny_loadPart' hl, wpAny_loadPart' hb; exact ⟨_, rfl, h⟩
theorem tuple_eq_declines_dict (l b : Addr) (es : Array DictEntry) (n : Nat) (dd : Option Addr) (sl : Array (Option Value)) (items2 : Array Value) (n2 : Nat) (dd2 : Option Addr) (sl2 : Array (Option Value)) :
    Meets (Builtin.«tuple.__eq__» ⟨[.ref b, .ref l], []⟩) (fun _ R s => s.heap.get? l = some { cls := .type "dict", dict := dd, data := .dict es n, slots := sl } ∧ s.heap.get? b = some { cls := .type "tuple", dict := dd2, data := .seq items2 n2, slots := sl2 } ∧ R (.ok (.ret .notImplemented)) s) :=
  .of_wp fun prog w A R s h => by obtain ⟨hp, g, d, tk, os⟩ := s; obtain ⟨hl, hb, h⟩ := h; have f1 := F.sub_dict_tuple; wp_walk using wpAny_loadPart' hl, wpAny_loadPart' hb; exact ⟨_, rfl, h⟩
theorem eqAt_tuple_dict {A : Around} {s : Shared} {b l : Addr} {items : Array Value} {o : Obj} {es : Array DictEntry} {n : Nat} (hb : s.heap.IsTuple b items) (ho : s.heap.get? l = some o) (hc : o.cls = .type "dict") (hd : o.data = .dict es n) (hu : A.units < cLine) : EqAt A s (.ref b) (.ref l) false := by
  obtain ⟨cls, dd, data, sl⟩ := o
  obtain ⟨⟨cls2, dd2, data2, sl2⟩, ho2, hc2, n2, hd2⟩ := id hb
  simp only at hc hd hc2 hd2
  subst hc hd hc2 hd2
  have hne : b ≠ l := by
    rintro rfl
    rw [ho] at ho2
    have := congrArg (fun o : Option Obj => o.map (·.cls)) ho2
    simp at this
  refine .of_refs hne fun prog w E Q h => ?_
  exact (rc_eq_decline_or (k := false) ⟨_, ho2, rfl⟩ ⟨_, ho, rfl⟩ (by decide) F.sub_dict_tuple F.slot_tuple_eq F.slot_dict_eq_refl
    (fun _ hq => call_meets F.slot_tuple_eq ⟨_, ho2, rfl⟩ F.entry_tuple_eq (F.args_tuple_eq_2 _ _) (tuple_eq_declines_dict l b es n dd sl items n2 dd2 sl2) ⟨ho, ho2, hq⟩)
    (fun _ hq => call_meets F.slot_dict_eq_refl ⟨_, ho, rfl⟩ F.entry_dict_eq (F.args_dict_eq_2 _ _) (dict_eq_declines_tuple l b es n dd sl items n2 dd2 sl2) ⟨ho, ho2, hq⟩)
    (fun _ hq => wpAny_isSame_ref_other' hne ho2 ho (by simp) hq) (.inr hu) h)
def AllTup (H : Hp) (vs : List V) : Prop := ∀ v ∈ vs, ∃ u xs, v = V.ref u ∧ H u = some (.tup xs)
def rInTd (K : PySem.W.Frag) (ng : Bool) : R2 := fun x y H Q => ∃ (p a : Addr) (vs : List V) (kvs : List (Key × V)), x = .ref a ∧ H a = some (.dK kvs) ∧ y = .ref p ∧ SqL K H p vs ∧ AllTup H vs ∧ Q (.bl ng) H
def uInT (K : PySem.W.Frag) (ng : Bool) : R2 := fun x y H Q => uInX K ng x y H Q ∨ rInTd K ng x y H Q
section
variable {X : Cx} {k : Nat} {K : PySem.W.Frag}
theorem tups_eqAt {pins : List (Addr × Obj)} {σ : L2.St} {H : Hp} {A : Around} {s : Shared} {l : Addr} {o : Obj} {es : Array DictEntry} {n : Nat} (I : Inv X pins σ H s) (ho : s.heap.get? l = some o) (hc : o.cls = .type "dict") (hd : o.data = .dict es n) (hu : A.units < cLine) : ∀ {vs : List V} {us : List Value}, AllTup H vs → Vals vs us → ∀ u ∈ us, EqAt A s u (.ref l) false
  | [], _, _, .nil => fun u hu => by cases hu
  | z :: zs, _, ht, .cons r t => fun u' hu' => by
    rcases List.mem_cons.mp hu' with rfl | hm
    · obtain ⟨b, xs, rfl, e⟩ := ht z List.mem_cons_self
      cases r
      obtain ⟨its, _, ⟨o2, q1, q2, n2, q3⟩, _⟩ := I.tuple (SqT.of e)
      exact eqAt_tuple_dict (items := its.toArray) ⟨o2, q1, q2, n2, q3⟩ ho hc hd hu
    · exact tups_eqAt I ho hc hd hu (fun v hv => ht v (List.mem_cons_of_mem _ hv)) t u' hm
theorem op_inTd (hr : Room k X.A) : OpR X (compareOp .In) (rInTd X.K false) := by
  intro pins s σ H x y v u Q I rx ry h
  obtain ⟨p, a, zs, kvs, rfl, ea, rfl, hq, ht, q⟩ := h
  cases rx
  cases ry
  obtain ⟨z, hd, vs, rel, o, es, ep, h1, h2, h3, h4⟩ := dk_of I.hok ea
  obtain ⟨its, r, pl, hz⟩ := I.list hq
  refine SeqAt.in_listAt (fun _ => false) pl.isList (fun w hw => tups_eqAt I h1 h2.1 h3 (hu_of hr) ht r w (by simpa using hw)) ⟨.bl _, H, I, rfl, ?_⟩
  rw [show its.toArray.any (fun _ => false) = false by simp]
  exact q
theorem op_notInTd (hr : Room k X.A) : OpR X (compareOp .NotIn) (rInTd X.K true) := by
  intro pins s σ H x y v u Q I rx ry h
  obtain ⟨p, a, zs, kvs, rfl, ea, rfl, hq, ht, q⟩ := h
  cases rx
  cases ry
  obtain ⟨z, hd, vs, rel, o, es, ep, h1, h2, h3, h4⟩ := dk_of I.hok ea
  obtain ⟨its, r, pl, hz⟩ := I.list hq
  refine SeqAt.notIn_listAt (fun _ => false) pl.isList (fun w hw => tups_eqAt I h1 h2.1 h3 (hu_of hr) ht r w (by simpa using hw)) ⟨.bl _, H, I, rfl, ?_⟩
  rw [show its.toArray.any (fun _ => false) = false by simp]
  exact q
theorem o_inT (hK : X.K = K) (hr : Room k X.A) : OpR X (compareOp .In) (uInT K false) := by
  subst hK
  exact (o_inX rfl hr).or (op_inTd hr)
theorem o_notinT (hK : X.K = K) (hr : Room k X.A) : OpR X (compareOp .NotIn) (uInT K true) := by
  subst hK
  exact (o_notinX rfl hr).or (op_notInTd hr)
end
section
variable {K : PySem.W.Frag} {H : Hp} {Q : VK} {p a : Addr} {ng : Bool} {x y : V} {d : PyData} {ds : List PyData}
theorem s_inTd {kvs : List (Key × V)} {vs : List V} (h : H a = some (.dK kvs)) (g : SqL K H p vs) (t : AllTup H vs) (q : Q (.bl ng) H) : uInT K ng (.ref a) (.ref p) H Q := Or.inr ⟨p, a, vs, kvs, rfl, h, rfl, g, t, q⟩
theorem s_ninD (hl : Dn K H (.ref p) (.list ds)) (hy : Dn K H y d) (sl : SeqAt.shaped (.list ds) = true) (sd : SeqAt.shaped d = true) (q : Q (.bl (!ds.any fun z => PyData.eqv z d)) H) : uInT K true y (.ref p) H Q :=
  Or.inl (Or.inr (Or.inr ⟨d, ds, hy.dp (shp sd), hl.dp (shp sl), sd, sl, q⟩))
end
end U

namespace U
open PySem L2 PySem.Spec PyProof.Rows
/-! an except clause of three classes, all errors taken -/
theorem fly_keeps {B : Heap} {l : List Env} {a : Addr} {Z : Obj → Prop} {h h' : Heap} (f : HandSPX.FlyingZ B l a Z h) (k : ∀ b o, h.get? b = some o → h'.get? b = some o) : HandSPX.FlyingZ B l a Z h' := by
  obtain ⟨f1, f2, f3, oe, vs, T, oT, ts, he, hz, hd, h1, hnT, hTe, hT, hdT, h3⟩ := f
  exact ⟨fun b o e => k b o (f1 b o e), f2, f3.of_keeps fun b o e _ => ⟨o, k b o e, rfl⟩, oe, vs, T, oT, ts, k _ _ he, hz, hd, h1, hnT, hTe, k _ _ hT, hdT, h3⟩
theorem exm3 {K : PySem.W.Frag} {cls c1 c2 c3 : Value} {b1 b2 b3 : Bool} (h1 : PySem.W.exmOne K cls c1 = some b1) (h2 : PySem.W.exmOne K cls c2 = some b2) (h3 : PySem.W.exmOne K cls c3 = some b3) : PySem.W.exmAny K cls [c1, c2, c3] = some (b1 || (b2 || (b3 || false))) := by
  simp only [PySem.W.exmAny, h1, h2, h3]
def w3 (K : PySem.W.Frag) (c1 c2 c3 : Value) (D : Ends) (ts : Addr → Value → Option Addr → TS) : WX := fun cls d σ H => PySem.W.exmAny K cls [c1, c2, c3] = some true ∧ ∀ a, H a = none → ts a cls d D σ H
def tTry3 (K : PySem.W.Frag) (c1 c2 c3 : Value) (ts : Addr → Value → Option Addr → TS) (tb : WX → TS) : TS := fun D σ H => tb (w3 K c1 c2 c3 D ts) D σ H
section
variable {X : Cx} {body : List Stmt} {pos : Pos} {tb : WX → TS} {Wout : WX} {K : PySem.W.Frag}
theorem ps_try3 {x1 x2 x3 : Str} {c1 c2 c3 : Value} {p1 p2 p3 tp p' : Pos} {kk : Nat} {b0 : Stmt} {su : List Stmt} {ts : Addr → Value → Option Addr → TS} (hK : X.K = K) (hs : X.stack = X.env :: X.outer) (hf : X.env.frame = some X.env.locals)
    (hb : ∀ (W : WX) (pn : List (Addr × Obj)) (xe : Value → Shared → Prop), Takes (X.tr pn xe) W → PassesOwn (model X.prog X.w) X.A X.env xe → PSs (X.tr pn xe) body (tb W))
    (n1 : Names X x1 c1) (n2 : Names X x2 c2) (n3 : Names X x3 c3)
    (hsu : ∀ (a : Addr) (oe : Obj) (cls : Value) (d : Option Addr) (pn : List (Addr × Obj)), Zc cls d oe → (∃ vs, oe.data = .fields vs) → PSs (X.suite a ((a, oe) :: pn)) (b0 :: su) (ts a cls d)) :
    PS X (.Try body [.ExceptHandler (some (.Tuple [.Name x1 p1, .Name x2 p2, .Name x3 p3] kk tp)) none (b0 :: su) p'] [] [] pos) (tTry3 K c1 c2 c3 ts tb) := by
  subst hK
  refine ⟨fun pi s σ H D I h => wpAny_Try_except ?_⟩
  have ok := I.ok
  have hfr : X.A.frames = some (X.env :: X.outer) := by rw [ok.frames, hs]
  let xe : Value → Shared → Prop := fun e s1 => wpAny (model X.prog X.w) X.A (noteFrame e X.env) (fun _ s2 => wpAny (model X.prog X.w) X.A (setFlight e none)
    (fun _ s3 => wpAny (model X.prog X.w) X.A (handleBy e X.env [.ExceptHandler (some (.Tuple [.Name x1 p1, .Name x2 p2, .Name x3 p3] kk tp)) none (b0 :: su) p']) (SP X pi D) X.xe s3) X.xe s2) X.xe s1
  have tkx : Takes (X.tr (X.pn ++ pi) xe) (w3 X.K c1 c2 c3 D ts) := by
    rintro u s1 ⟨a, B, sI, pins1, σ1, H1, cls, d, rfl, J1, nb, up, sky, na, os, ag, hm, w⟩
    have J : Inv X pi σ1 H1 sI := J1.ofTry ok
    have sky1 : Sky B (X.env :: X.outer) a (Zc cls d) X.env.locals s1.heap := hs ▸ sky
    show wpAny (model X.prog X.w) X.A (noteFrame (.ref a) X.env) _ _ _
    refine Sky.land Zc.steady hfr hf sky1 fun h3 f3 u3 => ?_
    have J3 : Inv X pi σ1 H1 { s1 with heap := h3 } := J.landed nb f3.1 (up.trans u3) os ag
    obtain ⟨oe3, vs3, he3, hz3, hd3⟩ := f3.there
    have nfr : a ∉ frs (X.env :: X.outer) := fun hm => by
      obtain ⟨_, o', e', hnf⟩ := f3.2.2.1.mem hm
      rw [he3] at e'; cases e'
      exact hnf _ hd3
    have nL : a ≠ X.env.locals := fun z => nfr (List.mem_filterMap.mpr ⟨X.env, List.mem_cons_self, by rw [hf, z]⟩)
    have nF : a ∉ X.fs := fun hm => by
      obtain ⟨e, he, q⟩ := List.mem_filterMap.mp hm
      exact nfr (List.mem_filterMap.mpr ⟨e, List.mem_cons_of_mem _ he, q⟩)
    have S3 := J3.suite he3 hd3 na nL nF
    have LT : PySem.W.Looks (model X.prog X.w) h3 (typeOf (.ref a)) cls := fun A Q E s k q => wpAny_typeOf_ref (k _ _ he3) (by rw [hz3.1]; exact q)
    have test : ∀ {x : Str} {c : Value} {np : Pos} {Q : Value → Shared → Prop} {E : Value → Shared → Prop}, Names X x c → Q c { s1 with heap := h3 } →
        wpAny (model X.prog X.w) (X.A.mark (some (.ref a))) (eval (.Name x np) X.env) Q E { s1 with heap := h3 } := fun {x c np Q E} hc q => by
      obtain ⟨hg, hdb, hm | ⟨hm, hv, hnn⟩⟩ := hc
      · exact ld_glob (X := X.suite a ((a, oe3) :: (X.pn ++ pi))) S3 hg hm q hdb
      · exact ld_blt (X := X.suite a ((a, oe3) :: (X.pn ++ pi))) S3 hg hm hv q hnn hdb
    have kp : ∀ q o, h3.get? q = some o → (h3.push { cls := .type "tuple", data := .seq [c1, c2, c3].toArray }).get? q = some o := fun _ _ z => Heap.get?_push_of_some _ z
    refine wpAny_handleBy_cons (codeAny_handlers_test ?_) (by intro q; cases q)
    refine wpAny_Tuple ?_
    refine wpAny_items_cons (test n1 ?_)
    refine wpAny_items_cons (test n2 ?_)
    refine wpAny_items_cons (test n3 ?_)
    refine wpAny_items_nil ⟨by size_fits, ?_⟩
    refine (PySem.W.exm_tup3 (J3.kIn.keeps kp) (LT.keeps kp) (Heap.get?_push_size h3 rfl) hm).here ?_
    have f4 := fly_keeps f3 kp
    refine codeAny_handlers_suite (HandSPX.lands_againZ f4 fun h4 fl4 up4 => ?_)
    have J4 : Inv X pi σ1 H1 { s1 with heap := h4 } := J.landed nb fl4.1 (((up.trans u3).trans (Heap.UpToSlots.of_keeps kp)).trans up4) os ag
    obtain ⟨oe4, vs4, he4, hz4, hd4⟩ := fl4.there
    refine wpAny_mono ((hsu a oe4 cls d (X.pn ++ pi) hz4 ⟨_, hd4⟩).run [] _ _ H1 _ (J4.suite he4 hd4 na nL nF) (w a na)) (fun f s6 hsp => ?_) (fun _ _ z => False.elim z)
    match f, hsp with
    | .next, ⟨_, _, S6, q6⟩ => exact ⟨_, _, S6.unsuite ok, q6⟩
    | .brk, ⟨_, _, S6, q6⟩ => exact ⟨_, _, S6.unsuite ok, q6⟩
    | .cont, ⟨_, _, S6, q6⟩ => exact ⟨_, _, S6.unsuite ok, q6⟩
    | .ret u, ⟨_, _, _, S6, r6, q6⟩ => exact ⟨_, _, _, S6.unsuite ok, r6, q6⟩
  refine wpAny_mono ((hb _ (X.pn ++ pi) xe tkx PassesOwn.looking).run [] s σ H D (I.toTry _) h) (fun f s1 hsp => ?_) (fun e s1 he => he)
  match f, hsp with
  | .next, ⟨σ1, H1, J1, q⟩ => exact wpAny_execs_nil ⟨σ1, H1, J1.ofTry ok, q⟩
  | .brk, ⟨σ1, H1, J1, q⟩ => exact ⟨σ1, H1, J1.ofTry ok, q⟩
  | .cont, ⟨σ1, H1, J1, q⟩ => exact ⟨σ1, H1, J1.ofTry ok, q⟩
  | .ret u, ⟨v, σ1, H1, J1, r, q⟩ => exact ⟨v, σ1, H1, J1.ofTry ok, r, q⟩
theorem s_try3 {c1 c2 c3 : Value} {ts : Addr → Value → Option Addr → TS} {D : Ends} {σ : L2.St} {H : Hp} (h : tb (w3 K c1 c2 c3 D ts) D σ H) : tTry3 K c1 c2 c3 ts tb D σ H := h
end
theorem s_par3 {i j l : Nat} {ta : TA} {D : Ends} {σ : L2.St} {H : Hp} (h : ta σ H fun vs H1 => ∃ u v w, vs = [u, v, w] ∧ D.nx (((σ.set i (some u)).set j (some v)).set l (some w)) H1) : tPar3 i j l ta D σ H := h
theorem s_three {u v w : V} {R : V → V → V → Prop} (q : R u v w) : ∃ u' v' w', [u, v, w] = [u', v', w'] ∧ R u' v' w' := ⟨u, v, w, rfl, q⟩
/-! walks over a dict's values and pairs, the dict locked meanwhile -/
section
variable {H : Hp} {Q : VK} {σ : L2.St} {d A : Addr} {kvs : List (Key × V)} {t : TE} {g : TG} {tt : TT} {te : TE} {ns : List Nat} {Qd : Hp → Prop} {o : Obj}
/-- what a lock keeps: all but the dict -/
structure Lk (d : Addr) (u : HO) (H H1 : Hp) : Prop where
  at_ : ∃ od, H1 d = some (.frz od u)
  keep : ∀ b o, b ≠ d → H b = some o → H1 b = some o
  none_ : ∀ b, H1 b = none → H b = none
theorem unlock_kp {u : HO} {od : Obj} {H' : Hp} {ps : List Addr} (e : H d = some u) (nt : ∀ xs, u ≠ .tup xs) (k : Kp ps (upd H d (.frz od u)) H') (n : d ∉ ps) : Kp ps H (upd H' d u) where
  keep := fun b ob eb hb => by
    by_cases z : b = d
    · rw [z, e] at eb; rw [z, upd_same]; exact eb
    · rw [upd_ne z]
      exact k.keep b ob (by rw [upd_ne z]; exact eb) hb
  kd := fun b i hb => by
    by_cases z : b = d
    · obtain ⟨o1, e1, e2⟩ := hb
      rw [z, e] at e1
      cases e1
      exact ⟨_, by rw [z]; exact upd_same, e2⟩
    · obtain ⟨o1, e1, e2⟩ := hb
      obtain ⟨o2, e3, e4⟩ := k.kd b i ⟨o1, by rw [upd_ne z]; exact e1, e2⟩
      exact ⟨o2, by rw [upd_ne z]; exact e3, e4⟩
  tp := fun b xs eb => by
    by_cases z : b = d
    · rw [z, e] at eb
      cases eb
      exact (nt xs rfl).elim
    · rw [upd_ne z]
      exact k.tp b xs (by rw [upd_ne z]; exact eb)
/-- an expression under a lock: in H1 the dict is locked, else all is as in H -/
theorem s_lockE {u : HO} (e : H d = some u) (mu : Mut (some u)) (nt : ∀ xs, u ≠ .tup xs) (h : ∀ od H1, H1 d = some (.frz od u) → Lk d u H H1 → (∀ H', Kp [] H1 H' → Kp [] H (upd H' d u)) → t σ H1 fun v H' => H' d = some (.frz od u) ∧ Q v (upd H' d u)) : tLockE t σ H Q :=
  ⟨d, u, e, mu, fun od => h od _ upd_same ⟨⟨od, upd_same⟩, fun b ob hb eb => by rw [upd_ne hb]; exact eb, fun b hb => by
    by_cases z : b = d
    · rw [z, upd_same] at hb; cases hb
    · rwa [upd_ne z] at hb⟩ fun H' k => unlock_kp e nt k (by simp)⟩
theorem s_ivals {td : TE} {R : It → Hp → Prop} (h : td σ H fun x H1 => ∃ d o kvs, x = .ref d ∧ H1 d = some (.frz o (.dK kvs)) ∧ R (Itd d o kvs) H1) : iVals td σ H R := h
theorem s_iitems {td : TE} {R : It → Hp → Prop} (h : td σ H fun x H1 => ∃ d o kvs, x = .ref d ∧ H1 d = some (.frz o (.dK kvs)) ∧ R (Iti d o kvs) H1) : iItems td σ H R := h
theorem s_frzd {R : Addr → Obj → List (Key × V) → Prop} (e : H d = some (.frz o (.dK kvs))) (q : R d o kvs) : ∃ d' o' kvs', V.ref d = .ref d' ∧ H d' = some (.frz o' (.dK kvs')) ∧ R d' o' kvs' := ⟨d, o, kvs, rfl, e, q⟩
theorem lc_V (e : H d = some (.frz o (.dK kvs))) (hA : H A = none) (Pv : Nat → List V → Hp → Prop) (h0 : ∀ H', H' A = some (.lst []) → Kp [] H H' → Pv 0 [] H') (hG : ∀ i acc H', Pv i acc H' → ∀ o, H d = some o → H' d = some o)
    (hs : ∀ i k x acc H', kvs[i]? = some (k, x) → H' A = some (.lst acc) → Pv i acc H' → g x (wipe σ ns) H' fun σ2 H2 => wipe σ2 ns = wipe σ ns ∧ tt σ2 H2 fun b H3 =>
      if b = true then te σ2 H3 fun y H4 => ∃ acc, H4 A = some (.lst acc) ∧ acc.length < sizeLine ∧ PvD A Pv (i + 1) (upd H4 A (.lst (acc ++ [y]))) else PvD A Pv (i + 1) H3) (hd : ∀ acc H', H' A = some (.lst acc) → Pv kvs.length acc H' → Qd H') :
    ∃ W : Nat → Nat → Hp → Prop, (∃ m, W 0 m (upd H A (.lst []))) ∧ ∀ i m H, W i m H →
      ((Itd d o kvs).stop i H ∧ Qd H) ∨ ((Itd d o kvs).go i H ∧ ∃ Nx : Hp → Prop, (∀ H', Nx H' → ∃ m', m' < m ∧ W (i + 1) m' H') ∧ ∀ x H', (Itd d o kvs).yld i H x H' → g x (wipe σ ns) H' fun σ2 H2 => wipe σ2 ns = wipe σ ns ∧ tt σ2 H2 fun b H3 =>
        if b = true then te σ2 H3 fun y H4 => ∃ acc, H4 A = some (.lst acc) ∧ acc.length < sizeLine ∧ Nx (upd H4 A (.lst (acc ++ [y]))) else Nx H3) :=
  lc_it walk_values (PvD A Pv) (PvD.begin hA h0) (fun i H' _ p => by
    obtain ⟨acc, _, p⟩ := p
    exact hG i acc H' p _ e) (fun i x H1 H2 hi p y => by
    obtain ⟨rfl, k, ex⟩ := y
    obtain ⟨acc, ea, p⟩ := p
    exact hs i k x acc H2 ex ea p) (fun H' p => by
    obtain ⟨acc, ea, p⟩ := p
    exact hd acc H' ea p)
theorem lc_I (e : H d = some (.frz o (.dK kvs))) (hA : H A = none) (Pv : Nat → List V → Hp → Prop) (h0 : ∀ H', H' A = some (.lst []) → Kp [] H H' → Pv 0 [] H') (hG : ∀ i acc H', Pv i acc H' → ∀ o, H d = some o → H' d = some o)
    (hs : ∀ i k x acc H' T H2, kvs[i]? = some (k, x) → H' A = some (.lst acc) → Pv i acc H' → H' T = none → H2 T = some (.tup [kV k, x]) → Kp [] H' H2 → g (.ref T) (wipe σ ns) H2 fun σ2 H2 => wipe σ2 ns = wipe σ ns ∧ tt σ2 H2 fun b H3 =>
      if b = true then te σ2 H3 fun y H4 => ∃ acc, H4 A = some (.lst acc) ∧ acc.length < sizeLine ∧ PvD A Pv (i + 1) (upd H4 A (.lst (acc ++ [y]))) else PvD A Pv (i + 1) H3) (hd : ∀ acc H', H' A = some (.lst acc) → Pv kvs.length acc H' → Qd H') :
    ∃ W : Nat → Nat → Hp → Prop, (∃ m, W 0 m (upd H A (.lst []))) ∧ ∀ i m H, W i m H →
      ((Iti d o kvs).stop i H ∧ Qd H) ∨ ((Iti d o kvs).go i H ∧ ∃ Nx : Hp → Prop, (∀ H', Nx H' → ∃ m', m' < m ∧ W (i + 1) m' H') ∧ ∀ x H', (Iti d o kvs).yld i H x H' → g x (wipe σ ns) H' fun σ2 H2 => wipe σ2 ns = wipe σ ns ∧ tt σ2 H2 fun b H3 =>
        if b = true then te σ2 H3 fun y H4 => ∃ acc, H4 A = some (.lst acc) ∧ acc.length < sizeLine ∧ Nx (upd H4 A (.lst (acc ++ [y]))) else Nx H3) :=
  lc_it walk_items (PvD A Pv) (PvD.begin hA h0) (fun i H' _ p => by
    obtain ⟨acc, _, p⟩ := p
    exact hG i acc H' p _ e) (fun i x H1 H2 hi p y => by
    obtain ⟨T, x1, x2, rfl, f, rfl, e1, e2⟩ := y
    obtain ⟨kv, ek, rfl⟩ := Option.map_eq_some_iff.mp e1
    have e3 : Option.map Prod.snd kvs[i]? = some x2 := e2
    rw [ek] at e3
    cases e3
    obtain ⟨acc, ea, p⟩ := p
    exact hs i kv.1 kv.2 acc H1 T _ ek ea p f upd_same (Kp.refl.new f)) (fun H' p => by
    obtain ⟨acc, ea, p⟩ := p
    exact hd acc H' ea p)
end
end U

namespace U
open PySem L2 PySem.Spec PyProof.Rows PySem.SeqAt
/-! list.count of texts -/
def rCntS (K : PySem.W.Frag) : V → List V → Hp → VK → Prop := fun x xs H Q => ∃ (p : Addr) (zs : List Str) (z : Str), x = .ref p ∧ xs = [.str z] ∧ SqL K H p (zs.map V.str) ∧ Q (.int (zs.count z : Nat)) H
def uCnt (K : PySem.W.Frag) : V → List V → Hp → VK → Prop := fun x xs H Q => rCntI K x xs H Q ∨ rCntS K x xs H Q
theorem cnt_strs (k : Str) : ∀ {us : List Value} {zs : List Str}, StrsAre us zs → us.countP (isStrOf k) = zs.count k
  | _, _, .nil => rfl
  | _, _, .cons n t h => by
    have ih := cnt_strs k h
    rw [List.countP_cons, List.count_cons, ih] <;> rfl
section
variable {X : Cx} {k : Nat} {K : PySem.W.Frag}
theorem mt_cntS : MtR X "list.count" (rCntS X.K) := by
  intro pins s σ H x xs v us Q I rx rxs h
  obtain ⟨p, zs, z, rfl, rfl, hs, q⟩ := h
  cases rx
  obtain ⟨u, rfl, ru⟩ := rxs.one
  obtain ⟨t, rfl⟩ := ru
  obtain ⟨its, rv, ⟨⟨cls, dd, data, sl⟩, n, ho, hc, hdn, hd⟩, hlen⟩ := I.list hs
  simp only at hc hd
  subst hc hd
  have hi := strs_of_vals rv
  refine call_meets PySem.F.slot_list_count ⟨_, ho, rfl⟩ PySem.F.entry_list_count (PySem.F.args_list_count_2 _ _)
    (SeqAt.list_countAt p its.toArray n dd sl (.str z t) (isStrOf z)) ⟨ho, fun y hy => (eq_isStrOf z t hi y (by simpa using hy)).at _ _, ?_⟩
  have ec : its.toArray.toList.countP (isStrOf z) = zs.count z := cnt_strs z hi
  refine ⟨.int (zs.count z : Nat), H, I.tok _, ⟨s.toks, ?_⟩, q⟩
  show Value.int ((its.toArray.toList.countP (isStrOf z) : Nat) : Int) s.toks = Value.int ((zs.count z : Nat) : Int) s.toks
  rw [ec]
theorem mt_cnt (hK : X.K = K) : MtR X "list.count" (uCnt K) := hK ▸ mt_lcount.or mt_cntS
/-! dict(pairs) -/
def uDictP (K : PySem.W.Frag) : List V → Hp → VK → Prop := fun xs H Q => ∃ (a : Addr) (ps : List Addr) (kvs : List (Key × V)), xs = [.ref a] ∧ SqL K H a (ps.map V.ref) ∧ Paired (fun p kv => SqT K H p [kV kv.1, kv.2]) ps kvs ∧
    ∀ p, H p = none → Q (.ref p) (upd H p (.dK (mergeK [] kvs)))
theorem c_dictP (hK : X.K = K) (hc : X.calm = true) : CallR X (.type "dict") (uDictP K) := hK ▸ call_dictP hc
/-! any data in a tuple of texts -/
def rInTX (K : PySem.W.Frag) (ng : Bool) : R2 := fun x y H Q => ∃ (p a : Addr) (zs : List Str) (kvs : List (Key × V)), x = .ref a ∧ H a = some (.dK kvs) ∧ y = .ref p ∧ SqT K H p (zs.map V.str) ∧ Q (.bl ng) H
def rInTY (K : PySem.W.Frag) (ng : Bool) : R2 := fun x y H Q => ∃ d ds, Dp K H x d ∧ Dp K H y (.tuple ds) ∧ SeqAt.shaped d = true ∧ SeqAt.shaped (.tuple ds) = true ∧ Q (.bl (if ng then !ds.any fun z => PyData.eqv z d else ds.any fun z => PyData.eqv z d)) H
def uInZ (K : PySem.W.Frag) (ng : Bool) : R2 := fun x y H Q => uInX K ng x y H Q ∨ rInTX K ng x y H Q ∨ rInTY K ng x y H Q
theorem op_inTX (hr : Room k X.A) : OpR X (compareOp .In) (rInTX X.K false) := by
  intro pins s σ H x y v u Q I rx ry h
  obtain ⟨p, a, zs, kvs, rfl, ea, rfl, hq, q⟩ := h
  cases rx
  cases ry
  obtain ⟨z, hd, vs, rel, o, es, ep, h1, h2, h3, h4⟩ := dk_of I.hok ea
  obtain ⟨its, r, pl, hz⟩ := I.tuple hq
  refine SeqAt.in_tupleAt (fun _ => false) pl (fun w hw => strs_eqAt h1 h2.1 h3 (hu_of hr) r w (by simpa using hw)) ⟨.bl _, H, I, rfl, ?_⟩
  rw [show its.toArray.any (fun _ => false) = false by simp]
  exact q
theorem op_notInTX (hr : Room k X.A) : OpR X (compareOp .NotIn) (rInTX X.K true) := by
  intro pins s σ H x y v u Q I rx ry h
  obtain ⟨p, a, zs, kvs, rfl, ea, rfl, hq, q⟩ := h
  cases rx
  cases ry
  obtain ⟨z, hd, vs, rel, o, es, ep, h1, h2, h3, h4⟩ := dk_of I.hok ea
  obtain ⟨its, r, pl, hz⟩ := I.tuple hq
  refine SeqAt.notIn_tupleAt (fun _ => false) pl (fun w hw => strs_eqAt h1 h2.1 h3 (hu_of hr) r w (by simpa using hw)) ⟨.bl _, H, I, rfl, ?_⟩
  rw [show its.toArray.any (fun _ => false) = false by simp]
  exact q
theorem op_inTY (hu : X.A.units + 65 < cLine) : OpR X (compareOp .In) (rInTY X.K false) := by
  intro pins s σ H x y v u Q I rx ry h
  obtain ⟨d, ds, hd, he, sd, se, q⟩ := h
  obtain ⟨as, r1⟩ := Dp.reads I d x v hd rx
  obtain ⟨bs, r2⟩ := Dp.reads I (.tuple ds) y u he ry
  exact SeqAt.in_tuple_reads r2 r1 (SeqAt.canLay_of_shaped se) (SeqAt.canLay_of_shaped sd) (room_in_shaped sd hu) ⟨.bl _, H, I, rfl, q⟩
theorem op_notInTY (hu : X.A.units + 65 < cLine) : OpR X (compareOp .NotIn) (rInTY X.K true) := by
  intro pins s σ H x y v u Q I rx ry h
  obtain ⟨d, ds, hd, he, sd, se, q⟩ := h
  obtain ⟨as, r1⟩ := Dp.reads I d x v hd rx
  obtain ⟨bs, r2⟩ := Dp.reads I (.tuple ds) y u he ry
  exact SeqAt.notIn_tuple_reads r2 r1 (SeqAt.canLay_of_shaped se) (SeqAt.canLay_of_shaped sd) (room_in_shaped sd hu) ⟨.bl _, H, I, rfl, q⟩
theorem o_inZ (hK : X.K = K) (hr : Room k X.A) : OpR X (compareOp .In) (uInZ K false) := by
  subst hK
  exact (o_inX rfl hr).or ((op_inTX hr).or (op_inTY (by have := hr.un; omega)))
theorem o_notinZ (hK : X.K = K) (hr : Room k X.A) : OpR X (compareOp .NotIn) (uInZ K true) := by
  subst hK
  exact (o_notinX rfl hr).or ((op_notInTX hr).or (op_notInTY (by have := hr.un; omega)))
end
section
variable {K : PySem.W.Frag} {σ : L2.St} {H : Hp} {Q : VK} {p a : Addr} {zs : List Str} {ng : Bool} {x y : V} {d : PyData} {ns : List Int} {i : Int} {z : Str}
theorem s_cntS (h : SqL K H p (zs.map V.str)) (q : Q (.int (zs.count z : Nat)) H) : uCnt K (.ref p) [.str z] H Q := Or.inr ⟨p, zs, z, rfl, rfl, h, q⟩
theorem s_cntI (h : SqL K H p (ns.map V.int)) (q : Q (.int (ns.count i : Nat)) H) : uCnt K (.ref p) [.int i] H Q := Or.inl ⟨p, ns, i, rfl, rfl, h, q⟩
theorem merge_nd : ∀ {kvs acc : List (Key × V)}, ((acc ++ kvs).map (·.1)).Nodup → mergeK acc kvs = acc ++ kvs := by
  intro kvs
  induction kvs with
  | nil => intro acc _; simp [mergeK]
  | cons kv kvs ih =>
    intro acc nd
    show mergeK (putK acc kv.1 kv.2) kvs = _
    have hn : valV acc kv.1 = none := by
      cases e : valV acc kv.1 with
      | none => rfl
      | some v =>
        have m := valV_in e
        rw [List.map_append, List.map_cons] at nd
        exact absurd rfl ((List.nodup_append.mp nd).2.2 _ m _ (by simp))
    rw [putK_new _ hn]
    have := ih (acc := acc ++ [(kv.1, kv.2)]) (by rw [List.append_assoc]; exact nd)
    rw [this, List.append_assoc]
    rfl
theorem rw_pairs {vs : List V} {rs : List (Str × Int)} (h : Rw H vs (rs.map fun q => [V.str q.1, V.int q.2])) : ∃ ps : List Addr, vs = ps.map V.ref ∧ Paired (fun p kv => SqT K H p [kV kv.1, kv.2]) ps (rs.map fun q => ((Sum.inr q.1 : Key), V.int q.2)) := by
  generalize e : (rs.map fun q => [V.str q.1, V.int q.2]) = ys at h
  induction h generalizing rs with
  | nil =>
    cases rs with
    | nil => exact ⟨[], rfl, .nil⟩
    | cons _ _ => cases e
  | @cons u r vs ys e1 _ ih =>
    cases rs with
    | nil => cases e
    | cons q rs =>
      rw [List.map_cons] at e
      injection e with e2 e3
      obtain ⟨ps, rfl, hp⟩ := ih e3
      exact ⟨u :: ps, rfl, .cons (SqT.of (by rw [e1, ← e2]; rfl)) hp⟩
/-- dict of pairs of unlike texts and numbers -/
theorem s_dictP {vs : List V} {rs : List (Str × Int)} (h : SqL K H a vs) (r : Rw H vs (rs.map fun q => [V.str q.1, V.int q.2])) (nd : (rs.map (·.1)).Nodup)
    (q : ∀ p H', H p = none → H' p = some (.dK (rs.map fun q => ((Sum.inr q.1 : Key), V.int q.2))) → Kp [] H H' → Q (.ref p) H') : uDictP K [.ref a] H Q := by
  obtain ⟨ps, rfl, hp⟩ := rw_pairs (K := K) r
  refine ⟨a, ps, _, rfl, h, hp, fun p f => ?_⟩
  rw [merge_nd (acc := []) (by
    rw [List.nil_append, List.map_map]
    have : (rs.map ((fun kv : Key × V => kv.1) ∘ fun q => ((Sum.inr q.1 : Key), V.int q.2))) = (rs.map (·.1)).map fun z => (Sum.inr z : Key) := by rw [List.map_map]; rfl
    rw [this]
    exact nd.map _ (fun a b h e => h (Sum.inr.inj e))), List.nil_append]
  exact q p _ f upd_same (Kp.refl.new f)
theorem s_zX (h : uInX K ng x y H Q) : uInZ K ng x y H Q := Or.inl h
theorem s_zD {kvs : List (Key × V)} (h : H a = some (.dK kvs)) (g : SqT K H p (zs.map V.str)) (q : Q (.bl ng) H) : uInZ K ng (.ref a) (.ref p) H Q := Or.inr (Or.inl ⟨p, a, zs, kvs, rfl, h, rfl, g, q⟩)
theorem dna_strT : ∀ zs : List Str, DnA K H (zs.map V.str) (zs.map PyData.str)
  | [] => .nil
  | z :: zs => .cons (.str z) (dna_strT zs)
theorem shp_strT {zs : List Str} (h : ∀ z ∈ zs, ∀ c ∈ z.cps.toList, c < 1114112) : SeqAt.shaped (.tuple (zs.map PyData.str)) = true := by
  obtain ⟨h1, h2⟩ := lay_strs h
  unfold SeqAt.shaped
  rw [Bool.and_eq_true]
  refine ⟨by simpa only [PyData.canLay0] using h1, decide_eq_true ?_⟩
  simp only [PyData.depth]
  omega
theorem s_zY (h : Dn K H x d) (s : SeqAt.shaped d = true) (nd : noStr d = true) (g : SqT K H p (zs.map V.str)) (ok : ∀ z ∈ zs, ∀ c ∈ z.cps.toList, c < 1114112) (q : Q (.bl ng) H) : uInZ K ng x (.ref p) H Q := by
  refine Or.inr (Or.inr ⟨d, zs.map PyData.str, h.dp (shp s), (Dn.tup g (dna_strT zs)).dp (shp (shp_strT ok)), s, shp_strT ok, ?_⟩)
  rw [any_noStr nd zs]
  cases ng <;> exact q
end
/-! enumerate of a list or a tuple -/
def iEnumQ (K : PySem.W.Frag) (ta : TA) : TI := fun σ H R => ta σ H fun vs H1 => ∃ a xs, vs = [.ref a] ∧ ((SqL K H1 a xs ∧ R (Ite K a) H1) ∨ (SqT K H1 a xs ∧ R (IteT K a) H1))
theorem pi_enumQ {X : Cx} {K : PySem.W.Frag} {e : Expr} {ta : TA} {p pos tpos : Pos} {elts : List Expr} {kk : Nat} (hK : X.K = K) (hg : Gl X "enumerate") (hm : X.mg "enumerate" = none) (ha : PA X [e] ta) (hs : starEach [e] X.env = [(false, eval e X.env)] := by rfl) :
    PI X (.Tuple elts kk tpos) (.Call (.Name "enumerate" p) [e] [] pos) (iEnumQ K ta) := by
  subst hK
  refine ⟨fun pins s σ H R I h => ?_⟩
  refine Call_ (ld_blt I hg hm boot_enumerate (PyProof.Rows.callWith_type1 (thn (ha.run pos pins s σ H _ I h) fun us s1 ⟨vs, H1, I1, r1, q1⟩ => ?_) hs rfl))
  obtain ⟨a, xs, ex, q⟩ := q1
  subst ex
  cases r1 with
  | cons r rr =>
    cases rr
    cases r
    have hle : ∀ b, (b = s1.heap.objs.size + 1 ∨ b = s1.heap.objs.size) → s1.heap.objs.size ≤ b := fun b z => by
      rcases z with z | z
      · rw [z]; exact Nat.le_add_right _ _
      · rw [z]; exact Nat.le_refl _
    rcases q with ⟨hq, q⟩ | ⟨hq, q⟩
    · obtain ⟨its, rv, p', hz⟩ := I1.list hq
      refine call_enumerate_list p'.isList fun h' he hit hsz hk => wpAny_pyIter_enum he ?_
      have I2 : Inv X pins σ H1 { s1 with heap := h' } := I1.kept (t' := s1.toks) hk
      exact ⟨s1.heap.objs.size + 1, [s1.heap.objs.size + 1, s1.heap.objs.size], _, _, H1, rfl, I2, turn_enum a (s1.heap.objs.size + 1) s1.heap.objs.size, ⟨⟨.none, he⟩, hit, Nat.succ_ne_self _⟩, fun b hb => I1.fpOk (hle b (by simpa using hb)) (I1.hok.fresh (hle b (by simpa using hb))), q⟩
    · obtain ⟨its, rv, p', hz⟩ := I1.tuple hq
      refine enum_begins1 (begins_tuple a its.toArray) (show s1.heap.IsTuple a its.toArray from p') fun h' he hit hsz hk => wpAny_pyIter_enum he ?_
      have I2 : Inv X pins σ H1 { s1 with heap := h' } := I1.kept (t' := s1.toks) hk
      exact ⟨s1.heap.objs.size + 1, [s1.heap.objs.size + 1, s1.heap.objs.size], _, _, H1, rfl, I2, turn_enumT a (s1.heap.objs.size + 1) s1.heap.objs.size, ⟨⟨.none, he⟩, ⟨_, hit, rfl, rfl⟩, Nat.succ_ne_self _⟩, fun b hb => I1.fpOk (hle b (by simpa using hb)) (I1.hok.fresh (hle b (by simpa using hb))), q⟩
section
variable {K : PySem.W.Frag} {σ : L2.St} {H : Hp} {R : It → Hp → Prop} {ta : TA} {a : Addr} {xs : List V}
theorem s_ienQ (h : ta σ H fun vs H1 => ∃ a xs, vs = [.ref a] ∧ ((SqL K H1 a xs ∧ R (Ite K a) H1) ∨ (SqT K H1 a xs ∧ R (IteT K a) H1))) : iEnumQ K ta σ H R := h
theorem s_eQL {L S : Addr → Prop} (h : H a = some (.lst xs)) (q : L a) : ∃ a' xs', [V.ref a] = [.ref a'] ∧ ((SqL K H a' xs' ∧ L a') ∨ (SqT K H a' xs' ∧ S a')) := ⟨a, xs, rfl, Or.inl ⟨SqL.of h, q⟩⟩
theorem s_eQT {L S : Addr → Prop} (h : H a = some (.tup xs)) (q : S a) : ∃ a' xs', [V.ref a] = [.ref a'] ∧ ((SqL K H a' xs' ∧ L a') ∨ (SqT K H a' xs' ∧ S a')) := ⟨a, xs, rfl, Or.inr ⟨SqT.of h, q⟩⟩
end
end U

namespace U
open PySem L2 PySem.Spec PyProof.Rows
/-! the head by one run: what it leaves, read by a Hook -/
def nxA (g : Addr → Option Obj) (as : List Addr) : List Addr := as.flatMap fun a => match g a with
  | some o => He.refsO o
  | none => []
def lvA (g : Addr → Option Obj) : Nat → List Addr → List Addr
  | 0, as => as
  | n + 1, as => as ++ lvA g n (nxA g as)
def asU (g : Addr → Option Obj) : List Addr := lvA g 4 [mainGlobals, cStatics]
abbrev Ck : Type := PySem.W.Frag → Bool
def obsU (ck : List (List Ck)) (fn : List He.DefD) (K : PySem.W.Frag) : He.AlD := ((ck.all fun r => r.all fun c => c K) && fn.all fun d => d.ok K, fn.map fun d => He.fnW K d.at_)
def obsUG (ck : List (List Ck)) (fn : List He.DefD) (g : Addr → Option Obj) : He.AlD := obsU ck fn (He.frG g (asU g))
def hookU (ck : List (List Ck)) (fn : List He.DefD) : PySem.W.Hook where
  α := He.AlD
  obs := fun s => obsUG ck fn s.heap.get?
  val := fun _ => He.valD fn
  says := fun _ h => ∃ K : PySem.W.Frag, K.In h ∧ obsU ck fn K = He.valD fn
  of := fun _ _ e => ⟨_, He.frG_in, e⟩
  keeps := fun _ _ _ ⟨K, hK, c⟩ k => ⟨K, PySem.W.Frag.In.keeps hK k, c⟩
theorem obsUG_eq {ck : List (List Ck)} {fn : List He.DefD} {g : Addr → Option Obj} {s : Shared} (h : ∀ a, g a = s.heap.get? a) : obsUG ck fn g = (hookU ck fn).obs s := by
  have e : g = s.heap.get? := funext h
  rw [e] <;> rfl
section
variable {ck : List (List Ck)} {fn : List He.DefD} {K : PySem.W.Frag}
theorem ckU (c : obsU ck fn K = He.valD fn) (i j : Nat) {r : List Ck} {f : Ck} (h1 : ck[i]? = some r) (h2 : r[j]? = some f) : f K = true := by
  have c1 := (He.ba (show ((ck.all fun r => r.all fun c => c K) && fn.all fun d => d.ok K) = true from congrArg (fun z : He.AlD => z.1) c)).1
  exact List.all_eq_true.mp (List.all_eq_true.mp c1 r (List.mem_of_getElem? h1)) f (List.mem_of_getElem? h2)
theorem defU (c : obsU ck fn K = He.valD fn) (i : Nat) {d : He.DefD} (h : fn[i]? = some d) : ∃ fd, FunD K d.name d.qual d.params d.body d.scope (d.dvs K) (d.kws K) (He.fAd K d.at_) fd := by
  have c2 := (He.ba (show ((ck.all fun r => r.all fun c => c K) && fn.all fun d => d.ok K) = true from congrArg (fun z : He.AlD => z.1) c)).2
  have e : fn.map (fun d => He.fnW K d.at_) = fn.map He.DefD.val := congrArg (fun z : He.AlD => z.2) c
  have e2 : (fn.map fun d => He.fnW K d.at_)[i]? = (fn.map He.DefD.val)[i]? := by rw [e]
  rw [List.getElem?_map, List.getElem?_map, h] at e2
  exact He.DefD.funD (Option.some.inj e2) (List.all_eq_true.mp c2 d (List.mem_of_getElem? h))
variable {nm ql : Str} {pr : Arguments} {bd : List Stmt} {sc : Scope} {f : Addr}
theorem def0 (F : ∃ fd, FunD K nm ql pr bd sc [] [] f fd) : ∃ (oc : Value) (od : Option Addr) (sl : Array (Option Value)) (kV dc pm : Value) (an : Option Addr) (cd ct : Value),
    K.lookup f = some ⟨oc, od, .func (PySem.W.fnOf nm ql pr bd sc .none kV dc pm an cd ct), sl⟩ ∧ PySem.W.codeIn K cd ql = true ∧ PySem.W.keepIn K (.ref f) = true := by
  obtain ⟨fd, ⟨oc, od, dV, kV, dc, pm, an, cd, ct, sl, rfl, lk, co, dv, _⟩, kp⟩ := F
  rcases dv with ⟨e, _⟩ | ⟨e, _⟩
  · first
      | (subst e; exact ⟨oc, od, sl, kV, dc, pm, an, cd, ct, lk, co, kp⟩)
      | (rename_i e2; subst e2; exact ⟨oc, od, sl, kV, dc, pm, an, cd, ct, lk, co, kp⟩)
  · exact (e rfl).elim
theorem defN (F : ∃ fd, FunD K nm ql pr bd sc [.non] [] f fd) : ∃ (oc : Value) (od : Option Addr) (sl : Array (Option Value)) (kV dc pm : Value) (an : Option Addr) (cd ct : Value) (T : Addr) (oT : Obj) (nT : Nat),
    K.lookup f = some ⟨oc, od, .func (PySem.W.fnOf nm ql pr bd sc (.ref T) kV dc pm an cd ct), sl⟩ ∧ PySem.W.codeIn K cd ql = true ∧ PySem.W.keepIn K (.ref f) = true ∧ K.lookup T = some oT ∧ oT.data = .seq #[Value.none] nT := by
  obtain ⟨fd, ⟨oc, od, dV, kV, dc, pm, an, cd, ct, sl, rfl, lk, co, dv, _⟩, kp⟩ := F
  rcases dv with h | ⟨_, T, oT, its, n, rfl, lT, dT, vs⟩
  · obtain ⟨h1, h2⟩ := h
    first | cases h1 | cases h2
  · cases vs with
    | cons a r =>
      cases r
      cases a
      exact ⟨oc, od, sl, kV, dc, pm, an, cd, ct, T, oT, n, lk, co, kp, lT, by simpa using dT⟩
/-- an own error's class -/
def excU (K : PySem.W.Frag) (C : Addr) : Bool := match K.lookup C with
  | some ⟨.type "type", _, .cls cd, sl⟩ => (match cd.mro, sl.toList with
    | .ref C' :: bm, [_, _, _, _, some (.builtin n), _] => C' == C && n == "ValueError.__new__" && !cd.hasDel && cd.hasDict && PySem.HandSPX.refsVE bm
    | _, _ => false)
  | _ => false
theorem excU_ok {C : Addr} (q : excU K C = true) : ∃ (nm qn : Str) (N : Addr) (bs bm : List Value) (sn : List Str) (sub : List Value) (ab : Bool) (col : Option Bool) (dd : Option Addr) (e0 e1 e2 e3 e5 : Option Value),
    K.lookup C = some (excClassObj nm qn C N bs bm true sn sub ab col dd e0 e1 e2 e3 e5 "ValueError.__new__") ∧ PySem.HandSPX.refsVE bm = true := by
  unfold excU at q
  split at q
  · rename_i dd cd sl ho
    split at q
    · rename_i C' bm k0 k1 k2 k3 n k5 hm hs
      simp only [Bool.and_eq_true, beq_iff_eq, Bool.not_eq_true'] at q
      obtain ⟨⟨⟨⟨rfl, rfl⟩, hdel⟩, hd⟩, ht⟩ := q
      obtain ⟨nm, bs, mro, ns, qn, hd', sn, sub, ab, col, del⟩ := cd
      dsimp only at hm hdel hd
      subst hm hdel hd
      have hsl : sl = #[k0, k1, k2, k3, some (.builtin "ValueError.__new__"), k5] := by
        obtain ⟨l⟩ := sl
        simp only at hs
        rw [hs]
      subst hsl
      exact ⟨nm, qn, ns, bs, bm, sn, sub, ab, col, dd, k0, k1, k2, k3, k5, ho, ht⟩
    · cases q
  · cases q
def isVal (a : Option PySem.W.CFound) (v : Value) : Bool := match a with
  | some (.val u) => decide (u = v)
  | _ => false
theorem isVal_ok {a : Option PySem.W.CFound} {v : Value} (q : isVal a v = true) : a = some (.val v) := by
  unfold isVal at q
  split at q
  · rw [of_decide_eq_true q]
  · cases q
/-- a constant of the module -/
def conU (K : PySem.W.Frag) (x : Str) (v : V) : Bool := match PySem.W.nsIn K mainGlobals x with
  | some (some u) => He.relB v u
  | _ => false
theorem conU_ok {x : Str} {v : V} (q : conU K x v = true) : ∃ u, PySem.W.nsIn K mainGlobals x = some (some u) ∧ RelV v u := by
  unfold conU at q
  split at q
  · rename_i u e
    exact ⟨u, e, He.relB_ok q⟩
  · cases q
def tupU (K : PySem.W.Frag) (t : Addr) (vs : List V) : Bool := match K.lookup t with
  | some ⟨.type c, none, .seq its _, _⟩ => decide (c = "tuple") && (decide (its.size ≤ sizeLine) && He.relAll vs its.toList)
  | _ => false
theorem tupU_ok {t : Addr} {vs : List V} (h : tupU K t vs = true) : ∃ oT, K.lookup t = some oT ∧ (oT.cls = .type "tuple" ∧ oT.dict = none) ∧ ∃ (its : Array Value) (n : Nat), oT.data = .seq its n ∧ its.size ≤ sizeLine ∧ Vals vs its.toList := by
  unfold tupU at h
  split at h
  · rename_i c its n sl e
    obtain ⟨h1, h2⟩ := He.ba h
    obtain ⟨h3, h4⟩ := He.ba h2
    exact ⟨_, e, ⟨congrArg Value.type (of_decide_eq_true h1), rfl⟩, its, n, rfl, of_decide_eq_true h3, He.relAll_ok h4⟩
  · cases h
end
/-- the end of a law, over a head by facts -/
theorem walkGE {l : PySem.W.OpenLaw} {n k : Nat} {q : Program} {lo : List Str} {XP : (Str → Option Value) → Heap → Prop} {YP : World → Heap → Prop} {d : DefRec} {cx : World → CXT} {sp : World → PySem.W.Frag → Sp} {x : Str}
    (hn : l.most = some n) (hn2 : n ≤ sizeLine) (hdf : d.params.defaults = []) (hr : Room k callerA) (him : importsNone q = true)
    (F : ∀ (w : World) (mg : Str → Option Value) (fa : Addr) (h : Heap), YP w h → h.Ns mainGlobals mg → mg d.name = some (.ref fa) →
      ∃ (K : PySem.W.Frag) (fd : FuncData), K.In h ∧ (∀ (s : Shared) (u : Value), BindsTo s fd ⟨[u], []⟩ [(x, u)]) ∧
        ∀ base : Heap, K.In base → base.Ns mainGlobals mg → (∃ mm, base.Ns sysModules mm) → FnG l.prog w K mg base (cx w) k fa fd [x] (sp w K))
    (hsp : ∀ (w : World) (K : PySem.W.Frag) (H : Hp) (a : Addr) (ns : List Int), ns.length ≤ n → (∀ z ∈ ns, Builtin.Int.intBits z ≤ 1048576) → SqL K H a (ns.map V.int) → sp w K [.ref a] H (fun v _ => v = .bl true) fun _ _ _ => False)
    (hcx : ∀ (w : World) (H : Hp) (s : Shared) (e : Value) (s' : Shared), cx w [] H s (fun _ _ _ => False) e s' → False) :
    PySem.W.WalkO q lo XP YP l.row.toRowW d [] (fun f vs => PySem.call f vs) := by
  refine Att.attach_callB hn hdf ?_
  intro w s0 s1 mg mb fa o pm cd doc a vs ns G Y ho hd hcd hmg hob hin hle hbi hge
  obtain ⟨K, fd, KX, hb, hF⟩ := F w mg fa _ Y G.T.g hmg
  have hsy : ∃ mm, s1.heap.Ns sysModules mm := by
    obtain ⟨mm, z, _⟩ := (G.T.seer him).mods
    exact ⟨mm, z⟩
  exact law_callG KX G.T.g G.T.b G.T.builtins G.T.nolimit hsy hge hob hin (Nat.le_trans hle hn2) hr hF hb (fun H hS => hsp w K H a ns hle hbi hS) fun H e s' => hcx w H s1 e s'
end U

namespace U
open PySem L2 PySem.Spec PyProof.Rows
/-! the structural steps of a walk as instances: found by their head -/
class Stp (G : Prop) (H : outParam Prop) : Prop where
  go : H → G
class GetV (σ : L2.St) (i : Nat) (v : outParam V) : Prop where
  eq : σ[i]? = some (some v)
instance {v : V} {r : L2.St} : GetV (some v :: r) 0 v := ⟨rfl⟩
instance {x : Option V} {r : L2.St} {i : Nat} {v : V} [h : GetV r i v] : GetV (x :: r) (i + 1) v := ⟨h.eq⟩
class SetV (σ : L2.St) (i : Nat) (v : V) (τ : outParam L2.St) : Prop where
  eq : σ.set i (some v) = τ
instance {x : Option V} {v : V} {r : L2.St} : SetV (x :: r) 0 v (some v :: r) := ⟨rfl⟩
instance {x : Option V} {v : V} {r τ : L2.St} {i : Nat} [h : SetV r i v τ] : SetV (x :: r) (i + 1) v (x :: τ) := ⟨congrArg (x :: ·) h.eq⟩
instance {σ : L2.St} {i : Nat} {v : V} {H : Hp} {Q : VK} [h : GetV σ i v] : Stp (tVar i σ H Q) (Q v H) := ⟨fun q => ⟨v, h.eq, q⟩⟩
instance {σ τ : L2.St} {i : Nat} {v : V} {H : Hp} {R : L2.St → Hp → Prop} [h : SetV σ i v τ] : Stp (gName i v σ H R) (R τ H) := ⟨fun q => s_nameR h.eq q⟩
section
variable {K : PySem.W.Frag} {X : Cx}
instance {g : TG} : Stp (tAsg te g D σ H) (te σ H fun x H1 => g x σ H1 D.nx) := ⟨s_asg⟩
instance  : Stp (tRet te D σ H) (te σ H D.rt) := ⟨s_ret⟩
instance  : Stp (tNext D σ H) (D.nx σ H) := ⟨s_next⟩
instance  : Stp (tBreak D σ H) (D.bk σ H) := ⟨s_brk⟩
instance  : Stp (tCont D σ H) (D.ct σ H) := ⟨s_cnt⟩
instance  : Stp (tRetN D σ H) (D.rt .non H) := ⟨s_retN⟩
instance  : Stp (tDrop te D σ H) (te σ H fun _ H1 => D.nx σ H1) := ⟨s_drop⟩
instance  : Stp (tOp r ta tb σ H Q) (ta σ H fun x H1 => tb σ H1 fun y H2 => r x y H2 Q) := ⟨s_op⟩
instance  : Stp (tC v σ H Q) (Q v H) := ⟨s_c⟩
instance {r : V → Hp → VK → Prop} : Stp (tUn r ta σ H Q) (ta σ H fun x H1 => r x H1 Q) := ⟨s_un⟩
instance {Q : Bool → Hp → Prop} : Stp (tTest te σ H Q) (te σ H fun x H' => ∃ k, x = .bl k ∧ Q k H') := ⟨s_test⟩
instance {Q : Bool → Hp → Prop} : Stp (tB te σ H Q) (te σ H fun x H' => ∃ k, x = .bl k ∧ Q k H') := ⟨s_B⟩
instance {Q : Bool → Hp → Prop} : Stp (tNot tA σ H Q) (tA σ H fun c H1 => Q (!c) H1) := ⟨s_not⟩
instance  : Stp (tNotV ta σ H Q) (ta σ H fun x H1 => ∃ c, x = .bl c ∧ Q (.bl (!c)) H1) := ⟨s_notV⟩
instance  : Stp (tIf tA ta tb σ H Q) (tA σ H fun c H1 => if c = true then ta σ H1 Q else tb σ H1 Q) := ⟨s_if⟩
instance  : Stp (uAdd K (.int n) (.int m) H Q) (Q (.int (n + m)) H) := ⟨s_add⟩
instance  : Stp (uSub (.int n) (.int m) H Q) (Q (.int (n - m)) H) := ⟨s_sub⟩
instance  : Stp (uLt (.int n) (.int m) H Q) (Q (.bl (decide (n < m))) H) := ⟨s_lt⟩
instance  : Stp (uLe (.int n) (.int m) H Q) (Q (.bl (decide (n ≤ m))) H) := ⟨s_le⟩
instance  : Stp (uGt (.int n) (.int m) H Q) (Q (.bl (decide (m < n))) H) := ⟨s_gt⟩
instance  : Stp (uGe (.int n) (.int m) H Q) (Q (.bl (decide (m ≤ n))) H) := ⟨s_ge⟩
instance  : Stp (uEq K (.int n) (.int m) H Q) (Q (.bl (decide (n = m))) H) := ⟨s_eqi⟩
instance  : Stp (uNe K (.int n) (.int m) H Q) (Q (.bl (!decide (n = m))) H) := ⟨s_nei⟩
instance  : Stp (uEq K (.str a) (.str b) H Q) (Q (.bl (decide (a = b))) H) := ⟨s_eqs⟩
instance  : Stp (uNe K (.str a) (.str b) H Q) (Q (.bl (!decide (a = b))) H) := ⟨s_nes⟩
instance {c : Nat} {z : Str} : Stp (uIn K false (.str ⟨#[c]⟩) (.str z) H Q) (Q (.bl (decide (c ∈ z.cps.toList))) H) := ⟨s_in1⟩
instance {c : Nat} {z : Str} : Stp (uIn K true (.str ⟨#[c]⟩) (.str z) H Q) (Q (.bl (!decide (c ∈ z.cps.toList))) H) := ⟨s_notin1⟩
instance  : Stp (uIs x .non H Q) (Q (.bl (decide (x = .non))) H) := ⟨s_is⟩
instance {a b : Bool} {H : Hp} {Q : VK} : Stp (uIsB (.bl a) (.bl b) H Q) (Q (.bl (decide (a = b))) H) := ⟨s_isb⟩
instance  : Stp (uIsNot x .non H Q) (Q (.bl (!decide (x = .non))) H) := ⟨s_isnot⟩
instance {Q : List V → Hp → Prop} : Stp (tNil σ H Q) (Q [] H) := ⟨s_nil⟩
instance {Q : List V → Hp → Prop} {tr : TA} : Stp (tCons te tr σ H Q) (te σ H fun x H1 => tr σ H1 fun xs H2 => Q (x :: xs) H2) := ⟨s_cons⟩
instance {t : TA} : Stp (tLst t σ H Q) (t σ H (LstK Q)) := ⟨s_lst⟩
instance {t : TA} : Stp (tTup t σ H Q) (t σ H (TupK Q)) := ⟨s_tup⟩
instance {r : List V → Hp → VK → Prop} {t : TA} : Stp (tCB r t σ H Q) (t σ H fun vs H1 => r vs H1 Q) := ⟨s_cb⟩
instance {sp : Sp} {E : XK} {t : TA} : Stp (tGo sp E t σ H Q) (t σ H fun vs H1 => sp vs H1 Q E) := ⟨s_go⟩
instance  : Stp (tCo sp W t σ H Q) (t σ H fun vs H1 => sp vs H1 Q fun cls d H' => W cls d σ H') := ⟨s_co⟩
instance  : Stp (tMt C m sp W ta t σ H Q) (ta σ H (MtK C m fun x H1 => t σ H1 fun vs H2 => sp (x :: vs) H2 Q fun cls d H' => W cls d σ H')) := ⟨s_mt⟩
instance  : Stp (tNw C sp W t σ H Q) (t σ H (NewK C sp (fun cls d H' => W cls d σ H') Q)) := ⟨s_nw⟩
instance {C : Addr} {sp : Sp} {W : WX} {t : TA} {σ : L2.St} {H : Hp} {Q : VK} : Stp (tNwD C sp W t σ H Q) (t σ H fun vs H1 => NewK C sp (fun cls d H' => W cls d σ H') Q (vs ++ [.non]) H1) := ⟨s_nwD⟩
instance  : Stp (tFd K ta f σ H Q) (ta σ H (FldK K f Q)) := ⟨s_fd⟩
instance  : Stp (tSd K ta tv f D σ H) (tv σ H fun y H1 => ta σ H1 (SetK K f y (D.nx σ))) := ⟨s_sd⟩
instance {tv : TE} {rd : V → V → Hp → VK → Prop} : Stp (tFa K te tv rd f D σ H) (te σ H (FaK K f fun a C v H1 => tv σ H1 fun y H2 => rd v y H2 (FbK f a C (D.nx σ)))) := ⟨s_fa⟩
instance {n m : Int} : Stp (rAdd (.int n) (.int m) H Q) (Q (.int (n + m)) H) := ⟨s_radd⟩
instance {n m : Int} : Stp (rSub (.int n) (.int m) H Q) (Q (.int (n - m)) H) := ⟨s_rsub⟩
instance {cls : Value} {d : Option Addr} : Stp (tXe a cls d C f te σ H Q) (te σ H (XfK a cls d C f Q)) := ⟨s_xe⟩
instance  : Stp (tSe K t σ H Q) (t σ H (SeK K Q)) := ⟨s_se⟩
instance  : Stp (tOs K f to te D σ H) (te σ H fun y H1 => to σ H1 (OsK K f y (D.nx σ))) := ⟨s_os⟩
instance {W : WX} : Stp (tRz C f W te D σ H) (te σ H (RzK C f fun cls d H' => W cls d σ H')) := ⟨s_rz⟩
instance {Wout : WX} {l : List Clause} {tb : WX → TS} : Stp (tTry K Wout l tb D σ H) (tb (wCl K Wout D l) D σ H) := ⟨s_try⟩
instance  : Stp (tDg td ty σ H Q) (td σ H fun x H1 => ty σ H1 (DgK x Q)) := ⟨s_dg⟩
instance {ng : Bool} : Stp (tDn ng ty td σ H Q) (ty σ H fun y H1 => td σ H1 (DnK ng y Q)) := ⟨s_dn⟩
instance  : Stp (tPop td ty σ H Q) (td σ H (PopJ ty σ Q)) := ⟨s_pop⟩
instance  : Stp (tBM K T r to t σ H Q) (to σ H fun x H1 => tyV K T x H1 ∧ t σ H1 fun xs H2 => r x xs H2 Q) := ⟨s_bm⟩
instance {R : L2.St → Hp → Prop} : Stp (gNil [] σ H R) (R σ H) := ⟨s_gn⟩
instance {R : L2.St → Hp → Prop} : Stp (gTl to tl v σ H R) (to σ H fun x H1 => tl σ H1 (TlK x v (R σ))) := ⟨s_tl⟩
instance {R : L2.St → Hp → Prop} {t : TG} {u : TGs} : Stp (gCons t u (v :: vs) σ H R) (t v σ H fun σ1 H1 => u vs σ1 H1 R) := ⟨s_gc⟩
instance {ta : TA} {R : It → Hp → Prop} : Stp (iRng2 ta σ H R) (ta σ H fun vs H1 => ∃ i j : Int, vs = [.int i, .int j] ∧ (-(2 ^ 62) ≤ i ∧ i < 2 ^ 62 ∧ -(2 ^ 62) ≤ j ∧ j < 2 ^ 62) ∧ R (Itr i (j - i).toNat) H1) := ⟨s_rng2⟩
instance  : Stp (tBM0 K T r to σ H Q) (to σ H fun x H1 => tyV K T x H1 ∧ r x [] H1 Q) := ⟨s_bm0⟩
instance {R : Prop} : Stp (tyV K "str" (.str z) H ∧ R) (R) := ⟨s_tys⟩
instance {Q : List (V × V) → Hp → Prop} : Stp (tPairs [] σ H Q) (Q [] H) := ⟨s_pnil⟩
instance {Q : List (V × V) → Hp → Prop} {tk tv : TE} {r : List (TE × TE)} : Stp (tPairs ((tk, tv) :: r) σ H Q) (tk σ H fun x H1 => tv σ H1 fun y H2 => tPairs r σ H2 fun ps H3 => Q ((x, y) :: ps) H3) := ⟨s_pcons⟩
instance  : Stp (uMax [.int n, .int m] H Q) (Q (.int (if m > n then m else n)) H) := ⟨s_max2⟩
instance  : Stp (uMin [.int n, .int m] H Q) (Q (.int (if m < n then m else n)) H) := ⟨s_min2⟩
instance {to ti : TE} {t : V → V → V → Hp → (Hp → Prop) → Prop} {R : L2.St → Hp → Prop} : Stp (gSub to ti t v σ H R) (to σ H fun o H1 => ti σ H1 fun i H2 => t o i v H2 fun H3 => R σ H3) := ⟨s_sub2⟩
instance {r : V → Option Int → Option Int → Hp → VK → Prop} {te : TE} {tl th : TO} : Stp (tSl r te tl th σ H Q) (te σ H fun x H1 => tl σ H1 fun l H2 => th σ H2 fun u H3 => r x l u H3 Q) := ⟨s_sl⟩
instance {Q : Option Int → Hp → Prop} : Stp (tNoPart σ H Q) (Q none H) := ⟨s_nopart⟩
instance {Q : Option Int → Hp → Prop} {t : TE} : Stp (tPart t σ H Q) (t σ H fun x H1 => ∃ i, x = .int i ∧ Q (some i) H1) := ⟨s_part⟩
instance {P : Int → Prop} : Stp (∃ i, V.int n = .int i ∧ P i) (P n) := ⟨s_int⟩
instance {r : V → List V → Hp → VK → Prop} {to te : TE} : Stp (tM1 r to te σ H Q) (to σ H fun x H1 => (∃ a, x = .str a) ∧ te σ H1 fun y H2 => r x [y] H2 Q) := ⟨s_m1⟩
instance {r : V → List V → Hp → VK → Prop} {to : TE} : Stp (tM0 r to σ H Q) (to σ H fun x H1 => (∃ a, x = .str a) ∧ r x [] H1 Q) := ⟨s_m0⟩
instance {R : Prop} : Stp ((∃ b, V.str a = .str b) ∧ R) (R) := ⟨s_isstr⟩
instance {ta : TA} {R : It → Hp → Prop} : Stp (iRng1 ta σ H R) (ta σ H fun vs H1 => ∃ j : Int, vs = [.int j] ∧ -(2 ^ 62) ≤ j ∧ j < 2 ^ 62 ∧ R (Itr 0 j.toNat) H1) := ⟨s_rng1⟩
instance {tl : TE} {R : It → Hp → Prop} : Stp (iList K tl σ H R) (tl σ H fun x H1 => ∃ a, x = .ref a ∧ (∃ xs, SqL K H1 a xs) ∧ R (Itl K a) H1) := ⟨s_ilist⟩
instance {te : TE} {R : It → Hp → Prop} : Stp (iStr te σ H R) (te σ H fun v H1 => ∃ x, v = .str x ∧ R (Its x) H1) := ⟨s_istr⟩
instance {R : Str → Prop} : Stp (∃ x, V.str a = .str x ∧ R x) (R a) := ⟨s_istr1⟩
instance {Q : Bool → Hp → Prop} : Stp (tYes σ H Q) (Q true H) := ⟨s_yes⟩
instance {i j : Nat} {ta : TA} {D : Ends} {σ : L2.St} {H : Hp} : Stp (tPar i j ta D σ H) (ta σ H fun vs H1 => ∃ u v, vs = [u, v] ∧ D.nx ((σ.set i (some u)).set j (some v)) H1) := ⟨s_par⟩
instance {u v : V} {R : V → V → Prop} : Stp (∃ u' v', [u, v] = [u', v'] ∧ R u' v') (R u v) := ⟨s_two⟩
instance  : Stp (iSeq K tl σ H R) (tl σ H fun x H1 => ∃ a, x = .ref a ∧ (((∃ xs, SqL K H1 a xs) ∧ R (Itl K a) H1) ∨ ((∃ xs, SqT K H1 a xs) ∧ R (Itt K a) H1))) := ⟨s_iseq⟩
instance  : Stp (iTup K tl σ H R) (tl σ H fun x H1 => ∃ a, x = .ref a ∧ (∃ xs, SqT K H1 a xs) ∧ R (Itt K a) H1) := ⟨s_itup⟩
instance  : Stp (iEnumT K ta σ H R) (ta σ H fun vs H1 => ∃ a xs, vs = [.ref a] ∧ SqT K H1 a xs ∧ R (IteT K a) H1) := ⟨s_ienT⟩
instance  : Stp (iEnum K ta σ H R) (ta σ H fun vs H1 => ∃ a xs, vs = [.ref a] ∧ SqL K H1 a xs ∧ R (Ite K a) H1) := ⟨s_ienL⟩
instance  : Stp (iEnumS K ta σ H R) (ta σ H fun vs H1 => ∃ a xs c, vs = [.ref a, .int c] ∧ SqL K H1 a xs ∧ (-(2 ^ 62) ≤ c ∧ c < 2 ^ 62) ∧ R (IteS K a c) H1) := ⟨s_ienS⟩
instance  : Stp (iZipB K ta σ H R) (ta σ H fun vs H1 => ∃ a b b1 b2 xs ys, vs = [.ref a, .ref b] ∧ SqB K b1 H1 a xs ∧ SqB K b2 H1 b ys ∧ R (ItzB K b1 b2 a b) H1) := ⟨s_izB⟩
instance  : Stp (tJo ts σ H Q) (tJs ts Str.empty σ H fun out H1 => Q (.str out) H1) := ⟨s_jo⟩
instance  : Stp (tJs (tFmt te :: ts) acc σ H q) (te σ H (FmK ts acc σ q)) := ⟨s_jsF⟩
instance {i : Int} : Stp (uAbs [.int i] H Q) (Q (.int (if i < 0 then -i else i)) H) := ⟨s_abs⟩
end
end U

namespace U
open PySem L2 PySem.Spec PyProof.Rows
/-! xs[::-1] of a list, a tuple -/
section
variable {prog : Program} {w : World} {A : Around} {E : Value → Shared → Prop} {s : Shared}
theorem adjust_rev (n : Nat) : Builtin.Slice.sliceAdjust none none (-1) (n : Int) = ((n : Int) - 1, -1) := by
  unfold Builtin.Slice.sliceAdjust
  simp
theorem places_rev (n : Nat) : Builtin.Slice.slicePlaces ((n : Int) - 1) (-1) (-1) = n := by
  unfold Builtin.Slice.slicePlaces
  have h1 : ¬ ((-1 : Int) > 0) := by omega
  simp only [h1, if_false]
  split
  · have e : ((n : Int) - 1 - -1 - 1) / (- -1) + 1 = (n : Int) := by
      rw [show (- -1 : Int) = 1 by decide, Int.ediv_one]; omega
    rw [e]; exact Int.toNat_natCast n
  · omega
theorem pick_rev (xs : Array Value) : ((List.range xs.size).filterMap fun (m : Nat) => xs[(((xs.size : Int) - 1) + (m : Int) * (-1)).toNat]?).toArray = xs.toList.reverse.toArray := by
  have e := PySem.W.krv_pick xs
  unfold slicePick at e
  rw [PySem.W.krv_bounds] at e
  rw [← e]
  show _ = ((sliceRange ((xs.size : Int) - 1) (-1) (-1)).filterMap (xs[·]?)).toArray
  rw [PySem.W.krv_sliceRange, List.filterMap_map]
  congr 1
  have key : (List.range xs.size).map (fun (m : Nat) => xs[(((xs.size : Int) - 1) + (m : Int) * (-1)).toNat]?) = (List.range xs.size).map ((fun x => xs[x]?) ∘ fun k => xs.size - 1 - k) := by
    apply List.map_congr_left
    intro m hm
    have := List.mem_range.mp hm
    show xs[(((xs.size : Int) - 1) + (m : Int) * (-1)).toNat]? = xs[xs.size - 1 - m]?
    congr 1
    omega
  have := congrArg (List.filterMap id) key
  rw [List.filterMap_map, List.filterMap_map] at this
  exact this
theorem getItem_tuple_rev {t sl : Addr} {items : Array Value} {vs : Value} {Q : Value → Shared → Prop} (ht : IsTup s.heap t items) (hs : s.heap.IsSliceOf sl .none .none vs) (ps : IsPart vs (some (-1)))
    (h : Q (.ref s.heap.objs.size) { s with heap := s.heap.push { cls := .type "tuple", data := .seq items.toList.reverse.toArray } })
    (hsz : items.size ≤ sizeLine) : wpAny (model prog w) A (getItem (.ref t) (.ref sl)) Q E s := by
  have htake : sizeOk (.seq items.toList.reverse.toArray) := by
    show items.toList.reverse.toArray.size ≤ sizeLine
    rw [List.size_toArray, List.length_reverse, Array.length_toList]
    exact hsz
  obtain ⟨os, hos, hcs, hds⟩ := id hs
  have hTs : s.TypeIs (.ref sl) "slice" := ⟨os, hos, hcs⟩
  unfold getItem
  try with_reducible refine wpAny_holding ?_
  first | refine wpAny_bind (wpAny_pure ?_) | skip
  refine wpAny_bind (wpAny_sequenceKey ht.typeIs (by decide) ?_)
  refine wpAny_bind (wpAny_callSpecial?_slot (name := Str.ofString "__getitem__") ht.typeIs PyProof.Rows.slot_tuple_getitem
    (wpAny_call_entry PyProof.Rows.slot_tuple_getitem ht.typeIs PyProof.Rows.entry_tuple_getitem ?_ (PyProof.Rows.args_tuple_getitem _ _)))
  show wpAny _ _ (Builtin.Tuple.tupleItemsOf (.ref t) >>= _) _ _ s
  refine wpAny_bind (PyProof.Rows.tupleItemsOf_ ht ?_)
  refine wpAny_bind (wpAny_typeOf hTs ?_)
  rw [if_pos (by decide)]
  refine wpAny_bind (m := Builtin.Slice.sliceApplied (.ref sl) (pure (items.size : Int))) ?_
  unfold Builtin.Slice.sliceApplied Builtin.Slice.sliceFields
  refine wpAny_bind (wpAny_bind (wpAny_field hos hds (x := .none) rfl (wpAny_bind (wpAny_field hos hds (x := .none) rfl (wpAny_bind (wpAny_field hos hds (x := vs) rfl (wpAny_pure ?_)))))))
  refine wpAny_bind (HT.slicePart_ ps ?_)
  show wpAny _ _ (if ((-1 : Int) == 0) = true then _ else _) _ _ s
  rw [if_neg (by decide)]
  refine wpAny_bind (HT.slicePart_ .none (wpAny_bind (HT.slicePart_ .none (wpAny_bind (wpAny_pure ?_)))))
  show wpAny _ _ (match Builtin.Slice.sliceAdjust none none (-1) (items.size : Int) with | (lo, hi) => pure (lo, (-1 : Int), Builtin.Slice.slicePlaces lo hi (-1))) _ _ s
  rw [adjust_rev items.size]
  show wpAny _ _ (pure (((items.size : Int) - 1), (-1 : Int), Builtin.Slice.slicePlaces ((items.size : Int) - 1) (-1) (-1))) _ _ s
  rw [places_rev]
  refine wpAny_pure ?_
  show wpAny _ _ (if (((items.size : Int) - 1) == 0 && (-1 : Int) == 1 && items.size == items.size) = true then _ else _) _ _ s
  rw [if_neg (by
    intro q
    rw [Bool.and_eq_true, Bool.and_eq_true] at q
    exact absurd (eq_of_beq q.1.2) (by decide)), pick_rev]
  first
    | exact wpAny_bind (m := Builtin.Tuple.tupleExact _) (wpAny_newObj_type (wpAny_pure ⟨_, rfl, wpAny_pure h⟩) htake)
    | exact wpAny_bind (m := Builtin.Tuple.tupleExact _) (wpAny_newObj_type (wpAny_bind (wpAny_pure (wpAny_pure ⟨_, rfl, wpAny_pure h⟩))) htake)
    | exact wpAny_bind (wpAny_bind (m := Builtin.Tuple.tupleExact _) (wpAny_newObj_type (wpAny_pure (wpAny_pure ⟨_, rfl, wpAny_pure h⟩)) htake))
    | exact wpAny_bind (wpAny_bind (m := Builtin.Tuple.tupleExact _) (wpAny_newObj_type (wpAny_pure ⟨_, rfl, wpAny_pure h⟩) htake))
end
section
variable {X : Cx} {K : PySem.W.Frag} {e eo : Expr} {te to : TE} {pos p2 : Pos} {σ : L2.St} {H : Hp} {Q : VK} {p : Addr} {xs : List V}
def RevK (K : PySem.W.Frag) (Q : VK) : V → Hp → Prop := fun x H => ∃ a xs, x = .ref a ∧ ((SqL K H a xs ∧ ∀ p, H p = none → Q (.ref p) (upd H p (.lst xs.reverse))) ∨ (SqT K H a xs ∧ ∀ p, H p = none → Q (.ref p) (upd H p (.tup xs.reverse))))
def tRev (K : PySem.W.Frag) (te to : TE) : TE := fun σ H Q => te σ H fun x H1 => to σ H1 fun y H2 => y = .int (-1) ∧ RevK K Q x H2
theorem pe_rev (hK : X.K = K) (he : PE X e te) (ho : PE X eo to) : PE X (.Subscript e (.Slice none none (some eo) p2) pos) (tRev K te to) := by
  subst hK
  refine ⟨fun pins s σ H Q I h => ?_⟩
  refine Subscript_ (thn (he.run pins s σ H _ I h) fun v s1 ⟨x, H1, I1, r1, q1⟩ => ?_)
  refine wpAny_Slice ?_
  rw [evalPart_none]
  refine wpAny_pure (wpAny_pure ?_)
  rw [evalPart_some]
  refine thn (ho.run pins s1 σ H1 _ I1 q1) fun vs s3 ⟨y, H3, I3, r3, q3⟩ => ?_
  obtain ⟨ey, a, xs, ex, q⟩ := q3
  subst ey ex
  obtain ⟨tk, rfl⟩ := r3
  cases r1
  have I4 : Inv X pins σ H3 { s3 with heap := s3.heap.push { cls := .type "slice", data := .fields #[.none, .none, .int (-1) tk] } } := I3.kept (t' := s3.toks) fun b ob q => Heap.get?_push_of_some _ q
  have hsl : Heap.IsSliceOf (s3.heap.push { cls := .type "slice", data := .fields #[.none, .none, .int (-1) tk] }) s3.heap.objs.size .none .none (.int (-1) tk) := Heap.IsSliceOf.new ..
  show wpAny (model X.prog X.w) X.A (subscriptTail e (.Slice none none (some eo) p2) (.ref a) (.ref s3.heap.objs.size)) (EP X pins σ Q) X.xe { s3 with heap := s3.heap.push { cls := .type "slice", data := .fields #[.none, .none, .int (-1) tk] } }
  rcases q with ⟨hx, q⟩ | ⟨hx, q⟩
  · obtain ⟨its, r, ht, hz⟩ := I4.list hx
    refine tail_any (ops := [.ref a, .ref s3.heap.objs.size]) ht.isList.typeIs slot_list_getitem.lookup ?_ (by with_unfolding_all rfl)
    refine wpAny_getItem_list_slice ht.isList hsl .none .none (.int (-1) tk) (by decide) ?_ (by rw [List.size_toArray, ← r.length]; exact hz)
    rw [PySem.W.krv_pick]
    refine ⟨.ref _, upd H3 _ (.lst xs.reverse), I4.laid (t' := s3.toks) (o := .lst xs.reverse) (fun b ob q => Heap.get?_push_of_some _ q) (Nat.le_refl _) ?_, rfl, q _ (I4.hok.fresh (Nat.le_refl _))⟩
    exact ⟨by rw [List.length_reverse]; exact hz, _, 0, Vals.reverse r, Heap.get?_push_size _ rfl⟩
  · obtain ⟨its, r, ht, hz⟩ := I4.tuple hx
    refine tail_any (ops := [.ref a, .ref s3.heap.objs.size]) ht.typeIs PyProof.Rows.slot_tuple_getitem.lookup ?_ (by with_unfolding_all rfl)
    refine getItem_tuple_rev ht hsl (.int (-1) tk) ?_ (by rw [List.size_toArray, ← r.length]; exact hz)
    refine ⟨.ref _, upd H3 _ (.tup xs.reverse), I4.laid (t' := s3.toks) (o := .tup xs.reverse) (fun b ob q => Heap.get?_push_of_some _ q) (Nat.le_refl _) ?_, rfl, q _ (I4.hok.fresh (Nat.le_refl _))⟩
    exact ⟨by rw [List.length_reverse]; exact hz, _, Vals.reverse r, IsTup.new _ _⟩
instance : Stp (tRev K te to σ H Q) (te σ H fun x H1 => to σ H1 fun y H2 => y = .int (-1) ∧ RevK K Q x H2) := ⟨fun h => h⟩
theorem s_revL (h : H p = some (.lst xs)) (q : ∀ l H', H l = none → H' l = some (.lst xs.reverse) → Kp [] H H' → Q (.ref l) H') : V.int (-1) = .int (-1) ∧ RevK K Q (.ref p) H :=
  ⟨rfl, p, xs, rfl, Or.inl ⟨SqL.of h, new_abs (R := fun l H' => Q (.ref l) H') q⟩⟩
theorem s_revT (h : H p = some (.tup xs)) (q : ∀ l H', H l = none → H' l = some (.tup xs.reverse) → Kp [] H H' → Q (.ref l) H') : V.int (-1) = .int (-1) ∧ RevK K Q (.ref p) H :=
  ⟨rfl, p, xs, rfl, Or.inr ⟨SqT.of h, new_abs (R := fun l H' => Q (.ref l) H') q⟩⟩
end
end U

namespace U
open PySem L2 PySem.Spec PyProof.Rows
/-! tuple(reversed(xs)) of a list -/
section
variable {X : Cx} {K : PySem.W.Frag} {e : Expr} {te : TE} {p p2 pos pos2 : Pos} {σ : L2.St} {H : Hp} {Q : VK} {a : Addr} {xs : List V}
def TrvK (K : PySem.W.Frag) (Q : VK) : V → Hp → Prop := fun x H => ∃ a xs, x = .ref a ∧ SqL K H a xs ∧ ∀ p, H p = none → Q (.ref p) (upd H p (.tup xs.reverse))
def tTrv (K : PySem.W.Frag) (te : TE) : TE := fun σ H Q => te σ H (TrvK K Q)
theorem pe_tupRev (hK : X.K = K) (hc : X.calm = true) (hgT : Gl X "tuple") (hmT : X.mg "tuple" = none) (hgR : Gl X "reversed") (hmR : X.mg "reversed" = none) (he : PE X e te)
    (hs : starEach [e] X.env = [(false, eval e X.env)] := by rfl) (hs2 : starEach [.Call (.Name "reversed" p2) [e] [] pos2] X.env = [(false, eval (.Call (.Name "reversed" p2) [e] [] pos2) X.env)] := by rfl) :
    PE X (.Call (.Name "tuple" p) [.Call (.Name "reversed" p2) [e] [] pos2] [] pos) (tTrv K te) := by
  subst hK
  refine ⟨fun pins s σ H Q I h => ?_⟩
  refine wpAny_Call_Name_kw (ld_blt I hgT hmT bt_tuple ?_ (by decide) (by decide))
  refine PyProof.Rows.callWith_type1 ?_ hs2 rfl
  rw [hs2]
  show wpAny _ _ (spliced ((false, eval (.Call (.Name "reversed" p2) [e] [] pos2) X.env) :: [])) _ _ s
  refine Calls.spliced_cons ?_
  refine Call_ (ld_blt I hgR hmR PyProof.Rows.boot_reversed (PyProof.Rows.callWith_type1 ?_ hs rfl))
  rw [hs]
  show wpAny _ _ (spliced ((false, eval e X.env) :: [])) _ _ s
  refine Calls.spliced_cons (thn (he.run pins s σ H _ I h) fun u s1 ⟨x, H1, I1, r1, q1⟩ => Calls.spliced_nil ?_)
  obtain ⟨a, xs, ex, hq, q⟩ := q1
  subst ex
  cases r1
  obtain ⟨its, rv, p', hz⟩ := I1.list hq
  refine call_reversed_list p'.isList ?_
  refine Calls.spliced_nil ?_
  have hl := rv.length
  have hlt : a < s1.heap.objs.size := by obtain ⟨o, ho, _⟩ := p'.isList; exact Heap.lt_size ho
  refine RT.call_tuple_rev (items := its.toArray) (l := a) (I1.ok.hd hc) ⟨_, Heap.get?_push_size _ rfl, rfl, rfl⟩ (p'.isList.push _) (Nat.ne_of_lt hlt) (by rw [List.size_toArray, ← hl]; exact hz) fun h' tk acc hk hacc => ?_
  have I2 : Inv X pins σ H1 { s1 with heap := h', toks := tk } := I1.kept (t' := tk) fun b o e => hk b o (Nat.ne_of_lt (Heap.lt_size e)) (Heap.get?_push_of_some _ e)
  have hv : Vals xs.reverse acc.toList := by
    refine vals_of_at (by have h0 := hacc.1; simp only [List.size_toArray] at h0; simp only [List.length_reverse, Array.length_toList]; omega) fun m x w h1 h2 => ?_
    have e2 := hacc.2 m w (by rw [← Array.getElem?_toList]; exact h2)
    have hm : m < xs.length := by have := (List.getElem?_eq_some_iff.mp h1).1; rwa [List.length_reverse] at this
    rw [List.getElem?_reverse hm] at h1
    rw [List.size_toArray, List.getElem?_toArray, ← hl] at e2
    obtain ⟨u', hu', ru⟩ := rv.get h1
    rw [e2] at hu'
    cases hu'
    exact ru
  refine ⟨.ref _, upd H1 _ (.tup xs.reverse), I2.laid (t' := tk) (o := .tup xs.reverse) (fun b ob q => Heap.get?_push_of_some _ q) (Nat.le_refl _) ?_, rfl, q _ (I2.hok.fresh (Nat.le_refl _))⟩
  refine ⟨by rw [List.length_reverse]; exact hz, _, hv, ?_⟩
  have := IsTup.new h' acc
  simpa using this
instance : Stp (tTrv K te σ H Q) (te σ H (TrvK K Q)) := ⟨fun h => h⟩
theorem s_trv (h : H a = some (.lst xs)) (q : ∀ t H', H t = none → H' t = some (.tup xs.reverse) → Kp [] H H' → Q (.ref t) H') : TrvK K Q (.ref a) H :=
  ⟨a, xs, rfl, SqL.of h, new_abs (R := fun l H' => Q (.ref l) H') q⟩
end
end U

namespace U
open PySem L2 PySem.Spec PyProof.Rows
/-! dict(zip(ks, ys)) of two lists -/
section
variable {X : Cx} {K : PySem.W.Frag} {e e2 : Expr} {ta : TA} {p p2 pos pos2 : Pos} {σ : L2.St} {H : Hp} {Q : VK} {a b : Addr} {ys : List V} {ks : List Key}
theorem key_is {k : Key} {u : Value} (h : RelV (kV k) u) : keyIs k u = true := by
  cases k with
  | inl i => obtain ⟨t, rfl⟩ := h; exact keyIs_int i t
  | inr x => obtain ⟨t, rfl⟩ := h; exact keyIs_str x t
theorem kv_zip : ∀ {ks : List Key} {ys : List V} {us : List Value}, Vals ys us → KV (ks.zip ys) (ks.zip us)
  | [], _, _, _ => .nil
  | k :: ks, [], _, r => by cases r; exact .nil
  | k :: ks, y :: ys, _, r => by
    cases r with
    | cons a b => exact .cons ⟨rfl, a⟩ (kv_zip b)
def DzK (K : PySem.W.Frag) (Q : VK) : List V → Hp → Prop := fun vs H => ∃ (a b : Addr) (ks : List Key) (ys : List V), vs = [.ref a, .ref b] ∧ SqL K H a (ks.map kV) ∧ SqL K H b ys ∧ ks.length = ys.length ∧ ∀ p, H p = none → Q (.ref p) (upd H p (.dK (mergeK [] (ks.zip ys))))
def tDz (K : PySem.W.Frag) (ta : TA) : TE := fun σ H Q => ta σ H (DzK K Q)
theorem pe_dictZip (hK : X.K = K) (hc : X.calm = true) (hgD : Gl X "dict") (hmD : X.mg "dict" = none) (hgZ : Gl X "zip") (hmZ : X.mg "zip" = none) (ha : PA X [e, e2] ta)
    (hs : starEach [e, e2] X.env = (false, eval e X.env) :: starEach [e2] X.env := by rfl) (hpl : (backTo pos2 (starEach [e2] X.env)).any (·.1) = false := by rfl)
    (hs2 : starEach [.Call (.Name "zip" p2) [e, e2] [] pos2] X.env = [(false, eval (.Call (.Name "zip" p2) [e, e2] [] pos2) X.env)] := by rfl) :
    PE X (.Call (.Name "dict" p) [.Call (.Name "zip" p2) [e, e2] [] pos2] [] pos) (tDz K ta) := by
  subst hK
  refine ⟨fun pins s σ H Q I h => ?_⟩
  refine wpAny_Call_Name_kw (ld_blt I hgD hmD bt_dict ?_ (by decide) (by decide))
  refine PyProof.Rows.callWith_type1 ?_ hs2 rfl
  rw [hs2]
  show wpAny _ _ (spliced ((false, eval (.Call (.Name "zip" p2) [e, e2] [] pos2) X.env) :: [])) _ _ s
  refine Calls.spliced_cons ?_
  refine Call_ (ld_blt I hgZ hmZ PyProof.Rows.boot_zip (PyProof.Rows.callWith_type1 (thn (ha.run pos2 pins s σ H _ I h) fun us s1 ⟨vs, H1, I1, r1, q1⟩ => ?_) hs hpl))
  obtain ⟨a, b, ks, ys, ex, hqx, hqy, hl, q⟩ := q1
  subst ex
  cases r1 with
  | cons r rr =>
    cases rr with
    | cons r' rr =>
      cases rr
      cases r
      cases r'
      obtain ⟨its, rv, p1, hz1⟩ := I1.list hqx
      obtain ⟨its2, rv2, p2', hz2⟩ := I1.list hqy
      have l1 := rv.length
      have l2 := rv2.length
      rw [List.length_map] at l1 hz1
      refine zip_begins2 (begins_list a its.toArray) (begins_list b its2.toArray) p1.isList p2'.isList fun h' hz hTI hTO h1 h2 hsz hk => ?_
      refine Calls.spliced_nil ?_
      have lt1 : a < s1.heap.objs.size := by obtain ⟨o, ho, _⟩ := p1.isList; exact Heap.lt_size ho
      have lt2 : b < s1.heap.objs.size := by obtain ⟨o, ho, _⟩ := p2'.isList; exact Heap.lt_size ho
      have P := PySem.PairArg.zip (prog := X.prog) (w := X.w) _ _ _ _ _ _ _ (PySem.W.ktu_apart s1.heap.objs.size a b lt1 lt2) its.toArray its2.toArray
      have hmin : min its.toArray.size its2.toArray.size = ks.length := by simp only [List.size_toArray]; omega
      refine PySem.call_dict_pairs (s := { s1 with heap := h' }) (knd := mixKind X.prog X.w) (kvs := ks.zip its2) P (I1.ok.hd hc) ⟨hz, hTI, ⟨_, _, hTO⟩, ⟨_, h1, rfl, rfl⟩, ⟨_, h2, rfl, rfl⟩, p1.isList.at fun o e => hk _ o e, p2'.isList.at fun o e => hk _ o e⟩ ⟨by rw [hmin, List.length_zip]; omega, fun i key v hr => ?_⟩ (by rw [hmin]; exact hz1) fun h'' tk hd' hk2 => ?_
      · obtain ⟨e1, e2⟩ := hr
        rw [List.getElem?_toArray] at e1 e2
        have hi : i < ks.length := by have := (List.getElem?_eq_some_iff.mp e1).1; omega
        obtain ⟨u, eu, ru⟩ := rv.get (i := i) (x := kV ks[i]) (by rw [List.getElem?_map, List.getElem?_eq_getElem hi]; rfl)
        rw [e1] at eu
        cases eu
        exact ⟨ks[i], by rw [List.getElem?_zip_eq_some]; exact ⟨List.getElem?_eq_getElem hi, e2⟩, key_is ru⟩
      · have hm : ((h'.objs.size : Addr) == sysModules) = false := beq_eq_false_iff_ne.mpr (Nat.ne_of_gt (Nat.lt_of_lt_of_le I1.big (by rw [hsz]; omega)))
        have hlen : (mergeK [] (ks.zip ys)).length ≤ sizeLine := by
          have h0 := length_mergeK (ks.zip ys) []
          have h1 : (ks.zip ys).length ≤ ks.length := by rw [List.length_zip]; exact Nat.min_le_left ..
          have h2 : ([] : List (Key × V)).length = 0 := rfl
          omega
        have kp : ∀ c o, s1.heap.get? c = some o → h''.get? c = some o := fun c o e => by
          have hlt := Heap.lt_size e
          refine hk2 c o (fun m => ?_) (hk c o e)
          simp only [List.mem_cons, List.not_mem_nil, or_false] at m
          rcases m with m | m | m | m
          all_goals (rw [m] at hlt; first | exact absurd hlt (Nat.not_lt.mpr (Nat.le_add_right _ _)) | exact absurd hlt (Nat.lt_irrefl _))
        exact ⟨.ref h'.objs.size, upd H1 h'.objs.size (.dK (mergeK [] (ks.zip ys))), I1.laid (t' := tk) kp (by rw [hsz]; omega) (show ObjOk X.prog X.w _ _ _ (.dK (mergeK [] (ks.zip ys))) from ⟨hlen, hm, merged [] (ks.zip its2), KV.merge (kv_zip rv2) .nil, hd'⟩), rfl, q _ (I1.hok.fresh (by rw [hsz]; omega))⟩
instance : Stp (tDz K ta σ H Q) (ta σ H (DzK K Q)) := ⟨fun h => h⟩
theorem s_dz (h1 : H a = some (.lst (ks.map kV))) (h2 : H b = some (.lst ys)) (hl : ks.length = ys.length) (q : ∀ d H', H d = none → H' d = some (.dK (mergeK [] (ks.zip ys))) → Kp [] H H' → Q (.ref d) H') : DzK K Q [.ref a, .ref b] H :=
  ⟨a, b, ks, ys, rfl, SqL.of h1, SqL.of h2, hl, new_abs (R := fun l H' => Q (.ref l) H') q⟩
end
end U

namespace U
open PySem L2 PySem.Spec PyProof.Rows
/-! d.get(k, x) -/
section
variable {X : Cx} {K : PySem.W.Frag} {σ : L2.St} {H : Hp} {Q : VK} {d : Addr} {td ty tx : TE} {kvs : List (Key × V)} {k : Key} {z : V}
instance : Stp (tDGet2 td ty tx σ H Q) (td σ H fun x H1 => ∃ a, x = .ref a ∧ IsD H1 a ∧ ty σ H1 fun y H2 => tx σ H2 fun z H3 => ∃ o, DGet H3 a y o ∧ Q (o.getD z) H3) := ⟨fun h => h⟩
theorem s_dget2 {R : Addr → Prop} (h : H d = some (.dK kvs)) (q : R d) : ∃ a, V.ref d = .ref a ∧ IsD H a ∧ R a := ⟨d, rfl, Or.inl ⟨kvs, Or.inl h⟩, q⟩
theorem s_dgo (h : H d = some (.dK kvs)) (q : Q ((valV kvs k).getD z) H) : ∃ o, DGet H d (kV k) o ∧ Q (o.getD z) H := ⟨_, DGet.k h, q⟩
theorem s_dgoS {t : Str} (h : H d = some (.dK kvs)) (q : Q ((valV kvs (Sum.inr t)).getD z) H) : ∃ o, DGet H d (.str t) o ∧ Q (o.getD z) H := ⟨_, DGet.k (k := Sum.inr t) h, q⟩
end
/-! for x in reversed(a list) -/
section
variable {X : Cx} {K : PySem.W.Frag} {e tg : Expr} {ta : TA} {p pos : Pos} {σ : L2.St} {H : Hp} {a : Addr} {vs : List V} {R : It → Hp → Prop}
theorem pi_revK (hK : X.K = K) (hg : Gl X "reversed") (hm : X.mg "reversed" = none) (ha : PA X [e] ta) (hs : starEach [e] X.env = [(false, eval e X.env)] := by rfl) : PI X tg (.Call (.Name "reversed" p) [e] [] pos) (iRev K ta) := hK ▸ pi_reversed hg hm ha hs
theorem walk_rev : Walk (Itv K a vs.length) vs.length (fun H => SqL K H a vs) (fun i H v H' => H' = H ∧ vs.reverse[i]? = some v) := by
  refine ⟨fun i H hi q => ?_, fun H q => Nat.le_refl _, fun i H v H' hi q y => ?_⟩
  · exact ⟨hi, vs, vs[vs.length - 1 - i], q, List.getElem?_eq_getElem (by omega)⟩
  · obtain ⟨h1, h2⟩ := y
    exact ⟨h1, by rw [List.getElem?_reverse hi]; exact h2 vs q⟩
theorem s_irev (h : ta σ H fun vs H1 => ∃ (a : Addr) (xs : List V), vs = [.ref a] ∧ SqL K H1 a xs ∧ R (Itv K a xs.length) H1) : iRev K ta σ H R := h
instance : Stp (iRev K ta σ H R) (ta σ H fun vs H1 => ∃ (a : Addr) (xs : List V), vs = [.ref a] ∧ SqL K H1 a xs ∧ R (Itv K a xs.length) H1) := ⟨fun h => h⟩
theorem s_rvL {S : Addr → Nat → Prop} (h : H a = some (.lst vs)) (q : S a vs.length) : ∃ (a' : Addr) (xs : List V), [V.ref a] = [.ref a'] ∧ SqL K H a' xs ∧ S a' xs.length := ⟨a, vs, rfl, SqL.of h, q⟩
variable {tt : TT} {te : TE} {g : TG} {ns : List Nat} {A : Addr} {Qd : Hp → Prop}
theorem lc_rev (e : H a = some (.lst vs)) (hA : H A = none) (Pv : Nat → List V → Hp → Prop) (h0 : ∀ H', H' A = some (.lst []) → Kp [] H H' → Pv 0 [] H') (hG : ∀ i acc H', Pv i acc H' → ∀ o, H a = some o → H' a = some o)
    (hs : ∀ i x acc H', vs.reverse[i]? = some x → H' A = some (.lst acc) → Pv i acc H' → g x (wipe σ ns) H' fun σ2 H2 => wipe σ2 ns = wipe σ ns ∧ tt σ2 H2 fun b H3 =>
      if b = true then te σ2 H3 fun y H4 => ∃ acc, H4 A = some (.lst acc) ∧ acc.length < sizeLine ∧ PvD A Pv (i + 1) (upd H4 A (.lst (acc ++ [y]))) else PvD A Pv (i + 1) H3) (hd : ∀ acc H', H' A = some (.lst acc) → Pv vs.length acc H' → Qd H') :
    ∃ W : Nat → Nat → Hp → Prop, (∃ m, W 0 m (upd H A (.lst []))) ∧ ∀ i m H, W i m H →
      ((Itv K a vs.length).stop i H ∧ Qd H) ∨ ((Itv K a vs.length).go i H ∧ ∃ Nx : Hp → Prop, (∀ H', Nx H' → ∃ m', m' < m ∧ W (i + 1) m' H') ∧ ∀ x H', (Itv K a vs.length).yld i H x H' → g x (wipe σ ns) H' fun σ2 H2 => wipe σ2 ns = wipe σ ns ∧ tt σ2 H2 fun b H3 =>
        if b = true then te σ2 H3 fun y H4 => ∃ acc, H4 A = some (.lst acc) ∧ acc.length < sizeLine ∧ Nx (upd H4 A (.lst (acc ++ [y]))) else Nx H3) :=
  lc_it (walk_rev (vs := vs)) (PvD A Pv) (PvD.begin hA h0) (fun i H' _ p => by
    obtain ⟨acc, _, p⟩ := p
    exact SqL.of (hG i acc H' p _ e)) (fun i x H1 H2 hi p y => by
    obtain ⟨rfl, ex⟩ := y
    obtain ⟨acc, ea, p⟩ := p
    exact hs i x acc H2 ex ea p) (fun H' p => by
    obtain ⟨acc, ea, p⟩ := p
    exact hd acc H' ea p)
end
end U

namespace U
open PySem L2 PySem.Spec PyProof.Rows
/-! lists or tuples: indexes, comprehensions, enumerate -/
section
variable {K : PySem.W.Frag} {σ : L2.St} {H H1 : Hp} {a : Addr} {vs : List V} {ps : List Addr} {g : TG} {tb : TS} {D : Ends} {n : Int} {v : V} {Q : VK}
theorem sq_kpn (k : Kp ps H H1) (h : H a = some (.lst vs) ∨ H a = some (.tup vs)) (m : a ∉ ps) : H1 a = some (.lst vs) ∨ H1 a = some (.tup vs) := h.imp (fun e => k.get e m) (fun e => k.get e m)
theorem sq_l (h : H a = some (.lst vs)) : H a = some (.lst vs) ∨ H a = some (.tup vs) := Or.inl h
theorem sq_t (h : H a = some (.tup vs)) : H a = some (.lst vs) ∨ H a = some (.tup vs) := Or.inr h
theorem s_ixq (h : H a = some (.lst vs) ∨ H a = some (.tup vs)) (ha : atI vs n = some v) (q : Q v H) : rIx K (.ref a) (.int n) H Q := by
  rcases h with h | h
  · exact s_ixl h ha q
  · exact s_ixt h ha q
theorem s_lenQ (h : H a = some (.lst vs) ∨ H a = some (.tup vs)) (q : Q (.int vs.length) H) : uLen K [.ref a] H Q := by
  rcases h with h | h
  · exact s_lenl h q
  · exact s_lent h q
/-- what a loop's walk is -/
abbrev ForG (J : It) (g : TG) (tb : TS) (D : Ends) (σ : L2.St) (H : Hp) : Prop := ∃ W : Nat → Nat → L2.St → Hp → Prop, (∃ m, W 0 m σ H) ∧ ∀ i m σ H, W i m σ H →
  (J.stop i H ∧ D.nx σ H) ∨ (J.go i H ∧ ∃ N : L2.St → Hp → Prop, (∀ σ' H', N σ' H' → ∃ m', m' < m ∧ W (i + 1) m' σ' H') ∧ ∀ x H', J.yld i H x H' → g x σ H' fun σ2 H2 => tb { D with nx := N, ct := N, bk := D.nx } σ2 H2)
theorem for_eq (e : H a = some (.lst vs) ∨ H a = some (.tup vs)) (Pv : Nat → L2.St → Hp → Prop) (h0 : Pv 0 σ H) (hG : ∀ i σ' H', Pv i σ' H' → ∀ o, H a = some o → H' a = some o)
    (hs : ∀ i x σ' H' T H2, vs[i]? = some x → Pv i σ' H' → H' T = none → H2 T = some (.tup [.int (i : Nat), x]) → Kp [] H' H2 → g (.ref T) σ' H2 fun σ2 H3 => tb { D with nx := Pv (i + 1), ct := Pv (i + 1), bk := D.nx } σ2 H3) (hd : ∀ σ' H', Pv vs.length σ' H' → D.nx σ' H') :
    ∃ a' xs, [V.ref a] = [.ref a'] ∧ ((SqL K H a' xs ∧ ForG (Ite K a') g tb D σ H) ∨ (SqT K H a' xs ∧ ForG (IteT K a') g tb D σ H)) := by
  refine ⟨a, vs, rfl, ?_⟩
  rcases e with e | e
  · exact Or.inl ⟨SqL.of e, for_eL e Pv h0 hG hs hd⟩
  · exact Or.inr ⟨SqT.of e, for_eT e Pv h0 (fun i σ' H' p xs => hG i σ' H' p _) hs hd⟩
theorem for_T (e : H a = some (.tup vs)) (Pv : Nat → L2.St → Hp → Prop) (h0 : Pv 0 σ H) (hG : ∀ i σ' H', Pv i σ' H' → ∀ xs, H a = some (.tup xs) → H' a = some (.tup xs))
    (hs : ∀ i x σ' H', vs[i]? = some x → Pv i σ' H' → g x σ' H' fun σ2 H2 => tb { D with nx := Pv (i + 1), ct := Pv (i + 1), bk := D.nx } σ2 H2) (hd : ∀ σ' H', Pv vs.length σ' H' → D.nx σ' H') : ForG (Itt K a) g tb D σ H :=
  for_it (walk_tup (xs := vs)) Pv h0 (fun i σ' H' _ p => SqT.of (hG i σ' H' p _ e)) (fun i x σ' H1 H2 hi p y => by
    obtain ⟨rfl, ex⟩ := y
    exact hs i x σ' H2 ex p) hd
variable {tt : TT} {te : TE} {ns : List Nat} {Qd : Addr → Hp → Prop}
abbrev LcG (J : It) (g : TG) (tt : TT) (te : TE) (ns : List Nat) (σ : L2.St) (A : Addr) (Qd : Hp → Prop) (H : Hp) : Prop := ∃ W : Nat → Nat → Hp → Prop, (∃ m, W 0 m (upd H A (.lst []))) ∧ ∀ i m H, W i m H →
  (J.stop i H ∧ Qd H) ∨ (J.go i H ∧ ∃ Nx : Hp → Prop, (∀ H', Nx H' → ∃ m', m' < m ∧ W (i + 1) m' H') ∧ ∀ x H', J.yld i H x H' → g x (wipe σ ns) H' fun σ2 H2 => wipe σ2 ns = wipe σ ns ∧ tt σ2 H2 fun b H3 =>
    if b = true then te σ2 H3 fun y H4 => ∃ acc, H4 A = some (.lst acc) ∧ acc.length < sizeLine ∧ Nx (upd H4 A (.lst (acc ++ [y]))) else Nx H3)
theorem lc_sq (e : H a = some (.lst vs) ∨ H a = some (.tup vs)) (Pv : Addr → Nat → List V → Hp → Prop) (h0 : ∀ A, H A = none → ∀ H', H' A = some (.lst []) → Kp [] H H' → Pv A 0 [] H') (hG : ∀ A, H A = none → ∀ i acc H', Pv A i acc H' → ∀ o, H a = some o → H' a = some o)
    (hs : ∀ A, H A = none → ∀ i x acc H', vs[i]? = some x → H' A = some (.lst acc) → Pv A i acc H' → g x (wipe σ ns) H' fun σ2 H2 => wipe σ2 ns = wipe σ ns ∧ tt σ2 H2 fun b H3 =>
      if b = true then te σ2 H3 fun y H4 => ∃ acc, H4 A = some (.lst acc) ∧ acc.length < sizeLine ∧ PvD A (Pv A) (i + 1) (upd H4 A (.lst (acc ++ [y]))) else PvD A (Pv A) (i + 1) H3) (hd : ∀ A, H A = none → ∀ acc H', H' A = some (.lst acc) → Pv A vs.length acc H' → Qd A H') :
    ∃ a', V.ref a = .ref a' ∧ (((∃ xs, SqL K H a' xs) ∧ ∀ A, H A = none → LcG (Itl K a') g tt te ns σ A (Qd A) H) ∨ ((∃ xs, SqT K H a' xs) ∧ ∀ A, H A = none → LcG (Itt K a') g tt te ns σ A (Qd A) H)) := by
  refine ⟨a, rfl, ?_⟩
  rcases e with e | e
  · exact Or.inl ⟨⟨vs, SqL.of e⟩, fun A hA => lc_L e hA (Pv A) (h0 A hA) (hG A hA) (hs A hA) (hd A hA)⟩
  · exact Or.inr ⟨⟨vs, SqT.of e⟩, fun A hA => lc_T e hA (Pv A) (h0 A hA) (fun i acc H' p xs => hG A hA i acc H' p _) (hs A hA) (hd A hA)⟩
theorem lc_eq (e : H a = some (.lst vs) ∨ H a = some (.tup vs)) (Pv : Addr → Nat → List V → Hp → Prop) (h0 : ∀ A, H A = none → ∀ H', H' A = some (.lst []) → Kp [] H H' → Pv A 0 [] H') (hG : ∀ A, H A = none → ∀ i acc H', Pv A i acc H' → ∀ o, H a = some o → H' a = some o)
    (hs : ∀ A, H A = none → ∀ i x acc H' T H2, vs[i]? = some x → H' A = some (.lst acc) → Pv A i acc H' → H' T = none → H2 T = some (.tup [.int (i : Nat), x]) → Kp [] H' H2 → g (.ref T) (wipe σ ns) H2 fun σ2 H2 => wipe σ2 ns = wipe σ ns ∧ tt σ2 H2 fun b H3 =>
      if b = true then te σ2 H3 fun y H4 => ∃ acc, H4 A = some (.lst acc) ∧ acc.length < sizeLine ∧ PvD A (Pv A) (i + 1) (upd H4 A (.lst (acc ++ [y]))) else PvD A (Pv A) (i + 1) H3) (hd : ∀ A, H A = none → ∀ acc H', H' A = some (.lst acc) → Pv A vs.length acc H' → Qd A H') :
    ∃ a' xs, [V.ref a] = [.ref a'] ∧ ((SqL K H a' xs ∧ ∀ A, H A = none → LcG (Ite K a') g tt te ns σ A (Qd A) H) ∨ (SqT K H a' xs ∧ ∀ A, H A = none → LcG (IteT K a') g tt te ns σ A (Qd A) H)) := by
  refine ⟨a, vs, rfl, ?_⟩
  rcases e with e | e
  · exact Or.inl ⟨SqL.of e, fun A hA => lc_eL e hA (Pv A) (h0 A hA) (hG A hA) (hs A hA) (hd A hA)⟩
  · refine Or.inr ⟨SqT.of e, fun A hA => ?_⟩
    exact lc_it (walk_enumT (xs := vs)) (PvD A (Pv A)) (PvD.begin hA (h0 A hA)) (fun i H' _ p => by
      obtain ⟨acc, _, p⟩ := p
      exact SqT.of (hG A hA i acc H' p _ e)) (fun i x H1 H2 hi p y => by
      obtain ⟨T, x1, x2, rfl, f, rfl, e1, e2⟩ := y
      cases Option.some.inj e1
      obtain ⟨acc, ea, p⟩ := p
      exact hs A hA i x2 acc H1 T _ e2 ea p f upd_same (Kp.refl.new f)) (fun H' p => by
      obtain ⟨acc, ea, p⟩ := p
      exact hd A hA acc H' ea p)
end
section
variable {X : Cx} {K : PySem.W.Frag} {σ : L2.St} {H : Hp} {Q : VK} {p : Addr} {kvs : List (Key × V)}
/-- d.clear() -/
def rClearD : V → List V → Hp → VK → Prop := fun x vs H Q => ∃ d kvs, x = .ref d ∧ vs = [] ∧ H d = some (.dK kvs) ∧ Q .non (upd H d (.dK []))
theorem mt_clearD : MtR X "dict.clear" rClearD := by
  intro pins s σ H x vs v us Q I rx rv h
  obtain ⟨d, kvs, rfl, rfl, hH, q⟩ := h
  cases rx
  have hus := rv.zero
  subst hus
  exact d_clear I hH fun s' I' => ⟨.non, _, I', rfl, q⟩
theorem s_clearD (h : H p = some (.dK kvs)) (q : ∀ H', H' p = some (.dK []) → Kp [p] H H' → Q .non H') : rClearD (.ref p) [] H Q := ⟨p, kvs, rfl, rfl, h, put_abs h rfl (R := fun H' => Q .non H') q⟩
end
end U

local macro_rules | `(tactic| walk_at "b1") => `(tactic| first
  | with_reducible refine' U.Stp.go ?_
  | ((with_reducible refine' U.s_nameR ?une ?_); (case une => (dsimp only [List.set]; try exact rfl)))
  | ((with_reducible show L2.Ends.nx _ _ _); dsimp only)
  | ((with_reducible show L2.Ends.rt _ _ _); dsimp only)
  | ((with_reducible show L2.Ends.bk _ _ _); dsimp only)
  | ((with_reducible show L2.Ends.ct _ _ _); dsimp only)
  | ((with_reducible refine' U.s_var ?uvh ?_); (case uvh => exact rfl))
  | with_reducible refine' U.s_neg ?_
  | with_reducible refine' U.s_bl ?_
  | ((with_reducible refine' U.s_gtu ?uth ?utl ?_); (case uth => walk_at "gt"); (case utl => exact rfl))
  | ((with_reducible refine' U.s_glu ?uth ?utl ?_); (case uth => walk_at "g"); (case utl => exact rfl))
  | ((with_reducible refine' U.s_ixt ?uih ?uia ?_); (case uih => walk_at "gt"); (case uia => exact rfl))
  | ((with_reducible refine' U.s_tyl ?uth ?_); (case uth => walk_at "g"))
  | ((with_reducible refine' U.s_tyd ?uth ?_); (case uth => walk_at "g"))
  | with_reducible refine' U.s_lc ?_
  | with_reducible refine' U.s_for ?_
  | with_reducible refine' U.s_itt ?_
  | with_reducible refine' U.s_itf ?_
  | ((with_reducible refine' U.s_ixl ?uih ?uia ?_); (case uih => walk_at "g"); (case uia => exact rfl))
  | ((with_reducible refine' U.s_ixl ?uih ?uia ?_); (case uih => exact L2.upd_same); (case uia => exact rfl))
  | ((with_reducible refine' U.s_mod ?umh ?_); (case umh => first | decide | assumption | omega))
  | ((with_reducible refine' U.s_isInt ?uty ?_); (case uty => first | assumption | exact U.TyN.int | exact U.TyN.str | exact U.TyN.non | exact U.TyN.bl | exact U.TyN.lst (by walk_at "g") | exact U.TyN.tup (by walk_at "gt") | exact U.TyN.dic (by walk_at "g")))
  | ((with_reducible refine' U.s_isBool ?uty ?_); (case uty => first | assumption | exact U.TyN.int | exact U.TyN.str | exact U.TyN.non | exact U.TyN.bl | exact U.TyN.lst (by walk_at "g") | exact U.TyN.tup (by walk_at "gt") | exact U.TyN.dic (by walk_at "g")))
  | ((with_reducible refine' U.s_isStr ?uty ?_); (case uty => first | assumption | exact U.TyN.int | exact U.TyN.str | exact U.TyN.non | exact U.TyN.bl | exact U.TyN.lst (by walk_at "g") | exact U.TyN.tup (by walk_at "gt") | exact U.TyN.dic (by walk_at "g")))
  | ((with_reducible refine' U.s_isList ?uty ?_); (case uty => first | assumption | exact U.TyN.int | exact U.TyN.str | exact U.TyN.non | exact U.TyN.bl | exact U.TyN.lst (by walk_at "g") | exact U.TyN.tup (by walk_at "gt") | exact U.TyN.dic (by walk_at "g")))
  | ((with_reducible refine' U.s_isTup ?uty ?_); (case uty => first | assumption | exact U.TyN.int | exact U.TyN.str | exact U.TyN.non | exact U.TyN.bl | exact U.TyN.lst (by walk_at "g") | exact U.TyN.tup (by walk_at "gt") | exact U.TyN.dic (by walk_at "g")))
  | ((with_reducible refine' U.s_isDict ?uty ?_); (case uty => first | assumption | exact U.TyN.int | exact U.TyN.str | exact U.TyN.non | exact U.TyN.bl | exact U.TyN.lst (by walk_at "g") | exact U.TyN.tup (by walk_at "gt") | exact U.TyN.dic (by walk_at "g")))
  | ((with_reducible refine' U.s_itT ?uit ?_); (case uit => exact rfl))
  | ((with_reducible refine' U.s_itF ?uit ?_); (case uit => exact rfl))
  | ((with_reducible refine' U.s_itT ?uit ?_); (case uit => decide +kernel))
  | ((with_reducible refine' U.s_itF ?uit ?_); (case uit => decide +kernel))
  | ((with_reducible refine' U.s_mul ?umh ?_); (case umh => first | exact U.cmulL (by omega) (by omega) | exact U.cmulR (by omega) (by omega)))
  | ((with_reducible refine' U.s_pow ?umh ?ume ?_); (case umh => exact U.cpow (by omega) (by omega) (by omega) (by omega)); (case ume => simp only [Int.reduceToNat, Int.reducePow]; exact rfl))
  | ((with_reducible refine' U.s_div ?umh ?_); (case umh => exact U.cdiv (by omega) (by omega)))
  | ((with_reducible refine' U.s_dgs ?uih ?uia ?_); (case uih => walk_at "g"); (case uia => exact rfl))
  | ((with_reducible refine' U.s_dgs ?uih ?uia ?_); (case uih => walk_at "g"); (case uia => decide +kernel))
  | ((with_reducible refine' U.s_inS ?uih ?_); (case uih => walk_at "g"))
  | ((with_reducible refine' U.s_ninS ?uih ?_); (case uih => walk_at "g"))
  | ((with_reducible refine' U.s_itp ?uih ?_); (case uih => walk_at "gt"))
  | ((with_reducible refine' U.s_eT ?uih ?_); (case uih => walk_at "gt"))
  | ((with_reducible refine' U.s_eL ?uih ?_); (case uih => walk_at "g")))
local macro_rules | `(tactic| walk_at "u1") => `(tactic| first
  | walk_at "b1"
  | with_reducible refine' U.s_seq ?_
  | with_reducible refine' U.s_ifS ?_
  | with_reducible refine' U.s_and ?_
  | with_reducible refine' U.s_or ?_
  | with_reducible refine' U.s_andV ?_
  | with_reducible refine' U.s_orV ?_
  | with_reducible refine' U.s_chain ?_)
local macro_rules | `(tactic| walk_at "v1") => `(tactic| first
  | walk_at "b1"
  | with_reducible refine' U.s_seq ?_
  | with_reducible refine' U.s_ifS ?_)
local macro_rules | `(tactic| walk_at "w1") => `(tactic| first
  | walk_at "b1"
  | with_reducible refine' U.s_seq ?_)
local macro_rules | `(tactic| walk_at "s1") => `(tactic| first
  | walk_at "b1")
local macro_rules | `(tactic| walk_at "u") => `(tactic| repeat (first | walk_at "u1" | walk_at "u2"))
local macro_rules | `(tactic| walk_at "v") => `(tactic| repeat (first | walk_at "v1" | walk_at "u2"))
local macro_rules | `(tactic| walk_at "w") => `(tactic| repeat (first | walk_at "w1" | walk_at "u2"))
local macro_rules | `(tactic| walk_at "s") => `(tactic| repeat (first | walk_at "s1" | walk_at "u2"))
local macro_rules | `(tactic| walk_at "na") => `(tactic| first
  | ((with_reducible refine' U.s_newl (U.zle ?unz) ?_); (case unz => simp))
  | ((with_reducible refine' U.s_newt (U.zle ?unz) ?_); (case unz => simp)))
local macro_rules | `(tactic| walk_at "g") => `(tactic| first
  | assumption
  | ((refine' U.Kp.get ?ugk ?ugm ?ugn); (case ugk => assumption); (case ugm => walk_at "g"); (case ugn => walk_at "n"))
  | ((refine' U.Box.kpn ?ugm ?ugk ?ugn); (case ugk => assumption); (case ugm => walk_at "g"); (case ugn => walk_at "n"))
  | ((refine' U.SqL.kpn ?ugk ?ugm ?ugn); (case ugk => assumption); (case ugm => walk_at "g"); (case ugn => walk_at "n"))
  | ((refine' L2.SqL.of ?ugm); (case ugm => walk_at "g"))
  | ((refine' U.Dx.kpn ?ugm ?ugk ?ugn); (case ugk => assumption); (case ugm => walk_at "g"); (case ugn => walk_at "q"))
  | walk_at "g2")
local macro_rules | `(tactic| walk_at "gt") => `(tactic| first
  | assumption
  | ((refine' U.Kp.tgt ?ugk ?ugm); (case ugk => assumption); (case ugm => walk_at "gt"))
  | fail)
local macro_rules | `(tactic| walk_at "g2") => `(tactic| fail)
local macro_rules | `(tactic| walk_at "n") => `(tactic| first
  | exact U.nm0
  | ((refine' U.nmc ?unh ?unr); (case unh => walk_at "ne"); (case unr => walk_at "n"))
  | assumption
  | fail)
local macro_rules | `(tactic| walk_at "ne") => `(tactic| first
  | assumption
  | exact Ne.symm (by assumption)
  | ((refine' U.Th.ne ?una ?unf); (case unf => assumption); (case una => walk_at "t"))
  | ((refine' Ne.symm (U.Th.ne ?una ?unf)); (case unf => assumption); (case una => walk_at "t"))
  | ((refine' U.Th.nk ?una ?unb ?unc); (case una => walk_at "t0"); (case unb => walk_at "t"); (case unc => exact rfl))
  | ((refine' Ne.symm (U.Th.nk ?una ?unb ?unc)); (case una => walk_at "t0"); (case unb => walk_at "t"); (case unc => exact rfl))
  | fail)
local macro_rules | `(tactic| walk_at "t0") => `(tactic| first
  | exact U.Th.lst (by assumption)
  | exact U.Th.tup (by assumption)
  | exact U.Th.dK (by assumption)
  | exact U.Th.ins (by assumption)
  | exact U.Th.xd (by assumption)
  | exact U.Box.th (by assumption)
  | walk_at "t2")
local macro_rules | `(tactic| walk_at "t2") => `(tactic| fail)
local macro_rules | `(tactic| walk_at "t") => `(tactic| first
  | walk_at "t0"
  | ((refine' U.Th.kp ?ugk ?ugm); (case ugk => assumption); (case ugm => walk_at "t"))
  | fail)
local macro_rules | `(tactic| walk_at "k") => `(tactic| first
  | exact U.Kp.refl
  | assumption
  | ((refine' U.Kp.step ?ukm ?ukk ?ukq); (case ukk => assumption); (case ukm => walk_at "k"); (case ukq => walk_at "q"))
  | fail)
local macro_rules | `(tactic| walk_at "q") => `(tactic| first
  | exact U.al0
  | ((refine' U.alc ?uqh ?uqr); (case uqh => first | (apply Or.inl; simp; done) | (apply Or.inr; walk_at "f")); (case uqr => walk_at "q"))
  | fail)
local macro_rules | `(tactic| walk_at "f") => `(tactic| first
  | assumption
  | exact U.Fz.f (by assumption)
  | ((refine' U.Dm.fr ?ufa ?ufm); (case ufa => assumption); (case ufm => walk_at "m"))
  | fail)
local macro_rules | `(tactic| walk_at "m") => `(tactic| first
  | exact U.Dm.refl
  | ((refine' U.Dm.step ?umm ?umk); (case umk => assumption); (case umm => walk_at "m"))
  | fail)
local macro_rules | `(tactic| walk_at "ud") => `(tactic| first
  | refine U.s_uds (by walk_at "g") (U.zlt (by simp)) rfl ?_
  | refine U.s_udi (by walk_at "g") (U.zlt (by simp)) rfl ?_
  | refine U.s_ul (by walk_at "g") rfl rfl ?_)

namespace K06
open PySem L2 U
def top (i : Nat) : Stmt := PySem.Challenge.pw_onestaff_k06_other_lines.main.body.getD i (.Pass ⟨0, 0, 0, 0⟩)
abbrev s_NoName_init : Stmt := inClass (top 2) 0
abbrev N_NoName_init : List Str := ["self", "found"]
theorem sc_NoName_init : FnScope N_NoName_init ["self", "found"] (defScope s_NoName_init) := ⟨rfl, rfl, rfl, by decide +kernel, rfl, by decide +kernel, by decide +kernel⟩
theorem st_NoName_init {v0 v1 : V} : L2.start N_NoName_init [v0, v1] = [some v0, some v1] := rfl
abbrev s_NoPlace_init : Stmt := inClass (top 3) 0
abbrev N_NoPlace_init : List Str := ["self", "found"]
theorem sc_NoPlace_init : FnScope N_NoPlace_init ["self", "found"] (defScope s_NoPlace_init) := ⟨rfl, rfl, rfl, by decide +kernel, rfl, by decide +kernel, by decide +kernel⟩
theorem st_NoPlace_init {v0 v1 : V} : L2.start N_NoPlace_init [v0, v1] = [some v0, some v1] := rfl
abbrev s_NoStretch_init : Stmt := inClass (top 4) 0
abbrev N_NoStretch_init : List Str := ["self", "found"]
theorem sc_NoStretch_init : FnScope N_NoStretch_init ["self", "found"] (defScope s_NoStretch_init) := ⟨rfl, rfl, rfl, by decide +kernel, rfl, by decide +kernel, by decide +kernel⟩
theorem st_NoStretch_init {v0 v1 : V} : L2.start N_NoStretch_init [v0, v1] = [some v0, some v1] := rfl
abbrev s_NoLong_init : Stmt := inClass (top 5) 0
abbrev N_NoLong_init : List Str := ["self", "found"]
theorem sc_NoLong_init : FnScope N_NoLong_init ["self", "found"] (defScope s_NoLong_init) := ⟨rfl, rfl, rfl, by decide +kernel, rfl, by decide +kernel, by decide +kernel⟩
theorem st_NoLong_init {v0 v1 : V} : L2.start N_NoLong_init [v0, v1] = [some v0, some v1] := rfl
abbrev s_NoPlaces_init : Stmt := inClass (top 6) 0
abbrev N_NoPlaces_init : List Str := ["self", "found"]
theorem sc_NoPlaces_init : FnScope N_NoPlaces_init ["self", "found"] (defScope s_NoPlaces_init) := ⟨rfl, rfl, rfl, by decide +kernel, rfl, by decide +kernel, by decide +kernel⟩
theorem st_NoPlaces_init {v0 v1 : V} : L2.start N_NoPlaces_init [v0, v1] = [some v0, some v1] := rfl
abbrev s_NoStretches_init : Stmt := inClass (top 7) 0
abbrev N_NoStretches_init : List Str := ["self", "found"]
theorem sc_NoStretches_init : FnScope N_NoStretches_init ["self", "found"] (defScope s_NoStretches_init) := ⟨rfl, rfl, rfl, by decide +kernel, rfl, by decide +kernel, by decide +kernel⟩
theorem st_NoStretches_init {v0 v1 : V} : L2.start N_NoStretches_init [v0, v1] = [some v0, some v1] := rfl
abbrev s_NoLongs_init : Stmt := inClass (top 8) 0
abbrev N_NoLongs_init : List Str := ["self", "found"]
theorem sc_NoLongs_init : FnScope N_NoLongs_init ["self", "found"] (defScope s_NoLongs_init) := ⟨rfl, rfl, rfl, by decide +kernel, rfl, by decide +kernel, by decide +kernel⟩
theorem st_NoLongs_init {v0 v1 : V} : L2.start N_NoLongs_init [v0, v1] = [some v0, some v1] := rfl
abbrev s_NoNumber_init : Stmt := inClass (top 9) 0
abbrev N_NoNumber_init : List Str := ["self", "found"]
theorem sc_NoNumber_init : FnScope N_NoNumber_init ["self", "found"] (defScope s_NoNumber_init) := ⟨rfl, rfl, rfl, by decide +kernel, rfl, by decide +kernel, by decide +kernel⟩
theorem st_NoNumber_init {v0 v1 : V} : L2.start N_NoNumber_init [v0, v1] = [some v0, some v1] := rfl
abbrev s_Twice_init : Stmt := inClass (top 10) 0
abbrev N_Twice_init : List Str := ["self", "found"]
theorem sc_Twice_init : FnScope N_Twice_init ["self", "found"] (defScope s_Twice_init) := ⟨rfl, rfl, rfl, by decide +kernel, rfl, by decide +kernel, by decide +kernel⟩
theorem st_Twice_init {v0 v1 : V} : L2.start N_Twice_init [v0, v1] = [some v0, some v1] := rfl
abbrev s_is_whole : Stmt := top 14
abbrev N_is_whole : List Str := ["thing", "low", "high"]
theorem sc_is_whole : FnScope N_is_whole ["thing", "low", "high"] (defScope s_is_whole) := ⟨rfl, rfl, rfl, by decide +kernel, rfl, by decide +kernel, by decide +kernel⟩
theorem st_is_whole {v0 v1 v2 : V} : L2.start N_is_whole [v0, v1, v2] = [some v0, some v1, some v2] := rfl
abbrev s_is_name : Stmt := top 15
abbrev N_is_name : List Str := ["thing", "sign"]
theorem sc_is_name : FnScope N_is_name ["thing"] (defScope s_is_name) := ⟨rfl, rfl, rfl, by decide +kernel, rfl, by decide +kernel, by decide +kernel⟩
theorem st_is_name {v0 : V} : L2.start N_is_name [v0] = [some v0, none] := rfl
abbrev s_is_row : Stmt := top 21
abbrev N_is_row : List Str := ["thing", "size"]
theorem sc_is_row : FnScope N_is_row ["thing", "size"] (defScope s_is_row) := ⟨rfl, rfl, rfl, by decide +kernel, rfl, by decide +kernel, by decide +kernel⟩
theorem st_is_row {v0 v1 : V} : L2.start N_is_row [v0, v1] = [some v0, some v1] := rfl
abbrev s_good_places : Stmt := top 22
abbrev N_good_places : List Str := ["places", "names", "thing"]
theorem sc_good_places : FnScope N_good_places ["places"] (defScope s_good_places) := ⟨rfl, rfl, rfl, by decide +kernel, rfl, by decide +kernel, by decide +kernel⟩
theorem st_good_places {v0 : V} : L2.start N_good_places [v0] = [some v0, none, none] := rfl
abbrev s_is_stretch : Stmt := top 23
abbrev N_is_stretch : List Str := ["thing"]
theorem sc_is_stretch : FnScope N_is_stretch ["thing"] (defScope s_is_stretch) := ⟨rfl, rfl, rfl, by decide +kernel, rfl, by decide +kernel, by decide +kernel⟩
theorem st_is_stretch {v0 : V} : L2.start N_is_stretch [v0] = [some v0] := rfl
abbrev s_good_stretches : Stmt := top 24
abbrev N_good_stretches : List Str := ["stretches", "many", "thing"]
theorem sc_good_stretches : FnScope N_good_stretches ["stretches", "many"] (defScope s_good_stretches) := ⟨rfl, rfl, rfl, by decide +kernel, rfl, by decide +kernel, by decide +kernel⟩
theorem st_good_stretches {v0 v1 : V} : L2.start N_good_stretches [v0, v1] = [some v0, some v1, none] := rfl
abbrev s_is_long : Stmt := top 25
abbrev N_is_long : List Str := ["thing", "low", "high"]
theorem sc_is_long : FnScope N_is_long ["thing", "low", "high"] (defScope s_is_long) := ⟨rfl, rfl, rfl, by decide +kernel, rfl, by decide +kernel, by decide +kernel⟩
theorem st_is_long {v0 v1 v2 : V} : L2.start N_is_long [v0, v1, v2] = [some v0, some v1, some v2] := rfl
abbrev s_good_longs : Stmt := top 26
abbrev N_good_longs : List Str := ["longs", "many", "low", "thing"]
theorem sc_good_longs : FnScope N_good_longs ["longs", "many"] (defScope s_good_longs) := ⟨rfl, rfl, rfl, by decide +kernel, rfl, by decide +kernel, by decide +kernel⟩
theorem st_good_longs {v0 v1 : V} : L2.start N_good_longs [v0, v1] = [some v0, some v1, none, none] := rfl
abbrev s_Line_init : Stmt := inClass (top 27) 0
abbrev N_Line_init : List Str := ["self", "places", "stretches", "longs"]
theorem sc_Line_init : FnScope N_Line_init ["self", "places", "stretches", "longs"] (defScope s_Line_init) := ⟨rfl, rfl, rfl, by decide +kernel, rfl, by decide +kernel, by decide +kernel⟩
theorem st_Line_init {v0 v1 v2 v3 : V} : L2.start N_Line_init [v0, v1, v2, v3] = [some v0, some v1, some v2, some v3] := rfl
abbrev s_Line_names : Stmt := inClass (top 27) 1
abbrev N_Line_names : List Str := ["self", "name", "roads"]
theorem sc_Line_names : FnScope N_Line_names ["self"] (defScope s_Line_names) := ⟨rfl, rfl, rfl, by decide +kernel, rfl, by decide +kernel, by decide +kernel⟩
theorem st_Line_names {v0 : V} : L2.start N_Line_names [v0] = [some v0, none, none] := rfl
abbrev s_Line_number_of : Stmt := inClass (top 27) 2
abbrev N_Line_number_of : List Str := ["self", "name"]
theorem sc_Line_number_of : FnScope N_Line_number_of ["self", "name"] (defScope s_Line_number_of) := ⟨rfl, rfl, rfl, by decide +kernel, rfl, by decide +kernel, by decide +kernel⟩
theorem st_Line_number_of {v0 v1 : V} : L2.start N_Line_number_of [v0, v1] = [some v0, some v1] := rfl
abbrev s_Line_roads : Stmt := inClass (top 27) 3
abbrev N_Line_roads : List Str := ["self", "name"]
theorem sc_Line_roads : FnScope N_Line_roads ["self", "name"] (defScope s_Line_roads) := ⟨rfl, rfl, rfl, by decide +kernel, rfl, by decide +kernel, by decide +kernel⟩
theorem st_Line_roads {v0 v1 : V} : L2.start N_Line_roads [v0, v1] = [some v0, some v1] := rfl
abbrev s_Line_many_stretches : Stmt := inClass (top 27) 4
abbrev N_Line_many_stretches : List Str := ["self"]
theorem sc_Line_many_stretches : FnScope N_Line_many_stretches ["self"] (defScope s_Line_many_stretches) := ⟨rfl, rfl, rfl, by decide +kernel, rfl, by decide +kernel, by decide +kernel⟩
theorem st_Line_many_stretches {v0 : V} : L2.start N_Line_many_stretches [v0] = [some v0] := rfl
abbrev s_Line_need_stretch : Stmt := inClass (top 27) 5
abbrev N_Line_need_stretch : List Str := ["self", "k"]
theorem sc_Line_need_stretch : FnScope N_Line_need_stretch ["self", "k"] (defScope s_Line_need_stretch) := ⟨rfl, rfl, rfl, by decide +kernel, rfl, by decide +kernel, by decide +kernel⟩
theorem st_Line_need_stretch {v0 v1 : V} : L2.start N_Line_need_stretch [v0, v1] = [some v0, some v1] := rfl
abbrev s_Line_ends : Stmt := inClass (top 27) 6
abbrev N_Line_ends : List Str := ["self", "k"]
theorem sc_Line_ends : FnScope N_Line_ends ["self", "k"] (defScope s_Line_ends) := ⟨rfl, rfl, rfl, by decide +kernel, rfl, by decide +kernel, by decide +kernel⟩
theorem st_Line_ends {v0 v1 : V} : L2.start N_Line_ends [v0, v1] = [some v0, some v1] := rfl
abbrev s_Line_kind : Stmt := inClass (top 27) 7
abbrev N_Line_kind : List Str := ["self", "k"]
theorem sc_Line_kind : FnScope N_Line_kind ["self", "k"] (defScope s_Line_kind) := ⟨rfl, rfl, rfl, by decide +kernel, rfl, by decide +kernel, by decide +kernel⟩
theorem st_Line_kind {v0 v1 : V} : L2.start N_Line_kind [v0, v1] = [some v0, some v1] := rfl
abbrev s_Line_home : Stmt := inClass (top 27) 8
abbrev N_Line_home : List Str := ["self", "k"]
theorem sc_Line_home : FnScope N_Line_home ["self", "k"] (defScope s_Line_home) := ⟨rfl, rfl, rfl, by decide +kernel, rfl, by decide +kernel, by decide +kernel⟩
theorem st_Line_home {v0 v1 : V} : L2.start N_Line_home [v0, v1] = [some v0, some v1] := rfl
abbrev s_Line_between : Stmt := inClass (top 27) 9
abbrev N_Line_between : List Str := ["self", "one", "other", "first", "last"]
theorem sc_Line_between : FnScope N_Line_between ["self", "one", "other"] (defScope s_Line_between) := ⟨rfl, rfl, rfl, by decide +kernel, rfl, by decide +kernel, by decide +kernel⟩
theorem st_Line_between {v0 v1 v2 : V} : L2.start N_Line_between [v0, v1, v2] = [some v0, some v1, some v2, none, none] := rfl
abbrev s_Line_many_longs : Stmt := inClass (top 27) 10
abbrev N_Line_many_longs : List Str := ["self"]
theorem sc_Line_many_longs : FnScope N_Line_many_longs ["self"] (defScope s_Line_many_longs) := ⟨rfl, rfl, rfl, by decide +kernel, rfl, by decide +kernel, by decide +kernel⟩
theorem st_Line_many_longs {v0 : V} : L2.start N_Line_many_longs [v0] = [some v0] := rfl
abbrev s_Line_need_long : Stmt := inClass (top 27) 11
abbrev N_Line_need_long : List Str := ["self", "j"]
theorem sc_Line_need_long : FnScope N_Line_need_long ["self", "j"] (defScope s_Line_need_long) := ⟨rfl, rfl, rfl, by decide +kernel, rfl, by decide +kernel, by decide +kernel⟩
theorem st_Line_need_long {v0 v1 : V} : L2.start N_Line_need_long [v0, v1] = [some v0, some v1] := rfl
abbrev s_Line_long_ends : Stmt := inClass (top 27) 12
abbrev N_Line_long_ends : List Str := ["self", "j", "first", "last", "home"]
theorem sc_Line_long_ends : FnScope N_Line_long_ends ["self", "j"] (defScope s_Line_long_ends) := ⟨rfl, rfl, rfl, by decide +kernel, rfl, by decide +kernel, by decide +kernel⟩
theorem st_Line_long_ends {v0 v1 : V} : L2.start N_Line_long_ends [v0, v1] = [some v0, some v1, none, none, none] := rfl
abbrev s_Line_long_stretches : Stmt := inClass (top 27) 13
abbrev N_Line_long_stretches : List Str := ["self", "j"]
theorem sc_Line_long_stretches : FnScope N_Line_long_stretches ["self", "j"] (defScope s_Line_long_stretches) := ⟨rfl, rfl, rfl, by decide +kernel, rfl, by decide +kernel, by decide +kernel⟩
theorem st_Line_long_stretches {v0 v1 : V} : L2.start N_Line_long_stretches [v0, v1] = [some v0, some v1] := rfl
abbrev s_Line_long_home : Stmt := inClass (top 27) 14
abbrev N_Line_long_home : List Str := ["self", "j"]
theorem sc_Line_long_home : FnScope N_Line_long_home ["self", "j"] (defScope s_Line_long_home) := ⟨rfl, rfl, rfl, by decide +kernel, rfl, by decide +kernel, by decide +kernel⟩
theorem st_Line_long_home {v0 v1 : V} : L2.start N_Line_long_home [v0, v1] = [some v0, some v1] := rfl
abbrev s_Line_long_between : Stmt := inClass (top 27) 15
abbrev N_Line_long_between : List Str := ["self", "one", "other", "first", "last", "j", "row"]
theorem sc_Line_long_between : FnScope N_Line_long_between ["self", "one", "other"] (defScope s_Line_long_between) := ⟨rfl, rfl, rfl, by decide +kernel, rfl, by decide +kernel, by decide +kernel⟩
theorem st_Line_long_between {v0 v1 v2 : V} : L2.start N_Line_long_between [v0, v1, v2] = [some v0, some v1, some v2, none, none, none, none] := rfl
abbrev s_Line_long_of : Stmt := inClass (top 27) 16
abbrev N_Line_long_of : List Str := ["self", "k", "j", "row"]
theorem sc_Line_long_of : FnScope N_Line_long_of ["self", "k"] (defScope s_Line_long_of) := ⟨rfl, rfl, rfl, by decide +kernel, rfl, by decide +kernel, by decide +kernel⟩
theorem st_Line_long_of {v0 v1 : V} : L2.start N_Line_long_of [v0, v1] = [some v0, some v1, none, none] := rfl
abbrev s_Line_told : Stmt := inClass (top 27) 17
abbrev N_Line_told : List Str := ["self"]
theorem sc_Line_told : FnScope N_Line_told ["self"] (defScope s_Line_told) := ⟨rfl, rfl, rfl, by decide +kernel, rfl, by decide +kernel, by decide +kernel⟩
theorem st_Line_told {v0 : V} : L2.start N_Line_told [v0] = [some v0] := rfl
abbrev s_Line_mirrored : Stmt := inClass (top 27) 18
abbrev N_Line_mirrored : List Str := ["self", "high", "stretches", "longs", "kind", "home", "first", "last"]
theorem sc_Line_mirrored : FnScope N_Line_mirrored ["self"] (defScope s_Line_mirrored) := ⟨rfl, rfl, rfl, by decide +kernel, rfl, by decide +kernel, by decide +kernel⟩
theorem st_Line_mirrored {v0 : V} : L2.start N_Line_mirrored [v0] = [some v0, none, none, none, none, none, none, none] := rfl
abbrev s_Line_renamed : Stmt := inClass (top 27) 19
abbrev N_Line_renamed : List Str := ["self", "names", "places", "name", "roads", "other", "one", "many"]
theorem sc_Line_renamed : FnScope N_Line_renamed ["self", "names"] (defScope s_Line_renamed) := ⟨rfl, rfl, rfl, by decide +kernel, rfl, by decide +kernel, by decide +kernel⟩
theorem st_Line_renamed {v0 v1 : V} : L2.start N_Line_renamed [v0, v1] = [some v0, some v1, none, none, none, none, none, none] := rfl
abbrev s_law_cell : Stmt := top 29
abbrev N_law_cell : List Str := ["_law_script", "_law_k"]
theorem sc_law_cell : FnScope N_law_cell ["_law_script", "_law_k"] (defScope s_law_cell) := ⟨rfl, rfl, rfl, by decide +kernel, rfl, by decide +kernel, by decide +kernel⟩
theorem st_law_cell {v0 v1 : V} : L2.start N_law_cell [v0, v1] = [some v0, some v1] := rfl
abbrev s_law_box : Stmt := top 30
abbrev N_law_box : List Str := ["_law_cell_here"]
theorem sc_law_box : FnScope N_law_box ["_law_cell_here"] (defScope s_law_box) := ⟨rfl, rfl, rfl, by decide +kernel, rfl, by decide +kernel, by decide +kernel⟩
theorem st_law_box {v0 : V} : L2.start N_law_box [v0] = [some v0] := rfl
abbrev s_law_take : Stmt := top 31
abbrev N_law_take : List Str := ["_law_box_here", "_law_many", "_law_number", "_law_digit"]
theorem sc_law_take : FnScope N_law_take ["_law_box_here", "_law_many"] (defScope s_law_take) := ⟨rfl, rfl, rfl, by decide +kernel, rfl, by decide +kernel, by decide +kernel⟩
theorem st_law_take {v0 v1 : V} : L2.start N_law_take [v0, v1] = [some v0, some v1, none, none] := rfl
abbrev s_law_names : Stmt := top 32
abbrev N_law_names : List Str := ["_law_box_here", "_law_many", "_law_letters", "_law_words", "_law_way", "_law_first", "_law_stem", "_law_at", "_law_k"]
theorem sc_law_names : FnScope N_law_names ["_law_box_here", "_law_many"] (defScope s_law_names) := ⟨rfl, rfl, rfl, by decide +kernel, rfl, by decide +kernel, by decide +kernel⟩
theorem st_law_names {v0 v1 : V} : L2.start N_law_names [v0, v1] = [some v0, some v1, none, none, none, none, none, none, none] := rfl
abbrev s_law_world : Stmt := top 33
abbrev N_law_world : List Str := ["_law_box_here", "_law_many", "_law_names_here", "_law_places", "_law_stretches", "_law_longs", "_law_low", "_law_turn", "_law_first", "_law_last", "_law_name", "_law_k"]
theorem sc_law_world : FnScope N_law_world ["_law_box_here"] (defScope s_law_world) := ⟨rfl, rfl, rfl, by decide +kernel, rfl, by decide +kernel, by decide +kernel⟩
theorem st_law_world {v0 : V} : L2.start N_law_world [v0] = [some v0, none, none, none, none, none, none, none, none, none, none, none] := rfl
abbrev s_law_is_name : Stmt := top 34
abbrev N_law_is_name : List Str := ["_law_thing", "_law_letters", "_law_sign"]
theorem sc_law_is_name : FnScope N_law_is_name ["_law_thing"] (defScope s_law_is_name) := ⟨rfl, rfl, rfl, by decide +kernel, rfl, by decide +kernel, by decide +kernel⟩
theorem st_law_is_name {v0 : V} : L2.start N_law_is_name [v0] = [some v0, none, none] := rfl
abbrev s_law_told : Stmt := top 35
abbrev N_law_told : List Str := ["_law_world_here"]
theorem sc_law_told : FnScope N_law_told ["_law_world_here"] (defScope s_law_told) := ⟨rfl, rfl, rfl, by decide +kernel, rfl, by decide +kernel, by decide +kernel⟩
theorem st_law_told {v0 : V} : L2.start N_law_told [v0] = [some v0] := rfl
abbrev s_law_turned : Stmt := top 36
abbrev N_law_turned : List Str := ["_law_world_here", "_law_places", "_law_stretches", "_law_longs", "_law_spare", "_law_last", "_law_found", "_law_others", "_law_low", "_law_high", "_law_home", "_law_kind"]
theorem sc_law_turned : FnScope N_law_turned ["_law_world_here"] (defScope s_law_turned) := ⟨rfl, rfl, rfl, by decide +kernel, rfl, by decide +kernel, by decide +kernel⟩
theorem st_law_turned {v0 : V} : L2.start N_law_turned [v0] = [some v0, none, none, none, none, none, none, none, none, none, none, none] := rfl
abbrev s_law_dict : Stmt := top 37
abbrev N_law_dict : List Str := ["_law_box_here", "_law_world_here", "_law_names_here", "_law_way", "_law_at", "_law_found", "_law_turn", "_law_key", "_law_some", "_law_name", "_law_roads"]
theorem sc_law_dict : FnScope N_law_dict ["_law_box_here", "_law_world_here"] (defScope s_law_dict) := ⟨rfl, rfl, rfl, by decide +kernel, rfl, by decide +kernel, by decide +kernel⟩
theorem st_law_dict {v0 v1 : V} : L2.start N_law_dict [v0, v1] = [some v0, some v1, none, none, none, none, none, none, none, none, none] := rfl
abbrev s_law_due : Stmt := top 38
abbrev N_law_due : List Str := ["_law_world_here", "_law_some", "_law_seen", "_law_name", "_law_roads", "_law_places", "_law_other", "_law_row"]
theorem sc_law_due : FnScope N_law_due ["_law_world_here", "_law_some"] (defScope s_law_due) := ⟨rfl, rfl, rfl, by decide +kernel, rfl, by decide +kernel, by decide +kernel⟩
theorem st_law_due {v0 v1 : V} : L2.start N_law_due [v0, v1] = [some v0, some v1, none, none, none, none, none, none] := rfl
abbrev s_law_caught : Stmt := top 39
abbrev N_law_caught : List Str := ["_law_line", "_law_thing", "e"]
theorem sc_law_caught : FnScope N_law_caught ["_law_line", "_law_thing"] (defScope s_law_caught) := ⟨rfl, rfl, rfl, by decide +kernel, rfl, by decide +kernel, by decide +kernel⟩
theorem st_law_caught {v0 v1 : V} : L2.start N_law_caught [v0, v1] = [some v0, some v1, none] := rfl
abbrev s_law_stretches_asked_right : Stmt := top 40
abbrev N_law_stretches_asked_right : List Str := ["_law_line", "_law_world_here", "_law_names_here", "_law_k", "_law_kind", "_law_home", "_law_j", "_law_low", "_law_high", "_law_due_here", "_law_name", "_law_roads", "_law_one", "_law_at"]
theorem sc_law_stretches_asked_right : FnScope N_law_stretches_asked_right ["_law_line", "_law_world_here"] (defScope s_law_stretches_asked_right) := ⟨rfl, rfl, rfl, by decide +kernel, rfl, by decide +kernel, by decide +kernel⟩
theorem st_law_stretches_asked_right {v0 v1 : V} : L2.start N_law_stretches_asked_right [v0, v1] = [some v0, some v1, none, none, none, none, none, none, none, none, none, none, none, none] := rfl
abbrev s_law_asked_right : Stmt := top 41
abbrev N_law_asked_right : List Str := ["_law_line", "_law_world_here", "_law_names_here", "_law_ends", "_law_at", "_law_one", "_law_to", "_law_other", "_law_pair", "_law_due_here", "_law_name", "_law_roads", "_law_low", "_law_high", "_law_home"]
theorem sc_law_asked_right : FnScope N_law_asked_right ["_law_line", "_law_world_here"] (defScope s_law_asked_right) := ⟨rfl, rfl, rfl, by decide +kernel, rfl, by decide +kernel, by decide +kernel⟩
theorem st_law_asked_right {v0 v1 : V} : L2.start N_law_asked_right [v0, v1] = [some v0, some v1, none, none, none, none, none, none, none, none, none, none, none, none, none] := rfl
abbrev s_law_renamed_right : Stmt := top 42
abbrev N_law_renamed_right : List Str := ["_law_box_here", "_law_line", "_law_world_here", "_law_some", "_law_before", "_law_due_here", "_law_thing", "_law_other"]
theorem sc_law_renamed_right : FnScope N_law_renamed_right ["_law_box_here", "_law_line", "_law_world_here"] (defScope s_law_renamed_right) := ⟨rfl, rfl, rfl, by decide +kernel, rfl, by decide +kernel, by decide +kernel⟩
theorem st_law_renamed_right {v0 v1 v2 : V} : L2.start N_law_renamed_right [v0, v1, v2] = [some v0, some v1, some v2, none, none, none, none, none] := rfl
abbrev s_law : Stmt := top 43
abbrev N_law : List Str := ["_law_script", "_law_k", "_law_box_here", "_law_world_here", "_law_line", "_law_turned_here", "_law_turn"]
theorem sc_law : FnScope N_law ["_law_script"] (defScope s_law) := ⟨rfl, rfl, rfl, by decide +kernel, rfl, by decide +kernel, by decide +kernel⟩
theorem st_law {v0 : V} : L2.start N_law [v0] = [some v0, none, none, none, none, none, none] := rfl
structure Td0 where
  C_Line : Addr
  C_NoName : Addr
  C_NoPlace : Addr
  C_NoStretch : Addr
  C_NoLong : Addr
  C_NoPlaces : Addr
  C_NoStretches : Addr
  C_NoLongs : Addr
  C_NoNumber : Addr
  C_Twice : Addr
  C_StaffError : Addr
  a_NoName_init : Addr
  d_NoName_init : FuncData
  a_NoPlace_init : Addr
  d_NoPlace_init : FuncData
  a_NoStretch_init : Addr
  d_NoStretch_init : FuncData
  a_NoLong_init : Addr
  d_NoLong_init : FuncData
  a_NoPlaces_init : Addr
  d_NoPlaces_init : FuncData
  a_NoStretches_init : Addr
  d_NoStretches_init : FuncData
  a_NoLongs_init : Addr
structure Td1 where
  d_NoLongs_init : FuncData
  a_NoNumber_init : Addr
  d_NoNumber_init : FuncData
  a_Twice_init : Addr
  d_Twice_init : FuncData
  a_is_whole : Addr
  d_is_whole : FuncData
  a_is_name : Addr
  d_is_name : FuncData
  a_is_row : Addr
  d_is_row : FuncData
  a_good_places : Addr
  d_good_places : FuncData
  a_is_stretch : Addr
  d_is_stretch : FuncData
  a_good_stretches : Addr
  d_good_stretches : FuncData
  a_is_long : Addr
  d_is_long : FuncData
  a_good_longs : Addr
  d_good_longs : FuncData
  a_Line_init : Addr
  d_Line_init : FuncData
  a_Line_names : Addr
structure Td2 where
  d_Line_names : FuncData
  a_Line_number_of : Addr
  d_Line_number_of : FuncData
  a_Line_roads : Addr
  d_Line_roads : FuncData
  a_Line_many_stretches : Addr
  d_Line_many_stretches : FuncData
  a_Line_need_stretch : Addr
  d_Line_need_stretch : FuncData
  a_Line_ends : Addr
  d_Line_ends : FuncData
  a_Line_kind : Addr
  d_Line_kind : FuncData
  a_Line_home : Addr
  d_Line_home : FuncData
  a_Line_between : Addr
  d_Line_between : FuncData
  a_Line_many_longs : Addr
  d_Line_many_longs : FuncData
  a_Line_need_long : Addr
  d_Line_need_long : FuncData
  a_Line_long_ends : Addr
  d_Line_long_ends : FuncData
  a_Line_long_stretches : Addr
structure Td3 where
  d_Line_long_stretches : FuncData
  a_Line_long_home : Addr
  d_Line_long_home : FuncData
  a_Line_long_between : Addr
  d_Line_long_between : FuncData
  a_Line_long_of : Addr
  d_Line_long_of : FuncData
  a_Line_told : Addr
  d_Line_told : FuncData
  a_Line_mirrored : Addr
  d_Line_mirrored : FuncData
  a_Line_renamed : Addr
  d_Line_renamed : FuncData
  a_law_cell : Addr
  d_law_cell : FuncData
  a_law_box : Addr
  d_law_box : FuncData
  a_law_take : Addr
  d_law_take : FuncData
  a_law_names : Addr
  d_law_names : FuncData
  a_law_world : Addr
  d_law_world : FuncData
  a_law_is_name : Addr
structure Td4 where
  d_law_is_name : FuncData
  a_law_told : Addr
  d_law_told : FuncData
  a_law_turned : Addr
  d_law_turned : FuncData
  a_law_dict : Addr
  d_law_dict : FuncData
  a_law_due : Addr
  d_law_due : FuncData
  a_law_caught : Addr
  d_law_caught : FuncData
  a_law_stretches_asked_right : Addr
  d_law_stretches_asked_right : FuncData
  a_law_asked_right : Addr
  d_law_asked_right : FuncData
  a_law_renamed_right : Addr
  d_law_renamed_right : FuncData
  a_law : Addr
  d_law : FuncData
  c_LONGEST : Value
  c_LETTERS : Value
  c_FEWEST_PLACES : Value
  c_MOST_PLACES : Value
  c_MOST_ROADS : Value
structure Td5 where
  c_MOST_LONGS : Value
structure Td where
  p0 : Td0
  p1 : Td1
  p2 : Td2
  p3 : Td3
  p4 : Td4
  p5 : Td5
abbrev Td.C_Line (D : Td) : Addr := D.p0.C_Line
abbrev Td.C_NoName (D : Td) : Addr := D.p0.C_NoName
abbrev Td.C_NoPlace (D : Td) : Addr := D.p0.C_NoPlace
abbrev Td.C_NoStretch (D : Td) : Addr := D.p0.C_NoStretch
abbrev Td.C_NoLong (D : Td) : Addr := D.p0.C_NoLong
abbrev Td.C_NoPlaces (D : Td) : Addr := D.p0.C_NoPlaces
abbrev Td.C_NoStretches (D : Td) : Addr := D.p0.C_NoStretches
abbrev Td.C_NoLongs (D : Td) : Addr := D.p0.C_NoLongs
abbrev Td.C_NoNumber (D : Td) : Addr := D.p0.C_NoNumber
abbrev Td.C_Twice (D : Td) : Addr := D.p0.C_Twice
abbrev Td.C_StaffError (D : Td) : Addr := D.p0.C_StaffError
abbrev Td.a_NoName_init (D : Td) : Addr := D.p0.a_NoName_init
abbrev Td.d_NoName_init (D : Td) : FuncData := D.p0.d_NoName_init
abbrev Td.a_NoPlace_init (D : Td) : Addr := D.p0.a_NoPlace_init
abbrev Td.d_NoPlace_init (D : Td) : FuncData := D.p0.d_NoPlace_init
abbrev Td.a_NoStretch_init (D : Td) : Addr := D.p0.a_NoStretch_init
abbrev Td.d_NoStretch_init (D : Td) : FuncData := D.p0.d_NoStretch_init
abbrev Td.a_NoLong_init (D : Td) : Addr := D.p0.a_NoLong_init
abbrev Td.d_NoLong_init (D : Td) : FuncData := D.p0.d_NoLong_init
abbrev Td.a_NoPlaces_init (D : Td) : Addr := D.p0.a_NoPlaces_init
abbrev Td.d_NoPlaces_init (D : Td) : FuncData := D.p0.d_NoPlaces_init
abbrev Td.a_NoStretches_init (D : Td) : Addr := D.p0.a_NoStretches_init
abbrev Td.d_NoStretches_init (D : Td) : FuncData := D.p0.d_NoStretches_init
abbrev Td.a_NoLongs_init (D : Td) : Addr := D.p0.a_NoLongs_init
abbrev Td.d_NoLongs_init (D : Td) : FuncData := D.p1.d_NoLongs_init
abbrev Td.a_NoNumber_init (D : Td) : Addr := D.p1.a_NoNumber_init
abbrev Td.d_NoNumber_init (D : Td) : FuncData := D.p1.d_NoNumber_init
abbrev Td.a_Twice_init (D : Td) : Addr := D.p1.a_Twice_init
abbrev Td.d_Twice_init (D : Td) : FuncData := D.p1.d_Twice_init
abbrev Td.a_is_whole (D : Td) : Addr := D.p1.a_is_whole
abbrev Td.d_is_whole (D : Td) : FuncData := D.p1.d_is_whole
abbrev Td.a_is_name (D : Td) : Addr := D.p1.a_is_name
abbrev Td.d_is_name (D : Td) : FuncData := D.p1.d_is_name
abbrev Td.a_is_row (D : Td) : Addr := D.p1.a_is_row
abbrev Td.d_is_row (D : Td) : FuncData := D.p1.d_is_row
abbrev Td.a_good_places (D : Td) : Addr := D.p1.a_good_places
abbrev Td.d_good_places (D : Td) : FuncData := D.p1.d_good_places
abbrev Td.a_is_stretch (D : Td) : Addr := D.p1.a_is_stretch
abbrev Td.d_is_stretch (D : Td) : FuncData := D.p1.d_is_stretch
abbrev Td.a_good_stretches (D : Td) : Addr := D.p1.a_good_stretches
abbrev Td.d_good_stretches (D : Td) : FuncData := D.p1.d_good_stretches
abbrev Td.a_is_long (D : Td) : Addr := D.p1.a_is_long
abbrev Td.d_is_long (D : Td) : FuncData := D.p1.d_is_long
abbrev Td.a_good_longs (D : Td) : Addr := D.p1.a_good_longs
abbrev Td.d_good_longs (D : Td) : FuncData := D.p1.d_good_longs
abbrev Td.a_Line_init (D : Td) : Addr := D.p1.a_Line_init
abbrev Td.d_Line_init (D : Td) : FuncData := D.p1.d_Line_init
abbrev Td.a_Line_names (D : Td) : Addr := D.p1.a_Line_names
abbrev Td.d_Line_names (D : Td) : FuncData := D.p2.d_Line_names
abbrev Td.a_Line_number_of (D : Td) : Addr := D.p2.a_Line_number_of
abbrev Td.d_Line_number_of (D : Td) : FuncData := D.p2.d_Line_number_of
abbrev Td.a_Line_roads (D : Td) : Addr := D.p2.a_Line_roads
abbrev Td.d_Line_roads (D : Td) : FuncData := D.p2.d_Line_roads
abbrev Td.a_Line_many_stretches (D : Td) : Addr := D.p2.a_Line_many_stretches
abbrev Td.d_Line_many_stretches (D : Td) : FuncData := D.p2.d_Line_many_stretches
abbrev Td.a_Line_need_stretch (D : Td) : Addr := D.p2.a_Line_need_stretch
abbrev Td.d_Line_need_stretch (D : Td) : FuncData := D.p2.d_Line_need_stretch
abbrev Td.a_Line_ends (D : Td) : Addr := D.p2.a_Line_ends
abbrev Td.d_Line_ends (D : Td) : FuncData := D.p2.d_Line_ends
abbrev Td.a_Line_kind (D : Td) : Addr := D.p2.a_Line_kind
abbrev Td.d_Line_kind (D : Td) : FuncData := D.p2.d_Line_kind
abbrev Td.a_Line_home (D : Td) : Addr := D.p2.a_Line_home
abbrev Td.d_Line_home (D : Td) : FuncData := D.p2.d_Line_home
abbrev Td.a_Line_between (D : Td) : Addr := D.p2.a_Line_between
abbrev Td.d_Line_between (D : Td) : FuncData := D.p2.d_Line_between
abbrev Td.a_Line_many_longs (D : Td) : Addr := D.p2.a_Line_many_longs
abbrev Td.d_Line_many_longs (D : Td) : FuncData := D.p2.d_Line_many_longs
abbrev Td.a_Line_need_long (D : Td) : Addr := D.p2.a_Line_need_long
abbrev Td.d_Line_need_long (D : Td) : FuncData := D.p2.d_Line_need_long
abbrev Td.a_Line_long_ends (D : Td) : Addr := D.p2.a_Line_long_ends
abbrev Td.d_Line_long_ends (D : Td) : FuncData := D.p2.d_Line_long_ends
abbrev Td.a_Line_long_stretches (D : Td) : Addr := D.p2.a_Line_long_stretches
abbrev Td.d_Line_long_stretches (D : Td) : FuncData := D.p3.d_Line_long_stretches
abbrev Td.a_Line_long_home (D : Td) : Addr := D.p3.a_Line_long_home
abbrev Td.d_Line_long_home (D : Td) : FuncData := D.p3.d_Line_long_home
abbrev Td.a_Line_long_between (D : Td) : Addr := D.p3.a_Line_long_between
abbrev Td.d_Line_long_between (D : Td) : FuncData := D.p3.d_Line_long_between
abbrev Td.a_Line_long_of (D : Td) : Addr := D.p3.a_Line_long_of
abbrev Td.d_Line_long_of (D : Td) : FuncData := D.p3.d_Line_long_of
abbrev Td.a_Line_told (D : Td) : Addr := D.p3.a_Line_told
abbrev Td.d_Line_told (D : Td) : FuncData := D.p3.d_Line_told
abbrev Td.a_Line_mirrored (D : Td) : Addr := D.p3.a_Line_mirrored
abbrev Td.d_Line_mirrored (D : Td) : FuncData := D.p3.d_Line_mirrored
abbrev Td.a_Line_renamed (D : Td) : Addr := D.p3.a_Line_renamed
abbrev Td.d_Line_renamed (D : Td) : FuncData := D.p3.d_Line_renamed
abbrev Td.a_law_cell (D : Td) : Addr := D.p3.a_law_cell
abbrev Td.d_law_cell (D : Td) : FuncData := D.p3.d_law_cell
abbrev Td.a_law_box (D : Td) : Addr := D.p3.a_law_box
abbrev Td.d_law_box (D : Td) : FuncData := D.p3.d_law_box
abbrev Td.a_law_take (D : Td) : Addr := D.p3.a_law_take
abbrev Td.d_law_take (D : Td) : FuncData := D.p3.d_law_take
abbrev Td.a_law_names (D : Td) : Addr := D.p3.a_law_names
abbrev Td.d_law_names (D : Td) : FuncData := D.p3.d_law_names
abbrev Td.a_law_world (D : Td) : Addr := D.p3.a_law_world
abbrev Td.d_law_world (D : Td) : FuncData := D.p3.d_law_world
abbrev Td.a_law_is_name (D : Td) : Addr := D.p3.a_law_is_name
abbrev Td.d_law_is_name (D : Td) : FuncData := D.p4.d_law_is_name
abbrev Td.a_law_told (D : Td) : Addr := D.p4.a_law_told
abbrev Td.d_law_told (D : Td) : FuncData := D.p4.d_law_told
abbrev Td.a_law_turned (D : Td) : Addr := D.p4.a_law_turned
abbrev Td.d_law_turned (D : Td) : FuncData := D.p4.d_law_turned
abbrev Td.a_law_dict (D : Td) : Addr := D.p4.a_law_dict
abbrev Td.d_law_dict (D : Td) : FuncData := D.p4.d_law_dict
abbrev Td.a_law_due (D : Td) : Addr := D.p4.a_law_due
abbrev Td.d_law_due (D : Td) : FuncData := D.p4.d_law_due
abbrev Td.a_law_caught (D : Td) : Addr := D.p4.a_law_caught
abbrev Td.d_law_caught (D : Td) : FuncData := D.p4.d_law_caught
abbrev Td.a_law_stretches_asked_right (D : Td) : Addr := D.p4.a_law_stretches_asked_right
abbrev Td.d_law_stretches_asked_right (D : Td) : FuncData := D.p4.d_law_stretches_asked_right
abbrev Td.a_law_asked_right (D : Td) : Addr := D.p4.a_law_asked_right
abbrev Td.d_law_asked_right (D : Td) : FuncData := D.p4.d_law_asked_right
abbrev Td.a_law_renamed_right (D : Td) : Addr := D.p4.a_law_renamed_right
abbrev Td.d_law_renamed_right (D : Td) : FuncData := D.p4.d_law_renamed_right
abbrev Td.a_law (D : Td) : Addr := D.p4.a_law
abbrev Td.d_law (D : Td) : FuncData := D.p4.d_law
abbrev Td.c_LONGEST (D : Td) : Value := D.p4.c_LONGEST
abbrev Td.c_LETTERS (D : Td) : Value := D.p4.c_LETTERS
abbrev Td.c_FEWEST_PLACES (D : Td) : Value := D.p4.c_FEWEST_PLACES
abbrev Td.c_MOST_PLACES (D : Td) : Value := D.p4.c_MOST_PLACES
abbrev Td.c_MOST_ROADS (D : Td) : Value := D.p4.c_MOST_ROADS
abbrev Td.c_MOST_LONGS (D : Td) : Value := D.p5.c_MOST_LONGS
structure Tp0 (K : PySem.W.Frag) (mg : Str → Option Value) (D : Td) : Prop where
  m_Line : mg "Line" = some (.ref D.C_Line)
  m_NoName : mg "NoName" = some (.ref D.C_NoName)
  m_NoPlace : mg "NoPlace" = some (.ref D.C_NoPlace)
  m_NoStretch : mg "NoStretch" = some (.ref D.C_NoStretch)
  m_NoLong : mg "NoLong" = some (.ref D.C_NoLong)
  m_NoPlaces : mg "NoPlaces" = some (.ref D.C_NoPlaces)
  m_NoStretches : mg "NoStretches" = some (.ref D.C_NoStretches)
  m_NoLongs : mg "NoLongs" = some (.ref D.C_NoLongs)
  m_NoNumber : mg "NoNumber" = some (.ref D.C_NoNumber)
  m_Twice : mg "Twice" = some (.ref D.C_Twice)
  m_StaffError : mg "StaffError" = some (.ref D.C_StaffError)
  F_NoName_init : Fun K "__init__" "NoName.__init__" s_NoName_init D.a_NoName_init D.d_NoName_init
  B_NoName_init : Binds K D.d_NoName_init ["self", "found"] []
  F_NoPlace_init : Fun K "__init__" "NoPlace.__init__" s_NoPlace_init D.a_NoPlace_init D.d_NoPlace_init
  B_NoPlace_init : Binds K D.d_NoPlace_init ["self", "found"] []
  F_NoStretch_init : Fun K "__init__" "NoStretch.__init__" s_NoStretch_init D.a_NoStretch_init D.d_NoStretch_init
  B_NoStretch_init : Binds K D.d_NoStretch_init ["self", "found"] []
  F_NoLong_init : Fun K "__init__" "NoLong.__init__" s_NoLong_init D.a_NoLong_init D.d_NoLong_init
  B_NoLong_init : Binds K D.d_NoLong_init ["self", "found"] []
  F_NoPlaces_init : Fun K "__init__" "NoPlaces.__init__" s_NoPlaces_init D.a_NoPlaces_init D.d_NoPlaces_init
  B_NoPlaces_init : Binds K D.d_NoPlaces_init ["self", "found"] []
  F_NoStretches_init : Fun K "__init__" "NoStretches.__init__" s_NoStretches_init D.a_NoStretches_init D.d_NoStretches_init
  B_NoStretches_init : Binds K D.d_NoStretches_init ["self", "found"] []
  F_NoLongs_init : Fun K "__init__" "NoLongs.__init__" s_NoLongs_init D.a_NoLongs_init D.d_NoLongs_init
structure Tp1 (K : PySem.W.Frag) (mg : Str → Option Value) (D : Td) : Prop where
  B_NoLongs_init : Binds K D.d_NoLongs_init ["self", "found"] []
  F_NoNumber_init : Fun K "__init__" "NoNumber.__init__" s_NoNumber_init D.a_NoNumber_init D.d_NoNumber_init
  B_NoNumber_init : Binds K D.d_NoNumber_init ["self", "found"] []
  F_Twice_init : Fun K "__init__" "Twice.__init__" s_Twice_init D.a_Twice_init D.d_Twice_init
  B_Twice_init : Binds K D.d_Twice_init ["self", "found"] []
  F_is_whole : Fun K "is_whole" "is_whole" s_is_whole D.a_is_whole D.d_is_whole
  B_is_whole : Binds K D.d_is_whole ["thing", "low", "high"] []
  m_is_whole : mg "is_whole" = some (.ref D.a_is_whole)
  F_is_name : Fun K "is_name" "is_name" s_is_name D.a_is_name D.d_is_name
  B_is_name : Binds K D.d_is_name ["thing"] []
  m_is_name : mg "is_name" = some (.ref D.a_is_name)
  F_is_row : Fun K "is_row" "is_row" s_is_row D.a_is_row D.d_is_row
  B_is_row : Binds K D.d_is_row ["thing", "size"] []
  m_is_row : mg "is_row" = some (.ref D.a_is_row)
  F_good_places : Fun K "good_places" "good_places" s_good_places D.a_good_places D.d_good_places
  B_good_places : Binds K D.d_good_places ["places"] []
  m_good_places : mg "good_places" = some (.ref D.a_good_places)
  F_is_stretch : Fun K "is_stretch" "is_stretch" s_is_stretch D.a_is_stretch D.d_is_stretch
  B_is_stretch : Binds K D.d_is_stretch ["thing"] []
  m_is_stretch : mg "is_stretch" = some (.ref D.a_is_stretch)
  F_good_stretches : Fun K "good_stretches" "good_stretches" s_good_stretches D.a_good_stretches D.d_good_stretches
  B_good_stretches : Binds K D.d_good_stretches ["stretches", "many"] []
  m_good_stretches : mg "good_stretches" = some (.ref D.a_good_stretches)
  F_is_long : Fun K "is_long" "is_long" s_is_long D.a_is_long D.d_is_long
structure Tp2 (K : PySem.W.Frag) (mg : Str → Option Value) (D : Td) : Prop where
  B_is_long : Binds K D.d_is_long ["thing", "low", "high"] []
  m_is_long : mg "is_long" = some (.ref D.a_is_long)
  F_good_longs : Fun K "good_longs" "good_longs" s_good_longs D.a_good_longs D.d_good_longs
  B_good_longs : Binds K D.d_good_longs ["longs", "many"] []
  m_good_longs : mg "good_longs" = some (.ref D.a_good_longs)
  F_Line_init : FunN K "__init__" "Line.__init__" s_Line_init D.a_Line_init D.d_Line_init
  B_Line_init : Binds K D.d_Line_init ["self", "places", "stretches", "longs"] []
  Bp_Line_init : Binds K D.d_Line_init ["self", "places", "stretches", "longs"] [.none]
  F_Line_names : Fun K "names" "Line.names" s_Line_names D.a_Line_names D.d_Line_names
  B_Line_names : Binds K D.d_Line_names ["self"] []
  F_Line_number_of : Fun K "number_of" "Line.number_of" s_Line_number_of D.a_Line_number_of D.d_Line_number_of
  B_Line_number_of : Binds K D.d_Line_number_of ["self", "name"] []
  F_Line_roads : Fun K "roads" "Line.roads" s_Line_roads D.a_Line_roads D.d_Line_roads
  B_Line_roads : Binds K D.d_Line_roads ["self", "name"] []
  F_Line_many_stretches : Fun K "many_stretches" "Line.many_stretches" s_Line_many_stretches D.a_Line_many_stretches D.d_Line_many_stretches
  B_Line_many_stretches : Binds K D.d_Line_many_stretches ["self"] []
  F_Line_need_stretch : Fun K "need_stretch" "Line.need_stretch" s_Line_need_stretch D.a_Line_need_stretch D.d_Line_need_stretch
  B_Line_need_stretch : Binds K D.d_Line_need_stretch ["self", "k"] []
  F_Line_ends : Fun K "ends" "Line.ends" s_Line_ends D.a_Line_ends D.d_Line_ends
  B_Line_ends : Binds K D.d_Line_ends ["self", "k"] []
  F_Line_kind : Fun K "kind" "Line.kind" s_Line_kind D.a_Line_kind D.d_Line_kind
  B_Line_kind : Binds K D.d_Line_kind ["self", "k"] []
  F_Line_home : Fun K "home" "Line.home" s_Line_home D.a_Line_home D.d_Line_home
  B_Line_home : Binds K D.d_Line_home ["self", "k"] []
structure Tp3 (K : PySem.W.Frag) (mg : Str → Option Value) (D : Td) : Prop where
  F_Line_between : Fun K "between" "Line.between" s_Line_between D.a_Line_between D.d_Line_between
  B_Line_between : Binds K D.d_Line_between ["self", "one", "other"] []
  F_Line_many_longs : Fun K "many_longs" "Line.many_longs" s_Line_many_longs D.a_Line_many_longs D.d_Line_many_longs
  B_Line_many_longs : Binds K D.d_Line_many_longs ["self"] []
  F_Line_need_long : Fun K "need_long" "Line.need_long" s_Line_need_long D.a_Line_need_long D.d_Line_need_long
  B_Line_need_long : Binds K D.d_Line_need_long ["self", "j"] []
  F_Line_long_ends : Fun K "long_ends" "Line.long_ends" s_Line_long_ends D.a_Line_long_ends D.d_Line_long_ends
  B_Line_long_ends : Binds K D.d_Line_long_ends ["self", "j"] []
  F_Line_long_stretches : Fun K "long_stretches" "Line.long_stretches" s_Line_long_stretches D.a_Line_long_stretches D.d_Line_long_stretches
  B_Line_long_stretches : Binds K D.d_Line_long_stretches ["self", "j"] []
  F_Line_long_home : Fun K "long_home" "Line.long_home" s_Line_long_home D.a_Line_long_home D.d_Line_long_home
  B_Line_long_home : Binds K D.d_Line_long_home ["self", "j"] []
  F_Line_long_between : Fun K "long_between" "Line.long_between" s_Line_long_between D.a_Line_long_between D.d_Line_long_between
  B_Line_long_between : Binds K D.d_Line_long_between ["self", "one", "other"] []
  F_Line_long_of : Fun K "long_of" "Line.long_of" s_Line_long_of D.a_Line_long_of D.d_Line_long_of
  B_Line_long_of : Binds K D.d_Line_long_of ["self", "k"] []
  F_Line_told : Fun K "told" "Line.told" s_Line_told D.a_Line_told D.d_Line_told
  B_Line_told : Binds K D.d_Line_told ["self"] []
  F_Line_mirrored : Fun K "mirrored" "Line.mirrored" s_Line_mirrored D.a_Line_mirrored D.d_Line_mirrored
  B_Line_mirrored : Binds K D.d_Line_mirrored ["self"] []
  F_Line_renamed : Fun K "renamed" "Line.renamed" s_Line_renamed D.a_Line_renamed D.d_Line_renamed
  B_Line_renamed : Binds K D.d_Line_renamed ["self", "names"] []
  F_law_cell : Fun K "_law_cell" "_law_cell" s_law_cell D.a_law_cell D.d_law_cell
  B_law_cell : Binds K D.d_law_cell ["_law_script", "_law_k"] []
structure Tp4 (K : PySem.W.Frag) (mg : Str → Option Value) (D : Td) : Prop where
  m_law_cell : mg "_law_cell" = some (.ref D.a_law_cell)
  F_law_box : Fun K "_law_box" "_law_box" s_law_box D.a_law_box D.d_law_box
  B_law_box : Binds K D.d_law_box ["_law_cell_here"] []
  m_law_box : mg "_law_box" = some (.ref D.a_law_box)
  F_law_take : Fun K "_law_take" "_law_take" s_law_take D.a_law_take D.d_law_take
  B_law_take : Binds K D.d_law_take ["_law_box_here", "_law_many"] []
  m_law_take : mg "_law_take" = some (.ref D.a_law_take)
  F_law_names : Fun K "_law_names" "_law_names" s_law_names D.a_law_names D.d_law_names
  B_law_names : Binds K D.d_law_names ["_law_box_here", "_law_many"] []
  m_law_names : mg "_law_names" = some (.ref D.a_law_names)
  F_law_world : Fun K "_law_world" "_law_world" s_law_world D.a_law_world D.d_law_world
  B_law_world : Binds K D.d_law_world ["_law_box_here"] []
  m_law_world : mg "_law_world" = some (.ref D.a_law_world)
  F_law_is_name : Fun K "_law_is_name" "_law_is_name" s_law_is_name D.a_law_is_name D.d_law_is_name
  B_law_is_name : Binds K D.d_law_is_name ["_law_thing"] []
  m_law_is_name : mg "_law_is_name" = some (.ref D.a_law_is_name)
  F_law_told : Fun K "_law_told" "_law_told" s_law_told D.a_law_told D.d_law_told
  B_law_told : Binds K D.d_law_told ["_law_world_here"] []
  m_law_told : mg "_law_told" = some (.ref D.a_law_told)
  F_law_turned : Fun K "_law_turned" "_law_turned" s_law_turned D.a_law_turned D.d_law_turned
  B_law_turned : Binds K D.d_law_turned ["_law_world_here"] []
  m_law_turned : mg "_law_turned" = some (.ref D.a_law_turned)
  F_law_dict : Fun K "_law_dict" "_law_dict" s_law_dict D.a_law_dict D.d_law_dict
  B_law_dict : Binds K D.d_law_dict ["_law_box_here", "_law_world_here"] []
structure Tp5 (K : PySem.W.Frag) (mg : Str → Option Value) (D : Td) : Prop where
  m_law_dict : mg "_law_dict" = some (.ref D.a_law_dict)
  F_law_due : Fun K "_law_due" "_law_due" s_law_due D.a_law_due D.d_law_due
  B_law_due : Binds K D.d_law_due ["_law_world_here", "_law_some"] []
  m_law_due : mg "_law_due" = some (.ref D.a_law_due)
  F_law_caught : Fun K "_law_caught" "_law_caught" s_law_caught D.a_law_caught D.d_law_caught
  B_law_caught : Binds K D.d_law_caught ["_law_line", "_law_thing"] []
  m_law_caught : mg "_law_caught" = some (.ref D.a_law_caught)
  F_law_stretches_asked_right : Fun K "_law_stretches_asked_right" "_law_stretches_asked_right" s_law_stretches_asked_right D.a_law_stretches_asked_right D.d_law_stretches_asked_right
  B_law_stretches_asked_right : Binds K D.d_law_stretches_asked_right ["_law_line", "_law_world_here"] []
  m_law_stretches_asked_right : mg "_law_stretches_asked_right" = some (.ref D.a_law_stretches_asked_right)
  F_law_asked_right : Fun K "_law_asked_right" "_law_asked_right" s_law_asked_right D.a_law_asked_right D.d_law_asked_right
  B_law_asked_right : Binds K D.d_law_asked_right ["_law_line", "_law_world_here"] []
  m_law_asked_right : mg "_law_asked_right" = some (.ref D.a_law_asked_right)
  F_law_renamed_right : Fun K "_law_renamed_right" "_law_renamed_right" s_law_renamed_right D.a_law_renamed_right D.d_law_renamed_right
  B_law_renamed_right : Binds K D.d_law_renamed_right ["_law_box_here", "_law_line", "_law_world_here"] []
  m_law_renamed_right : mg "_law_renamed_right" = some (.ref D.a_law_renamed_right)
  F_law : Fun K "law" "law" s_law D.a_law D.d_law
  B_law : Binds K D.d_law ["_law_script"] []
  m_law : mg "law" = some (.ref D.a_law)
  cl_Line : Cls K D.C_Line
  mk_Line : Mk K D.C_Line D.a_Line_init
  na_Line_kept_places : NoAttr K D.C_Line "kept_places"
  na_Line_kept_stretches : NoAttr K D.C_Line "kept_stretches"
  na_Line_kept_longs : NoAttr K D.C_Line "kept_longs"
structure Tp6 (K : PySem.W.Frag) (mg : Str → Option Value) (D : Td) : Prop where
  M_Line_names : Meth K D.C_Line "names" D.a_Line_names
  M_Line_number_of : Meth K D.C_Line "number_of" D.a_Line_number_of
  M_Line_roads : Meth K D.C_Line "roads" D.a_Line_roads
  M_Line_many_stretches : Meth K D.C_Line "many_stretches" D.a_Line_many_stretches
  M_Line_need_stretch : Meth K D.C_Line "need_stretch" D.a_Line_need_stretch
  M_Line_ends : Meth K D.C_Line "ends" D.a_Line_ends
  M_Line_kind : Meth K D.C_Line "kind" D.a_Line_kind
  M_Line_home : Meth K D.C_Line "home" D.a_Line_home
  M_Line_between : Meth K D.C_Line "between" D.a_Line_between
  M_Line_many_longs : Meth K D.C_Line "many_longs" D.a_Line_many_longs
  M_Line_need_long : Meth K D.C_Line "need_long" D.a_Line_need_long
  M_Line_long_ends : Meth K D.C_Line "long_ends" D.a_Line_long_ends
  M_Line_long_stretches : Meth K D.C_Line "long_stretches" D.a_Line_long_stretches
  M_Line_long_home : Meth K D.C_Line "long_home" D.a_Line_long_home
  M_Line_long_between : Meth K D.C_Line "long_between" D.a_Line_long_between
  M_Line_long_of : Meth K D.C_Line "long_of" D.a_Line_long_of
  M_Line_told : Meth K D.C_Line "told" D.a_Line_told
  M_Line_mirrored : Meth K D.C_Line "mirrored" D.a_Line_mirrored
  M_Line_renamed : Meth K D.C_Line "renamed" D.a_Line_renamed
  er_NoName : ErrC K D.C_NoName D.a_NoName_init "found"
  er_NoPlace : ErrC K D.C_NoPlace D.a_NoPlace_init "found"
  er_NoStretch : ErrC K D.C_NoStretch D.a_NoStretch_init "found"
  er_NoLong : ErrC K D.C_NoLong D.a_NoLong_init "found"
  er_NoPlaces : ErrC K D.C_NoPlaces D.a_NoPlaces_init "found"
structure Tp7 (K : PySem.W.Frag) (mg : Str → Option Value) (D : Td) : Prop where
  er_NoStretches : ErrC K D.C_NoStretches D.a_NoStretches_init "found"
  er_NoLongs : ErrC K D.C_NoLongs D.a_NoLongs_init "found"
  er_NoNumber : ErrC K D.C_NoNumber D.a_NoNumber_init "found"
  er_Twice : ErrC K D.C_Twice D.a_Twice_init "found"
  rd_StaffError : RdC K D.C_StaffError
  vi_StaffError : PySem.W.findCls K (.ref D.C_StaffError) (.type "type") "__init__" = some (.val (.builtin "ValueError.__init__"))
  oc_get : PySem.W.specialIn K (.builtin "object.__class__") "__get__" = some (some (.builtin "getset_descriptor.__get__"))
  oc_take : PySem.W.takesIn K (.builtin "object.__class__") = some true
  ex_NoName_NoName : PySem.W.exmOne K (.ref D.C_NoName) (.ref D.C_NoName) = some true
  ex_Twice_NoName : PySem.W.exmOne K (.ref D.C_Twice) (.ref D.C_NoName) = some false
  ex_Twice_Twice : PySem.W.exmOne K (.ref D.C_Twice) (.ref D.C_Twice) = some true
  mc_LONGEST : mg "LONGEST" = some D.c_LONGEST
  rc_LONGEST : RelV (V.int 6) D.c_LONGEST
  mc_LETTERS : mg "LETTERS" = some D.c_LETTERS
  rc_LETTERS : RelV (V.str "abcdefghijklmnopqrstuvwxyz") D.c_LETTERS
  mc_FEWEST_PLACES : mg "FEWEST_PLACES" = some D.c_FEWEST_PLACES
  rc_FEWEST_PLACES : RelV (V.int 2) D.c_FEWEST_PLACES
  mc_MOST_PLACES : mg "MOST_PLACES" = some D.c_MOST_PLACES
  rc_MOST_PLACES : RelV (V.int 6) D.c_MOST_PLACES
  mc_MOST_ROADS : mg "MOST_ROADS" = some D.c_MOST_ROADS
  rc_MOST_ROADS : RelV (V.int 3) D.c_MOST_ROADS
  mc_MOST_LONGS : mg "MOST_LONGS" = some D.c_MOST_LONGS
  rc_MOST_LONGS : RelV (V.int 2) D.c_MOST_LONGS
  z_abs : mg "abs" = none
structure Tp8 (K : PySem.W.Frag) (mg : Str → Option Value) (D : Td) : Prop where
  z_all : mg "all" = none
  z_bool : mg "bool" = none
  z_dict : mg "dict" = none
  z_enumerate : mg "enumerate" = none
  z_int : mg "int" = none
  z_isinstance : mg "isinstance" = none
  z_len : mg "len" = none
  z_list : mg "list" = none
  z_max : mg "max" = none
  z_min : mg "min" = none
  z_range : mg "range" = none
  z_repr : mg "repr" = none
  z_reversed : mg "reversed" = none
  z_str : mg "str" = none
  z_tuple : mg "tuple" = none
  z_zip : mg "zip" = none
structure Tx (K : PySem.W.Frag) (mg : Str → Option Value) where
  D : Td
  q0 : Tp0 K mg D
  q1 : Tp1 K mg D
  q2 : Tp2 K mg D
  q3 : Tp3 K mg D
  q4 : Tp4 K mg D
  q5 : Tp5 K mg D
  q6 : Tp6 K mg D
  q7 : Tp7 K mg D
  q8 : Tp8 K mg D
section
variable {K : PySem.W.Frag} {mg : Str → Option Value}
abbrev Tx.C_Line (T : Tx K mg) : Addr := T.D.C_Line
abbrev Tx.C_NoName (T : Tx K mg) : Addr := T.D.C_NoName
abbrev Tx.C_NoPlace (T : Tx K mg) : Addr := T.D.C_NoPlace
abbrev Tx.C_NoStretch (T : Tx K mg) : Addr := T.D.C_NoStretch
abbrev Tx.C_NoLong (T : Tx K mg) : Addr := T.D.C_NoLong
abbrev Tx.C_NoPlaces (T : Tx K mg) : Addr := T.D.C_NoPlaces
abbrev Tx.C_NoStretches (T : Tx K mg) : Addr := T.D.C_NoStretches
abbrev Tx.C_NoLongs (T : Tx K mg) : Addr := T.D.C_NoLongs
abbrev Tx.C_NoNumber (T : Tx K mg) : Addr := T.D.C_NoNumber
abbrev Tx.C_Twice (T : Tx K mg) : Addr := T.D.C_Twice
abbrev Tx.C_StaffError (T : Tx K mg) : Addr := T.D.C_StaffError
abbrev Tx.a_NoName_init (T : Tx K mg) : Addr := T.D.a_NoName_init
abbrev Tx.d_NoName_init (T : Tx K mg) : FuncData := T.D.d_NoName_init
abbrev Tx.a_NoPlace_init (T : Tx K mg) : Addr := T.D.a_NoPlace_init
abbrev Tx.d_NoPlace_init (T : Tx K mg) : FuncData := T.D.d_NoPlace_init
abbrev Tx.a_NoStretch_init (T : Tx K mg) : Addr := T.D.a_NoStretch_init
abbrev Tx.d_NoStretch_init (T : Tx K mg) : FuncData := T.D.d_NoStretch_init
abbrev Tx.a_NoLong_init (T : Tx K mg) : Addr := T.D.a_NoLong_init
abbrev Tx.d_NoLong_init (T : Tx K mg) : FuncData := T.D.d_NoLong_init
abbrev Tx.a_NoPlaces_init (T : Tx K mg) : Addr := T.D.a_NoPlaces_init
abbrev Tx.d_NoPlaces_init (T : Tx K mg) : FuncData := T.D.d_NoPlaces_init
abbrev Tx.a_NoStretches_init (T : Tx K mg) : Addr := T.D.a_NoStretches_init
abbrev Tx.d_NoStretches_init (T : Tx K mg) : FuncData := T.D.d_NoStretches_init
abbrev Tx.a_NoLongs_init (T : Tx K mg) : Addr := T.D.a_NoLongs_init
abbrev Tx.d_NoLongs_init (T : Tx K mg) : FuncData := T.D.d_NoLongs_init
abbrev Tx.a_NoNumber_init (T : Tx K mg) : Addr := T.D.a_NoNumber_init
abbrev Tx.d_NoNumber_init (T : Tx K mg) : FuncData := T.D.d_NoNumber_init
abbrev Tx.a_Twice_init (T : Tx K mg) : Addr := T.D.a_Twice_init
abbrev Tx.d_Twice_init (T : Tx K mg) : FuncData := T.D.d_Twice_init
abbrev Tx.a_is_whole (T : Tx K mg) : Addr := T.D.a_is_whole
abbrev Tx.d_is_whole (T : Tx K mg) : FuncData := T.D.d_is_whole
abbrev Tx.a_is_name (T : Tx K mg) : Addr := T.D.a_is_name
abbrev Tx.d_is_name (T : Tx K mg) : FuncData := T.D.d_is_name
abbrev Tx.a_is_row (T : Tx K mg) : Addr := T.D.a_is_row
abbrev Tx.d_is_row (T : Tx K mg) : FuncData := T.D.d_is_row
abbrev Tx.a_good_places (T : Tx K mg) : Addr := T.D.a_good_places
abbrev Tx.d_good_places (T : Tx K mg) : FuncData := T.D.d_good_places
abbrev Tx.a_is_stretch (T : Tx K mg) : Addr := T.D.a_is_stretch
abbrev Tx.d_is_stretch (T : Tx K mg) : FuncData := T.D.d_is_stretch
abbrev Tx.a_good_stretches (T : Tx K mg) : Addr := T.D.a_good_stretches
abbrev Tx.d_good_stretches (T : Tx K mg) : FuncData := T.D.d_good_stretches
abbrev Tx.a_is_long (T : Tx K mg) : Addr := T.D.a_is_long
abbrev Tx.d_is_long (T : Tx K mg) : FuncData := T.D.d_is_long
abbrev Tx.a_good_longs (T : Tx K mg) : Addr := T.D.a_good_longs
abbrev Tx.d_good_longs (T : Tx K mg) : FuncData := T.D.d_good_longs
abbrev Tx.a_Line_init (T : Tx K mg) : Addr := T.D.a_Line_init
abbrev Tx.d_Line_init (T : Tx K mg) : FuncData := T.D.d_Line_init
abbrev Tx.a_Line_names (T : Tx K mg) : Addr := T.D.a_Line_names
abbrev Tx.d_Line_names (T : Tx K mg) : FuncData := T.D.d_Line_names
abbrev Tx.a_Line_number_of (T : Tx K mg) : Addr := T.D.a_Line_number_of
abbrev Tx.d_Line_number_of (T : Tx K mg) : FuncData := T.D.d_Line_number_of
abbrev Tx.a_Line_roads (T : Tx K mg) : Addr := T.D.a_Line_roads
abbrev Tx.d_Line_roads (T : Tx K mg) : FuncData := T.D.d_Line_roads
abbrev Tx.a_Line_many_stretches (T : Tx K mg) : Addr := T.D.a_Line_many_stretches
abbrev Tx.d_Line_many_stretches (T : Tx K mg) : FuncData := T.D.d_Line_many_stretches
abbrev Tx.a_Line_need_stretch (T : Tx K mg) : Addr := T.D.a_Line_need_stretch
abbrev Tx.d_Line_need_stretch (T : Tx K mg) : FuncData := T.D.d_Line_need_stretch
abbrev Tx.a_Line_ends (T : Tx K mg) : Addr := T.D.a_Line_ends
abbrev Tx.d_Line_ends (T : Tx K mg) : FuncData := T.D.d_Line_ends
abbrev Tx.a_Line_kind (T : Tx K mg) : Addr := T.D.a_Line_kind
abbrev Tx.d_Line_kind (T : Tx K mg) : FuncData := T.D.d_Line_kind
abbrev Tx.a_Line_home (T : Tx K mg) : Addr := T.D.a_Line_home
abbrev Tx.d_Line_home (T : Tx K mg) : FuncData := T.D.d_Line_home
abbrev Tx.a_Line_between (T : Tx K mg) : Addr := T.D.a_Line_between
abbrev Tx.d_Line_between (T : Tx K mg) : FuncData := T.D.d_Line_between
abbrev Tx.a_Line_many_longs (T : Tx K mg) : Addr := T.D.a_Line_many_longs
abbrev Tx.d_Line_many_longs (T : Tx K mg) : FuncData := T.D.d_Line_many_longs
abbrev Tx.a_Line_need_long (T : Tx K mg) : Addr := T.D.a_Line_need_long
abbrev Tx.d_Line_need_long (T : Tx K mg) : FuncData := T.D.d_Line_need_long
abbrev Tx.a_Line_long_ends (T : Tx K mg) : Addr := T.D.a_Line_long_ends
abbrev Tx.d_Line_long_ends (T : Tx K mg) : FuncData := T.D.d_Line_long_ends
abbrev Tx.a_Line_long_stretches (T : Tx K mg) : Addr := T.D.a_Line_long_stretches
abbrev Tx.d_Line_long_stretches (T : Tx K mg) : FuncData := T.D.d_Line_long_stretches
abbrev Tx.a_Line_long_home (T : Tx K mg) : Addr := T.D.a_Line_long_home
abbrev Tx.d_Line_long_home (T : Tx K mg) : FuncData := T.D.d_Line_long_home
abbrev Tx.a_Line_long_between (T : Tx K mg) : Addr := T.D.a_Line_long_between
abbrev Tx.d_Line_long_between (T : Tx K mg) : FuncData := T.D.d_Line_long_between
abbrev Tx.a_Line_long_of (T : Tx K mg) : Addr := T.D.a_Line_long_of
abbrev Tx.d_Line_long_of (T : Tx K mg) : FuncData := T.D.d_Line_long_of
abbrev Tx.a_Line_told (T : Tx K mg) : Addr := T.D.a_Line_told
abbrev Tx.d_Line_told (T : Tx K mg) : FuncData := T.D.d_Line_told
abbrev Tx.a_Line_mirrored (T : Tx K mg) : Addr := T.D.a_Line_mirrored
abbrev Tx.d_Line_mirrored (T : Tx K mg) : FuncData := T.D.d_Line_mirrored
abbrev Tx.a_Line_renamed (T : Tx K mg) : Addr := T.D.a_Line_renamed
abbrev Tx.d_Line_renamed (T : Tx K mg) : FuncData := T.D.d_Line_renamed
abbrev Tx.a_law_cell (T : Tx K mg) : Addr := T.D.a_law_cell
abbrev Tx.d_law_cell (T : Tx K mg) : FuncData := T.D.d_law_cell
abbrev Tx.a_law_box (T : Tx K mg) : Addr := T.D.a_law_box
abbrev Tx.d_law_box (T : Tx K mg) : FuncData := T.D.d_law_box
abbrev Tx.a_law_take (T : Tx K mg) : Addr := T.D.a_law_take
abbrev Tx.d_law_take (T : Tx K mg) : FuncData := T.D.d_law_take
abbrev Tx.a_law_names (T : Tx K mg) : Addr := T.D.a_law_names
abbrev Tx.d_law_names (T : Tx K mg) : FuncData := T.D.d_law_names
abbrev Tx.a_law_world (T : Tx K mg) : Addr := T.D.a_law_world
abbrev Tx.d_law_world (T : Tx K mg) : FuncData := T.D.d_law_world
abbrev Tx.a_law_is_name (T : Tx K mg) : Addr := T.D.a_law_is_name
abbrev Tx.d_law_is_name (T : Tx K mg) : FuncData := T.D.d_law_is_name
abbrev Tx.a_law_told (T : Tx K mg) : Addr := T.D.a_law_told
abbrev Tx.d_law_told (T : Tx K mg) : FuncData := T.D.d_law_told
abbrev Tx.a_law_turned (T : Tx K mg) : Addr := T.D.a_law_turned
abbrev Tx.d_law_turned (T : Tx K mg) : FuncData := T.D.d_law_turned
abbrev Tx.a_law_dict (T : Tx K mg) : Addr := T.D.a_law_dict
abbrev Tx.d_law_dict (T : Tx K mg) : FuncData := T.D.d_law_dict
abbrev Tx.a_law_due (T : Tx K mg) : Addr := T.D.a_law_due
abbrev Tx.d_law_due (T : Tx K mg) : FuncData := T.D.d_law_due
abbrev Tx.a_law_caught (T : Tx K mg) : Addr := T.D.a_law_caught
abbrev Tx.d_law_caught (T : Tx K mg) : FuncData := T.D.d_law_caught
abbrev Tx.a_law_stretches_asked_right (T : Tx K mg) : Addr := T.D.a_law_stretches_asked_right
abbrev Tx.d_law_stretches_asked_right (T : Tx K mg) : FuncData := T.D.d_law_stretches_asked_right
abbrev Tx.a_law_asked_right (T : Tx K mg) : Addr := T.D.a_law_asked_right
abbrev Tx.d_law_asked_right (T : Tx K mg) : FuncData := T.D.d_law_asked_right
abbrev Tx.a_law_renamed_right (T : Tx K mg) : Addr := T.D.a_law_renamed_right
abbrev Tx.d_law_renamed_right (T : Tx K mg) : FuncData := T.D.d_law_renamed_right
abbrev Tx.a_law (T : Tx K mg) : Addr := T.D.a_law
abbrev Tx.d_law (T : Tx K mg) : FuncData := T.D.d_law
abbrev Tx.c_LONGEST (T : Tx K mg) : Value := T.D.c_LONGEST
abbrev Tx.c_LETTERS (T : Tx K mg) : Value := T.D.c_LETTERS
abbrev Tx.c_FEWEST_PLACES (T : Tx K mg) : Value := T.D.c_FEWEST_PLACES
abbrev Tx.c_MOST_PLACES (T : Tx K mg) : Value := T.D.c_MOST_PLACES
abbrev Tx.c_MOST_ROADS (T : Tx K mg) : Value := T.D.c_MOST_ROADS
abbrev Tx.c_MOST_LONGS (T : Tx K mg) : Value := T.D.c_MOST_LONGS
theorem Tx.m_Line (T : Tx K mg) : mg "Line" = some (.ref T.C_Line) := T.q0.m_Line
theorem Tx.m_NoName (T : Tx K mg) : mg "NoName" = some (.ref T.C_NoName) := T.q0.m_NoName
theorem Tx.m_NoPlace (T : Tx K mg) : mg "NoPlace" = some (.ref T.C_NoPlace) := T.q0.m_NoPlace
theorem Tx.m_NoStretch (T : Tx K mg) : mg "NoStretch" = some (.ref T.C_NoStretch) := T.q0.m_NoStretch
theorem Tx.m_NoLong (T : Tx K mg) : mg "NoLong" = some (.ref T.C_NoLong) := T.q0.m_NoLong
theorem Tx.m_NoPlaces (T : Tx K mg) : mg "NoPlaces" = some (.ref T.C_NoPlaces) := T.q0.m_NoPlaces
theorem Tx.m_NoStretches (T : Tx K mg) : mg "NoStretches" = some (.ref T.C_NoStretches) := T.q0.m_NoStretches
theorem Tx.m_NoLongs (T : Tx K mg) : mg "NoLongs" = some (.ref T.C_NoLongs) := T.q0.m_NoLongs
theorem Tx.m_NoNumber (T : Tx K mg) : mg "NoNumber" = some (.ref T.C_NoNumber) := T.q0.m_NoNumber
theorem Tx.m_Twice (T : Tx K mg) : mg "Twice" = some (.ref T.C_Twice) := T.q0.m_Twice
theorem Tx.m_StaffError (T : Tx K mg) : mg "StaffError" = some (.ref T.C_StaffError) := T.q0.m_StaffError
theorem Tx.F_NoName_init (T : Tx K mg) : Fun K "__init__" "NoName.__init__" s_NoName_init T.a_NoName_init T.d_NoName_init := T.q0.F_NoName_init
theorem Tx.B_NoName_init (T : Tx K mg) : Binds K T.d_NoName_init ["self", "found"] [] := T.q0.B_NoName_init
theorem Tx.F_NoPlace_init (T : Tx K mg) : Fun K "__init__" "NoPlace.__init__" s_NoPlace_init T.a_NoPlace_init T.d_NoPlace_init := T.q0.F_NoPlace_init
theorem Tx.B_NoPlace_init (T : Tx K mg) : Binds K T.d_NoPlace_init ["self", "found"] [] := T.q0.B_NoPlace_init
theorem Tx.F_NoStretch_init (T : Tx K mg) : Fun K "__init__" "NoStretch.__init__" s_NoStretch_init T.a_NoStretch_init T.d_NoStretch_init := T.q0.F_NoStretch_init
theorem Tx.B_NoStretch_init (T : Tx K mg) : Binds K T.d_NoStretch_init ["self", "found"] [] := T.q0.B_NoStretch_init
theorem Tx.F_NoLong_init (T : Tx K mg) : Fun K "__init__" "NoLong.__init__" s_NoLong_init T.a_NoLong_init T.d_NoLong_init := T.q0.F_NoLong_init
theorem Tx.B_NoLong_init (T : Tx K mg) : Binds K T.d_NoLong_init ["self", "found"] [] := T.q0.B_NoLong_init
theorem Tx.F_NoPlaces_init (T : Tx K mg) : Fun K "__init__" "NoPlaces.__init__" s_NoPlaces_init T.a_NoPlaces_init T.d_NoPlaces_init := T.q0.F_NoPlaces_init
theorem Tx.B_NoPlaces_init (T : Tx K mg) : Binds K T.d_NoPlaces_init ["self", "found"] [] := T.q0.B_NoPlaces_init
theorem Tx.F_NoStretches_init (T : Tx K mg) : Fun K "__init__" "NoStretches.__init__" s_NoStretches_init T.a_NoStretches_init T.d_NoStretches_init := T.q0.F_NoStretches_init
theorem Tx.B_NoStretches_init (T : Tx K mg) : Binds K T.d_NoStretches_init ["self", "found"] [] := T.q0.B_NoStretches_init
theorem Tx.F_NoLongs_init (T : Tx K mg) : Fun K "__init__" "NoLongs.__init__" s_NoLongs_init T.a_NoLongs_init T.d_NoLongs_init := T.q0.F_NoLongs_init
theorem Tx.B_NoLongs_init (T : Tx K mg) : Binds K T.d_NoLongs_init ["self", "found"] [] := T.q1.B_NoLongs_init
theorem Tx.F_NoNumber_init (T : Tx K mg) : Fun K "__init__" "NoNumber.__init__" s_NoNumber_init T.a_NoNumber_init T.d_NoNumber_init := T.q1.F_NoNumber_init
theorem Tx.B_NoNumber_init (T : Tx K mg) : Binds K T.d_NoNumber_init ["self", "found"] [] := T.q1.B_NoNumber_init
theorem Tx.F_Twice_init (T : Tx K mg) : Fun K "__init__" "Twice.__init__" s_Twice_init T.a_Twice_init T.d_Twice_init := T.q1.F_Twice_init
theorem Tx.B_Twice_init (T : Tx K mg) : Binds K T.d_Twice_init ["self", "found"] [] := T.q1.B_Twice_init
theorem Tx.F_is_whole (T : Tx K mg) : Fun K "is_whole" "is_whole" s_is_whole T.a_is_whole T.d_is_whole := T.q1.F_is_whole
theorem Tx.B_is_whole (T : Tx K mg) : Binds K T.d_is_whole ["thing", "low", "high"] [] := T.q1.B_is_whole
theorem Tx.m_is_whole (T : Tx K mg) : mg "is_whole" = some (.ref T.a_is_whole) := T.q1.m_is_whole
theorem Tx.F_is_name (T : Tx K mg) : Fun K "is_name" "is_name" s_is_name T.a_is_name T.d_is_name := T.q1.F_is_name
theorem Tx.B_is_name (T : Tx K mg) : Binds K T.d_is_name ["thing"] [] := T.q1.B_is_name
theorem Tx.m_is_name (T : Tx K mg) : mg "is_name" = some (.ref T.a_is_name) := T.q1.m_is_name
theorem Tx.F_is_row (T : Tx K mg) : Fun K "is_row" "is_row" s_is_row T.a_is_row T.d_is_row := T.q1.F_is_row
theorem Tx.B_is_row (T : Tx K mg) : Binds K T.d_is_row ["thing", "size"] [] := T.q1.B_is_row
theorem Tx.m_is_row (T : Tx K mg) : mg "is_row" = some (.ref T.a_is_row) := T.q1.m_is_row
theorem Tx.F_good_places (T : Tx K mg) : Fun K "good_places" "good_places" s_good_places T.a_good_places T.d_good_places := T.q1.F_good_places
theorem Tx.B_good_places (T : Tx K mg) : Binds K T.d_good_places ["places"] [] := T.q1.B_good_places
theorem Tx.m_good_places (T : Tx K mg) : mg "good_places" = some (.ref T.a_good_places) := T.q1.m_good_places
theorem Tx.F_is_stretch (T : Tx K mg) : Fun K "is_stretch" "is_stretch" s_is_stretch T.a_is_stretch T.d_is_stretch := T.q1.F_is_stretch
theorem Tx.B_is_stretch (T : Tx K mg) : Binds K T.d_is_stretch ["thing"] [] := T.q1.B_is_stretch
theorem Tx.m_is_stretch (T : Tx K mg) : mg "is_stretch" = some (.ref T.a_is_stretch) := T.q1.m_is_stretch
theorem Tx.F_good_stretches (T : Tx K mg) : Fun K "good_stretches" "good_stretches" s_good_stretches T.a_good_stretches T.d_good_stretches := T.q1.F_good_stretches
theorem Tx.B_good_stretches (T : Tx K mg) : Binds K T.d_good_stretches ["stretches", "many"] [] := T.q1.B_good_stretches
theorem Tx.m_good_stretches (T : Tx K mg) : mg "good_stretches" = some (.ref T.a_good_stretches) := T.q1.m_good_stretches
theorem Tx.F_is_long (T : Tx K mg) : Fun K "is_long" "is_long" s_is_long T.a_is_long T.d_is_long := T.q1.F_is_long
theorem Tx.B_is_long (T : Tx K mg) : Binds K T.d_is_long ["thing", "low", "high"] [] := T.q2.B_is_long
theorem Tx.m_is_long (T : Tx K mg) : mg "is_long" = some (.ref T.a_is_long) := T.q2.m_is_long
theorem Tx.F_good_longs (T : Tx K mg) : Fun K "good_longs" "good_longs" s_good_longs T.a_good_longs T.d_good_longs := T.q2.F_good_longs
theorem Tx.B_good_longs (T : Tx K mg) : Binds K T.d_good_longs ["longs", "many"] [] := T.q2.B_good_longs
theorem Tx.m_good_longs (T : Tx K mg) : mg "good_longs" = some (.ref T.a_good_longs) := T.q2.m_good_longs
theorem Tx.F_Line_init (T : Tx K mg) : FunN K "__init__" "Line.__init__" s_Line_init T.a_Line_init T.d_Line_init := T.q2.F_Line_init
theorem Tx.B_Line_init (T : Tx K mg) : Binds K T.d_Line_init ["self", "places", "stretches", "longs"] [] := T.q2.B_Line_init
theorem Tx.Bp_Line_init (T : Tx K mg) : Binds K T.d_Line_init ["self", "places", "stretches", "longs"] [.none] := T.q2.Bp_Line_init
theorem Tx.F_Line_names (T : Tx K mg) : Fun K "names" "Line.names" s_Line_names T.a_Line_names T.d_Line_names := T.q2.F_Line_names
theorem Tx.B_Line_names (T : Tx K mg) : Binds K T.d_Line_names ["self"] [] := T.q2.B_Line_names
theorem Tx.F_Line_number_of (T : Tx K mg) : Fun K "number_of" "Line.number_of" s_Line_number_of T.a_Line_number_of T.d_Line_number_of := T.q2.F_Line_number_of
theorem Tx.B_Line_number_of (T : Tx K mg) : Binds K T.d_Line_number_of ["self", "name"] [] := T.q2.B_Line_number_of
theorem Tx.F_Line_roads (T : Tx K mg) : Fun K "roads" "Line.roads" s_Line_roads T.a_Line_roads T.d_Line_roads := T.q2.F_Line_roads
theorem Tx.B_Line_roads (T : Tx K mg) : Binds K T.d_Line_roads ["self", "name"] [] := T.q2.B_Line_roads
theorem Tx.F_Line_many_stretches (T : Tx K mg) : Fun K "many_stretches" "Line.many_stretches" s_Line_many_stretches T.a_Line_many_stretches T.d_Line_many_stretches := T.q2.F_Line_many_stretches
theorem Tx.B_Line_many_stretches (T : Tx K mg) : Binds K T.d_Line_many_stretches ["self"] [] := T.q2.B_Line_many_stretches
theorem Tx.F_Line_need_stretch (T : Tx K mg) : Fun K "need_stretch" "Line.need_stretch" s_Line_need_stretch T.a_Line_need_stretch T.d_Line_need_stretch := T.q2.F_Line_need_stretch
theorem Tx.B_Line_need_stretch (T : Tx K mg) : Binds K T.d_Line_need_stretch ["self", "k"] [] := T.q2.B_Line_need_stretch
theorem Tx.F_Line_ends (T : Tx K mg) : Fun K "ends" "Line.ends" s_Line_ends T.a_Line_ends T.d_Line_ends := T.q2.F_Line_ends
theorem Tx.B_Line_ends (T : Tx K mg) : Binds K T.d_Line_ends ["self", "k"] [] := T.q2.B_Line_ends
theorem Tx.F_Line_kind (T : Tx K mg) : Fun K "kind" "Line.kind" s_Line_kind T.a_Line_kind T.d_Line_kind := T.q2.F_Line_kind
theorem Tx.B_Line_kind (T : Tx K mg) : Binds K T.d_Line_kind ["self", "k"] [] := T.q2.B_Line_kind
theorem Tx.F_Line_home (T : Tx K mg) : Fun K "home" "Line.home" s_Line_home T.a_Line_home T.d_Line_home := T.q2.F_Line_home
theorem Tx.B_Line_home (T : Tx K mg) : Binds K T.d_Line_home ["self", "k"] [] := T.q2.B_Line_home
theorem Tx.F_Line_between (T : Tx K mg) : Fun K "between" "Line.between" s_Line_between T.a_Line_between T.d_Line_between := T.q3.F_Line_between
theorem Tx.B_Line_between (T : Tx K mg) : Binds K T.d_Line_between ["self", "one", "other"] [] := T.q3.B_Line_between
theorem Tx.F_Line_many_longs (T : Tx K mg) : Fun K "many_longs" "Line.many_longs" s_Line_many_longs T.a_Line_many_longs T.d_Line_many_longs := T.q3.F_Line_many_longs
theorem Tx.B_Line_many_longs (T : Tx K mg) : Binds K T.d_Line_many_longs ["self"] [] := T.q3.B_Line_many_longs
theorem Tx.F_Line_need_long (T : Tx K mg) : Fun K "need_long" "Line.need_long" s_Line_need_long T.a_Line_need_long T.d_Line_need_long := T.q3.F_Line_need_long
theorem Tx.B_Line_need_long (T : Tx K mg) : Binds K T.d_Line_need_long ["self", "j"] [] := T.q3.B_Line_need_long
theorem Tx.F_Line_long_ends (T : Tx K mg) : Fun K "long_ends" "Line.long_ends" s_Line_long_ends T.a_Line_long_ends T.d_Line_long_ends := T.q3.F_Line_long_ends
theorem Tx.B_Line_long_ends (T : Tx K mg) : Binds K T.d_Line_long_ends ["self", "j"] [] := T.q3.B_Line_long_ends
theorem Tx.F_Line_long_stretches (T : Tx K mg) : Fun K "long_stretches" "Line.long_stretches" s_Line_long_stretches T.a_Line_long_stretches T.d_Line_long_stretches := T.q3.F_Line_long_stretches
theorem Tx.B_Line_long_stretches (T : Tx K mg) : Binds K T.d_Line_long_stretches ["self", "j"] [] := T.q3.B_Line_long_stretches
theorem Tx.F_Line_long_home (T : Tx K mg) : Fun K "long_home" "Line.long_home" s_Line_long_home T.a_Line_long_home T.d_Line_long_home := T.q3.F_Line_long_home
theorem Tx.B_Line_long_home (T : Tx K mg) : Binds K T.d_Line_long_home ["self", "j"] [] := T.q3.B_Line_long_home
theorem Tx.F_Line_long_between (T : Tx K mg) : Fun K "long_between" "Line.long_between" s_Line_long_between T.a_Line_long_between T.d_Line_long_between := T.q3.F_Line_long_between
theorem Tx.B_Line_long_between (T : Tx K mg) : Binds K T.d_Line_long_between ["self", "one", "other"] [] := T.q3.B_Line_long_between
theorem Tx.F_Line_long_of (T : Tx K mg) : Fun K "long_of" "Line.long_of" s_Line_long_of T.a_Line_long_of T.d_Line_long_of := T.q3.F_Line_long_of
theorem Tx.B_Line_long_of (T : Tx K mg) : Binds K T.d_Line_long_of ["self", "k"] [] := T.q3.B_Line_long_of
theorem Tx.F_Line_told (T : Tx K mg) : Fun K "told" "Line.told" s_Line_told T.a_Line_told T.d_Line_told := T.q3.F_Line_told
theorem Tx.B_Line_told (T : Tx K mg) : Binds K T.d_Line_told ["self"] [] := T.q3.B_Line_told
theorem Tx.F_Line_mirrored (T : Tx K mg) : Fun K "mirrored" "Line.mirrored" s_Line_mirrored T.a_Line_mirrored T.d_Line_mirrored := T.q3.F_Line_mirrored
theorem Tx.B_Line_mirrored (T : Tx K mg) : Binds K T.d_Line_mirrored ["self"] [] := T.q3.B_Line_mirrored
theorem Tx.F_Line_renamed (T : Tx K mg) : Fun K "renamed" "Line.renamed" s_Line_renamed T.a_Line_renamed T.d_Line_renamed := T.q3.F_Line_renamed
theorem Tx.B_Line_renamed (T : Tx K mg) : Binds K T.d_Line_renamed ["self", "names"] [] := T.q3.B_Line_renamed
theorem Tx.F_law_cell (T : Tx K mg) : Fun K "_law_cell" "_law_cell" s_law_cell T.a_law_cell T.d_law_cell := T.q3.F_law_cell
theorem Tx.B_law_cell (T : Tx K mg) : Binds K T.d_law_cell ["_law_script", "_law_k"] [] := T.q3.B_law_cell
theorem Tx.m_law_cell (T : Tx K mg) : mg "_law_cell" = some (.ref T.a_law_cell) := T.q4.m_law_cell
theorem Tx.F_law_box (T : Tx K mg) : Fun K "_law_box" "_law_box" s_law_box T.a_law_box T.d_law_box := T.q4.F_law_box
theorem Tx.B_law_box (T : Tx K mg) : Binds K T.d_law_box ["_law_cell_here"] [] := T.q4.B_law_box
theorem Tx.m_law_box (T : Tx K mg) : mg "_law_box" = some (.ref T.a_law_box) := T.q4.m_law_box
theorem Tx.F_law_take (T : Tx K mg) : Fun K "_law_take" "_law_take" s_law_take T.a_law_take T.d_law_take := T.q4.F_law_take
theorem Tx.B_law_take (T : Tx K mg) : Binds K T.d_law_take ["_law_box_here", "_law_many"] [] := T.q4.B_law_take
theorem Tx.m_law_take (T : Tx K mg) : mg "_law_take" = some (.ref T.a_law_take) := T.q4.m_law_take
theorem Tx.F_law_names (T : Tx K mg) : Fun K "_law_names" "_law_names" s_law_names T.a_law_names T.d_law_names := T.q4.F_law_names
theorem Tx.B_law_names (T : Tx K mg) : Binds K T.d_law_names ["_law_box_here", "_law_many"] [] := T.q4.B_law_names
theorem Tx.m_law_names (T : Tx K mg) : mg "_law_names" = some (.ref T.a_law_names) := T.q4.m_law_names
theorem Tx.F_law_world (T : Tx K mg) : Fun K "_law_world" "_law_world" s_law_world T.a_law_world T.d_law_world := T.q4.F_law_world
theorem Tx.B_law_world (T : Tx K mg) : Binds K T.d_law_world ["_law_box_here"] [] := T.q4.B_law_world
theorem Tx.m_law_world (T : Tx K mg) : mg "_law_world" = some (.ref T.a_law_world) := T.q4.m_law_world
theorem Tx.F_law_is_name (T : Tx K mg) : Fun K "_law_is_name" "_law_is_name" s_law_is_name T.a_law_is_name T.d_law_is_name := T.q4.F_law_is_name
theorem Tx.B_law_is_name (T : Tx K mg) : Binds K T.d_law_is_name ["_law_thing"] [] := T.q4.B_law_is_name
theorem Tx.m_law_is_name (T : Tx K mg) : mg "_law_is_name" = some (.ref T.a_law_is_name) := T.q4.m_law_is_name
theorem Tx.F_law_told (T : Tx K mg) : Fun K "_law_told" "_law_told" s_law_told T.a_law_told T.d_law_told := T.q4.F_law_told
theorem Tx.B_law_told (T : Tx K mg) : Binds K T.d_law_told ["_law_world_here"] [] := T.q4.B_law_told
theorem Tx.m_law_told (T : Tx K mg) : mg "_law_told" = some (.ref T.a_law_told) := T.q4.m_law_told
theorem Tx.F_law_turned (T : Tx K mg) : Fun K "_law_turned" "_law_turned" s_law_turned T.a_law_turned T.d_law_turned := T.q4.F_law_turned
theorem Tx.B_law_turned (T : Tx K mg) : Binds K T.d_law_turned ["_law_world_here"] [] := T.q4.B_law_turned
theorem Tx.m_law_turned (T : Tx K mg) : mg "_law_turned" = some (.ref T.a_law_turned) := T.q4.m_law_turned
theorem Tx.F_law_dict (T : Tx K mg) : Fun K "_law_dict" "_law_dict" s_law_dict T.a_law_dict T.d_law_dict := T.q4.F_law_dict
theorem Tx.B_law_dict (T : Tx K mg) : Binds K T.d_law_dict ["_law_box_here", "_law_world_here"] [] := T.q4.B_law_dict
theorem Tx.m_law_dict (T : Tx K mg) : mg "_law_dict" = some (.ref T.a_law_dict) := T.q5.m_law_dict
theorem Tx.F_law_due (T : Tx K mg) : Fun K "_law_due" "_law_due" s_law_due T.a_law_due T.d_law_due := T.q5.F_law_due
theorem Tx.B_law_due (T : Tx K mg) : Binds K T.d_law_due ["_law_world_here", "_law_some"] [] := T.q5.B_law_due
theorem Tx.m_law_due (T : Tx K mg) : mg "_law_due" = some (.ref T.a_law_due) := T.q5.m_law_due
theorem Tx.F_law_caught (T : Tx K mg) : Fun K "_law_caught" "_law_caught" s_law_caught T.a_law_caught T.d_law_caught := T.q5.F_law_caught
theorem Tx.B_law_caught (T : Tx K mg) : Binds K T.d_law_caught ["_law_line", "_law_thing"] [] := T.q5.B_law_caught
theorem Tx.m_law_caught (T : Tx K mg) : mg "_law_caught" = some (.ref T.a_law_caught) := T.q5.m_law_caught
theorem Tx.F_law_stretches_asked_right (T : Tx K mg) : Fun K "_law_stretches_asked_right" "_law_stretches_asked_right" s_law_stretches_asked_right T.a_law_stretches_asked_right T.d_law_stretches_asked_right := T.q5.F_law_stretches_asked_right
theorem Tx.B_law_stretches_asked_right (T : Tx K mg) : Binds K T.d_law_stretches_asked_right ["_law_line", "_law_world_here"] [] := T.q5.B_law_stretches_asked_right
theorem Tx.m_law_stretches_asked_right (T : Tx K mg) : mg "_law_stretches_asked_right" = some (.ref T.a_law_stretches_asked_right) := T.q5.m_law_stretches_asked_right
theorem Tx.F_law_asked_right (T : Tx K mg) : Fun K "_law_asked_right" "_law_asked_right" s_law_asked_right T.a_law_asked_right T.d_law_asked_right := T.q5.F_law_asked_right
theorem Tx.B_law_asked_right (T : Tx K mg) : Binds K T.d_law_asked_right ["_law_line", "_law_world_here"] [] := T.q5.B_law_asked_right
theorem Tx.m_law_asked_right (T : Tx K mg) : mg "_law_asked_right" = some (.ref T.a_law_asked_right) := T.q5.m_law_asked_right
theorem Tx.F_law_renamed_right (T : Tx K mg) : Fun K "_law_renamed_right" "_law_renamed_right" s_law_renamed_right T.a_law_renamed_right T.d_law_renamed_right := T.q5.F_law_renamed_right
theorem Tx.B_law_renamed_right (T : Tx K mg) : Binds K T.d_law_renamed_right ["_law_box_here", "_law_line", "_law_world_here"] [] := T.q5.B_law_renamed_right
theorem Tx.m_law_renamed_right (T : Tx K mg) : mg "_law_renamed_right" = some (.ref T.a_law_renamed_right) := T.q5.m_law_renamed_right
theorem Tx.F_law (T : Tx K mg) : Fun K "law" "law" s_law T.a_law T.d_law := T.q5.F_law
theorem Tx.B_law (T : Tx K mg) : Binds K T.d_law ["_law_script"] [] := T.q5.B_law
theorem Tx.m_law (T : Tx K mg) : mg "law" = some (.ref T.a_law) := T.q5.m_law
theorem Tx.cl_Line (T : Tx K mg) : Cls K T.C_Line := T.q5.cl_Line
theorem Tx.mk_Line (T : Tx K mg) : Mk K T.C_Line T.a_Line_init := T.q5.mk_Line
theorem Tx.na_Line_kept_places (T : Tx K mg) : NoAttr K T.C_Line "kept_places" := T.q5.na_Line_kept_places
theorem Tx.na_Line_kept_stretches (T : Tx K mg) : NoAttr K T.C_Line "kept_stretches" := T.q5.na_Line_kept_stretches
theorem Tx.na_Line_kept_longs (T : Tx K mg) : NoAttr K T.C_Line "kept_longs" := T.q5.na_Line_kept_longs
theorem Tx.M_Line_names (T : Tx K mg) : Meth K T.C_Line "names" T.a_Line_names := T.q6.M_Line_names
theorem Tx.M_Line_number_of (T : Tx K mg) : Meth K T.C_Line "number_of" T.a_Line_number_of := T.q6.M_Line_number_of
theorem Tx.M_Line_roads (T : Tx K mg) : Meth K T.C_Line "roads" T.a_Line_roads := T.q6.M_Line_roads
theorem Tx.M_Line_many_stretches (T : Tx K mg) : Meth K T.C_Line "many_stretches" T.a_Line_many_stretches := T.q6.M_Line_many_stretches
theorem Tx.M_Line_need_stretch (T : Tx K mg) : Meth K T.C_Line "need_stretch" T.a_Line_need_stretch := T.q6.M_Line_need_stretch
theorem Tx.M_Line_ends (T : Tx K mg) : Meth K T.C_Line "ends" T.a_Line_ends := T.q6.M_Line_ends
theorem Tx.M_Line_kind (T : Tx K mg) : Meth K T.C_Line "kind" T.a_Line_kind := T.q6.M_Line_kind
theorem Tx.M_Line_home (T : Tx K mg) : Meth K T.C_Line "home" T.a_Line_home := T.q6.M_Line_home
theorem Tx.M_Line_between (T : Tx K mg) : Meth K T.C_Line "between" T.a_Line_between := T.q6.M_Line_between
theorem Tx.M_Line_many_longs (T : Tx K mg) : Meth K T.C_Line "many_longs" T.a_Line_many_longs := T.q6.M_Line_many_longs
theorem Tx.M_Line_need_long (T : Tx K mg) : Meth K T.C_Line "need_long" T.a_Line_need_long := T.q6.M_Line_need_long
theorem Tx.M_Line_long_ends (T : Tx K mg) : Meth K T.C_Line "long_ends" T.a_Line_long_ends := T.q6.M_Line_long_ends
theorem Tx.M_Line_long_stretches (T : Tx K mg) : Meth K T.C_Line "long_stretches" T.a_Line_long_stretches := T.q6.M_Line_long_stretches
theorem Tx.M_Line_long_home (T : Tx K mg) : Meth K T.C_Line "long_home" T.a_Line_long_home := T.q6.M_Line_long_home
theorem Tx.M_Line_long_between (T : Tx K mg) : Meth K T.C_Line "long_between" T.a_Line_long_between := T.q6.M_Line_long_between
theorem Tx.M_Line_long_of (T : Tx K mg) : Meth K T.C_Line "long_of" T.a_Line_long_of := T.q6.M_Line_long_of
theorem Tx.M_Line_told (T : Tx K mg) : Meth K T.C_Line "told" T.a_Line_told := T.q6.M_Line_told
theorem Tx.M_Line_mirrored (T : Tx K mg) : Meth K T.C_Line "mirrored" T.a_Line_mirrored := T.q6.M_Line_mirrored
theorem Tx.M_Line_renamed (T : Tx K mg) : Meth K T.C_Line "renamed" T.a_Line_renamed := T.q6.M_Line_renamed
theorem Tx.er_NoName (T : Tx K mg) : ErrC K T.C_NoName T.a_NoName_init "found" := T.q6.er_NoName
theorem Tx.er_NoPlace (T : Tx K mg) : ErrC K T.C_NoPlace T.a_NoPlace_init "found" := T.q6.er_NoPlace
theorem Tx.er_NoStretch (T : Tx K mg) : ErrC K T.C_NoStretch T.a_NoStretch_init "found" := T.q6.er_NoStretch
theorem Tx.er_NoLong (T : Tx K mg) : ErrC K T.C_NoLong T.a_NoLong_init "found" := T.q6.er_NoLong
theorem Tx.er_NoPlaces (T : Tx K mg) : ErrC K T.C_NoPlaces T.a_NoPlaces_init "found" := T.q6.er_NoPlaces
theorem Tx.er_NoStretches (T : Tx K mg) : ErrC K T.C_NoStretches T.a_NoStretches_init "found" := T.q7.er_NoStretches
theorem Tx.er_NoLongs (T : Tx K mg) : ErrC K T.C_NoLongs T.a_NoLongs_init "found" := T.q7.er_NoLongs
theorem Tx.er_NoNumber (T : Tx K mg) : ErrC K T.C_NoNumber T.a_NoNumber_init "found" := T.q7.er_NoNumber
theorem Tx.er_Twice (T : Tx K mg) : ErrC K T.C_Twice T.a_Twice_init "found" := T.q7.er_Twice
theorem Tx.rd_StaffError (T : Tx K mg) : RdC K T.C_StaffError := T.q7.rd_StaffError
theorem Tx.vi_StaffError (T : Tx K mg) : PySem.W.findCls K (.ref T.C_StaffError) (.type "type") "__init__" = some (.val (.builtin "ValueError.__init__")) := T.q7.vi_StaffError
theorem Tx.oc_get (T : Tx K mg) : PySem.W.specialIn K (.builtin "object.__class__") "__get__" = some (some (.builtin "getset_descriptor.__get__")) := T.q7.oc_get
theorem Tx.oc_take (T : Tx K mg) : PySem.W.takesIn K (.builtin "object.__class__") = some true := T.q7.oc_take
theorem Tx.ex_NoName_NoName (T : Tx K mg) : PySem.W.exmOne K (.ref T.C_NoName) (.ref T.C_NoName) = some true := T.q7.ex_NoName_NoName
theorem Tx.ex_Twice_NoName (T : Tx K mg) : PySem.W.exmOne K (.ref T.C_Twice) (.ref T.C_NoName) = some false := T.q7.ex_Twice_NoName
theorem Tx.ex_Twice_Twice (T : Tx K mg) : PySem.W.exmOne K (.ref T.C_Twice) (.ref T.C_Twice) = some true := T.q7.ex_Twice_Twice
theorem Tx.mc_LONGEST (T : Tx K mg) : mg "LONGEST" = some T.c_LONGEST := T.q7.mc_LONGEST
theorem Tx.rc_LONGEST (T : Tx K mg) : RelV (V.int 6) T.c_LONGEST := T.q7.rc_LONGEST
theorem Tx.mc_LETTERS (T : Tx K mg) : mg "LETTERS" = some T.c_LETTERS := T.q7.mc_LETTERS
theorem Tx.rc_LETTERS (T : Tx K mg) : RelV (V.str "abcdefghijklmnopqrstuvwxyz") T.c_LETTERS := T.q7.rc_LETTERS
theorem Tx.mc_FEWEST_PLACES (T : Tx K mg) : mg "FEWEST_PLACES" = some T.c_FEWEST_PLACES := T.q7.mc_FEWEST_PLACES
theorem Tx.rc_FEWEST_PLACES (T : Tx K mg) : RelV (V.int 2) T.c_FEWEST_PLACES := T.q7.rc_FEWEST_PLACES
theorem Tx.mc_MOST_PLACES (T : Tx K mg) : mg "MOST_PLACES" = some T.c_MOST_PLACES := T.q7.mc_MOST_PLACES
theorem Tx.rc_MOST_PLACES (T : Tx K mg) : RelV (V.int 6) T.c_MOST_PLACES := T.q7.rc_MOST_PLACES
theorem Tx.mc_MOST_ROADS (T : Tx K mg) : mg "MOST_ROADS" = some T.c_MOST_ROADS := T.q7.mc_MOST_ROADS
theorem Tx.rc_MOST_ROADS (T : Tx K mg) : RelV (V.int 3) T.c_MOST_ROADS := T.q7.rc_MOST_ROADS
theorem Tx.mc_MOST_LONGS (T : Tx K mg) : mg "MOST_LONGS" = some T.c_MOST_LONGS := T.q7.mc_MOST_LONGS
theorem Tx.rc_MOST_LONGS (T : Tx K mg) : RelV (V.int 2) T.c_MOST_LONGS := T.q7.rc_MOST_LONGS
theorem Tx.z_abs (T : Tx K mg) : mg "abs" = none := T.q7.z_abs
theorem Tx.z_all (T : Tx K mg) : mg "all" = none := T.q8.z_all
theorem Tx.z_bool (T : Tx K mg) : mg "bool" = none := T.q8.z_bool
theorem Tx.z_dict (T : Tx K mg) : mg "dict" = none := T.q8.z_dict
theorem Tx.z_enumerate (T : Tx K mg) : mg "enumerate" = none := T.q8.z_enumerate
theorem Tx.z_int (T : Tx K mg) : mg "int" = none := T.q8.z_int
theorem Tx.z_isinstance (T : Tx K mg) : mg "isinstance" = none := T.q8.z_isinstance
theorem Tx.z_len (T : Tx K mg) : mg "len" = none := T.q8.z_len
theorem Tx.z_list (T : Tx K mg) : mg "list" = none := T.q8.z_list
theorem Tx.z_max (T : Tx K mg) : mg "max" = none := T.q8.z_max
theorem Tx.z_min (T : Tx K mg) : mg "min" = none := T.q8.z_min
theorem Tx.z_range (T : Tx K mg) : mg "range" = none := T.q8.z_range
theorem Tx.z_repr (T : Tx K mg) : mg "repr" = none := T.q8.z_repr
theorem Tx.z_reversed (T : Tx K mg) : mg "reversed" = none := T.q8.z_reversed
theorem Tx.z_str (T : Tx K mg) : mg "str" = none := T.q8.z_str
theorem Tx.z_tuple (T : Tx K mg) : mg "tuple" = none := T.q8.z_tuple
theorem Tx.z_zip (T : Tx K mg) : mg "zip" = none := T.q8.z_zip
end
variable {P : Program} {w : World} {K : PySem.W.Frag} {mg : Str → Option Value} {base : Heap}
def fl_Line (x0 x1 x2 : V) : List (Str × V) := [("kept_places", x0), ("kept_stretches", x1), ("kept_longs", x2)]
def At_Line (T : Tx K mg) (H : Hp) (p : Addr) (x0 x1 x2 : V) : Prop := ∃ dx, H p = some (.ins T.C_Line dx (fl_Line x0 x1 x2))
theorem At_Line.kp {T : Tx K mg} {H H2 : Hp} {p : Addr} {x0 x1 x2 : V} (h : At_Line T H p x0 x1 x2) (k : Kp [] H H2) : At_Line T H2 p x0 x1 x2 := by obtain ⟨dx, e⟩ := h; exact ⟨dx, k.get0 e⟩
theorem At_Line.kpn {T : Tx K mg} {H H2 : Hp} {p : Addr} {ps : List Addr} {x0 x1 x2 : V} (h : At_Line T H p x0 x1 x2) (k : Kp ps H H2) (n : p ∉ ps) : At_Line T H2 p x0 x1 x2 := by obtain ⟨dx, e⟩ := h; exact ⟨dx, k.get e n⟩
theorem At_Line.th {T : Tx K mg} {H : Hp} {p : Addr} {x0 x1 x2 : V} (h : At_Line T H p x0 x1 x2) : Th H p 5 := by obtain ⟨dx, e⟩ := h; exact .ins e
theorem At_Line.ne {T : Tx K mg} {H : Hp} {p l : Addr} {x0 x1 x2 : V} (h : At_Line T H p x0 x1 x2) (n : H l = none) : l ≠ p := by obtain ⟨dx, e⟩ := h; exact (ne_of_none e n).symm
theorem At_Line.nel {T : Tx K mg} {H : Hp} {p l : Addr} {x0 x1 x2 : V} {xs : List V} (h : At_Line T H p x0 x1 x2) (n : H l = some (.lst xs)) : l ≠ p := by obtain ⟨dx, e⟩ := h; exact ne_of n e (by intro z; cases z)
theorem g_Line_kept_places {T : Tx K mg} {H : Hp} {p : Addr} {x0 x1 x2 : V} {Q : VK} (h : At_Line T H p x0 x1 x2) (q : Q x0 H) : FldK K "kept_places" Q (.ref p) H := by obtain ⟨dx, e⟩ := h; exact s_fdk e T.cl_Line T.na_Line_kept_places rfl q
theorem p_Line_kept_places {T : Tx K mg} {H : Hp} {p : Addr} {x0 x1 x2 y : V} {R : Hp → Prop} (h : At_Line T H p x0 x1 x2) (q : ∀ H2, At_Line T H2 p y x1 x2 → Kp [p] H H2 → R H2) : SetK K "kept_places" y R (.ref p) H := by obtain ⟨dx, e⟩ := h; exact s_sdk e T.cl_Line T.na_Line_kept_places (by simp [fl_Line]) (gs := fl_Line y x1 x2) rfl fun H2 e2 k => q H2 ⟨dx, e2⟩ k
theorem u_Line_kept_places {T : Tx K mg} {H : Hp} {p : Addr} {x0 x1 x2 : V} {R : Addr → Addr → V → Hp → Prop} (h : At_Line T H p x0 x1 x2) (q : R p T.C_Line x0 H) : FaK K "kept_places" R (.ref p) H := by obtain ⟨dx, e⟩ := h; exact s_fak e T.cl_Line T.na_Line_kept_places rfl q
theorem w_Line_kept_places {T : Tx K mg} {H : Hp} {p : Addr} {x0 x1 x2 y : V} {R : Hp → Prop} (h : At_Line T H p x0 x1 x2) (q : ∀ H2, At_Line T H2 p y x1 x2 → Kp [p] H H2 → R H2) : FbK "kept_places" p T.C_Line R y H := by obtain ⟨dx, e⟩ := h; exact s_fbk e (by simp [fl_Line]) (gs := fl_Line y x1 x2) rfl fun H2 e2 k => q H2 ⟨dx, e2⟩ k
theorem g_Line_kept_stretches {T : Tx K mg} {H : Hp} {p : Addr} {x0 x1 x2 : V} {Q : VK} (h : At_Line T H p x0 x1 x2) (q : Q x1 H) : FldK K "kept_stretches" Q (.ref p) H := by obtain ⟨dx, e⟩ := h; exact s_fdk e T.cl_Line T.na_Line_kept_stretches rfl q
theorem p_Line_kept_stretches {T : Tx K mg} {H : Hp} {p : Addr} {x0 x1 x2 y : V} {R : Hp → Prop} (h : At_Line T H p x0 x1 x2) (q : ∀ H2, At_Line T H2 p x0 y x2 → Kp [p] H H2 → R H2) : SetK K "kept_stretches" y R (.ref p) H := by obtain ⟨dx, e⟩ := h; exact s_sdk e T.cl_Line T.na_Line_kept_stretches (by simp [fl_Line]) (gs := fl_Line x0 y x2) rfl fun H2 e2 k => q H2 ⟨dx, e2⟩ k
theorem u_Line_kept_stretches {T : Tx K mg} {H : Hp} {p : Addr} {x0 x1 x2 : V} {R : Addr → Addr → V → Hp → Prop} (h : At_Line T H p x0 x1 x2) (q : R p T.C_Line x1 H) : FaK K "kept_stretches" R (.ref p) H := by obtain ⟨dx, e⟩ := h; exact s_fak e T.cl_Line T.na_Line_kept_stretches rfl q
theorem w_Line_kept_stretches {T : Tx K mg} {H : Hp} {p : Addr} {x0 x1 x2 y : V} {R : Hp → Prop} (h : At_Line T H p x0 x1 x2) (q : ∀ H2, At_Line T H2 p x0 y x2 → Kp [p] H H2 → R H2) : FbK "kept_stretches" p T.C_Line R y H := by obtain ⟨dx, e⟩ := h; exact s_fbk e (by simp [fl_Line]) (gs := fl_Line x0 y x2) rfl fun H2 e2 k => q H2 ⟨dx, e2⟩ k
theorem g_Line_kept_longs {T : Tx K mg} {H : Hp} {p : Addr} {x0 x1 x2 : V} {Q : VK} (h : At_Line T H p x0 x1 x2) (q : Q x2 H) : FldK K "kept_longs" Q (.ref p) H := by obtain ⟨dx, e⟩ := h; exact s_fdk e T.cl_Line T.na_Line_kept_longs rfl q
theorem p_Line_kept_longs {T : Tx K mg} {H : Hp} {p : Addr} {x0 x1 x2 y : V} {R : Hp → Prop} (h : At_Line T H p x0 x1 x2) (q : ∀ H2, At_Line T H2 p x0 x1 y → Kp [p] H H2 → R H2) : SetK K "kept_longs" y R (.ref p) H := by obtain ⟨dx, e⟩ := h; exact s_sdk e T.cl_Line T.na_Line_kept_longs (by simp [fl_Line]) (gs := fl_Line x0 x1 y) rfl fun H2 e2 k => q H2 ⟨dx, e2⟩ k
theorem u_Line_kept_longs {T : Tx K mg} {H : Hp} {p : Addr} {x0 x1 x2 : V} {R : Addr → Addr → V → Hp → Prop} (h : At_Line T H p x0 x1 x2) (q : R p T.C_Line x2 H) : FaK K "kept_longs" R (.ref p) H := by obtain ⟨dx, e⟩ := h; exact s_fak e T.cl_Line T.na_Line_kept_longs rfl q
theorem w_Line_kept_longs {T : Tx K mg} {H : Hp} {p : Addr} {x0 x1 x2 y : V} {R : Hp → Prop} (h : At_Line T H p x0 x1 x2) (q : ∀ H2, At_Line T H2 p x0 x1 y → Kp [p] H H2 → R H2) : FbK "kept_longs" p T.C_Line R y H := by obtain ⟨dx, e⟩ := h; exact s_fbk e (by simp [fl_Line]) (gs := fl_Line x0 x1 y) rfl fun H2 e2 k => q H2 ⟨dx, e2⟩ k
theorem k_Line_names {T : Tx K mg} {H : Hp} {p : Addr} {x0 x1 x2 : V} {R : V → Hp → Prop} (h : At_Line T H p x0 x1 x2) (q : R (.ref p) H) : MtK T.C_Line "names" R (.ref p) H := by obtain ⟨dx, e⟩ := h; exact s_mtk e rfl q
theorem k_Line_number_of {T : Tx K mg} {H : Hp} {p : Addr} {x0 x1 x2 : V} {R : V → Hp → Prop} (h : At_Line T H p x0 x1 x2) (q : R (.ref p) H) : MtK T.C_Line "number_of" R (.ref p) H := by obtain ⟨dx, e⟩ := h; exact s_mtk e rfl q
theorem k_Line_roads {T : Tx K mg} {H : Hp} {p : Addr} {x0 x1 x2 : V} {R : V → Hp → Prop} (h : At_Line T H p x0 x1 x2) (q : R (.ref p) H) : MtK T.C_Line "roads" R (.ref p) H := by obtain ⟨dx, e⟩ := h; exact s_mtk e rfl q
theorem k_Line_many_stretches {T : Tx K mg} {H : Hp} {p : Addr} {x0 x1 x2 : V} {R : V → Hp → Prop} (h : At_Line T H p x0 x1 x2) (q : R (.ref p) H) : MtK T.C_Line "many_stretches" R (.ref p) H := by obtain ⟨dx, e⟩ := h; exact s_mtk e rfl q
theorem k_Line_need_stretch {T : Tx K mg} {H : Hp} {p : Addr} {x0 x1 x2 : V} {R : V → Hp → Prop} (h : At_Line T H p x0 x1 x2) (q : R (.ref p) H) : MtK T.C_Line "need_stretch" R (.ref p) H := by obtain ⟨dx, e⟩ := h; exact s_mtk e rfl q
theorem k_Line_ends {T : Tx K mg} {H : Hp} {p : Addr} {x0 x1 x2 : V} {R : V → Hp → Prop} (h : At_Line T H p x0 x1 x2) (q : R (.ref p) H) : MtK T.C_Line "ends" R (.ref p) H := by obtain ⟨dx, e⟩ := h; exact s_mtk e rfl q
theorem k_Line_kind {T : Tx K mg} {H : Hp} {p : Addr} {x0 x1 x2 : V} {R : V → Hp → Prop} (h : At_Line T H p x0 x1 x2) (q : R (.ref p) H) : MtK T.C_Line "kind" R (.ref p) H := by obtain ⟨dx, e⟩ := h; exact s_mtk e rfl q
theorem k_Line_home {T : Tx K mg} {H : Hp} {p : Addr} {x0 x1 x2 : V} {R : V → Hp → Prop} (h : At_Line T H p x0 x1 x2) (q : R (.ref p) H) : MtK T.C_Line "home" R (.ref p) H := by obtain ⟨dx, e⟩ := h; exact s_mtk e rfl q
theorem k_Line_between {T : Tx K mg} {H : Hp} {p : Addr} {x0 x1 x2 : V} {R : V → Hp → Prop} (h : At_Line T H p x0 x1 x2) (q : R (.ref p) H) : MtK T.C_Line "between" R (.ref p) H := by obtain ⟨dx, e⟩ := h; exact s_mtk e rfl q
theorem k_Line_many_longs {T : Tx K mg} {H : Hp} {p : Addr} {x0 x1 x2 : V} {R : V → Hp → Prop} (h : At_Line T H p x0 x1 x2) (q : R (.ref p) H) : MtK T.C_Line "many_longs" R (.ref p) H := by obtain ⟨dx, e⟩ := h; exact s_mtk e rfl q
theorem k_Line_need_long {T : Tx K mg} {H : Hp} {p : Addr} {x0 x1 x2 : V} {R : V → Hp → Prop} (h : At_Line T H p x0 x1 x2) (q : R (.ref p) H) : MtK T.C_Line "need_long" R (.ref p) H := by obtain ⟨dx, e⟩ := h; exact s_mtk e rfl q
theorem k_Line_long_ends {T : Tx K mg} {H : Hp} {p : Addr} {x0 x1 x2 : V} {R : V → Hp → Prop} (h : At_Line T H p x0 x1 x2) (q : R (.ref p) H) : MtK T.C_Line "long_ends" R (.ref p) H := by obtain ⟨dx, e⟩ := h; exact s_mtk e rfl q
theorem k_Line_long_stretches {T : Tx K mg} {H : Hp} {p : Addr} {x0 x1 x2 : V} {R : V → Hp → Prop} (h : At_Line T H p x0 x1 x2) (q : R (.ref p) H) : MtK T.C_Line "long_stretches" R (.ref p) H := by obtain ⟨dx, e⟩ := h; exact s_mtk e rfl q
theorem k_Line_long_home {T : Tx K mg} {H : Hp} {p : Addr} {x0 x1 x2 : V} {R : V → Hp → Prop} (h : At_Line T H p x0 x1 x2) (q : R (.ref p) H) : MtK T.C_Line "long_home" R (.ref p) H := by obtain ⟨dx, e⟩ := h; exact s_mtk e rfl q
theorem k_Line_long_between {T : Tx K mg} {H : Hp} {p : Addr} {x0 x1 x2 : V} {R : V → Hp → Prop} (h : At_Line T H p x0 x1 x2) (q : R (.ref p) H) : MtK T.C_Line "long_between" R (.ref p) H := by obtain ⟨dx, e⟩ := h; exact s_mtk e rfl q
theorem k_Line_long_of {T : Tx K mg} {H : Hp} {p : Addr} {x0 x1 x2 : V} {R : V → Hp → Prop} (h : At_Line T H p x0 x1 x2) (q : R (.ref p) H) : MtK T.C_Line "long_of" R (.ref p) H := by obtain ⟨dx, e⟩ := h; exact s_mtk e rfl q
theorem k_Line_told {T : Tx K mg} {H : Hp} {p : Addr} {x0 x1 x2 : V} {R : V → Hp → Prop} (h : At_Line T H p x0 x1 x2) (q : R (.ref p) H) : MtK T.C_Line "told" R (.ref p) H := by obtain ⟨dx, e⟩ := h; exact s_mtk e rfl q
theorem k_Line_mirrored {T : Tx K mg} {H : Hp} {p : Addr} {x0 x1 x2 : V} {R : V → Hp → Prop} (h : At_Line T H p x0 x1 x2) (q : R (.ref p) H) : MtK T.C_Line "mirrored" R (.ref p) H := by obtain ⟨dx, e⟩ := h; exact s_mtk e rfl q
theorem k_Line_renamed {T : Tx K mg} {H : Hp} {p : Addr} {x0 x1 x2 : V} {R : V → Hp → Prop} (h : At_Line T H p x0 x1 x2) (q : R (.ref p) H) : MtK T.C_Line "renamed" R (.ref p) H := by obtain ⟨dx, e⟩ := h; exact s_mtk e rfl q
theorem i_Line_kept_places {T : Tx K mg} {H : Hp} {p dx : Addr} {x0 : V} {R : Hp → Prop} (h : H p = some (.ins T.C_Line dx [])) (q : ∀ H2, H2 p = some (.ins T.C_Line dx [("kept_places", x0)]) → Kp [p] H H2 → R H2) : SetK K "kept_places" x0 R (.ref p) H := s_sdk h T.cl_Line T.na_Line_kept_places (by simp) rfl q
theorem i_Line_kept_stretches {T : Tx K mg} {H : Hp} {p dx : Addr} {x0 x1 : V} {R : Hp → Prop} (h : H p = some (.ins T.C_Line dx [("kept_places", x0)])) (q : ∀ H2, H2 p = some (.ins T.C_Line dx [("kept_places", x0), ("kept_stretches", x1)]) → Kp [p] H H2 → R H2) : SetK K "kept_stretches" x1 R (.ref p) H := s_sdk h T.cl_Line T.na_Line_kept_stretches (by simp) rfl q
theorem i_Line_kept_longs {T : Tx K mg} {H : Hp} {p dx : Addr} {x0 x1 x2 : V} {R : Hp → Prop} (h : H p = some (.ins T.C_Line dx [("kept_places", x0), ("kept_stretches", x1)])) (q : ∀ H2, H2 p = some (.ins T.C_Line dx [("kept_places", x0), ("kept_stretches", x1), ("kept_longs", x2)]) → Kp [p] H H2 → R H2) : SetK K "kept_longs" x2 R (.ref p) H := s_sdk h T.cl_Line T.na_Line_kept_longs (by simp) rfl q
local macro_rules | `(tactic| walk_at "u2") => `(tactic| first
  | ((with_reducible refine' g_Line_kept_places ?uat ?_); (case uat => walk_at "g"))
  | ((with_reducible refine' u_Line_kept_places ?uat ?_); (case uat => walk_at "g"))
  | ((with_reducible refine' g_Line_kept_stretches ?uat ?_); (case uat => walk_at "g"))
  | ((with_reducible refine' u_Line_kept_stretches ?uat ?_); (case uat => walk_at "g"))
  | ((with_reducible refine' g_Line_kept_longs ?uat ?_); (case uat => walk_at "g"))
  | ((with_reducible refine' u_Line_kept_longs ?uat ?_); (case uat => walk_at "g"))
  | ((with_reducible refine' k_Line_names ?uat ?_); (case uat => walk_at "g"))
  | ((with_reducible refine' k_Line_number_of ?uat ?_); (case uat => walk_at "g"))
  | ((with_reducible refine' k_Line_roads ?uat ?_); (case uat => walk_at "g"))
  | ((with_reducible refine' k_Line_many_stretches ?uat ?_); (case uat => walk_at "g"))
  | ((with_reducible refine' k_Line_need_stretch ?uat ?_); (case uat => walk_at "g"))
  | ((with_reducible refine' k_Line_ends ?uat ?_); (case uat => walk_at "g"))
  | ((with_reducible refine' k_Line_kind ?uat ?_); (case uat => walk_at "g"))
  | ((with_reducible refine' k_Line_home ?uat ?_); (case uat => walk_at "g"))
  | ((with_reducible refine' k_Line_between ?uat ?_); (case uat => walk_at "g"))
  | ((with_reducible refine' k_Line_many_longs ?uat ?_); (case uat => walk_at "g"))
  | ((with_reducible refine' k_Line_need_long ?uat ?_); (case uat => walk_at "g"))
  | ((with_reducible refine' k_Line_long_ends ?uat ?_); (case uat => walk_at "g"))
  | ((with_reducible refine' k_Line_long_stretches ?uat ?_); (case uat => walk_at "g"))
  | ((with_reducible refine' k_Line_long_home ?uat ?_); (case uat => walk_at "g"))
  | ((with_reducible refine' k_Line_long_between ?uat ?_); (case uat => walk_at "g"))
  | ((with_reducible refine' k_Line_long_of ?uat ?_); (case uat => walk_at "g"))
  | ((with_reducible refine' k_Line_told ?uat ?_); (case uat => walk_at "g"))
  | ((with_reducible refine' k_Line_mirrored ?uat ?_); (case uat => walk_at "g"))
  | ((with_reducible refine' k_Line_renamed ?uat ?_); (case uat => walk_at "g")))
local macro_rules | `(tactic| walk_at "g2") => `(tactic| first
  | ((refine' At_Line.kpn ?ugm ?ugk ?ugn); (case ugk => assumption); (case ugm => walk_at "g"); (case ugn => walk_at "n")))
local macro_rules | `(tactic| walk_at "t2") => `(tactic| first
  | exact At_Line.th (by assumption))
theorem ok_NoName_init (T : Tx K mg) : FnOk P w K mg base (L2.CX P w) 1 T.a_NoName_init T.d_NoName_init ["self", "found"] (spE T.C_NoName "found") := by
  refine T.F_NoName_init.okX sc_NoName_init (fun vs H Q E h => ?_) (fun cd A o s H vs Q E hr h => ?_)
  · obtain ⟨v0, v1, rfl, h⟩ := h; rfl
  obtain ⟨v0, v1, rfl, a, rfl, ha, k⟩ := h
  refine ⟨_, (pss_cons (ps_expr (pe_se (K := K) rfl rfl T.m_StaffError T.rd_StaffError T.vi_StaffError (pa_cons (pv 0) (pa_cons pe_str pa_nil))))
    (pss_one (ps_os (K := K) rfl (pv 0) (pv 1)))), ?_⟩
  walk_at "u"
  refine s_sek T.er_NoName.oex ha ?_
  walk_at "u"
  exact ⟨a, T.C_NoName, rfl, T.er_NoName.oex, T.er_NoName.no, ha, k⟩
theorem ok_NoPlace_init (T : Tx K mg) : FnOk P w K mg base (L2.CX P w) 1 T.a_NoPlace_init T.d_NoPlace_init ["self", "found"] (spE T.C_NoPlace "found") := by
  refine T.F_NoPlace_init.okX sc_NoPlace_init (fun vs H Q E h => ?_) (fun cd A o s H vs Q E hr h => ?_)
  · obtain ⟨v0, v1, rfl, h⟩ := h; rfl
  obtain ⟨v0, v1, rfl, a, rfl, ha, k⟩ := h
  refine ⟨_, (pss_cons (ps_expr (pe_se (K := K) rfl rfl T.m_StaffError T.rd_StaffError T.vi_StaffError (pa_cons (pv 0) (pa_cons pe_str pa_nil))))
    (pss_one (ps_os (K := K) rfl (pv 0) (pv 1)))), ?_⟩
  walk_at "u"
  refine s_sek T.er_NoPlace.oex ha ?_
  walk_at "u"
  exact ⟨a, T.C_NoPlace, rfl, T.er_NoPlace.oex, T.er_NoPlace.no, ha, k⟩
theorem ok_NoStretch_init (T : Tx K mg) : FnOk P w K mg base (L2.CX P w) 1 T.a_NoStretch_init T.d_NoStretch_init ["self", "found"] (spE T.C_NoStretch "found") := by
  refine T.F_NoStretch_init.okX sc_NoStretch_init (fun vs H Q E h => ?_) (fun cd A o s H vs Q E hr h => ?_)
  · obtain ⟨v0, v1, rfl, h⟩ := h; rfl
  obtain ⟨v0, v1, rfl, a, rfl, ha, k⟩ := h
  refine ⟨_, (pss_cons (ps_expr (pe_se (K := K) rfl rfl T.m_StaffError T.rd_StaffError T.vi_StaffError (pa_cons (pv 0) (pa_cons pe_str pa_nil))))
    (pss_one (ps_os (K := K) rfl (pv 0) (pv 1)))), ?_⟩
  walk_at "u"
  refine s_sek T.er_NoStretch.oex ha ?_
  walk_at "u"
  exact ⟨a, T.C_NoStretch, rfl, T.er_NoStretch.oex, T.er_NoStretch.no, ha, k⟩
theorem ok_NoLong_init (T : Tx K mg) : FnOk P w K mg base (L2.CX P w) 1 T.a_NoLong_init T.d_NoLong_init ["self", "found"] (spE T.C_NoLong "found") := by
  refine T.F_NoLong_init.okX sc_NoLong_init (fun vs H Q E h => ?_) (fun cd A o s H vs Q E hr h => ?_)
  · obtain ⟨v0, v1, rfl, h⟩ := h; rfl
  obtain ⟨v0, v1, rfl, a, rfl, ha, k⟩ := h
  refine ⟨_, (pss_cons (ps_expr (pe_se (K := K) rfl rfl T.m_StaffError T.rd_StaffError T.vi_StaffError (pa_cons (pv 0) (pa_cons pe_str pa_nil))))
    (pss_one (ps_os (K := K) rfl (pv 0) (pv 1)))), ?_⟩
  walk_at "u"
  refine s_sek T.er_NoLong.oex ha ?_
  walk_at "u"
  exact ⟨a, T.C_NoLong, rfl, T.er_NoLong.oex, T.er_NoLong.no, ha, k⟩
theorem ok_NoPlaces_init (T : Tx K mg) : FnOk P w K mg base (L2.CX P w) 1 T.a_NoPlaces_init T.d_NoPlaces_init ["self", "found"] (spE T.C_NoPlaces "found") := by
  refine T.F_NoPlaces_init.okX sc_NoPlaces_init (fun vs H Q E h => ?_) (fun cd A o s H vs Q E hr h => ?_)
  · obtain ⟨v0, v1, rfl, h⟩ := h; rfl
  obtain ⟨v0, v1, rfl, a, rfl, ha, k⟩ := h
  refine ⟨_, (pss_cons (ps_expr (pe_se (K := K) rfl rfl T.m_StaffError T.rd_StaffError T.vi_StaffError (pa_cons (pv 0) (pa_cons pe_str pa_nil))))
    (pss_one (ps_os (K := K) rfl (pv 0) (pv 1)))), ?_⟩
  walk_at "u"
  refine s_sek T.er_NoPlaces.oex ha ?_
  walk_at "u"
  exact ⟨a, T.C_NoPlaces, rfl, T.er_NoPlaces.oex, T.er_NoPlaces.no, ha, k⟩
theorem ok_NoStretches_init (T : Tx K mg) : FnOk P w K mg base (L2.CX P w) 1 T.a_NoStretches_init T.d_NoStretches_init ["self", "found"] (spE T.C_NoStretches "found") := by
  refine T.F_NoStretches_init.okX sc_NoStretches_init (fun vs H Q E h => ?_) (fun cd A o s H vs Q E hr h => ?_)
  · obtain ⟨v0, v1, rfl, h⟩ := h; rfl
  obtain ⟨v0, v1, rfl, a, rfl, ha, k⟩ := h
  refine ⟨_, (pss_cons (ps_expr (pe_se (K := K) rfl rfl T.m_StaffError T.rd_StaffError T.vi_StaffError (pa_cons (pv 0) (pa_cons pe_str pa_nil))))
    (pss_one (ps_os (K := K) rfl (pv 0) (pv 1)))), ?_⟩
  walk_at "u"
  refine s_sek T.er_NoStretches.oex ha ?_
  walk_at "u"
  exact ⟨a, T.C_NoStretches, rfl, T.er_NoStretches.oex, T.er_NoStretches.no, ha, k⟩
theorem ok_NoLongs_init (T : Tx K mg) : FnOk P w K mg base (L2.CX P w) 1 T.a_NoLongs_init T.d_NoLongs_init ["self", "found"] (spE T.C_NoLongs "found") := by
  refine T.F_NoLongs_init.okX sc_NoLongs_init (fun vs H Q E h => ?_) (fun cd A o s H vs Q E hr h => ?_)
  · obtain ⟨v0, v1, rfl, h⟩ := h; rfl
  obtain ⟨v0, v1, rfl, a, rfl, ha, k⟩ := h
  refine ⟨_, (pss_cons (ps_expr (pe_se (K := K) rfl rfl T.m_StaffError T.rd_StaffError T.vi_StaffError (pa_cons (pv 0) (pa_cons pe_str pa_nil))))
    (pss_one (ps_os (K := K) rfl (pv 0) (pv 1)))), ?_⟩
  walk_at "u"
  refine s_sek T.er_NoLongs.oex ha ?_
  walk_at "u"
  exact ⟨a, T.C_NoLongs, rfl, T.er_NoLongs.oex, T.er_NoLongs.no, ha, k⟩
theorem ok_NoNumber_init (T : Tx K mg) : FnOk P w K mg base (L2.CX P w) 1 T.a_NoNumber_init T.d_NoNumber_init ["self", "found"] (spE T.C_NoNumber "found") := by
  refine T.F_NoNumber_init.okX sc_NoNumber_init (fun vs H Q E h => ?_) (fun cd A o s H vs Q E hr h => ?_)
  · obtain ⟨v0, v1, rfl, h⟩ := h; rfl
  obtain ⟨v0, v1, rfl, a, rfl, ha, k⟩ := h
  refine ⟨_, (pss_cons (ps_expr (pe_se (K := K) rfl rfl T.m_StaffError T.rd_StaffError T.vi_StaffError (pa_cons (pv 0) (pa_cons pe_str pa_nil))))
    (pss_one (ps_os (K := K) rfl (pv 0) (pv 1)))), ?_⟩
  walk_at "u"
  refine s_sek T.er_NoNumber.oex ha ?_
  walk_at "u"
  exact ⟨a, T.C_NoNumber, rfl, T.er_NoNumber.oex, T.er_NoNumber.no, ha, k⟩
theorem ok_Twice_init (T : Tx K mg) : FnOk P w K mg base (L2.CX P w) 1 T.a_Twice_init T.d_Twice_init ["self", "found"] (spE T.C_Twice "found") := by
  refine T.F_Twice_init.okX sc_Twice_init (fun vs H Q E h => ?_) (fun cd A o s H vs Q E hr h => ?_)
  · obtain ⟨v0, v1, rfl, h⟩ := h; rfl
  obtain ⟨v0, v1, rfl, a, rfl, ha, k⟩ := h
  refine ⟨_, (pss_cons (ps_expr (pe_se (K := K) rfl rfl T.m_StaffError T.rd_StaffError T.vi_StaffError (pa_cons (pv 0) (pa_cons pe_str pa_nil))))
    (pss_one (ps_os (K := K) rfl (pv 0) (pv 1)))), ?_⟩
  walk_at "u"
  refine s_sek T.er_Twice.oex ha ?_
  walk_at "u"
  exact ⟨a, T.C_Twice, rfl, T.er_Twice.oex, T.er_Twice.no, ha, k⟩
/-- take: a number below many -/
def sp_law_take : Sp := sp2 fun x y H Q _ => ∃ (p : Addr) (m : Int) (n : Nat), x = .ref p ∧ y = .int m ∧ Box H p n ∧ n ≤ 1000000 ∧ 0 < m ∧ m < 10 ^ 40 ∧
  ∀ (d : Int) (H' : Hp), 0 ≤ d → d < m → Box H' p (n + 1) → Kp [p] H H' → Q (.int d) H'
set_option maxHeartbeats 16000000 in
theorem ok_law_take (T : Tx K mg) : FnOk P w K mg base (L2.CX P w) 1 T.a_law_take T.d_law_take ["_law_box_here", "_law_many"] (sp_law_take) := by
  refine T.F_law_take.okX sc_law_take (fun vs H Q E h => ?_) (fun cd A o s H vs Q E hr h => ?_)
  · obtain ⟨v0, v1, rfl, h⟩ := h; rfl
  obtain ⟨v0, v1, rfl, h⟩ := h
  obtain ⟨p, m, n, rfl, rfl, ⟨a, b, c, hp, ha, hb, hb2, hc, hc2⟩, hn, hm, hm2, k⟩ := h
  refine ⟨_, (pss_cons (ps_if (pt_cmpR o_gt (pe_ix (ix_u (K := K) rfl) (pv 0) pe_int (fun _ _ => rfl)) pe_int (nomark _))
    (pss_cons (ps_set (i := 3) sc_law_take.nd rfl (Or.inl rfl) (pe_op o_mod (pe_ix (ix_u (K := K) rfl) (pv 0) pe_int (fun _ _ => rfl)) (pv 1)))
    (pss_cons (ps_asg (pe_op o_div (pe_ix (ix_u (K := K) rfl) (pv 0) pe_int (fun _ _ => rfl)) (pv 1)) (pg_sub (pv 0) pe_int (set_u hr)))
    (pss_one (ps_ret (pv 3)))))
    pss_nil)
    (pss_cons (ps_asg (pe_op (o_add (K := K) rfl) (pe_ix (ix_u (K := K) rfl) (pv 0) pe_int (fun _ _ => rfl)) pe_int) (pg_sub (pv 0) pe_int (set_u hr)))
    (pss_cons (ps_set (i := 2) sc_law_take.nd rfl (Or.inl rfl) (pe_op o_mod (pe_op o_pow (pe_op (o_add (K := K) rfl) (pe_op (o_add (K := K) rfl) (pe_ix (ix_u (K := K) rfl) (pv 0) pe_int (fun _ _ => rfl)) (pe_op o_mul pe_int (pe_ix (ix_u (K := K) rfl) (pv 0) pe_int (fun _ _ => rfl)))) pe_int) pe_int) pe_int))
    (pss_cons (ps_set (i := 2) sc_law_take.nd rfl (Or.inl rfl) (pe_op o_mod (pe_op o_pow (pe_op (o_add (K := K) rfl) (pv 2) (pe_op o_mul pe_int (pe_ix (ix_u (K := K) rfl) (pv 0) pe_int (fun _ _ => rfl)))) pe_int) pe_int))
    (pss_one (ps_ret (pe_op o_mod (pe_op o_div (pv 2) pe_int) (pv 1)))))))), ?_⟩
  rw [st_law_take]
  walk_at "u"
  refine s_ite (fun h0 => ?_) (fun h0 => ?_)
  · walk_at "u"
    refine s_ul hp rfl rfl fun H1 e1 k1 => ?_
    walk_at "u"
    refine k _ _ (Int.emod_nonneg _ (by omega)) (Int.emod_lt_of_pos _ hm) ⟨_, _, _, e1, Int.ediv_nonneg ha (by omega), hb, hb2, hc, by omega⟩ k1
  · walk_at "u"
    refine s_ul hp rfl rfl fun H1 e1 k1 => ?_
    walk_at "u"
    have h1 : (0 : Int) ≤ (b + 7919 * (c + 1) + 29) ^ 5 % 2147483647 := Int.emod_nonneg _ (by omega)
    have h2 : (b + 7919 * (c + 1) + 29) ^ 5 % 2147483647 < 2147483647 := Int.emod_lt_of_pos _ (by omega)
    generalize (b + 7919 * (c + 1) + 29) ^ 5 % 2147483647 = y at h1 h2 ⊢
    walk_at "u"
    refine k _ _ (Int.emod_nonneg _ (by omega)) (Int.emod_lt_of_pos _ hm) ⟨_, _, _, e1, ha, hb, hb2, by omega, by omega⟩ k1
theorem c_take {p : Addr} {m : Int} {n : Nat} {H : Hp} {Q : VK} {E : XK} (hB : Box H p n) (hn : n ≤ 1000000) (h0 : 0 < m) (h1 : m < 10 ^ 40)
    (k : ∀ (d : Int) (H' : Hp), 0 ≤ d → d < m → Box H' p (n + 1) → Kp [p] H H' → Q (.int d) H') : sp_law_take [.ref p, .int m] H Q E := ⟨_, _, rfl, p, m, n, rfl, rfl, hB, hn, h0, h1, k⟩
def sp_law_cell (K : PySem.W.Frag) : Sp := sp2 fun x y H Q _ => ∃ (a : Addr) (ns : List Int) (k : Int), x = .ref a ∧ y = .int k ∧ SqL K H a (ns.map V.int) ∧ 0 ≤ k ∧ k < 1000 ∧ ∀ c : Int, Q (.int c) H
set_option maxHeartbeats 16000000 in
theorem ok_law_cell (T : Tx K mg) : FnOk P w K mg base (L2.CX P w) 1 T.a_law_cell T.d_law_cell ["_law_script", "_law_k"] (sp_law_cell K) := by
  refine T.F_law_cell.okX sc_law_cell (fun vs H Q E h => ?_) (fun cd A o s H vs Q E hr h => ?_)
  · obtain ⟨v0, v1, rfl, h⟩ := h; rfl
  obtain ⟨v0, v1, rfl, h⟩ := h
  obtain ⟨a, ns, k, rfl, rfl, hS, h0, h1, q⟩ := h
  refine ⟨_, (pss_cons (ps_if (pt_cmpR o_lt (pv 1) (pe_callB (c_len (K := K) rfl) rfl T.z_len bt_len (pa_cons (pv 0) pa_nil)) (nomark _))
    (pss_one (ps_ret (pe_ix (ix_u (K := K) rfl) (pv 0) (pv 1) (fun _ _ => rfl))))
    pss_nil)
    (pss_one (ps_ret (pe_op (o_add (K := K) rfl) (pe_op o_mul pe_int (pv 1)) pe_int)))), ?_⟩
  rw [st_law_cell]
  walk_at "u"
  refine s_lenL hS ?_
  walk_at "u"
  rw [List.length_map]
  refine s_ite (fun h2 => ?_) (fun h2 => ?_)
  · walk_at "u"
    obtain ⟨z, e1, e2⟩ := at_int (xs := ns.map V.int) h0 (by rw [List.length_map]; exact h2)
    rw [List.getElem?_map] at e1
    obtain ⟨c, _, rfl⟩ := Option.map_eq_some_iff.mp e1
    refine s_ixL hS e2 ?_
    walk_at "u"
    exact q c
  · walk_at "u"
    exact q _
theorem c_cell {K : PySem.W.Frag} {a : Addr} {ns : List Int} {k : Int} {H : Hp} {Q : VK} {E : XK} (hS : SqL K H a (ns.map V.int)) (h0 : 0 ≤ k) (h1 : k < 1000) (q : ∀ c : Int, Q (.int c) H) : sp_law_cell K [.ref a, .int k] H Q E := ⟨_, _, rfl, a, ns, k, rfl, rfl, hS, h0, h1, q⟩
def sp_law_box : Sp := sp1 fun x H Q _ => ∃ (c : Int), x = .int c ∧ ∀ p H', H p = none → Kp [] H H' → Box H' p 0 → Q (.ref p) H'
set_option maxHeartbeats 16000000 in
theorem ok_law_box (T : Tx K mg) : FnOk P w K mg base (L2.CX P w) 1 T.a_law_box T.d_law_box ["_law_cell_here"] (sp_law_box) := by
  refine T.F_law_box.okX sc_law_box (fun vs H Q E h => ?_) (fun cd A o s H vs Q E hr h => ?_)
  · obtain ⟨v0, rfl, h⟩ := h; rfl
  obtain ⟨v0, rfl, h⟩ := h
  obtain ⟨c, rfl, k⟩ := h
  refine ⟨_, (pss_one (ps_ret (pe_lst (pa_cons (pe_callB (c_max rfl) rfl T.z_max bt_max (pa_cons pe_int (pa_cons (pe_op o_sub (pv 0) (pe_op o_pow pe_int pe_int)) pa_nil))) (pa_cons (pe_op o_mod (pv 0) pe_int) (pa_cons pe_int pa_nil)))))), ?_⟩
  rw [st_law_box]
  walk_at "u"
  refine s_newl (zle (by simp)) fun p H1 hp e1 k1 => k p _ hp k1 ⟨_, _, _, e1, ?_, Int.emod_nonneg _ (by decide), Int.emod_lt_of_pos _ (by decide), Int.le_refl _, Int.le_refl _⟩
  split <;> omega
theorem c_box {c : Int} {H : Hp} {Q : VK} {E : XK} (q : ∀ p H', H p = none → Kp [] H H' → Box H' p 0 → Q (.ref p) H') : sp_law_box [.int c] H Q E := ⟨_, rfl, c, rfl, q⟩
local macro_rules | `(tactic| walk_at "tk") => `(tactic| (refine c_take (by walk_at "g") (by omega) (by first | decide | omega) (by first | decide | omega) ?_))
local macro_rules | `(tactic| walk_at "cl") => `(tactic| (refine c_cell (by walk_at "g") (by omega) (by omega) ?_))

def isWhole (v : V) (lo hi : Int) : Bool := match v with | .int i => decide (lo ≤ i) && decide (i ≤ hi) | _ => false
def sp_is_whole : Sp := sp3 fun x y z H Q _ => ∃ (lo hi : Int) (t : Kd), y = .int lo ∧ z = .int hi ∧ TyN H x t ∧ Q (.bl (isWhole x lo hi)) H
set_option maxHeartbeats 16000000 in
theorem ok_is_whole (T : Tx K mg) : FnOk P w K mg base (L2.CX P w) 1 T.a_is_whole T.d_is_whole ["thing", "low", "high"] (sp_is_whole) := by
  refine T.F_is_whole.okX sc_is_whole (fun vs H Q E h => ?_) (fun cd A o s H vs Q E hr h => ?_)
  · obtain ⟨v0, v1, v2, rfl, h⟩ := h; rfl
  obtain ⟨v0, v1, v2, rfl, h⟩ := h
  obtain ⟨lo, hi, t, rfl, rfl, ht, k⟩ := h
  refine ⟨_, (pss_one (ps_ret (pe_and (pe_callB (c_isi (K := K) rfl) rfl T.z_isinstance bt_isinstance (pa_cons (pv 0) (pa_cons (pe_ty rfl T.z_int bt_int) pa_nil))) (pe_and (pe_not (pe_callB (c_isi (K := K) rfl) rfl T.z_isinstance bt_isinstance (pa_cons (pv 0) (pa_cons (pe_ty rfl T.z_bool bt_bool) pa_nil)))) (pe_one (pe_chain o_le o_le (pv 1) (pv 0) (pv 2))))))), ?_⟩
  rw [st_is_whole]
  cases ht <;> walk_at "u"
  all_goals try exact k
  rename_i i
  refine s_ite (fun h1 => ?_) (fun h1 => ?_)
  · walk_at "u"
    have e : isWhole (V.int i) lo hi = (decide (lo ≤ i) && decide (i ≤ hi)) := rfl
    rw [e, decide_eq_true h1, Bool.true_and] at k
    exact k
  · have e : isWhole (V.int i) lo hi = (decide (lo ≤ i) && decide (i ≤ hi)) := rfl
    rw [e, decide_eq_false h1, Bool.false_and] at k
    exact k
theorem whole_int {v : V} {lo hi : Int} (h : isWhole v lo hi = true) : ∃ n, v = .int n ∧ lo ≤ n ∧ n ≤ hi := by
  cases v <;> simp_all [isWhole]

def letters : Str := "abcdefghijklmnopqrstuvwxyz"
def isName (v : V) : Bool := match v with | .str z => decide (1 ≤ z.length ∧ z.length ≤ 6) && z.cps.toList.all (fun c => decide (c ∈ letters.cps.toList)) | _ => false
def Small (v : V) : Prop := match v with | .str z => SS z 1000 | _ => True
def sp_is_name : Sp := sp1 fun x H Q _ => ∃ t, TyN H x t ∧ Small x ∧ ∀ H', Kp [] H H' → Q (.bl (isName x)) H'
theorem take_one {α : Type} {xs : List α} {i : Nat} {x : α} (h : xs[i]? = some x) : xs.take (i + 1) = xs.take i ++ [x] := by
  rw [List.take_add_one, h]; rfl
set_option maxHeartbeats 16000000 in
theorem ok_is_name (T : Tx K mg) : FnOk P w K mg base (L2.CX P w) 1 T.a_is_name T.d_is_name ["thing"] (sp_is_name) := by
  refine T.F_is_name.okX sc_is_name (fun vs H Q E h => ?_) (fun cd A o s H vs Q E hr h => ?_)
  · obtain ⟨v0, rfl, h⟩ := h; rfl
  obtain ⟨v0, rfl, h⟩ := h
  obtain ⟨t, ht, hz, k⟩ := h
  refine ⟨_, (pss_cons (ps_if (PW.pt (pw_or (pt_not (pt_val (pe_callB (c_isi (K := K) rfl) rfl T.z_isinstance bt_isinstance (pa_cons (pv 0) (pa_cons (pe_ty rfl T.z_str bt_str) pa_nil))))) (pw_or1 (pt_not (pt_chain o_le o_le pe_int (pe_callB (c_len (K := K) rfl) rfl T.z_len bt_len (pa_cons (pv 0) pa_nil)) (pe_glob rfl T.mc_LONGEST T.rc_LONGEST))))))
    (pss_one (ps_ret pe_bl))
    pss_nil)
    (pss_one (ps_ret (pe_callB (c_all (K := K) rfl rfl) rfl T.z_all bt_all (pa_cons (pe_lc (own := [("sign", 1)]) rfl sc_is_name.nd (pi_str (pv 0)) (blkOk_by (own := [("sign", 1)]) (N := N_is_name) (sc := defScope s_is_name) (by decide +kernel)) (fun _ _ _ _ _ => (pg_name (i := 1) sc_is_name.nd rfl (Or.inl rfl))) (fun _ _ _ _ _ => pts_nil) (fun _ _ _ _ _ => (pe_cmpR (o_in (K := K) rfl) (pv 1) (pe_glob rfl T.mc_LETTERS T.rc_LETTERS) rfl))) pa_nil))))), ?_⟩
  rw [st_is_name]
  cases ht <;> walk_at "u"
  all_goals try exact k _ Kp.refl
  rename_i z
  obtain ⟨hz, hz2⟩ : SS z 1000 := hz
  refine s_lens (zle (by omega)) ?_
  walk_at "u"
  have key : ∀ b : Bool, (decide (1 ≤ (z.length : Int)) && decide ((z.length : Int) ≤ 6)) = b → (b = true → ∀ H', Kp [] H H' → Q (.bl (z.cps.toList.all fun c => decide (c ∈ letters.cps.toList))) H') ∧ (b = false → ∀ H', Kp [] H H' → Q (.bl false) H') := by
    intro b hb
    refine ⟨fun e H' kp => ?_, fun e H' kp => ?_⟩
    · subst e
      have q := k H' kp
      have e2 : isName (V.str z) = (decide (1 ≤ z.length ∧ z.length ≤ 6) && z.cps.toList.all fun c => decide (c ∈ letters.cps.toList)) := rfl
      rw [Bool.and_eq_true, decide_eq_true_eq, decide_eq_true_eq] at hb
      rw [e2, decide_eq_true (by omega), Bool.true_and] at q
      exact q
    · subst e
      have q := k H' kp
      have e2 : isName (V.str z) = (decide (1 ≤ z.length ∧ z.length ≤ 6) && z.cps.toList.all fun c => decide (c ∈ letters.cps.toList)) := rfl
      have hb : ¬ (1 ≤ z.length ∧ z.length ≤ 6) := fun h => by
        rw [decide_eq_true (by omega), decide_eq_true (by omega)] at hb
        cases hb
      rw [e2, decide_eq_false hb, Bool.false_and] at q
      exact q
  refine s_ite (fun h1 => ?_) (fun h1 => ?_)
  · walk_at "u"
    refine s_itn (fun h2 => ?_) (fun h2 => ?_)
    · walk_at "u"
      exact (key false (by rw [decide_eq_true h1, decide_eq_false h2]; rfl)).2 rfl _ Kp.refl
    · walk_at "u"
      intro D hD
      refine lc_it walk_str (PvD D fun i acc H' => Kp [D] H H' ∧ acc = (z.cps.toList.take i).map fun c => V.bl (decide (c ∈ letters.cps.toList))) (PvD.begin hD fun H7 e7 k7 => ⟨by walk_at "k", rfl⟩) (fun _ _ _ _ => trivial) ?_ ?_
      · rintro i x H1 H2 hi ⟨acc, e, kp, rfl⟩ ⟨rfl, c, hc, rfl⟩
        walk_at "u"
        refine ⟨rfl, ?_⟩
        walk_at "u"
        refine PvD.add e ?_ fun H9 e9 k9 => ⟨by walk_at "k", ?_⟩
        · rw [List.length_map, List.length_take]
          have : i < z.length := hi
          omega
        · rw [take_one (x := c) (by simpa using hc), List.map_append]
          rfl
      · rintro H2 ⟨acc, e, kp, rfl⟩
        walk_at "u"
        rw [List.take_of_length_le (by simp)] at e
        refine s_all (bs := z.cps.toList.map fun c => decide (c ∈ letters.cps.toList)) (by rw [List.map_map]; exact e) ?_
        rw [List.all_map]
        exact (key true (by rw [decide_eq_true h1, decide_eq_true h2]; rfl)).1 rfl _ (kp.drop hD)
  · walk_at "u"
    exact (key false (by rw [decide_eq_false h1]; rfl)).2 rfl _ Kp.refl

theorem c_name {z : Str} {H : Hp} {Q : VK} {E : XK} (h : SS z 1000) (q : ∀ H', Kp [] H H' → Q (.bl (isName (.str z))) H') : sp_is_name [.str z] H Q E := ⟨_, rfl, _, .str, h, q⟩

def sp_is_row : Sp := sp2 fun x y H Q _ => ∃ (a : Addr) (xs : List V) (n : Int), x = .ref a ∧ y = .int n ∧ H a = some (.tup xs) ∧ Q (.bl (decide ((xs.length : Int) = n))) H
set_option maxHeartbeats 16000000 in
theorem ok_is_row (T : Tx K mg) : FnOk P w K mg base (L2.CX P w) 1 T.a_is_row T.d_is_row ["thing", "size"] (sp_is_row) := by
  refine T.F_is_row.okX sc_is_row (fun vs H Q E h => ?_) (fun cd A o s H vs Q E hr h => ?_)
  · obtain ⟨v0, v1, rfl, h⟩ := h; rfl
  obtain ⟨v0, v1, rfl, h⟩ := h
  obtain ⟨a, xs, n, rfl, rfl, h, k⟩ := h
  refine ⟨_, (pss_one (ps_ret (pe_and (pe_callB (c_isi (K := K) rfl) rfl T.z_isinstance bt_isinstance (pa_cons (pv 0) (pa_cons (pe_ty rfl T.z_tuple bt_tuple) pa_nil))) (pe_one (pe_cmpR (o_eq (K := K) rfl hr) (pe_callB (c_len (K := K) rfl) rfl T.z_len bt_len (pa_cons (pv 0) pa_nil)) (pv 1) (nomark _)))))), ?_⟩
  rw [st_is_row]
  walk_at "u"
  refine s_lent h ?_
  walk_at "u"
  exact k
theorem c_row {a : Addr} {xs : List V} {n : Int} {H : Hp} {Q : VK} {E : XK} (h : H a = some (.tup xs)) (e : (xs.length : Int) = n) (q : Q (.bl true) H) : sp_is_row [.ref a, .int n] H Q E :=
  ⟨_, _, rfl, a, xs, n, rfl, rfl, h, by rw [decide_eq_true e]; exact q⟩
abbrev Pl := List (Str × Int)
abbrev Lo := List (Int × Int × Int)
def rP (pl : Pl) : List (List V) := pl.map fun q => [V.str q.1, V.int q.2]
def rL (lo : Lo) : List (List V) := lo.map fun q => [V.int q.1, V.int q.2.1, V.int q.2.2]
theorem rP_at {pl : Pl} {i : Nat} {r : List V} (h : (rP pl)[i]? = some r) : ∃ q, pl[i]? = some q ∧ r = [V.str q.1, V.int q.2] := by
  unfold rP at h
  rw [List.getElem?_map] at h
  obtain ⟨q, e, rfl⟩ := Option.map_eq_some_iff.mp h
  exact ⟨q, e, rfl⟩
theorem rL_at {lo : Lo} {i : Nat} {r : List V} (h : (rL lo)[i]? = some r) : ∃ q, lo[i]? = some q ∧ r = [V.int q.1, V.int q.2.1, V.int q.2.2] := by
  unfold rL at h
  rw [List.getElem?_map] at h
  obtain ⟨q, e, rfl⟩ := Option.map_eq_some_iff.mp h
  exact ⟨q, e, rfl⟩
structure GoodP (pl : Pl) : Prop where
  l2 : 2 ≤ pl.length
  l6 : pl.length ≤ 6
  nm : ∀ q ∈ pl, isName (.str q.1) = true ∧ SS q.1 20
  nd : (pl.map (·.1)).Nodup
  rd : ∀ q ∈ pl, 1 ≤ q.2 ∧ q.2 ≤ 3
structure GoodS (st : Pl) (many : Nat) : Prop where
  ln : st.length = many
  ok : ∀ q ∈ st, (q.1 = "staff" ∨ q.1 = "ticket") ∧ (q.2 = 0 ∨ q.2 = 1)
/-- each one begins where the one ahead ends, or behind it -/
def GoodL : Int → Int → Lo → Prop
  | _, _, [] => True
  | low, high, q :: r => low ≤ q.1 ∧ q.1 + 2 ≤ q.2.1 ∧ q.2.1 ≤ high ∧ (q.2.2 = 0 ∨ q.2.2 = 1) ∧ GoodL q.2.1 high r
def lowAt (low : Int) (lo : Lo) (i : Nat) : Int := match i with | 0 => low | j + 1 => match lo[j]? with | some q => q.2.1 | none => low
theorem GoodL.at {high : Int} : ∀ {low : Int} {lo : Lo} {i : Nat} {q : Int × Int × Int}, GoodL low high lo → lo[i]? = some q → lowAt low lo i ≤ q.1 ∧ q.1 + 2 ≤ q.2.1 ∧ q.2.1 ≤ high ∧ (q.2.2 = 0 ∨ q.2.2 = 1)
  | low, p :: r, 0, q, h, e => by
    cases Option.some.inj e
    exact ⟨h.1, h.2.1, h.2.2.1, h.2.2.2.1⟩
  | low, p :: r, i + 1, q, h, e => by
    have := GoodL.at (low := p.2.1) (lo := r) (i := i) (q := q) h.2.2.2.2 (by simpa using e)
    cases i with
    | zero => simpa [lowAt] using this
    | succ i =>
      simp only [lowAt, List.getElem?_cons_succ] at this ⊢
      have hi : i < r.length := by
        have := (List.getElem?_eq_some_iff.mp e).1
        simp at this
        omega
      rw [List.getElem?_eq_getElem hi] at this ⊢
      exact this
def SqV (H : Hp) (v : V) (vs : List V) : Prop := ∃ a, v = V.ref a ∧ (H a = some (.lst vs) ∨ H a = some (.tup vs))
theorem SqV.ty {H : Hp} {a : Addr} {vs : List V} (h : H a = some (.lst vs) ∨ H a = some (.tup vs)) : ∃ kd, TyN H (.ref a) kd ∧ kd.isSeq = true := by
  rcases h with h | h
  · exact ⟨_, .lst h, rfl⟩
  · exact ⟨_, .tup h, rfl⟩
theorem s_lenq {H : Hp} {a : Addr} {vs : List V} {Q : VK} (h : H a = some (.lst vs) ∨ H a = some (.tup vs)) (q : Q (.int vs.length) H) : uLen K [.ref a] H Q := by
  rcases h with h | h
  · exact s_lenl h q
  · exact s_lent h q
theorem sq_kp {H H2 : Hp} {a : Addr} {vs : List V} (h : H a = some (.lst vs) ∨ H a = some (.tup vs)) (k : Kp [] H H2) : H2 a = some (.lst vs) ∨ H2 a = some (.tup vs) := h.imp k.get0 k.get0
theorem s_tupq {H : Hp} {a : Addr} {vs : List V} {Q : VK} (h : H a = some (.lst vs) ∨ H a = some (.tup vs)) (q : ∀ t H', H' t = some (.tup vs) → Kp [] H H' → Q (.ref t) H') : uTuple K [.ref a] H Q := by
  rcases h with h | h
  · exact s_tuple (SqL.of h) fun t H' _ e k => q t H' e k
  · exact s_tupleT h (q _ _ h Kp.refl)
def sp_good_places : Sp := sp1 fun x H Q _ => ∃ (vs : List V) (pl : Pl), SqV H x vs ∧ Rw H vs (rP pl) ∧ GoodP pl ∧ ∀ t H', H' t = some (.tup vs) → Kp [] H H' → Q (.ref t) H'
set_option maxHeartbeats 16000000 in
theorem ok_good_places (T : Tx K mg) : FnOk P w K mg base (L2.CX P w) 3 T.a_good_places T.d_good_places ["places"] (sp_good_places) := by
  have G_NoPlaces_init := ok_NoPlaces_init (P := P) (w := w) (base := base) T
  have G_is_row := ok_is_row (P := P) (w := w) (base := base) T
  have G_is_name := ok_is_name (P := P) (w := w) (base := base) T
  have G_NoName_init := ok_NoName_init (P := P) (w := w) (base := base) T
  have G_Twice_init := ok_Twice_init (P := P) (w := w) (base := base) T
  have G_is_whole := ok_is_whole (P := P) (w := w) (base := base) T
  have G_NoNumber_init := ok_NoNumber_init (P := P) (w := w) (base := base) T
  refine T.F_good_places.okX sc_good_places (fun vs H Q E h => ?_) (fun cd A o s H vs Q E hr h => ?_)
  · obtain ⟨v0, rfl, h⟩ := h; rfl
  obtain ⟨v0, rfl, h⟩ := h
  obtain ⟨vs, pl, ⟨a, rfl, ha⟩, hR, hG, k⟩ := h
  refine ⟨_, (pss_cons (ps_if (PW.pt (pw_or (pt_not (pt_val (pe_callB (c_isiT (K := K) rfl) rfl T.z_isinstance bt_isinstance (pa_cons (pv 0) (pa_cons (pe_tup (pa_cons (pe_ty rfl T.z_list bt_list) (pa_cons (pe_ty rfl T.z_tuple bt_tuple) pa_nil))) pa_nil))))) (pw_or1 (pt_not (pt_chain o_le o_le (pe_glob rfl T.mc_FEWEST_PLACES T.rc_FEWEST_PLACES) (pe_callB (c_len (K := K) rfl) rfl T.z_len bt_len (pa_cons (pv 0) pa_nil)) (pe_glob rfl T.mc_MOST_PLACES T.rc_MOST_PLACES))))))
    (pss_one (ps_rz rfl T.er_NoPlaces.oex T.er_NoPlaces.iC T.er_NoPlaces.tI G_NoPlaces_init (hr.mono (by decide)) T.B_NoPlaces_init rfl T.m_NoPlaces (takes_of (E := E) rfl rfl rfl rfl) (pv 0)))
    pss_nil)
    (pss_cons (ps_set (i := 1) sc_good_places.nd rfl (Or.inl rfl) (pe_lst pa_nil))
    (pss_cons (ps_for PassesOwn.leaving rfl (pi_seq (K := K) rfl (pv 0)) (pg_name (i := 2) sc_good_places.nd rfl (Or.inl rfl))
    (pss_cons (ps_if (pt_not (pt_val (pe_co G_is_row (hr.mono (by decide)) rfl T.m_is_row T.F_is_row.kp T.B_is_row (takes_of (E := E) rfl rfl rfl rfl) (pa_cons (pv 2) (pa_cons pe_int pa_nil)))))
    (pss_one (ps_rz rfl T.er_NoPlaces.oex T.er_NoPlaces.iC T.er_NoPlaces.tI G_NoPlaces_init (hr.mono (by decide)) T.B_NoPlaces_init rfl T.m_NoPlaces (takes_of (E := E) rfl rfl rfl rfl) (pv 2)))
    pss_nil)
    (pss_cons (ps_if (pt_not (pt_val (pe_co G_is_name (hr.mono (by decide)) rfl T.m_is_name T.F_is_name.kp T.B_is_name (takes_of (E := E) rfl rfl rfl rfl) (pa_cons (pe_ix (ix_u (K := K) rfl) (pv 2) pe_int (fun _ _ => rfl)) pa_nil))))
    (pss_one (ps_rz rfl T.er_NoName.oex T.er_NoName.iC T.er_NoName.tI G_NoName_init (hr.mono (by decide)) T.B_NoName_init rfl T.m_NoName (takes_of (E := E) rfl rfl rfl rfl) (pe_ix (ix_u (K := K) rfl) (pv 2) pe_int (fun _ _ => rfl))))
    pss_nil)
    (pss_cons (ps_if (pt_cmpR (o_in (K := K) rfl) (pe_ix (ix_u (K := K) rfl) (pv 2) pe_int (fun _ _ => rfl)) (pv 1) rfl)
    (pss_one (ps_rz rfl T.er_Twice.oex T.er_Twice.iC T.er_Twice.tI G_Twice_init (hr.mono (by decide)) T.B_Twice_init rfl T.m_Twice (takes_of (E := E) rfl rfl rfl rfl) (pe_ix (ix_u (K := K) rfl) (pv 2) pe_int (fun _ _ => rfl))))
    pss_nil)
    (pss_cons (ps_if (pt_not (pt_val (pe_co G_is_whole (hr.mono (by decide)) rfl T.m_is_whole T.F_is_whole.kp T.B_is_whole (takes_of (E := E) rfl rfl rfl rfl) (pa_cons (pe_ix (ix_u (K := K) rfl) (pv 2) pe_int (fun _ _ => rfl)) (pa_cons pe_int (pa_cons (pe_glob rfl T.mc_MOST_ROADS T.rc_MOST_ROADS) pa_nil))))))
    (pss_one (ps_rz rfl T.er_NoNumber.oex T.er_NoNumber.iC T.er_NoNumber.tI G_NoNumber_init (hr.mono (by decide)) T.B_NoNumber_init rfl T.m_NoNumber (takes_of (E := E) rfl rfl rfl rfl) (pe_ix (ix_u (K := K) rfl) (pv 2) pe_int (fun _ _ => rfl))))
    pss_nil)
    (pss_one (ps_expr (pe_bm PySem.F.plainAttrs_list PySem.F.slot_list_append PySem.F.type_list_append mt_append (pv 1) (pa_cons (pe_ix (ix_u (K := K) rfl) (pv 2) pe_int (fun _ _ => rfl)) pa_nil)))))))))
    (pss_one (ps_ret (pe_callTy (c_tuple (K := K) rfl) rfl T.z_tuple bt_tuple (pa_cons (pv 0) pa_nil))))))), ?_⟩
  rw [st_good_places]
  have hl : vs.length = pl.length := by rw [hR.len]; simp [rP]
  have h2 := hG.l2
  have h6 := hG.l6
  walk_at "u"
  walk_at "na"
  intro t1 H1 f1 e1 k1
  walk_at "u"
  obtain ⟨kd, ty, ts⟩ := SqV.ty (sq_kp ha k1)
  refine s_isSeq ty e1 ?_
  rw [ts]
  walk_at "u"
  refine s_lenq (sq_kp ha k1) ?_
  walk_at "u"
  rw [decide_eq_true (show (2 : Int) ≤ (vs.length : Int) by omega)]
  walk_at "u"
  rw [decide_eq_true (show (vs.length : Int) ≤ 6 by omega)]
  walk_at "u"
  walk_at "na"
  intro l2 H2 f2 e2 k2
  walk_at "u"
  have ha2 := sq_kp (sq_kp ha k1) k2
  refine for_sq ha2 (fun i σ H' => Kp [l2] H2 H' ∧ H' l2 = some (.lst (((pl.take i).map (·.1)).map V.str)) ∧ ∃ u2, σ = [some (.ref a), some (.ref l2), u2]) ⟨Kp.refl, e2, none, rfl⟩ (fun i σ' H' p o e => p.1.get1 e ?_) ?_ ?_
  · rcases ha with e | e <;> walk_at "ne"
  · rintro i x σ H' ex ⟨k3, e3, u2, rfl⟩
    obtain ⟨u, r, rfl, er, eu⟩ := hR.at ex
    obtain ⟨q, eq, rfl⟩ := rP_at er
    have mq := List.mem_of_getElem? eq
    obtain ⟨n1, n2⟩ := hG.nm q mq
    have n3 := hG.rd q mq
    have eu3 : H' u = some (.tup [.str q.1, .int q.2]) := by walk_at "gt"
    walk_at "u"
    refine c_row eu3 rfl ?_
    walk_at "u"
    refine c_name (n2.mono (by omega)) fun H4 k4 => ?_
    rw [n1]
    walk_at "u"
    have nin : ¬ q.1 ∈ (pl.take i).map (·.1) := by
      intro hm
      have nd := hG.nd
      have hi := (List.getElem?_eq_some_iff.mp eq).1
      rw [← List.take_append_drop i pl, List.map_append, List.nodup_append] at nd
      refine nd.2.2 q.1 hm q.1 ?_ rfl
      refine List.mem_map.mpr ⟨q, ?_, rfl⟩
      have : pl.drop i = q :: pl.drop (i + 1) := by
        rw [List.drop_eq_getElem_cons hi]
        rw [List.getElem?_eq_getElem hi] at eq
        rw [Option.some.inj eq]
      rw [this]
      simp
    rw [decide_eq_false nin]
    walk_at "u"
    refine ⟨_, _, _, rfl, 1, 3, .int, rfl, rfl, .int, ?_⟩
    rw [show isWhole (V.int q.2) 1 3 = true by simp [isWhole]; omega]
    walk_at "u"
    refine s_app (by walk_at "g") (zlt (by simp; omega)) fun H5 e5 k5 => ?_
    walk_at "u"
    refine ⟨by walk_at "k", ?_, _, rfl⟩
    rw [take_one eq, List.map_append, List.map_append]
    exact e5
  · rintro σ H' ⟨k3, e3, u2, rfl⟩
    walk_at "u"
    have ha3 : H' a = some (.lst vs) ∨ H' a = some (.tup vs) := by
      rcases ha with e | e
      · exact Or.inl (by walk_at "g")
      · exact Or.inr (by walk_at "g")
    refine s_tupq ha3 fun t H4 e4 k4 => ?_
    walk_at "u"
    exact k t H4 e4 (by walk_at "k")
def sp_is_stretch : Sp := sp1 fun x H Q _ => ∃ (a : Addr) (q : Str × Int), x = .ref a ∧ H a = some (.tup [.str q.1, .int q.2]) ∧ (q.1 = "staff" ∨ q.1 = "ticket") ∧ (q.2 = 0 ∨ q.2 = 1) ∧ ∀ H', Kp [] H H' → Q (.bl true) H'
set_option maxHeartbeats 16000000 in
theorem ok_is_stretch (T : Tx K mg) : FnOk P w K mg base (L2.CX P w) 2 T.a_is_stretch T.d_is_stretch ["thing"] (sp_is_stretch) := by
  have G_is_whole := ok_is_whole (P := P) (w := w) (base := base) T
  have G_is_row := ok_is_row (P := P) (w := w) (base := base) T
  refine T.F_is_stretch.okX sc_is_stretch (fun vs H Q E h => ?_) (fun cd A o s H vs Q E hr h => ?_)
  · obtain ⟨v0, rfl, h⟩ := h; rfl
  obtain ⟨v0, rfl, h⟩ := h
  obtain ⟨a, q, rfl, h, h1, h2, k⟩ := h
  refine ⟨_, (pss_cons (ps_if (PW.pt (pw_or (pt_not (pt_val (pe_co G_is_row (hr.mono (by decide)) rfl T.m_is_row T.F_is_row.kp T.B_is_row (takes_of (E := E) rfl rfl rfl rfl) (pa_cons (pv 0) (pa_cons pe_int pa_nil))))) (pw_or1 (pt_not (pt_val (pe_callB (c_isi (K := K) rfl) rfl T.z_isinstance bt_isinstance (pa_cons (pe_ix (ix_u (K := K) rfl) (pv 0) pe_int (fun _ _ => rfl)) (pa_cons (pe_ty rfl T.z_str bt_str) pa_nil))))))))
    (pss_one (ps_ret pe_bl))
    pss_nil)
    (pss_one (ps_ret (pe_and (pe_cmpR (o_in (K := K) rfl) (pe_ix (ix_u (K := K) rfl) (pv 0) pe_int (fun _ _ => rfl)) (pe_tup (pa_cons pe_str (pa_cons pe_str pa_nil))) rfl) (pe_one (pe_co G_is_whole (hr.mono (by decide)) rfl T.m_is_whole T.F_is_whole.kp T.B_is_whole (takes_of (E := E) rfl rfl rfl rfl) (pa_cons (pe_ix (ix_u (K := K) rfl) (pv 0) pe_int (fun _ _ => rfl)) (pa_cons pe_int (pa_cons pe_int pa_nil))))))))), ?_⟩
  rw [st_is_stretch]
  walk_at "u"
  refine c_row h rfl ?_
  walk_at "u"
  walk_at "na"
  intro t1 H1 f1 e1 k1
  refine s_inT (zs := ["staff", "ticket"]) (SqT.of e1) ?_
  rw [decide_eq_true (by simpa using h1)]
  walk_at "u"
  refine ⟨_, _, _, rfl, 0, 1, .int, rfl, rfl, .int, ?_⟩
  rw [show isWhole (V.int q.2) 0 1 = true by simp [isWhole]; omega]
  walk_at "u"
  exact k _ k1
def sp_good_stretches : Sp := sp2 fun x y H Q _ => ∃ (vs : List V) (st : Pl) (many : Nat), y = .int many ∧ SqV H x vs ∧ Rw H vs (rP st) ∧ GoodS st many ∧ many ≤ 10 ∧ ∀ t H', H' t = some (.tup vs) → Kp [] H H' → Q (.ref t) H'
set_option maxHeartbeats 16000000 in
theorem ok_good_stretches (T : Tx K mg) : FnOk P w K mg base (L2.CX P w) 3 T.a_good_stretches T.d_good_stretches ["stretches", "many"] (sp_good_stretches) := by
  have G_NoStretches_init := ok_NoStretches_init (P := P) (w := w) (base := base) T
  have G_is_stretch := ok_is_stretch (P := P) (w := w) (base := base) T
  refine T.F_good_stretches.okX sc_good_stretches (fun vs H Q E h => ?_) (fun cd A o s H vs Q E hr h => ?_)
  · obtain ⟨v0, v1, rfl, h⟩ := h; rfl
  obtain ⟨v0, v1, rfl, h⟩ := h
  obtain ⟨vs, st, many, rfl, ⟨a, rfl, ha⟩, hR, hG, hm, k⟩ := h
  refine ⟨_, (pss_cons (ps_if (PW.pt (pw_or (pt_not (pt_val (pe_callB (c_isiT (K := K) rfl) rfl T.z_isinstance bt_isinstance (pa_cons (pv 0) (pa_cons (pe_tup (pa_cons (pe_ty rfl T.z_list bt_list) (pa_cons (pe_ty rfl T.z_tuple bt_tuple) pa_nil))) pa_nil))))) (pw_or1 (pt_cmpR (o_ne (K := K) rfl hr) (pe_callB (c_len (K := K) rfl) rfl T.z_len bt_len (pa_cons (pv 0) pa_nil)) (pv 1) (nomark _)))))
    (pss_one (ps_rz rfl T.er_NoStretches.oex T.er_NoStretches.iC T.er_NoStretches.tI G_NoStretches_init (hr.mono (by decide)) T.B_NoStretches_init rfl T.m_NoStretches (takes_of (E := E) rfl rfl rfl rfl) (pv 0)))
    pss_nil)
    (pss_cons (ps_for PassesOwn.leaving rfl (pi_seq (K := K) rfl (pv 0)) (pg_name (i := 2) sc_good_stretches.nd rfl (Or.inl rfl))
    (pss_one (ps_if (pt_not (pt_val (pe_co G_is_stretch (hr.mono (by decide)) rfl T.m_is_stretch T.F_is_stretch.kp T.B_is_stretch (takes_of (E := E) rfl rfl rfl rfl) (pa_cons (pv 2) pa_nil))))
    (pss_one (ps_rz rfl T.er_NoStretches.oex T.er_NoStretches.iC T.er_NoStretches.tI G_NoStretches_init (hr.mono (by decide)) T.B_NoStretches_init rfl T.m_NoStretches (takes_of (E := E) rfl rfl rfl rfl) (pv 2)))
    pss_nil)))
    (pss_one (ps_ret (pe_callTy (c_tuple (K := K) rfl) rfl T.z_tuple bt_tuple (pa_cons (pv 0) pa_nil)))))), ?_⟩
  rw [st_good_stretches]
  have hl : vs.length = st.length := by rw [hR.len]; simp [rP]
  have h2 := hG.ln
  walk_at "u"
  walk_at "na"
  intro t1 H1 f1 e1 k1
  walk_at "u"
  obtain ⟨kd, ty, ts⟩ := SqV.ty (sq_kp ha k1)
  refine s_isSeq ty e1 ?_
  rw [ts]
  walk_at "u"
  refine s_lenq (sq_kp ha k1) ?_
  walk_at "u"
  rw [decide_eq_true (show (vs.length : Int) = (many : Int) by omega)]
  walk_at "u"
  refine for_sq (sq_kp ha k1) (fun i σ H' => Kp [] H1 H' ∧ ∃ u2, σ = [some (.ref a), some (.int many), u2]) ⟨Kp.refl, none, rfl⟩ (fun i σ' H' p o e => p.1.get0 e) ?_ ?_
  · rintro i x σ H' ex ⟨k3, u2, rfl⟩
    obtain ⟨u, r, rfl, er, eu⟩ := hR.at ex
    obtain ⟨q, eq, rfl⟩ := rP_at er
    obtain ⟨n1, n2⟩ := hG.ok q (List.mem_of_getElem? eq)
    walk_at "u"
    refine ⟨_, rfl, u, q, rfl, by walk_at "gt", n1, n2, fun H4 k4 => ?_⟩
    walk_at "u"
    exact ⟨by walk_at "k", _, rfl⟩
  · rintro σ H' ⟨k3, u2, rfl⟩
    walk_at "u"
    refine s_tupq (sq_kp (sq_kp ha k1) k3) fun t H4 e4 k4 => ?_
    walk_at "u"
    exact k t H4 e4 (by walk_at "k")
def sp_is_long : Sp := sp3 fun x y z H Q _ => ∃ (a : Addr) (q : Int × Int × Int) (low high : Int), x = .ref a ∧ y = .int low ∧ z = .int high ∧ H a = some (.tup [.int q.1, .int q.2.1, .int q.2.2]) ∧ low ≤ q.1 ∧ q.1 + 2 ≤ q.2.1 ∧ q.2.1 ≤ high ∧ (q.2.2 = 0 ∨ q.2.2 = 1) ∧ Q (.bl true) H
set_option maxHeartbeats 16000000 in
theorem ok_is_long (T : Tx K mg) : FnOk P w K mg base (L2.CX P w) 2 T.a_is_long T.d_is_long ["thing", "low", "high"] (sp_is_long) := by
  have G_is_whole := ok_is_whole (P := P) (w := w) (base := base) T
  have G_is_row := ok_is_row (P := P) (w := w) (base := base) T
  refine T.F_is_long.okX sc_is_long (fun vs H Q E h => ?_) (fun cd A o s H vs Q E hr h => ?_)
  · obtain ⟨v0, v1, v2, rfl, h⟩ := h; rfl
  obtain ⟨v0, v1, v2, rfl, h⟩ := h
  obtain ⟨a, q, low, high, rfl, rfl, rfl, h, h1, h2, h3, h4, k⟩ := h
  refine ⟨_, (pss_cons (ps_if (PW.pt (pw_or (pt_not (pt_val (pe_co G_is_row (hr.mono (by decide)) rfl T.m_is_row T.F_is_row.kp T.B_is_row (takes_of (E := E) rfl rfl rfl rfl) (pa_cons (pv 0) (pa_cons pe_int pa_nil))))) (pw_or (pt_not (pt_val (pe_co G_is_whole (hr.mono (by decide)) rfl T.m_is_whole T.F_is_whole.kp T.B_is_whole (takes_of (E := E) rfl rfl rfl rfl) (pa_cons (pe_ix (ix_u (K := K) rfl) (pv 0) pe_int (fun _ _ => rfl)) (pa_cons (pv 1) (pa_cons (pv 2) pa_nil)))))) (pw_or1 (pt_not (pt_val (pe_co G_is_whole (hr.mono (by decide)) rfl T.m_is_whole T.F_is_whole.kp T.B_is_whole (takes_of (E := E) rfl rfl rfl rfl) (pa_cons (pe_ix (ix_u (K := K) rfl) (pv 0) pe_int (fun _ _ => rfl)) (pa_cons (pv 1) (pa_cons (pv 2) pa_nil))))))))))
    (pss_one (ps_ret pe_bl))
    pss_nil)
    (pss_one (ps_ret (pe_and (pe_cmpR o_le (pe_op (o_add (K := K) rfl) (pe_ix (ix_u (K := K) rfl) (pv 0) pe_int (fun _ _ => rfl)) pe_int) (pe_ix (ix_u (K := K) rfl) (pv 0) pe_int (fun _ _ => rfl)) (nomark _)) (pe_one (pe_co G_is_whole (hr.mono (by decide)) rfl T.m_is_whole T.F_is_whole.kp T.B_is_whole (takes_of (E := E) rfl rfl rfl rfl) (pa_cons (pe_ix (ix_u (K := K) rfl) (pv 0) pe_int (fun _ _ => rfl)) (pa_cons pe_int (pa_cons pe_int pa_nil))))))))), ?_⟩
  rw [st_is_long]
  walk_at "u"
  refine c_row h rfl ?_
  walk_at "u"
  refine ⟨_, _, _, rfl, _, _, .int, rfl, rfl, .int, ?_⟩
  rw [show isWhole (V.int q.1) low high = true by simp [isWhole]; omega]
  walk_at "u"
  refine ⟨_, _, _, rfl, _, _, .int, rfl, rfl, .int, ?_⟩
  rw [show isWhole (V.int q.2.1) low high = true by simp [isWhole]; omega]
  walk_at "u"
  rw [decide_eq_true h2]
  walk_at "u"
  refine ⟨_, _, _, rfl, 0, 1, .int, rfl, rfl, .int, ?_⟩
  rw [show isWhole (V.int q.2.2) 0 1 = true by simp [isWhole]; omega]
  walk_at "u"
  exact k
def sp_good_longs : Sp := sp2 fun x y H Q _ => ∃ (many : Nat) (lo : Lo), y = .int many ∧ many ≤ 10 ∧ lo.length ≤ 2 ∧ GoodL 0 (many - 1) lo ∧ ((x = .non ∧ lo = []) ∨ ∃ vs, SqV H x vs ∧ Rw H vs (rL lo)) ∧
  ∀ t vs H', H' t = some (.tup vs) → Rw H' vs (rL lo) → Kp [] H H' → Q (.ref t) H'
set_option maxHeartbeats 16000000 in
theorem ok_good_longs (T : Tx K mg) : FnOk P w K mg base (L2.CX P w) 3 T.a_good_longs T.d_good_longs ["longs", "many"] (sp_good_longs) := by
  have G_NoLongs_init := ok_NoLongs_init (P := P) (w := w) (base := base) T
  have G_is_long := ok_is_long (P := P) (w := w) (base := base) T
  refine T.F_good_longs.okX sc_good_longs (fun vs H Q E h => ?_) (fun cd A o s H vs Q E hr h => ?_)
  · obtain ⟨v0, v1, rfl, h⟩ := h; rfl
  obtain ⟨v0, v1, rfl, h⟩ := h
  obtain ⟨many, lo, rfl, hm, hl2, hG, hx, k⟩ := h
  refine ⟨_, (pss_cons (ps_if (pt_cmpR o_is (pv 0) pe_non (nomark _))
    (pss_one (ps_ret (pe_tup pa_nil)))
    pss_nil)
    (pss_cons (ps_if (PW.pt (pw_or (pt_not (pt_val (pe_callB (c_isiT (K := K) rfl) rfl T.z_isinstance bt_isinstance (pa_cons (pv 0) (pa_cons (pe_tup (pa_cons (pe_ty rfl T.z_list bt_list) (pa_cons (pe_ty rfl T.z_tuple bt_tuple) pa_nil))) pa_nil))))) (pw_or1 (pt_cmpR o_gt (pe_callB (c_len (K := K) rfl) rfl T.z_len bt_len (pa_cons (pv 0) pa_nil)) (pe_glob rfl T.mc_MOST_LONGS T.rc_MOST_LONGS) (nomark _)))))
    (pss_one (ps_rz rfl T.er_NoLongs.oex T.er_NoLongs.iC T.er_NoLongs.tI G_NoLongs_init (hr.mono (by decide)) T.B_NoLongs_init rfl T.m_NoLongs (takes_of (E := E) rfl rfl rfl rfl) (pv 0)))
    pss_nil)
    (pss_cons (ps_set (i := 2) sc_good_longs.nd rfl (Or.inl rfl) pe_int)
    (pss_cons (ps_for PassesOwn.leaving rfl (pi_seq (K := K) rfl (pv 0)) (pg_name (i := 3) sc_good_longs.nd rfl (Or.inl rfl))
    (pss_cons (ps_if (pt_not (pt_val (pe_co G_is_long (hr.mono (by decide)) rfl T.m_is_long T.F_is_long.kp T.B_is_long (takes_of (E := E) rfl rfl rfl rfl) (pa_cons (pv 3) (pa_cons (pv 2) (pa_cons (pe_op o_sub (pv 1) pe_int) pa_nil))))))
    (pss_one (ps_rz rfl T.er_NoLongs.oex T.er_NoLongs.iC T.er_NoLongs.tI G_NoLongs_init (hr.mono (by decide)) T.B_NoLongs_init rfl T.m_NoLongs (takes_of (E := E) rfl rfl rfl rfl) (pv 3)))
    pss_nil)
    (pss_one (ps_set (i := 2) sc_good_longs.nd rfl (Or.inl rfl) (pe_ix (ix_u (K := K) rfl) (pv 3) pe_int (fun _ _ => rfl))))))
    (pss_one (ps_ret (pe_callTy (c_tuple (K := K) rfl) rfl T.z_tuple bt_tuple (pa_cons (pv 0) pa_nil)))))))), ?_⟩
  rw [st_good_longs]
  rcases hx with ⟨rfl, rfl⟩ | ⟨vs, ⟨a, rfl, ha⟩, hR⟩
  · walk_at "u"
    walk_at "na"
    intro t1 H1 f1 e1 k1
    walk_at "u"
    exact k t1 [] H1 e1 .nil k1
  have hl : vs.length = lo.length := by rw [hR.len]; simp [rL]
  walk_at "u"
  walk_at "na"
  intro t1 H1 f1 e1 k1
  walk_at "u"
  obtain ⟨kd, ty, ts⟩ := SqV.ty (sq_kp ha k1)
  refine s_isSeq ty e1 ?_
  rw [ts]
  walk_at "u"
  refine s_lenq (sq_kp ha k1) ?_
  walk_at "u"
  rw [decide_eq_false (show ¬ (2 : Int) < (vs.length : Int) by omega)]
  walk_at "u"
  refine for_sq (sq_kp ha k1) (fun i σ H' => Kp [] H1 H' ∧ ∃ u3, σ = [some (.ref a), some (.int many), some (.int (lowAt 0 lo i)), u3]) ⟨Kp.refl, none, rfl⟩ (fun i σ' H' p o e => p.1.get0 e) ?_ ?_
  · rintro i x σ H' ex ⟨k3, u2, rfl⟩
    obtain ⟨u, r, rfl, er, eu⟩ := hR.at ex
    obtain ⟨q, eq, rfl⟩ := rL_at er
    obtain ⟨g1, g2, g3, g4⟩ := hG.at eq
    have eu3 : H' u = some (.tup [.int q.1, .int q.2.1, .int q.2.2]) := by walk_at "gt"
    walk_at "u"
    refine ⟨_, _, _, rfl, u, q, _, _, rfl, rfl, rfl, eu3, g1, g2, g3, g4, ?_⟩
    walk_at "u"
    have e0 : lowAt 0 lo (i + 1) = q.2.1 := by simp [lowAt, eq]
    rw [e0]
    exact ⟨k3, _, rfl⟩
  · rintro σ H' ⟨k3, u2, rfl⟩
    walk_at "u"
    refine s_tupq (sq_kp (sq_kp ha k1) k3) fun t H4 e4 k4 => ?_
    walk_at "u"
    exact k t vs H4 e4 (((hR.kp k1).kp k3).kp k4) (by walk_at "k")
/-- a line, as it is told -/
structure Wo where
  pl : Pl
  st : Pl
  lo : Lo
structure GoodW (w : Wo) : Prop where
  p : GoodP w.pl
  s : GoodS w.st (w.pl.length - 1)
  l : GoodL 0 ((w.pl.length : Int) - 1) w.lo
  l2 : w.lo.length ≤ 2
structure Ln (T : Tx K mg) (H : Hp) (p : Addr) (w : Wo) : Prop where
  ex : ∃ (tp ts tl : Addr) (vp vs vl : List V), At_Line T H p (.ref tp) (.ref ts) (.ref tl) ∧ H tp = some (.tup vp) ∧ H ts = some (.tup vs) ∧ H tl = some (.tup vl) ∧ Rw H vp (rP w.pl) ∧ Rw H vs (rP w.st) ∧ Rw H vl (rL w.lo)
  ok : GoodW w
theorem Ln.kpn {T : Tx K mg} {H H2 : Hp} {p : Addr} {w : Wo} {ps : List Addr} (h : Ln T H p w) (k : Kp ps H H2) (n : p ∉ ps) : Ln T H2 p w := by
  obtain ⟨tp, ts, tl, vp, vs, vl, a, e1, e2, e3, r1, r2, r3⟩ := h.ex
  exact ⟨⟨tp, ts, tl, vp, vs, vl, a.kpn k n, k.tgt e1, k.tgt e2, k.tgt e3, r1.kp k, r2.kp k, r3.kp k⟩, h.ok⟩
theorem Ln.th {T : Tx K mg} {H : Hp} {p : Addr} {w : Wo} (h : Ln T H p w) : Th H p 5 := by
  obtain ⟨tp, ts, tl, vp, vs, vl, a, _⟩ := h.ex
  exact a.th
local macro_rules | `(tactic| walk_at "g2") => `(tactic| ((refine' Ln.kpn ?ugm ?ugk ?ugn); (case ugk => assumption); (case ugm => walk_at "g"); (case ugn => walk_at "n")))
local macro_rules | `(tactic| walk_at "t2") => `(tactic| exact Ln.th (by assumption))
def sp_Line_init (T : Tx K mg) : Sp := sp4 fun x y z u H Q _ => ∃ (p dx : Addr) (w : Wo) (vp vs : List V), x = .ref p ∧ H p = some (.ins T.C_Line dx []) ∧ SqV H y vp ∧ Rw H vp (rP w.pl) ∧ SqV H z vs ∧ Rw H vs (rP w.st) ∧ ((u = .non ∧ w.lo = []) ∨ ∃ vl, SqV H u vl ∧ Rw H vl (rL w.lo)) ∧ GoodW w ∧
  ∀ H', Ln T H' p w → Kp [p] H H' → Q .non H'
set_option maxHeartbeats 16000000 in
theorem ok_Line_init (T : Tx K mg) : FnOk P w K mg base (L2.CX P w) 4 T.a_Line_init T.d_Line_init ["self", "places", "stretches", "longs"] (sp_Line_init T) := by
  have G_good_places := ok_good_places (P := P) (w := w) (base := base) T
  have G_good_stretches := ok_good_stretches (P := P) (w := w) (base := base) T
  have G_good_longs := ok_good_longs (P := P) (w := w) (base := base) T
  refine funN_okX T.F_Line_init sc_Line_init (fun vs H Q E h => ?_) (fun cd A o s H vs Q E hr h => ?_)
  · obtain ⟨v0, v1, v2, v3, rfl, h⟩ := h; rfl
  obtain ⟨v0, v1, v2, v3, rfl, h⟩ := h
  obtain ⟨p, dx, w', vp, vs, rfl, hp, ⟨a1, rfl, h1⟩, R1, ⟨a2, rfl, h2⟩, R2, h3, hG, k⟩ := h
  refine ⟨_, (pss_cons (ps_fd (K := K) rfl (pv 0) (pe_co G_good_places (hr.mono (by decide)) rfl T.m_good_places T.F_good_places.kp T.B_good_places (takes_of (E := E) rfl rfl rfl rfl) (pa_cons (pv 1) pa_nil)) rfl)
    (pss_cons (ps_fd (K := K) rfl (pv 0) (pe_co G_good_stretches (hr.mono (by decide)) rfl T.m_good_stretches T.F_good_stretches.kp T.B_good_stretches (takes_of (E := E) rfl rfl rfl rfl) (pa_cons (pv 2) (pa_cons (pe_op o_sub (pe_callB (c_len (K := K) rfl) rfl T.z_len bt_len (pa_cons (pe_fd (K := K) rfl (pv 0) rfl) pa_nil)) pe_int) pa_nil))) rfl)
    (pss_one (ps_fd (K := K) rfl (pv 0) (pe_co G_good_longs (hr.mono (by decide)) rfl T.m_good_longs T.F_good_longs.kp T.B_good_longs (takes_of (E := E) rfl rfl rfl rfl) (pa_cons (pv 3) (pa_cons (pe_callB (c_len (K := K) rfl) rfl T.z_len bt_len (pa_cons (pe_fd (K := K) rfl (pv 0) rfl) pa_nil)) pa_nil))) rfl)))), ?_⟩
  rw [st_Line_init]
  have lp : vp.length = w'.pl.length := by rw [R1.len]; simp [rP]
  have p2 := hG.p.l2
  have p6 := hG.p.l6
  have ne1 : ∀ {a : Addr} {vs : List V}, H a = some (.lst vs) ∨ H a = some (.tup vs) → a ≠ p := fun h => by
    rcases h with h | h <;> walk_at "ne"
  have n1 := ne1 h1
  have n2 := ne1 h2
  walk_at "u"
  refine ⟨_, rfl, vp, w'.pl, ⟨a1, rfl, h1⟩, R1, hG.p, fun t1 H1 e1 k1 => ?_⟩
  walk_at "u"
  refine i_Line_kept_places (by walk_at "g") fun H2 e2 k2 => ?_
  have g2 : ∀ {o}, H a2 = some o → H2 a2 = some o := fun e => by walk_at "g"
  walk_at "u"
  refine s_fdk e2 T.cl_Line T.na_Line_kept_places rfl ?_
  walk_at "u"
  refine s_lent (by walk_at "gt") ?_
  walk_at "u"
  refine ⟨_, _, rfl, vs, w'.st, vp.length - 1, congrArg V.int (by omega), ⟨a2, rfl, h2.imp g2 g2⟩, (R2.kp k1).kp k2, by rw [lp]; exact hG.s, by omega, fun t3 H3 e3 k3 => ?_⟩
  walk_at "u"
  refine i_Line_kept_stretches (by walk_at "g") fun H4 e4 k4 => ?_
  walk_at "u"
  refine s_fdk e4 T.cl_Line T.na_Line_kept_places rfl ?_
  walk_at "u"
  refine s_lent (by walk_at "gt") ?_
  walk_at "u"
  have h3' : (v3 = .non ∧ w'.lo = []) ∨ ∃ vl, SqV H4 v3 vl ∧ Rw H4 vl (rL w'.lo) := by
    rcases h3 with h3 | ⟨vl, ⟨a3, rfl, h3⟩, R3⟩
    · exact Or.inl h3
    · have n3 := ne1 h3
      have g4 : ∀ {o}, H a3 = some o → H4 a3 = some o := fun e => by walk_at "g"
      exact Or.inr ⟨vl, ⟨a3, rfl, h3.imp g4 g4⟩, (((R3.kp k1).kp k2).kp k3).kp k4⟩
  refine ⟨_, _, rfl, vp.length, w'.lo, rfl, by omega, hG.l2, by rw [lp]; exact hG.l, h3', fun t5 vl H5 e5 R5 k5 => ?_⟩
  walk_at "u"
  refine i_Line_kept_longs (by walk_at "g") fun H6 e6 k6 => ?_
  walk_at "u"
  exact k H6 ⟨⟨t1, t3, t5, vp, vs, vl, ⟨_, e6⟩, by walk_at "gt", by walk_at "gt", by walk_at "gt", (((((R1.kp k1).kp k2).kp k3).kp k4).kp k5).kp k6, (((((R2.kp k1).kp k2).kp k3).kp k4).kp k5).kp k6, R5.kp k6⟩, hG⟩ (by walk_at "k")
theorem c_Line {T : Tx K mg} {H : Hp} {y z u : V} {Q : VK} {E : XK} {w : Wo} {vp vs : List V} (h1 : SqV H y vp) (r1 : Rw H vp (rP w.pl)) (h2 : SqV H z vs) (r2 : Rw H vs (rP w.st)) (h3 : (u = .non ∧ w.lo = []) ∨ ∃ vl, SqV H u vl ∧ Rw H vl (rL w.lo)) (hG : GoodW w)
    (q : ∀ p H', H p = none → Ln T H' p w → Kp [] H H' → Q (.ref p) H') : NewK T.C_Line (sp_Line_init T) E Q [y, z, u] H := fun x dx H1 f e k => by
  have up : ∀ {v vs}, SqV H v vs → SqV H1 v vs := fun ⟨a, e, h⟩ => ⟨a, e, h.imp k.get0 k.get0⟩
  refine ⟨_, _, _, _, rfl, x, dx, w, vp, vs, rfl, e, up h1, r1.kp k, up h2, r2.kp k, h3.imp id fun ⟨vl, a, b⟩ => ⟨vl, up a, b.kp k⟩, hG, fun H2 l2 k2 => ⟨rfl, q x H2 f l2 ((k.nil.trans k2).drop f)⟩⟩
def nms (w : Wo) : List Str := w.pl.map (·.1)
def sp_Line_names (T : Tx K mg) : Sp := sp1 fun x H Q _ => ∃ (p : Addr) (w : Wo), x = .ref p ∧ Ln T H p w ∧ ∀ l H', H l = none → H' l = some (.lst ((nms w).map V.str)) → Kp [] H H' → Q (.ref l) H'
set_option maxHeartbeats 16000000 in
theorem ok_Line_names (T : Tx K mg) : FnOk P w K mg base (L2.CX P w) 1 T.a_Line_names T.d_Line_names ["self"] (sp_Line_names T) := by
  refine T.F_Line_names.okX sc_Line_names (fun vs H Q E h => ?_) (fun cd A o s H vs Q E hr h => ?_)
  · obtain ⟨v0, rfl, h⟩ := h; rfl
  obtain ⟨v0, rfl, h⟩ := h
  obtain ⟨p, w', rfl, hL, k⟩ := h
  refine ⟨_, (pss_one (ps_ret (pe_lc (own := [("name", 1), ("roads", 2)]) rfl sc_Line_names.nd (pi_tpl (K := K) rfl (pe_fd (K := K) rfl (pv 0) rfl)) (blkOk_by (own := [("name", 1), ("roads", 2)]) (N := N_Line_names) (sc := defScope s_Line_names) (by decide +kernel)) (fun _ _ _ _ _ => (pg_tupK (K := K) (n := 2) rfl rfl (pgs_cons (pg_name (i := 1) sc_Line_names.nd rfl (Or.inl rfl)) (pgs_cons (pg_name (i := 2) sc_Line_names.nd rfl (Or.inl rfl)) pgs_nil)))) (fun _ _ _ _ _ => pts_nil) (fun _ _ _ _ _ => (pv 1))))), ?_⟩
  rw [st_Line_names]
  obtain ⟨tp, ts, tl, vp, vs, vl, a, e1, e2, e3, r1, r2, r3⟩ := hL.ex
  have lp : vp.length = w'.pl.length := by rw [r1.len]; simp [rP]
  have p6 := hL.ok.p.l6
  walk_at "u"
  intro D hD
  refine lc_T e1 hD (fun i acc H' => Kp [D] H H' ∧ acc = ((nms w').take i).map V.str) (fun H1 e4 k1 => ⟨by walk_at "k", rfl⟩) (fun i acc H' p xs e => p.1.tgt e) ?_ ?_
  · rintro i x acc H' ex ea ⟨k1, rfl⟩
    obtain ⟨u, r, rfl, er, eu⟩ := r1.at ex
    obtain ⟨q, eq, rfl⟩ := rP_at er
    walk_at "u"
    refine ⟨rfl, ?_⟩
    walk_at "u"
    refine PvD.add ea (by simp [nms]; omega) fun H2 e2 k2 => ⟨by walk_at "k", ?_⟩
    rw [take_one (x := q.1) (by simp [nms, eq]), List.map_append]
    rfl
  · rintro acc H' ea ⟨k1, rfl⟩
    walk_at "u"
    rw [List.take_of_length_le (by simp [nms]; omega)] at ea
    exact k D H' hD ea (k1.drop hD)

/-- what is raised with a thing -/
def ErX (C : Addr) (y : V) (H : Hp) (E : XK) : Prop := ∀ d H', H d = none → H' d = some (.xd [("found", y)]) → Kp [] H H' → E (.ref C) (some d) H'
theorem ErX.kp {C : Addr} {y : V} {H H1 : Hp} {E : XK} (h : ErX C y H E) (k : Kp [] H H1) : ErX C y H1 E := fun d H' f e k' => h d H' (k.dom d f) e (k.trans k')
/-- no place's name -/
def Bad (w : Wo) (y : V) : Prop := ∀ z, y = .str z → z ∉ nms w
theorem ne0 {w : Wo} {z : Str} (h : Bad w (.str z)) {i : Nat} (e : (nms w)[i]? = some z) : False := h z rfl (List.mem_of_getElem? e)
def sp_Line_number_of (T : Tx K mg) : Sp := sp2 fun x y H Q E => ∃ (p : Addr) (w : Wo) (kd : Kd), x = .ref p ∧ Ln T H p w ∧ TyN H y kd ∧ Small y ∧ (∀ (i : Nat) z, y = .str z → (nms w)[i]? = some z → ∀ H', Kp [] H H' → Q (.int i) H') ∧ (Bad w y → ErX T.C_NoPlace y H E)
set_option maxHeartbeats 16000000 in
theorem ok_Line_number_of (T : Tx K mg) : FnOk P w K mg base (L2.CX P w) 3 T.a_Line_number_of T.d_Line_number_of ["self", "name"] (sp_Line_number_of T) := by
  have G_NoPlace_init := ok_NoPlace_init (P := P) (w := w) (base := base) T
  have G_is_name := ok_is_name (P := P) (w := w) (base := base) T
  have G_Line_names := ok_Line_names (P := P) (w := w) (base := base) T
  refine T.F_Line_number_of.okX sc_Line_number_of (fun vs H Q E h => ?_) (fun cd A o s H vs Q E hr h => ?_)
  · obtain ⟨v0, v1, rfl, h⟩ := h; rfl
  obtain ⟨v0, v1, rfl, h⟩ := h
  obtain ⟨p, w', kd, rfl, hL, hy, hs', k, kE⟩ := h
  refine ⟨_, (pss_cons (ps_if (PW.pt (pw_or (pt_not (pt_val (pe_co G_is_name (hr.mono (by decide)) rfl T.m_is_name T.F_is_name.kp T.B_is_name (takes_of (E := E) rfl rfl rfl rfl) (pa_cons (pv 1) pa_nil)))) (pw_or1 (pt_cmpR (o_notin (K := K) rfl) (pv 1) (pe_mo0 T.cl_Line T.M_Line_names G_Line_names (hr.mono (by decide)) T.B_Line_names (takes_of (E := E) rfl rfl rfl rfl) (pv 0)) rfl))))
    (pss_one (ps_rz rfl T.er_NoPlace.oex T.er_NoPlace.iC T.er_NoPlace.tI G_NoPlace_init (hr.mono (by decide)) T.B_NoPlace_init rfl T.m_NoPlace (takes_of (E := E) rfl rfl rfl rfl) (pv 1)))
    pss_nil)
    (pss_one (ps_ret (pe_bm PySem.F.plainAttrs_list PySem.F.slot_list_index PySem.F.type_list_index (mt_ix (K := K) rfl) (pe_mo0 T.cl_Line T.M_Line_names G_Line_names (hr.mono (by decide)) T.B_Line_names (takes_of (E := E) rfl rfl rfl rfl) (pv 0)) (pa_cons (pv 1) pa_nil))))), ?_⟩
  rw [st_Line_number_of]
  obtain ⟨tp, ts, tl, vp, vs, vl, a, _⟩ := hL.ex
  walk_at "u"
  refine ⟨_, rfl, kd, hy, hs', fun H1 k1 => ?_⟩
  cases e : isName v1 with
  | false =>
    walk_at "u"
    refine (kE fun z hz hm => ?_).kp k1
    subst hz
    obtain ⟨q, hq, rfl⟩ := List.mem_map.mp hm
    rw [(hL.ok.p.nm q hq).1] at e
    cases e
  | true =>
    obtain ⟨z, rfl⟩ : ∃ z, v1 = .str z := by
      cases v1 <;> simp [isName] at e
      exact ⟨_, rfl⟩
    walk_at "u"
    refine ⟨_, rfl, p, w', rfl, by walk_at "g", fun l H2 f2 e2 k2 => ?_⟩
    walk_at "u"
    by_cases mz : z ∈ nms w'
    · rw [decide_eq_true mz]
      walk_at "u"
      refine ⟨_, rfl, p, w', rfl, by walk_at "g", fun l3 H3 f3 e3 k3 => ?_⟩
      walk_at "u"
      obtain ⟨i, ez⟩ := List.getElem?_of_mem mz
      refine s_indexS (SqL.of e3) ez hL.ok.p.nd ?_
      walk_at "u"
      exact k i z rfl ez _ (by walk_at "k")
    · rw [decide_eq_false mz]
      walk_at "u"
      exact (kE fun z' hz hm => by cases hz; exact mz hm).kp (k1.trans k2)
theorem nms_ss {w : Wo} (h : GoodW w) {z : Str} (hm : z ∈ nms w) : isName (.str z) = true ∧ SS z 20 := by
  obtain ⟨q, hq, rfl⟩ := List.mem_map.mp hm
  exact h.p.nm q hq
theorem nms_inj {w : Wo} (h : GoodW w) {i j : Nat} {z : Str} (e : (nms w)[i]? = some z) (e' : (nms w)[j]? = some z) : i = j := (List.getElem?_inj (List.getElem?_eq_some_iff.mp e).1 h.p.nd).mp (e.trans e'.symm)
theorem sm_ss {w : Wo} (h : GoodW w) {i : Nat} {z : Str} (e : (nms w)[i]? = some z) : Small (.str z) := (nms_ss h (List.mem_of_getElem? e)).2.mono (by omega)
theorem c_number_of {T : Tx K mg} {H : Hp} {p : Addr} {w : Wo} {i : Nat} {z : Str} {Q : VK} {E : XK} (h : Ln T H p w) (e : (nms w)[i]? = some z) (q : ∀ H', Kp [] H H' → Q (.int i) H') : sp_Line_number_of T [.ref p, .str z] H Q E :=
  ⟨_, _, rfl, p, w, .str, rfl, h, .str, sm_ss h.ok e, fun j z' ez ej => by cases ez; cases nms_inj h.ok e ej; exact q, fun b => (ne0 b e).elim⟩
theorem s_slt {H : Hp} {p : Addr} {xs : List V} {lo hi : Option Int} {Q : VK} (h : H p = some (.tup xs)) (q : ∀ p' H', H' p' = some (.tup (cutV xs lo hi)) → Kp [] H H' → Q (.ref p') H') : uSl K (.ref p) lo hi H Q := by
  refine Or.inr (Or.inr ⟨p, xs, rfl, SqT.of h, fun e => ?_, fun _ => new_abs (R := fun l H' => Q (.ref l) H') fun p' H' _ e k => q p' H' e k⟩)
  have : cutV xs lo hi = xs := by
    unfold cutV
    rw [e.1, e.2]
    simp
  exact q p H (by rw [this]; exact h) Kp.refl
theorem rw_get {H : Hp} {vs : List V} {rs : List (List V)} {i : Nat} {r : List V} (h : Rw H vs rs) (e : rs[i]? = some r) : ∃ u, vs[i]? = some (.ref u) ∧ H u = some (.tup r) := by
  have hi : i < vs.length := by rw [h.len]; exact (List.getElem?_eq_some_iff.mp e).1
  obtain ⟨u, r', ex, er, eu⟩ := h.at (List.getElem?_eq_getElem hi)
  rw [e] at er
  cases er
  exact ⟨u, by rw [List.getElem?_eq_getElem hi, ex], eu⟩
theorem s_ixr {H : Hp} {p : Addr} {vs : List V} {rs : List (List V)} {i : Nat} {n : Int} {r : List V} {Q : VK} (h : H p = some (.tup vs)) (R : Rw H vs rs) (en : n = (i : Int)) (e : rs[i]? = some r) (q : ∀ u, H u = some (.tup r) → Q (.ref u) H) : rIx K (.ref p) (.int n) H Q := by
  obtain ⟨u, e1, e2⟩ := rw_get R e
  subst en
  exact s_ixt h (at_nat e1) (q u e2)
theorem rP_of {pl : Pl} {i : Nat} {q : Str × Int} (h : pl[i]? = some q) : (rP pl)[i]? = some [.str q.1, .int q.2] := by simp [rP, h]
theorem rL_of {lo : Lo} {i : Nat} {q : Int × Int × Int} (h : lo[i]? = some q) : (rL lo)[i]? = some [.int q.1, .int q.2.1, .int q.2.2] := by simp [rL, h]
theorem nms_at {w : Wo} {i : Nat} {z : Str} (h : (nms w)[i]? = some z) : ∃ q, w.pl[i]? = some q ∧ q.1 = z := by
  unfold nms at h
  rw [List.getElem?_map] at h
  exact Option.map_eq_some_iff.mp h
def sp_Line_roads (T : Tx K mg) : Sp := sp2 fun x y H Q E => ∃ (p : Addr) (w : Wo) (kd : Kd), x = .ref p ∧ Ln T H p w ∧ TyN H y kd ∧ Small y ∧ (∀ (i : Nat) q, y = .str q.1 → w.pl[i]? = some q → ∀ H', Kp [] H H' → Q (.int q.2) H') ∧ (Bad w y → ErX T.C_NoPlace y H E)
set_option maxHeartbeats 16000000 in
theorem ok_Line_roads (T : Tx K mg) : FnOk P w K mg base (L2.CX P w) 4 T.a_Line_roads T.d_Line_roads ["self", "name"] (sp_Line_roads T) := by
  have G_Line_number_of := ok_Line_number_of (P := P) (w := w) (base := base) T
  refine T.F_Line_roads.okX sc_Line_roads (fun vs H Q E h => ?_) (fun cd A o s H vs Q E hr h => ?_)
  · obtain ⟨v0, v1, rfl, h⟩ := h; rfl
  obtain ⟨v0, v1, rfl, h⟩ := h
  obtain ⟨p, w', kd, rfl, hL, hy, hs', k, kE⟩ := h
  refine ⟨_, (pss_one (ps_ret (pe_ix (ix_u (K := K) rfl) (pe_ix (ix_u (K := K) rfl) (pe_fd (K := K) rfl (pv 0) rfl) (pe_mo T.cl_Line T.M_Line_number_of G_Line_number_of (hr.mono (by decide)) T.B_Line_number_of (takes_of (E := E) rfl rfl rfl rfl) (pv 0) (pa_cons (pv 1) pa_nil)) (fun _ _ => rfl)) pe_int (fun _ _ => rfl)))), ?_⟩
  rw [st_Line_roads]
  obtain ⟨tp, ts, tl, vp, vs, vl, a, e1, e2, e3, r1, r2, r3⟩ := hL.ex
  walk_at "u"
  refine ⟨_, _, rfl, p, w', kd, rfl, hL, hy, hs', fun i z ez eq H1 k1 => ?_, kE⟩
  obtain ⟨q, eqq, rfl⟩ := nms_at eq
  refine s_ixr (i := i) (by walk_at "gt") (r1.kp k1) rfl (rP_of eqq) fun u eu => ?_
  walk_at "u"
  exact k i q ez eqq _ k1
theorem c_roads {T : Tx K mg} {H : Hp} {p : Addr} {w : Wo} {i : Nat} {q : Str × Int} {Q : VK} {E : XK} (h : Ln T H p w) (e : w.pl[i]? = some q) (k : ∀ H', Kp [] H H' → Q (.int q.2) H') : sp_Line_roads T [.ref p, .str q.1] H Q E := by
  have e0 : (nms w)[i]? = some q.1 := by simp [nms, e]
  refine ⟨_, _, rfl, p, w, .str, rfl, h, .str, sm_ss h.ok e0, fun j q' ez ej => ?_, fun b => (ne0 b e0).elim⟩
  have e1 : q'.1 = q.1 := by injection ez with ez; exact ez.symm
  have : j = i := nms_inj h.ok (z := q.1) (by simp [nms, ej, e1]) e0
  subst this
  rw [e] at ej
  cases ej
  exact k
def sp_Line_many_stretches (T : Tx K mg) : Sp := sp1 fun x H Q _ => ∃ (p : Addr) (w : Wo), x = .ref p ∧ Ln T H p w ∧ Q (.int w.st.length) H
set_option maxHeartbeats 16000000 in
theorem ok_Line_many_stretches (T : Tx K mg) : FnOk P w K mg base (L2.CX P w) 1 T.a_Line_many_stretches T.d_Line_many_stretches ["self"] (sp_Line_many_stretches T) := by
  refine T.F_Line_many_stretches.okX sc_Line_many_stretches (fun vs H Q E h => ?_) (fun cd A o s H vs Q E hr h => ?_)
  · obtain ⟨v0, rfl, h⟩ := h; rfl
  obtain ⟨v0, rfl, h⟩ := h
  obtain ⟨p, w', rfl, hL, k⟩ := h
  refine ⟨_, (pss_one (ps_ret (pe_callB (c_len (K := K) rfl) rfl T.z_len bt_len (pa_cons (pe_fd (K := K) rfl (pv 0) rfl) pa_nil)))), ?_⟩
  rw [st_Line_many_stretches]
  obtain ⟨tp, ts, tl, vp, vs, vl, a, e1, e2, e3, r1, r2, r3⟩ := hL.ex
  walk_at "u"
  refine s_lent e2 ?_
  rw [r2.len, rP, List.length_map]
  exact k
def sp_Line_many_longs (T : Tx K mg) : Sp := sp1 fun x H Q _ => ∃ (p : Addr) (w : Wo), x = .ref p ∧ Ln T H p w ∧ Q (.int w.lo.length) H
set_option maxHeartbeats 16000000 in
theorem ok_Line_many_longs (T : Tx K mg) : FnOk P w K mg base (L2.CX P w) 1 T.a_Line_many_longs T.d_Line_many_longs ["self"] (sp_Line_many_longs T) := by
  refine T.F_Line_many_longs.okX sc_Line_many_longs (fun vs H Q E h => ?_) (fun cd A o s H vs Q E hr h => ?_)
  · obtain ⟨v0, rfl, h⟩ := h; rfl
  obtain ⟨v0, rfl, h⟩ := h
  obtain ⟨p, w', rfl, hL, k⟩ := h
  refine ⟨_, (pss_one (ps_ret (pe_callB (c_len (K := K) rfl) rfl T.z_len bt_len (pa_cons (pe_fd (K := K) rfl (pv 0) rfl) pa_nil)))), ?_⟩
  rw [st_Line_many_longs]
  obtain ⟨tp, ts, tl, vp, vs, vl, a, e1, e2, e3, r1, r2, r3⟩ := hL.ex
  walk_at "u"
  refine s_lent e3 ?_
  rw [r3.len, rL, List.length_map]
  exact k
def sp_Line_need_stretch (T : Tx K mg) : Sp := sp2 fun x y H Q E => ∃ (p : Addr) (w : Wo) (kd : Kd), x = .ref p ∧ Ln T H p w ∧ TyN H y kd ∧ (isWhole y 0 ((w.st.length : Int) - 1) = true → Q .non H) ∧
  (isWhole y 0 ((w.st.length : Int) - 1) = false → ∀ d H', H d = none → H' d = some (.xd [("found", y)]) → Kp [] H H' → E (.ref T.C_NoStretch) (some d) H')
set_option maxHeartbeats 16000000 in
theorem ok_Line_need_stretch (T : Tx K mg) : FnOk P w K mg base (L2.CX P w) 3 T.a_Line_need_stretch T.d_Line_need_stretch ["self", "k"] (sp_Line_need_stretch T) := by
  have G_is_whole := ok_is_whole (P := P) (w := w) (base := base) T
  have G_NoStretch_init := ok_NoStretch_init (P := P) (w := w) (base := base) T
  refine T.F_Line_need_stretch.okX sc_Line_need_stretch (fun vs H Q E h => ?_) (fun cd A o s H vs Q E hr h => ?_)
  · obtain ⟨v0, v1, rfl, h⟩ := h; rfl
  obtain ⟨v0, v1, rfl, h⟩ := h
  obtain ⟨p, w', kd, rfl, hL, hy, k1, k2⟩ := h
  refine ⟨_, (pss_one (ps_if (pt_not (pt_val (pe_co G_is_whole (hr.mono (by decide)) rfl T.m_is_whole T.F_is_whole.kp T.B_is_whole (takes_of (E := E) rfl rfl rfl rfl) (pa_cons (pv 1) (pa_cons pe_int (pa_cons (pe_op o_sub (pe_callB (c_len (K := K) rfl) rfl T.z_len bt_len (pa_cons (pe_fd (K := K) rfl (pv 0) rfl) pa_nil)) pe_int) pa_nil))))))
    (pss_one (ps_rz rfl T.er_NoStretch.oex T.er_NoStretch.iC T.er_NoStretch.tI G_NoStretch_init (hr.mono (by decide)) T.B_NoStretch_init rfl T.m_NoStretch (takes_of (E := E) rfl rfl rfl rfl) (pv 1)))
    pss_nil)), ?_⟩
  rw [st_Line_need_stretch]
  obtain ⟨tp, ts, tl, vp, vs, vl, a, e1, e2, e3, r1, r2, r3⟩ := hL.ex
  walk_at "u"
  refine s_lent e2 ?_
  rw [r2.len, rP, List.length_map]
  walk_at "u"
  refine ⟨_, _, _, rfl, 0, _, kd, rfl, rfl, hy, ?_⟩
  cases e : isWhole v1 0 ((w'.st.length : Int) - 1) with
  | true =>
    walk_at "u"
    exact k1 e
  | false =>
    walk_at "u"
    exact fun d H' => k2 e d H'
def sp_Line_need_long (T : Tx K mg) : Sp := sp2 fun x y H Q E => ∃ (p : Addr) (w : Wo) (kd : Kd), x = .ref p ∧ Ln T H p w ∧ TyN H y kd ∧ (isWhole y 0 ((w.lo.length : Int) - 1) = true → Q .non H) ∧
  (isWhole y 0 ((w.lo.length : Int) - 1) = false → ∀ d H', H d = none → H' d = some (.xd [("found", y)]) → Kp [] H H' → E (.ref T.C_NoLong) (some d) H')
set_option maxHeartbeats 16000000 in
theorem ok_Line_need_long (T : Tx K mg) : FnOk P w K mg base (L2.CX P w) 3 T.a_Line_need_long T.d_Line_need_long ["self", "j"] (sp_Line_need_long T) := by
  have G_is_whole := ok_is_whole (P := P) (w := w) (base := base) T
  have G_NoLong_init := ok_NoLong_init (P := P) (w := w) (base := base) T
  refine T.F_Line_need_long.okX sc_Line_need_long (fun vs H Q E h => ?_) (fun cd A o s H vs Q E hr h => ?_)
  · obtain ⟨v0, v1, rfl, h⟩ := h; rfl
  obtain ⟨v0, v1, rfl, h⟩ := h
  obtain ⟨p, w', kd, rfl, hL, hy, k1, k2⟩ := h
  refine ⟨_, (pss_one (ps_if (pt_not (pt_val (pe_co G_is_whole (hr.mono (by decide)) rfl T.m_is_whole T.F_is_whole.kp T.B_is_whole (takes_of (E := E) rfl rfl rfl rfl) (pa_cons (pv 1) (pa_cons pe_int (pa_cons (pe_op o_sub (pe_callB (c_len (K := K) rfl) rfl T.z_len bt_len (pa_cons (pe_fd (K := K) rfl (pv 0) rfl) pa_nil)) pe_int) pa_nil))))))
    (pss_one (ps_rz rfl T.er_NoLong.oex T.er_NoLong.iC T.er_NoLong.tI G_NoLong_init (hr.mono (by decide)) T.B_NoLong_init rfl T.m_NoLong (takes_of (E := E) rfl rfl rfl rfl) (pv 1)))
    pss_nil)), ?_⟩
  rw [st_Line_need_long]
  obtain ⟨tp, ts, tl, vp, vs, vl, a, e1, e2, e3, r1, r2, r3⟩ := hL.ex
  walk_at "u"
  refine s_lent e3 ?_
  rw [r3.len, rL, List.length_map]
  walk_at "u"
  refine ⟨_, _, _, rfl, 0, _, kd, rfl, rfl, hy, ?_⟩
  cases e : isWhole v1 0 ((w'.lo.length : Int) - 1) with
  | true =>
    walk_at "u"
    exact k1 e
  | false =>
    walk_at "u"
    exact fun d H' => k2 e d H'
theorem c_need_stretch {T : Tx K mg} {H : Hp} {p : Addr} {w : Wo} {i : Nat} {Q : VK} {E : XK} (h : Ln T H p w) (hi : i < w.st.length) (q : Q .non H) : sp_Line_need_stretch T [.ref p, .int (i : Nat)] H Q E :=
  ⟨_, _, rfl, p, w, .int, rfl, h, .int, fun _ => q, fun z => by simp [isWhole] at z; omega⟩
theorem c_need_long {T : Tx K mg} {H : Hp} {p : Addr} {w : Wo} {i : Nat} {Q : VK} {E : XK} (h : Ln T H p w) (hi : i < w.lo.length) (q : Q .non H) : sp_Line_need_long T [.ref p, .int (i : Nat)] H Q E :=
  ⟨_, _, rfl, p, w, .int, rfl, h, .int, fun _ => q, fun z => by simp [isWhole] at z; omega⟩
def nmA (w : Wo) (i : Nat) : Str := (nms w).getD i ""
theorem nmA_at {w : Wo} {i : Nat} (h : i < w.pl.length) : ∃ q, w.pl[i]? = some q ∧ q.1 = nmA w i := by
  refine ⟨w.pl[i], List.getElem?_eq_getElem h, ?_⟩
  unfold nmA nms
  rw [List.getD_eq_getElem?_getD, List.getElem?_map, List.getElem?_eq_getElem h]
  rfl
theorem Ln.lens {T : Tx K mg} {H : Hp} {p : Addr} {w : Wo} (h : Ln T H p w) : w.st.length = w.pl.length - 1 ∧ 2 ≤ w.pl.length ∧ w.pl.length ≤ 6 := ⟨h.ok.s.ln, h.ok.p.l2, h.ok.p.l6⟩
theorem whole_nat {y : V} {n : Nat} (h : isWhole y 0 ((n : Int) - 1) = true) : ∃ i : Nat, y = .int i ∧ i < n := by
  obtain ⟨m, rfl, h0, h1⟩ := whole_int h
  exact ⟨m.toNat, congrArg V.int (by omega), by omega⟩
def sp_Line_ends (T : Tx K mg) : Sp := sp2 fun x y H Q E => ∃ (p : Addr) (w : Wo) (kd : Kd), x = .ref p ∧ Ln T H p w ∧ TyN H y kd ∧ (∀ i : Nat, y = .int (i : Nat) → i < w.st.length → ∀ t H', H t = none → H' t = some (.tup [.str (nmA w i), .str (nmA w (i + 1))]) → Kp [] H H' → Q (.ref t) H') ∧ (isWhole y 0 ((w.st.length : Int) - 1) = false → ErX T.C_NoStretch y H E)
set_option maxHeartbeats 16000000 in
theorem ok_Line_ends (T : Tx K mg) : FnOk P w K mg base (L2.CX P w) 4 T.a_Line_ends T.d_Line_ends ["self", "k"] (sp_Line_ends T) := by
  have G_Line_need_stretch := ok_Line_need_stretch (P := P) (w := w) (base := base) T
  refine T.F_Line_ends.okX sc_Line_ends (fun vs H Q E h => ?_) (fun cd A o s H vs Q E hr h => ?_)
  · obtain ⟨v0, v1, rfl, h⟩ := h; rfl
  obtain ⟨v0, v1, rfl, h⟩ := h
  obtain ⟨p, w', kd, rfl, hL, hy, k, kE⟩ := h
  refine ⟨_, (pss_cons (ps_expr (pe_mo T.cl_Line T.M_Line_need_stretch G_Line_need_stretch (hr.mono (by decide)) T.B_Line_need_stretch (takes_of (E := E) rfl rfl rfl rfl) (pv 0) (pa_cons (pv 1) pa_nil)))
    (pss_one (ps_ret (pe_tup (pa_cons (pe_ix (ix_u (K := K) rfl) (pe_ix (ix_u (K := K) rfl) (pe_fd (K := K) rfl (pv 0) rfl) (pv 1) (fun _ _ => rfl)) pe_int (fun _ _ => rfl)) (pa_cons (pe_ix (ix_u (K := K) rfl) (pe_ix (ix_u (K := K) rfl) (pe_fd (K := K) rfl (pv 0) rfl) (pe_op (o_add (K := K) rfl) (pv 1) pe_int) (fun _ _ => rfl)) pe_int (fun _ _ => rfl)) pa_nil)))))), ?_⟩
  rw [st_Line_ends]
  obtain ⟨tp, ts, tl, vp, vs, vl, a, e1, e2, e3, r1, r2, r3⟩ := hL.ex
  obtain ⟨ls, l2, l6⟩ := hL.lens
  walk_at "u"
  refine ⟨_, _, rfl, p, w', kd, rfl, hL, hy, fun e => ?_, kE⟩
  obtain ⟨i, rfl, hi⟩ := whole_nat e
  obtain ⟨q1, eq1, n1⟩ := nmA_at (w := w') (i := i) (by omega)
  obtain ⟨q2, eq2, n2⟩ := nmA_at (w := w') (i := i + 1) (by omega)
  walk_at "u"
  refine s_ixr (i := i) e1 r1 rfl (rP_of eq1) fun u eu => ?_
  walk_at "u"
  refine s_ixr (i := i + 1) e1 r1 (by omega) (rP_of eq2) fun u' eu' => ?_
  walk_at "u"
  walk_at "na"
  intro t H1 f1 e1' k1
  walk_at "u"
  exact k i rfl hi t H1 f1 (by rw [← n1, ← n2]; exact e1') k1
theorem nw {i n : Nat} (h : i < n) : isWhole (.int (i : Nat)) 0 ((n : Int) - 1) = false → False := fun z => by simp [isWhole] at z; omega
theorem c_ends {T : Tx K mg} {H : Hp} {p : Addr} {w : Wo} {i : Nat} {Q : VK} {E : XK} (h : Ln T H p w) (hi : i < w.st.length) (k : ∀ t H', H t = none → H' t = some (.tup [.str (nmA w i), .str (nmA w (i + 1))]) → Kp [] H H' → Q (.ref t) H') : sp_Line_ends T [.ref p, .int (i : Nat)] H Q E :=
  ⟨_, _, rfl, p, w, .int, rfl, h, .int, fun j ej hj => by cases ej; exact k, fun z => (nw hi z).elim⟩
def sp_Line_kind (T : Tx K mg) : Sp := sp2 fun x y H Q E => ∃ (p : Addr) (w : Wo) (kd : Kd), x = .ref p ∧ Ln T H p w ∧ TyN H y kd ∧ (∀ (i : Nat) q, y = .int (i : Nat) → w.st[i]? = some q → Q (.str q.1) H) ∧ (isWhole y 0 ((w.st.length : Int) - 1) = false → ErX T.C_NoStretch y H E)
set_option maxHeartbeats 16000000 in
theorem ok_Line_kind (T : Tx K mg) : FnOk P w K mg base (L2.CX P w) 4 T.a_Line_kind T.d_Line_kind ["self", "k"] (sp_Line_kind T) := by
  have G_Line_need_stretch := ok_Line_need_stretch (P := P) (w := w) (base := base) T
  refine T.F_Line_kind.okX sc_Line_kind (fun vs H Q E h => ?_) (fun cd A o s H vs Q E hr h => ?_)
  · obtain ⟨v0, v1, rfl, h⟩ := h; rfl
  obtain ⟨v0, v1, rfl, h⟩ := h
  obtain ⟨p, w', kd, rfl, hL, hy, k, kE⟩ := h
  refine ⟨_, (pss_cons (ps_expr (pe_mo T.cl_Line T.M_Line_need_stretch G_Line_need_stretch (hr.mono (by decide)) T.B_Line_need_stretch (takes_of (E := E) rfl rfl rfl rfl) (pv 0) (pa_cons (pv 1) pa_nil)))
    (pss_one (ps_ret (pe_ix (ix_u (K := K) rfl) (pe_ix (ix_u (K := K) rfl) (pe_fd (K := K) rfl (pv 0) rfl) (pv 1) (fun _ _ => rfl)) pe_int (fun _ _ => rfl))))), ?_⟩
  rw [st_Line_kind]
  obtain ⟨tp, ts, tl, vp, vs, vl, a, e1, e2, e3, r1, r2, r3⟩ := hL.ex
  walk_at "u"
  refine ⟨_, _, rfl, p, w', kd, rfl, hL, hy, fun e => ?_, kE⟩
  obtain ⟨i, rfl, hi⟩ := whole_nat e
  have eq := List.getElem?_eq_getElem hi
  walk_at "u"
  refine s_ixr (i := i) e2 r2 rfl (rP_of eq) fun u eu => ?_
  walk_at "u"
  exact k i _ rfl eq
theorem c_kind {T : Tx K mg} {H : Hp} {p : Addr} {w : Wo} {i : Nat} {q : Str × Int} {Q : VK} {E : XK} (h : Ln T H p w) (e : w.st[i]? = some q) (k : Q (.str q.1) H) : sp_Line_kind T [.ref p, .int (i : Nat)] H Q E :=
  ⟨_, _, rfl, p, w, .int, rfl, h, .int, fun j q' ej hj => by cases ej; rw [e] at hj; cases hj; exact k, fun z => (nw (List.getElem?_eq_some_iff.mp e).1 z).elim⟩
def sp_Line_home (T : Tx K mg) : Sp := sp2 fun x y H Q E => ∃ (p : Addr) (w : Wo) (kd : Kd), x = .ref p ∧ Ln T H p w ∧ TyN H y kd ∧ (∀ (i : Nat) q, y = .int (i : Nat) → w.st[i]? = some q → ∀ H', Kp [] H H' → Q (.str (nmA w (i + q.2.toNat))) H') ∧ (isWhole y 0 ((w.st.length : Int) - 1) = false → ErX T.C_NoStretch y H E)
set_option maxHeartbeats 16000000 in
theorem ok_Line_home (T : Tx K mg) : FnOk P w K mg base (L2.CX P w) 5 T.a_Line_home T.d_Line_home ["self", "k"] (sp_Line_home T) := by
  have G_Line_ends := ok_Line_ends (P := P) (w := w) (base := base) T
  refine T.F_Line_home.okX sc_Line_home (fun vs H Q E h => ?_) (fun cd A o s H vs Q E hr h => ?_)
  · obtain ⟨v0, v1, rfl, h⟩ := h; rfl
  obtain ⟨v0, v1, rfl, h⟩ := h
  obtain ⟨p, w', kd, rfl, hL, hy, k, kE⟩ := h
  refine ⟨_, (pss_one (ps_ret (pe_ix (ix_u (K := K) rfl) (pe_mo T.cl_Line T.M_Line_ends G_Line_ends (hr.mono (by decide)) T.B_Line_ends (takes_of (E := E) rfl rfl rfl rfl) (pv 0) (pa_cons (pv 1) pa_nil)) (pe_ix (ix_u (K := K) rfl) (pe_ix (ix_u (K := K) rfl) (pe_fd (K := K) rfl (pv 0) rfl) (pv 1) (fun _ _ => rfl)) pe_int (fun _ _ => rfl)) (fun _ _ => rfl)))), ?_⟩
  rw [st_Line_home]
  obtain ⟨tp, ts, tl, vp, vs, vl, a, e1, e2, e3, r1, r2, r3⟩ := hL.ex
  walk_at "u"
  refine ⟨_, _, rfl, p, w', kd, rfl, hL, hy, fun i ei hi t H1 f1 et k1 => ?_, kE⟩
  subst ei
  have eq := List.getElem?_eq_getElem hi
  have hq := (hL.ok.s.ok _ (List.mem_of_getElem? eq)).2
  walk_at "u"
  refine s_ixr (i := i) (by walk_at "gt") (r2.kp k1) rfl (rP_of eq) fun u eu => ?_
  walk_at "u"
  have z := k i _ rfl eq H1 k1
  rcases hq with hq | hq <;> (rw [hq] at z ⊢; exact s_ixt et rfl z)
theorem c_home {T : Tx K mg} {H : Hp} {p : Addr} {w : Wo} {i : Nat} {q : Str × Int} {Q : VK} {E : XK} (h : Ln T H p w) (e : w.st[i]? = some q) (k : ∀ H', Kp [] H H' → Q (.str (nmA w (i + q.2.toNat))) H') : sp_Line_home T [.ref p, .int (i : Nat)] H Q E :=
  ⟨_, _, rfl, p, w, .int, rfl, h, .int, fun j q' ej hj => by cases ej; rw [e] at hj; cases hj; exact k, fun z => (nw (List.getElem?_eq_some_iff.mp e).1 z).elim⟩
theorem low0 {lo : Lo} {high : Int} (h : GoodL 0 high lo) : ∀ (i : Nat) q, lo[i]? = some q → 0 ≤ lowAt 0 lo i ∧ 0 ≤ q.1 ∧ q.1 + 2 ≤ q.2.1 ∧ q.2.1 ≤ high ∧ (q.2.2 = 0 ∨ q.2.2 = 1)
  | 0, q, e => by
    have := h.at e
    simp only [lowAt] at this ⊢
    omega
  | i + 1, q, e => by
    have := h.at e
    have hi : i < lo.length := by
      have := (List.getElem?_eq_some_iff.mp e).1
      omega
    have p := low0 h i lo[i] (List.getElem?_eq_getElem hi)
    simp only [lowAt, List.getElem?_eq_getElem hi] at this ⊢
    omega
def sp_Line_long_ends (T : Tx K mg) : Sp := sp2 fun x y H Q E => ∃ (p : Addr) (w : Wo) (kd : Kd), x = .ref p ∧ Ln T H p w ∧ TyN H y kd ∧ (∀ (j : Nat) q, y = .int (j : Nat) → w.lo[j]? = some q → ∀ t H', H t = none → H' t = some (.tup [.str (nmA w q.1.toNat), .str (nmA w q.2.1.toNat)]) → Kp [] H H' → Q (.ref t) H') ∧ (isWhole y 0 ((w.lo.length : Int) - 1) = false → ErX T.C_NoLong y H E)
set_option maxHeartbeats 16000000 in
theorem ok_Line_long_ends (T : Tx K mg) : FnOk P w K mg base (L2.CX P w) 4 T.a_Line_long_ends T.d_Line_long_ends ["self", "j"] (sp_Line_long_ends T) := by
  have G_Line_need_long := ok_Line_need_long (P := P) (w := w) (base := base) T
  refine T.F_Line_long_ends.okX sc_Line_long_ends (fun vs H Q E h => ?_) (fun cd A o s H vs Q E hr h => ?_)
  · obtain ⟨v0, v1, rfl, h⟩ := h; rfl
  obtain ⟨v0, v1, rfl, h⟩ := h
  obtain ⟨p, w', kd, rfl, hL, hy, k, kE⟩ := h
  refine ⟨_, (pss_cons (ps_expr (pe_mo T.cl_Line T.M_Line_need_long G_Line_need_long (hr.mono (by decide)) T.B_Line_need_long (takes_of (E := E) rfl rfl rfl rfl) (pv 0) (pa_cons (pv 1) pa_nil)))
    (pss_cons (ps_asg (pe_ix (ix_u (K := K) rfl) (pe_fd (K := K) rfl (pv 0) rfl) (pv 1) (fun _ _ => rfl)) (pg_tupK (K := K) (n := 3) rfl rfl (pgs_cons (pg_name (i := 2) sc_Line_long_ends.nd rfl (Or.inl rfl)) (pgs_cons (pg_name (i := 3) sc_Line_long_ends.nd rfl (Or.inl rfl)) (pgs_cons (pg_name (i := 4) sc_Line_long_ends.nd rfl (Or.inl rfl)) pgs_nil)))))
    (pss_one (ps_ret (pe_tup (pa_cons (pe_ix (ix_u (K := K) rfl) (pe_ix (ix_u (K := K) rfl) (pe_fd (K := K) rfl (pv 0) rfl) (pv 2) (fun _ _ => rfl)) pe_int (fun _ _ => rfl)) (pa_cons (pe_ix (ix_u (K := K) rfl) (pe_ix (ix_u (K := K) rfl) (pe_fd (K := K) rfl (pv 0) rfl) (pv 3) (fun _ _ => rfl)) pe_int (fun _ _ => rfl)) pa_nil))))))), ?_⟩
  rw [st_Line_long_ends]
  obtain ⟨tp, ts, tl, vp, vs, vl, a, e1, e2, e3, r1, r2, r3⟩ := hL.ex
  obtain ⟨ls, l2, l6⟩ := hL.lens
  walk_at "u"
  refine ⟨_, _, rfl, p, w', kd, rfl, hL, hy, fun e => ?_, kE⟩
  obtain ⟨j, rfl, hj⟩ := whole_nat e
  have eq := List.getElem?_eq_getElem hj
  generalize w'.lo[j] = q at eq
  have b := low0 hL.ok.l j q eq
  obtain ⟨q1, eq1, n1⟩ := nmA_at (w := w') (i := q.1.toNat) (by omega)
  obtain ⟨q2, eq2, n2⟩ := nmA_at (w := w') (i := q.2.1.toNat) (by omega)
  walk_at "u"
  refine s_ixr (i := j) e3 r3 rfl (rL_of eq) fun u eu => ?_
  walk_at "u"
  refine s_ixr (i := q.1.toNat) e1 r1 (by omega) (rP_of eq1) fun u' eu' => ?_
  walk_at "u"
  refine s_ixr (i := q.2.1.toNat) e1 r1 (by omega) (rP_of eq2) fun u2 eu2 => ?_
  walk_at "u"
  walk_at "na"
  intro t H1 f1 e1' k1
  walk_at "u"
  exact k j q rfl eq t H1 f1 (by rw [← n1, ← n2]; exact e1') k1
theorem c_long_ends {T : Tx K mg} {H : Hp} {p : Addr} {w : Wo} {j : Nat} {q : Int × Int × Int} {Q : VK} {E : XK} (h : Ln T H p w) (e : w.lo[j]? = some q) (k : ∀ t H', H t = none → H' t = some (.tup [.str (nmA w q.1.toNat), .str (nmA w q.2.1.toNat)]) → Kp [] H H' → Q (.ref t) H') : sp_Line_long_ends T [.ref p, .int (j : Nat)] H Q E :=
  ⟨_, _, rfl, p, w, .int, rfl, h, .int, fun j' q' ej hj => by cases ej; rw [e] at hj; cases hj; exact k, fun z => (nw (List.getElem?_eq_some_iff.mp e).1 z).elim⟩
def sp_Line_long_home (T : Tx K mg) : Sp := sp2 fun x y H Q E => ∃ (p : Addr) (w : Wo) (kd : Kd), x = .ref p ∧ Ln T H p w ∧ TyN H y kd ∧ (∀ (j : Nat) q, y = .int (j : Nat) → w.lo[j]? = some q → ∀ H', Kp [] H H' → Q (.str (nmA w (if q.2.2 = 0 then q.1.toNat else q.2.1.toNat))) H') ∧ (isWhole y 0 ((w.lo.length : Int) - 1) = false → ErX T.C_NoLong y H E)
set_option maxHeartbeats 16000000 in
theorem ok_Line_long_home (T : Tx K mg) : FnOk P w K mg base (L2.CX P w) 5 T.a_Line_long_home T.d_Line_long_home ["self", "j"] (sp_Line_long_home T) := by
  have G_Line_long_ends := ok_Line_long_ends (P := P) (w := w) (base := base) T
  refine T.F_Line_long_home.okX sc_Line_long_home (fun vs H Q E h => ?_) (fun cd A o s H vs Q E hr h => ?_)
  · obtain ⟨v0, v1, rfl, h⟩ := h; rfl
  obtain ⟨v0, v1, rfl, h⟩ := h
  obtain ⟨p, w', kd, rfl, hL, hy, k, kE⟩ := h
  refine ⟨_, (pss_one (ps_ret (pe_ix (ix_u (K := K) rfl) (pe_mo T.cl_Line T.M_Line_long_ends G_Line_long_ends (hr.mono (by decide)) T.B_Line_long_ends (takes_of (E := E) rfl rfl rfl rfl) (pv 0) (pa_cons (pv 1) pa_nil)) (pe_ix (ix_u (K := K) rfl) (pe_ix (ix_u (K := K) rfl) (pe_fd (K := K) rfl (pv 0) rfl) (pv 1) (fun _ _ => rfl)) pe_int (fun _ _ => rfl)) (fun _ _ => rfl)))), ?_⟩
  rw [st_Line_long_home]
  obtain ⟨tp, ts, tl, vp, vs, vl, a, e1, e2, e3, r1, r2, r3⟩ := hL.ex
  walk_at "u"
  refine ⟨_, _, rfl, p, w', kd, rfl, hL, hy, fun j q ej eq t H1 f1 et k1 => ?_, kE⟩
  subst ej
  have b := low0 hL.ok.l j q eq
  walk_at "u"
  refine s_ixr (i := j) (by walk_at "gt") (r3.kp k1) rfl (rL_of eq) fun u eu => ?_
  walk_at "u"
  have z := k j q rfl eq H1 k1
  rcases b.2.2.2.2 with hq | hq <;> (rw [hq] at z ⊢; exact s_ixt et rfl z)
theorem c_long_home {T : Tx K mg} {H : Hp} {p : Addr} {w : Wo} {j : Nat} {q : Int × Int × Int} {Q : VK} {E : XK} (h : Ln T H p w) (e : w.lo[j]? = some q) (k : ∀ H', Kp [] H H' → Q (.str (nmA w (if q.2.2 = 0 then q.1.toNat else q.2.1.toNat))) H') : sp_Line_long_home T [.ref p, .int (j : Nat)] H Q E :=
  ⟨_, _, rfl, p, w, .int, rfl, h, .int, fun j' q' ej hj => by cases ej; rw [e] at hj; cases hj; exact k, fun z => (nw (List.getElem?_eq_some_iff.mp e).1 z).elim⟩
def sp_Line_told (T : Tx K mg) : Sp := sp1 fun x H Q _ => ∃ (p : Addr) (w : Wo), x = .ref p ∧ Ln T H p w ∧ ∀ (t tp ts tl : Addr) (vp vs vl : List V) H', H t = none → H' t = some (.tup [.ref tp, .ref ts, .ref tl]) → H' tp = some (.tup vp) → H' ts = some (.tup vs) → H' tl = some (.tup vl) → Rw H' vp (rP w.pl) → Rw H' vs (rP w.st) → Rw H' vl (rL w.lo) → Kp [] H H' → Q (.ref t) H'
set_option maxHeartbeats 16000000 in
theorem ok_Line_told (T : Tx K mg) : FnOk P w K mg base (L2.CX P w) 1 T.a_Line_told T.d_Line_told ["self"] (sp_Line_told T) := by
  refine T.F_Line_told.okX sc_Line_told (fun vs H Q E h => ?_) (fun cd A o s H vs Q E hr h => ?_)
  · obtain ⟨v0, rfl, h⟩ := h; rfl
  obtain ⟨v0, rfl, h⟩ := h
  obtain ⟨p, w', rfl, hL, k⟩ := h
  refine ⟨_, (pss_one (ps_ret (pe_tup (pa_cons (pe_fd (K := K) rfl (pv 0) rfl) (pa_cons (pe_fd (K := K) rfl (pv 0) rfl) (pa_cons (pe_fd (K := K) rfl (pv 0) rfl) pa_nil)))))), ?_⟩
  rw [st_Line_told]
  obtain ⟨tp, ts, tl, vp, vs, vl, a, e1, e2, e3, r1, r2, r3⟩ := hL.ex
  walk_at "u"
  walk_at "na"
  intro t H1 f1 et k1
  walk_at "u"
  exact k t tp ts tl vp vs vl H1 f1 et (k1.get0 e1) (k1.get0 e2) (k1.get0 e3) (r1.kp k1) (r2.kp k1) (r3.kp k1) k1
def optV (o : Option Nat) : V := match o with | some j => .int j | none => .non
def sp_Line_long_stretches (T : Tx K mg) : Sp := sp2 fun x y H Q E => ∃ (p : Addr) (w : Wo) (kd : Kd), x = .ref p ∧ Ln T H p w ∧ TyN H y kd ∧ (∀ (j : Nat) q, y = .int (j : Nat) → w.lo[j]? = some q → ∀ l H', H l = none → H' l = some (.lst (rngV q.1 (q.2.1 - q.1).toNat)) → Kp [] H H' → Q (.ref l) H') ∧ (isWhole y 0 ((w.lo.length : Int) - 1) = false → ErX T.C_NoLong y H E)
set_option maxHeartbeats 16000000 in
theorem ok_Line_long_stretches (T : Tx K mg) : FnOk P w K mg base (L2.CX P w) 4 T.a_Line_long_stretches T.d_Line_long_stretches ["self", "j"] (sp_Line_long_stretches T) := by
  have G_Line_need_long := ok_Line_need_long (P := P) (w := w) (base := base) T
  refine T.F_Line_long_stretches.okX sc_Line_long_stretches (fun vs H Q E h => ?_) (fun cd A o s H vs Q E hr h => ?_)
  · obtain ⟨v0, v1, rfl, h⟩ := h; rfl
  obtain ⟨v0, v1, rfl, h⟩ := h
  obtain ⟨p, w', kd, rfl, hL, hy, k, kE⟩ := h
  refine ⟨_, (pss_cons (ps_expr (pe_mo T.cl_Line T.M_Line_need_long G_Line_need_long (hr.mono (by decide)) T.B_Line_need_long (takes_of (E := E) rfl rfl rfl rfl) (pv 0) (pa_cons (pv 1) pa_nil)))
    (pss_one (ps_ret (pe_callTy (c_listR rfl) rfl T.z_list bt_list (pa_cons (pe_callTy c_range2 rfl T.z_range bt_range (pa_cons (pe_ix (ix_u (K := K) rfl) (pe_ix (ix_u (K := K) rfl) (pe_fd (K := K) rfl (pv 0) rfl) (pv 1) (fun _ _ => rfl)) pe_int (fun _ _ => rfl)) (pa_cons (pe_ix (ix_u (K := K) rfl) (pe_ix (ix_u (K := K) rfl) (pe_fd (K := K) rfl (pv 0) rfl) (pv 1) (fun _ _ => rfl)) pe_int (fun _ _ => rfl)) pa_nil))) pa_nil))))), ?_⟩
  rw [st_Line_long_stretches]
  obtain ⟨tp, ts, tl, vp, vs, vl, a, e1, e2, e3, r1, r2, r3⟩ := hL.ex
  obtain ⟨ls, l2, l6⟩ := hL.lens
  walk_at "u"
  refine ⟨_, _, rfl, p, w', kd, rfl, hL, hy, fun e => ?_, kE⟩
  obtain ⟨j, rfl, hj⟩ := whole_nat e
  have eq := List.getElem?_eq_getElem hj
  generalize w'.lo[j] = q at eq
  have b := low0 hL.ok.l j q eq
  walk_at "u"
  refine s_ixr (i := j) e3 r3 rfl (rL_of eq) fun u eu => ?_
  walk_at "u"
  refine s_ixr (i := j) e3 r3 rfl (rL_of eq) fun u' eu' => ?_
  walk_at "u"
  refine s_rngN fun r H1 f1 er k1 => ?_
  walk_at "u"
  refine s_listR er (by omega) fun l H2 f2 el k2 => ?_
  walk_at "u"
  exact k j q rfl eq l H2 (by walk_at "f") el (by walk_at "k")
theorem c_long_stretches {T : Tx K mg} {H : Hp} {p : Addr} {w : Wo} {j : Nat} {q : Int × Int × Int} {Q : VK} {E : XK} (h : Ln T H p w) (e : w.lo[j]? = some q) (k : ∀ l H', H l = none → H' l = some (.lst (rngV q.1 (q.2.1 - q.1).toNat)) → Kp [] H H' → Q (.ref l) H') : sp_Line_long_stretches T [.ref p, .int (j : Nat)] H Q E :=
  ⟨_, _, rfl, p, w, .int, rfl, h, .int, fun j' q' ej hj => by cases ej; rw [e] at hj; cases hj; exact k, fun z => (nw (List.getElem?_eq_some_iff.mp e).1 z).elim⟩
def loP (lo : Lo) (i : Nat) (j : Nat) : Bool := match lo[j]? with | some q => decide (q.1 ≤ (i : Int)) && decide ((i : Int) < q.2.1) | none => false
def loV (lo : Lo) (i : Nat) : V := optV ((List.range lo.length).find? (loP lo i))
def sp_Line_long_of (T : Tx K mg) : Sp := sp2 fun x y H Q E => ∃ (p : Addr) (w : Wo) (kd : Kd), x = .ref p ∧ Ln T H p w ∧ TyN H y kd ∧ (∀ i : Nat, y = .int (i : Nat) → i < w.st.length → ∀ H', Kp [] H H' → Q (loV w.lo i) H') ∧ (isWhole y 0 ((w.st.length : Int) - 1) = false → ErX T.C_NoStretch y H E)
set_option maxHeartbeats 16000000 in
theorem ok_Line_long_of (T : Tx K mg) : FnOk P w K mg base (L2.CX P w) 4 T.a_Line_long_of T.d_Line_long_of ["self", "k"] (sp_Line_long_of T) := by
  have G_Line_need_stretch := ok_Line_need_stretch (P := P) (w := w) (base := base) T
  refine T.F_Line_long_of.okX sc_Line_long_of (fun vs H Q E h => ?_) (fun cd A o s H vs Q E hr h => ?_)
  · obtain ⟨v0, v1, rfl, h⟩ := h; rfl
  obtain ⟨v0, v1, rfl, h⟩ := h
  obtain ⟨p, w', kd, rfl, hL, hy, k, kE⟩ := h
  refine ⟨_, (pss_cons (ps_expr (pe_mo T.cl_Line T.M_Line_need_stretch G_Line_need_stretch (hr.mono (by decide)) T.B_Line_need_stretch (takes_of (E := E) rfl rfl rfl rfl) (pv 0) (pa_cons (pv 1) pa_nil)))
    (pss_cons (ps_for PassesOwn.leaving rfl (pi_enumT (K := K) rfl rfl T.z_enumerate (pa_cons (pe_fd (K := K) rfl (pv 0) rfl) pa_nil)) (pg_tupK (K := K) (n := 2) rfl rfl (pgs_cons (pg_name (i := 2) sc_Line_long_of.nd rfl (Or.inl rfl)) (pgs_cons (pg_name (i := 3) sc_Line_long_of.nd rfl (Or.inl rfl)) pgs_nil)))
    (pss_one (ps_if (pt_chain o_le o_lt (pe_ix (ix_u (K := K) rfl) (pv 3) pe_int (fun _ _ => rfl)) (pv 1) (pe_ix (ix_u (K := K) rfl) (pv 3) pe_int (fun _ _ => rfl)))
    (pss_one (ps_ret (pv 2)))
    pss_nil)))
    (pss_one (ps_ret pe_non)))), ?_⟩
  rw [st_Line_long_of]
  obtain ⟨tp, ts, tl, vp, vs, vl, a, e1, e2, e3, r1, r2, r3⟩ := hL.ex
  have ll : vl.length = w'.lo.length := by rw [r3.len]; simp [rL]
  walk_at "u"
  refine ⟨_, _, rfl, p, w', kd, rfl, hL, hy, fun e => ?_, kE⟩
  obtain ⟨i, rfl, hi⟩ := whole_nat e
  replace k := k i rfl hi
  walk_at "u"
  refine for_eT e3 (fun m σ H' => Kp [] H H' ∧ (∀ m' < m, loP w'.lo i m' = false) ∧ ∃ u2 u3, σ = [some (.ref p), some (.int (i : Nat)), u2, u3]) ⟨Kp.refl, by simp, _, _, rfl⟩ (fun m σ' H' p xs e => p.1.tgt e) ?_ ?_
  · rintro m x σ H3 t H4 ex ⟨k3, hm, u2, u3, rfl⟩ f4 e4 k4
    obtain ⟨u, r, rfl, er, eu⟩ := r3.at ex
    obtain ⟨q, eq, rfl⟩ := rL_at er
    have eu4 : H4 u = some (.tup [.int q.1, .int q.2.1, .int q.2.2]) := by walk_at "gt"
    have ep : loP w'.lo i m = (decide (q.1 ≤ (i : Int)) && decide ((i : Int) < q.2.1)) := by unfold loP; rw [eq]
    have fin : loP w'.lo i m = true → Q (.int (m : Nat)) H4 := fun h => by
      have := k H4 (by walk_at "k")
      unfold loV at this
      rw [List.find?_range_eq_some.mpr ⟨h, by simpa using (List.getElem?_eq_some_iff.mp eq).1, fun j hj => by simpa using hm j hj⟩] at this
      exact this
    have go : loP w'.lo i m = false → ∀ m' < m + 1, loP w'.lo i m' = false := fun h m' hm' => by
      rcases Nat.lt_succ_iff_lt_or_eq.mp hm' with h' | rfl
      · exact hm m' h'
      · exact h
    walk_at "u"
    refine s_ite (fun h1 => ?_) (fun h1 => ?_)
    · walk_at "u"
      refine s_ite (fun h2 => ?_) (fun h2 => ?_)
      · walk_at "u"
        exact fin (by rw [ep, decide_eq_true h1, decide_eq_true h2]; rfl)
      · walk_at "u"
        exact ⟨by walk_at "k", go (by rw [ep, decide_eq_false h2, Bool.and_false]), _, _, rfl⟩
    · walk_at "u"
      exact ⟨by walk_at "k", go (by rw [ep, decide_eq_false h1, Bool.false_and]), _, _, rfl⟩
  · rintro σ H3 ⟨k3, hm, u2, u3, rfl⟩
    walk_at "u"
    have := k H3 (by walk_at "k")
    unfold loV at this
    rw [List.find?_eq_none.mpr (fun m hm' => by rw [hm m (by rw [ll]; simpa using hm')]; simp)] at this
    exact this
theorem c_long_of {T : Tx K mg} {H : Hp} {p : Addr} {w : Wo} {i : Nat} {Q : VK} {E : XK} (h : Ln T H p w) (hi : i < w.st.length) (k : ∀ H', Kp [] H H' → Q (loV w.lo i) H') : sp_Line_long_of T [.ref p, .int (i : Nat)] H Q E :=
  ⟨_, _, rfl, p, w, .int, rfl, h, .int, fun j ej hj => by cases ej; exact k, fun z => (nw hi z).elim⟩
def btw (i j : Nat) : V := if i + 1 = j ∨ j + 1 = i then .int (min i j : Nat) else .non
def Btw (T : Tx K mg) (f : Wo → Nat → Nat → V) : Sp := sp3 fun x y z H Q E => ∃ (p : Addr) (w : Wo) (kd kd2 : Kd), x = .ref p ∧ Ln T H p w ∧ TyN H y kd ∧ Small y ∧ TyN H z kd2 ∧ Small z ∧ (∀ (i j : Nat) (a b : Str), y = .str a → z = .str b → (nms w)[i]? = some a → (nms w)[j]? = some b → ∀ H', Kp [] H H' → Q (f w i j) H') ∧ (Bad w y → ErX T.C_NoPlace y H E) ∧ (∀ (i : Nat) (a : Str), y = .str a → (nms w)[i]? = some a → Bad w z → ErX T.C_NoPlace z H E)
theorem c_btw {T : Tx K mg} {f : Wo → Nat → Nat → V} {H : Hp} {p : Addr} {w : Wo} {i j : Nat} {a b : Str} {Q : VK} {E : XK} (h : Ln T H p w) (ea : (nms w)[i]? = some a) (eb : (nms w)[j]? = some b) (k : ∀ H', Kp [] H H' → Q (f w i j) H') : Btw T f [.ref p, .str a, .str b] H Q E :=
  ⟨_, _, _, rfl, p, w, .str, .str, rfl, h, .str, sm_ss h.ok ea, .str, sm_ss h.ok eb, fun i' j' a' b' e1 e2 e3 e4 => by cases e1; cases e2; cases nms_inj h.ok ea e3; cases nms_inj h.ok eb e4; exact k, fun z => (ne0 z ea).elim, fun _ _ e1 _ z => (ne0 z eb).elim⟩
def sp_Line_between (T : Tx K mg) : Sp := Btw T fun _ i j => btw i j
set_option maxHeartbeats 16000000 in
theorem ok_Line_between (T : Tx K mg) : FnOk P w K mg base (L2.CX P w) 4 T.a_Line_between T.d_Line_between ["self", "one", "other"] (sp_Line_between T) := by
  have G_Line_number_of := ok_Line_number_of (P := P) (w := w) (base := base) T
  refine T.F_Line_between.okX sc_Line_between (fun vs H Q E h => ?_) (fun cd A o s H vs Q E hr h => ?_)
  · obtain ⟨v0, v1, v2, rfl, h⟩ := h; rfl
  obtain ⟨v0, v1, v2, rfl, h⟩ := h
  obtain ⟨p, w', kd, kd2, rfl, hL, hy, hy2, hz, hz2, k, kE, kE2⟩ := h
  refine ⟨_, (pss_cons (ps_set (i := 3) sc_Line_between.nd rfl (Or.inl rfl) (pe_mo T.cl_Line T.M_Line_number_of G_Line_number_of (hr.mono (by decide)) T.B_Line_number_of (takes_of (E := E) rfl rfl rfl rfl) (pv 0) (pa_cons (pv 1) pa_nil)))
    (pss_cons (ps_set (i := 4) sc_Line_between.nd rfl (Or.inl rfl) (pe_mo T.cl_Line T.M_Line_number_of G_Line_number_of (hr.mono (by decide)) T.B_Line_number_of (takes_of (E := E) rfl rfl rfl rfl) (pv 0) (pa_cons (pv 2) pa_nil)))
    (pss_one (ps_ret (pe_ifExp (pt_cmpR (o_eq (K := K) rfl hr) (pe_callB c_abs rfl T.z_abs bt_abs (pa_cons (pe_op o_sub (pv 3) (pv 4)) pa_nil)) pe_int (nomark _)) (pe_callB (c_min rfl) rfl T.z_min bt_min (pa_cons (pv 3) (pa_cons (pv 4) pa_nil))) pe_non))))), ?_⟩
  rw [st_Line_between]
  obtain ⟨tp, ts, tl, vp, vs, vl, at', _⟩ := hL.ex
  walk_at "u"
  refine ⟨_, _, rfl, p, w', kd, rfl, hL, hy, hy2, fun i a e1' ea H1 k1 => ?_, kE⟩
  subst e1'
  walk_at "u"
  refine ⟨_, _, rfl, p, w', kd2, rfl, by walk_at "g", hz.kp k1, hz2, fun j b e2' eb H2 k2 => ?_, fun bz => (kE2 i a rfl ea bz).kp k1⟩
  subst e2'
  replace k : ∀ H', Kp [] H H' → Q (btw i j) H' := k i j a b rfl rfl ea eb
  walk_at "u"
  have q := k H2 (by walk_at "k")
  unfold btw at q
  refine s_ite (fun h => ?_) (fun h => ?_)
  · walk_at "u"
    rw [if_pos (by split at h <;> omega)] at q
    have e : (if (j : Int) < (i : Int) then (j : Int) else (i : Int)) = ((min i j : Nat) : Int) := by split <;> omega
    rw [e]
    exact q
  · walk_at "u"
    rw [if_neg (by split at h <;> omega)] at q
    exact q
/-- the first long one between two places -/
def lbP (lo : Lo) (a b : Int) (j : Nat) : Bool := match lo[j]? with | some q => decide (q.1 = a) && decide (q.2.1 = b) | none => false
def lbV (lo : Lo) (a b : Int) : V := optV ((List.range lo.length).find? (lbP lo a b))
theorem eqv2 {a b c d : Int} : PyData.eqv (.tuple [.int a, .int b]) (.tuple [.int c, .int d]) = (decide (a = c) && decide (b = d)) := by
  simp [PyData.eqv, PyData.eqvAll]
  rw [Bool.eq_iff_iff]
  simp
theorem shp2 {a b : Int} : SeqAt.shaped (.tuple [.int a, .int b]) = true := by
  unfold SeqAt.shaped
  simp only [PyData.canLay0, PyData.canLayAll0, PyData.depth, PyData.depthAll, Bool.and_true]
  rfl
theorem dn2 {H : Hp} {t : Addr} {a b : Int} (h : H t = some (.tup [.int a, .int b])) : Dn K H (.ref t) (.tuple [.int a, .int b]) := .tup (SqT.of h) (.cons (.int _) (.cons (.int _) .nil))
def sp_Line_long_between (T : Tx K mg) : Sp := Btw T fun w i j => lbV w.lo (min i j : Nat) (max i j : Nat)
set_option maxHeartbeats 16000000 in
theorem ok_Line_long_between (T : Tx K mg) : FnOk P w K mg base (L2.CX P w) 4 T.a_Line_long_between T.d_Line_long_between ["self", "one", "other"] (sp_Line_long_between T) := by
  have G_Line_number_of := ok_Line_number_of (P := P) (w := w) (base := base) T
  refine T.F_Line_long_between.okX sc_Line_long_between (fun vs H Q E h => ?_) (fun cd A o s H vs Q E hr h => ?_)
  · obtain ⟨v0, v1, v2, rfl, h⟩ := h; rfl
  obtain ⟨v0, v1, v2, rfl, h⟩ := h
  obtain ⟨p, w', kd, kd2, rfl, hL, hy, hy2, hz, hz2, k, kE, kE2⟩ := h
  refine ⟨_, (pss_cons (ps_set (i := 3) sc_Line_long_between.nd rfl (Or.inl rfl) (pe_mo T.cl_Line T.M_Line_number_of G_Line_number_of (hr.mono (by decide)) T.B_Line_number_of (takes_of (E := E) rfl rfl rfl rfl) (pv 0) (pa_cons (pv 1) pa_nil)))
    (pss_cons (ps_set (i := 4) sc_Line_long_between.nd rfl (Or.inl rfl) (pe_mo T.cl_Line T.M_Line_number_of G_Line_number_of (hr.mono (by decide)) T.B_Line_number_of (takes_of (E := E) rfl rfl rfl rfl) (pv 0) (pa_cons (pv 2) pa_nil)))
    (pss_cons (ps_for PassesOwn.leaving rfl (pi_enumT (K := K) rfl rfl T.z_enumerate (pa_cons (pe_fd (K := K) rfl (pv 0) rfl) pa_nil)) (pg_tupK (K := K) (n := 2) rfl rfl (pgs_cons (pg_name (i := 5) sc_Line_long_between.nd rfl (Or.inl rfl)) (pgs_cons (pg_name (i := 6) sc_Line_long_between.nd rfl (Or.inl rfl)) pgs_nil)))
    (pss_one (ps_if (pt_cmpR (o_eq (K := K) rfl hr) (pe_slice (sl_u (K := K) rfl) (pv 6) po_none (po_some pe_int)) (pe_tup (pa_cons (pe_callB (c_min rfl) rfl T.z_min bt_min (pa_cons (pv 3) (pa_cons (pv 4) pa_nil))) (pa_cons (pe_callB (c_max rfl) rfl T.z_max bt_max (pa_cons (pv 3) (pa_cons (pv 4) pa_nil))) pa_nil))) (nomark _))
    (pss_one (ps_ret (pv 5)))
    pss_nil)))
    (pss_one (ps_ret pe_non))))), ?_⟩
  rw [st_Line_long_between]
  obtain ⟨tp, ts, tl, vp, vs, vl, at', e1, e2, e3, r1, r2, r3⟩ := hL.ex
  have ll : vl.length = w'.lo.length := by rw [r3.len]; simp [rL]
  walk_at "u"
  refine ⟨_, _, rfl, p, w', kd, rfl, hL, hy, hy2, fun i a e1' ea H1 k1 => ?_, kE⟩
  subst e1'
  walk_at "u"
  refine ⟨_, _, rfl, p, w', kd2, rfl, by walk_at "g", hz.kp k1, hz2, fun j b e2' eb H2 k2 => ?_, fun bz => (kE2 i a rfl ea bz).kp k1⟩
  subst e2'
  replace k : ∀ H', Kp [] H H' → Q (lbV w'.lo (min i j : Nat) (max i j : Nat)) H' := k i j a b rfl rfl ea eb
  walk_at "u"
  have eT : H2 tl = some (.tup vl) := by walk_at "gt"
  refine for_eT eT (fun m σ H' => Kp [] H2 H' ∧ (∀ m' < m, lbP w'.lo (min i j : Nat) (max i j : Nat) m' = false) ∧ ∃ u5 u6, σ = [some (.ref p), some (.str a), some (.str b), some (.int i), some (.int j), u5, u6]) ⟨Kp.refl, by simp, _, _, rfl⟩ (fun m σ' H' p xs e => p.1.tgt e) ?_ ?_
  · rintro m x σ H3 t H4 ex ⟨k3, hm, u5, u6, rfl⟩ f4 e4 k4
    obtain ⟨u, r, rfl, er, eu⟩ := r3.at ex
    obtain ⟨q, eq, rfl⟩ := rL_at er
    have eu4 : H4 u = some (.tup [.int q.1, .int q.2.1, .int q.2.2]) := by walk_at "gt"
    walk_at "u"
    refine s_slt eu4 fun t5 H5 e5 k5 => ?_
    have e5 : H5 t5 = some (.tup [.int q.1, .int q.2.1]) := e5
    walk_at "u"
    walk_at "na"
    intro t6 H6 f6 e6 k6
    refine s_eqD (dn2 (by walk_at "gt")) (dn2 e6) shp2 shp2 ?_
    rw [eqv2]
    have em : (if (j : Int) < (i : Int) then (j : Int) else (i : Int)) = ((min i j : Nat) : Int) := by split <;> omega
    have ex' : (if (j : Int) > (i : Int) then (j : Int) else (i : Int)) = ((max i j : Nat) : Int) := by split <;> omega
    rw [em, ex']
    have ep : lbP w'.lo (min i j : Nat) (max i j : Nat) m = (decide (q.1 = ((min i j : Nat) : Int)) && decide (q.2.1 = ((max i j : Nat) : Int))) := by unfold lbP; rw [eq]
    rw [← ep]
    walk_at "u"
    refine s_itb (fun h => ?_) (fun h => ?_)
    · walk_at "u"
      have := k H6 (by walk_at "k")
      unfold lbV at this
      rw [List.find?_range_eq_some.mpr ⟨h, by simpa using (List.getElem?_eq_some_iff.mp eq).1, fun j hj => by simpa using hm j hj⟩] at this
      exact this
    · walk_at "u"
      refine ⟨by walk_at "k", fun m' hm' => ?_, _, _, rfl⟩
      rcases Nat.lt_succ_iff_lt_or_eq.mp hm' with h' | rfl
      · exact hm m' h'
      · exact h
  · rintro σ H3 ⟨k3, hm, u5, u6, rfl⟩
    walk_at "u"
    have := k H3 (by walk_at "k")
    unfold lbV at this
    rw [List.find?_eq_none.mpr (fun m hm' => by rw [hm m (by rw [ll]; simpa using hm')]; simp)] at this
    exact this

/-- a world, as the law holds it -/
structure Wd (H : Hp) (t : Addr) (w : Wo) : Prop where
  ex : ∃ (a1 a2 a3 : Addr) (vp vs vl : List V) (z : Str), H t = some (.lst [.ref a1, .ref a2, .ref a3, .str z]) ∧ H a1 = some (.lst vp) ∧ H a2 = some (.lst vs) ∧ H a3 = some (.lst vl) ∧ Rw H vp (rP w.pl) ∧ Rw H vs (rP w.st) ∧ Rw H vl (rL w.lo)
theorem Wd.kp {H H2 : Hp} {t : Addr} {w : Wo} (h : Wd H t w) (k : Kp [] H H2) : Wd H2 t w := by
  obtain ⟨a1, a2, a3, vp, vs, vl, z, e0, e1, e2, e3, r1, r2, r3⟩ := h.ex
  exact ⟨a1, a2, a3, vp, vs, vl, z, k.get0 e0, k.get0 e1, k.get0 e2, k.get0 e3, r1.kp k, r2.kp k, r3.kp k⟩
def nv : Option Nat → PyData | some j => .int j | none => .none
theorem optV_sh {H : Hp} {o : Option Nat} (h : ∀ j, o = some j → j ≤ 1000) : Sh K H (optV o) (nv o) := by
  cases o with
  | none => exact ⟨.non, by simp [nv, good], by simp [nv, PyData.depth], by simp [nv, sz]⟩
  | some j =>
    have := h j rfl
    exact ⟨.int _, Nat.lt_of_le_of_lt (show ((j : Nat) : Int).natAbs ≤ 1000 by omega) (by decide +kernel), by simp [nv, PyData.depth], by simp [nv, sz]⟩

theorem nm_ix {w : Wo} {i : Nat} {n : Int} (h : i < w.pl.length) (e : n = (i : Int)) : atI ((nms w).map V.str) n = some (.str (nmA w i)) := by
  subst e
  refine at_nat ?_
  unfold nmA
  rw [List.getElem?_map, List.getD_eq_getElem?_getD, List.getElem?_eq_getElem (show i < (nms w).length by simpa [nms] using h)]
  rfl
theorem nmA_ss {w : Wo} (h : GoodW w) {i : Nat} (hi : i < w.pl.length) : SS (nmA w i) 20 := by
  obtain ⟨q, e, n⟩ := nmA_at hi
  rw [← n]
  exact (h.p.nm q (List.mem_of_getElem? e)).2
theorem sh_ss {H : Hp} {t : Addr} {a b : Str} (e : H t = some (.tup [.str a, .str b])) (ha : SS a 20) (hb : SS b 20) : Sh K H (.ref t) (.tuple [.str a, .str b]) := by
  have := ha.len
  have := hb.len
  refine ⟨.tup (SqT.of e) (.cons (.str _) (.cons (.str _) .nil)), ?_, by simp [PyData.depth, PyData.depthAll], by simp [sz, szA]; omega⟩
  simp only [good, goodA, and_true]
  exact ⟨fun c hc => Nat.lt_trans (ha.ok c hc) (by decide), fun c hc => Nat.lt_trans (hb.ok c hc) (by decide)⟩
theorem int_sh {H : Hp} {i : Int} (h0 : 0 ≤ i) (h1 : i ≤ 1000000) : Sh K H (.int i) (.int i) :=
  ⟨.int i, Nat.lt_of_le_of_lt (show i.natAbs ≤ 1000000 by omega) (by decide +kernel), by simp [PyData.depth], by simp [sz]⟩
theorem rng_eq {a b : Int} {n : Nat} (h0 : 0 ≤ a) (h1 : a ≤ b) (h2 : b ≤ n) : ((List.range n).filter fun (k : Nat) => decide (a ≤ (k : Int)) && decide ((k : Int) < b)).map (fun k => V.int (k : Nat)) = rngV a (b - a).toNat := by
  obtain ⟨x, rfl⟩ := Int.eq_ofNat_of_zero_le h0
  obtain ⟨y, rfl⟩ := Int.eq_ofNat_of_zero_le (show 0 ≤ b by omega)
  have e : ((List.range n).filter fun (k : Nat) => decide ((x : Int) ≤ (k : Int)) && decide ((k : Int) < (y : Int))) = (List.range (y - x)).map (x + ·) := by
    apply List.Perm.eq_of_pairwise (le := (· ≤ ·))
    · intro a b _ _ h3 h4; omega
    · exact (List.pairwise_lt_range.sublist List.filter_sublist).imp fun h => Nat.le_of_lt h
    · rw [List.pairwise_map]
      exact List.pairwise_lt_range.imp fun h => by omega
    · refine (List.perm_ext_iff_of_nodup (List.nodup_range.sublist List.filter_sublist) ?_).mpr fun k => ?_
      · rw [List.nodup_iff_pairwise_ne, List.pairwise_map]
        exact List.pairwise_lt_range.imp fun h => by omega
      · simp only [List.mem_filter, List.mem_range, Bool.and_eq_true, decide_eq_true_eq, List.mem_map]
        constructor
        · rintro ⟨h3, h4, h5⟩
          exact ⟨k - x, by omega, by omega⟩
        · rintro ⟨m, h3, rfl⟩
          omega
  rw [e, List.map_map, rngV, show ((y : Int) - (x : Int)).toNat = y - x by omega]
  apply List.map_congr_left
  intro k _
  simp
theorem rng_dn {H : Hp} (i : Int) : ∀ n : Nat, ∀ m : Nat, DnA K H ((List.range' m n).map fun k => V.int (i + (k : Nat))) ((List.range' m n).map fun k => PyData.int (i + (k : Nat)))
  | 0, _ => .nil
  | n + 1, m => .cons (.int _) (rng_dn i n (m + 1))
theorem ints_good : ∀ {ns : List Int}, (∀ n ∈ ns, 0 ≤ n ∧ n ≤ 1000) → goodA (ns.map PyData.int) ∧ PyData.depthAll (ns.map PyData.int) ≤ 1 ∧ szA (ns.map PyData.int) ≤ 104 * ns.length
  | [], _ => ⟨trivial, by simp [PyData.depthAll], by simp [szA]⟩
  | n :: ns, h => by
    have h0 := h n (by simp)
    obtain ⟨a1, a2, a3⟩ := ints_good (ns := ns) fun x hx => h x (by simp [hx])
    exact ⟨⟨Nat.lt_of_le_of_lt (show n.natAbs ≤ 1000 by omega) (by decide +kernel), a1⟩, by simp only [List.map_cons, PyData.depthAll, PyData.depth]; omega, by simp only [List.map_cons, szA, sz, List.length_cons]; omega⟩
theorem ints_dn {H : Hp} : ∀ ns : List Int, DnA K H (ns.map V.int) (ns.map PyData.int)
  | [] => .nil
  | n :: ns => .cons (.int n) (ints_dn ns)
theorem rng_sh {H : Hp} {l : Addr} {i : Int} {n : Nat} (e : H l = some (.lst (rngV i n))) (h0 : 0 ≤ i) (h1 : i + n ≤ 1000) : Sh K H (.ref l) (.list (((List.range n).map fun k => i + ((k : Nat) : Int)).map PyData.int)) := by
  obtain ⟨a1, a2, a3⟩ := ints_good (ns := (List.range n).map fun k => i + ((k : Nat) : Int)) fun x hx => by
    obtain ⟨k, hk, rfl⟩ := List.mem_map.mp hx
    have := List.mem_range.mp hk
    omega
  have ev : rngV i n = ((List.range n).map fun k => i + ((k : Nat) : Int)).map V.int := by rw [List.map_map]; rfl
  rw [ev] at e
  rw [List.length_map, List.length_range] at a3
  exact ⟨.lst (Or.inl e) (ints_dn _), a1, by simp only [PyData.depth]; omega, by simp only [sz]; omega⟩
def dP (q : Str × Int) : PyData := .tuple [.str q.1, .int q.2]
def dL (q : Int × Int × Int) : PyData := .tuple [.int q.1, .int q.2.1, .int q.2.2]
theorem rP_dn {H : Hp} : ∀ {pl : Pl} {vs : List V}, Rw H vs (rP pl) → DnA K H vs (pl.map dP)
  | [], _, .nil => .nil
  | q :: pl, _, .cons e r => .cons (.tup (SqT.of e) (.cons (.str _) (.cons (.int _) .nil))) (rP_dn r)
theorem rL_dn {H : Hp} : ∀ {lo : Lo} {vs : List V}, Rw H vs (rL lo) → DnA K H vs (lo.map dL)
  | [], _, .nil => .nil
  | q :: lo, _, .cons e r => .cons (.tup (SqT.of e) (.cons (.int _) (.cons (.int _) (.cons (.int _) .nil)))) (rL_dn r)
theorem dP_ok : ∀ {pl : Pl}, (∀ q ∈ pl, SS q.1 20 ∧ 0 ≤ q.2 ∧ q.2 ≤ 1000) → goodA (pl.map dP) ∧ PyData.depthAll (pl.map dP) ≤ 2 ∧ szA (pl.map dP) ≤ 1000 * pl.length
  | [], _ => ⟨trivial, by simp [PyData.depthAll], by simp [szA]⟩
  | q :: pl, h => by
    obtain ⟨h1, h2, h3⟩ := h q (by simp)
    have := h1.len
    obtain ⟨a1, a2, a3⟩ := dP_ok (pl := pl) fun x hx => h x (by simp [hx])
    refine ⟨⟨⟨fun c hc => Nat.lt_trans (h1.ok c hc) (by decide), Nat.lt_of_le_of_lt (show q.2.natAbs ≤ 1000 by omega) (by decide +kernel), trivial⟩, a1⟩, ?_, ?_⟩
    · simp only [List.map_cons, dP, PyData.depthAll, PyData.depth]; omega
    · simp only [List.map_cons, dP, szA, sz, List.length_cons]; omega
theorem dL_ok : ∀ {lo : Lo}, (∀ q ∈ lo, (0 ≤ q.1 ∧ q.1 ≤ 1000) ∧ (0 ≤ q.2.1 ∧ q.2.1 ≤ 1000) ∧ 0 ≤ q.2.2 ∧ q.2.2 ≤ 1000) → goodA (lo.map dL) ∧ PyData.depthAll (lo.map dL) ≤ 2 ∧ szA (lo.map dL) ≤ 1000 * lo.length
  | [], _ => ⟨trivial, by simp [PyData.depthAll], by simp [szA]⟩
  | q :: lo, h => by
    obtain ⟨h1, h2, h3⟩ := h q (by simp)
    obtain ⟨a1, a2, a3⟩ := dL_ok (lo := lo) fun x hx => h x (by simp [hx])
    refine ⟨⟨⟨Nat.lt_of_le_of_lt (show q.1.natAbs ≤ 1000 by omega) (by decide +kernel), Nat.lt_of_le_of_lt (show q.2.1.natAbs ≤ 1000 by omega) (by decide +kernel), Nat.lt_of_le_of_lt (show q.2.2.natAbs ≤ 1000 by omega) (by decide +kernel), trivial⟩, a1⟩, ?_, ?_⟩
    · simp only [List.map_cons, dL, PyData.depthAll, PyData.depth]; omega
    · simp only [List.map_cons, dL, szA, sz, List.length_cons]; omega
def dW (w : Wo) : PyData := .tuple [.tuple (w.pl.map dP), .tuple (w.st.map dP), .tuple (w.lo.map dL)]
theorem st_ss : SS ("staff" : Str) 20 ∧ SS ("ticket" : Str) 20 := ⟨SS.mk' (by decide +kernel), SS.mk' (by decide +kernel)⟩
theorem told_sh {H : Hp} {w : Wo} {t tp ts tl : Addr} {vp vs vl : List V} (g : GoodW w) (e : H t = some (.tup [.ref tp, .ref ts, .ref tl])) (e1 : H tp = some (.tup vp)) (e2 : H ts = some (.tup vs)) (e3 : H tl = some (.tup vl)) (r1 : Rw H vp (rP w.pl)) (r2 : Rw H vs (rP w.st)) (r3 : Rw H vl (rL w.lo)) : Sh K H (.ref t) (dW w) := by
  obtain ⟨a1, a2, a3⟩ := dP_ok (pl := w.pl) fun q hq => ⟨(g.p.nm q hq).2, by have := g.p.rd q hq; omega⟩
  obtain ⟨b1, b2, b3⟩ := dP_ok (pl := w.st) fun q hq => ⟨by rcases (g.s.ok q hq).1 with h | h <;> rw [h]; exact st_ss.1; exact st_ss.2, by have := (g.s.ok q hq).2; omega⟩
  obtain ⟨c1, c2, c3⟩ := dL_ok (lo := w.lo) fun q hq => by
    obtain ⟨i, hi⟩ := List.getElem?_of_mem hq
    have := low0 g.l i q hi
    have := g.p.l6
    omega
  have := g.p.l6
  have := g.s.ln
  have := g.l2
  refine ⟨.tup (SqT.of e) (.cons (.tup (SqT.of e1) (rP_dn r1)) (.cons (.tup (SqT.of e2) (rP_dn r2)) (.cons (.tup (SqT.of e3) (rL_dn r3)) .nil))), ⟨a1, b1, c1, trivial⟩, ?_, ?_⟩
  · simp only [dW, PyData.depth, PyData.depthAll]; omega
  · simp only [dW, sz, szA]; omega
theorem strs_dn {H : Hp} : ∀ zs : List Str, DnA K H (zs.map V.str) (zs.map PyData.str)
  | [] => .nil
  | z :: zs => .cons (.str z) (strs_dn zs)
theorem lay_L : ∀ lo : Lo, PyData.canLayAll0 (lo.map dL) = true ∧ PyData.depthAll (lo.map dL) ≤ 2
  | [] => ⟨rfl, by simp [PyData.depthAll]⟩
  | q :: lo => by
    obtain ⟨h1, h2⟩ := lay_L lo
    refine ⟨?_, ?_⟩
    · simp only [List.map_cons, PyData.canLayAll0, dL, PyData.canLay0, h1, Bool.and_true]
    · simp only [List.map_cons, PyData.depthAll, PyData.depth, dL]
      omega
theorem shp_L (lo : Lo) : SeqAt.shaped (.list (lo.map dL)) = true := by
  obtain ⟨h1, h2⟩ := lay_L lo
  unfold SeqAt.shaped
  rw [Bool.and_eq_true]
  refine ⟨by simpa only [PyData.canLay0] using h1, decide_eq_true ?_⟩
  simp only [PyData.depth]
  omega

/-! the line the other way round, the line with other names -/
def mrS (q : Str × Int) : Str × Int := (q.1, 1 - q.2)
def mrL (m : Int) (q : Int × Int × Int) : Int × Int × Int := (m - q.2.1, m - q.1, 1 - q.2.2)
def mrW (w : Wo) : Wo := ⟨w.pl.reverse, w.st.reverse.map mrS, w.lo.reverse.map (mrL ((w.pl.length : Int) - 1))⟩
theorem mr_good {w : Wo} (h : GoodW w) : GoodW (mrW w) := by
  refine ⟨⟨?_, ?_, fun q hq => h.p.nm q (List.mem_reverse.mp hq), ?_, fun q hq => h.p.rd q (List.mem_reverse.mp hq)⟩, ⟨?_, fun q hq => ?_⟩, ?_, ?_⟩
  · simpa [mrW] using h.p.l2
  · simpa [mrW] using h.p.l6
  · show ((w.pl.reverse).map (·.1)).Nodup
    rw [List.map_reverse]
    exact (List.reverse_perm _).nodup_iff.mpr h.p.nd
  · simpa [mrW] using h.s.ln
  · obtain ⟨r, hr, rfl⟩ := List.mem_map.mp hq
    obtain ⟨h1, h2⟩ := h.s.ok r (List.mem_reverse.mp hr)
    exact ⟨h1, by show 1 - r.2 = 0 ∨ 1 - r.2 = 1; omega⟩
  · have hl := h.l
    have l2 := h.l2
    show GoodL 0 (((w.pl.reverse).length : Int) - 1) (w.lo.reverse.map (mrL ((w.pl.length : Int) - 1)))
    rw [List.length_reverse]
    match hlo : w.lo, l2 with
    | [], _ => exact trivial
    | [a], _ =>
      rw [hlo] at hl
      obtain ⟨a1, a2, a3, a4, _⟩ := hl
      refine ⟨?_, ?_, ?_, ?_, trivial⟩ <;> simp only [mrL] <;> omega
    | [a, b], _ =>
      rw [hlo] at hl
      obtain ⟨a1, a2, a3, a4, b1, b2, b3, b4, _⟩ := hl
      refine ⟨?_, ?_, ?_, ?_, ?_, ?_, ?_, ?_, trivial⟩ <;> simp only [mrL] <;> omega
    | a :: b :: c :: r, l2 => simp at l2
  · simpa [mrW] using h.l2
theorem rw_rev {H : Hp} {vs : List V} {rs : List (List V)} (h : Rw H vs rs) : Rw H vs.reverse rs.reverse := by
  induction h with
  | nil => exact .nil
  | cons e _ ih => rw [List.reverse_cons, List.reverse_cons]; exact ih.app (Rw.one e)
theorem rP_rev (pl : Pl) : rP pl.reverse = (rP pl).reverse := by simp [rP]
def sp_Line_mirrored (T : Tx K mg) : Sp := sp1 fun x H Q _ => ∃ (p : Addr) (w : Wo), x = .ref p ∧ Ln T H p w ∧ ∀ q H', H q = none → Ln T H' q (mrW w) → Kp [] H H' → Q (.ref q) H'
set_option maxHeartbeats 16000000 in
theorem ok_Line_mirrored (T : Tx K mg) : FnOk P w K mg base (L2.CX P w) 6 T.a_Line_mirrored T.d_Line_mirrored ["self"] (sp_Line_mirrored T) := by
  have G_Line_init := ok_Line_init (P := P) (w := w) (base := base) T
  refine T.F_Line_mirrored.okX sc_Line_mirrored (fun vs H Q E h => ?_) (fun cd A o s H vs Q E hr h => ?_)
  · obtain ⟨v0, rfl, h⟩ := h; rfl
  obtain ⟨v0, rfl, h⟩ := h
  obtain ⟨p, w', rfl, hL, k⟩ := h
  refine ⟨_, (pss_cons (ps_set (i := 1) sc_Line_mirrored.nd rfl (Or.inr rfl) (pe_op o_sub (pe_callB (c_len (K := K) rfl) rfl T.z_len bt_len (pa_cons (pe_fd (K := K) rfl (pv 0) rfl) pa_nil)) pe_int))
    (pss_cons (ps_setLc (i := 2) (own := [("kind", 4), ("home", 5)]) rfl sc_Line_mirrored.nd rfl rfl (sw_true rfl rfl rfl (by decide +kernel)) (pi_tpl (K := K) rfl (pe_rev (K := K) rfl (pe_fd (K := K) rfl (pv 0) rfl) (pe_un un_neg pe_int))) (blkOk_by (own := [("kind", 4), ("home", 5)]) (N := N_Line_mirrored) (sc := defScope s_Line_mirrored) (by decide +kernel)) (fun _ _ _ _ _ => (pg_tupK (K := K) (n := 2) rfl rfl (pgs_cons (pg_name (i := 4) sc_Line_mirrored.nd rfl (Or.inl rfl)) (pgs_cons (pg_name (i := 5) sc_Line_mirrored.nd rfl (Or.inl rfl)) pgs_nil)))) (fun _ _ _ _ _ => pts_nil) (fun _ _ _ _ _ => (pe_tup (pa_cons (pv 4) (pa_cons (pe_op o_sub pe_int (pv 5)) pa_nil)))))
    (pss_cons (ps_setLc (i := 3) (own := [("first", 6), ("last", 7), ("home", 5)]) rfl sc_Line_mirrored.nd rfl rfl (sw_true rfl rfl rfl (by decide +kernel)) (pi_tpl (K := K) rfl (pe_rev (K := K) rfl (pe_fd (K := K) rfl (pv 0) rfl) (pe_un un_neg pe_int))) (blkOk_by (own := [("first", 6), ("last", 7), ("home", 5)]) (N := N_Line_mirrored) (sc := defScope s_Line_mirrored) (by decide +kernel)) (fun _ _ _ _ _ => (pg_tupK (K := K) (n := 3) rfl rfl (pgs_cons (pg_name (i := 6) sc_Line_mirrored.nd rfl (Or.inl rfl)) (pgs_cons (pg_name (i := 7) sc_Line_mirrored.nd rfl (Or.inl rfl)) (pgs_cons (pg_name (i := 5) sc_Line_mirrored.nd rfl (Or.inl rfl)) pgs_nil))))) (fun _ _ _ _ _ => pts_nil) (fun _ _ _ _ _ => (pe_tup (pa_cons (pe_op o_sub (pv 1) (pv 7)) (pa_cons (pe_op o_sub (pv 1) (pv 6)) (pa_cons (pe_op o_sub pe_int (pv 5)) pa_nil))))))
    (pss_one (ps_ret (pe_nw T.mk_Line G_Line_init (hr.mono (by decide)) rfl T.m_Line T.B_Line_init (takes_of (E := E) rfl rfl rfl rfl) (pa_cons (pe_rev (K := K) rfl (pe_fd (K := K) rfl (pv 0) rfl) (pe_un un_neg pe_int)) (pa_cons (pv 2) (pa_cons (pv 3) pa_nil))))))))), ?_⟩
  rw [st_Line_mirrored]
  have hG := hL.ok
  obtain ⟨tp, ts, tl, vp, vs, vl, a, e1, e2, e3, r1, r2, r3⟩ := hL.ex
  have lp : vp.length = w'.pl.length := by rw [r1.len]; simp [rP]
  have lS : vs.length = w'.st.length := by rw [r2.len]; simp [rP]
  have lL : vl.length = w'.lo.length := by rw [r3.len]; simp [rL]
  have p6 := hG.p.l6
  have p2 := hG.p.l2
  have ls := hG.s.ln
  have l2 := hG.l2
  walk_at "u"
  refine s_lent e1 ?_
  walk_at "u"
  refine s_revT e2 fun t1 H1 f1 g1 k1 => ?_
  refine s_itp g1 ?_
  intro D hD
  refine lc_T g1 hD (fun i acc H' => Kp [D] H1 H' ∧ Rw H' acc ((rP (w'.st.reverse.map mrS)).take i)) (fun H2 e2 k2 => ⟨k2.nil, .nil⟩) (fun i acc H' q xs e => q.1.tgt e) ?_ ?_
  · rintro i x acc H2 ex ea ⟨k2, hR⟩
    have hi : i < vs.length := by have := (List.getElem?_eq_some_iff.mp ex).1; rwa [List.length_reverse] at this
    obtain ⟨u, r, rfl, er, eu⟩ := (rw_rev (r2.kp k1)).at ex
    rw [← rP_rev] at er
    obtain ⟨q, eq, rfl⟩ := rP_at er
    have eu2 : H2 u = some (.tup [.str q.1, .int q.2]) := k2.tgt eu
    have la : acc.length ≤ i := by have := hR.len; rw [List.length_take] at this; omega
    walk_at "u"
    refine ⟨rfl, ?_⟩
    walk_at "u"
    walk_at "na"
    intro t3 H3 f3 g3 k3
    refine PvD.add (k3.get0 ea) (by omega) fun H4 g4 k4 => ⟨(k2.trans k3.nil).trans k4, ?_⟩
    have e5 : (rP (w'.st.reverse.map mrS))[i]? = some [.str q.1, .int (1 - q.2)] := by unfold rP; rw [List.getElem?_map, List.getElem?_map, eq]; rfl
    rw [List.take_add_one, e5]
    exact ((hR.kp k3).kp k4).app (Rw.one (k4.tgt g3))
  rintro acc H2 ea ⟨k2, hR⟩
  rw [List.take_of_length_le (by simp [rP, lS])] at hR
  have k02 : Kp [] H H2 := k1.trans (k2.drop hD)
  clear k1 k2 g1 f1 hD
  have a2 := a.kpn k02 (by simp)
  have e12 := k02.tgt e1
  have e32 := k02.tgt e3
  have r32 := r3.kp k02
  walk_at "u"
  refine s_revT e32 fun t3 H3 f3 g3 k3 => ?_
  refine s_itp g3 ?_
  intro D2 hD2
  have nDD : D ≠ D2 := ne_of_none (k3.get0 ea) hD2
  refine lc_T g3 hD2 (fun i acc H' => Kp [D2] H3 H' ∧ Rw H' acc ((rL (w'.lo.reverse.map (mrL ((w'.pl.length : Int) - 1)))).take i)) (fun H2 e2 k2 => ⟨k2.nil, .nil⟩) (fun i acc H' q xs e => q.1.tgt e) ?_ ?_
  · rintro i x acc2 H4 ex ea4 ⟨k4, hR4⟩
    have hi : i < vl.length := by have := (List.getElem?_eq_some_iff.mp ex).1; rwa [List.length_reverse] at this
    obtain ⟨u, r, rfl, er, eu⟩ := (rw_rev (r32.kp k3)).at ex
    have er' : (rL w'.lo.reverse)[i]? = some r := by rw [← er]; simp [rL]
    simp only [rL, List.getElem?_map] at er'
    obtain ⟨q, eq, rfl⟩ := Option.map_eq_some_iff.mp er'
    have eu2 : H4 u = some (.tup [.int q.1, .int q.2.1, .int q.2.2]) := k4.tgt eu
    have la : acc2.length ≤ i := by have := hR4.len; rw [List.length_take] at this; omega
    walk_at "u"
    refine ⟨rfl, ?_⟩
    walk_at "u"
    walk_at "na"
    intro t5 H5 f5 g5 k5
    refine PvD.add (k5.get0 ea4) (by omega) fun H6 g6 k6 => ⟨(k4.trans k5.nil).trans k6, ?_⟩
    have e5 : (rL (w'.lo.reverse.map (mrL ((w'.pl.length : Int) - 1))))[i]? = some [.int ((w'.pl.length : Int) - 1 - q.2.1), .int ((w'.pl.length : Int) - 1 - q.1), .int (1 - q.2.2)] := by unfold rL; rw [List.getElem?_map, List.getElem?_map, eq]; rfl
    rw [List.take_add_one, e5]
    rw [lp] at g5
    exact ((hR4.kp k5).kp k6).app (Rw.one (k6.tgt g5))
  rintro acc2 H4 ea4 ⟨k4, hR4⟩
  rw [List.take_of_length_le (by simp [rL, lL])] at hR4
  have k24 : Kp [] H2 H4 := k3.trans (k4.drop hD2)
  clear k3 k4 g3 f3 hD2
  have a4 := a2.kpn k24 (by simp)
  have e14 := k24.tgt e12
  have ea' := k24.get0 ea
  have hR' := hR.kp k24
  walk_at "u"
  refine s_revT e14 fun t5 H5 f5 g5 k5 => ?_
  walk_at "u"
  refine c_Line (w := mrW w') (vp := vp.reverse) (vs := acc) ⟨t5, rfl, Or.inr g5⟩ ?_ ⟨D, rfl, Or.inl (k5.get0 ea')⟩ (hR'.kp k5) (Or.inr ⟨acc2, ⟨D2, rfl, Or.inl (k5.get0 ea4)⟩, hR4.kp k5⟩) (mr_good hG) fun q H6 f6 hq k6 => ?_
  · have := rw_rev (((r1.kp k02).kp k24).kp k5)
    rw [← rP_rev] at this
    exact this
  · have kk : Kp [] H H5 := (k02.trans k24).trans k5
    walk_at "u"
    exact k q H6 (kk.dom q f6) hq (kk.trans k6)
/-- what is due of other names -/
def rnDue (kvs : List (Key × V)) : Pl → Pl → (Str × V) ⊕ Pl
  | acc, [] => .inr acc
  | acc, q :: r => match (valV kvs (Sum.inr q.1)).getD (.str q.1) with
    | .str z => if isName (.str z) = false then .inl ("name", .str z) else if z ∈ acc.map (·.1) then .inl ("twice", .str z) else rnDue kvs (acc ++ [(z, q.2)]) r
    | o => .inl ("name", o)
theorem isName_str {v : V} (h : isName v = true) : ∃ z, v = .str z := by
  cases v <;> simp [isName] at h
  exact ⟨_, rfl⟩
theorem rnDue_no {kvs : List (Key × V)} {acc : Pl} {q : Str × Int} {r : Pl} {o : V} (e : (valV kvs (Sum.inr q.1)).getD (.str q.1) = o) (h : isName o = false) : rnDue kvs acc (q :: r) = .inl ("name", o) := by
  unfold rnDue
  rw [e]
  cases o <;> first | rfl | skip
  simp only
  rw [if_pos h]
theorem rnDue_go {kvs : List (Key × V)} {acc : Pl} {q : Str × Int} {r : Pl} {z : Str} (e : (valV kvs (Sum.inr q.1)).getD (.str q.1) = .str z) (h : isName (.str z) = true) : rnDue kvs acc (q :: r) = if z ∈ acc.map (·.1) then .inl ("twice", .str z) else rnDue kvs (acc ++ [(z, q.2)]) r := by
  rw [rnDue, e]
  simp only
  rw [if_neg (by rw [h]; decide)]
def clN (T : Tx K mg) (c : Str) : Addr := if c = "name" then T.C_NoName else T.C_Twice
/-- things that may stand in a dict -/
def DcV (H : Hp) (kvs : List (Key × V)) : Prop := ∀ k v, valV kvs k = some v → ∃ t, TyN H v t ∧ Small v
theorem DcV.kp {H H1 : Hp} {kvs : List (Key × V)} (h : DcV H kvs) (k : Kp [] H H1) : DcV H1 kvs := fun a v e => by
  obtain ⟨t, ty, s⟩ := h a v e
  exact ⟨t, ty.kp k, s⟩
theorem letters_ss : ∀ c ∈ letters.cps.toList, c < 1114112 := by decide +kernel
theorem name_ss' {z : Str} (h : isName (.str z) = true) : SS z 20 := by
  simp only [isName, Bool.and_eq_true, decide_eq_true_eq, List.all_eq_true] at h
  exact ⟨by omega, fun c hc => letters_ss c (h.2 c hc)⟩
def sp_Line_renamed (T : Tx K mg) : Sp := sp2 fun x y H Q E => ∃ (p : Addr) (w : Wo), x = .ref p ∧ Ln T H p w ∧ ((∃ t, TyN H y t ∧ t ≠ .dic ∧ ErX T.C_NoName y H E) ∨ ∃ d kvs, y = .ref d ∧ H d = some (.dK kvs) ∧ DcV H kvs ∧
  (∀ c v, rnDue kvs [] w.pl = .inl (c, v) → ErX (clN T c) v H E) ∧ (∀ pl, rnDue kvs [] w.pl = .inr pl → ∀ q H', H q = none → Ln T H' q ⟨pl, w.st, w.lo⟩ → Kp [] H H' → Q (.ref q) H'))
set_option maxHeartbeats 16000000 in
theorem ok_Line_renamed (T : Tx K mg) : FnOk P w K mg base (L2.CX P w) 6 T.a_Line_renamed T.d_Line_renamed ["self", "names"] (sp_Line_renamed T) := by
  have G_Line_init := ok_Line_init (P := P) (w := w) (base := base) T
  have G_NoName_init := ok_NoName_init (P := P) (w := w) (base := base) T
  have G_is_name := ok_is_name (P := P) (w := w) (base := base) T
  have G_Twice_init := ok_Twice_init (P := P) (w := w) (base := base) T
  refine T.F_Line_renamed.okX sc_Line_renamed (fun vs H Q E h => ?_) (fun cd A o s H vs Q E hr h => ?_)
  · obtain ⟨v0, v1, rfl, h⟩ := h; rfl
  obtain ⟨v0, v1, rfl, h⟩ := h
  obtain ⟨p, w', rfl, hL, h⟩ := h
  refine ⟨_, (pss_cons (ps_if (pt_not (pt_val (pe_callB (c_isi (K := K) rfl) rfl T.z_isinstance bt_isinstance (pa_cons (pv 1) (pa_cons (pe_ty rfl T.z_dict bt_dict) pa_nil)))))
    (pss_one (ps_rz rfl T.er_NoName.oex T.er_NoName.iC T.er_NoName.tI G_NoName_init (hr.mono (by decide)) T.B_NoName_init rfl T.m_NoName (takes_of (E := E) rfl rfl rfl rfl) (pv 1)))
    pss_nil)
    (pss_cons (ps_set (i := 2) sc_Line_renamed.nd rfl (Or.inl rfl) (pe_lst pa_nil))
    (pss_cons (ps_for PassesOwn.leaving rfl (pi_tpl (K := K) rfl (pe_fd (K := K) rfl (pv 0) rfl)) (pg_tupK (K := K) (n := 2) rfl rfl (pgs_cons (pg_name (i := 3) sc_Line_renamed.nd rfl (Or.inl rfl)) (pgs_cons (pg_name (i := 4) sc_Line_renamed.nd rfl (Or.inl rfl)) pgs_nil)))
    (pss_cons (ps_set (i := 5) sc_Line_renamed.nd rfl (Or.inl rfl) (pe_dget2 (hu_of hr) (pv 1) (pv 3) (pv 3) ⟨rfl, rfl, rfl, rfl⟩))
    (pss_cons (ps_if (pt_not (pt_val (pe_co G_is_name (hr.mono (by decide)) rfl T.m_is_name T.F_is_name.kp T.B_is_name (takes_of (E := E) rfl rfl rfl rfl) (pa_cons (pv 5) pa_nil))))
    (pss_one (ps_rz rfl T.er_NoName.oex T.er_NoName.iC T.er_NoName.tI G_NoName_init (hr.mono (by decide)) T.B_NoName_init rfl T.m_NoName (takes_of (E := E) rfl rfl rfl rfl) (pv 5)))
    pss_nil)
    (pss_cons (ps_if (pt_cmpR (o_in (K := K) rfl) (pv 5) (pe_lc (own := [("one", 6), ("many", 7)]) rfl sc_Line_renamed.nd (pi_lst (K := K) rfl (pv 2)) (blkOk_by (own := [("one", 6), ("many", 7)]) (N := N_Line_renamed) (sc := defScope s_Line_renamed) (by decide +kernel)) (fun _ _ _ _ _ => (pg_tupK (K := K) (n := 2) rfl rfl (pgs_cons (pg_name (i := 6) sc_Line_renamed.nd rfl (Or.inl rfl)) (pgs_cons (pg_name (i := 7) sc_Line_renamed.nd rfl (Or.inl rfl)) pgs_nil)))) (fun _ _ _ _ _ => pts_nil) (fun _ _ _ _ _ => (pv 6))) rfl)
    (pss_one (ps_rz rfl T.er_Twice.oex T.er_Twice.iC T.er_Twice.tI G_Twice_init (hr.mono (by decide)) T.B_Twice_init rfl T.m_Twice (takes_of (E := E) rfl rfl rfl rfl) (pv 5)))
    pss_nil)
    (pss_one (ps_expr (pe_bm PySem.F.plainAttrs_list PySem.F.slot_list_append PySem.F.type_list_append mt_append (pv 2) (pa_cons (pe_tup (pa_cons (pv 5) (pa_cons (pv 4) pa_nil))) pa_nil))))))))
    (pss_one (ps_ret (pe_nw T.mk_Line G_Line_init (hr.mono (by decide)) rfl T.m_Line T.B_Line_init (takes_of (E := E) rfl rfl rfl rfl) (pa_cons (pv 2) (pa_cons (pe_fd (K := K) rfl (pv 0) rfl) (pa_cons (pe_fd (K := K) rfl (pv 0) rfl) pa_nil))))))))), ?_⟩
  rw [st_Line_renamed]
  have hG := hL.ok
  obtain ⟨tp, ts, tl, vp, vs, vl, a, e1, e2, e3, r1, r2, r3⟩ := hL.ex
  have lp : vp.length = w'.pl.length := by rw [r1.len]; simp [rP]
  have p6 := hG.p.l6
  have p2 := hG.p.l2
  rcases h with ⟨t, ty, hn, kE⟩ | ⟨d, kvs, rfl, ed, hv, kE, k⟩
  · cases ty <;> walk_at "u"
    all_goals first | exact (hn rfl).elim | exact kE
  walk_at "u"
  walk_at "na"
  intro l1 H1 f1 g1 k1
  have e11 := k1.tgt e1
  walk_at "u"
  refine for_T e11 (fun i σ H' => Kp [] H H' ∧ Kp [l1] H1 H' ∧ (∃ (acc : Pl) (va : List V), H' l1 = some (.lst va) ∧ Rw H' va (rP acc) ∧ acc.length = i ∧ (∀ q ∈ acc, isName (.str q.1) = true) ∧ (acc.map (·.1)).Nodup ∧ acc.map (·.2) = (w'.pl.take i).map (·.2) ∧ rnDue kvs [] w'.pl = rnDue kvs acc (w'.pl.drop i)) ∧ ∃ u3 u4 u5, σ = [some (.ref p), some (.ref d), some (.ref l1), u3, u4, u5, none, none])
    ⟨k1, Kp.refl, ⟨[], [], g1, .nil, rfl, by simp, by simp, by simp, by simp⟩, _, _, _, rfl⟩ (fun i σ' H' q xs e => q.2.1.tgt e) ?_ ?_
  · rintro i x σ H2 ex ⟨k2, k12, ⟨acc, va, ea, hR, la, hN, hD, hrd, hg⟩, u3, u4, u5, rfl⟩
    have hi : i < vp.length := (List.getElem?_eq_some_iff.mp ex).1
    obtain ⟨u, r, rfl, er, eu⟩ := (r1.kp k2).at ex
    obtain ⟨q, eq, rfl⟩ := rP_at er
    have hil : i < w'.pl.length := by omega
    have eqi : w'.pl[i] = q := by rw [List.getElem?_eq_getElem hil] at eq; exact Option.some.inj eq
    rw [List.drop_eq_getElem_cons hil, eqi] at hg
    have ed2 := k2.get0 ed
    have lva : va.length = i := by rw [hR.len]; simp [rP, la]
    have sq := (hG.p.nm q (List.mem_of_getElem? eq)).2
    walk_at "u"
    refine s_dget2 ed2 ?_
    walk_at "u"
    refine ⟨_, DGet.k (k := Sum.inr q.1) ed2, ?_⟩
    obtain ⟨o', eo, to, tyo, smo⟩ : ∃ o', (valV kvs (Sum.inr q.1)).getD (.str q.1) = o' ∧ ∃ t, TyN H2 o' t ∧ Small o' := by
      cases ev : valV kvs (Sum.inr q.1) with
      | none => exact ⟨_, rfl, _, .str, sq.mono (by omega)⟩
      | some v =>
        obtain ⟨t, a1, a2⟩ := hv _ v ev
        exact ⟨v, rfl, t, a1.kp k2, a2⟩
    rw [eo]
    walk_at "u"
    refine ⟨_, rfl, to, tyo, smo, fun H3 k3 => ?_⟩
    walk_at "u"
    cases hn : isName o' with
    | false =>
      walk_at "u"
      exact (kE _ _ (hg.trans (rnDue_no eo hn))).kp (k2.trans k3)
    | true =>
    obtain ⟨z, rfl⟩ := isName_str hn
    have hg2 := hg.trans (rnDue_go eo hn)
    have ea3 := k3.get0 ea
    walk_at "u"
    refine s_ilst (SqL.of (xs := va) ea3) ?_
    intro D hD'
    refine lc_L (a := l1) (vs := va) ea3 hD' (fun j acc' H' => Kp [D] H3 H' ∧ acc' = ((acc.take j).map (·.1)).map V.str) (fun H4 e4 k4 => ⟨k4.nil, rfl⟩) (fun j acc' H' q o e => q.1.get e (by simpa using fun z => by rw [← z, ea3] at hD'; cases hD')) ?_ ?_
    · rintro j x acc' H4 ex4 e4 ⟨k4, rfl⟩
      obtain ⟨u', r', rfl, er', eu'⟩ := ((hR.kp k3).kp k4).at ex4
      obtain ⟨q', eq', rfl⟩ := rP_at er'
      have hj : j < va.length := (List.getElem?_eq_some_iff.mp ex4).1
      walk_at "u"
      refine ⟨rfl, ?_⟩
      walk_at "u"
      refine PvD.add e4 (by simp; omega) fun H5 e5 k5 => ⟨k4.trans k5, ?_⟩
      rw [List.take_add_one, eq']
      simp
    rintro acc' H4 e4 ⟨k4, rfl⟩
    rw [List.take_of_length_le (by omega)] at e4
    have k34 : Kp [] H3 H4 := k4.drop hD'
    clear k4
    refine s_inS (SqL.of e4) ?_
    walk_at "u"
    refine s_ite (fun hz => ?_) (fun hz => ?_)
    · rw [if_pos hz] at hg2
      walk_at "u"
      exact (kE _ _ hg2).kp ((k2.trans k3).trans k34)
    rw [if_neg hz] at hg2
    walk_at "u"
    walk_at "na"
    intro t5 H5 f5 g5 k5
    have k25 : Kp [] H2 H5 := (k3.trans k34).trans k5
    walk_at "u"
    refine s_app (xs := va) (k25.get0 ea) (zlt (by omega)) fun H6 e6 k6 => ?_
    walk_at "u"
    have fl : H l1 = none := f1
    refine ⟨(k2.trans k25).step k6 (by simpa using fl), (k12.trans k25.nil).trans k6, ⟨acc ++ [(z, q.2)], _, e6, by rw [show rP (acc ++ [(z, q.2)]) = rP acc ++ [[.str z, .int q.2]] by simp [rP]]; exact ((hR.kp k25).kp k6).app (Rw.one (k6.tgt g5)), by simp [la], fun q' hq' => ?_, ?_, ?_, hg2⟩, _, _, _, rfl⟩
    · rcases List.mem_append.mp hq' with h | h
      · exact hN q' h
      · rw [List.mem_singleton.mp h]; exact hn
    · rw [List.map_append]
      exact List.nodup_append.mpr ⟨hD, by simp, fun x hx y hy e => by simp at hy; rw [e, hy] at hx; exact hz hx⟩
    · rw [List.take_add_one, eq, List.map_append, List.map_append, hrd]
      rfl
  rintro σ H2 ⟨k2, k12, ⟨acc, va, ea, hR, la, hN, hD, hrd, hg⟩, u3, u4, u5, rfl⟩
  rw [lp] at la hrd hg
  rw [List.drop_length] at hg
  rw [List.take_length] at hrd
  have a2 := a.kpn k2 (by simp)
  have gW : GoodW ⟨acc, w'.st, w'.lo⟩ := by
    refine ⟨⟨by show 2 ≤ acc.length; omega, by show acc.length ≤ 6; omega, fun q hq => ⟨hN q hq, name_ss' (hN q hq)⟩, hD, fun q hq => ?_⟩, ?_, ?_, hG.l2⟩
    · have : q.2 ∈ w'.pl.map (·.2) := by rw [← hrd]; exact List.mem_map.mpr ⟨q, hq, rfl⟩
      obtain ⟨q', hq', e⟩ := List.mem_map.mp this
      rw [← e]
      exact hG.p.rd q' hq'
    · show GoodS w'.st (acc.length - 1); rw [la]; exact hG.s
    · show GoodL 0 ((acc.length : Int) - 1) w'.lo; rw [la]; exact hG.l
  walk_at "u"
  refine c_Line (w := ⟨acc, w'.st, w'.lo⟩) (vp := va) (vs := vs) ⟨l1, rfl, Or.inl ea⟩ hR ⟨ts, rfl, Or.inr (k2.tgt e2)⟩ (r2.kp k2) (Or.inr ⟨vl, ⟨tl, rfl, Or.inr (k2.tgt e3)⟩, r3.kp k2⟩) gW fun q H3 f3 hq k3 => ?_
  walk_at "u"
  exact k acc (hg.trans rfl) q H3 (k2.dom q f3) hq (k2.trans k3)

/-! worlds of lists or of tuples -/
structure Wz (H : Hp) (t : Addr) (w : Wo) : Prop where
  ex : ∃ (a1 a2 a3 : Addr) (vs0 vp vs vl : List V), (H t = some (.lst vs0) ∨ H t = some (.tup vs0)) ∧ atI vs0 0 = some (.ref a1) ∧ atI vs0 1 = some (.ref a2) ∧ atI vs0 2 = some (.ref a3) ∧
    (H a1 = some (.lst vp) ∨ H a1 = some (.tup vp)) ∧ (H a2 = some (.lst vs) ∨ H a2 = some (.tup vs)) ∧ (H a3 = some (.lst vl) ∨ H a3 = some (.tup vl)) ∧ Rw H vp (rP w.pl) ∧ Rw H vs (rP w.st) ∧ Rw H vl (rL w.lo)
theorem Wz.kp {H H2 : Hp} {t : Addr} {w : Wo} (h : Wz H t w) (k : Kp [] H H2) : Wz H2 t w := by
  obtain ⟨a1, a2, a3, vs0, vp, vs, vl, e0, i0, i1, i2, e1, e2, e3, r1, r2, r3⟩ := h.ex
  exact ⟨a1, a2, a3, vs0, vp, vs, vl, sq_kp e0 k, i0, i1, i2, sq_kp e1 k, sq_kp e2 k, sq_kp e3 k, r1.kp k, r2.kp k, r3.kp k⟩
/-- told: tuples alone -/
structure TW (H : Hp) (t : Addr) (w : Wo) : Prop where
  ex : ∃ (tp ts tl : Addr) (vp vs vl : List V), H t = some (.tup [.ref tp, .ref ts, .ref tl]) ∧ H tp = some (.tup vp) ∧ H ts = some (.tup vs) ∧ H tl = some (.tup vl) ∧ Rw H vp (rP w.pl) ∧ Rw H vs (rP w.st) ∧ Rw H vl (rL w.lo)
theorem TW.kp {H H2 : Hp} {t : Addr} {w : Wo} {ps : List Addr} (h : TW H t w) (k : Kp ps H H2) : TW H2 t w := by
  obtain ⟨a1, a2, a3, vp, vs, vl, e0, e1, e2, e3, r1, r2, r3⟩ := h.ex
  exact ⟨a1, a2, a3, vp, vs, vl, k.tgt e0, k.tgt e1, k.tgt e2, k.tgt e3, r1.kp k, r2.kp k, r3.kp k⟩
theorem TW.wz {H : Hp} {t : Addr} {w : Wo} (h : TW H t w) : Wz H t w := by
  obtain ⟨a1, a2, a3, vp, vs, vl, e0, e1, e2, e3, r1, r2, r3⟩ := h.ex
  exact ⟨a1, a2, a3, _, vp, vs, vl, Or.inr e0, rfl, rfl, rfl, Or.inr e1, Or.inr e2, Or.inr e3, r1, r2, r3⟩
theorem TW.sh {H : Hp} {t : Addr} {w : Wo} (h : TW H t w) (g : GoodW w) : Sh K H (.ref t) (dW w) := by
  obtain ⟨a1, a2, a3, vp, vs, vl, e0, e1, e2, e3, r1, r2, r3⟩ := h.ex
  exact told_sh g e0 e1 e2 e3 r1 r2 r3
theorem Wd.wz {H : Hp} {t : Addr} {w : Wo} (h : Wd H t w) : Wz H t w := by
  obtain ⟨a1, a2, a3, vp, vs, vl, z, e0, e1, e2, e3, r1, r2, r3⟩ := h.ex
  exact ⟨a1, a2, a3, _, vp, vs, vl, Or.inl e0, rfl, rfl, rfl, Or.inl e1, Or.inl e2, Or.inl e3, r1, r2, r3⟩
def sp_law_told : Sp := sp1 fun x H Q _ => ∃ (t : Addr) (w : Wo), x = .ref t ∧ Wz H t w ∧ ∀ u H', H u = none → TW H' u w → Kp [] H H' → Q (.ref u) H'
set_option maxHeartbeats 16000000 in
theorem ok_law_told (T : Tx K mg) : FnOk P w K mg base (L2.CX P w) 1 T.a_law_told T.d_law_told ["_law_world_here"] (sp_law_told) := by
  refine T.F_law_told.okX sc_law_told (fun vs H Q E h => ?_) (fun cd A o s H vs Q E hr h => ?_)
  · obtain ⟨v0, rfl, h⟩ := h; rfl
  obtain ⟨v0, rfl, h⟩ := h
  obtain ⟨t, w', rfl, hW, k⟩ := h
  refine ⟨_, (pss_one (ps_ret (pe_tup (pa_cons (pe_callTy (c_tuple (K := K) rfl) rfl T.z_tuple bt_tuple (pa_cons (pe_ix (ix_u (K := K) rfl) (pv 0) pe_int (fun _ _ => rfl)) pa_nil)) (pa_cons (pe_callTy (c_tuple (K := K) rfl) rfl T.z_tuple bt_tuple (pa_cons (pe_ix (ix_u (K := K) rfl) (pv 0) pe_int (fun _ _ => rfl)) pa_nil)) (pa_cons (pe_callTy (c_tuple (K := K) rfl) rfl T.z_tuple bt_tuple (pa_cons (pe_ix (ix_u (K := K) rfl) (pv 0) pe_int (fun _ _ => rfl)) pa_nil)) pa_nil)))))), ?_⟩
  rw [st_law_told]
  obtain ⟨a1, a2, a3, vs0, vp, vs, vl, e0, i0, i1, i2, e1, e2, e3, r1, r2, r3⟩ := hW.ex
  walk_at "u"
  refine s_ixq e0 i0 ?_
  walk_at "u"
  refine s_tupq e1 fun t1 H1 g1 k1 => ?_
  walk_at "u"
  refine s_ixq (sq_kp e0 k1) i1 ?_
  walk_at "u"
  refine s_tupq (sq_kp e2 k1) fun t2 H2 g2 k2 => ?_
  have k02 := k1.trans k2
  walk_at "u"
  refine s_ixq (sq_kp e0 k02) i2 ?_
  walk_at "u"
  refine s_tupq (sq_kp e3 k02) fun t3 H3 g3 k3 => ?_
  have k03 := k02.trans k3
  walk_at "u"
  walk_at "na"
  intro t4 H4 f4 g4 k4
  have k04 := k03.trans k4
  exact k t4 H4 (k03.dom _ f4) ⟨t1, t2, t3, vp, vs, vl, g4, k4.tgt (k3.tgt (k2.tgt g1)), k4.tgt (k3.tgt g2), k4.tgt g3, r1.kp k04, r2.kp k04, r3.kp k04⟩ k04
theorem bit_flip {i : Int} (h : i = 0 ∨ i = 1) : (if decide (i = 0) = true then (1 : Int) else 0) = 1 - i := by
  rcases h with rfl | rfl <;> rfl
def sp_law_turned : Sp := sp1 fun x H Q _ => ∃ (t : Addr) (w : Wo), x = .ref t ∧ Wd H t w ∧ GoodW w ∧ ∀ u H', H u = none → TW H' u (mrW w) → Kp [] H H' → Q (.ref u) H'
set_option maxHeartbeats 16000000 in
theorem ok_law_turned (T : Tx K mg) : FnOk P w K mg base (L2.CX P w) 1 T.a_law_turned T.d_law_turned ["_law_world_here"] (sp_law_turned) := by
  refine T.F_law_turned.okX sc_law_turned (fun vs H Q E h => ?_) (fun cd A o s H vs Q E hr h => ?_)
  · obtain ⟨v0, rfl, h⟩ := h; rfl
  obtain ⟨v0, rfl, h⟩ := h
  obtain ⟨t, w', rfl, hW, hG, k⟩ := h
  refine ⟨_, (pss_cons (ps_asg (pv 0) (pg_lstK (K := K) (n := 4) rfl rfl (pgs_cons (pg_name (i := 1) sc_law_turned.nd rfl (Or.inl rfl)) (pgs_cons (pg_name (i := 2) sc_law_turned.nd rfl (Or.inl rfl)) (pgs_cons (pg_name (i := 3) sc_law_turned.nd rfl (Or.inl rfl)) (pgs_cons (pg_name (i := 4) sc_law_turned.nd rfl (Or.inl rfl)) pgs_nil))))))
    (pss_cons (ps_set (i := 5) sc_law_turned.nd rfl (Or.inr rfl) (pe_op o_sub (pe_callB (c_len (K := K) rfl) rfl T.z_len bt_len (pa_cons (pv 1) pa_nil)) pe_int))
    (pss_cons (ps_setLc (i := 6) (own := [("_law_low", 8), ("_law_high", 9), ("_law_home", 10)]) rfl sc_law_turned.nd rfl rfl (sw_true rfl rfl rfl (by decide +kernel)) (pi_lst (K := K) rfl (pv 3)) (blkOk_by (own := [("_law_low", 8), ("_law_high", 9), ("_law_home", 10)]) (N := N_law_turned) (sc := defScope s_law_turned) (by decide +kernel)) (fun _ _ _ _ _ => (pg_tupK (K := K) (n := 3) rfl rfl (pgs_cons (pg_name (i := 8) sc_law_turned.nd rfl (Or.inl rfl)) (pgs_cons (pg_name (i := 9) sc_law_turned.nd rfl (Or.inl rfl)) (pgs_cons (pg_name (i := 10) sc_law_turned.nd rfl (Or.inl rfl)) pgs_nil))))) (fun _ _ _ _ _ => pts_nil) (fun _ _ _ _ _ => (pe_tup (pa_cons (pe_op o_sub (pv 5) (pv 9)) (pa_cons (pe_op o_sub (pv 5) (pv 8)) (pa_cons (pe_callTy c_int rfl T.z_int bt_int (pa_cons (pe_cmpR (o_eq (K := K) rfl hr) (pv 10) pe_int (nomark _)) pa_nil)) pa_nil))))))
    (pss_cons (ps_setLc (i := 7) (own := [("_law_kind", 11), ("_law_home", 10)]) rfl sc_law_turned.nd rfl rfl (sw_true rfl rfl rfl (by decide +kernel)) (pi_revK (K := K) rfl rfl T.z_reversed (pa_cons (pv 2) pa_nil)) (blkOk_by (own := [("_law_kind", 11), ("_law_home", 10)]) (N := N_law_turned) (sc := defScope s_law_turned) (by decide +kernel)) (fun _ _ _ _ _ => (pg_tupK (K := K) (n := 2) rfl rfl (pgs_cons (pg_name (i := 11) sc_law_turned.nd rfl (Or.inl rfl)) (pgs_cons (pg_name (i := 10) sc_law_turned.nd rfl (Or.inl rfl)) pgs_nil)))) (fun _ _ _ _ _ => pts_nil) (fun _ _ _ _ _ => (pe_tup (pa_cons (pv 11) (pa_cons (pe_callTy c_int rfl T.z_int bt_int (pa_cons (pe_cmpR (o_eq (K := K) rfl hr) (pv 10) pe_int (nomark _)) pa_nil)) pa_nil)))))
    (pss_one (ps_ret (pe_tup (pa_cons (pe_tupRev (K := K) rfl rfl rfl T.z_tuple rfl T.z_reversed (pv 1)) (pa_cons (pe_callTy (c_tuple (K := K) rfl) rfl T.z_tuple bt_tuple (pa_cons (pv 7) pa_nil)) (pa_cons (pe_tupRev (K := K) rfl rfl rfl T.z_tuple rfl T.z_reversed (pv 6)) pa_nil)))))))))), ?_⟩
  rw [st_law_turned]
  obtain ⟨a1, a2, a3, vp, vs, vl, z, e0, e1, e2, e3, r1, r2, r3⟩ := hW.ex
  have lp : vp.length = w'.pl.length := by rw [r1.len]; simp [rP]
  have lS : vs.length = w'.st.length := by rw [r2.len]; simp [rP]
  have lL : vl.length = w'.lo.length := by rw [r3.len]; simp [rL]
  have p6 := hG.p.l6
  have ls := hG.s.ln
  have l2 := hG.l2
  walk_at "u"
  refine s_lenl e1 ?_
  walk_at "u"
  refine s_ilst (SqL.of e3) ?_
  intro D hD
  refine lc_L e3 hD (fun i acc H' => Kp [D] H H' ∧ Rw H' acc ((rL (w'.lo.map (mrL ((w'.pl.length : Int) - 1)))).take i)) (fun H2 e2 k2 => ⟨k2.nil, .nil⟩) (fun i acc H' p o e => p.1.get1 e (by walk_at "ne")) ?_ ?_
  · rintro i x acc H4 ex ea4 ⟨k4, hR4⟩
    have hi : i < vl.length := (List.getElem?_eq_some_iff.mp ex).1
    obtain ⟨u, r, rfl, er, eu⟩ := r3.at ex
    obtain ⟨q, eq, rfl⟩ := rL_at er
    have hb := low0 hG.l i q eq
    have eu2 : H4 u = some (.tup [.int q.1, .int q.2.1, .int q.2.2]) := k4.tgt eu
    have la : acc.length ≤ i := by have := hR4.len; rw [List.length_take] at this; omega
    walk_at "u"
    refine ⟨rfl, ?_⟩
    walk_at "u"
    refine s_intB ?_
    walk_at "u"
    walk_at "na"
    intro t5 H5 f5 g5 k5
    refine PvD.add (k5.get0 ea4) (by omega) fun H6 g6 k6 => ⟨(k4.trans k5.nil).trans k6, ?_⟩
    have e5 : (rL (w'.lo.map (mrL ((w'.pl.length : Int) - 1))))[i]? = some [.int ((w'.pl.length : Int) - 1 - q.2.1), .int ((w'.pl.length : Int) - 1 - q.1), .int (1 - q.2.2)] := by unfold rL; rw [List.getElem?_map, List.getElem?_map, eq]; rfl
    rw [List.take_add_one, e5]
    rw [lp, bit_flip hb.2.2.2.2] at g5
    exact ((hR4.kp k5).kp k6).app (Rw.one (k6.tgt g5))
  rintro acc H2 ea ⟨k2, hR⟩
  rw [List.take_of_length_le (by simp [rL, lL])] at hR
  have k02 : Kp [] H H2 := k2.drop hD
  have fD : H D = none := hD
  clear k2 hD
  have e12 := k02.get0 e1
  have e22 := k02.get0 e2
  have r22 := r2.kp k02
  walk_at "u"
  refine ⟨a2, vs, rfl, SqL.of e22, ?_⟩
  intro D2 hD2
  have nDD : D ≠ D2 := ne_of_none ea hD2
  refine lc_rev e22 hD2 (fun i acc H' => Kp [D2] H2 H' ∧ Rw H' acc ((rP (w'.st.reverse.map mrS)).take i)) (fun H3 e3 k3 => ⟨k3.nil, .nil⟩) (fun i acc H' p o e => p.1.get1 e (by walk_at "ne")) ?_ ?_
  · rintro i x acc2 H4 ex ea4 ⟨k4, hR4⟩
    have hi : i < vs.length := by have := (List.getElem?_eq_some_iff.mp ex).1; rwa [List.length_reverse] at this
    obtain ⟨u, r, rfl, er, eu⟩ := (rw_rev r22).at ex
    rw [← rP_rev] at er
    obtain ⟨q, eq, rfl⟩ := rP_at er
    have hb := (hG.s.ok q (List.mem_reverse.mp (List.mem_of_getElem? eq))).2
    have eu2 : H4 u = some (.tup [.str q.1, .int q.2]) := k4.tgt eu
    have la : acc2.length ≤ i := by have := hR4.len; rw [List.length_take] at this; omega
    walk_at "u"
    refine ⟨rfl, ?_⟩
    walk_at "u"
    refine s_intB ?_
    walk_at "u"
    walk_at "na"
    intro t5 H5 f5 g5 k5
    refine PvD.add (k5.get0 ea4) (by omega) fun H6 g6 k6 => ⟨(k4.trans k5.nil).trans k6, ?_⟩
    have e5 : (rP (w'.st.reverse.map mrS))[i]? = some [.str q.1, .int (1 - q.2)] := by unfold rP; rw [List.getElem?_map, List.getElem?_map, eq]; rfl
    rw [List.take_add_one, e5]
    rw [bit_flip hb] at g5
    exact ((hR4.kp k5).kp k6).app (Rw.one (k6.tgt g5))
  rintro acc2 H4 ea4 ⟨k4, hR4⟩
  rw [List.take_of_length_le (by simp [rP, lS])] at hR4
  have k24 : Kp [] H2 H4 := k4.drop hD2
  clear k4 hD2
  have e14 := k24.get0 e12
  have ea' := k24.get0 ea
  have hR' := hR.kp k24
  walk_at "u"
  refine s_trv e14 fun t5 H5 f5 g5 k5 => ?_
  walk_at "u"
  refine s_tuple (SqL.of (k5.get0 ea4)) fun t6 H6 f6 g6 k6 => ?_
  have k46 := k5.trans k6
  walk_at "u"
  refine s_trv (k46.get0 ea') fun t7 H7 f7 g7 k7 => ?_
  walk_at "u"
  walk_at "na"
  intro t8 H8 f8 g8 k8
  have k68 := k7.trans k8
  have k48 := k46.trans k68
  have kk := (k02.trans k24).trans k48
  refine k t8 H8 (((k02.trans k24).trans (k46.trans k7)).dom _ f8) ⟨t5, t6, t7, vp.reverse, acc2, acc.reverse, g8, k68.tgt (k6.tgt g5), k68.tgt g6, k8.tgt g7, ?_, hR4.kp k48, ?_⟩ kk
  · have := rw_rev (r1.kp kk)
    rw [← rP_rev] at this
    exact this
  · have := rw_rev (hR'.kp k48)
    have e : (rL (w'.lo.map (mrL ((w'.pl.length : Int) - 1)))).reverse = rL (w'.lo.reverse.map (mrL ((w'.pl.length : Int) - 1))) := by simp [rL]
    rw [e] at this
    exact this

def Tq (H : Hp) (a : Addr) : Prop := Th H a 0 ∨ Th H a 1
theorem Tq.of {H : Hp} {a : Addr} {vs : List V} (h : H a = some (.lst vs) ∨ H a = some (.tup vs)) : Tq H a := h.imp Th.lst Th.tup
theorem Tq.kp {H H1 : Hp} {a : Addr} {ps : List Addr} (k : Kp ps H H1) (h : Tq H a) : Tq H1 a := h.imp (Th.kp k) (Th.kp k)
theorem Tq.ne {H : Hp} {a b : Addr} (h : Tq H a) (f : H b = none) : a ≠ b := by
  rcases h with h | h <;> exact h.ne f
local macro_rules | `(tactic| walk_at "tq") => `(tactic| first
  | exact Tq.of (by assumption)
  | ((refine' Tq.kp ?ugk ?ugm); (case ugk => assumption); (case ugm => walk_at "tq"))
  | fail)
local macro_rules | `(tactic| walk_at "ne") => `(tactic| first
  | ((refine' Tq.ne ?una ?unf); (case unf => assumption); (case una => walk_at "tq"))
  | ((refine' Ne.symm (Tq.ne ?una ?unf)); (case unf => assumption); (case una => walk_at "tq"))
  | fail)
local macro_rules | `(tactic| walk_at "gs") => `(tactic| first
  | assumption
  | ((refine' U.sq_kpn ?ugk ?ugm ?ugn); (case ugk => assumption); (case ugm => walk_at "gs"); (case ugn => walk_at "n"))
  | fail)
local macro_rules | `(tactic| walk_at "u2") => `(tactic| first
  | with_reducible refine' U.s_ienQ ?_
  | ((with_reducible refine' U.s_ixq ?uih ?uia ?_); (case uih => walk_at "gs"); (case uia => assumption))
  | fail)
/-! all that a line tells, asked one by one -/
theorem sh_lst {H : Hp} {l : Addr} {vs : List V} {ds : List PyData} (e : H l = some (.lst vs)) (h : DnA K H vs ds) (b : goodA ds ∧ PyData.depthAll ds ≤ 90 ∧ szA ds ≤ 1000000) : Sh K H (.ref l) (.list ds) :=
  ⟨.lst (Or.inl e) h, b.1, by simp only [PyData.depth]; omega, by simp only [sz]; omega⟩
theorem ss_bd {z : Str} (h : SS z 20) : good (.str z) ∧ sz (.str z) ≤ 202 := ⟨(Bd.str h).good, (Bd.str h).sz⟩
theorem int_bd {i : Int} (h0 : -1000000 ≤ i) (h1 : i ≤ 1000000) : good (.int i) := Nat.lt_of_le_of_lt (show i.natAbs ≤ 1000000 by omega) (by decide +kernel)
theorem nv_bd {o : Option Nat} (h : ∀ j, o = some j → j ≤ 1000) : good (nv o) ∧ (nv o).depth ≤ 1 ∧ sz (nv o) ≤ 102 := by
  cases o with
  | none => exact ⟨trivial, by simp [nv, PyData.depth], by simp [nv, sz]⟩
  | some j =>
    have := h j rfl
    exact ⟨int_bd (by omega) (by omega), by simp [nv, PyData.depth], by simp [nv, sz]⟩
theorem optV_dn {H : Hp} {o : Option Nat} : Dn K H (optV o) (nv o) := by
  cases o with
  | none => exact .non
  | some j => exact .int _
theorem lo_find {w : Wo} (g : GoodW w) {P : Nat → Bool} {j : Nat} (e : (List.range w.lo.length).find? P = some j) : j ≤ 1000 := by
  have := List.mem_of_find?_eq_some e
  have := g.l2
  simp at *
  omega
def sp_law_stretches_asked_right (T : Tx K mg) : Sp := sp2 fun x y H Q _ => ∃ (p t : Addr) (w : Wo), x = .ref p ∧ y = .ref t ∧ Ln T H p w ∧ Wz H t w ∧ ∀ H', Kp [] H H' → Q (.bl true) H'
set_option maxHeartbeats 16000000 in
theorem ok_law_stretches_asked_right (T : Tx K mg) (hs : ∃ mm, base.Ns sysModules mm) : FnG P w K mg base (L2.CX P w) 6 T.a_law_stretches_asked_right T.d_law_stretches_asked_right ["_law_line", "_law_world_here"] (sp_law_stretches_asked_right T) := by
  have G_Line_many_stretches := ok_Line_many_stretches (P := P) (w := w) (base := base) T
  have G_Line_many_longs := ok_Line_many_longs (P := P) (w := w) (base := base) T
  have G_Line_ends := ok_Line_ends (P := P) (w := w) (base := base) T
  have G_Line_kind := ok_Line_kind (P := P) (w := w) (base := base) T
  have G_Line_home := ok_Line_home (P := P) (w := w) (base := base) T
  have G_Line_long_of := ok_Line_long_of (P := P) (w := w) (base := base) T
  have G_Line_long_ends := ok_Line_long_ends (P := P) (w := w) (base := base) T
  have G_Line_long_stretches := ok_Line_long_stretches (P := P) (w := w) (base := base) T
  have G_Line_long_home := ok_Line_long_home (P := P) (w := w) (base := base) T
  refine okG T.F_law_stretches_asked_right sc_law_stretches_asked_right (fun vs H Q E h => ?_) (fun cd A o s H vs Q E hg hr h => ?_)
  · obtain ⟨v0, v1, rfl, h⟩ := h; rfl
  obtain ⟨v0, v1, rfl, h⟩ := h
  obtain ⟨p, t, w', rfl, rfl, hL, hW, k⟩ := h
  refine ⟨_, (pss_cons (ps_setLc (i := 2) (own := [("_law_name", 10), ("_law_roads", 11)]) rfl sc_law_stretches_asked_right.nd rfl rfl (sw_true rfl rfl rfl (by decide +kernel)) (pi_seq (K := K) rfl (pe_ix (ix_u (K := K) rfl) (pv 1) pe_int (fun _ _ => rfl))) (blkOk_by (own := [("_law_name", 10), ("_law_roads", 11)]) (N := N_law_stretches_asked_right) (sc := defScope s_law_stretches_asked_right) (by decide +kernel)) (fun _ _ _ _ _ => (pg_tupK (K := K) (n := 2) rfl rfl (pgs_cons (pg_name (i := 10) sc_law_stretches_asked_right.nd rfl (Or.inl rfl)) (pgs_cons (pg_name (i := 11) sc_law_stretches_asked_right.nd rfl (Or.inl rfl)) pgs_nil)))) (fun _ _ _ _ _ => pts_nil) (fun _ _ _ _ _ => (pv 10)))
    (pss_cons (ps_if (pt_cmpR (o_ne (K := K) rfl hr) (pe_callB (c_repr (K := K) rfl hg hr hs) rfl T.z_repr bt_repr (pa_cons (pe_lst (pa_cons (pe_mo0 T.cl_Line T.M_Line_many_stretches G_Line_many_stretches (hr.mono (by decide)) T.B_Line_many_stretches (takes_of (E := E) rfl rfl rfl rfl) (pv 0)) (pa_cons (pe_mo0 T.cl_Line T.M_Line_many_longs G_Line_many_longs (hr.mono (by decide)) T.B_Line_many_longs (takes_of (E := E) rfl rfl rfl rfl) (pv 0)) pa_nil))) pa_nil)) (pe_callB (c_repr (K := K) rfl hg hr hs) rfl T.z_repr bt_repr (pa_cons (pe_lst (pa_cons (pe_callB (c_len (K := K) rfl) rfl T.z_len bt_len (pa_cons (pe_ix (ix_u (K := K) rfl) (pv 1) pe_int (fun _ _ => rfl)) pa_nil)) (pa_cons (pe_callB (c_len (K := K) rfl) rfl T.z_len bt_len (pa_cons (pe_ix (ix_u (K := K) rfl) (pv 1) pe_int (fun _ _ => rfl)) pa_nil)) pa_nil))) pa_nil)) (nomark _))
    (pss_one (ps_ret pe_bl))
    pss_nil)
    (pss_cons (ps_for PassesOwn.leaving rfl (pi_enumQ (K := K) rfl rfl T.z_enumerate (pa_cons (pe_ix (ix_u (K := K) rfl) (pv 1) pe_int (fun _ _ => rfl)) pa_nil)) (pg_tupK (K := K) (n := 2) rfl rfl (pgs_cons (pg_name (i := 3) sc_law_stretches_asked_right.nd rfl (Or.inr rfl)) (pgs_cons (pg_tupK (K := K) (n := 2) rfl rfl (pgs_cons (pg_name (i := 4) sc_law_stretches_asked_right.nd rfl (Or.inl rfl)) (pgs_cons (pg_name (i := 5) sc_law_stretches_asked_right.nd rfl (Or.inl rfl)) pgs_nil))) pgs_nil)))
    (pss_cons (ps_set (i := 6) sc_law_stretches_asked_right.nd rfl (Or.inl rfl) (pe_ix (ix_u (K := K) rfl) (pe_op (o_add (K := K) rfl) (pe_lc (own := [("_law_one", 12), ("_law_low", 7), ("_law_high", 8), ("_law_at", 13)]) rfl sc_law_stretches_asked_right.nd (pi_enumQ (K := K) rfl rfl T.z_enumerate (pa_cons (pe_ix (ix_u (K := K) rfl) (pv 1) pe_int (fun _ _ => rfl)) pa_nil)) (blkOk_by (own := [("_law_one", 12), ("_law_low", 7), ("_law_high", 8), ("_law_at", 13)]) (N := N_law_stretches_asked_right) (sc := defScope s_law_stretches_asked_right) (by decide +kernel)) (fun _ _ _ _ _ => (pg_tupK (K := K) (n := 2) rfl rfl (pgs_cons (pg_name (i := 12) sc_law_stretches_asked_right.nd rfl (Or.inl rfl)) (pgs_cons (pg_tupK (K := K) (n := 3) rfl rfl (pgs_cons (pg_name (i := 7) sc_law_stretches_asked_right.nd rfl (Or.inl rfl)) (pgs_cons (pg_name (i := 8) sc_law_stretches_asked_right.nd rfl (Or.inl rfl)) (pgs_cons (pg_name (i := 13) sc_law_stretches_asked_right.nd rfl (Or.inl rfl)) pgs_nil)))) pgs_nil)))) (fun _ _ _ _ _ => (pts_one (pt_chain o_le o_lt (pv 7) (pv 3) (pv 8)))) (fun _ _ _ _ _ => (pv 12))) (pe_lst (pa_cons pe_non pa_nil))) pe_int (fun _ _ => rfl)))
    (pss_cons (ps_set (i := 9) sc_law_stretches_asked_right.nd rfl (Or.inl rfl) (pe_lst (pa_cons (pe_tup (pa_cons (pe_ix (ix_u (K := K) rfl) (pv 2) (pv 3) (fun _ _ => rfl)) (pa_cons (pe_ix (ix_u (K := K) rfl) (pv 2) (pe_op (o_add (K := K) rfl) (pv 3) pe_int) (fun _ _ => rfl)) pa_nil))) (pa_cons (pv 4) (pa_cons (pe_ix (ix_u (K := K) rfl) (pv 2) (pe_op (o_add (K := K) rfl) (pv 3) (pv 5)) (fun _ _ => rfl)) (pa_cons (pv 6) pa_nil))))))
    (pss_one (ps_if (pt_cmpR (o_ne (K := K) rfl hr) (pe_callB (c_repr (K := K) rfl hg hr hs) rfl T.z_repr bt_repr (pa_cons (pe_lst (pa_cons (pe_mo T.cl_Line T.M_Line_ends G_Line_ends (hr.mono (by decide)) T.B_Line_ends (takes_of (E := E) rfl rfl rfl rfl) (pv 0) (pa_cons (pv 3) pa_nil)) (pa_cons (pe_mo T.cl_Line T.M_Line_kind G_Line_kind (hr.mono (by decide)) T.B_Line_kind (takes_of (E := E) rfl rfl rfl rfl) (pv 0) (pa_cons (pv 3) pa_nil)) (pa_cons (pe_mo T.cl_Line T.M_Line_home G_Line_home (hr.mono (by decide)) T.B_Line_home (takes_of (E := E) rfl rfl rfl rfl) (pv 0) (pa_cons (pv 3) pa_nil)) (pa_cons (pe_mo T.cl_Line T.M_Line_long_of G_Line_long_of (hr.mono (by decide)) T.B_Line_long_of (takes_of (E := E) rfl rfl rfl rfl) (pv 0) (pa_cons (pv 3) pa_nil)) pa_nil))))) pa_nil)) (pe_callB (c_repr (K := K) rfl hg hr hs) rfl T.z_repr bt_repr (pa_cons (pv 9) pa_nil)) (nomark _))
    (pss_one (ps_ret pe_bl))
    pss_nil)))))
    (pss_cons (ps_for PassesOwn.leaving rfl (pi_enumQ (K := K) rfl rfl T.z_enumerate (pa_cons (pe_ix (ix_u (K := K) rfl) (pv 1) pe_int (fun _ _ => rfl)) pa_nil)) (pg_tupK (K := K) (n := 2) rfl rfl (pgs_cons (pg_name (i := 6) sc_law_stretches_asked_right.nd rfl (Or.inl rfl)) (pgs_cons (pg_tupK (K := K) (n := 3) rfl rfl (pgs_cons (pg_name (i := 7) sc_law_stretches_asked_right.nd rfl (Or.inl rfl)) (pgs_cons (pg_name (i := 8) sc_law_stretches_asked_right.nd rfl (Or.inl rfl)) (pgs_cons (pg_name (i := 5) sc_law_stretches_asked_right.nd rfl (Or.inl rfl)) pgs_nil)))) pgs_nil)))
    (pss_cons (ps_set (i := 9) sc_law_stretches_asked_right.nd rfl (Or.inl rfl) (pe_lst (pa_cons (pe_tup (pa_cons (pe_ix (ix_u (K := K) rfl) (pv 2) (pv 7) (fun _ _ => rfl)) (pa_cons (pe_ix (ix_u (K := K) rfl) (pv 2) (pv 8) (fun _ _ => rfl)) pa_nil))) (pa_cons (pe_callTy (c_listR rfl) rfl T.z_list bt_list (pa_cons (pe_callTy c_range2 rfl T.z_range bt_range (pa_cons (pv 7) (pa_cons (pv 8) pa_nil))) pa_nil)) (pa_cons (pe_ix (ix_u (K := K) rfl) (pv 2) (pe_ix (ix_u (K := K) rfl) (pe_lst (pa_cons (pv 7) (pa_cons (pv 8) pa_nil))) (pv 5) (fun _ _ => rfl)) (fun _ _ => rfl)) pa_nil)))))
    (pss_one (ps_if (pt_cmpR (o_ne (K := K) rfl hr) (pe_callB (c_repr (K := K) rfl hg hr hs) rfl T.z_repr bt_repr (pa_cons (pe_lst (pa_cons (pe_mo T.cl_Line T.M_Line_long_ends G_Line_long_ends (hr.mono (by decide)) T.B_Line_long_ends (takes_of (E := E) rfl rfl rfl rfl) (pv 0) (pa_cons (pv 6) pa_nil)) (pa_cons (pe_mo T.cl_Line T.M_Line_long_stretches G_Line_long_stretches (hr.mono (by decide)) T.B_Line_long_stretches (takes_of (E := E) rfl rfl rfl rfl) (pv 0) (pa_cons (pv 6) pa_nil)) (pa_cons (pe_mo T.cl_Line T.M_Line_long_home G_Line_long_home (hr.mono (by decide)) T.B_Line_long_home (takes_of (E := E) rfl rfl rfl rfl) (pv 0) (pa_cons (pv 6) pa_nil)) pa_nil)))) pa_nil)) (pe_callB (c_repr (K := K) rfl hg hr hs) rfl T.z_repr bt_repr (pa_cons (pv 9) pa_nil)) (nomark _))
    (pss_one (ps_ret pe_bl))
    pss_nil))))
    (pss_one (ps_ret pe_bl)))))), ?_⟩
  rw [st_law_stretches_asked_right]
  obtain ⟨a1, a2, a3, vs0, vp, vs, vl, e0, i0, i1, i2, e1, e2, e3, r1, r2, r3⟩ := hW.ex
  obtain ⟨tp, ts, tl, vp', vs', vl', at', _⟩ := hL.ex
  obtain ⟨ls, l2, l6⟩ := hL.lens
  have gW := hL.ok
  have lp : vp.length = w'.pl.length := by rw [r1.len]; simp [rP]
  have lS : vs.length = w'.st.length := by rw [r2.len]; simp [rP]
  have lL : vl.length = w'.lo.length := by rw [r3.len]; simp [rL]
  have hl2 := hL.ok.l2
  walk_at "u"
  refine lc_sq e1 (fun D i acc H' => Kp [D] H H' ∧ acc = ((nms w').take i).map V.str) (fun D hD H1 e4 k1 => ⟨by walk_at "k", rfl⟩) (fun D hD i acc H' p o e => p.1.get1 e (ne_of_none e hD)) ?_ ?_
  · rintro D hD i x acc H' ex ea ⟨k1, rfl⟩
    obtain ⟨u, r, rfl, er, eu⟩ := r1.at ex
    obtain ⟨q, eq, rfl⟩ := rP_at er
    have hi := (List.getElem?_eq_some_iff.mp eq).1
    walk_at "u"
    refine ⟨rfl, ?_⟩
    walk_at "u"
    refine PvD.add ea (by simp [nms]; omega) fun H2 e2 k2 => ⟨by walk_at "k", ?_⟩
    rw [take_one (x := q.1) (by simp [nms, eq]), List.map_append]
    rfl
  rintro D hD acc H1 ea ⟨k1, rfl⟩
  rw [List.take_of_length_le (by simp [nms]; omega)] at ea
  walk_at "u"
  refine ⟨_, rfl, p, w', rfl, by walk_at "g", ?_⟩
  walk_at "u"
  refine ⟨_, rfl, p, w', rfl, by walk_at "g", ?_⟩
  walk_at "u"
  walk_at "na"
  intro l1 H2 f2 g2 k2
  have sh2 : ∀ {H l}, H l = some (.lst [.int w'.st.length, .int w'.lo.length]) → Sh K H (.ref l) (.list [.int w'.st.length, .int w'.lo.length]) := fun e => sh_lst e (.cons (.int _) (.cons (.int _) .nil)) ⟨⟨int_bd (by omega) (by omega), int_bd (by omega) (by omega), trivial⟩, by simp [PyData.depthAll, PyData.depth], by simp [szA, sz]⟩
  walk_at "u"
  refine s_rep (sh2 g2) ?_
  walk_at "u"
  refine s_lenQ (vs := vs) (by walk_at "gs") ?_
  walk_at "u"
  refine s_lenQ (vs := vl) (by walk_at "gs") ?_
  rw [lS, lL]
  walk_at "u"
  walk_at "na"
  intro l3 H3 f3 g3 k3
  walk_at "u"
  refine s_rep (sh2 g3) ?_
  walk_at "u"
  rw [decide_eq_true rfl]
  walk_at "u"
  refine for_eq (vs := vs) (by walk_at "gs") (fun i σ H' => Kp [] H3 H' ∧ ∃ u3 u4 u5 u6 u7 u8 u9 u10 u11 u12 u13, σ = [some (.ref p), some (.ref t), some (.ref D), u3, u4, u5, u6, u7, u8, u9, u10, u11, u12, u13]) ⟨Kp.refl, _, _, _, _, _, _, _, _, _, _, _, rfl⟩ (fun i σ' H' p o e => p.1.get0 e) ?_ ?_
  · rintro i x σ H4 T5 H5 ex ⟨k4, u3, u4, u5, u6, u7, u8, u9, u10, u11, u12, u13, rfl⟩ f5 eT k5
    obtain ⟨u, r, rfl, er, eu⟩ := r2.at ex
    obtain ⟨q, eq, rfl⟩ := rP_at er
    have hi := (List.getElem?_eq_some_iff.mp eq).1
    have mq := List.mem_of_getElem? eq
    have hq := (gW.s.ok q mq).2
    have n1 := nm_ix (w := w') (i := i) (by omega) rfl
    have n2 := nm_ix (w := w') (i := i + 1) (n := (i : Int) + 1) (by omega) (by omega)
    have n3 := nm_ix (w := w') (i := i + q.2.toNat) (n := (i : Int) + q.2) (by omega) (by omega)
    have s1 := ss_bd (nmA_ss gW (i := i) (by omega))
    have s2 := ss_bd (nmA_ss gW (i := i + 1) (by omega))
    have s3 := ss_bd (nmA_ss gW (i := i + q.2.toNat) (by omega))
    have sk : SS q.1 20 := by
      rcases (gW.s.ok q mq).1 with h | h <;> rw [h]
      · exact st_ss.1
      · exact st_ss.2
    have s4 := ss_bd sk
    have s5 := nv_bd (o := (List.range w'.lo.length).find? (loP w'.lo i)) fun j e => lo_find gW e
    have sh4 : ∀ {H l tu}, H l = some (.lst [.ref tu, .str q.1, .str (nmA w' (i + q.2.toNat)), loV w'.lo i]) → H tu = some (.tup [.str (nmA w' i), .str (nmA w' (i + 1))]) → Sh K H (.ref l) (.list [.tuple [.str (nmA w' i), .str (nmA w' (i + 1))], .str q.1, .str (nmA w' (i + q.2.toNat)), nv ((List.range w'.lo.length).find? (loP w'.lo i))]) := fun e e' =>
      sh_lst e (.cons (.tup (SqT.of e') (.cons (.str _) (.cons (.str _) .nil))) (.cons (.str _) (.cons (.str _) (.cons optV_dn .nil)))) ⟨⟨⟨s1.1, s2.1, trivial⟩, s4.1, s3.1, s5.1, trivial⟩, by
        have := s5.2.1
        simp only [PyData.depthAll, PyData.depth]
        omega, by
        have := s1.2
        have := s2.2
        have := s3.2
        have := s4.2
        have := s5.2.2
        simp only [szA, sz] at *
        omega⟩
    walk_at "u"
    refine lc_eq (vs := vl) (by walk_at "gs") (fun D6 m acc H' => Kp [D6] H5 H' ∧ acc = ((List.range m).filter (loP w'.lo i)).map fun j => V.int (j : Nat)) (fun D6 hD6 H7 e7 k7 => ⟨by walk_at "k", rfl⟩) (fun D6 hD6 m acc H' p o e => p.1.get1 e (ne_of_none e hD6)) ?_ ?_
    · rintro D6 hD6 m x acc H7 T7 H8 ex8 ea6 ⟨k7, rfl⟩ f8 e8 k8
      obtain ⟨u2, r, rfl, er2, eu2⟩ := r3.at ex8
      obtain ⟨q2, eq2, rfl⟩ := rL_at er2
      have hm : m < vl.length := (List.getElem?_eq_some_iff.mp ex8).1
      have eu8 : H8 u2 = some (.tup [.int q2.1, .int q2.2.1, .int q2.2.2]) := by walk_at "gt"
      have ep : loP w'.lo i m = (decide (q2.1 ≤ (i : Int)) && decide ((i : Int) < q2.2.1)) := by unfold loP; rw [eq2]
      have sk : loP w'.lo i m = false → PvD D6 (fun m acc H' => Kp [D6] H5 H' ∧ acc = ((List.range m).filter (loP w'.lo i)).map fun j => V.int (j : Nat)) (m + 1) H8 := fun h => by
        refine PvD.skip (acc := ((List.range m).filter (loP w'.lo i)).map fun j => V.int (j : Nat)) (by walk_at "g") ⟨by walk_at "k", ?_⟩
        rw [List.range_succ, List.filter_append, List.map_append]
        simp [h]
      walk_at "u"
      refine ⟨rfl, ?_⟩
      walk_at "u"
      refine s_ite (fun h1 => ?_) (fun h1 => ?_)
      · walk_at "u"
        refine s_ite (fun h2 => ?_) (fun h2 => ?_)
        · have h : loP w'.lo i m = true := by rw [ep, decide_eq_true h1, decide_eq_true h2]; rfl
          walk_at "u"
          refine PvD.add (acc := ((List.range m).filter (loP w'.lo i)).map fun j => V.int (j : Nat)) (by walk_at "g") ?_ fun H11 e11 k11 => ⟨by walk_at "k", ?_⟩
          · rw [List.length_map]
            have := List.length_filter_le (loP w'.lo i) (List.range m)
            rw [List.length_range] at this
            omega
          · rw [List.range_succ, List.filter_append, List.map_append]
            simp [h]
        · exact sk (by rw [ep, decide_eq_false h2, Bool.and_false])
      · walk_at "u"
        exact sk (by rw [ep, decide_eq_false h1, Bool.false_and])
    · rintro D6 hD6 acc H7 ea7 ⟨k7, rfl⟩
      rw [lL] at ea7
      walk_at "u"
      walk_at "na"
      intro l9 H9 f9 e9 k9
      walk_at "u"
      refine s_addl (by walk_at "g") e9 (zle ?_) fun l10 H10 f10 e10 k10 => ?_
      · have := List.length_filter_le (loP w'.lo i) (List.range w'.lo.length)
        rw [List.length_range] at this
        simp
        omega
      walk_at "u"
      refine s_ixl e10 at_head ?_
      have hh : ((((List.range w'.lo.length).filter (loP w'.lo i)).map fun j => V.int (j : Nat)).head?.getD V.non) = loV w'.lo i := by
        unfold loV
        rw [List.head?_map, List.head?_filter]
        cases (List.range w'.lo.length).find? (loP w'.lo i) <;> rfl
      rw [hh]
      walk_at "u"
      refine s_ixl (by walk_at "g") n1 ?_
      walk_at "u"
      refine s_ixl (by walk_at "g") n2 ?_
      walk_at "u"
      walk_at "na"
      intro t11 H11 f11 e11 k11
      walk_at "u"
      refine s_ixl (by walk_at "g") n3 ?_
      walk_at "u"
      walk_at "na"
      intro l12 H12 f12 e12 k12
      walk_at "u"
      refine c_ends (by walk_at "g") (by omega) fun t13 H13 f13 e13 k13 => ?_
      walk_at "u"
      refine c_kind (by walk_at "g") eq ?_
      walk_at "u"
      refine c_home (by walk_at "g") eq fun H14 k14 => ?_
      walk_at "u"
      refine c_long_of (by walk_at "g") (by omega) fun H15 k15 => ?_
      walk_at "u"
      walk_at "na"
      intro l16 H16 f16 e16 k16
      walk_at "u"
      refine s_rep (sh4 e16 (by walk_at "gt")) ?_
      walk_at "u"
      refine s_rep (sh4 (by walk_at "g") (by walk_at "gt")) ?_
      walk_at "u"
      rw [decide_eq_true rfl]
      walk_at "u"
      exact ⟨by walk_at "k", _, _, _, _, _, _, _, _, _, _, _, rfl⟩
  · rintro σ H4 ⟨k4, u3, u4, u5, u6, u7, u8, u9, u10, u11, u12, u13, rfl⟩
    walk_at "u"
    refine for_eq (vs := vl) (by walk_at "gs") (fun i σ H' => Kp [] H4 H' ∧ ∃ u3 u4 u5 u6 u7 u8 u9 u10 u11 u12 u13, σ = [some (.ref p), some (.ref t), some (.ref D), u3, u4, u5, u6, u7, u8, u9, u10, u11, u12, u13]) ⟨Kp.refl, _, _, _, _, _, _, _, _, _, _, _, rfl⟩ (fun i σ' H' p o e => p.1.get0 e) ?_ ?_
    · rintro i x σ H5 T6 H6 ex ⟨k5, u3, u4, u5, u6, u7, u8, u9, u10, u11, u12, u13, rfl⟩ f6 eT k6
      obtain ⟨u, r, rfl, er, eu⟩ := r3.at ex
      obtain ⟨q, eq, rfl⟩ := rL_at er
      have hi := (List.getElem?_eq_some_iff.mp eq).1
      have b := low0 gW.l i q eq
      have n1 := nm_ix (w := w') (i := q.1.toNat) (n := q.1) (by omega) (by omega)
      have n2 := nm_ix (w := w') (i := q.2.1.toNat) (n := q.2.1) (by omega) (by omega)
      have s1 := ss_bd (nmA_ss gW (i := q.1.toNat) (by omega))
      have s2 := ss_bd (nmA_ss gW (i := q.2.1.toNat) (by omega))
      have s3 := ss_bd (nmA_ss gW (i := if q.2.2 = 0 then q.1.toNat else q.2.1.toNat) (by split <;> omega))
      obtain ⟨hq, n3⟩ : atI [V.int q.1, V.int q.2.1] q.2.2 = some (.int (if q.2.2 = 0 then q.1 else q.2.1)) ∧ atI ((nms w').map V.str) (if q.2.2 = 0 then q.1 else q.2.1) = some (.str (nmA w' (if q.2.2 = 0 then q.1.toNat else q.2.1.toNat))) := by
        rcases b.2.2.2.2 with hq | hq <;> rw [hq]
        · exact ⟨rfl, n1⟩
        · exact ⟨rfl, n2⟩
      obtain ⟨i1, i2, i3⟩ := ints_good (ns := (List.range (q.2.1 - q.1).toNat).map fun k => q.1 + ((k : Nat) : Int)) fun x hx => by
        obtain ⟨k, hk, rfl⟩ := List.mem_map.mp hx
        have := List.mem_range.mp hk
        omega
      rw [List.length_map, List.length_range] at i3
      have ev : rngV q.1 (q.2.1 - q.1).toNat = ((List.range (q.2.1 - q.1).toNat).map fun k => q.1 + ((k : Nat) : Int)).map V.int := by rw [List.map_map]; rfl
      have sh3 : ∀ {H l tu lr}, H l = some (.lst [.ref tu, .ref lr, .str (nmA w' (if q.2.2 = 0 then q.1.toNat else q.2.1.toNat))]) → H tu = some (.tup [.str (nmA w' q.1.toNat), .str (nmA w' q.2.1.toNat)]) → H lr = some (.lst (rngV q.1 (q.2.1 - q.1).toNat)) → Sh K H (.ref l) (.list [.tuple [.str (nmA w' q.1.toNat), .str (nmA w' q.2.1.toNat)], .list (((List.range (q.2.1 - q.1).toNat).map fun k => q.1 + ((k : Nat) : Int)).map PyData.int), .str (nmA w' (if q.2.2 = 0 then q.1.toNat else q.2.1.toNat))]) := fun e e' e'' => by
        rw [ev] at e''
        exact sh_lst e (.cons (.tup (SqT.of e') (.cons (.str _) (.cons (.str _) .nil))) (.cons (.lst (Or.inl e'') (ints_dn _)) (.cons (.str _) .nil))) ⟨⟨⟨s1.1, s2.1, trivial⟩, i1, s3.1, trivial⟩, by
          simp only [PyData.depthAll, PyData.depth]
          omega, by
          have := s1.2
          have := s2.2
          have := s3.2
          simp only [szA, sz] at *
          omega⟩
      walk_at "u"
      refine s_ixl (by walk_at "g") n1 ?_
      walk_at "u"
      refine s_ixl (by walk_at "g") n2 ?_
      walk_at "u"
      walk_at "na"
      intro t7 H7 f7 e7 k7
      walk_at "u"
      refine s_rngN fun r8 H8 f8 e8 k8 => ?_
      walk_at "u"
      refine s_listR e8 (by omega) fun l9 H9 f9 e9 k9 => ?_
      walk_at "u"
      walk_at "na"
      intro l10 H10 f10 e10 k10
      walk_at "u"
      refine s_ixl e10 hq ?_
      refine s_ixl (by walk_at "g") n3 ?_
      walk_at "u"
      walk_at "na"
      intro l11 H11 f11 e11 k11
      walk_at "u"
      refine c_long_ends (by walk_at "g") eq fun t12 H12 f12 e12 k12 => ?_
      walk_at "u"
      refine c_long_stretches (by walk_at "g") eq fun l13 H13 f13 e13 k13 => ?_
      walk_at "u"
      refine c_long_home (by walk_at "g") eq fun H14 k14 => ?_
      walk_at "u"
      walk_at "na"
      intro l15 H15 f15 e15 k15
      walk_at "u"
      refine s_rep (sh3 e15 (by walk_at "gt") (by walk_at "g")) ?_
      walk_at "u"
      refine s_rep (sh3 (by walk_at "g") (by walk_at "gt") (by walk_at "g")) ?_
      walk_at "u"
      rw [decide_eq_true rfl]
      walk_at "u"
      exact ⟨by walk_at "k", _, _, _, _, _, _, _, _, _, _, _, rfl⟩
    · rintro σ H5 ⟨k5, u3, u4, u5, u6, u7, u8, u9, u10, u11, u12, u13, rfl⟩
      walk_at "u"
      exact k _ (by walk_at "k")

theorem ints_sh {H : Hp} {l : Addr} {ns : List Int} (e : H l = some (.lst (ns.map V.int))) (h : ∀ n ∈ ns, 0 ≤ n ∧ n ≤ 1000) (hl : ns.length ≤ 1000) : Sh K H (.ref l) (.list (ns.map PyData.int)) := by
  obtain ⟨a1, a2, a3⟩ := ints_good h
  exact sh_lst e (ints_dn _) ⟨a1, by omega, by omega⟩
theorem strs_good : ∀ {zs : List Str}, (∀ z ∈ zs, SS z 20) → goodA (zs.map PyData.str) ∧ PyData.depthAll (zs.map PyData.str) ≤ 1 ∧ szA (zs.map PyData.str) ≤ 204 * zs.length
  | [], _ => ⟨trivial, by simp [PyData.depthAll], by simp [szA]⟩
  | z :: zs, h => by
    obtain ⟨b1, b2⟩ := ss_bd (h z (by simp))
    obtain ⟨a1, a2, a3⟩ := strs_good (zs := zs) fun x hx => h x (by simp [hx])
    exact ⟨⟨b1, a1⟩, by simp only [List.map_cons, PyData.depthAll, PyData.depth]; omega, by simp only [List.map_cons, szA, List.length_cons]; omega⟩
def rE (lo : Lo) : List (List V) := lo.map fun q => [V.int q.1, V.int q.2.1]
def dE (q : Int × Int × Int) : PyData := .tuple [.int q.1, .int q.2.1]
theorem rE_dn {H : Hp} : ∀ {lo : Lo} {vs : List V}, Rw H vs (rE lo) → DnA K H vs (lo.map dE)
  | [], _, .nil => .nil
  | q :: lo, _, .cons e r => .cons (.tup (SqT.of e) (.cons (.int _) (.cons (.int _) .nil))) (rE_dn r)
theorem lay_E : ∀ lo : Lo, PyData.canLayAll0 (lo.map dE) = true ∧ PyData.depthAll (lo.map dE) ≤ 2
  | [] => ⟨rfl, by simp [PyData.depthAll]⟩
  | q :: lo => by
    obtain ⟨h1, h2⟩ := lay_E lo
    refine ⟨?_, ?_⟩
    · simp only [List.map_cons, PyData.canLayAll0, dE, PyData.canLay0, h1, Bool.and_true]
    · simp only [List.map_cons, PyData.depthAll, PyData.depth, dE]
      omega
theorem shp_E (lo : Lo) : SeqAt.shaped (.list (lo.map dE)) = true := by
  obtain ⟨h1, h2⟩ := lay_E lo
  unfold SeqAt.shaped
  rw [Bool.and_eq_true]
  refine ⟨by simpa only [PyData.canLay0] using h1, decide_eq_true ?_⟩
  simp only [PyData.depth]
  omega
theorem lb_eqv {lo : Lo} {a b : Int} {j : Nat} {q : Int × Int × Int} (e : lo[j]? = some q) : PyData.eqv (dE q) (.tuple [.int a, .int b]) = lbP lo a b j := by
  unfold lbP dE
  rw [e, eqv2]
theorem any_lb {lo : Lo} {a b : Int} : ((lo.map dE).any fun z => PyData.eqv z (.tuple [.int a, .int b])) = ((List.range lo.length).find? (lbP lo a b)).isSome := by
  rw [Bool.eq_iff_iff, List.any_eq_true, List.find?_isSome]
  constructor
  · rintro ⟨z, hz, e⟩
    obtain ⟨q, hq, rfl⟩ := List.mem_map.mp hz
    obtain ⟨j, hj⟩ := List.getElem?_of_mem hq
    exact ⟨j, List.mem_range.mpr (List.getElem?_eq_some_iff.mp hj).1, by rw [← lb_eqv hj]; exact e⟩
  · rintro ⟨j, hj, e⟩
    have hj := List.mem_range.mp hj
    have ej := List.getElem?_eq_getElem hj
    exact ⟨dE lo[j], List.mem_map.mpr ⟨_, List.getElem_mem _, rfl⟩, by rw [lb_eqv ej]; exact e⟩
theorem rng0 (n : Nat) : rngV 0 n = ((List.range n).map fun k => ((k : Nat) : Int)).map V.int := by
  unfold rngV
  rw [List.map_map]
  simp
def sp_law_asked_right (T : Tx K mg) : Sp := sp2 fun x y H Q _ => ∃ (p t : Addr) (w : Wo), x = .ref p ∧ y = .ref t ∧ Ln T H p w ∧ Wz H t w ∧ ∀ H', Kp [] H H' → Q (.bl true) H'
set_option maxHeartbeats 16000000 in
theorem ok_law_asked_right (T : Tx K mg) (hs : ∃ mm, base.Ns sysModules mm) : FnG P w K mg base (L2.CX P w) 7 T.a_law_asked_right T.d_law_asked_right ["_law_line", "_law_world_here"] (sp_law_asked_right T) := by
  have G_law_stretches_asked_right := ok_law_stretches_asked_right (P := P) (w := w) (base := base) T hs
  have G_Line_roads := ok_Line_roads (P := P) (w := w) (base := base) T
  have G_Line_names := ok_Line_names (P := P) (w := w) (base := base) T
  have G_Line_number_of := ok_Line_number_of (P := P) (w := w) (base := base) T
  have G_Line_between := ok_Line_between (P := P) (w := w) (base := base) T
  have G_Line_long_between := ok_Line_long_between (P := P) (w := w) (base := base) T
  refine okG T.F_law_asked_right sc_law_asked_right (fun vs H Q E h => ?_) (fun cd A o s H vs Q E hg hr h => ?_)
  · obtain ⟨v0, v1, rfl, h⟩ := h; rfl
  obtain ⟨v0, v1, rfl, h⟩ := h
  obtain ⟨p, t, w', rfl, rfl, hL, hW, k⟩ := h
  refine ⟨_, (pss_cons (ps_setLc (i := 2) (own := [("_law_name", 10), ("_law_roads", 11)]) rfl sc_law_asked_right.nd rfl rfl (sw_true rfl rfl rfl (by decide +kernel)) (pi_seq (K := K) rfl (pe_ix (ix_u (K := K) rfl) (pv 1) pe_int (fun _ _ => rfl))) (blkOk_by (own := [("_law_name", 10), ("_law_roads", 11)]) (N := N_law_asked_right) (sc := defScope s_law_asked_right) (by decide +kernel)) (fun _ _ _ _ _ => (pg_tupK (K := K) (n := 2) rfl rfl (pgs_cons (pg_name (i := 10) sc_law_asked_right.nd rfl (Or.inl rfl)) (pgs_cons (pg_name (i := 11) sc_law_asked_right.nd rfl (Or.inl rfl)) pgs_nil)))) (fun _ _ _ _ _ => pts_nil) (fun _ _ _ _ _ => (pv 10)))
    (pss_cons (ps_if (pt_cmpR (o_ne (K := K) rfl hr) (pe_callB (c_repr (K := K) rfl hg hr hs) rfl T.z_repr bt_repr (pa_cons (pe_lc (own := [("_law_name", 10)]) rfl sc_law_asked_right.nd (pi_lst (K := K) rfl (pv 2)) (blkOk_by (own := [("_law_name", 10)]) (N := N_law_asked_right) (sc := defScope s_law_asked_right) (by decide +kernel)) (fun _ _ _ _ _ => (pg_name (i := 10) sc_law_asked_right.nd rfl (Or.inl rfl))) (fun _ _ _ _ _ => pts_nil) (fun _ _ _ _ _ => (pe_mo T.cl_Line T.M_Line_roads G_Line_roads (hr.mono (by decide)) T.B_Line_roads takes0 (pv 0) (pa_cons (pv 10) pa_nil)))) pa_nil)) (pe_callB (c_repr (K := K) rfl hg hr hs) rfl T.z_repr bt_repr (pa_cons (pe_lc (own := [("_law_name", 10), ("_law_roads", 11)]) rfl sc_law_asked_right.nd (pi_seq (K := K) rfl (pe_ix (ix_u (K := K) rfl) (pv 1) pe_int (fun _ _ => rfl))) (blkOk_by (own := [("_law_name", 10), ("_law_roads", 11)]) (N := N_law_asked_right) (sc := defScope s_law_asked_right) (by decide +kernel)) (fun _ _ _ _ _ => (pg_tupK (K := K) (n := 2) rfl rfl (pgs_cons (pg_name (i := 10) sc_law_asked_right.nd rfl (Or.inl rfl)) (pgs_cons (pg_name (i := 11) sc_law_asked_right.nd rfl (Or.inl rfl)) pgs_nil)))) (fun _ _ _ _ _ => pts_nil) (fun _ _ _ _ _ => (pv 11))) pa_nil)) (nomark _))
    (pss_one (ps_ret pe_bl))
    pss_nil)
    (pss_cons (ps_if (pt_cmpR (o_ne (K := K) rfl hr) (pe_callB (c_repr (K := K) rfl hg hr hs) rfl T.z_repr bt_repr (pa_cons (pe_lst (pa_cons (pe_mo0 T.cl_Line T.M_Line_names G_Line_names (hr.mono (by decide)) T.B_Line_names (takes_of (E := E) rfl rfl rfl rfl) (pv 0)) (pa_cons (pe_lc (own := [("_law_name", 10)]) rfl sc_law_asked_right.nd (pi_lst (K := K) rfl (pv 2)) (blkOk_by (own := [("_law_name", 10)]) (N := N_law_asked_right) (sc := defScope s_law_asked_right) (by decide +kernel)) (fun _ _ _ _ _ => (pg_name (i := 10) sc_law_asked_right.nd rfl (Or.inl rfl))) (fun _ _ _ _ _ => pts_nil) (fun _ _ _ _ _ => (pe_mo T.cl_Line T.M_Line_number_of G_Line_number_of (hr.mono (by decide)) T.B_Line_number_of takes0 (pv 0) (pa_cons (pv 10) pa_nil)))) pa_nil))) pa_nil)) (pe_callB (c_repr (K := K) rfl hg hr hs) rfl T.z_repr bt_repr (pa_cons (pe_lst (pa_cons (pv 2) (pa_cons (pe_callTy (c_listR rfl) rfl T.z_list bt_list (pa_cons (pe_callTy c_range1 rfl T.z_range bt_range (pa_cons (pe_callB (c_len (K := K) rfl) rfl T.z_len bt_len (pa_cons (pv 2) pa_nil)) pa_nil)) pa_nil)) pa_nil))) pa_nil)) (nomark _))
    (pss_one (ps_ret pe_bl))
    pss_nil)
    (pss_cons (ps_setLc (i := 3) (own := [("_law_low", 12), ("_law_high", 13), ("_law_home", 14)]) rfl sc_law_asked_right.nd rfl rfl (sw_true rfl rfl rfl (by decide +kernel)) (pi_seq (K := K) rfl (pe_ix (ix_u (K := K) rfl) (pv 1) pe_int (fun _ _ => rfl))) (blkOk_by (own := [("_law_low", 12), ("_law_high", 13), ("_law_home", 14)]) (N := N_law_asked_right) (sc := defScope s_law_asked_right) (by decide +kernel)) (fun _ _ _ _ _ => (pg_tupK (K := K) (n := 3) rfl rfl (pgs_cons (pg_name (i := 12) sc_law_asked_right.nd rfl (Or.inl rfl)) (pgs_cons (pg_name (i := 13) sc_law_asked_right.nd rfl (Or.inl rfl)) (pgs_cons (pg_name (i := 14) sc_law_asked_right.nd rfl (Or.inl rfl)) pgs_nil))))) (fun _ _ _ _ _ => pts_nil) (fun _ _ _ _ _ => (pe_tup (pa_cons (pv 12) (pa_cons (pv 13) pa_nil)))))
    (pss_cons (ps_for PassesOwn.leaving rfl (pi_enumL (K := K) rfl rfl T.z_enumerate (pa_cons (pv 2) pa_nil)) (pg_tupK (K := K) (n := 2) rfl rfl (pgs_cons (pg_name (i := 4) sc_law_asked_right.nd rfl (Or.inl rfl)) (pgs_cons (pg_name (i := 5) sc_law_asked_right.nd rfl (Or.inl rfl)) pgs_nil)))
    (pss_one (ps_for PassesOwn.leaving rfl (pi_enumL (K := K) rfl rfl T.z_enumerate (pa_cons (pv 2) pa_nil)) (pg_tupK (K := K) (n := 2) rfl rfl (pgs_cons (pg_name (i := 6) sc_law_asked_right.nd rfl (Or.inl rfl)) (pgs_cons (pg_name (i := 7) sc_law_asked_right.nd rfl (Or.inl rfl)) pgs_nil)))
    (pss_cons (ps_set (i := 8) sc_law_asked_right.nd rfl (Or.inl rfl) (pe_tup (pa_cons (pe_callB (c_min rfl) rfl T.z_min bt_min (pa_cons (pv 4) (pa_cons (pv 6) pa_nil))) (pa_cons (pe_callB (c_max rfl) rfl T.z_max bt_max (pa_cons (pv 4) (pa_cons (pv 6) pa_nil))) pa_nil))))
    (pss_cons (ps_set (i := 9) sc_law_asked_right.nd rfl (Or.inl rfl) (pe_lst (pa_cons (pe_ifExp (pt_cmpR (o_eq (K := K) rfl hr) (pe_op (o_add (K := K) rfl) (pe_ix (ix_u (K := K) rfl) (pv 8) pe_int (fun _ _ => rfl)) pe_int) (pe_ix (ix_u (K := K) rfl) (pv 8) pe_int (fun _ _ => rfl)) (nomark _)) (pe_ix (ix_u (K := K) rfl) (pv 8) pe_int (fun _ _ => rfl)) pe_non) (pa_cons (pe_ifExp (pt_cmpR (o_inX (K := K) rfl hr) (pv 8) (pv 3) rfl) (pe_bm PySem.F.plainAttrs_list PySem.F.slot_list_index PySem.F.type_list_index (mt_ixD (K := K) rfl hr) (pv 3) (pa_cons (pv 8) pa_nil)) pe_non) pa_nil))))
    (pss_one (ps_if (pt_cmpR (o_ne (K := K) rfl hr) (pe_callB (c_repr (K := K) rfl hg hr hs) rfl T.z_repr bt_repr (pa_cons (pe_lst (pa_cons (pe_mo T.cl_Line T.M_Line_between G_Line_between (hr.mono (by decide)) T.B_Line_between (takes_of (E := E) rfl rfl rfl rfl) (pv 0) (pa_cons (pv 5) (pa_cons (pv 7) pa_nil))) (pa_cons (pe_mo T.cl_Line T.M_Line_long_between G_Line_long_between (hr.mono (by decide)) T.B_Line_long_between (takes_of (E := E) rfl rfl rfl rfl) (pv 0) (pa_cons (pv 5) (pa_cons (pv 7) pa_nil))) pa_nil))) pa_nil)) (pe_callB (c_repr (K := K) rfl hg hr hs) rfl T.z_repr bt_repr (pa_cons (pv 9) pa_nil)) (nomark _))
    (pss_one (ps_ret pe_bl))
    pss_nil)))))))
    (pss_one (ps_ret (pe_cg G_law_stretches_asked_right hg (hr.mono (by decide)) rfl T.m_law_stretches_asked_right T.F_law_stretches_asked_right.kp T.B_law_stretches_asked_right (takes_of (E := E) rfl rfl rfl rfl) (pa_cons (pv 0) (pa_cons (pv 1) pa_nil)))))))))), ?_⟩
  rw [st_law_asked_right]
  obtain ⟨a1, a2, a3, vs0, vp, vs, vl, e0, i0, i1, i2, e1, e2, e3, r1, r2, r3⟩ := hW.ex
  obtain ⟨tp, ts, tl, vp', vs', vl', at', _⟩ := hL.ex
  obtain ⟨ls, l2, l6⟩ := hL.lens
  have gW := hL.ok
  have lp : vp.length = w'.pl.length := by rw [r1.len]; simp [rP]
  have lL : vl.length = w'.lo.length := by rw [r3.len]; simp [rL]
  have ln : (nms w').length = w'.pl.length := by simp [nms]
  have hl2 := hL.ok.l2
  walk_at "u"
  refine lc_sq e1 (fun D i acc H' => Kp [D] H H' ∧ acc = ((nms w').take i).map V.str) (fun D hD H1 e4 k1 => ⟨by walk_at "k", rfl⟩) (fun D hD i acc H' p o e => p.1.get1 e (ne_of_none e hD)) ?_ ?_
  · rintro D hD i x acc H' ex ea ⟨k1, rfl⟩
    obtain ⟨u, r, rfl, er, eu⟩ := r1.at ex
    obtain ⟨q, eq, rfl⟩ := rP_at er
    have hi := (List.getElem?_eq_some_iff.mp eq).1
    walk_at "u"
    refine ⟨rfl, ?_⟩
    walk_at "u"
    refine PvD.add ea (by simp [nms]; omega) fun H2 e2 k2 => ⟨by walk_at "k", ?_⟩
    rw [take_one (x := q.1) (by simp [nms, eq]), List.map_append]
    rfl
  rintro D hD acc H1 ea ⟨k1, rfl⟩
  rw [List.take_of_length_le (by simp [nms]; omega)] at ea
  have rd : ∀ n ∈ w'.pl.map (·.2), 0 ≤ n ∧ n ≤ 1000 := fun n hn => by
    obtain ⟨q, hq, rfl⟩ := List.mem_map.mp hn
    have := gW.p.rd q hq
    omega
  walk_at "u"
  refine s_ilst (SqL.of ea) ?_
  intro D2 hD2
  refine lc_L ea hD2 (fun i acc H' => Kp [D2] H1 H' ∧ acc = ((w'.pl.map (·.2)).take i).map V.int) (fun H2 e4 k2 => ⟨by walk_at "k", rfl⟩) (fun i acc H' p o e => p.1.get1 e (by walk_at "ne")) ?_ ?_
  · rintro i x acc H2 ex ea2 ⟨k2, rfl⟩
    rw [List.getElem?_map] at ex
    obtain ⟨zz, ez, rfl⟩ := Option.map_eq_some_iff.mp ex
    obtain ⟨q, eq, rfl⟩ := nms_at ez
    have hi := (List.getElem?_eq_some_iff.mp eq).1
    walk_at "u"
    refine ⟨rfl, ?_⟩
    walk_at "u"
    refine c_roads (by walk_at "g") eq fun H3 k3 => ?_
    refine PvD.add (acc := ((w'.pl.map (·.2)).take i).map V.int) (by walk_at "g") (by simp; omega) fun H4 e4 k4 => ⟨by walk_at "k", ?_⟩
    rw [take_one (x := q.2) (by simp [eq]), List.map_append]
    rfl
  rintro acc H2 ea2 ⟨k2, rfl⟩
  rw [List.take_of_length_le (by simp; omega)] at ea2
  walk_at "u"
  refine s_rep (ints_sh ea2 rd (by simp; omega)) ?_
  walk_at "u"
  refine lc_sq (vs := vp) (by walk_at "gs") (fun D3 i acc H' => Kp [D3] H2 H' ∧ acc = ((w'.pl.map (·.2)).take i).map V.int) (fun D3 hD3 H3 e4 k3 => ⟨by walk_at "k", rfl⟩) (fun D3 hD3 i acc H' p o e => p.1.get1 e (ne_of_none e hD3)) ?_ ?_
  · rintro D3 hD3 i x acc H3 ex ea3 ⟨k3, rfl⟩
    obtain ⟨u, r, rfl, er, eu⟩ := r1.at ex
    obtain ⟨q, eq, rfl⟩ := rP_at er
    have hi := (List.getElem?_eq_some_iff.mp eq).1
    walk_at "u"
    refine ⟨rfl, ?_⟩
    walk_at "u"
    refine PvD.add ea3 (by simp; omega) fun H4 e4 k4 => ⟨by walk_at "k", ?_⟩
    rw [take_one (x := q.2) (by simp [eq]), List.map_append]
    rfl
  rintro D3 hD3 acc H3 ea3 ⟨k3, rfl⟩
  rw [List.take_of_length_le (by simp; omega)] at ea3
  walk_at "u"
  refine s_rep (ints_sh ea3 rd (by simp; omega)) ?_
  walk_at "u"
  rw [decide_eq_true rfl]
  walk_at "u"
  refine ⟨_, rfl, p, w', rfl, by walk_at "g", fun ln4 H4 f4 e4 k4 => ?_⟩
  walk_at "u"
  refine s_ilst (SqL.of (xs := (nms w').map V.str) (by walk_at "g")) ?_
  intro D5 hD5
  refine lc_L (vs := (nms w').map V.str) (by walk_at "g") hD5 (fun i acc H' => Kp [D5] H4 H' ∧ acc = ((List.range i).map fun k => ((k : Nat) : Int)).map V.int) (fun H5 e5 k5 => ⟨by walk_at "k", rfl⟩) (fun i acc H' p o e => p.1.get1 e (by walk_at "ne")) ?_ ?_
  · rintro i x acc H5 ex ea5 ⟨k5, rfl⟩
    rw [List.getElem?_map] at ex
    obtain ⟨zz, ez, rfl⟩ := Option.map_eq_some_iff.mp ex
    have hi := (List.getElem?_eq_some_iff.mp ez).1
    walk_at "u"
    refine ⟨rfl, ?_⟩
    walk_at "u"
    refine c_number_of (by walk_at "g") ez fun H6 k6 => ?_
    refine PvD.add (acc := ((List.range i).map fun k => ((k : Nat) : Int)).map V.int) (by walk_at "g") (by simp; omega) fun H7 e7 k7 => ⟨by walk_at "k", ?_⟩
    rw [range_snoc, List.map_append]
    rfl
  rintro acc H5 ea5 ⟨k5, rfl⟩
  rw [List.length_map, ln] at ea5
  walk_at "u"
  walk_at "na"
  intro l6' H6 f6 e6 k6
  obtain ⟨g1, g2, g3⟩ := strs_good (zs := nms w') fun z hz => (nms_ss gW hz).2
  obtain ⟨i1, i2, i3⟩ := ints_good (ns := (List.range w'.pl.length).map fun k => ((k : Nat) : Int)) fun x hx => by
    obtain ⟨k, hk, rfl⟩ := List.mem_map.mp hx
    have := List.mem_range.mp hk
    omega
  rw [List.length_map, List.length_range] at i3
  have sh2 : ∀ {H l la lb}, H l = some (.lst [.ref la, .ref lb]) → H la = some (.lst ((nms w').map V.str)) → H lb = some (.lst (((List.range w'.pl.length).map fun k => ((k : Nat) : Int)).map V.int)) → Sh K H (.ref l) (.list [.list ((nms w').map PyData.str), .list (((List.range w'.pl.length).map fun k => ((k : Nat) : Int)).map PyData.int)]) := fun e e' e'' =>
    sh_lst e (.cons (.lst (Or.inl e') (strs_dn _)) (.cons (.lst (Or.inl e'') (ints_dn _)) .nil)) ⟨⟨g1, i1, trivial⟩, by
      simp only [PyData.depthAll, PyData.depth]
      omega, by
      simp only [szA, sz]
      omega⟩
  walk_at "u"
  refine s_rep (sh2 e6 (by walk_at "g") (by walk_at "g")) ?_
  walk_at "u"
  refine s_lenl (xs := (nms w').map V.str) (by walk_at "g") ?_
  rw [List.length_map, ln]
  walk_at "u"
  refine s_rngN1 fun r7 H7 f7 e7 k7 => ?_
  walk_at "u"
  refine s_listR e7 (by omega) fun l8 H8 f8 e8 k8 => ?_
  rw [show ((w'.pl.length : Int) - 0).toNat = w'.pl.length by omega, rng0] at e8
  walk_at "u"
  walk_at "na"
  intro l9 H9 f9 e9 k9
  walk_at "u"
  refine s_rep (sh2 e9 (by walk_at "g") (by walk_at "g")) ?_
  walk_at "u"
  rw [decide_eq_true rfl]
  walk_at "u"
  refine lc_sq (vs := vl) (by walk_at "gs") (fun De i acc H' => Kp [De] H9 H' ∧ acc.length = i ∧ Rw H' acc (rE (w'.lo.take i))) (fun De hDe H10 e10 k10 => ⟨by walk_at "k", rfl, .nil⟩) (fun De hDe i acc H' p o e => p.1.get1 e (ne_of_none e hDe)) ?_ ?_
  · rintro De hDe i x acc H10 ex ea10 ⟨k10, la, R⟩
    obtain ⟨u, r, rfl, er, eu⟩ := r3.at ex
    obtain ⟨q, eq, rfl⟩ := rL_at er
    have hi := (List.getElem?_eq_some_iff.mp eq).1
    walk_at "u"
    refine ⟨rfl, ?_⟩
    walk_at "u"
    walk_at "na"
    intro t11 H11 f11 e11 k11
    refine PvD.add (acc := acc) (by walk_at "g") (by omega) fun H12 e12 k12 => ⟨by walk_at "k", by simp [la], ?_⟩
    rw [take_one eq]
    unfold rE
    rw [List.map_append]
    exact ((R.kp k11).kp k12).app (.one (k12.tgt e11))
  rintro De hDe acc H10 eE ⟨k10, _, R10⟩
  rw [lL, List.take_of_length_le (Nat.le_refl _)] at R10
  have z10 : Kz [] H H10 := ⟨by walk_at "k"⟩
  have en : H10 D = some (.lst ((nms w').map V.str)) := by walk_at "g"
  have L10 : Ln T H10 p w' := by walk_at "g"
  clear k10 k9 k8 k7 k6 k5 k4 k3 k2 k1 e9 e8 e7 e6 ea5 e4 ea3 ea2 ea f9 f8 f7 f6 f4 hD hD2 hD3 hD5 hDe at' hL e0 e1 e2 e3
  obtain ⟨z10⟩ := z10
  obtain ⟨tp, ts, tl, vp', vs', vl', at', _⟩ := L10.ex
  walk_at "u"
  refine for_eL en (fun i σ H' => Kp [] H10 H' ∧ ∃ u4 u5 u6 u7 u8 u9 u10 u11 u12 u13 u14, σ = [some (.ref p), some (.ref t), some (.ref D), some (.ref De), u4, u5, u6, u7, u8, u9, u10, u11, u12, u13, u14]) ⟨Kp.refl, _, _, _, _, _, _, _, _, _, _, _, rfl⟩ (fun i σ' H' p o e => p.1.get0 e) ?_ ?_
  · rintro i x σ H11 T1 H12 ex ⟨k11, u4, u5, u6, u7, u8, u9, u10, u11, u12, u13, u14, rfl⟩ f12 eT k12
    rw [List.getElem?_map] at ex
    obtain ⟨a, ea, rfl⟩ := Option.map_eq_some_iff.mp ex
    have hi := (List.getElem?_eq_some_iff.mp ea).1
    walk_at "u"
    refine for_eL (vs := (nms w').map V.str) (by walk_at "g") (fun j σ H' => Kp [] H12 H' ∧ ∃ u6 u7 u8 u9 u10 u11 u12 u13 u14, σ = [some (.ref p), some (.ref t), some (.ref D), some (.ref De), some (.int (i : Nat)), some (.str a), u6, u7, u8, u9, u10, u11, u12, u13, u14]) ⟨Kp.refl, _, _, _, _, _, _, _, _, _, rfl⟩ (fun i σ' H' p o e => p.1.get0 e) ?_ ?_
    · rintro j x σ H13 T2 H14 ex2 ⟨k13, u6, u7, u8, u9, u10, u11, u12, u13, u14, rfl⟩ f14 eT2 k14
      rw [List.getElem?_map] at ex2
      obtain ⟨b, eb, rfl⟩ := Option.map_eq_some_iff.mp ex2
      have hj := (List.getElem?_eq_some_iff.mp eb).1
      have em : (if (j : Int) < (i : Int) then (j : Int) else (i : Int)) = ((min i j : Nat) : Int) := by split <;> omega
      have ex' : (if (j : Int) > (i : Int) then (j : Int) else (i : Int)) = ((max i j : Nat) : Int) := by split <;> omega
      walk_at "u"
      rw [em, ex']
      walk_at "na"
      intro t15 H15 f15 e15 k15
      walk_at "s"
      refine s_seq (s_asg (s_lst (s_cons (jE (fun v H' => H15 = H' ∧ v = btw i j) (fun v H' => ?_) (fun _ key => ?_)))))
      rotate_left
      · walk_at "u"
        unfold btw at key
        refine s_ite (fun h => ?_) (fun h => ?_)
        · walk_at "u"
          exact key _ _ ⟨rfl, by rw [if_pos (by omega)]⟩
        · walk_at "u"
          exact key _ _ ⟨rfl, by rw [if_neg (by omega)]⟩
      rintro ⟨rfl, rfl⟩
      refine s_cons (jE (fun v H' => H15 = H' ∧ v = lbV w'.lo (min i j : Nat) (max i j : Nat)) (fun v H' => ?_) (fun _ key => ?_))
      rotate_left
      · have z15 : Kz [] H10 H15 := ⟨by walk_at "k"⟩
        have dl : Dn K H15 (.ref De) (.list (w'.lo.map dE)) := .lst (Or.inl (by walk_at "g")) (rE_dn (R10.kp z15.k))
        have dp := dn2 (K := K) e15
        walk_at "u"
        refine s_inD dl dp (shp_E _) shp2 ?_
        rw [any_lb]
        cases ef : (List.range w'.lo.length).find? (lbP w'.lo (min i j : Nat) (max i j : Nat)) with
        | none =>
          walk_at "u"
          exact key _ _ ⟨rfl, by unfold lbV; rw [ef]; rfl⟩
        | some m =>
          obtain ⟨m1, m2, m3⟩ := List.find?_range_eq_some.mp ef
          have m2 : m < w'.lo.length := by simpa using m2
          walk_at "u"
          refine s_ixD dl dp (shp_E _) shp2 (j := m) (by rw [List.getElem?_map, List.getElem?_eq_getElem m2]; rfl) (by rw [lb_eqv (List.getElem?_eq_getElem m2)]; exact m1) (fun m' z' hm' ez => ?_) ?_
          · rw [List.getElem?_map, List.getElem?_eq_getElem (show m' < w'.lo.length by omega)] at ez
            cases ez
            rw [lb_eqv (List.getElem?_eq_getElem (show m' < w'.lo.length by omega))]
            simpa using m3 m' hm'
          · walk_at "u"
            exact key _ _ ⟨rfl, by unfold lbV; rw [ef]; rfl⟩
      rintro ⟨rfl, rfl⟩
      have hb : ∀ H, Dn K H (btw i j) (nv (if i + 1 = j ∨ j + 1 = i then some (min i j) else none)) := fun H => by
        unfold btw
        by_cases c : i + 1 = j ∨ j + 1 = i
        · rw [if_pos c, if_pos c]; exact optV_dn (o := some (min i j))
        · rw [if_neg c, if_neg c]; exact optV_dn (o := none)
      have b1 := nv_bd (o := if i + 1 = j ∨ j + 1 = i then some (min i j) else none) fun j' e => by
        split at e
        · cases e; omega
        · cases e
      have b2 := nv_bd (o := (List.range w'.lo.length).find? (lbP w'.lo (min i j : Nat) (max i j : Nat))) fun j' e => lo_find gW e
      have shd : ∀ {H l}, H l = some (.lst [btw i j, lbV w'.lo (min i j : Nat) (max i j : Nat)]) → Sh K H (.ref l) (.list [nv (if i + 1 = j ∨ j + 1 = i then some (min i j) else none), nv ((List.range w'.lo.length).find? (lbP w'.lo (min i j : Nat) (max i j : Nat)))]) := fun e =>
        sh_lst e (.cons (hb _) (.cons optV_dn .nil)) ⟨⟨b1.1, b2.1, trivial⟩, by
          have := b1.2.1
          have := b2.2.1
          simp only [PyData.depthAll]
          omega, by
          have := b1.2.2
          have := b2.2.2
          simp only [szA]
          omega⟩
      walk_at "u"
      walk_at "na"
      intro l16 H16 f16 e16 k16
      walk_at "u"
      refine c_btw (f := fun _ i j => btw i j) (by walk_at "g") ea eb fun H17 k17 => ?_
      walk_at "u"
      refine c_btw (f := fun w i j => lbV w.lo (min i j : Nat) (max i j : Nat)) (by walk_at "g") ea eb fun H18 k18 => ?_
      walk_at "u"
      walk_at "na"
      intro l19 H19 f19 e19 k19
      walk_at "u"
      refine s_rep (shd e19) ?_
      walk_at "u"
      refine s_rep (shd (by walk_at "g")) ?_
      walk_at "u"
      rw [decide_eq_true rfl]
      walk_at "u"
      exact ⟨by walk_at "k", _, _, _, _, _, _, _, _, _, rfl⟩
    · rintro σ H13 ⟨k13, u6, u7, u8, u9, u10, u11, u12, u13, u14, rfl⟩
      walk_at "u"
      exact ⟨by walk_at "k", _, _, _, _, _, _, _, _, _, _, _, rfl⟩
  · rintro σ H11 ⟨k11, u4, u5, u6, u7, u8, u9, u10, u11, u12, u13, u14, rfl⟩
    walk_at "u"
    refine ⟨_, _, rfl, p, t, w', rfl, rfl, by walk_at "g", hW.kp (z10.trans k11), fun H12 k12 => ?_⟩
    exact k _ ((z10.trans k11).trans k12)

theorem let_ss : SS ("abcdefghijklmnopqrstuvwxyz" : Str) 26 := SS.mk' (by decide +kernel)
def letL : List Nat := [97, 98, 99, 100, 101, 102, 103, 104, 105, 106, 107, 108, 109, 110, 111, 112, 113, 114, 115, 116, 117, 118, 119, 120, 121, 122]
theorem let_eq : letters = S letL := by decide +kernel
theorem let_cps : letters.cps.toList = letL := by rw [let_eq, S_cps]
theorem let_nd : letL.Nodup := by decide
theorem let_small : ∀ c ∈ letL, c < 1114112 := by decide
def okW (cs : List Nat) : Prop := 1 ≤ cs.length ∧ cs.length ≤ 6 ∧ ∀ c ∈ cs, c ∈ letL
theorem okW.nm {cs : List Nat} (h : okW cs) : isName (.str (S cs)) = true ∧ SS (S cs) 20 := by
  obtain ⟨h1, h2, h3⟩ := h
  refine ⟨?_, SS.S (by omega) fun c hc => let_small c (h3 c hc)⟩
  unfold isName
  simp only [Bool.and_eq_true, decide_eq_true_eq, List.all_eq_true, S_len, S_cps, let_cps]
  exact ⟨⟨h1, h2⟩, fun c hc => h3 c hc⟩
structure NmsOk (zs : List Str) : Prop where
  nd : zs.Nodup
  ok : ∀ z ∈ zs, isName (.str z) = true ∧ SS z 20
theorem nms_of {F : Nat → List Nat} {n : Nat} (h : ∀ k, k < n → okW (F k)) (i : ∀ j k, j < n → k < n → F j = F k → j = k) : NmsOk ((List.range n).map fun k => S (F k)) :=
  ⟨range_nodup fun j k hj hk e => i j k hj hk (S_inj e), fun z hz => by
    obtain ⟨k, hk, rfl⟩ := List.mem_map.mp hz
    exact (h k (List.mem_range.mp hk)).nm⟩
theorem let_at {i : Int} (h0 : 0 ≤ i) (h1 : i < 26) : ∃ c, c ∈ letL ∧ letL[i.toNat]? = some c ∧ atI ("abcdefghijklmnopqrstuvwxyz" : Str).cps.toList i = some c := by
  have e : ("abcdefghijklmnopqrstuvwxyz" : Str).cps.toList = letL := let_cps
  rw [e]
  obtain ⟨c, e1, e2⟩ := at_int (xs := letL) h0 (by simpa [letL] using h1)
  exact ⟨c, List.mem_of_getElem? e1, e1, e2⟩
def wordsL : List Str := ["place", "staff", "ticket", "low", "high", "long", "pilot", "train", "at", "to", "in", "get", "a"]
theorem wordsL_ok : (wordsL.all fun z => decide (1 ≤ z.cps.toList.length) && decide (z.cps.toList.length ≤ 6) && z.cps.toList.all fun c => decide (c ∈ letL)) = true := by decide +kernel
theorem wordsL_nd : wordsL.Nodup := by decide +kernel
def sp_law_names : Sp := sp2 fun x y H Q _ => ∃ (p : Addr) (n many : Nat), x = .ref p ∧ y = .int many ∧ 1 ≤ many ∧ many ≤ 7 ∧ Box H p n ∧ n ≤ 900000 ∧
  ∀ (l : Addr) (zs : List Str) (H' : Hp), H l = none → H' l = some (.lst (zs.map V.str)) → zs.length = many → NmsOk zs → Box H' p (n + 10) → Kp [p] H H' → Q (.ref l) H'
set_option maxHeartbeats 16000000 in
theorem ok_law_names (T : Tx K mg) : FnOk P w K mg base (L2.CX P w) 2 T.a_law_names T.d_law_names ["_law_box_here", "_law_many"] (sp_law_names) := by
  have G_law_take := ok_law_take (P := P) (w := w) (base := base) T
  refine T.F_law_names.okX sc_law_names (fun vs H Q E h => ?_) (fun cd A o s H vs Q E hr h => ?_)
  · obtain ⟨v0, v1, rfl, h⟩ := h; rfl
  obtain ⟨v0, v1, rfl, h⟩ := h
  obtain ⟨p, n, many, rfl, rfl, hm1, hm7, hB, hn, k⟩ := h
  refine ⟨_, (pss_cons (ps_set (i := 2) sc_law_names.nd rfl (Or.inr rfl) pe_str)
    (pss_cons (ps_set (i := 3) sc_law_names.nd rfl (Or.inr rfl) (pe_lst (pa_cons pe_str (pa_cons pe_str (pa_cons pe_str (pa_cons pe_str (pa_cons pe_str (pa_cons pe_str (pa_cons pe_str (pa_cons pe_str (pa_cons pe_str (pa_cons pe_str (pa_cons pe_str (pa_cons pe_str (pa_cons pe_str pa_nil)))))))))))))))
    (pss_cons (ps_set (i := 4) sc_law_names.nd rfl (Or.inl rfl) (pe_co G_law_take (hr.mono (by decide)) rfl T.m_law_take T.F_law_take.kp T.B_law_take (takes_of (E := E) rfl rfl rfl rfl) (pa_cons (pv 0) (pa_cons pe_int pa_nil))))
    (pss_cons (ps_set (i := 5) sc_law_names.nd rfl (Or.inr rfl) (pe_co G_law_take (hr.mono (by decide)) rfl T.m_law_take T.F_law_take.kp T.B_law_take (takes_of (E := E) rfl rfl rfl rfl) (pa_cons (pv 0) (pa_cons pe_int pa_nil))))
    (pss_cons (ps_if (pt_cmpR (o_eq (K := K) rfl hr) (pv 4) pe_int (nomark _))
    (pss_one (ps_ret (pe_lc (own := [("_law_k", 8)]) rfl sc_law_names.nd (pi_range1 rfl T.z_range (pa_cons (pv 1) pa_nil)) (blkOk_by (own := [("_law_k", 8)]) (N := N_law_names) (sc := defScope s_law_names) (by decide +kernel)) (fun _ _ _ _ _ => (pg_name (i := 8) sc_law_names.nd rfl (Or.inl rfl))) (fun _ _ _ _ _ => pts_nil) (fun _ _ _ _ _ => (pe_ix (ix_u (K := K) rfl) (pv 3) (pe_op o_mod (pe_op (o_add (K := K) rfl) (pv 5) (pe_op o_mul pe_int (pv 8))) pe_int) (fun _ _ => rfl))))))
    pss_nil)
    (pss_cons (ps_set (i := 6) sc_law_names.nd rfl (Or.inr rfl) (pe_joinU (K := K) rfl pe_str (pe_lc (own := [("_law_k", 8)]) rfl sc_law_names.nd (pi_range1 rfl T.z_range (pa_cons pe_int pa_nil)) (blkOk_by (own := [("_law_k", 8)]) (N := N_law_names) (sc := defScope s_law_names) (by decide +kernel)) (fun _ _ _ _ _ => (pg_name (i := 8) sc_law_names.nd rfl (Or.inl rfl))) (fun _ _ _ _ _ => pts_nil) (fun _ _ _ _ _ => (pe_ix (ix_u (K := K) rfl) (pv 2) (pe_co G_law_take (hr.mono (by decide)) rfl T.m_law_take T.F_law_take.kp T.B_law_take takes0 (pa_cons (pv 0) (pa_cons pe_int pa_nil))) (fun _ _ => rfl))))))
    (pss_cons (ps_if (PW.pt (pw_and (pt_cmpR (o_eq (K := K) rfl hr) (pv 4) pe_int (nomark _)) (pw_and1 (pt_cmpR o_lt (pv 1) pe_int (nomark _)))))
    (pss_one (ps_ret (pe_lc (own := [("_law_k", 8)]) rfl sc_law_names.nd (pi_range1 rfl T.z_range (pa_cons (pv 1) pa_nil)) (blkOk_by (own := [("_law_k", 8)]) (N := N_law_names) (sc := defScope s_law_names) (by decide +kernel)) (fun _ _ _ _ _ => (pg_name (i := 8) sc_law_names.nd rfl (Or.inl rfl))) (fun _ _ _ _ _ => pts_nil) (fun _ _ _ _ _ => (pe_slice (sl_u (K := K) rfl) (pv 6) po_none (po_some (pe_op (o_add (K := K) rfl) pe_int (pe_op o_mod (pe_op (o_add (K := K) rfl) (pv 5) (pe_op o_mul pe_int (pv 8))) pe_int))))))))
    pss_nil)
    (pss_cons (ps_set (i := 7) sc_law_names.nd rfl (Or.inr rfl) (pe_co G_law_take (hr.mono (by decide)) rfl T.m_law_take T.F_law_take.kp T.B_law_take (takes_of (E := E) rfl rfl rfl rfl) (pa_cons (pv 0) (pa_cons pe_int pa_nil))))
    (pss_one (ps_ret (pe_lc (own := [("_law_k", 8)]) rfl sc_law_names.nd (pi_range1 rfl T.z_range (pa_cons (pv 1) pa_nil)) (blkOk_by (own := [("_law_k", 8)]) (N := N_law_names) (sc := defScope s_law_names) (by decide +kernel)) (fun _ _ _ _ _ => (pg_name (i := 8) sc_law_names.nd rfl (Or.inl rfl))) (fun _ _ _ _ _ => pts_nil) (fun _ _ _ _ _ => (pe_op (o_add (K := K) rfl) (pe_op (o_add (K := K) rfl) (pe_slice (sl_u (K := K) rfl) (pv 6) po_none (po_some (pv 7))) (pe_ix (ix_u (K := K) rfl) (pv 2) (pe_op o_mod (pe_op (o_add (K := K) rfl) (pv 5) (pe_op o_mul pe_int (pv 8))) pe_int) (fun _ _ => rfl))) (pe_slice (sl_u (K := K) rfl) (pv 6) (po_some (pv 7)) (po_some (pe_op (o_add (K := K) rfl) (pv 7) (pe_op o_mod (pe_op (o_add (K := K) rfl) (pv 5) (pv 8)) (pe_op o_sub pe_int (pv 7))))))))))))))))))), ?_⟩
  rw [st_law_names]
  have kf : ∀ {l : Addr} {F : Nat → List Nat} {H' : Hp}, H l = none → H' l = some (.lst ((List.range many).map fun k => V.str (S (F k)))) → (∀ k, k < many → okW (F k)) → (∀ j k, j < many → k < many → F j = F k → j = k) → Box H' p (n + 10) → Kp [p] H H' → Q (.ref l) H' := fun f e h1 h2 hB' k' => by
    refine k _ _ _ f ?_ ?_ (nms_of h1 h2) hB' k'
    · rw [List.map_map]; exact e
    · simp
  walk_at "u"
  walk_at "na"
  intro l1 H1 f1 e1 k1
  walk_at "u"
  walk_at "tk"
  intro way H2 w0 w1 B2 k2
  walk_at "u"
  walk_at "tk"
  intro first H3 i0 i1 B3 k3
  walk_at "u"
  refine s_ite (fun h => ?_) (fun h => ?_)
  · walk_at "u"
    refine s_rng (by omega) (by omega) ?_
    intro D hD
    let F : Nat → List Nat := fun k => (wordsL.getD ((first + 5 * (0 + (k : Int))) % 13).toNat "").cps.toList
    refine lc_R hD (fun i acc H' => Kp [D] H3 H' ∧ acc = (List.range i).map fun k => V.str (S (F k))) (fun H4 e4 k4 => ⟨by walk_at "k", rfl⟩) ?_ ?_
    · rintro i acc H4 hi ea ⟨k4, rfl⟩
      walk_at "u"
      refine ⟨rfl, ?_⟩
      walk_at "u"
      have j0 : 0 ≤ (first + 5 * (0 + (i : Int))) % 13 := Int.emod_nonneg _ (by decide)
      have j1 : (first + 5 * (0 + (i : Int))) % 13 < 13 := Int.emod_lt_of_pos _ (by decide)
      obtain ⟨v, hv, ev⟩ := at_int (xs := wordsL.map V.str) j0 (by simpa [wordsL] using j1)
      rw [List.getElem?_map] at hv
      obtain ⟨z, ez, rfl⟩ := Option.map_eq_some_iff.mp hv
      have e1' : H1 l1 = some (.lst (wordsL.map V.str)) := e1
      refine s_ixl (by walk_at "g") ev ?_
      refine PvD.add ea (by simp; omega) fun H5 e5 k5 => ⟨by walk_at "k", ?_⟩
      rw [range_snoc]
      congr 1
      show [V.str z] = [V.str (S (wordsL.getD _ "").cps.toList)]
      rw [S_of, List.getD_eq_getElem?_getD, ez]
      rfl
    · rintro acc H4 ea ⟨k4, rfl⟩
      walk_at "u"
      refine kf (F := F) (by walk_at "f") ea (fun k hk => ?_) (fun j k hj hk e => ?_) (Box.more (n := n + 2) (by walk_at "g") (by omega)) (by walk_at "k")
      · have j1 : ((first + 5 * (0 + (k : Int))) % 13).toNat < 13 := by omega
        have hm : wordsL.getD ((first + 5 * (0 + (k : Int))) % 13).toNat "" ∈ wordsL := by
          rw [List.getD_eq_getElem?_getD, List.getElem?_eq_getElem (show _ < wordsL.length by simpa [wordsL] using j1)]
          exact List.getElem_mem _
        have := List.all_eq_true.mp wordsL_ok _ hm
        simp only [Bool.and_eq_true, decide_eq_true_eq, List.all_eq_true] at this
        exact ⟨this.1.1, this.1.2, this.2⟩
      · have j1 : ((first + 5 * (0 + (j : Int))) % 13).toNat < wordsL.length := by simp only [wordsL, List.length_cons, List.length_nil]; omega
        have j2 : ((first + 5 * (0 + (k : Int))) % 13).toNat < wordsL.length := by simp only [wordsL, List.length_cons, List.length_nil]; omega
        have e' : wordsL.getD ((first + 5 * (0 + (j : Int))) % 13).toNat "" = wordsL.getD ((first + 5 * (0 + (k : Int))) % 13).toNat "" := by
          have := congrArg S e
          rwa [S_of, S_of] at this
        rw [List.getD_eq_getElem?_getD, List.getD_eq_getElem?_getD, List.getElem?_eq_getElem j1, List.getElem?_eq_getElem j2] at e'
        have := (List.getElem_inj wordsL_nd).mp (show wordsL[_] = wordsL[_] from e')
        omega
  · walk_at "u"
    refine s_rng (by omega) (by omega) ?_
    intro D hD
    refine lc_R hD (fun i acc H' => Kp [p, D] H3 H' ∧ Box H' p (n + 2 + i) ∧ ∃ cs : List Nat, (∀ c ∈ cs, c ∈ letL) ∧ cs.length = i ∧ acc = cs.map fun c => V.str ⟨#[c]⟩) (fun H4 e4 k4 => ⟨by walk_at "k", by walk_at "g", [], by simp, rfl, rfl⟩) ?_ ?_
    · rintro i acc H4 hi ea ⟨k4, B4, cs, hcs, hl, rfl⟩
      walk_at "u"
      refine ⟨rfl, ?_⟩
      walk_at "u"
      walk_at "tk"
      intro d5 H5 d50 d51 B5 k5
      walk_at "u"
      obtain ⟨c, hc, _, hc2⟩ := let_at d50 d51
      refine s_ixs (by decide +kernel) hc2 ?_
      refine PvD.add (acc := cs.map fun c => V.str ⟨#[c]⟩) (by walk_at "g") (by simp; omega) fun H6 e6 k6 => ⟨by walk_at "k", by walk_at "g", cs ++ [c], ?_, by simp [hl], by simp⟩
      intro y hy
      rcases List.mem_append.mp hy with hy | hy
      · exact hcs y hy
      · rw [List.mem_singleton.mp hy]; exact hc
    · rintro acc H4 ea ⟨k4, B4, cs, hcs, hl, rfl⟩
      walk_at "u"
      refine s_join (ys := cs.map fun c => ⟨#[c]⟩) (by rw [List.map_map]; exact ea) ?_ ?_
      · rw [ones_len, List.length_map, show (Str.ofString "").length = 0 by decide +kernel]
        omega
      rw [S_join]
      have hl6 : cs.length = 6 := by simpa using hl
      have sS : (S cs).length = 6 := by rw [S_len]; exact hl6
      clear hl
      walk_at "w"
      refine s_ifS (jT (fun b H' => H4 = H' ∧ (b = true → way = 1 ∧ many < 7)) (fun b H' => ?_) (fun _ key => ?_))
      rotate_left
      · walk_at "u"
        refine s_ite (fun h => ?_) (fun h => ?_)
        · walk_at "u"
          exact key _ _ ⟨rfl, fun e => ⟨h, by have := of_decide_eq_true e; omega⟩⟩
        · exact key _ _ ⟨rfl, fun e => by cases e⟩
      rintro ⟨rfl, hb⟩
      cases b with
      | true =>
        obtain ⟨hw1, hm6⟩ := hb rfl
        walk_at "u"
        refine s_rng (by omega) (by omega) ?_
        intro L hL
        let F : Nat → List Nat := fun k => cs.take (1 + (first + 5 * (0 + (k : Int))) % 6).toNat
        refine lc_R hL (fun i acc H' => Kp [L] H4 H' ∧ acc = (List.range i).map fun k => V.str (S (F k))) (fun H5 e5 k5 => ⟨by walk_at "k", rfl⟩) ?_ ?_
        · rintro i acc H5 hi ea5 ⟨k5, rfl⟩
          walk_at "u"
          refine ⟨rfl, ?_⟩
          walk_at "u"
          refine s_sls (zle (by omega)) ?_
          rw [S_pre cs (by omega)]
          refine PvD.add ea5 (by simp; omega) fun H6 e6 k6 => ⟨by walk_at "k", ?_⟩
          rw [range_snoc]
        · rintro acc H5 ea5 ⟨k5, rfl⟩
          walk_at "u"
          refine kf (F := F) (by walk_at "f") ea5 (fun k hk => ?_) (fun j k hj hk e => ?_) (Box.more (n := n + 2 + 6) (by walk_at "g") (by omega)) (by walk_at "k")
          · refine ⟨?_, ?_, fun c hc => hcs c (List.mem_of_mem_take hc)⟩
            · show 1 ≤ (cs.take _).length; rw [List.length_take]; omega
            · show (cs.take _).length ≤ 6; rw [List.length_take]; omega
          · have := congrArg List.length e
            simp only [F, List.length_take, hl6] at this
            omega
      | false =>
        walk_at "u"
        walk_at "tk"
        intro at' H5 a0 a1 B5 k5
        walk_at "u"
        refine s_rng (by omega) (by omega) ?_
        intro L hL
        let F : Nat → List Nat := fun k => cs.take at'.toNat ++ [letL.getD ((first + 7 * (0 + (k : Int))) % 26).toNat 0] ++ (cs.drop at'.toNat).take ((at' + (first + (0 + (k : Int))) % (6 - at')).toNat - at'.toNat)
        refine lc_R hL (fun i acc H' => Kp [L] H5 H' ∧ acc = (List.range i).map fun k => V.str (S (F k))) (fun H6 e6 k6 => ⟨by walk_at "k", rfl⟩) ?_ ?_
        · rintro i acc H6 hi ea6 ⟨k6, rfl⟩
          walk_at "u"
          refine ⟨rfl, ?_⟩
          walk_at "u"
          refine s_sls (zle (by omega)) ?_
          rw [S_pre cs a0]
          walk_at "u"
          have j0 : 0 ≤ (first + 7 * (0 + (i : Int))) % 26 := Int.emod_nonneg _ (by decide)
          have j1 : (first + 7 * (0 + (i : Int))) % 26 < 26 := Int.emod_lt_of_pos _ (by decide)
          obtain ⟨c, hc, ec, hc2⟩ := let_at j0 j1
          refine s_ixs (by decide +kernel) hc2 ?_
          have eS : (⟨#[c]⟩ : Str) = S [c] := rfl
          rw [eS]
          refine s_adds (zle (by rw [S_len, S_len]; simp; omega)) ?_
          rw [S_app]
          walk_at "u"
          have m0 : 0 ≤ (first + (0 + (i : Int))) % (6 - at') := Int.emod_nonneg _ (by omega)
          have m1 : (first + (0 + (i : Int))) % (6 - at') < 6 - at' := Int.emod_lt_of_pos _ (by omega)
          refine s_sls (zle (by omega)) ?_
          rw [S_mid cs a0 (by omega)]
          refine s_adds (zle (by rw [S_len, S_len]; simp; omega)) ?_
          rw [S_app]
          refine PvD.add ea6 (by simp; omega) fun H7 e7 k7 => ⟨by walk_at "k", ?_⟩
          rw [range_snoc]
          congr 1
          show [V.str (S _)] = [V.str (S (F i))]
          simp only [F, List.getD_eq_getElem?_getD, ec, Option.getD_some]
        · rintro acc H6 ea6 ⟨k6, rfl⟩
          walk_at "u"
          have gl : ∀ k : Nat, ∃ c, c ∈ letL ∧ letL[((first + 7 * (0 + (k : Int))) % 26).toNat]? = some c := fun k => by
            obtain ⟨c, hc, ec, _⟩ := let_at (i := (first + 7 * (0 + (k : Int))) % 26) (Int.emod_nonneg _ (by decide)) (Int.emod_lt_of_pos _ (by decide))
            exact ⟨c, hc, ec⟩
          refine kf (F := F) (by walk_at "f") ea6 (fun k hk => ?_) (fun j k hj hk e => ?_) (Box.more (n := n + 2 + 6 + 1) (by walk_at "g") (by omega)) (by walk_at "k")
          · obtain ⟨c, hc, ec⟩ := gl k
            have m0 : 0 ≤ (first + (0 + (k : Int))) % (6 - at') := Int.emod_nonneg _ (by omega)
            have m1 : (first + (0 + (k : Int))) % (6 - at') < 6 - at' := Int.emod_lt_of_pos _ (by omega)
            refine ⟨by simp [F]; omega, ?_, ?_⟩
            · simp only [F, List.length_append, List.length_take, List.length_drop, List.length_cons, List.length_nil, hl6]
              omega
            · intro x hx
              simp only [F, List.mem_append, List.mem_singleton, List.getD_eq_getElem?_getD, ec, Option.getD_some] at hx
              rcases hx with (hx | rfl) | hx
              · exact hcs x (List.mem_of_mem_take hx)
              · exact hc
              · exact hcs x (List.mem_of_mem_drop (List.mem_of_mem_take hx))
          · obtain ⟨c, hc, ec⟩ := gl j
            obtain ⟨c', hc', ec'⟩ := gl k
            have hF : ∀ (k : Nat) (c : Nat), letL[((first + 7 * (0 + (k : Int))) % 26).toNat]? = some c → (F k)[at'.toNat]? = some c := fun k c ec => by
              simp only [F, List.append_assoc]
              rw [List.getElem?_append_right (by rw [List.length_take]; omega), List.length_take, hl6, show at'.toNat - min at'.toNat 6 = 0 by omega]
              simp only [List.getD_eq_getElem?_getD, ec, Option.getD_some]
              rfl
            have := hF j c ec
            rw [e, hF k c' ec'] at this
            cases this
            have hj := (List.getElem?_eq_some_iff.mp ec).1
            have := (List.getElem?_inj hj let_nd).mp (ec.trans ec'.symm)
            omega
theorem NmsOk.cut {zs : List Str} (h : NmsOk zs) (n : Nat) : NmsOk (zs.take n) := ⟨h.nd.sublist (List.take_sublist _ _), fun z hz => h.ok z (List.mem_of_mem_take hz)⟩

theorem cut_last (xs : List V) (n : Nat) (h : xs.length = n + 1) : cutV xs none (some (-1)) = xs.take n := by
  unfold cutV
  rw [h, HT.sIx_none, List.drop_zero]
  simp only [HT.sIx]
  rw [if_pos (by decide)]
  congr 1
  omega
theorem low_app (lo : Lo) (q : Int × Int × Int) {low high : Int} (h : GoodL low high lo) (h1 : lowAt low lo lo.length ≤ q.1) (h2 : q.1 + 2 ≤ q.2.1) (h3 : q.2.1 ≤ high) (h4 : q.2.2 = 0 ∨ q.2.2 = 1) : GoodL low high (lo ++ [q]) := by
  induction lo generalizing low with
  | nil => exact ⟨h1, h2, h3, h4, trivial⟩
  | cons p r ih =>
    refine ⟨h.1, h.2.1, h.2.2.1, h.2.2.2.1, ih h.2.2.2.2 ?_⟩
    cases r with
    | nil => simpa [lowAt] using h1
    | cons p' r =>
      simp only [List.length_cons, lowAt, List.getElem?_cons_succ] at h1 ⊢
      have hi : r.length < (p' :: r).length := by simp
      rw [List.getElem?_eq_getElem hi] at h1 ⊢
      exact h1
theorem lowAt_app (lo : Lo) (q : Int × Int × Int) (low : Int) : lowAt low (lo ++ [q]) (lo ++ [q]).length = q.2.1 := by
  simp [lowAt]
def sp_law_world : Sp := sp1 fun x H Q _ => ∃ (p : Addr) (n : Nat), x = .ref p ∧ Box H p n ∧ n ≤ 800000 ∧
  ∀ (t a1 a2 a3 : Addr) (w : Wo) (vp vs vl : List V) (z : Str) (H' : Hp), H t = none → H' t = some (.lst [.ref a1, .ref a2, .ref a3, .str z]) → H a1 = none → H' a1 = some (.lst vp) → H a2 = none → H' a2 = some (.lst vs) → H a3 = none → H' a3 = some (.lst vl) →
    a1 ≠ a2 → a1 ≠ a3 → a2 ≠ a3 → t ≠ a1 → t ≠ a2 → t ≠ a3 →
    Rw H' vp (rP w.pl) → Rw H' vs (rP w.st) → Rw H' vl (rL w.lo) → GoodW w → isName (.str z) = true → SS z 20 → z ∉ nms w → Box H' p (n + 60) → Kp [p] H H' → Q (.ref t) H'
set_option maxHeartbeats 16000000 in
theorem ok_law_world (T : Tx K mg) : FnOk P w K mg base (L2.CX P w) 3 T.a_law_world T.d_law_world ["_law_box_here"] (sp_law_world) := by
  have G_law_names := ok_law_names (P := P) (w := w) (base := base) T
  have G_law_take := ok_law_take (P := P) (w := w) (base := base) T
  refine T.F_law_world.okX sc_law_world (fun vs H Q E h => ?_) (fun cd A o s H vs Q E hr h => ?_)
  · obtain ⟨v0, rfl, h⟩ := h; rfl
  obtain ⟨v0, rfl, h⟩ := h
  obtain ⟨p, n, rfl, hB, hn, k⟩ := h
  refine ⟨_, (pss_cons (ps_set (i := 1) sc_law_world.nd rfl (Or.inl rfl) (pe_op (o_add (K := K) rfl) pe_int (pe_co G_law_take (hr.mono (by decide)) rfl T.m_law_take T.F_law_take.kp T.B_law_take (takes_of (E := E) rfl rfl rfl rfl) (pa_cons (pv 0) (pa_cons pe_int pa_nil)))))
    (pss_cons (ps_set (i := 2) sc_law_world.nd rfl (Or.inl rfl) (pe_co G_law_names (hr.mono (by decide)) rfl T.m_law_names T.F_law_names.kp T.B_law_names (takes_of (E := E) rfl rfl rfl rfl) (pa_cons (pv 0) (pa_cons (pe_op (o_add (K := K) rfl) (pv 1) pe_int) pa_nil))))
    (pss_cons (ps_setLc (i := 3) (own := [("_law_name", 10)]) rfl sc_law_world.nd rfl rfl (sw_true rfl rfl rfl (by decide +kernel)) (pi_lst (K := K) rfl (pe_slice (sl_u (K := K) rfl) (pv 2) po_none (po_some (pe_un un_neg pe_int)))) (blkOk_by (own := [("_law_name", 10)]) (N := N_law_world) (sc := defScope s_law_world) (by decide +kernel)) (fun _ _ _ _ _ => (pg_name (i := 10) sc_law_world.nd rfl (Or.inl rfl))) (fun _ _ _ _ _ => pts_nil) (fun _ _ _ _ _ => (pe_tup (pa_cons (pv 10) (pa_cons (pe_op (o_add (K := K) rfl) pe_int (pe_co G_law_take (hr.mono (by decide)) rfl T.m_law_take T.F_law_take.kp T.B_law_take takes0 (pa_cons (pv 0) (pa_cons pe_int pa_nil)))) pa_nil)))))
    (pss_cons (ps_setLc (i := 4) (own := [("_law_k", 11)]) rfl sc_law_world.nd rfl rfl (sw_true rfl rfl rfl (by decide +kernel)) (pi_range1 rfl T.z_range (pa_cons (pe_op o_sub (pv 1) pe_int) pa_nil)) (blkOk_by (own := [("_law_k", 11)]) (N := N_law_world) (sc := defScope s_law_world) (by decide +kernel)) (fun _ _ _ _ _ => (pg_name (i := 11) sc_law_world.nd rfl (Or.inl rfl))) (fun _ _ _ _ _ => pts_nil) (fun _ _ _ _ _ => (pe_tup (pa_cons (pe_ix (ix_u (K := K) rfl) (pe_lst (pa_cons pe_str (pa_cons pe_str pa_nil))) (pe_co G_law_take (hr.mono (by decide)) rfl T.m_law_take T.F_law_take.kp T.B_law_take takes0 (pa_cons (pv 0) (pa_cons pe_int pa_nil))) (fun _ _ => rfl)) (pa_cons (pe_co G_law_take (hr.mono (by decide)) rfl T.m_law_take T.F_law_take.kp T.B_law_take takes0 (pa_cons (pv 0) (pa_cons pe_int pa_nil))) pa_nil)))))
    (pss_cons (ps_set (i := 5) sc_law_world.nd rfl (Or.inl rfl) (pe_lst pa_nil))
    (pss_cons (ps_set (i := 6) sc_law_world.nd rfl (Or.inl rfl) pe_int)
    (pss_cons (ps_for PassesOwn.leaving rfl (pi_range1 rfl T.z_range (pa_cons (pe_co G_law_take (hr.mono (by decide)) rfl T.m_law_take T.F_law_take.kp T.B_law_take (takes_of (E := E) rfl rfl rfl rfl) (pa_cons (pv 0) (pa_cons pe_int pa_nil))) pa_nil)) (pg_name (i := 7) sc_law_world.nd rfl (Or.inl rfl))
    (pss_one (ps_if (pt_cmpR o_lt (pe_op (o_add (K := K) rfl) (pv 6) pe_int) (pv 1) (nomark _))
    (pss_cons (ps_set (i := 8) sc_law_world.nd rfl (Or.inl rfl) (pe_op (o_add (K := K) rfl) (pv 6) (pe_co G_law_take (hr.mono (by decide)) rfl T.m_law_take T.F_law_take.kp T.B_law_take (takes_of (E := E) rfl rfl rfl rfl) (pa_cons (pv 0) (pa_cons (pe_op o_sub (pe_op o_sub (pv 1) pe_int) (pv 6)) pa_nil)))))
    (pss_cons (ps_set (i := 9) sc_law_world.nd rfl (Or.inl rfl) (pe_op (o_add (K := K) rfl) (pe_op (o_add (K := K) rfl) (pv 8) pe_int) (pe_co G_law_take (hr.mono (by decide)) rfl T.m_law_take T.F_law_take.kp T.B_law_take (takes_of (E := E) rfl rfl rfl rfl) (pa_cons (pv 0) (pa_cons (pe_op o_sub (pe_op o_sub (pv 1) pe_int) (pv 8)) pa_nil)))))
    (pss_cons (ps_expr (pe_bm PySem.F.plainAttrs_list PySem.F.slot_list_append PySem.F.type_list_append mt_append (pv 5) (pa_cons (pe_tup (pa_cons (pv 8) (pa_cons (pv 9) (pa_cons (pe_co G_law_take (hr.mono (by decide)) rfl T.m_law_take T.F_law_take.kp T.B_law_take (takes_of (E := E) rfl rfl rfl rfl) (pa_cons (pv 0) (pa_cons pe_int pa_nil))) pa_nil)))) pa_nil)))
    (pss_one (ps_set (i := 6) sc_law_world.nd rfl (Or.inl rfl) (pv 9))))))
    pss_nil)))
    (pss_one (ps_ret (pe_lst (pa_cons (pv 3) (pa_cons (pv 4) (pa_cons (pv 5) (pa_cons (pe_ix (ix_u (K := K) rfl) (pv 2) (pe_un un_neg pe_int) (fun _ _ => rfl)) pa_nil)))))))))))))), ?_⟩
  rw [st_law_world]
  walk_at "u"
  walk_at "tk"
  intro m' H1 m0 m1 B1 k1
  obtain ⟨m, rfl⟩ := Int.eq_ofNat_of_zero_le m0
  walk_at "u"
  refine ⟨_, _, rfl, p, n + 1, m + 3, rfl, congrArg V.int (by omega), by omega, by omega, B1, by omega, fun l0 zs H2 f2 e2 hz ok2 B2 k2 => ?_⟩
  walk_at "u"
  refine s_sll (SqL.of e2) fun l3 H3 f3 e3 k3 => ?_
  rw [cut_last (zs.map V.str) (m + 2) (by simpa using hz), ← List.map_take] at e3
  have okc := ok2.cut (m + 2)
  have lz : (zs.take (m + 2)).length = m + 2 := by rw [List.length_take]; omega
  walk_at "u"
  refine s_ilst (SqL.of e3) ?_
  intro D hD
  refine lc_L e3 hD (fun i acc H' => Kp [p, D] H3 H' ∧ Box H' p (n + 1 + 10 + i) ∧ ∃ pl : Pl, Rw H' acc (rP pl) ∧ pl.map (·.1) = (zs.take (m + 2)).take i ∧ ∀ q ∈ pl, 1 ≤ q.2 ∧ q.2 ≤ 3) (fun H4 e4 k4 => ⟨by walk_at "k", by walk_at "g", [], .nil, rfl, by simp⟩) (fun i acc H' q o e => q.1.get e (by walk_at "n")) ?_ ?_
  · rintro i x acc H4 ex ea ⟨k4, B4, pl, R4, em, hr4⟩
    rw [List.getElem?_map] at ex
    obtain ⟨z, ez, rfl⟩ := Option.map_eq_some_iff.mp ex
    have hi := (List.getElem?_eq_some_iff.mp ez).1
    have la : acc.length = i := by
      have h1 := R4.len
      have h2 := congrArg List.length em
      rw [rP, List.length_map] at h1
      rw [List.length_map, List.length_take] at h2
      omega
    walk_at "u"
    refine ⟨rfl, ?_⟩
    walk_at "u"
    walk_at "tk"
    intro d5 H5 d50 d51 B5 k5
    walk_at "u"
    walk_at "na"
    intro t6 H6 f6 e6 k6
    refine PvD.add (acc := acc) (by walk_at "g") (by omega) fun H7 e7 k7 => ⟨by walk_at "k", by walk_at "g", pl ++ [(z, 1 + d5)], ?_, ?_, ?_⟩
    · have : rP (pl ++ [(z, 1 + d5)]) = rP pl ++ [[V.str z, V.int (1 + d5)]] := by simp [rP]
      rw [this]
      exact (((R4.kp k5).kp k6).kp k7).app (Rw.one (by walk_at "gt"))
    · rw [List.map_append, em, take_one ez]
      rfl
    · intro q hq
      rcases List.mem_append.mp hq with hq | hq
      · exact hr4 q hq
      · rw [List.mem_singleton.mp hq]; simp only []; omega
  rintro vp H4 e4 ⟨k4, B4, pl, R4, em, hr4⟩
  rw [List.length_map, lz] at B4 em
  rw [List.take_of_length_le (by omega)] at em
  have lpl : pl.length = m + 2 := by rw [← lz, ← em, List.length_map]
  have gP : GoodP pl := ⟨by omega, by omega, fun q hq => okc.ok q.1 (em ▸ List.mem_map.mpr ⟨q, hq, rfl⟩), by rw [em]; exact okc.nd, hr4⟩
  have g0 : H4 l0 = some (.lst (zs.map V.str)) := by walk_at "g"
  have nDp : D ≠ p := by walk_at "ne"
  have nl0 : l0 ≠ p := by walk_at "ne"
  have nlD : l0 ≠ D := by walk_at "ne"
  have fD : Fz H D := ⟨by walk_at "f"⟩
  have kz4 : Kz [p] H H4 := ⟨by walk_at "k"⟩
  have hp0 : Th H p 0 := hB.th
  clear k4 e3 k3 f3 B2 k2 B1 k1 f2 e2 hB hD
  obtain ⟨k4⟩ := kz4
  walk_at "u"
  refine s_rng (by omega) (by omega) ?_
  rw [show (2 + (m : Int) - 1).toNat = m + 1 by omega]
  intro D5 hD5
  refine lc_R hD5 (fun i acc H' => Kp [p, D5] H4 H' ∧ Box H' p (n + 1 + 10 + (m + 2) + 2 * i) ∧ ∃ st : Pl, Rw H' acc (rP st) ∧ st.length = i ∧ ∀ q ∈ st, (q.1 = "staff" ∨ q.1 = "ticket") ∧ (q.2 = 0 ∨ q.2 = 1)) (fun H5 e5 k5 => ⟨by walk_at "k", by walk_at "g", [], .nil, rfl, by simp⟩) ?_ ?_
  · rintro i acc H5 hi ea ⟨k5, B5, st, R5, ls, hs5⟩
    have la : acc.length = i := by rw [R5.len, rP, List.length_map]; exact ls
    walk_at "u"
    refine ⟨rfl, ?_⟩
    walk_at "u"
    walk_at "na"
    intro l6 H6 f6 e6 k6
    walk_at "u"
    walk_at "tk"
    intro d7 H7 d70 d71 B7 k7
    obtain ⟨v, hv, ev⟩ := ix_mem (xs := [V.str "staff", V.str "ticket"]) d70 (by simpa using d71)
    obtain ⟨z, rfl, hz7⟩ : ∃ z : Str, v = .str z ∧ (z = "staff" ∨ z = "ticket") := by
      simp only [List.mem_cons, List.mem_nil_iff, or_false] at hv
      rcases hv with rfl | rfl
      · exact ⟨_, rfl, Or.inl rfl⟩
      · exact ⟨_, rfl, Or.inr rfl⟩
    refine s_ixl (by walk_at "g") ev ?_
    walk_at "u"
    walk_at "tk"
    intro d8 H8 d80 d81 B8 k8
    walk_at "u"
    walk_at "na"
    intro t9 H9 f9 e9 k9
    refine PvD.add (acc := acc) (by walk_at "g") (by omega) fun H10 e10 k10 => ⟨by walk_at "k", Box.more (n := n + 1 + 10 + (m + 2) + 2 * i + 1 + 1) (by walk_at "g") (by omega), st ++ [(z, d8)], ?_, by simp [ls], ?_⟩
    · have : rP (st ++ [(z, d8)]) = rP st ++ [[V.str z, V.int d8]] := by simp [rP]
      rw [this]
      exact (((((R5.kp k6).kp k7).kp k8).kp k9).kp k10).app (Rw.one (by walk_at "gt"))
    · intro q hq
      rcases List.mem_append.mp hq with hq | hq
      · exact hs5 q hq
      · rw [List.mem_singleton.mp hq]; exact ⟨hz7, by simp only []; omega⟩
  rintro vs H5 e5 ⟨k5, B5, st, R5, ls, hs5⟩
  have gS : GoodS st (pl.length - 1) := ⟨by omega, hs5⟩
  have n5p : D5 ≠ p := by walk_at "ne"
  have n5D : D5 ≠ D := by walk_at "ne"
  have n5l : D5 ≠ l0 := by walk_at "ne"
  have g0 : H5 l0 = some (.lst (zs.map V.str)) := by walk_at "g"
  have gD : H5 D = some (.lst vp) := by walk_at "g"
  have f5 : Fz H D5 := ⟨by walk_at "f"⟩
  have kz5 : Kz [p] H H5 := ⟨by walk_at "k"⟩
  have R4' := R4.kp k5
  clear k5 k4 e4 B4 R4 hD5
  obtain ⟨k5⟩ := kz5
  walk_at "u"
  walk_at "na"
  intro D6 H6 f6 e6 k6
  walk_at "u"
  walk_at "tk"
  intro d7 H7 d70 d71 B7 k7
  walk_at "u"
  refine s_rng (by omega) (by omega) ?_
  have e7 : H7 D6 = some (.lst []) := by walk_at "g"
  have n6 : D6 ≠ p ∧ D6 ≠ D ∧ D6 ≠ D5 ∧ D6 ≠ l0 := ⟨by walk_at "ne", by walk_at "ne", by walk_at "ne", by walk_at "ne"⟩
  have g0 : H7 l0 = some (.lst (zs.map V.str)) := by walk_at "g"
  have gD : H7 D = some (.lst vp) := by walk_at "g"
  have gE : H7 D5 = some (.lst vs) := by walk_at "g"
  have fD6 : Fz H D6 := ⟨by walk_at "f"⟩
  have kz7 : Kz [p] H H7 := ⟨by walk_at "k"⟩
  have R4'' := (R4'.kp k6).kp k7
  have R5'' := (R5.kp k6).kp k7
  obtain ⟨n61, n62, n63, n64⟩ := n6
  clear k7 k6 f6 e6 k5 B5 R4' R5
  obtain ⟨k7⟩ := kz7
  refine for_R (fun i σ H' => Kp [p, D6] H7 H' ∧ Box H' p (n + 1 + 10 + (m + 2) + 2 * (m + 1) + 1 + 3 * i) ∧ ∃ (vl : List V) (lo : Lo), H' D6 = some (.lst vl) ∧ Rw H' vl (rL lo) ∧ GoodL 0 ((m : Int) + 1) lo ∧ lo.length ≤ i ∧ 0 ≤ lowAt 0 lo lo.length ∧
    ∃ u7 u8 u9 u10 u11, σ = [some (.ref p), some (.int (2 + (m : Int))), some (.ref l0), some (.ref D), some (.ref D5), some (.ref D6), some (.int (lowAt 0 lo lo.length)), u7, u8, u9, u10, u11]) ⟨Kp.refl, B7, [], [], e7, .nil, trivial, by simp, by simp [lowAt], _, _, _, _, _, rfl⟩ ?_ ?_
  · rintro i σ H8 hi ⟨k8, B8, vl, lo, e8, R8, gl8, ll8, l08, u7, u8, u9, u10, u11, rfl⟩
    walk_at "u"
    refine s_ite (fun h => ?_) (fun h => ?_)
    · walk_at "u"
      walk_at "tk"
      intro d9 H9 d90 d91 B9 k9
      walk_at "u"
      walk_at "tk"
      intro d10 H10 d100 d101 B10 k10
      walk_at "u"
      walk_at "tk"
      intro d11 H11 d110 d111 B11 k11
      walk_at "u"
      walk_at "na"
      intro t12 H12 f12 e12 k12
      walk_at "u"
      have lv : vl.length = lo.length := by rw [R8.len]; simp [rL]
      refine s_app (xs := vl) (by walk_at "g") (zlt (by omega)) fun H13 e13 k13 => ?_
      walk_at "u"
      have hlo := lowAt_app lo (lowAt 0 lo lo.length + d9, lowAt 0 lo lo.length + d9 + 2 + d10, d11) 0
      refine ⟨by walk_at "k", Box.more (n := n + 1 + 10 + (m + 2) + 2 * (m + 1) + 1 + 3 * i + 1 + 1 + 1) (by walk_at "g") (by omega), _, lo ++ [(lowAt 0 lo lo.length + d9, lowAt 0 lo lo.length + d9 + 2 + d10, d11)], e13, ?_, low_app _ _ gl8 (by simp only []; omega) (by simp only []; omega) (by simp only []; omega) (by simp only []; omega), by simp; omega, by rw [hlo]; simp only []; omega, _, _, _, _, _, by first | (rw [hlo]; done) | (rw [hlo]; rfl)⟩
      have : rL (lo ++ [(lowAt 0 lo lo.length + d9, lowAt 0 lo lo.length + d9 + 2 + d10, d11)]) = rL lo ++ [[V.int (lowAt 0 lo lo.length + d9), V.int (lowAt 0 lo lo.length + d9 + 2 + d10), V.int d11]] := by simp [rL]
      rw [this]
      exact (((((R8.kp k9).kp k10).kp k11).kp k12).kp k13).app (Rw.one (by walk_at "gt"))
    · walk_at "u"
      exact ⟨k8, B8.more (by omega), vl, lo, e8, R8, gl8, by omega, l08, _, _, _, _, _, rfl⟩
  · rintro σ H8 ⟨k8, B8, vl, lo, e8, R8, gl8, ll8, l08, u7, u8, u9, u10, u11, rfl⟩
    walk_at "u"
    have hlast : atI (zs.map V.str) (-1) = some (V.str (zs.getD (m + 2) "")) := by
      unfold atI ixN
      rw [List.length_map, hz, if_neg (by decide), if_pos (by omega)]
      show (zs.map V.str)[((-1 : Int) + ((m + 3 : Nat) : Int)).toNat]? = _
      rw [show ((-1 : Int) + ((m + 3 : Nat) : Int)).toNat = m + 2 by omega, List.getElem?_map, List.getD_eq_getElem?_getD, List.getElem?_eq_getElem (show m + 2 < zs.length by omega)]
      rfl
    refine s_ixl (by walk_at "g") hlast ?_
    walk_at "u"
    walk_at "na"
    intro t9 H9 f9 e9 k9
    walk_at "u"
    have hm : zs.getD (m + 2) "" ∈ zs := by
      rw [List.getD_eq_getElem?_getD, List.getElem?_eq_getElem (show m + 2 < zs.length by omega)]
      exact List.getElem_mem _
    obtain ⟨z1, z2⟩ := ok2.ok _ hm
    have k09 : Kz [p] H H9 := ⟨by walk_at "k"⟩
    refine k t9 D D5 D6 ⟨pl, st, lo⟩ vp vs vl _ H9 (by walk_at "f") e9 fD.f (by walk_at "g") f5.f (by walk_at "g") fD6.f (by walk_at "g") n5D.symm n62.symm n63.symm (by walk_at "ne") (by walk_at "ne") (by walk_at "ne")
      ((R4''.kp k8).kp k9) ((R5''.kp k8).kp k9) (R8.kp k9) ⟨gP, gS, by rw [lpl, show (((m + 2 : Nat) : Int) - 1) = (m : Int) + 1 by omega]; exact gl8, (show lo.length ≤ 2 by omega)⟩ z1 z2 ?_ (Box.more (n := n + 1 + 10 + (m + 2) + 2 * (m + 1) + 1 + 3 * d7.toNat) (by walk_at "g") (by omega)) k09.k
    unfold nms
    rw [em]
    intro hin
    have nd := ok2.nd
    rw [← List.take_append_drop (m + 2) zs, List.nodup_append] at nd
    refine nd.2.2 _ hin _ ?_ rfl
    rw [List.getD_eq_getElem?_getD, List.getElem?_eq_getElem (show m + 2 < zs.length by omega)]
    exact List.mem_iff_getElem.mpr ⟨0, by rw [List.length_drop]; omega, by simp⟩

/-! the law's dicts of names -/
def VOk (K : PySem.W.Frag) (H : Hp) (v : V) : Prop := ∃ t d, TyN H v t ∧ Small v ∧ Dn K H v d ∧ Bd d 2000
theorem VOk.kp {H H2 : Hp} {v : V} (h : VOk K H v) (k : Kp [] H H2) : VOk K H2 v := by
  obtain ⟨t, d, a1, a2, a3, a4⟩ := h
  exact ⟨t, d, a1.kp k, a2, Dn.kp k a3, a4⟩
theorem VOk.str {H : Hp} {z : Str} (h : SS z 20) : VOk K H (.str z) := ⟨.str, .str z, .str, h.mono (by omega), .str z, (Bd.str h).mono (by omega)⟩
def KOk : Key → Prop | .inl i => i = 7 | .inr z => SS z 20
structure DOk (K : PySem.W.Frag) (H : Hp) (n : Nat) (kvs : List (Key × V)) : Prop where
  ks : ∀ kv ∈ kvs, KOk kv.1
  vs : ∀ kv ∈ kvs, VOk K H kv.2
  len : kvs.length ≤ n
theorem DOk.kp {H H2 : Hp} {n : Nat} {kvs : List (Key × V)} (h : DOk K H n kvs) (k : Kp [] H H2) : DOk K H2 n kvs := ⟨h.ks, fun kv m => (h.vs kv m).kp k, h.len⟩
theorem DOk.mono {H : Hp} {n m : Nat} {kvs : List (Key × V)} (h : DOk K H n kvs) (e : n ≤ m) : DOk K H m kvs := ⟨h.ks, h.vs, by have := h.len; omega⟩
theorem put_mem {kvs : List (Key × V)} {k : Key} {v : V} {kv : Key × V} (h : kv ∈ putK kvs k v) : kv ∈ kvs ∨ kv.1 = k ∧ kv.2 = v := by
  unfold putK at h
  split at h
  · obtain ⟨q, hq, rfl⟩ := List.mem_map.mp h
    by_cases c : q.1 = k
    · rw [if_pos c]; exact Or.inr ⟨c, rfl⟩
    · rw [if_neg c]; exact Or.inl hq
  · rcases List.mem_append.mp h with h | h
    · exact Or.inl h
    · rw [List.mem_singleton.mp h]; exact Or.inr ⟨rfl, rfl⟩
theorem DOk.put {H : Hp} {n : Nat} {kvs : List (Key × V)} {k : Key} {v : V} (h : DOk K H n kvs) (hk : KOk k) (hv : VOk K H v) : DOk K H (n + 1) (putK kvs k v) := by
  refine ⟨fun kv m => ?_, fun kv m => ?_, by have := length_putK kvs k v; have := h.len; omega⟩
  · rcases put_mem m with m | ⟨e, _⟩
    · exact h.ks kv m
    · rw [e]; exact hk
  · rcases put_mem m with m | ⟨_, e⟩
    · exact h.vs kv m
    · rw [e]; exact hv
theorem DOk.merge {H : Hp} : ∀ {more : List (Key × V)} {n m : Nat} {kvs : List (Key × V)}, DOk K H n kvs → DOk K H m more → DOk K H (n + m) (mergeK kvs more)
  | [], n, m, kvs, h, _ => h.mono (by omega)
  | q :: r, n, m, kvs, h, g => by
    have gl : r.length + 1 ≤ m := by simpa using g.len
    have h1 := h.put (g.ks q List.mem_cons_self) (g.vs q List.mem_cons_self)
    have h2 := DOk.merge (m := m - 1) h1 ⟨fun kv hm => g.ks kv (List.mem_cons_of_mem _ hm), fun kv hm => g.vs kv (List.mem_cons_of_mem _ hm), by omega⟩
    exact h2.mono (by omega)
theorem DOk.nil {H : Hp} : DOk K H 0 [] := ⟨by simp, by simp, by simp⟩
theorem DOk.dc {H : Hp} {n : Nat} {kvs : List (Key × V)} (h : DOk K H n kvs) : ∀ k v, valV kvs k = some v → VOk K H v := fun k v e => by
  unfold valV at e
  obtain ⟨kv, e1, rfl⟩ := Option.map_eq_some_iff.mp e
  exact h.vs kv (List.mem_of_find?_eq_some e1)
theorem DOk.dcv {H : Hp} {n : Nat} {kvs : List (Key × V)} (h : DOk K H n kvs) : DcV H kvs := fun k v e => by
  obtain ⟨t, _, a, b, _⟩ := h.dc k v e
  exact ⟨t, a, b⟩
theorem vok_list {H : Hp} : ∀ {kvs : List (Key × V)}, (∀ kv ∈ kvs, KOk kv.1) → (∀ kv ∈ kvs, VOk K H kv.2) → ∃ ds, DnA K H (kvs.map (·.2)) ds ∧ goodK ((kvs.map fun p => keyD p.1).zip ds) ∧ PyData.depthKv ((kvs.map fun p => keyD p.1).zip ds) ≤ 90 ∧ szK ((kvs.map fun p => keyD p.1).zip ds) ≤ 2300 * kvs.length
  | [], _, _ => ⟨[], .nil, trivial, by simp [PyData.depthKv], by simp [szK]⟩
  | kv :: r, hk, h => by
    obtain ⟨ds, a1, a2, a3, a4⟩ := vok_list (kvs := r) (fun x m => hk x (List.mem_cons_of_mem _ m)) (fun x m => h x (List.mem_cons_of_mem _ m))
    obtain ⟨t, d, _, _, b3, b4⟩ := h kv List.mem_cons_self
    have bd := b4.depth
    have bs := b4.sz
    have kk := hk kv List.mem_cons_self
    obtain ⟨c1, c2, c3⟩ : good (keyD kv.1) ∧ (keyD kv.1).depth ≤ 1 ∧ sz (keyD kv.1) ≤ 202 := by
      obtain ⟨k1, v1⟩ := kv
      cases k1 with
      | inl i =>
        cases (show i = 7 from kk)
        exact ⟨int_bd (by omega) (by omega), by simp [keyD, PyData.depth], by simp [keyD, sz]⟩
      | inr z =>
        obtain ⟨s1, s2⟩ := ss_bd (show SS z 20 from kk)
        exact ⟨s1, by simp [keyD, PyData.depth], s2⟩
    refine ⟨d :: ds, .cons b3 a1, ⟨c1, b4.good, a2⟩, ?_, ?_⟩
    · simp only [List.map_cons, List.zip_cons_cons, PyData.depthKv]; omega
    · simp only [List.map_cons, List.zip_cons_cons, szK, List.length_cons]; omega
theorem DOk.sh {H : Hp} {d : Addr} {n : Nat} {kvs : List (Key × V)} (h : DOk K H n kvs) (e : H d = some (.dK kvs)) (hn : n ≤ 100) : ∃ D, Sh K H (.ref d) D := by
  obtain ⟨ds, a1, a2, a3, a4⟩ := vok_list h.ks h.vs
  have := h.len
  exact ⟨_, .dic (Or.inl e) a1, a2, by simp only [PyData.depth]; omega, by simp only [sz]; omega⟩
theorem VOk.sh {H : Hp} {u : Addr} {c : Str} {v : V} (h : VOk K H v) (e : H u = some (.tup [.str c, v])) (s : SS c 20) : ∃ D, Sh K H (.ref u) D := by
  obtain ⟨t, d, _, _, b3, b4⟩ := h
  have bd := b4.depth
  have bs := b4.sz
  obtain ⟨s1, s2⟩ := ss_bd s
  exact ⟨.tuple [.str c, d], .tup (SqT.of e) (.cons (.str c) (.cons b3 .nil)), ⟨s1, b4.good, trivial⟩, by simp only [PyData.depth, PyData.depthAll]; omega, by simp only [sz, szA] at *; omega⟩
/-- the world apart from the box -/
structure Wf (H : Hp) (t : Addr) (w : Wo) (p : Addr) : Prop where
  ex : ∃ (a1 a2 a3 : Addr) (vp vs vl : List V) (z : Str), H t = some (.lst [.ref a1, .ref a2, .ref a3, .str z]) ∧ H a1 = some (.lst vp) ∧ H a2 = some (.lst vs) ∧ H a3 = some (.lst vl) ∧ Rw H vp (rP w.pl) ∧ Rw H vs (rP w.st) ∧ Rw H vl (rL w.lo) ∧ t ≠ p ∧ a1 ≠ p ∧ a2 ≠ p ∧ a3 ≠ p ∧ SS z 20
theorem Wf.kp {H H2 : Hp} {t p : Addr} {w : Wo} (h : Wf H t w p) (k : Kp [p] H H2) : Wf H2 t w p := by
  obtain ⟨a1, a2, a3, vp, vs, vl, z, e0, e1, e2, e3, r1, r2, r3, n0, n1, n2, n3, s⟩ := h.ex
  exact ⟨a1, a2, a3, vp, vs, vl, z, k.get1 e0 n0, k.get1 e1 n1, k.get1 e2 n2, k.get1 e3 n3, r1.kp k, r2.kp k, r3.kp k, n0, n1, n2, n3, s⟩
theorem Wf.wd {H : Hp} {t p : Addr} {w : Wo} (h : Wf H t w p) : Wd H t w := by
  obtain ⟨a1, a2, a3, vp, vs, vl, z, e0, e1, e2, e3, r1, r2, r3, _⟩ := h.ex
  exact ⟨a1, a2, a3, vp, vs, vl, z, e0, e1, e2, e3, r1, r2, r3⟩
/-- a dict of texts alone -/
structure StrD (kvs : List (Key × V)) : Prop where
  ok : ∀ kv ∈ kvs, ∃ x y : Str, kv = (Sum.inr x, .str y) ∧ SS x 20 ∧ SS y 20
  len : kvs.length ≤ 6
theorem StrD.dok {H : Hp} {kvs : List (Key × V)} (h : StrD kvs) : DOk K H 6 kvs := ⟨fun kv m => by obtain ⟨x, y, rfl, s1, s2⟩ := h.ok kv m; exact s1, fun kv m => by obtain ⟨x, y, rfl, s1, s2⟩ := h.ok kv m; exact .str s2, h.len⟩
theorem strD_zip {xs ys : List Str} (h1 : ∀ x ∈ xs, SS x 20) (h2 : ∀ y ∈ ys, SS y 20) (hl : xs.length ≤ 6) : StrD (mergeK [] ((xs.map fun x => (Sum.inr x : Key)).zip (ys.map V.str))) := by
  have key : ∀ (more acc : List (Key × V)), (∀ kv ∈ acc, ∃ x y : Str, kv = (Sum.inr x, .str y) ∧ SS x 20 ∧ SS y 20) → (∀ kv ∈ more, ∃ x y : Str, kv = (Sum.inr x, .str y) ∧ SS x 20 ∧ SS y 20) → (∀ kv ∈ mergeK acc more, ∃ x y : Str, kv = (Sum.inr x, .str y) ∧ SS x 20 ∧ SS y 20) ∧ (mergeK acc more).length ≤ acc.length + more.length := by
    intro more
    induction more with
    | nil => intro acc h _; exact ⟨h, by simp [mergeK]⟩
    | cons q r ih =>
      intro acc h g
      have l1 := length_putK acc q.1 q.2
      obtain ⟨a1, a2⟩ := ih (putK acc q.1 q.2) (fun kv m => by
        rcases put_mem m with m | ⟨e1, e2⟩
        · exact h kv m
        · have := g q List.mem_cons_self
          rw [show kv = q from Prod.ext e1 e2]
          exact this) (fun kv m => g kv (List.mem_cons_of_mem _ m))
      exact ⟨a1, by simp only [List.length_cons]; show (mergeK (putK acc q.1 q.2) r).length ≤ _; omega⟩
  obtain ⟨a1, a2⟩ := key ((xs.map fun x => (Sum.inr x : Key)).zip (ys.map V.str)) [] (by simp) (fun kv m => by
    obtain ⟨k, v⟩ := kv
    have m1 := List.of_mem_zip m
    obtain ⟨x, hx, rfl⟩ := List.mem_map.mp m1.1
    obtain ⟨y, hy, rfl⟩ := List.mem_map.mp m1.2
    exact ⟨x, y, rfl, h1 x hx, h2 y hy⟩)
  refine ⟨a1, ?_⟩
  rw [List.length_zip, List.length_map] at a2
  simp only [List.length_nil] at a2
  omega
theorem keys_str (xs : List Str) : (xs.map fun x => (Sum.inr x : Key)).map kV = xs.map V.str := by rw [List.map_map]; rfl
theorem q7_ss : SS ("Q" : Str) 20 := SS.mk' (by decide +kernel)
theorem some_ss : SS ("" : Str) 20 ∧ SS ("A" : Str) 20 ∧ SS ("abcdefg" : Str) 20 ∧ SS ("a" : Str) 20 ∧ SS ("a b" : Str) 20 := ⟨SS.mk' (by decide +kernel), SS.mk' (by decide +kernel), SS.mk' (by decide +kernel), SS.mk' (by decide +kernel), SS.mk' (by decide +kernel)⟩
theorem seven_bd : Bd (.int 7) 2000 := (Bd.int (by decide +kernel)).mono (by omega)
theorem five_bd : Bd (.int 5) 2000 := (Bd.int (by decide +kernel)).mono (by omega)
def sp_law_dict (K : PySem.W.Frag) : Sp := sp2 fun x y H Q _ => ∃ (p t : Addr) (n : Nat) (w : Wo), x = .ref p ∧ y = .ref t ∧ Box H p n ∧ n ≤ 800000 ∧ Wf H t w p ∧ GoodW w ∧
  ∀ d kvs H', H d = none → H' d = some (.dK kvs) → DOk K H' 20 kvs → Box H' p (n + 40) → Kp [p] H H' → Q (.ref d) H'
set_option maxHeartbeats 16000000 in
theorem ok_law_dict (T : Tx K mg) : FnOk P w K mg base (L2.CX P w) 3 T.a_law_dict T.d_law_dict ["_law_box_here", "_law_world_here"] (sp_law_dict K) := by
  have G_law_take := ok_law_take (P := P) (w := w) (base := base) T
  have G_law_names := ok_law_names (P := P) (w := w) (base := base) T
  refine T.F_law_dict.okX sc_law_dict (fun vs H Q E h => ?_) (fun cd A o s H vs Q E hr h => ?_)
  · obtain ⟨v0, v1, rfl, h⟩ := h; rfl
  obtain ⟨v0, v1, rfl, h⟩ := h
  obtain ⟨p, t, n, w', rfl, rfl, hB, hn, hW, hG, k⟩ := h
  refine ⟨_, (pss_cons (ps_setLc (i := 2) (own := [("_law_name", 9), ("_law_roads", 10)]) rfl sc_law_dict.nd rfl rfl (sw_true rfl rfl rfl (by decide +kernel)) (pi_lst (K := K) rfl (pe_ix (ix_u (K := K) rfl) (pv 1) pe_int (fun _ _ => rfl))) (blkOk_by (own := [("_law_name", 9), ("_law_roads", 10)]) (N := N_law_dict) (sc := defScope s_law_dict) (by decide +kernel)) (fun _ _ _ _ _ => (pg_tupK (K := K) (n := 2) rfl rfl (pgs_cons (pg_name (i := 9) sc_law_dict.nd rfl (Or.inl rfl)) (pgs_cons (pg_name (i := 10) sc_law_dict.nd rfl (Or.inl rfl)) pgs_nil)))) (fun _ _ _ _ _ => pts_nil) (fun _ _ _ _ _ => (pv 9)))
    (pss_cons (ps_set (i := 3) sc_law_dict.nd rfl (Or.inl rfl) (pe_co G_law_take (hr.mono (by decide)) rfl T.m_law_take T.F_law_take.kp T.B_law_take (takes_of (E := E) rfl rfl rfl rfl) (pa_cons (pv 0) (pa_cons pe_int pa_nil))))
    (pss_cons (ps_set (i := 4) sc_law_dict.nd rfl (Or.inl rfl) (pe_co G_law_take (hr.mono (by decide)) rfl T.m_law_take T.F_law_take.kp T.B_law_take (takes_of (E := E) rfl rfl rfl rfl) (pa_cons (pv 0) (pa_cons (pe_callB (c_len (K := K) rfl) rfl T.z_len bt_len (pa_cons (pv 2) pa_nil)) pa_nil))))
    (pss_cons (ps_set (i := 5) sc_law_dict.nd rfl (Or.inl rfl) (pe_dictZip (K := K) rfl rfl rfl T.z_dict rfl T.z_zip (pa_cons (pv 2) (pa_cons (pe_op (o_add (K := K) rfl) (pe_slice (sl_u (K := K) rfl) (pv 2) (po_some (pv 4)) po_none) (pe_slice (sl_u (K := K) rfl) (pv 2) po_none (po_some (pv 4)))) pa_nil))))
    (pss_cons (ps_if (pt_cmpR (o_eq (K := K) rfl hr) (pv 3) pe_int (nomark _))
    (pss_one (ps_set (i := 5) sc_law_dict.nd rfl (Or.inl rfl) (pe_dictZip (K := K) rfl rfl rfl T.z_dict rfl T.z_zip (pa_cons (pv 2) (pa_cons (pe_co G_law_names (hr.mono (by decide)) rfl T.m_law_names T.F_law_names.kp T.B_law_names (takes_of (E := E) rfl rfl rfl rfl) (pa_cons (pv 0) (pa_cons (pe_callB (c_len (K := K) rfl) rfl T.z_len bt_len (pa_cons (pv 2) pa_nil)) pa_nil))) pa_nil)))))
    pss_nil)
    (pss_cons (ps_if (pt_cmpR (o_eq (K := K) rfl hr) (pv 3) pe_int (nomark _))
    (pss_one (ps_set (i := 5) sc_law_dict.nd rfl (Or.inl rfl) (pe_dictZip (K := K) rfl rfl rfl T.z_dict rfl T.z_zip (pa_cons (pe_slice (sl_u (K := K) rfl) (pv 2) po_none (po_some (pv 4))) (pa_cons (pe_rev (K := K) rfl (pe_slice (sl_u (K := K) rfl) (pv 2) po_none (po_some (pv 4))) (pe_un un_neg pe_int)) pa_nil)))))
    pss_nil)
    (pss_cons (ps_if (pt_cmpR (o_eq (K := K) rfl hr) (pv 3) pe_int (nomark _))
    (pss_one (ps_set (i := 5) sc_law_dict.nd rfl (Or.inl rfl) (pe_dd (pps_cons (pe_ix (ix_u (K := K) rfl) (pv 2) (pv 4) (fun _ _ => rfl)) (pe_ix (ix_u (K := K) rfl) (pv 1) pe_int (fun _ _ => rfl)) pps_nil) rfl rfl (by simp) (by decide))))
    pss_nil)
    (pss_cons (ps_for PassesOwn.leaving rfl (pi_range1 rfl T.z_range (pa_cons (pe_co G_law_take (hr.mono (by decide)) rfl T.m_law_take T.F_law_take.kp T.B_law_take (takes_of (E := E) rfl rfl rfl rfl) (pa_cons (pv 0) (pa_cons pe_int pa_nil))) pa_nil)) (pg_name (i := 6) sc_law_dict.nd rfl (Or.inl rfl))
    (pss_cons (ps_set (i := 7) sc_law_dict.nd rfl (Or.inl rfl) (pe_ix (ix_u (K := K) rfl) (pe_op (o_add (K := K) rfl) (pv 2) (pe_lst (pa_cons (pe_ix (ix_u (K := K) rfl) (pv 1) pe_int (fun _ _ => rfl)) (pa_cons pe_int (pa_cons pe_str pa_nil))))) (pe_co G_law_take (hr.mono (by decide)) rfl T.m_law_take T.F_law_take.kp T.B_law_take (takes_of (E := E) rfl rfl rfl rfl) (pa_cons (pv 0) (pa_cons (pe_op (o_add (K := K) rfl) (pe_callB (c_len (K := K) rfl) rfl T.z_len bt_len (pa_cons (pv 2) pa_nil)) pe_int) pa_nil))) (fun _ _ => rfl)))
    (pss_cons (ps_set (i := 8) sc_law_dict.nd rfl (Or.inl rfl) (pe_op (o_add (K := K) rfl) (pe_lst (pa_cons pe_non (pa_cons pe_str (pa_cons pe_str (pa_cons pe_str (pa_cons (pe_lst (pa_cons pe_str pa_nil)) (pa_cons pe_int (pa_cons pe_bl (pa_cons (pe_tup (pa_cons pe_str pa_nil)) (pa_cons pe_str (pa_cons pe_dnewK pa_nil))))))))))) (pv 2)))
    (pss_one (ps_asg (pe_ix (ix_u (K := K) rfl) (pv 8) (pe_co G_law_take (hr.mono (by decide)) rfl T.m_law_take T.F_law_take.kp T.B_law_take (takes_of (E := E) rfl rfl rfl rfl) (pa_cons (pv 0) (pa_cons (pe_callB (c_len (K := K) rfl) rfl T.z_len bt_len (pa_cons (pv 8) pa_nil)) pa_nil))) (fun _ _ => rfl)) (pg_sub (pv 5) (pv 7) (set_u hr)))))))
    (pss_one (ps_ret (pv 5))))))))))), ?_⟩
  rw [st_law_dict]
  obtain ⟨a1, a2, a3, vp, vs, vl, z, e0, e1, e2, e3, r1, r2, r3, n0, n1, n2, n3, zs⟩ := hW.ex
  have lp : vp.length = w'.pl.length := by rw [r1.len]; simp [rP]
  have ln : (nms w').length = w'.pl.length := by simp [nms]
  have p6 := hG.p.l6
  have p2 := hG.p.l2
  have ssn : ∀ y ∈ nms w', SS y 20 := fun y hy => (nms_ss hG hy).2
  walk_at "u"
  refine s_ilst (SqL.of e1) ?_
  intro D hD
  refine lc_L e1 hD (fun i acc H' => Kp [D] H H' ∧ acc = ((nms w').take i).map V.str) (fun H1 e4 k1 => ⟨by walk_at "k", rfl⟩) (fun i acc H' p o e => p.1.get1 e (by walk_at "ne")) ?_ ?_
  · rintro i x acc H' ex ea ⟨k1, rfl⟩
    obtain ⟨u, r, rfl, er, eu⟩ := r1.at ex
    obtain ⟨q, eq, rfl⟩ := rP_at er
    have hi := (List.getElem?_eq_some_iff.mp eq).1
    walk_at "u"
    refine ⟨rfl, ?_⟩
    walk_at "u"
    refine PvD.add ea (by simp [nms]; omega) fun H2 e2 k2 => ⟨by walk_at "k", ?_⟩
    rw [take_one (x := q.1) (by simp [nms, eq]), List.map_append]
    rfl
  rintro acc H1 ea ⟨k1, rfl⟩
  rw [List.take_of_length_le (by simp [nms]; omega)] at ea
  have k01 : Kp [] H H1 := k1.drop hD
  clear k1
  have nDp : D ≠ p := hB.ne hD
  walk_at "u"
  walk_at "tk"
  intro way H2 y0 y1 B2 k2
  walk_at "u"
  refine s_lenl (xs := (nms w').map V.str) (by walk_at "g") ?_
  rw [List.length_map, ln]
  walk_at "u"
  walk_at "tk"
  intro at0 H3 y2 y3 B3 k3
  obtain ⟨at', rfl⟩ := Int.eq_ofNat_of_zero_le y2
  walk_at "u"
  refine s_sll (SqL.of (xs := (nms w').map V.str) (by walk_at "g")) fun l4 H4 f4 e4 k4 => ?_
  walk_at "u"
  refine s_sll (SqL.of (xs := (nms w').map V.str) (by walk_at "g")) fun l5 H5 f5 e5 k5 => ?_
  rw [cut_tail _ (by omega), Int.toNat_natCast, ← List.map_drop] at e4
  rw [cut_pre _ (by omega), Int.toNat_natCast, ← List.map_take] at e5
  walk_at "u"
  refine s_addL (by walk_at "g") e5 (zle (by simp; omega)) fun l6 H6 f6 e6 k6 => ?_
  rw [← List.map_append] at e6
  walk_at "u"
  refine s_dz (ks := (nms w').map fun x => (Sum.inr x : Key)) (by rw [keys_str]; walk_at "g") e6 (by simp; omega) fun d7 H7 f7 e7 k7 => ?_
  have eD7 : H7 D = some (.lst ((nms w').map V.str)) := by walk_at "g"
  have nd7 : d7 ≠ D := (ne_of_none (show H6 D = some (.lst ((nms w').map V.str)) by walk_at "g") f7).symm
  have S7 : StrD (mergeK [] (((nms w').map fun x => (Sum.inr x : Key)).zip (((nms w').drop at' ++ (nms w').take at').map V.str))) := strD_zip ssn (fun y hy => by
    rcases List.mem_append.mp hy with hy | hy
    · exact ssn y (List.mem_of_mem_drop hy)
    · exact ssn y (List.mem_of_mem_take hy)) (by omega)
  have z7 : Kz [p] H H7 := ⟨by walk_at "k"⟩
  have f7' : H d7 = none := by walk_at "f"
  have B7 : Box H7 p (n + 2) := by walk_at "g"
  clear k7 f7 k6 f6 e6 k5 f5 e5 k4 f4 e4 k3 B3 k2 B2 k01 ea
  obtain ⟨z7⟩ := z7
  walk_at "s"
  refine jS (fun σ H' => Kp [p] H H' ∧ Box H' p (n + 12) ∧ H' D = some (.lst ((nms w').map V.str)) ∧ ∃ d kvs, H d = none ∧ d ≠ D ∧ H' d = some (.dK kvs) ∧ StrD kvs ∧ σ = [some (.ref p), some (.ref t), some (.ref D), some (.int way), some (.int (at' : Int)), some (.ref d), none, none, none, none, none]) ?_ ?_
  rotate_left
  · intro u' key
    walk_at "u"
    refine s_ite (fun hw => ?_) (fun hw => ?_)
    rotate_left
    · walk_at "u"
      exact key _ _ ⟨z7, B7.more (by omega), eD7, d7, _, f7', nd7, e7, S7, rfl⟩
    walk_at "u"
    refine s_lenl eD7 ?_
    rw [List.length_map, ln]
    walk_at "u"
    refine ⟨_, _, rfl, p, n + 2, w'.pl.length, rfl, rfl, by omega, by omega, B7, by omega, fun l8 ns8 H8 f8 e8 h8 ok8 B8 k8 => ?_⟩
    walk_at "u"
    refine s_dz (ks := (nms w').map fun x => (Sum.inr x : Key)) (by rw [keys_str]; walk_at "g") e8 (by simp; omega) fun d9 H9 f9 e9 k9 => ?_
    have eD8 : H8 D = some (.lst ((nms w').map V.str)) := by walk_at "g"
    walk_at "u"
    exact key _ _ ⟨by walk_at "k", (B8.kpn k9 (by simp)).more (by omega), by walk_at "g", d9, _, by walk_at "f", (ne_of_none eD8 f9).symm, e9, strD_zip ssn (fun y hy => (ok8.ok y hy).2) (by omega), rfl⟩
  rintro σ1 H8 ⟨k8, B8, eD8, d8, kvs8, f8, nd8, e8, S8, rfl⟩
  clear z7 B7 eD7 f7' nd7 e7 S7
  refine jS (fun σ H' => Kp [p] H H' ∧ Box H' p (n + 12) ∧ H' D = some (.lst ((nms w').map V.str)) ∧ ∃ d kvs, H d = none ∧ d ≠ D ∧ H' d = some (.dK kvs) ∧ StrD kvs ∧ σ = [some (.ref p), some (.ref t), some (.ref D), some (.int way), some (.int (at' : Int)), some (.ref d), none, none, none, none, none]) ?_ ?_
  rotate_left
  · intro u' key
    walk_at "u"
    refine s_ite (fun hw => ?_) (fun hw => ?_)
    rotate_left
    · walk_at "u"
      exact key _ _ ⟨k8, B8, eD8, d8, _, f8, nd8, e8, S8, rfl⟩
    walk_at "u"
    refine s_sll (SqL.of eD8) fun l9 H9 f9 e9 k9 => ?_
    rw [cut_pre _ (by omega), Int.toNat_natCast, ← List.map_take] at e9
    walk_at "u"
    refine s_sll (SqL.of (xs := (nms w').map V.str) (by walk_at "g")) fun l10 H10 f10 e10 k10 => ?_
    rw [cut_pre _ (by omega), Int.toNat_natCast, ← List.map_take] at e10
    walk_at "u"
    refine s_revL e10 fun l11 H11 f11 e11 k11 => ?_
    rw [← List.map_reverse] at e11
    walk_at "u"
    have eD11 : H11 D = some (.lst ((nms w').map V.str)) := by walk_at "g"
    refine s_dz (ks := ((nms w').take at').map fun x => (Sum.inr x : Key)) (by rw [keys_str]; walk_at "g") e11 (by simp) fun d12 H12 f12 e12 k12 => ?_
    walk_at "u"
    exact key _ _ ⟨by walk_at "k", by walk_at "g", by walk_at "g", d12, _, by walk_at "f", (ne_of_none eD11 f12).symm, e12, strD_zip (fun y hy => ssn y (List.mem_of_mem_take hy)) (fun y hy => ssn y (List.mem_of_mem_take (List.mem_reverse.mp hy))) (by rw [List.length_take]; omega), rfl⟩
  rintro σ1 H9 ⟨k9, B9, eD9, d9, kvs9, f9, nd9, e9, S9, rfl⟩
  clear k8 B8 eD8 f8 nd8 e8 S8
  refine jS (fun σ H' => Kp [p] H H' ∧ Box H' p (n + 12) ∧ H' D = some (.lst ((nms w').map V.str)) ∧ ∃ d kvs, H d = none ∧ d ≠ D ∧ H' d = some (.dK kvs) ∧ StrD kvs ∧ σ = [some (.ref p), some (.ref t), some (.ref D), some (.int way), some (.int (at' : Int)), some (.ref d), none, none, none, none, none]) ?_ ?_
  rotate_left
  · intro u' key
    walk_at "u"
    refine s_ite (fun hw => ?_) (fun hw => ?_)
    rotate_left
    · walk_at "u"
      exact key _ _ ⟨k9, B9, eD9, d9, _, f9, nd9, e9, S9, rfl⟩
    walk_at "u"
    refine s_dd fun m H10 f10 e10 k10 => ?_
    walk_at "u"
    refine s_ixl (by walk_at "g") (nm_ix (w := w') (i := at') (by omega) rfl) ?_
    walk_at "u"
    refine s_ddk (kvs := [(Sum.inr (nmA w' at'), .str z)]) (ks := [(Sum.inr (nmA w' at'), .str z)]) e10 rfl (by simp) rfl fun H11 e11 k11 => ?_
    have nmD : m ≠ D := (ne_of_none eD9 f10).symm
    walk_at "u"
    exact key _ _ ⟨by walk_at "k", by walk_at "g", by walk_at "g", m, _, by walk_at "f", nmD, e11, ⟨fun kv hm => by
      rw [List.mem_singleton.mp hm]
      exact ⟨_, _, rfl, nmA_ss hG (by omega), zs⟩, by simp⟩, rfl⟩
  rintro σ1 H10 ⟨k10, B10, eD10, d, kvs0, f10, nd10, e10, S10, rfl⟩
  clear k9 B9 eD9 f9 nd9 e9 S9
  have ndp : d ≠ p := (hB.ne f10)
  walk_at "u"
  walk_at "tk"
  intro m H11 m0 m1 B11 k11
  walk_at "u"
  refine s_rng (by omega) (by omega) ?_
  refine for_R (fun i σ H' => Kp [p] H H' ∧ Box H' p (n + 13 + 2 * i) ∧ H' D = some (.lst ((nms w').map V.str)) ∧ ∃ kvs u6 u7 u8, H' d = some (.dK kvs) ∧ DOk K (hid [d, p] H') (6 + i) kvs ∧ σ = [some (.ref p), some (.ref t), some (.ref D), some (.int way), some (.int (at' : Int)), some (.ref d), u6, u7, u8, none, none])
    ⟨by walk_at "k", B11.more (by omega), by walk_at "g", kvs0, _, _, _, by walk_at "g", S10.dok, rfl⟩ ?_ ?_
  · rintro i σ H12 hi ⟨k12, B12, eD12, kvs, u6, u7, u8, e12, D12, rfl⟩
    have hi4 : i < 4 := by omega
    clear k11 B11 e10 eD10 k10 B10
    walk_at "u"
    walk_at "na"
    intro l13 H13 f13 e13 k13
    walk_at "u"
    refine s_addL (by walk_at "g") e13 (zle (by simp; omega)) fun l14 H14 f14 e14 k14 => ?_
    walk_at "u"
    refine s_lenl (xs := (nms w').map V.str) (by walk_at "g") ?_
    rw [List.length_map, ln]
    walk_at "u"
    walk_at "tk"
    intro j H15 j0 j1 B15 k15
    obtain ⟨ky, hky, eky⟩ := ix_mem (xs := (nms w').map V.str ++ [V.str z, V.int 7, V.str "Q"]) j0 (by simp [ln]; omega)
    have n14 : l14 ≠ p := by walk_at "ne"
    refine s_ixl (by walk_at "g") eky ?_
    walk_at "u"
    walk_at "na"
    intro l16 H16 f16 e16 k16
    walk_at "u"
    walk_at "na"
    intro l17 H17 f17 e17 k17
    walk_at "u"
    refine s_dnew fun d18 H18 f18 e18 k18 => ?_
    walk_at "u"
    walk_at "na"
    intro l19 H19 f19 e19 k19
    walk_at "u"
    refine s_addL e19 (by walk_at "g") (zle (by simp; omega)) fun l20 H20 f20 e20 k20 => ?_
    walk_at "u"
    have hL20 : ([V.non, .str "", .str "A", .str "abcdefg", .ref l16, .int 5, .bl true, .ref l17, .str "a b", .ref d18] ++ (nms w').map V.str).length = w'.pl.length + 10 := by simp [ln]
    refine s_lenl e20 ?_
    rw [hL20]
    walk_at "u"
    walk_at "tk"
    intro j2 H21 j20 j21 B21 k21
    obtain ⟨sv, hsv, esv⟩ := ix_mem (xs := [V.non, .str "", .str "A", .str "abcdefg", .ref l16, .int 5, .bl true, .ref l17, .str "a b", .ref d18] ++ (nms w').map V.str) j20 (by rw [hL20]; exact j21)
    have n20 : l20 ≠ p := by walk_at "ne"
    refine s_ixl (by walk_at "g") esv ?_
    have ed21 : H21 d = some (.dK kvs) := by walk_at "g"
    have d16 : l16 ≠ d := by walk_at "ne"
    have d17 : l17 ≠ d := by walk_at "ne"
    have d18' : d18 ≠ d := by walk_at "ne"
    have g16 : hid [d, p] H21 l16 = some (.lst [.str "a"]) := hid_of (by walk_at "g") (by simpa using ⟨d16, show l16 ≠ p by walk_at "ne"⟩)
    have g17 : hid [d, p] H21 l17 = some (.tup [.str "a"]) := hid_of (by walk_at "gt") (by simpa using ⟨d17, show l17 ≠ p by walk_at "ne"⟩)
    have g18 : hid [d, p] H21 d18 = some (.dK []) := hid_of (by walk_at "g") (by simpa using ⟨d18', show d18 ≠ p by walk_at "ne"⟩)
    have V21 : VOk K (hid [d, p] H21) sv := by
      obtain ⟨s0, sA, sg, sa, sb⟩ := some_ss
      rcases List.mem_append.mp hsv with hsv | hsv
      · simp only [List.mem_cons, List.not_mem_nil, or_false] at hsv
        rcases hsv with rfl | rfl | rfl | rfl | rfl | rfl | rfl | rfl | rfl | rfl
        · exact ⟨.non, _, .non, trivial, .non, Bd.non.mono (by omega)⟩
        · exact .str s0
        · exact .str sA
        · exact .str sg
        · exact ⟨.lst, .list [.str "a"], .lst g16, trivial, .lst (Or.inl g16) (.cons (.str _) .nil), ⟨⟨(Bd.str sa).good, trivial⟩, by simp [PyData.depth, PyData.depthAll], by have := (Bd.str sa).sz; simp only [sz, szA] at *; omega⟩⟩
        · exact ⟨.int, _, .int, trivial, .int _, five_bd⟩
        · exact ⟨.bl, _, .bl, trivial, .bl _, Bd.bl.mono (by omega)⟩
        · exact ⟨.tup, .tuple [.str "a"], .tup g17, trivial, .tup (SqT.of g17) (.cons (.str _) .nil), ⟨⟨(Bd.str sa).good, trivial⟩, by simp [PyData.depth, PyData.depthAll], by have := (Bd.str sa).sz; simp only [sz, szA] at *; omega⟩⟩
        · exact .str sb
        · exact ⟨.dic, .dict [], .dic g18, trivial, .dic (ds := []) (Or.inl g18) .nil, ⟨trivial, by simp [PyData.depth, PyData.depthKv], by simp [sz, szK]⟩⟩
      · obtain ⟨y, hy, rfl⟩ := List.mem_map.mp hsv
        exact .str (ssn y hy)
    have D21 : DOk K (hid [d, p] H21) (6 + i) kvs := D12.kp (hid_kp (qs := [p]) (by walk_at "k") (by simp))
    have fin : ∀ (kk : Key) (H22 : Hp), KOk kk → H22 d = some (.dK (putK kvs kk sv)) → Kp [d] H21 H22 → Kp [p] H H22 ∧ Box H22 p (n + 13 + 2 * (i + 1)) ∧ H22 D = some (.lst ((nms w').map V.str)) ∧ DOk K (hid [d, p] H22) (6 + (i + 1)) (putK kvs kk sv) := by
      intro kk H22 hk e22 k22
      exact ⟨by walk_at "k", by walk_at "g", by walk_at "g", ((D21.put hk V21).kp (hid_kp k22 (by simp))).mono (by omega)⟩
    have hl := D21.len
    rcases List.mem_append.mp hky with hky | hky
    · obtain ⟨y, hy, rfl⟩ := List.mem_map.mp hky
      walk_at "u"
      refine s_uds ed21 (zlt (by omega)) rfl fun H22 e22 k22 => ?_
      obtain ⟨b1, b2, b3, b4⟩ := fin (Sum.inr y) H22 (ssn y hy) e22 k22
      walk_at "u"
      exact ⟨b1, b2, b3, _, _, _, _, e22, b4, rfl⟩
    simp only [List.mem_cons, List.not_mem_nil, or_false] at hky
    rcases hky with rfl | rfl | rfl
    · walk_at "u"
      refine s_uds ed21 (zlt (by omega)) rfl fun H22 e22 k22 => ?_
      obtain ⟨b1, b2, b3, b4⟩ := fin (Sum.inr z) H22 zs e22 k22
      walk_at "u"
      exact ⟨b1, b2, b3, _, _, _, _, e22, b4, rfl⟩
    · walk_at "u"
      refine s_udi ed21 (zlt (by omega)) rfl fun H22 e22 k22 => ?_
      obtain ⟨b1, b2, b3, b4⟩ := fin (Sum.inl 7) H22 rfl e22 k22
      walk_at "u"
      exact ⟨b1, b2, b3, _, _, _, _, e22, b4, rfl⟩
    · walk_at "u"
      refine s_uds ed21 (zlt (by omega)) rfl fun H22 e22 k22 => ?_
      obtain ⟨b1, b2, b3, b4⟩ := fin (Sum.inr "Q") H22 q7_ss e22 k22
      walk_at "u"
      exact ⟨b1, b2, b3, _, _, _, _, e22, b4, rfl⟩
  · rintro σ H12 ⟨k12, B12, eD12, kvs, u6, u7, u8, e12, D12, rfl⟩
    walk_at "u"
    exact k d kvs H12 f10 e12 ((D12.kp hid_le).mono (by omega)) (B12.more (by omega)) k12

/-! the law's own looking -/
theorem let_ssL : ∀ c ∈ letters.cps.toList, c < 1114112 := by decide +kernel
theorem filt_empty {α : Type} {p : α → Bool} : ∀ xs : List α, (xs.filter fun c => !p c).isEmpty = xs.all p
  | [] => rfl
  | x :: xs => by
    cases h : p x with
    | true => rw [List.filter_cons_of_neg (by simp [h]), List.all_cons, h, Bool.true_and]; exact filt_empty xs
    | false => rw [List.filter_cons_of_pos (by simp [h]), List.all_cons, h]; rfl
theorem not_dec {p : Prop} [Decidable p] (h : ¬ p) : (!decide p) = true := by rw [decide_eq_false h]; rfl
theorem not_dec2 {p : Prop} [Decidable p] (h : p) : ¬ (!decide p) = true := by rw [decide_eq_true h]; simp
def sp_law_is_name : Sp := sp1 fun x H Q _ => ∃ t, TyN H x t ∧ Small x ∧ ∀ H', Kp [] H H' → Q (.bl (isName x)) H'
set_option maxHeartbeats 16000000 in
theorem ok_law_is_name (T : Tx K mg) : FnOk P w K mg base (L2.CX P w) 1 T.a_law_is_name T.d_law_is_name ["_law_thing"] (sp_law_is_name) := by
  refine T.F_law_is_name.okX sc_law_is_name (fun vs H Q E h => ?_) (fun cd A o s H vs Q E hr h => ?_)
  · obtain ⟨v0, rfl, h⟩ := h; rfl
  obtain ⟨v0, rfl, h⟩ := h
  obtain ⟨t, ht, hz, k⟩ := h
  refine ⟨_, (pss_cons (ps_set (i := 1) sc_law_is_name.nd rfl (Or.inr rfl) pe_str)
    (pss_one (ps_ret (pe_and (pe_callB (c_isi (K := K) rfl) rfl T.z_isinstance bt_isinstance (pa_cons (pv 0) (pa_cons (pe_ty rfl T.z_str bt_str) pa_nil))) (pe_and (pe_chain o_lt o_lt pe_int (pe_callB (c_len (K := K) rfl) rfl T.z_len bt_len (pa_cons (pv 0) pa_nil)) pe_int) (pe_one (pe_cmpR (o_eq (K := K) rfl hr) (pe_lc (own := [("_law_sign", 2)]) rfl sc_law_is_name.nd (pi_str (pv 0)) (blkOk_by (own := [("_law_sign", 2)]) (N := N_law_is_name) (sc := defScope s_law_is_name) (by decide +kernel)) (fun _ _ _ _ _ => (pg_name (i := 2) sc_law_is_name.nd rfl (Or.inl rfl))) (fun _ _ _ _ _ => (pts_one (pt_cmpR (o_notin (K := K) rfl) (pv 2) (pv 1) rfl))) (fun _ _ _ _ _ => (pv 2))) (pe_lst pa_nil) (nomark _)))))))), ?_⟩
  rw [st_law_is_name]
  cases ht <;> walk_at "u"
  all_goals try exact k _ Kp.refl
  rename_i z
  obtain ⟨hl, hz2⟩ : SS z 1000 := hz
  have e2 : isName (V.str z) = (decide (1 ≤ z.length ∧ z.length ≤ 6) && z.cps.toList.all fun c => decide (c ∈ letters.cps.toList)) := rfl
  have no : ¬ (1 ≤ z.length ∧ z.length ≤ 6) → Q (.bl false) H := fun h => by
    have q := k H Kp.refl
    rw [e2, decide_eq_false h, Bool.false_and] at q
    exact q
  refine s_lens (zle (by omega)) ?_
  walk_at "u"
  refine s_ite (fun h1 => ?_) (fun h1 => ?_)
  rotate_left
  · walk_at "u"
    exact no (by omega)
  walk_at "u"
  refine s_ite (fun h2 => ?_) (fun h2 => ?_)
  rotate_left
  · exact no (by omega)
  walk_at "u"
  intro D hD
  refine lc_it walk_str (PvD D fun i acc H' => Kp [D] H H' ∧ acc = ((z.cps.toList.take i).filter fun c => !decide (c ∈ letters.cps.toList)).map fun c => V.str ⟨#[c]⟩) (PvD.begin hD fun H7 e7 k7 => ⟨by walk_at "k", rfl⟩) (fun _ _ _ _ => trivial) ?_ ?_
  · rintro i x H1 H2 hi ⟨acc, e, kp, rfl⟩ ⟨rfl, c, hc, rfl⟩
    have ec : (z.cps.toList)[i]? = some c := by simpa using hc
    walk_at "u"
    refine ⟨rfl, ?_⟩
    walk_at "u"
    refine s_itn (fun h3 => ?_) (fun h3 => ?_)
    · walk_at "u"
      refine PvD.add e ?_ fun H9 e9 k9 => ⟨by walk_at "k", ?_⟩
      · rw [List.length_map]
        have := List.length_filter_le (fun c => !decide (c ∈ letters.cps.toList)) (z.cps.toList.take i)
        rw [List.length_take] at this
        have : i < z.length := hi
        omega
      · rw [take_one ec, List.filter_append, List.map_append, List.filter_cons_of_pos (p := fun c => !decide (c ∈ letters.cps.toList)) (not_dec h3)]
        rfl
    · walk_at "u"
      refine ⟨_, e, by walk_at "k", ?_⟩
      rw [take_one ec, List.filter_append, List.filter_cons_of_neg (p := fun c => !decide (c ∈ letters.cps.toList)) (not_dec2 h3)]
      simp
  · rintro H2 ⟨acc, e, kp, rfl⟩
    rw [List.take_of_length_le (by simp)] at e
    have z2 : Kz [] H H2 := ⟨kp.drop hD⟩
    walk_at "u"
    walk_at "na"
    intro r H3 f3 e3 k3
    refine s_eqNil (zs := (z.cps.toList.filter fun c => !decide (c ∈ letters.cps.toList)).map fun c => ⟨#[c]⟩) (by rw [List.map_map]; walk_at "g") e3 ?_ ?_
    · intro y hy c hc
      obtain ⟨d, hd, rfl⟩ := List.mem_map.mp hy
      have : c = d := by simpa using hc
      subst this
      exact hz2 c (List.mem_filter.mp hd).1
    obtain ⟨z2⟩ := z2
    rw [List.isEmpty_map, filt_empty]
    have q := k _ (z2.trans k3)
    rw [e2, decide_eq_true (by omega), Bool.true_and] at q
    exact q

/-! what is due of a dict of names; what is caught -/
theorem rn_c {kvs : List (Key × V)} : ∀ {pl acc : Pl} {c : Str} {v : V}, rnDue kvs acc pl = .inl (c, v) → c = "name" ∨ c = "twice"
  | [], _, _, _, h => by cases h
  | q :: r, acc, c, v, h => by
    unfold rnDue at h
    split at h
    · split at h
      · cases h; exact Or.inl rfl
      · split at h
        · cases h; exact Or.inr rfl
        · exact rn_c h
    · cases h; exact Or.inl rfl
def sp_law_due (K : PySem.W.Frag) : Sp := sp2 fun x y H Q _ => ∃ (t d : Addr) (w : Wo) (kvs : List (Key × V)) (n : Nat), x = .ref t ∧ y = .ref d ∧ Wd H t w ∧ GoodW w ∧ H d = some (.dK kvs) ∧ DOk K H n kvs ∧
  (∀ c v, rnDue kvs [] w.pl = .inl (c, v) → ∀ u H', H u = none → H' u = some (.tup [.str c, v]) → VOk K H' v → Kp [] H H' → Q (.ref u) H') ∧
  (∀ pl, rnDue kvs [] w.pl = .inr pl → GoodW ⟨pl, w.st, w.lo⟩ → ∀ u u2 H', H u = none → H' u = some (.tup [.str "told", .ref u2]) → TW H' u2 ⟨pl, w.st, w.lo⟩ → Kp [] H H' → Q (.ref u) H')
set_option maxHeartbeats 16000000 in
theorem ok_law_due (T : Tx K mg) : FnOk P w K mg base (L2.CX P w) 2 T.a_law_due T.d_law_due ["_law_world_here", "_law_some"] (sp_law_due K) := by
  have G_law_told := ok_law_told (P := P) (w := w) (base := base) T
  have G_law_is_name := ok_law_is_name (P := P) (w := w) (base := base) T
  refine T.F_law_due.okX sc_law_due (fun vs H Q E h => ?_) (fun cd A o s H vs Q E hr h => ?_)
  · obtain ⟨v0, v1, rfl, h⟩ := h; rfl
  obtain ⟨v0, v1, rfl, h⟩ := h
  obtain ⟨t, d, w', kvs, n, rfl, rfl, hW, hG, ed, hv, kE, k⟩ := h
  refine ⟨_, (pss_cons (ps_set (i := 2) sc_law_due.nd rfl (Or.inl rfl) (pe_lst pa_nil))
    (pss_cons (ps_for PassesOwn.leaving rfl (pi_lst (K := K) rfl (pe_ix (ix_u (K := K) rfl) (pv 0) pe_int (fun _ _ => rfl))) (pg_tupK (K := K) (n := 2) rfl rfl (pgs_cons (pg_name (i := 3) sc_law_due.nd rfl (Or.inl rfl)) (pgs_cons (pg_name (i := 4) sc_law_due.nd rfl (Or.inl rfl)) pgs_nil)))
    (pss_cons (ps_set (i := 6) sc_law_due.nd rfl (Or.inl rfl) (pe_dget2 (hu_of hr) (pv 1) (pv 3) (pv 3) ⟨rfl, rfl, rfl, rfl⟩))
    (pss_cons (ps_if (pt_not (pt_val (pe_co G_law_is_name (hr.mono (by decide)) rfl T.m_law_is_name T.F_law_is_name.kp T.B_law_is_name (takes_of (E := E) rfl rfl rfl rfl) (pa_cons (pv 6) pa_nil))))
    (pss_one (ps_ret (pe_tup (pa_cons pe_str (pa_cons (pv 6) pa_nil)))))
    pss_nil)
    (pss_cons (ps_if (pt_cmpR (o_in (K := K) rfl) (pv 6) (pv 2) rfl)
    (pss_one (ps_ret (pe_tup (pa_cons pe_str (pa_cons (pv 6) pa_nil)))))
    pss_nil)
    (pss_one (ps_expr (pe_bm PySem.F.plainAttrs_list PySem.F.slot_list_append PySem.F.type_list_append mt_append (pv 2) (pa_cons (pv 6) pa_nil))))))))
    (pss_cons (ps_setLc (i := 5) (own := [("_law_name", 3), ("_law_row", 7)]) rfl sc_law_due.nd rfl rfl (sw_true rfl rfl rfl (by decide +kernel)) (pi_zipB (K := K) rfl rfl T.z_zip (pa_cons (pv 2) (pa_cons (pe_ix (ix_u (K := K) rfl) (pv 0) pe_int (fun _ _ => rfl)) pa_nil))) (blkOk_by (own := [("_law_name", 3), ("_law_row", 7)]) (N := N_law_due) (sc := defScope s_law_due) (by decide +kernel)) (fun _ _ _ _ _ => (pg_tupK (K := K) (n := 2) rfl rfl (pgs_cons (pg_name (i := 3) sc_law_due.nd rfl (Or.inl rfl)) (pgs_cons (pg_name (i := 7) sc_law_due.nd rfl (Or.inl rfl)) pgs_nil)))) (fun _ _ _ _ _ => pts_nil) (fun _ _ _ _ _ => (pe_tup (pa_cons (pv 3) (pa_cons (pe_ix (ix_u (K := K) rfl) (pv 7) pe_int (fun _ _ => rfl)) pa_nil)))))
    (pss_one (ps_ret (pe_tup (pa_cons pe_str (pa_cons (pe_co G_law_told (hr.mono (by decide)) rfl T.m_law_told T.F_law_told.kp T.B_law_told (takes_of (E := E) rfl rfl rfl rfl) (pa_cons (pe_op (o_add (K := K) rfl) (pe_lst (pa_cons (pv 5) pa_nil)) (pe_slice (sl_u (K := K) rfl) (pv 0) (po_some pe_int) po_none)) pa_nil)) pa_nil)))))))), ?_⟩
  rw [st_law_due]
  obtain ⟨a1, a2, a3, vp, vs, vl, z, e0, e1, e2, e3, r1, r2, r3⟩ := hW.ex
  have lp : vp.length = w'.pl.length := by rw [r1.len]; simp [rP]
  have p6 := hG.p.l6
  have p2 := hG.p.l2
  walk_at "u"
  walk_at "na"
  intro l1 H1 f1 g1 k1
  have e11 := k1.get0 e1
  walk_at "u"
  refine s_ilst (SqL.of e11) ?_
  refine for_L e11 (fun i σ H' => Kp [l1] H1 H' ∧ (∃ acc : Pl, H' l1 = some (.lst ((acc.map (·.1)).map V.str)) ∧ acc.length = i ∧ (∀ q ∈ acc, isName (.str q.1) = true) ∧ (acc.map (·.1)).Nodup ∧ acc.map (·.2) = (w'.pl.take i).map (·.2) ∧ rnDue kvs [] w'.pl = rnDue kvs acc (w'.pl.drop i)) ∧ ∃ u3 u4 u6, σ = [some (.ref t), some (.ref d), some (.ref l1), u3, u4, none, u6, none])
    ⟨Kp.refl, ⟨[], g1, rfl, by simp, by simp, by simp, by simp⟩, _, _, _, rfl⟩ (fun i σ' H' q o e => q.1.get1 e (ne_of_none e1 f1)) ?_ ?_
  · rintro i x σ H2 ex ⟨k2, ⟨acc, ea, la, hN, hD, hrd, hg⟩, u3, u4, u6, rfl⟩
    have hi : i < vp.length := (List.getElem?_eq_some_iff.mp ex).1
    have k0 : Kp [] H H2 := (k1.nil.trans k2).all (by simpa using f1)
    obtain ⟨u, r, rfl, er, eu⟩ := (r1.kp k0).at ex
    obtain ⟨q, eq, rfl⟩ := rP_at er
    have hil : i < w'.pl.length := by omega
    have eqi : w'.pl[i] = q := by rw [List.getElem?_eq_getElem hil] at eq; exact Option.some.inj eq
    rw [List.drop_eq_getElem_cons hil, eqi] at hg
    have ed2 := k0.get0 ed
    have sq := (hG.p.nm q (List.mem_of_getElem? eq)).2
    walk_at "u"
    refine s_dget2 ed2 ?_
    walk_at "u"
    refine ⟨_, DGet.k (k := Sum.inr q.1) ed2, ?_⟩
    obtain ⟨o', eo, vo⟩ : ∃ o', (valV kvs (Sum.inr q.1)).getD (.str q.1) = o' ∧ VOk K H2 o' := by
      cases ev : valV kvs (Sum.inr q.1) with
      | none => exact ⟨_, rfl, .str sq⟩
      | some v => exact ⟨v, rfl, ((hv.kp k0).dc _ v ev)⟩
    rw [eo]
    have vo' := vo
    obtain ⟨to, do', tyo, smo, dno, bdo⟩ := vo'
    walk_at "u"
    refine ⟨_, rfl, to, tyo, smo, fun H3 k3 => ?_⟩
    walk_at "u"
    cases hn : isName o' with
    | false =>
      walk_at "u"
      walk_at "na"
      intro u5 H5 f5 g5 k5
      walk_at "u"
      exact kE _ _ (hg.trans (rnDue_no eo hn)) u5 H5 ((k0.trans k3).dom _ f5) g5 (vo.kp (k3.trans k5)) (k0.trans (k3.trans k5))
    | true =>
    obtain ⟨z', rfl⟩ := isName_str hn
    have hg2 := hg.trans (rnDue_go eo hn)
    have ea3 := k3.get0 ea
    walk_at "u"
    refine s_ite (fun hz => ?_) (fun hz => ?_)
    · rw [if_pos hz] at hg2
      walk_at "u"
      walk_at "na"
      intro u5 H5 f5 g5 k5
      walk_at "u"
      exact kE _ _ hg2 u5 H5 ((k0.trans k3).dom _ f5) g5 (vo.kp (k3.trans k5)) (k0.trans (k3.trans k5))
    rw [if_neg hz] at hg2
    walk_at "u"
    refine s_app (xs := (acc.map (·.1)).map V.str) ea3 (zlt (by simp; omega)) fun H6 e6 k6 => ?_
    walk_at "u"
    refine ⟨(k2.trans k3.nil).trans k6, ⟨acc ++ [(z', q.2)], by rw [List.map_append, List.map_append]; exact e6, by simp [la], fun q' hq' => ?_, ?_, ?_, hg2⟩, _, _, _, rfl⟩
    · rcases List.mem_append.mp hq' with h | h
      · exact hN q' h
      · rw [List.mem_singleton.mp h]; exact hn
    · rw [List.map_append]
      exact List.nodup_append.mpr ⟨hD, by simp, fun x hx y hy e => by simp at hy; rw [e, hy] at hx; exact hz hx⟩
    · rw [List.take_add_one, eq, List.map_append, List.map_append, hrd]
      rfl
  rintro σ H2 ⟨k2, ⟨acc, ea, la, hN, hD, hrd, hg⟩, u3, u4, u6, rfl⟩
  rw [lp] at la hrd hg
  rw [List.drop_length] at hg
  rw [List.take_length] at hrd
  have k0 : Kp [] H H2 := (k1.nil.trans k2).all (by simpa using f1)
  clear k1 k2 g1
  have gW : GoodW ⟨acc, w'.st, w'.lo⟩ := by
    refine ⟨⟨by show 2 ≤ acc.length; omega, by show acc.length ≤ 6; omega, fun q hq => ⟨hN q hq, name_ss' (hN q hq)⟩, hD, fun q hq => ?_⟩, ?_, ?_, hG.l2⟩
    · have : q.2 ∈ w'.pl.map (·.2) := by rw [← hrd]; exact List.mem_map.mpr ⟨q, hq, rfl⟩
      obtain ⟨q', hq', e⟩ := List.mem_map.mp this
      rw [← e]
      exact hG.p.rd q' hq'
    · show GoodS w'.st (acc.length - 1); rw [la]; exact hG.s
    · show GoodL 0 ((acc.length : Int) - 1) w'.lo; rw [la]; exact hG.l
  have e02 := k0.get0 e0
  have e12 := k0.get0 e1
  have e22 := k0.get0 e2
  have e32 := k0.get0 e3
  have r12 := r1.kp k0
  walk_at "u"
  refine s_zB false false ((acc.map (·.1)).map V.str) vp (sqb_L ea) (sqb_L e12) ?_
  intro D hD2
  refine lc_zB (xs := (acc.map (·.1)).map V.str) (ys := vp) (n := acc.length) (by simp [lp, la]) hD2 (fun i acc' H' => Kp [D] H2 H' ∧ acc'.length = i ∧ Rw H' acc' ((rP acc).take i)) (fun H8 e8 k8 => ⟨k8.nil, rfl, .nil⟩) (fun i acc' H' eA q => ⟨sqb_L (q.1.get1 ea (ne_of_none ea hD2)), sqb_L (q.1.get1 e12 (ne_of_none e12 hD2))⟩) ?_ ?_
  · rintro i x y acc' H8 A H9 ex ey e8 ⟨k8, la', hR⟩ f9 e9 k9
    rw [List.getElem?_map, List.getElem?_map] at ex
    obtain ⟨nm', en, rfl⟩ := Option.map_eq_some_iff.mp ex
    obtain ⟨q0, eq0, rfl⟩ := Option.map_eq_some_iff.mp en
    have hi : i < acc.length := (List.getElem?_eq_some_iff.mp eq0).1
    obtain ⟨u, r, rfl, er, eu⟩ := r12.at ey
    obtain ⟨q, eq, rfl⟩ := rP_at er
    have er2 : q0.2 = q.2 := by
      have := congrArg (fun l => l[i]?) hrd
      simp only [List.getElem?_map, eq0, eq, Option.map_some] at this
      exact Option.some.inj this
    have eu9 : H9 u = some (.tup [.str q.1, .int q.2]) := k9.tgt (k8.tgt eu)
    walk_at "u"
    refine ⟨rfl, ?_⟩
    walk_at "u"
    walk_at "na"
    intro t10 H10 f10 e10 k10
    refine PvD.add (k10.get0 (k9.get0 e8)) (by omega) fun H11 e11 k11 => ⟨((k8.trans k9.nil).trans k10.nil).trans k11, by simp [la'], ?_⟩
    have e5 : (rP acc)[i]? = some [.str q0.1, .int q.2] := by rw [rP_of eq0, er2]
    rw [List.take_add_one, e5]
    exact (((hR.kp k9).kp k10).kp k11).app (Rw.one (k11.tgt e10))
  rintro acc' H10 e10 ⟨k10, _, hR⟩
  rw [List.take_of_length_le (by simp [rP])] at hR
  have k210 : Kp [] H2 H10 := k10.drop hD2
  have fD : H D = none := k0.dom _ hD2
  clear k10
  walk_at "u"
  walk_at "na"
  intro l11 H11 f11 e11' k11
  walk_at "u"
  refine s_sll (SqL.of (xs := [.ref a1, .ref a2, .ref a3, .str z]) (by walk_at "g")) fun l12 H12 f12 e12' k12 => ?_
  have e12' : H12 l12 = some (.lst [.ref a2, .ref a3, .str z]) := e12'
  walk_at "u"
  refine s_addL (by walk_at "g") e12' (zle (by simp)) fun l13 H13 f13 e13 k13 => ?_
  walk_at "u"
  have k2' : Kp [] H2 H13 := ((k210.trans k11).trans k12).trans k13
  have k1' : Kp [] H10 H13 := (k11.trans k12).trans k13
  refine ⟨_, rfl, l13, ⟨acc, w'.st, w'.lo⟩, rfl, ⟨D, a2, a3, _, acc', vs, vl, Or.inl e13, rfl, rfl, rfl, Or.inl (k1'.get0 e10), Or.inl (k2'.get0 e22), Or.inl (k2'.get0 e32), hR.kp k1', (r2.kp k0).kp k2', (r3.kp k0).kp k2'⟩, fun u14 H14 f14 T14 k14 => ?_⟩
  walk_at "u"
  walk_at "na"
  intro u15 H15 f15 e15 k15
  walk_at "u"
  exact k acc hg gW u15 u14 H15 (((k0.trans k2').trans k14).dom _ f15) e15 (T14.kp k15) (((k0.trans k2').trans k14).trans k15)
def sp_law_caught (T : Tx K mg) : Sp := sp2 fun x y H Q _ => ∃ (p : Addr) (w : Wo), x = .ref p ∧ Ln T H p w ∧ ((∃ t, TyN H y t ∧ t ≠ .dic ∧ ∀ u H', H u = none → H' u = some (.tup [.str "name", y]) → Kp [] H H' → Q (.ref u) H') ∨ ∃ d kvs, y = .ref d ∧ H d = some (.dK kvs) ∧ DcV H kvs ∧
  (∀ c v, rnDue kvs [] w.pl = .inl (c, v) → ∀ u H', H u = none → H' u = some (.tup [.str c, v]) → Kp [] H H' → Q (.ref u) H') ∧
  (∀ pl, rnDue kvs [] w.pl = .inr pl → ∀ u u2 H', H u = none → H' u = some (.tup [.str "told", .ref u2]) → TW H' u2 ⟨pl, w.st, w.lo⟩ → Kp [] H H' → Q (.ref u) H'))
set_option maxHeartbeats 16000000 in
theorem ok_law_caught (T : Tx K mg) : FnOk P w K mg base (L2.CX P w) 7 T.a_law_caught T.d_law_caught ["_law_line", "_law_thing"] (sp_law_caught T) := by
  have G_Line_told := ok_Line_told (P := P) (w := w) (base := base) T
  have G_Line_renamed := ok_Line_renamed (P := P) (w := w) (base := base) T
  refine T.F_law_caught.okX sc_law_caught (fun vs H Q E h => ?_) (fun cd A o s H vs Q E hr h => ?_)
  · obtain ⟨v0, v1, rfl, h⟩ := h; rfl
  obtain ⟨v0, v1, rfl, h⟩ := h
  obtain ⟨p, w', rfl, hL, h⟩ := h
  refine ⟨_, (pss_one (ps_try (K := K) rfl rfl rfl sc_law_caught.nd (takes_of (E := E) rfl rfl rfl rfl) (fun W pn xe tk po => (pss_one (ps_ret (pe_tup (pa_cons pe_str (pa_cons (pe_mo0 T.cl_Line T.M_Line_told G_Line_told (hr.mono (by decide)) T.B_Line_told tk (pe_mo T.cl_Line T.M_Line_renamed G_Line_renamed (hr.mono (by decide)) T.B_Line_renamed tk (pv 0) (pa_cons (pv 1) pa_nil))) pa_nil))))))
    (ClOk.as (i := 2) ⟨rfl, by decide, Or.inl T.m_NoName⟩ rfl rfl (fun a oe cls d pn hz hf => (pss_one (ps_ret (pe_tup (pa_cons pe_str (pa_cons (pe_xe T.er_NoName hz hf (pv 2)) pa_nil))))))
    (ClOk.as (i := 2) ⟨rfl, by decide, Or.inl T.m_Twice⟩ rfl rfl (fun a oe cls d pn hz hf => (pss_one (ps_ret (pe_tup (pa_cons pe_str (pa_cons (pe_xe T.er_Twice hz hf (pv 2)) pa_nil))))))
    (ClOk.only ⟨rfl, by decide, Or.inl T.m_StaffError⟩ (fun a oe cls d pn hz hf => (pss_one (ps_ret (pe_tup (pa_cons pe_str (pa_cons pe_non pa_nil))))))
    ClOk.nil))))), ?_⟩
  rw [st_law_caught]
  obtain ⟨tp, ts, tl, vp, vs, vl, at', _⟩ := hL.ex
  walk_at "u"
  refine ⟨_, _, rfl, p, w', rfl, hL, ?_⟩
  rcases h with ⟨t, ty, hn, kE⟩ | ⟨d, kvs, rfl, ed, hv, kE, k⟩
  · refine Or.inl ⟨t, ty, hn, ?_⟩
    intro d H2 f2 e2 k2
    refine ⟨true, T.ex_NoName_NoName, fun _ ea fa => ?_, fun z => (by cases z)⟩
    walk_at "u"
    refine s_xek e2 rfl ?_
    walk_at "u"
    walk_at "na"
    intro u H3 f3 e3 k3
    simp only [endS, dropS, putS]
    walk_at "u"
    exact kE u H3 (k2.dom u f3) e3 (k2.trans k3)
  refine Or.inr ⟨d, kvs, rfl, ed, hv, fun c v e => ?_, fun pl e q H1 f1 L1 k1 => ?_⟩
  · have kE := kE c v e
    rcases rn_c e with rfl | rfl
    · rw [show clN T "name" = T.C_NoName from if_pos rfl]
      intro d H2 f2 e2 k2
      refine ⟨true, T.ex_NoName_NoName, fun _ ea fa => ?_, fun z => (by cases z)⟩
      walk_at "u"
      refine s_xek e2 rfl ?_
      walk_at "u"
      walk_at "na"
      intro u H3 f3 e3 k3
      simp only [endS, dropS, putS]
      walk_at "u"
      exact kE u H3 (k2.dom u f3) e3 (k2.trans k3)
    · rw [show clN T "twice" = T.C_Twice from if_neg (by decide +kernel)]
      intro d H2 f2 e2 k2
      refine ⟨false, T.ex_Twice_NoName, fun z => (by cases z), fun _ => ⟨true, T.ex_Twice_Twice, fun _ ea fa => ?_, fun z => (by cases z)⟩⟩
      walk_at "u"
      refine s_xek e2 rfl ?_
      walk_at "u"
      walk_at "na"
      intro u H3 f3 e3 k3
      simp only [endS, dropS, putS]
      walk_at "u"
      exact kE u H3 (k2.dom u f3) e3 (k2.trans k3)
  · obtain ⟨tp1, ts1, tl1, vp1, vs1, vl1, at1, _⟩ := L1.ex
    walk_at "u"
    refine ⟨_, rfl, q, _, rfl, L1, fun t2 tp2 ts2 tl2 vp2 vs2 vl2 H2 f2 g2 ga gb gc S1 S2 S3 k2 => ?_⟩
    walk_at "u"
    walk_at "na"
    intro u H3 f3 e3 k3
    walk_at "u"
    exact k pl e u t2 H3 ((k1.trans k2).dom _ f3) e3 (TW.kp ⟨tp2, ts2, tl2, vp2, vs2, vl2, g2, ga, gb, gc, S1, S2, S3⟩ k3) ((k1.trans k2).trans k3)

/-! the law's own look at a line with other names; the law -/
theorem ss_ok {z : Str} {n : Nat} (h : SS z n) : PyData.strOk z = true := by
  unfold PyData.strOk
  rw [Array.all_eq_true']
  intro c hc
  have := h.ok c (by simpa using hc)
  simp
  omega
theorem lay_P : ∀ {pl : Pl}, (∀ q ∈ pl, SS q.1 20) → PyData.canLayAll0 (pl.map dP) = true ∧ PyData.depthAll (pl.map dP) ≤ 2
  | [], _ => ⟨rfl, by simp [PyData.depthAll]⟩
  | q :: pl, h => by
    obtain ⟨h1, h2⟩ := lay_P (pl := pl) fun x hx => h x (List.mem_cons_of_mem _ hx)
    have h3 := ss_ok (h q List.mem_cons_self)
    refine ⟨?_, ?_⟩
    · simp only [List.map_cons, PyData.canLayAll0, dP, PyData.canLay0, h1, h3, Bool.and_true]
    · simp only [List.map_cons, PyData.depthAll, PyData.depth, dP]
      omega
theorem shp_W {w : Wo} (g : GoodW w) : SeqAt.shaped (dW w) = true := by
  obtain ⟨a1, a2⟩ := lay_P (pl := w.pl) fun q hq => (g.p.nm q hq).2
  obtain ⟨b1, b2⟩ := lay_P (pl := w.st) fun q hq => by rcases (g.s.ok q hq).1 with h | h <;> rw [h]; exact st_ss.1; exact st_ss.2
  obtain ⟨c1, c2⟩ := lay_L w.lo
  unfold SeqAt.shaped
  rw [Bool.and_eq_true]
  refine ⟨by simp only [dW, PyData.canLay0, PyData.canLayAll0, a1, b1, c1, Bool.and_true], decide_eq_true ?_⟩
  simp only [dW, PyData.depth, PyData.depthAll]
  omega
theorem bd_W {w : Wo} (g : GoodW w) : good (dW w) ∧ (dW w).depth ≤ 10 ∧ sz (dW w) ≤ 100000 := by
  obtain ⟨a1, a2, a3⟩ := dP_ok (pl := w.pl) fun q hq => ⟨(g.p.nm q hq).2, by have := g.p.rd q hq; omega⟩
  obtain ⟨b1, b2, b3⟩ := dP_ok (pl := w.st) fun q hq => ⟨by rcases (g.s.ok q hq).1 with h | h <;> rw [h]; exact st_ss.1; exact st_ss.2, by have := (g.s.ok q hq).2; omega⟩
  obtain ⟨c1, c2, c3⟩ := dL_ok (lo := w.lo) fun q hq => by
    obtain ⟨i, hi⟩ := List.getElem?_of_mem hq
    have := low0 g.l i q hi
    have := g.p.l6
    omega
  have := g.p.l6
  have := g.s.ln
  have := g.l2
  refine ⟨⟨a1, b1, c1, trivial⟩, ?_, ?_⟩
  · simp only [dW, PyData.depth, PyData.depthAll]; omega
  · simp only [dW, sz, szA]; omega
theorem mr_mr (w : Wo) : mrW (mrW w) = w := by
  obtain ⟨pl, st, lo⟩ := w
  have e1 : mrS ∘ mrS = id := by
    funext q
    obtain ⟨a, b⟩ := q
    show ((a, 1 - (1 - b)) : Str × Int) = (a, b)
    rw [show (1 : Int) - (1 - b) = b by omega]
  have e2 : ∀ m : Int, mrL m ∘ mrL m = id := fun m => by
    funext q
    obtain ⟨a, b, c⟩ := q
    show ((m - (m - a), m - (m - b), 1 - (1 - c)) : Int × Int × Int) = (a, b, c)
    rw [show m - (m - a) = a by omega, show m - (m - b) = b by omega, show (1 : Int) - (1 - c) = c by omega]
  simp only [mrW, List.reverse_reverse, List.length_reverse, ← List.map_reverse, List.map_map, e1, e2, List.map_id]
def CauAt (H : Hp) (kvs : List (Key × V)) (w : Wo) (u : Addr) : Prop :=
  (∃ c v, rnDue kvs [] w.pl = .inl (c, v) ∧ H u = some (.tup [.str c, v])) ∨
  (∃ pl u2, rnDue kvs [] w.pl = .inr pl ∧ H u = some (.tup [.str "told", .ref u2]) ∧ TW H u2 ⟨pl, w.st, w.lo⟩)
def DueAt (K : PySem.W.Frag) (H : Hp) (kvs : List (Key × V)) (w : Wo) (u : Addr) : Prop :=
  (∃ c v, rnDue kvs [] w.pl = .inl (c, v) ∧ H u = some (.tup [.str c, v]) ∧ VOk K H v) ∨
  (∃ pl u2, rnDue kvs [] w.pl = .inr pl ∧ GoodW ⟨pl, w.st, w.lo⟩ ∧ H u = some (.tup [.str "told", .ref u2]) ∧ TW H u2 ⟨pl, w.st, w.lo⟩)
theorem DueAt.kp {H H2 : Hp} {kvs : List (Key × V)} {w : Wo} {u : Addr} (h : DueAt K H kvs w u) (k : Kp [] H H2) : DueAt K H2 kvs w u := by
  rcases h with ⟨c, v, e, g, o⟩ | ⟨pl, u2, e, g, o, t⟩
  · exact Or.inl ⟨c, v, e, k.tgt g, o.kp k⟩
  · exact Or.inr ⟨pl, u2, e, g, k.tgt o, t.kp k⟩
theorem nm_ss : SS ("name" : Str) 20 ∧ SS ("twice" : Str) 20 ∧ SS ("told" : Str) 20 := ⟨SS.mk' (by decide +kernel), SS.mk' (by decide +kernel), SS.mk' (by decide +kernel)⟩
theorem VOk.sh2 {H : Hp} {c : Str} {v : V} (h : VOk K H v) (s : SS c 20) : ∃ D, ∀ u H2, Kp [] H H2 → H2 u = some (.tup [.str c, v]) → Sh K H2 (.ref u) D := by
  obtain ⟨t, d, _, _, b3, b4⟩ := h
  have bd := b4.depth
  have bs := b4.sz
  obtain ⟨s1, s2⟩ := ss_bd s
  exact ⟨.tuple [.str c, d], fun u H2 k e => ⟨.tup (SqT.of e) (.cons (.str c) (.cons (Dn.kp k b3) .nil)), ⟨s1, b4.good, trivial⟩, by simp only [PyData.depth, PyData.depthAll]; omega, by simp only [sz, szA] at *; omega⟩⟩
theorem due_sh {H : Hp} {kvs : List (Key × V)} {w : Wo} {u u' : Addr} (h : DueAt K H kvs w u) (h' : CauAt H kvs w u') : ∃ D, Sh K H (.ref u) D ∧ Sh K H (.ref u') D := by
  rcases h with ⟨c, v, e, g, o⟩ | ⟨pl, u2, e, gW, g, t⟩
  · rcases h' with ⟨c', v', e', g'⟩ | ⟨pl', u2', e', g', t'⟩
    · rw [e] at e'
      cases e'
      obtain ⟨D, hD⟩ := o.sh2 (c := c) (by rcases rn_c e with rfl | rfl; exact nm_ss.1; exact nm_ss.2.1)
      exact ⟨D, hD _ _ Kp.refl g, hD _ _ Kp.refl g'⟩
    · rw [e] at e'; cases e'
  · rcases h' with ⟨c', v', e', g'⟩ | ⟨pl', u2', e', g', t'⟩
    · rw [e] at e'; cases e'
    · rw [e] at e'
      cases e'
      obtain ⟨b1, b2, b3⟩ := bd_W gW
      obtain ⟨s1, s2⟩ := ss_bd nm_ss.2.2
      have key : ∀ {a b}, H a = some (.tup [.str "told", .ref b]) → TW H b ⟨pl, w.st, w.lo⟩ → Sh K H (.ref a) (.tuple [.str "told", dW ⟨pl, w.st, w.lo⟩]) := fun e f => ⟨.tup (SqT.of e) (.cons (.str _) (.cons (f.sh gW).dn .nil)), ⟨s1, b1, trivial⟩, by simp only [PyData.depth, PyData.depthAll]; omega, by simp only [sz, szA] at *; omega⟩
      exact ⟨_, key g t, key g' t'⟩
theorem c_due {H : Hp} {t d : Addr} {w : Wo} {kvs : List (Key × V)} {n : Nat} {Q : VK} {E : XK} (hW : Wd H t w) (hG : GoodW w) (ed : H d = some (.dK kvs)) (hv : DOk K H n kvs) (q : ∀ u H', H u = none → DueAt K H' kvs w u → Kp [] H H' → Q (.ref u) H') : sp_law_due K [.ref t, .ref d] H Q E :=
  ⟨_, _, rfl, t, d, w, kvs, n, rfl, rfl, hW, hG, ed, hv, fun c v e u H' f g o k => q u H' f (Or.inl ⟨c, v, e, g, o⟩) k, fun pl e gP u u2 H' f g t2 k => q u H' f (Or.inr ⟨pl, u2, e, gP, g, t2⟩) k⟩
theorem c_caught {T : Tx K mg} {H : Hp} {l d : Addr} {w : Wo} {kvs : List (Key × V)} {Q : VK} {E : XK} (hL : Ln T H l w) (ed : H d = some (.dK kvs)) (hv : DcV H kvs) (q : ∀ u H', H u = none → CauAt H' kvs w u → Kp [] H H' → Q (.ref u) H') : sp_law_caught T [.ref l, .ref d] H Q E :=
  ⟨_, _, rfl, l, w, rfl, hL, Or.inr ⟨d, kvs, rfl, ed, hv, fun c v e u H' f g k => q u H' f (Or.inl ⟨c, v, e, g⟩) k, fun pl e u u2 H' f g t2 k => q u H' f (Or.inr ⟨pl, u2, e, g, t2⟩) k⟩⟩
theorem c_told {T : Tx K mg} {H : Hp} {l : Addr} {w : Wo} {Q : VK} {E : XK} (hL : Ln T H l w) (q : ∀ u H', H u = none → TW H' u w → Kp [] H H' → Q (.ref u) H') : sp_Line_told T [.ref l] H Q E :=
  ⟨_, rfl, l, w, rfl, hL, fun t tp ts tl vp vs vl H' f g ga gb gc S1 S2 S3 k => q t H' f ⟨tp, ts, tl, vp, vs, vl, g, ga, gb, gc, S1, S2, S3⟩ k⟩
theorem c_asked {T : Tx K mg} {H : Hp} {l t : Addr} {w : Wo} {Q : VK} {E : XK} (hL : Ln T H l w) (hW : Wz H t w) (q : ∀ H', Kp [] H H' → Q (.bl true) H') : sp_law_asked_right T [.ref l, .ref t] H Q E :=
  ⟨_, _, rfl, l, t, w, rfl, rfl, hL, hW, q⟩
def sp_law_renamed_right (T : Tx K mg) : Sp := sp3 fun x y z H Q _ => ∃ (p l t : Addr) (n : Nat) (w : Wo), x = .ref p ∧ y = .ref l ∧ z = .ref t ∧ Box H p n ∧ n ≤ 700000 ∧ Ln T H l w ∧ Wf H t w p ∧ l ≠ p ∧ ∀ H', Box H' p (n + 41) → Kp [p] H H' → Q (.bl true) H'
set_option maxHeartbeats 16000000 in
theorem ok_law_renamed_right (T : Tx K mg) (hs : ∃ mm, base.Ns sysModules mm) : FnG P w K mg base (L2.CX P w) 8 T.a_law_renamed_right T.d_law_renamed_right ["_law_box_here", "_law_line", "_law_world_here"] (sp_law_renamed_right T) := by
  have G_law_dict := ok_law_dict (P := P) (w := w) (base := base) T
  have G_law_due := ok_law_due (P := P) (w := w) (base := base) T
  have G_Line_renamed := ok_Line_renamed (P := P) (w := w) (base := base) T
  have G_law_take := ok_law_take (P := P) (w := w) (base := base) T
  have G_law_caught := ok_law_caught (P := P) (w := w) (base := base) T
  have G_law_asked_right := ok_law_asked_right (P := P) (w := w) (base := base) T hs
  have G_Line_told := ok_Line_told (P := P) (w := w) (base := base) T
  refine okG T.F_law_renamed_right sc_law_renamed_right (fun vs H Q E h => ?_) (fun cd A o s H vs Q E hg hr h => ?_)
  · obtain ⟨v0, v1, v2, rfl, h⟩ := h; rfl
  obtain ⟨v0, v1, v2, rfl, h⟩ := h
  obtain ⟨p, l, t, n, w', rfl, rfl, rfl, hB, hn, hL, hW, nlp, k⟩ := h
  refine ⟨_, (pss_cons (ps_set (i := 3) sc_law_renamed_right.nd rfl (Or.inl rfl) (pe_co G_law_dict (hr.mono (by decide)) rfl T.m_law_dict T.F_law_dict.kp T.B_law_dict (takes_of (E := E) rfl rfl rfl rfl) (pa_cons (pv 0) (pa_cons (pv 2) pa_nil))))
    (pss_cons (ps_set (i := 4) sc_law_renamed_right.nd rfl (Or.inl rfl) (pe_callB (c_repr (K := K) rfl hg hr hs) rfl T.z_repr bt_repr (pa_cons (pv 3) pa_nil)))
    (pss_cons (ps_set (i := 5) sc_law_renamed_right.nd rfl (Or.inl rfl) (pe_co G_law_due (hr.mono (by decide)) rfl T.m_law_due T.F_law_due.kp T.B_law_due (takes_of (E := E) rfl rfl rfl rfl) (pa_cons (pv 2) (pa_cons (pv 3) pa_nil))))
    (pss_cons (ps_if (PW.pt (pw_or (pt_cmpR (o_ne (K := K) rfl hr) (pe_callB (c_repr (K := K) rfl hg hr hs) rfl T.z_repr bt_repr (pa_cons (pe_co G_law_caught (hr.mono (by decide)) rfl T.m_law_caught T.F_law_caught.kp T.B_law_caught (takes_of (E := E) rfl rfl rfl rfl) (pa_cons (pv 1) (pa_cons (pv 3) pa_nil))) pa_nil)) (pe_callB (c_repr (K := K) rfl hg hr hs) rfl T.z_repr bt_repr (pa_cons (pv 5) pa_nil)) (nomark _)) (pw_or1 (pt_cmpR (o_ne (K := K) rfl hr) (pe_callB (c_repr (K := K) rfl hg hr hs) rfl T.z_repr bt_repr (pa_cons (pv 3) pa_nil)) (pv 4) (nomark _)))))
    (pss_one (ps_ret pe_bl))
    pss_nil)
    (pss_cons (ps_if (pt_cmpR (o_eq (K := K) rfl hr) (pe_ix (ix_u (K := K) rfl) (pv 5) pe_int (fun _ _ => rfl)) pe_str (nomark _))
    (pss_cons (ps_set (i := 7) sc_law_renamed_right.nd rfl (Or.inl rfl) (pe_mo T.cl_Line T.M_Line_renamed G_Line_renamed (hr.mono (by decide)) T.B_Line_renamed (takes_of (E := E) rfl rfl rfl rfl) (pv 1) (pa_cons (pv 3) pa_nil)))
    (pss_cons (ps_expr (pe_bm0 PySem.F.plainAttrs_dict PySem.F.slot_dict_clear PySem.F.type_dict_clear mt_clearD (pv 3)))
    (pss_one (ps_if (PW.pt (pw_or (pt_not (pt_val (pe_cg G_law_asked_right hg (hr.mono (by decide)) rfl T.m_law_asked_right T.F_law_asked_right.kp T.B_law_asked_right (takes_of (E := E) rfl rfl rfl rfl) (pa_cons (pv 7) (pa_cons (pe_ix (ix_u (K := K) rfl) (pv 5) pe_int (fun _ _ => rfl)) pa_nil))))) (pw_or1 (pt_cmpR (o_ne (K := K) rfl hr) (pe_mo0 T.cl_Line T.M_Line_told G_Line_told (hr.mono (by decide)) T.B_Line_told (takes_of (E := E) rfl rfl rfl rfl) (pv 7)) (pe_ix (ix_u (K := K) rfl) (pv 5) pe_int (fun _ _ => rfl)) (nomark _)))))
    (pss_one (ps_ret pe_bl))
    pss_nil))))
    pss_nil)
    (pss_cons (ps_set (i := 6) sc_law_renamed_right.nd rfl (Or.inl rfl) (pe_ix (ix_u (K := K) rfl) (pe_lst (pa_cons pe_non (pa_cons (pe_lst pa_nil) (pa_cons (pe_tup pa_nil) (pa_cons pe_str (pa_cons pe_int (pa_cons pe_bl (pa_cons (pe_lst (pa_cons (pe_tup (pa_cons pe_str (pa_cons pe_str pa_nil))) pa_nil)) pa_nil)))))))) (pe_co G_law_take (hr.mono (by decide)) rfl T.m_law_take T.F_law_take.kp T.B_law_take (takes_of (E := E) rfl rfl rfl rfl) (pa_cons (pv 0) (pa_cons pe_int pa_nil))) (fun _ _ => rfl)))
    (pss_one (ps_ret (pe_cmpR (o_eq (K := K) rfl hr) (pe_callB (c_repr (K := K) rfl hg hr hs) rfl T.z_repr bt_repr (pa_cons (pe_co G_law_caught (hr.mono (by decide)) rfl T.m_law_caught T.F_law_caught.kp T.B_law_caught (takes_of (E := E) rfl rfl rfl rfl) (pa_cons (pv 1) (pa_cons (pv 6) pa_nil))) pa_nil)) (pe_callB (c_repr (K := K) rfl hg hr hs) rfl T.z_repr bt_repr (pa_cons (pe_tup (pa_cons pe_str (pa_cons (pv 6) pa_nil))) pa_nil)) (nomark _)))))))))), ?_⟩
  rw [st_law_renamed_right]
  have hG := hL.ok
  walk_at "u"
  refine ⟨_, _, rfl, p, t, n, w', rfl, rfl, hB, by omega, hW, hG, fun d kvs H1 f1 e1 D1 B1 k1 => ?_⟩
  have hW1 := hW.kp k1
  have hL1 := hL.kpn k1 (by simpa using nlp)
  obtain ⟨Dd, sD⟩ := D1.sh e1 (by omega)
  walk_at "u"
  refine s_rep sD ?_
  walk_at "u"
  refine c_due hW1.wd hG e1 D1 fun u H2 f2 D2 k2 => ?_
  have hL2 := hL1.kpn k2 (by simp)
  have e2 := k2.get0 e1
  have D12 := D1.kp k2
  walk_at "u"
  refine c_caught hL2 e2 D12.dcv fun u3 H3 f3 C3 k3 => ?_
  obtain ⟨Du, su, su3⟩ := due_sh (D2.kp k3) C3
  have e3 := k3.get0 e2
  have hL3 := hL2.kpn k3 (by simp)
  have D13 := D12.kp k3
  walk_at "u"
  refine s_rep su3 ?_
  walk_at "u"
  refine s_rep su ?_
  walk_at "u"
  rw [decide_eq_true rfl]
  walk_at "u"
  refine s_rep ((sD.kp k2).kp k3) ?_
  walk_at "u"
  rw [decide_eq_true rfl]
  walk_at "s"
  refine jS (fun σ H' => Kp [d] H3 H' ∧ ∃ x, σ = [some (.ref p), some (.ref l), some (.ref t), some (.ref d), some (.str Dd.shown), some (.ref u), none, x]) ?_ ?_
  rotate_left
  · intro u' key
    obtain ⟨tp, ts, tl, vp, vs, vl, at', _⟩ := hL3.ex
    rcases D2.kp k3 with ⟨c, v, ed, eu, _⟩ | ⟨pl, u2, ed, gP, eu, T2⟩
    · have nc : ¬ c = "told" := by rcases rn_c ed with rfl | rfl <;> decide +kernel
      walk_at "u"
      rw [decide_eq_false nc]
      walk_at "u"
      exact key _ _ ⟨Kp.refl, _, rfl⟩
    · walk_at "u"
      refine ⟨_, _, rfl, l, w', rfl, hL3, Or.inr ⟨d, kvs, rfl, e3, D13.dcv, fun c v e => (by rw [ed] at e; cases e), fun pl' e q H4 f4 L4 k4 => ?_⟩⟩
      rw [ed] at e
      cases e
      have e4 := k4.get0 e3
      have nqd : q ≠ d := (ne_of_none e3 f4).symm
      walk_at "u"
      refine s_clearD e4 fun H5 e5 k5 => ?_
      have L5 := L4.kpn k5 (by simpa using nqd)
      have T5 := (T2.kp k4).kp k5
      have eu5 := k5.tgt (k4.tgt eu)
      clear at'
      obtain ⟨tp, ts, tl, vp, vs, vl, at', _⟩ := L5.ex
      walk_at "u"
      refine c_asked L5 T5.wz fun H6 k6 => ?_
      walk_at "u"
      refine c_told (L5.kpn k6 (by simp)) fun t7 H7 f7 T7 k7 => ?_
      walk_at "u"
      refine s_neR (d := dW ⟨pl, w'.st, w'.lo⟩) (T7.sh gP).dn (((T5.kp k6).kp k7).sh gP).dn (shp_W gP) ?_
      walk_at "u"
      exact key _ _ ⟨(k4.nil.trans k5).trans (k6.trans k7).nil, _, rfl⟩
  rintro σ H4 ⟨k4, x4, rfl⟩
  have ndp : d ≠ p := hB.ne f1
  have ndl : l ≠ d := hL.th.ne f1
  have k04 : Kp [p] H H4 := Kp.step (k1.trans (k2.trans k3).nil) k4 (by intro q hq; rw [List.mem_singleton.mp hq]; exact Or.inr f1)
  have B4 : Box H4 p (n + 40) := (B1.kpn (k2.trans k3) (by simp)).kpn k4 (by simpa using ndp.symm)
  have hL4 := hL3.kpn k4 (by simpa using ndl)
  clear D13 hL3 e3 su su3 C3 D12 e2 hL2 D2 sD hL1 hW1 D1 e1 B1 k1 k2 k3 k4 f1 f2 f3
  obtain ⟨tp, ts, tl, vp, vs, vl, at', _⟩ := hL4.ex
  walk_at "u"
  walk_at "na"
  intro l5 H5 f5 e5 k5
  walk_at "u"
  walk_at "na"
  intro t6 H6 f6 e6 k6
  walk_at "u"
  walk_at "na"
  intro t7 H7 f7 e7 k7
  walk_at "u"
  walk_at "na"
  intro l8 H8 f8 e8 k8
  walk_at "u"
  walk_at "na"
  intro l9 H9 f9 e9 k9
  walk_at "u"
  walk_at "tk"
  intro j H10 j0 j1 B10 k10
  obtain ⟨sv, hsv, esv⟩ := ix_mem (xs := [V.non, .ref l5, .ref t6, .str "a", .int 5, .bl true, .ref l8]) j0 (by simpa using j1)
  have hL10 : Ln T H10 l w' := by walk_at "g"
  obtain ⟨ty, hty, hnd, vok⟩ : ∃ ty, TyN H10 sv ty ∧ ty ≠ .dic ∧ VOk K H10 sv := by
    obtain ⟨s0, sA, sg, sa, sb⟩ := some_ss
    have g5 : H10 l5 = some (.lst []) := by walk_at "g"
    have g6 : H10 t6 = some (.tup []) := by walk_at "gt"
    have g7 : H10 t7 = some (.tup [.str "a", .str "b"]) := by walk_at "gt"
    have g8 : H10 l8 = some (.lst [.ref t7]) := by walk_at "g"
    simp only [List.mem_cons, List.not_mem_nil, or_false] at hsv
    rcases hsv with rfl | rfl | rfl | rfl | rfl | rfl | rfl
    · exact ⟨.non, .non, by simp, .non, _, .non, trivial, .non, Bd.non.mono (by omega)⟩
    · exact ⟨.lst, .lst g5, by simp, .lst, .list [], .lst g5, trivial, .lst (Or.inl g5) .nil, ⟨trivial, by simp [PyData.depth, PyData.depthAll], by simp [sz, szA]⟩⟩
    · exact ⟨.tup, .tup g6, by simp, .tup, .tuple [], .tup g6, trivial, .tup (SqT.of g6) .nil, ⟨trivial, by simp [PyData.depth, PyData.depthAll], by simp [sz, szA]⟩⟩
    · exact ⟨.str, .str, by simp, .str sa⟩
    · exact ⟨.int, .int, by simp, .int, _, .int, trivial, .int _, five_bd⟩
    · exact ⟨.bl, .bl, by simp, .bl, _, .bl, trivial, .bl _, Bd.bl.mono (by omega)⟩
    · have sb' : SS ("b" : Str) 20 := SS.mk' (by decide +kernel)
      obtain ⟨a1, a2⟩ := ss_bd sa
      obtain ⟨b1, b2⟩ := ss_bd sb'
      exact ⟨.lst, .lst g8, by simp, .lst, .list [.tuple [.str "a", .str "b"]], .lst g8, trivial, .lst (Or.inl g8) (.cons (.tup (SqT.of g7) (.cons (.str _) (.cons (.str _) .nil))) .nil), ⟨⟨⟨a1, b1, trivial⟩, trivial⟩, by simp [PyData.depth, PyData.depthAll], by simp only [sz, szA] at *; omega⟩⟩
  have n9 : l9 ≠ p := by walk_at "ne"
  refine s_ixl (by walk_at "g") esv ?_
  have k010 : Kp [p] H H10 := k04.trans ((((((k5.trans k6).trans k7).trans k8).trans k9).nil).trans k10)
  clear k5 k6 k7 k8 k9 k10 f5 f6 f7 f8 f9 e5 e6 e7 e8 e9 hL4 at' B4
  obtain ⟨Dv, sv1⟩ := vok.sh2 (c := "name") nm_ss.1
  obtain ⟨tp, ts, tl, vp, vs, vl, at', _⟩ := hL10.ex
  walk_at "u"
  refine ⟨_, _, rfl, l, w', rfl, hL10, Or.inl ⟨ty, hty, hnd, fun u11 H11 f11 e11 k11 => ?_⟩⟩
  walk_at "u"
  refine s_rep (sv1 _ _ k11 e11) ?_
  walk_at "u"
  walk_at "na"
  intro u12 H12 f12 e12 k12
  walk_at "u"
  refine s_rep (sv1 _ _ (k11.trans k12) e12) ?_
  walk_at "u"
  rw [decide_eq_true rfl]
  exact k H12 ((B10.kpn (k11.trans k12) (by simp)).more (by omega)) (k010.trans (k11.trans k12).nil)
theorem Wf.kp0 {H H2 : Hp} {t p : Addr} {w : Wo} (h : Wf H t w p) (k : Kp [] H H2) : Wf H2 t w p := h.kp k.nil
def sp_law (K : PySem.W.Frag) : Sp := sp1 fun x H Q _ => ∃ (a : Addr) (ns : List Int), x = .ref a ∧ SqL K H a (ns.map V.int) ∧ ns.length ≤ 63 ∧ ∀ H', Q (.bl true) H'
set_option maxHeartbeats 16000000 in
theorem ok_law (T : Tx K mg) (hs : ∃ mm, base.Ns sysModules mm) : FnG P w K mg base (L2.CX P w) 9 T.a_law T.d_law ["_law_script"] (sp_law K) := by
  have G_law_box := ok_law_box (P := P) (w := w) (base := base) T
  have G_law_world := ok_law_world (P := P) (w := w) (base := base) T
  have G_Line_init := ok_Line_init (P := P) (w := w) (base := base) T
  have G_Line_mirrored := ok_Line_mirrored (P := P) (w := w) (base := base) T
  have G_law_cell := ok_law_cell (P := P) (w := w) (base := base) T
  have G_law_asked_right := ok_law_asked_right (P := P) (w := w) (base := base) T hs
  have G_Line_told := ok_Line_told (P := P) (w := w) (base := base) T
  have G_law_told := ok_law_told (P := P) (w := w) (base := base) T
  have G_law_turned := ok_law_turned (P := P) (w := w) (base := base) T
  have G_law_renamed_right := ok_law_renamed_right (P := P) (w := w) (base := base) T hs
  refine okG T.F_law sc_law (fun vs H Q E h => ?_) (fun cd A o s H vs Q E hg hr h => ?_)
  · obtain ⟨v0, rfl, h⟩ := h; rfl
  obtain ⟨v0, rfl, h⟩ := h
  obtain ⟨a, ns, rfl, hS, hl63, k⟩ := h
  refine ⟨_, (pss_cons (ps_for PassesOwn.leaving rfl (pi_range1 rfl T.z_range (pa_cons (pe_callB (c_max rfl) rfl T.z_max bt_max (pa_cons pe_int (pa_cons (pe_callB (c_min rfl) rfl T.z_min bt_min (pa_cons pe_int (pa_cons (pe_callB (c_len (K := K) rfl) rfl T.z_len bt_len (pa_cons (pv 0) pa_nil)) pa_nil))) pa_nil))) pa_nil)) (pg_name (i := 1) sc_law.nd rfl (Or.inl rfl))
    (pss_cons (ps_set (i := 2) sc_law.nd rfl (Or.inl rfl) (pe_co G_law_box (hr.mono (by decide)) rfl T.m_law_box T.F_law_box.kp T.B_law_box (takes_of (E := E) rfl rfl rfl rfl) (pa_cons (pe_co G_law_cell (hr.mono (by decide)) rfl T.m_law_cell T.F_law_cell.kp T.B_law_cell (takes_of (E := E) rfl rfl rfl rfl) (pa_cons (pv 0) (pa_cons (pv 1) pa_nil))) pa_nil)))
    (pss_cons (ps_set (i := 3) sc_law.nd rfl (Or.inl rfl) (pe_co G_law_world (hr.mono (by decide)) rfl T.m_law_world T.F_law_world.kp T.B_law_world (takes_of (E := E) rfl rfl rfl rfl) (pa_cons (pv 2) pa_nil)))
    (pss_cons (ps_set (i := 4) sc_law.nd rfl (Or.inl rfl) (pe_nw T.mk_Line G_Line_init (hr.mono (by decide)) rfl T.m_Line T.B_Line_init (takes_of (E := E) rfl rfl rfl rfl) (pa_cons (pe_ix (ix_u (K := K) rfl) (pv 3) pe_int (fun _ _ => rfl)) (pa_cons (pe_ix (ix_u (K := K) rfl) (pv 3) pe_int (fun _ _ => rfl)) (pa_cons (pe_ix (ix_u (K := K) rfl) (pv 3) pe_int (fun _ _ => rfl)) pa_nil)))))
    (pss_cons (ps_set (i := 5) sc_law.nd rfl (Or.inl rfl) (pe_mo0 T.cl_Line T.M_Line_mirrored G_Line_mirrored (hr.mono (by decide)) T.B_Line_mirrored (takes_of (E := E) rfl rfl rfl rfl) (pv 4)))
    (pss_cons (ps_if (PW.pt (pw_or (pt_not (pt_val (pe_cg G_law_asked_right hg (hr.mono (by decide)) rfl T.m_law_asked_right T.F_law_asked_right.kp T.B_law_asked_right (takes_of (E := E) rfl rfl rfl rfl) (pa_cons (pv 5) (pa_cons (pe_co G_law_turned (hr.mono (by decide)) rfl T.m_law_turned T.F_law_turned.kp T.B_law_turned (takes_of (E := E) rfl rfl rfl rfl) (pa_cons (pv 3) pa_nil)) pa_nil))))) (pw_or1 (pt_not (pt_val (pe_cg G_law_asked_right hg (hr.mono (by decide)) rfl T.m_law_asked_right T.F_law_asked_right.kp T.B_law_asked_right (takes_of (E := E) rfl rfl rfl rfl) (pa_cons (pv 4) (pa_cons (pv 3) pa_nil))))))))
    (pss_one (ps_ret pe_bl))
    pss_nil)
    (pss_cons (ps_if (PW.pt (pw_or (pt_cmpR (o_ne (K := K) rfl hr) (pe_callB (c_repr (K := K) rfl hg hr hs) rfl T.z_repr bt_repr (pa_cons (pe_mo0 T.cl_Line T.M_Line_told G_Line_told (hr.mono (by decide)) T.B_Line_told (takes_of (E := E) rfl rfl rfl rfl) (pv 5)) pa_nil)) (pe_callB (c_repr (K := K) rfl hg hr hs) rfl T.z_repr bt_repr (pa_cons (pe_co G_law_turned (hr.mono (by decide)) rfl T.m_law_turned T.F_law_turned.kp T.B_law_turned (takes_of (E := E) rfl rfl rfl rfl) (pa_cons (pv 3) pa_nil)) pa_nil)) (nomark _)) (pw_or1 (pt_cmpR (o_ne (K := K) rfl hr) (pe_mo0 T.cl_Line T.M_Line_told G_Line_told (hr.mono (by decide)) T.B_Line_told (takes_of (E := E) rfl rfl rfl rfl) (pe_mo0 T.cl_Line T.M_Line_mirrored G_Line_mirrored (hr.mono (by decide)) T.B_Line_mirrored (takes_of (E := E) rfl rfl rfl rfl) (pv 5))) (pe_co G_law_told (hr.mono (by decide)) rfl T.m_law_told T.F_law_told.kp T.B_law_told (takes_of (E := E) rfl rfl rfl rfl) (pa_cons (pv 3) pa_nil)) (nomark _)))))
    (pss_one (ps_ret pe_bl))
    pss_nil)
    (pss_cons (ps_for PassesOwn.leaving rfl (pi_range1 rfl T.z_range (pa_cons pe_int pa_nil)) (pg_name (i := 6) sc_law.nd rfl (Or.inl rfl))
    (pss_one (ps_if (PW.pt (pw_or (pt_not (pt_val (pe_cg G_law_renamed_right hg (hr.mono (by decide)) rfl T.m_law_renamed_right T.F_law_renamed_right.kp T.B_law_renamed_right (takes_of (E := E) rfl rfl rfl rfl) (pa_cons (pv 2) (pa_cons (pv 4) (pa_cons (pv 3) pa_nil)))))) (pw_or1 (pt_cmpR (o_ne (K := K) rfl hr) (pe_mo0 T.cl_Line T.M_Line_told G_Line_told (hr.mono (by decide)) T.B_Line_told (takes_of (E := E) rfl rfl rfl rfl) (pv 4)) (pe_co G_law_told (hr.mono (by decide)) rfl T.m_law_told T.F_law_told.kp T.B_law_told (takes_of (E := E) rfl rfl rfl rfl) (pa_cons (pv 3) pa_nil)) (nomark _)))))
    (pss_one (ps_ret pe_bl))
    pss_nil)))
    (pss_cons (ps_if (PW.pt (pw_or (pt_cmpR (o_ne (K := K) rfl hr) (pe_mo0 T.cl_Line T.M_Line_told G_Line_told (hr.mono (by decide)) T.B_Line_told (takes_of (E := E) rfl rfl rfl rfl) (pv 5)) (pe_co G_law_turned (hr.mono (by decide)) rfl T.m_law_turned T.F_law_turned.kp T.B_law_turned (takes_of (E := E) rfl rfl rfl rfl) (pa_cons (pv 3) pa_nil)) (nomark _)) (pw_or1 (pt_cmpR (o_ne (K := K) rfl hr) (pe_mo0 T.cl_Line T.M_Line_told G_Line_told (hr.mono (by decide)) T.B_Line_told (takes_of (E := E) rfl rfl rfl rfl) (pe_mo0 T.cl_Line T.M_Line_mirrored G_Line_mirrored (hr.mono (by decide)) T.B_Line_mirrored (takes_of (E := E) rfl rfl rfl rfl) (pv 4))) (pe_mo0 T.cl_Line T.M_Line_told G_Line_told (hr.mono (by decide)) T.B_Line_told (takes_of (E := E) rfl rfl rfl rfl) (pv 5)) (nomark _)))))
    (pss_one (ps_ret pe_bl))
    pss_nil)
    (pss_one (ps_if (PW.pt (pw_or (pt_not (pt_val (pe_cg G_law_asked_right hg (hr.mono (by decide)) rfl T.m_law_asked_right T.F_law_asked_right.kp T.B_law_asked_right (takes_of (E := E) rfl rfl rfl rfl) (pa_cons (pv 4) (pa_cons (pv 3) pa_nil))))) (pw_or1 (pt_not (pt_val (pe_cg G_law_asked_right hg (hr.mono (by decide)) rfl T.m_law_asked_right T.F_law_asked_right.kp T.B_law_asked_right (takes_of (E := E) rfl rfl rfl rfl) (pa_cons (pe_mo0 T.cl_Line T.M_Line_mirrored G_Line_mirrored (hr.mono (by decide)) T.B_Line_mirrored (takes_of (E := E) rfl rfl rfl rfl) (pv 5)) (pa_cons (pv 3) pa_nil))))))))
    (pss_one (ps_ret pe_bl))
    pss_nil)))))))))))
    (pss_one (ps_ret pe_bl))), ?_⟩
  rw [st_law]
  walk_at "u"
  refine s_lenL hS ?_
  walk_at "u"
  rw [List.length_map]
  obtain ⟨j, ej, hj2, hj⟩ := many_j ns.length 2 10 (by omega) (by omega)
  rw [ej]
  refine s_rng (by omega) (by omega) ?_
  refine for_R (fun i σ H' => Kp [] H H' ∧ ∃ u1 u2 u3 u4 u5 u6, σ = [some (.ref a), u1, u2, u3, u4, u5, u6]) ⟨Kp.refl, _, _, _, _, _, _, rfl⟩ ?_ ?_
  · rintro i σ H2 hi ⟨z2, u1, u2, u3, u4, u5, u6, rfl⟩
    walk_at "u"
    walk_at "cl"
    intro q0
    walk_at "u"
    refine c_box fun p H3 f3 k3 B3 => ?_
    walk_at "u"
    refine ⟨_, rfl, p, 0, rfl, B3, by omega, fun t a1 a2 a3 w' vp vs vl zz H4 ft et f1 e1 f2 e2 f3' e3 n12 n13 n23 nt1 nt2 nt3 R1 R2 R3 gW hzz szz nzz B4 k4 => ?_⟩
    have ntp := B3.ne ft
    have n1p := B3.ne f1
    have n2p := B3.ne f2
    have n3p := B3.ne f3'
    have hW4 : Wf H4 t w' p := ⟨⟨a1, a2, a3, vp, vs, vl, zz, et, e1, e2, e3, R1, R2, R3, ntp, n1p, n2p, n3p, szz⟩⟩
    have z24 : Kp [p] H2 H4 := k3.nil.trans k4
    clear k3 k4 B3 ft f1 f2 f3' n12 n13 n23 nt1 nt2 nt3
    walk_at "u"
    refine c_Line (w := w') (vp := vp) (vs := vs) ⟨a1, rfl, Or.inl e1⟩ R1 ⟨a2, rfl, Or.inl e2⟩ R2 (Or.inr ⟨vl, ⟨a3, rfl, Or.inl e3⟩, R3⟩) gW fun l H5 f5 hL5 k5 => ?_
    have nlp : l ≠ p := B4.ne f5
    have hW5 := hW4.kp0 k5
    have B5 := B4.kpn k5 (by simp)
    have z25 : Kp [p] H2 H5 := z24.trans k5.nil
    clear k5 f5 hW4 z24 et e1 e2 e3 R1 R2 R3 B4
    obtain ⟨tp, ts, tl, vp, vs, vl, atl, _⟩ := hL5.ex
    walk_at "u"
    refine ⟨_, rfl, l, w', rfl, hL5, fun m H6 f6 hM6 k6 => ?_⟩
    have nmp : m ≠ p := B5.ne f6
    obtain ⟨tp2, ts2, tl2, vp2, vs2, vl2, atm, _⟩ := hM6.ex
    have gM := hM6.ok
    have hW6 := hW5.kp0 k6
    walk_at "u"
    refine ⟨_, rfl, t, w', rfl, hW6.wd, gW, fun u7 H7 f7 T7 k7 => ?_⟩
    walk_at "u"
    refine c_asked (w := mrW w') (by walk_at "g") T7.wz fun H8 k8 => ?_
    have hW8 := (hW6.kp0 k7).kp0 k8
    walk_at "u"
    refine c_asked (w := w') (by walk_at "g") hW8.wd.wz fun H9 k9 => ?_
    have hW9 := hW8.kp0 k9
    walk_at "u"
    refine c_told (w := mrW w') (by walk_at "g") fun t10 H10 f10 T10 k10 => ?_
    have hW10 := hW9.kp0 k10
    walk_at "u"
    refine s_rep (T10.sh gM) ?_
    walk_at "u"
    refine ⟨_, rfl, t, w', rfl, hW10.wd, gW, fun t11 H11 f11 T11 k11 => ?_⟩
    have hW11 := hW10.kp0 k11
    walk_at "u"
    refine s_rep (T11.sh gM) ?_
    walk_at "u"
    rw [decide_eq_true rfl]
    walk_at "u"
    refine ⟨_, rfl, m, mrW w', rfl, by walk_at "g", fun q H12 f12 hQ12 k12 => ?_⟩
    rw [mr_mr] at hQ12
    have hW12 := hW11.kp0 k12
    obtain ⟨tp3, ts3, tl3, vp3, vs3, vl3, atq, _⟩ := hQ12.ex
    walk_at "u"
    refine c_told hQ12 fun t13 H13 f13 T13 k13 => ?_
    have hW13 := hW12.kp0 k13
    walk_at "u"
    refine ⟨_, rfl, t, w', rfl, hW13.wd.wz, fun t14 H14 f14 T14 k14 => ?_⟩
    walk_at "u"
    refine s_neR (d := dW w') ((T13.kp k14).sh gW).dn (T14.sh gW).dn (shp_W gW) ?_
    have hW14 := hW13.kp0 k14
    have hL14 : Ln T H14 l w' := by walk_at "g"
    have hM14 : Ln T H14 m (mrW w') := by walk_at "g"
    have k514 : Kp [] H5 H14 := by walk_at "k"
    have B14 := B5.kpn k514 (by simp)
    have z214 : Kp [p] H2 H14 := z25.trans k514.nil
    clear k6 k7 k8 k9 k10 k11 k12 k13 k14 k514 f6 f7 f10 f11 f12 f13 f14 T7 T10 T11 T13 T14 hW5 hW6 hW8 hW9 hW10 hW11 hW12 hW13 hL5 hM6 hQ12 atl atm atq B5 z25
    walk_at "u"
    refine s_rng (by omega) (by omega) ?_
    refine for_R (fun i' σ H' => Kp [p] H14 H' ∧ Box H' p (0 + 60 + 41 * i') ∧ ∃ u8, σ = [some (.ref a), some (.int (0 + (i : Int))), some (.ref p), some (.ref t), some (.ref l), some (.ref m), u8]) ⟨Kp.refl, B14, _, rfl⟩ ?_ ?_
    · rintro i' σ H15 hi' ⟨k15, B15, u8, rfl⟩
      have hi' : i' < 3 := by simpa using hi'
      have hL15 : Ln T H15 l w' := hL14.kpn k15 (by simpa using nlp)
      have hW15 := hW14.kp k15
      walk_at "u"
      refine ⟨_, _, _, rfl, p, l, t, 0 + 60 + 41 * i', w', rfl, rfl, rfl, B15, by omega, hL15, hW15, nlp, fun H16 B16 k16 => ?_⟩
      have hL16 : Ln T H16 l w' := hL15.kpn k16 (by simpa using nlp)
      have hW16 := hW15.kp k16
      obtain ⟨tp, ts, tl, vp, vs, vl, atl, _⟩ := hL16.ex
      walk_at "u"
      refine c_told hL16 fun t17 H17 f17 T17 k17 => ?_
      walk_at "u"
      refine ⟨_, rfl, t, w', rfl, (hW16.kp0 k17).wd.wz, fun t18 H18 f18 T18 k18 => ?_⟩
      walk_at "u"
      refine s_neR (d := dW w') ((T17.kp k18).sh gW).dn (T18.sh gW).dn (shp_W gW) ?_
      walk_at "u"
      exact ⟨(k15.trans k16).trans (k17.trans k18).nil, (B16.kpn (k17.trans k18) (by simp)).more (by omega), _, rfl⟩
    · rintro σ H15 ⟨k15, B15, u8, rfl⟩
      have hL15 : Ln T H15 l w' := hL14.kpn k15 (by simpa using nlp)
      have hM15 : Ln T H15 m (mrW w') := hM14.kpn k15 (by simpa using nmp)
      have hW15 := hW14.kp k15
      have z215 : Kp [p] H2 H15 := z214.trans k15
      clear k15 hL14 hM14 hW14 z214 B14
      obtain ⟨tp, ts, tl, vp, vs, vl, atl, _⟩ := hL15.ex
      obtain ⟨tp2, ts2, tl2, vp2, vs2, vl2, atm, _⟩ := hM15.ex
      walk_at "u"
      refine c_told hM15 fun t16 H16 f16 T16 k16 => ?_
      have hW16 := hW15.kp0 k16
      walk_at "u"
      refine ⟨_, rfl, t, w', rfl, hW16.wd, gW, fun t17 H17 f17 T17 k17 => ?_⟩
      have hW17 := hW16.kp0 k17
      walk_at "u"
      refine s_neR (d := dW (mrW w')) ((T16.kp k17).sh gM).dn (T17.sh gM).dn (shp_W gM) ?_
      walk_at "u"
      refine ⟨_, rfl, l, w', rfl, by walk_at "g", fun q H18 f18 hQ18 k18 => ?_⟩
      have hW18 := hW17.kp0 k18
      obtain ⟨tp3, ts3, tl3, vp3, vs3, vl3, atq, _⟩ := hQ18.ex
      walk_at "u"
      refine c_told hQ18 fun t19 H19 f19 T19 k19 => ?_
      walk_at "u"
      refine c_told (w := mrW w') (by walk_at "g") fun t20 H20 f20 T20 k20 => ?_
      walk_at "u"
      refine s_neR (d := dW (mrW w')) ((T19.kp k20).sh gM).dn (T20.sh gM).dn (shp_W gM) ?_
      have hW20 := (hW18.kp0 k19).kp0 k20
      walk_at "u"
      refine c_asked (w := w') (by walk_at "g") hW20.wd.wz fun H21 k21 => ?_
      have hW21 := hW20.kp0 k21
      walk_at "u"
      refine ⟨_, rfl, m, mrW w', rfl, by walk_at "g", fun q2 H22 f22 hQ22 k22 => ?_⟩
      rw [mr_mr] at hQ22
      have hW22 := hW21.kp0 k22
      walk_at "u"
      refine c_asked hQ22 hW22.wd.wz fun H23 k23 => ?_
      walk_at "u"
      have k1523 : Kp [] H15 H23 := by walk_at "k"
      exact ⟨z2.trans (Kp.step Kp.refl (z215.trans k1523.nil) (by intro q hq; rw [List.mem_singleton.mp hq]; exact Or.inr f3)), _, _, _, _, _, _, rfl⟩
  · rintro σ H2 ⟨z2, u1, u2, u3, u4, u5, u6, rfl⟩
    walk_at "u"
    exact k _

theorem all_mk {l : PySem.W.OpenLaw} {w : World} {K : PySem.W.Frag} {h : Heap} {mg : Str → Option Value} {fa : Addr} (X : K.In h) (G : h.Ns mainGlobals mg) (hfa : mg "law" = some (.ref fa))
    {C_Line : Addr} (n_Line : PySem.W.nsIn K mainGlobals "Line" = some (some (.ref C_Line)))
    {C_NoName : Addr} (n_NoName : PySem.W.nsIn K mainGlobals "NoName" = some (some (.ref C_NoName)))
    {C_NoPlace : Addr} (n_NoPlace : PySem.W.nsIn K mainGlobals "NoPlace" = some (some (.ref C_NoPlace)))
    {C_NoStretch : Addr} (n_NoStretch : PySem.W.nsIn K mainGlobals "NoStretch" = some (some (.ref C_NoStretch)))
    {C_NoLong : Addr} (n_NoLong : PySem.W.nsIn K mainGlobals "NoLong" = some (some (.ref C_NoLong)))
    {C_NoPlaces : Addr} (n_NoPlaces : PySem.W.nsIn K mainGlobals "NoPlaces" = some (some (.ref C_NoPlaces)))
    {C_NoStretches : Addr} (n_NoStretches : PySem.W.nsIn K mainGlobals "NoStretches" = some (some (.ref C_NoStretches)))
    {C_NoLongs : Addr} (n_NoLongs : PySem.W.nsIn K mainGlobals "NoLongs" = some (some (.ref C_NoLongs)))
    {C_NoNumber : Addr} (n_NoNumber : PySem.W.nsIn K mainGlobals "NoNumber" = some (some (.ref C_NoNumber)))
    {C_Twice : Addr} (n_Twice : PySem.W.nsIn K mainGlobals "Twice" = some (some (.ref C_Twice)))
    {C_StaffError : Addr} (n_StaffError : PySem.W.nsIn K mainGlobals "StaffError" = some (some (.ref C_StaffError)))
    {f1 : Addr} {od1 an1 : Option Addr} {sl1 : Array (Option Value)} {oc1 kV1 dc1 pm1 cd1 ct1 : Value}
    (a1 : PySem.W.findIn K (.ref C_NoName) "__init__" = some (some (.ref f1)))
    (l1 : K.lookup f1 = some ⟨oc1, od1, .func (PySem.W.fnOf "__init__" "NoName.__init__" (defArgs s_NoName_init) (defBody s_NoName_init) (defScope s_NoName_init) .none kV1 dc1 pm1 an1 cd1 ct1), sl1⟩) (c1 : PySem.W.codeIn K cd1 "NoName.__init__" = true) (k1 : PySem.W.keepIn K (.ref f1) = true)
    {f2 : Addr} {od2 an2 : Option Addr} {sl2 : Array (Option Value)} {oc2 kV2 dc2 pm2 cd2 ct2 : Value}
    (a2 : PySem.W.findIn K (.ref C_NoPlace) "__init__" = some (some (.ref f2)))
    (l2 : K.lookup f2 = some ⟨oc2, od2, .func (PySem.W.fnOf "__init__" "NoPlace.__init__" (defArgs s_NoPlace_init) (defBody s_NoPlace_init) (defScope s_NoPlace_init) .none kV2 dc2 pm2 an2 cd2 ct2), sl2⟩) (c2 : PySem.W.codeIn K cd2 "NoPlace.__init__" = true) (k2 : PySem.W.keepIn K (.ref f2) = true)
    {f3 : Addr} {od3 an3 : Option Addr} {sl3 : Array (Option Value)} {oc3 kV3 dc3 pm3 cd3 ct3 : Value}
    (a3 : PySem.W.findIn K (.ref C_NoStretch) "__init__" = some (some (.ref f3)))
    (l3 : K.lookup f3 = some ⟨oc3, od3, .func (PySem.W.fnOf "__init__" "NoStretch.__init__" (defArgs s_NoStretch_init) (defBody s_NoStretch_init) (defScope s_NoStretch_init) .none kV3 dc3 pm3 an3 cd3 ct3), sl3⟩) (c3 : PySem.W.codeIn K cd3 "NoStretch.__init__" = true) (k3 : PySem.W.keepIn K (.ref f3) = true)
    {f4 : Addr} {od4 an4 : Option Addr} {sl4 : Array (Option Value)} {oc4 kV4 dc4 pm4 cd4 ct4 : Value}
    (a4 : PySem.W.findIn K (.ref C_NoLong) "__init__" = some (some (.ref f4)))
    (l4 : K.lookup f4 = some ⟨oc4, od4, .func (PySem.W.fnOf "__init__" "NoLong.__init__" (defArgs s_NoLong_init) (defBody s_NoLong_init) (defScope s_NoLong_init) .none kV4 dc4 pm4 an4 cd4 ct4), sl4⟩) (c4 : PySem.W.codeIn K cd4 "NoLong.__init__" = true) (k4 : PySem.W.keepIn K (.ref f4) = true)
    {f5 : Addr} {od5 an5 : Option Addr} {sl5 : Array (Option Value)} {oc5 kV5 dc5 pm5 cd5 ct5 : Value}
    (a5 : PySem.W.findIn K (.ref C_NoPlaces) "__init__" = some (some (.ref f5)))
    (l5 : K.lookup f5 = some ⟨oc5, od5, .func (PySem.W.fnOf "__init__" "NoPlaces.__init__" (defArgs s_NoPlaces_init) (defBody s_NoPlaces_init) (defScope s_NoPlaces_init) .none kV5 dc5 pm5 an5 cd5 ct5), sl5⟩) (c5 : PySem.W.codeIn K cd5 "NoPlaces.__init__" = true) (k5 : PySem.W.keepIn K (.ref f5) = true)
    {f6 : Addr} {od6 an6 : Option Addr} {sl6 : Array (Option Value)} {oc6 kV6 dc6 pm6 cd6 ct6 : Value}
    (a6 : PySem.W.findIn K (.ref C_NoStretches) "__init__" = some (some (.ref f6)))
    (l6 : K.lookup f6 = some ⟨oc6, od6, .func (PySem.W.fnOf "__init__" "NoStretches.__init__" (defArgs s_NoStretches_init) (defBody s_NoStretches_init) (defScope s_NoStretches_init) .none kV6 dc6 pm6 an6 cd6 ct6), sl6⟩) (c6 : PySem.W.codeIn K cd6 "NoStretches.__init__" = true) (k6 : PySem.W.keepIn K (.ref f6) = true)
    {f7 : Addr} {od7 an7 : Option Addr} {sl7 : Array (Option Value)} {oc7 kV7 dc7 pm7 cd7 ct7 : Value}
    (a7 : PySem.W.findIn K (.ref C_NoLongs) "__init__" = some (some (.ref f7)))
    (l7 : K.lookup f7 = some ⟨oc7, od7, .func (PySem.W.fnOf "__init__" "NoLongs.__init__" (defArgs s_NoLongs_init) (defBody s_NoLongs_init) (defScope s_NoLongs_init) .none kV7 dc7 pm7 an7 cd7 ct7), sl7⟩) (c7 : PySem.W.codeIn K cd7 "NoLongs.__init__" = true) (k7 : PySem.W.keepIn K (.ref f7) = true)
    {f8 : Addr} {od8 an8 : Option Addr} {sl8 : Array (Option Value)} {oc8 kV8 dc8 pm8 cd8 ct8 : Value}
    (a8 : PySem.W.findIn K (.ref C_NoNumber) "__init__" = some (some (.ref f8)))
    (l8 : K.lookup f8 = some ⟨oc8, od8, .func (PySem.W.fnOf "__init__" "NoNumber.__init__" (defArgs s_NoNumber_init) (defBody s_NoNumber_init) (defScope s_NoNumber_init) .none kV8 dc8 pm8 an8 cd8 ct8), sl8⟩) (c8 : PySem.W.codeIn K cd8 "NoNumber.__init__" = true) (k8 : PySem.W.keepIn K (.ref f8) = true)
    {f9 : Addr} {od9 an9 : Option Addr} {sl9 : Array (Option Value)} {oc9 kV9 dc9 pm9 cd9 ct9 : Value}
    (a9 : PySem.W.findIn K (.ref C_Twice) "__init__" = some (some (.ref f9)))
    (l9 : K.lookup f9 = some ⟨oc9, od9, .func (PySem.W.fnOf "__init__" "Twice.__init__" (defArgs s_Twice_init) (defBody s_Twice_init) (defScope s_Twice_init) .none kV9 dc9 pm9 an9 cd9 ct9), sl9⟩) (c9 : PySem.W.codeIn K cd9 "Twice.__init__" = true) (k9 : PySem.W.keepIn K (.ref f9) = true)
    {f10 : Addr} {od10 an10 : Option Addr} {sl10 : Array (Option Value)} {oc10 kV10 dc10 pm10 cd10 ct10 : Value}
    (a10 : PySem.W.nsIn K mainGlobals "is_whole" = some (some (.ref f10)))
    (l10 : K.lookup f10 = some ⟨oc10, od10, .func (PySem.W.fnOf "is_whole" "is_whole" (defArgs s_is_whole) (defBody s_is_whole) (defScope s_is_whole) .none kV10 dc10 pm10 an10 cd10 ct10), sl10⟩) (c10 : PySem.W.codeIn K cd10 "is_whole" = true) (k10 : PySem.W.keepIn K (.ref f10) = true)
    {f11 : Addr} {od11 an11 : Option Addr} {sl11 : Array (Option Value)} {oc11 kV11 dc11 pm11 cd11 ct11 : Value}
    (a11 : PySem.W.nsIn K mainGlobals "is_name" = some (some (.ref f11)))
    (l11 : K.lookup f11 = some ⟨oc11, od11, .func (PySem.W.fnOf "is_name" "is_name" (defArgs s_is_name) (defBody s_is_name) (defScope s_is_name) .none kV11 dc11 pm11 an11 cd11 ct11), sl11⟩) (c11 : PySem.W.codeIn K cd11 "is_name" = true) (k11 : PySem.W.keepIn K (.ref f11) = true)
    {f12 : Addr} {od12 an12 : Option Addr} {sl12 : Array (Option Value)} {oc12 kV12 dc12 pm12 cd12 ct12 : Value}
    (a12 : PySem.W.nsIn K mainGlobals "is_row" = some (some (.ref f12)))
    (l12 : K.lookup f12 = some ⟨oc12, od12, .func (PySem.W.fnOf "is_row" "is_row" (defArgs s_is_row) (defBody s_is_row) (defScope s_is_row) .none kV12 dc12 pm12 an12 cd12 ct12), sl12⟩) (c12 : PySem.W.codeIn K cd12 "is_row" = true) (k12 : PySem.W.keepIn K (.ref f12) = true)
    {f13 : Addr} {od13 an13 : Option Addr} {sl13 : Array (Option Value)} {oc13 kV13 dc13 pm13 cd13 ct13 : Value}
    (a13 : PySem.W.nsIn K mainGlobals "good_places" = some (some (.ref f13)))
    (l13 : K.lookup f13 = some ⟨oc13, od13, .func (PySem.W.fnOf "good_places" "good_places" (defArgs s_good_places) (defBody s_good_places) (defScope s_good_places) .none kV13 dc13 pm13 an13 cd13 ct13), sl13⟩) (c13 : PySem.W.codeIn K cd13 "good_places" = true) (k13 : PySem.W.keepIn K (.ref f13) = true)
    {f14 : Addr} {od14 an14 : Option Addr} {sl14 : Array (Option Value)} {oc14 kV14 dc14 pm14 cd14 ct14 : Value}
    (a14 : PySem.W.nsIn K mainGlobals "is_stretch" = some (some (.ref f14)))
    (l14 : K.lookup f14 = some ⟨oc14, od14, .func (PySem.W.fnOf "is_stretch" "is_stretch" (defArgs s_is_stretch) (defBody s_is_stretch) (defScope s_is_stretch) .none kV14 dc14 pm14 an14 cd14 ct14), sl14⟩) (c14 : PySem.W.codeIn K cd14 "is_stretch" = true) (k14 : PySem.W.keepIn K (.ref f14) = true)
    {f15 : Addr} {od15 an15 : Option Addr} {sl15 : Array (Option Value)} {oc15 kV15 dc15 pm15 cd15 ct15 : Value}
    (a15 : PySem.W.nsIn K mainGlobals "good_stretches" = some (some (.ref f15)))
    (l15 : K.lookup f15 = some ⟨oc15, od15, .func (PySem.W.fnOf "good_stretches" "good_stretches" (defArgs s_good_stretches) (defBody s_good_stretches) (defScope s_good_stretches) .none kV15 dc15 pm15 an15 cd15 ct15), sl15⟩) (c15 : PySem.W.codeIn K cd15 "good_stretches" = true) (k15 : PySem.W.keepIn K (.ref f15) = true)
    {f16 : Addr} {od16 an16 : Option Addr} {sl16 : Array (Option Value)} {oc16 kV16 dc16 pm16 cd16 ct16 : Value}
    (a16 : PySem.W.nsIn K mainGlobals "is_long" = some (some (.ref f16)))
    (l16 : K.lookup f16 = some ⟨oc16, od16, .func (PySem.W.fnOf "is_long" "is_long" (defArgs s_is_long) (defBody s_is_long) (defScope s_is_long) .none kV16 dc16 pm16 an16 cd16 ct16), sl16⟩) (c16 : PySem.W.codeIn K cd16 "is_long" = true) (k16 : PySem.W.keepIn K (.ref f16) = true)
    {f17 : Addr} {od17 an17 : Option Addr} {sl17 : Array (Option Value)} {oc17 kV17 dc17 pm17 cd17 ct17 : Value}
    (a17 : PySem.W.nsIn K mainGlobals "good_longs" = some (some (.ref f17)))
    (l17 : K.lookup f17 = some ⟨oc17, od17, .func (PySem.W.fnOf "good_longs" "good_longs" (defArgs s_good_longs) (defBody s_good_longs) (defScope s_good_longs) .none kV17 dc17 pm17 an17 cd17 ct17), sl17⟩) (c17 : PySem.W.codeIn K cd17 "good_longs" = true) (k17 : PySem.W.keepIn K (.ref f17) = true)
    {f18 : Addr} {od18 an18 : Option Addr} {sl18 : Array (Option Value)} {oc18 kV18 dc18 pm18 cd18 ct18 : Value}
    (a18 : PySem.W.findIn K (.ref C_Line) "__init__" = some (some (.ref f18)))
    {T18 : Addr} {oT18 : Obj} {nT18 : Nat}
    (l18 : K.lookup f18 = some ⟨oc18, od18, .func (PySem.W.fnOf "__init__" "Line.__init__" (defArgs s_Line_init) (defBody s_Line_init) (defScope s_Line_init) (.ref T18) kV18 dc18 pm18 an18 cd18 ct18), sl18⟩) (c18 : PySem.W.codeIn K cd18 "Line.__init__" = true) (k18 : PySem.W.keepIn K (.ref f18) = true)
    (lT18 : K.lookup T18 = some oT18) (dT18 : oT18.data = .seq #[Value.none] nT18)
    {f19 : Addr} {od19 an19 : Option Addr} {sl19 : Array (Option Value)} {oc19 kV19 dc19 pm19 cd19 ct19 : Value}
    (a19 : PySem.W.findIn K (.ref C_Line) "names" = some (some (.ref f19)))
    (l19 : K.lookup f19 = some ⟨oc19, od19, .func (PySem.W.fnOf "names" "Line.names" (defArgs s_Line_names) (defBody s_Line_names) (defScope s_Line_names) .none kV19 dc19 pm19 an19 cd19 ct19), sl19⟩) (c19 : PySem.W.codeIn K cd19 "Line.names" = true) (k19 : PySem.W.keepIn K (.ref f19) = true)
    {f20 : Addr} {od20 an20 : Option Addr} {sl20 : Array (Option Value)} {oc20 kV20 dc20 pm20 cd20 ct20 : Value}
    (a20 : PySem.W.findIn K (.ref C_Line) "number_of" = some (some (.ref f20)))
    (l20 : K.lookup f20 = some ⟨oc20, od20, .func (PySem.W.fnOf "number_of" "Line.number_of" (defArgs s_Line_number_of) (defBody s_Line_number_of) (defScope s_Line_number_of) .none kV20 dc20 pm20 an20 cd20 ct20), sl20⟩) (c20 : PySem.W.codeIn K cd20 "Line.number_of" = true) (k20 : PySem.W.keepIn K (.ref f20) = true)
    {f21 : Addr} {od21 an21 : Option Addr} {sl21 : Array (Option Value)} {oc21 kV21 dc21 pm21 cd21 ct21 : Value}
    (a21 : PySem.W.findIn K (.ref C_Line) "roads" = some (some (.ref f21)))
    (l21 : K.lookup f21 = some ⟨oc21, od21, .func (PySem.W.fnOf "roads" "Line.roads" (defArgs s_Line_roads) (defBody s_Line_roads) (defScope s_Line_roads) .none kV21 dc21 pm21 an21 cd21 ct21), sl21⟩) (c21 : PySem.W.codeIn K cd21 "Line.roads" = true) (k21 : PySem.W.keepIn K (.ref f21) = true)
    {f22 : Addr} {od22 an22 : Option Addr} {sl22 : Array (Option Value)} {oc22 kV22 dc22 pm22 cd22 ct22 : Value}
    (a22 : PySem.W.findIn K (.ref C_Line) "many_stretches" = some (some (.ref f22)))
    (l22 : K.lookup f22 = some ⟨oc22, od22, .func (PySem.W.fnOf "many_stretches" "Line.many_stretches" (defArgs s_Line_many_stretches) (defBody s_Line_many_stretches) (defScope s_Line_many_stretches) .none kV22 dc22 pm22 an22 cd22 ct22), sl22⟩) (c22 : PySem.W.codeIn K cd22 "Line.many_stretches" = true) (k22 : PySem.W.keepIn K (.ref f22) = true)
    {f23 : Addr} {od23 an23 : Option Addr} {sl23 : Array (Option Value)} {oc23 kV23 dc23 pm23 cd23 ct23 : Value}
    (a23 : PySem.W.findIn K (.ref C_Line) "need_stretch" = some (some (.ref f23)))
    (l23 : K.lookup f23 = some ⟨oc23, od23, .func (PySem.W.fnOf "need_stretch" "Line.need_stretch" (defArgs s_Line_need_stretch) (defBody s_Line_need_stretch) (defScope s_Line_need_stretch) .none kV23 dc23 pm23 an23 cd23 ct23), sl23⟩) (c23 : PySem.W.codeIn K cd23 "Line.need_stretch" = true) (k23 : PySem.W.keepIn K (.ref f23) = true)
    {f24 : Addr} {od24 an24 : Option Addr} {sl24 : Array (Option Value)} {oc24 kV24 dc24 pm24 cd24 ct24 : Value}
    (a24 : PySem.W.findIn K (.ref C_Line) "ends" = some (some (.ref f24)))
    (l24 : K.lookup f24 = some ⟨oc24, od24, .func (PySem.W.fnOf "ends" "Line.ends" (defArgs s_Line_ends) (defBody s_Line_ends) (defScope s_Line_ends) .none kV24 dc24 pm24 an24 cd24 ct24), sl24⟩) (c24 : PySem.W.codeIn K cd24 "Line.ends" = true) (k24 : PySem.W.keepIn K (.ref f24) = true)
    {f25 : Addr} {od25 an25 : Option Addr} {sl25 : Array (Option Value)} {oc25 kV25 dc25 pm25 cd25 ct25 : Value}
    (a25 : PySem.W.findIn K (.ref C_Line) "kind" = some (some (.ref f25)))
    (l25 : K.lookup f25 = some ⟨oc25, od25, .func (PySem.W.fnOf "kind" "Line.kind" (defArgs s_Line_kind) (defBody s_Line_kind) (defScope s_Line_kind) .none kV25 dc25 pm25 an25 cd25 ct25), sl25⟩) (c25 : PySem.W.codeIn K cd25 "Line.kind" = true) (k25 : PySem.W.keepIn K (.ref f25) = true)
    {f26 : Addr} {od26 an26 : Option Addr} {sl26 : Array (Option Value)} {oc26 kV26 dc26 pm26 cd26 ct26 : Value}
    (a26 : PySem.W.findIn K (.ref C_Line) "home" = some (some (.ref f26)))
    (l26 : K.lookup f26 = some ⟨oc26, od26, .func (PySem.W.fnOf "home" "Line.home" (defArgs s_Line_home) (defBody s_Line_home) (defScope s_Line_home) .none kV26 dc26 pm26 an26 cd26 ct26), sl26⟩) (c26 : PySem.W.codeIn K cd26 "Line.home" = true) (k26 : PySem.W.keepIn K (.ref f26) = true)
    {f27 : Addr} {od27 an27 : Option Addr} {sl27 : Array (Option Value)} {oc27 kV27 dc27 pm27 cd27 ct27 : Value}
    (a27 : PySem.W.findIn K (.ref C_Line) "between" = some (some (.ref f27)))
    (l27 : K.lookup f27 = some ⟨oc27, od27, .func (PySem.W.fnOf "between" "Line.between" (defArgs s_Line_between) (defBody s_Line_between) (defScope s_Line_between) .none kV27 dc27 pm27 an27 cd27 ct27), sl27⟩) (c27 : PySem.W.codeIn K cd27 "Line.between" = true) (k27 : PySem.W.keepIn K (.ref f27) = true)
    {f28 : Addr} {od28 an28 : Option Addr} {sl28 : Array (Option Value)} {oc28 kV28 dc28 pm28 cd28 ct28 : Value}
    (a28 : PySem.W.findIn K (.ref C_Line) "many_longs" = some (some (.ref f28)))
    (l28 : K.lookup f28 = some ⟨oc28, od28, .func (PySem.W.fnOf "many_longs" "Line.many_longs" (defArgs s_Line_many_longs) (defBody s_Line_many_longs) (defScope s_Line_many_longs) .none kV28 dc28 pm28 an28 cd28 ct28), sl28⟩) (c28 : PySem.W.codeIn K cd28 "Line.many_longs" = true) (k28 : PySem.W.keepIn K (.ref f28) = true)
    {f29 : Addr} {od29 an29 : Option Addr} {sl29 : Array (Option Value)} {oc29 kV29 dc29 pm29 cd29 ct29 : Value}
    (a29 : PySem.W.findIn K (.ref C_Line) "need_long" = some (some (.ref f29)))
    (l29 : K.lookup f29 = some ⟨oc29, od29, .func (PySem.W.fnOf "need_long" "Line.need_long" (defArgs s_Line_need_long) (defBody s_Line_need_long) (defScope s_Line_need_long) .none kV29 dc29 pm29 an29 cd29 ct29), sl29⟩) (c29 : PySem.W.codeIn K cd29 "Line.need_long" = true) (k29 : PySem.W.keepIn K (.ref f29) = true)
    {f30 : Addr} {od30 an30 : Option Addr} {sl30 : Array (Option Value)} {oc30 kV30 dc30 pm30 cd30 ct30 : Value}
    (a30 : PySem.W.findIn K (.ref C_Line) "long_ends" = some (some (.ref f30)))
    (l30 : K.lookup f30 = some ⟨oc30, od30, .func (PySem.W.fnOf "long_ends" "Line.long_ends" (defArgs s_Line_long_ends) (defBody s_Line_long_ends) (defScope s_Line_long_ends) .none kV30 dc30 pm30 an30 cd30 ct30), sl30⟩) (c30 : PySem.W.codeIn K cd30 "Line.long_ends" = true) (k30 : PySem.W.keepIn K (.ref f30) = true)
    {f31 : Addr} {od31 an31 : Option Addr} {sl31 : Array (Option Value)} {oc31 kV31 dc31 pm31 cd31 ct31 : Value}
    (a31 : PySem.W.findIn K (.ref C_Line) "long_stretches" = some (some (.ref f31)))
    (l31 : K.lookup f31 = some ⟨oc31, od31, .func (PySem.W.fnOf "long_stretches" "Line.long_stretches" (defArgs s_Line_long_stretches) (defBody s_Line_long_stretches) (defScope s_Line_long_stretches) .none kV31 dc31 pm31 an31 cd31 ct31), sl31⟩) (c31 : PySem.W.codeIn K cd31 "Line.long_stretches" = true) (k31 : PySem.W.keepIn K (.ref f31) = true)
    {f32 : Addr} {od32 an32 : Option Addr} {sl32 : Array (Option Value)} {oc32 kV32 dc32 pm32 cd32 ct32 : Value}
    (a32 : PySem.W.findIn K (.ref C_Line) "long_home" = some (some (.ref f32)))
    (l32 : K.lookup f32 = some ⟨oc32, od32, .func (PySem.W.fnOf "long_home" "Line.long_home" (defArgs s_Line_long_home) (defBody s_Line_long_home) (defScope s_Line_long_home) .none kV32 dc32 pm32 an32 cd32 ct32), sl32⟩) (c32 : PySem.W.codeIn K cd32 "Line.long_home" = true) (k32 : PySem.W.keepIn K (.ref f32) = true)
    {f33 : Addr} {od33 an33 : Option Addr} {sl33 : Array (Option Value)} {oc33 kV33 dc33 pm33 cd33 ct33 : Value}
    (a33 : PySem.W.findIn K (.ref C_Line) "long_between" = some (some (.ref f33)))
    (l33 : K.lookup f33 = some ⟨oc33, od33, .func (PySem.W.fnOf "long_between" "Line.long_between" (defArgs s_Line_long_between) (defBody s_Line_long_between) (defScope s_Line_long_between) .none kV33 dc33 pm33 an33 cd33 ct33), sl33⟩) (c33 : PySem.W.codeIn K cd33 "Line.long_between" = true) (k33 : PySem.W.keepIn K (.ref f33) = true)
    {f34 : Addr} {od34 an34 : Option Addr} {sl34 : Array (Option Value)} {oc34 kV34 dc34 pm34 cd34 ct34 : Value}
    (a34 : PySem.W.findIn K (.ref C_Line) "long_of" = some (some (.ref f34)))
    (l34 : K.lookup f34 = some ⟨oc34, od34, .func (PySem.W.fnOf "long_of" "Line.long_of" (defArgs s_Line_long_of) (defBody s_Line_long_of) (defScope s_Line_long_of) .none kV34 dc34 pm34 an34 cd34 ct34), sl34⟩) (c34 : PySem.W.codeIn K cd34 "Line.long_of" = true) (k34 : PySem.W.keepIn K (.ref f34) = true)
    {f35 : Addr} {od35 an35 : Option Addr} {sl35 : Array (Option Value)} {oc35 kV35 dc35 pm35 cd35 ct35 : Value}
    (a35 : PySem.W.findIn K (.ref C_Line) "told" = some (some (.ref f35)))
    (l35 : K.lookup f35 = some ⟨oc35, od35, .func (PySem.W.fnOf "told" "Line.told" (defArgs s_Line_told) (defBody s_Line_told) (defScope s_Line_told) .none kV35 dc35 pm35 an35 cd35 ct35), sl35⟩) (c35 : PySem.W.codeIn K cd35 "Line.told" = true) (k35 : PySem.W.keepIn K (.ref f35) = true)
    {f36 : Addr} {od36 an36 : Option Addr} {sl36 : Array (Option Value)} {oc36 kV36 dc36 pm36 cd36 ct36 : Value}
    (a36 : PySem.W.findIn K (.ref C_Line) "mirrored" = some (some (.ref f36)))
    (l36 : K.lookup f36 = some ⟨oc36, od36, .func (PySem.W.fnOf "mirrored" "Line.mirrored" (defArgs s_Line_mirrored) (defBody s_Line_mirrored) (defScope s_Line_mirrored) .none kV36 dc36 pm36 an36 cd36 ct36), sl36⟩) (c36 : PySem.W.codeIn K cd36 "Line.mirrored" = true) (k36 : PySem.W.keepIn K (.ref f36) = true)
    {f37 : Addr} {od37 an37 : Option Addr} {sl37 : Array (Option Value)} {oc37 kV37 dc37 pm37 cd37 ct37 : Value}
    (a37 : PySem.W.findIn K (.ref C_Line) "renamed" = some (some (.ref f37)))
    (l37 : K.lookup f37 = some ⟨oc37, od37, .func (PySem.W.fnOf "renamed" "Line.renamed" (defArgs s_Line_renamed) (defBody s_Line_renamed) (defScope s_Line_renamed) .none kV37 dc37 pm37 an37 cd37 ct37), sl37⟩) (c37 : PySem.W.codeIn K cd37 "Line.renamed" = true) (k37 : PySem.W.keepIn K (.ref f37) = true)
    {f38 : Addr} {od38 an38 : Option Addr} {sl38 : Array (Option Value)} {oc38 kV38 dc38 pm38 cd38 ct38 : Value}
    (a38 : PySem.W.nsIn K mainGlobals "_law_cell" = some (some (.ref f38)))
    (l38 : K.lookup f38 = some ⟨oc38, od38, .func (PySem.W.fnOf "_law_cell" "_law_cell" (defArgs s_law_cell) (defBody s_law_cell) (defScope s_law_cell) .none kV38 dc38 pm38 an38 cd38 ct38), sl38⟩) (c38 : PySem.W.codeIn K cd38 "_law_cell" = true) (k38 : PySem.W.keepIn K (.ref f38) = true)
    {f39 : Addr} {od39 an39 : Option Addr} {sl39 : Array (Option Value)} {oc39 kV39 dc39 pm39 cd39 ct39 : Value}
    (a39 : PySem.W.nsIn K mainGlobals "_law_box" = some (some (.ref f39)))
    (l39 : K.lookup f39 = some ⟨oc39, od39, .func (PySem.W.fnOf "_law_box" "_law_box" (defArgs s_law_box) (defBody s_law_box) (defScope s_law_box) .none kV39 dc39 pm39 an39 cd39 ct39), sl39⟩) (c39 : PySem.W.codeIn K cd39 "_law_box" = true) (k39 : PySem.W.keepIn K (.ref f39) = true)
    {f40 : Addr} {od40 an40 : Option Addr} {sl40 : Array (Option Value)} {oc40 kV40 dc40 pm40 cd40 ct40 : Value}
    (a40 : PySem.W.nsIn K mainGlobals "_law_take" = some (some (.ref f40)))
    (l40 : K.lookup f40 = some ⟨oc40, od40, .func (PySem.W.fnOf "_law_take" "_law_take" (defArgs s_law_take) (defBody s_law_take) (defScope s_law_take) .none kV40 dc40 pm40 an40 cd40 ct40), sl40⟩) (c40 : PySem.W.codeIn K cd40 "_law_take" = true) (k40 : PySem.W.keepIn K (.ref f40) = true)
    {f41 : Addr} {od41 an41 : Option Addr} {sl41 : Array (Option Value)} {oc41 kV41 dc41 pm41 cd41 ct41 : Value}
    (a41 : PySem.W.nsIn K mainGlobals "_law_names" = some (some (.ref f41)))
    (l41 : K.lookup f41 = some ⟨oc41, od41, .func (PySem.W.fnOf "_law_names" "_law_names" (defArgs s_law_names) (defBody s_law_names) (defScope s_law_names) .none kV41 dc41 pm41 an41 cd41 ct41), sl41⟩) (c41 : PySem.W.codeIn K cd41 "_law_names" = true) (k41 : PySem.W.keepIn K (.ref f41) = true)
    {f42 : Addr} {od42 an42 : Option Addr} {sl42 : Array (Option Value)} {oc42 kV42 dc42 pm42 cd42 ct42 : Value}
    (a42 : PySem.W.nsIn K mainGlobals "_law_world" = some (some (.ref f42)))
    (l42 : K.lookup f42 = some ⟨oc42, od42, .func (PySem.W.fnOf "_law_world" "_law_world" (defArgs s_law_world) (defBody s_law_world) (defScope s_law_world) .none kV42 dc42 pm42 an42 cd42 ct42), sl42⟩) (c42 : PySem.W.codeIn K cd42 "_law_world" = true) (k42 : PySem.W.keepIn K (.ref f42) = true)
    {f43 : Addr} {od43 an43 : Option Addr} {sl43 : Array (Option Value)} {oc43 kV43 dc43 pm43 cd43 ct43 : Value}
    (a43 : PySem.W.nsIn K mainGlobals "_law_is_name" = some (some (.ref f43)))
    (l43 : K.lookup f43 = some ⟨oc43, od43, .func (PySem.W.fnOf "_law_is_name" "_law_is_name" (defArgs s_law_is_name) (defBody s_law_is_name) (defScope s_law_is_name) .none kV43 dc43 pm43 an43 cd43 ct43), sl43⟩) (c43 : PySem.W.codeIn K cd43 "_law_is_name" = true) (k43 : PySem.W.keepIn K (.ref f43) = true)
    {f44 : Addr} {od44 an44 : Option Addr} {sl44 : Array (Option Value)} {oc44 kV44 dc44 pm44 cd44 ct44 : Value}
    (a44 : PySem.W.nsIn K mainGlobals "_law_told" = some (some (.ref f44)))
    (l44 : K.lookup f44 = some ⟨oc44, od44, .func (PySem.W.fnOf "_law_told" "_law_told" (defArgs s_law_told) (defBody s_law_told) (defScope s_law_told) .none kV44 dc44 pm44 an44 cd44 ct44), sl44⟩) (c44 : PySem.W.codeIn K cd44 "_law_told" = true) (k44 : PySem.W.keepIn K (.ref f44) = true)
    {f45 : Addr} {od45 an45 : Option Addr} {sl45 : Array (Option Value)} {oc45 kV45 dc45 pm45 cd45 ct45 : Value}
    (a45 : PySem.W.nsIn K mainGlobals "_law_turned" = some (some (.ref f45)))
    (l45 : K.lookup f45 = some ⟨oc45, od45, .func (PySem.W.fnOf "_law_turned" "_law_turned" (defArgs s_law_turned) (defBody s_law_turned) (defScope s_law_turned) .none kV45 dc45 pm45 an45 cd45 ct45), sl45⟩) (c45 : PySem.W.codeIn K cd45 "_law_turned" = true) (k45 : PySem.W.keepIn K (.ref f45) = true)
    {f46 : Addr} {od46 an46 : Option Addr} {sl46 : Array (Option Value)} {oc46 kV46 dc46 pm46 cd46 ct46 : Value}
    (a46 : PySem.W.nsIn K mainGlobals "_law_dict" = some (some (.ref f46)))
    (l46 : K.lookup f46 = some ⟨oc46, od46, .func (PySem.W.fnOf "_law_dict" "_law_dict" (defArgs s_law_dict) (defBody s_law_dict) (defScope s_law_dict) .none kV46 dc46 pm46 an46 cd46 ct46), sl46⟩) (c46 : PySem.W.codeIn K cd46 "_law_dict" = true) (k46 : PySem.W.keepIn K (.ref f46) = true)
    {f47 : Addr} {od47 an47 : Option Addr} {sl47 : Array (Option Value)} {oc47 kV47 dc47 pm47 cd47 ct47 : Value}
    (a47 : PySem.W.nsIn K mainGlobals "_law_due" = some (some (.ref f47)))
    (l47 : K.lookup f47 = some ⟨oc47, od47, .func (PySem.W.fnOf "_law_due" "_law_due" (defArgs s_law_due) (defBody s_law_due) (defScope s_law_due) .none kV47 dc47 pm47 an47 cd47 ct47), sl47⟩) (c47 : PySem.W.codeIn K cd47 "_law_due" = true) (k47 : PySem.W.keepIn K (.ref f47) = true)
    {f48 : Addr} {od48 an48 : Option Addr} {sl48 : Array (Option Value)} {oc48 kV48 dc48 pm48 cd48 ct48 : Value}
    (a48 : PySem.W.nsIn K mainGlobals "_law_caught" = some (some (.ref f48)))
    (l48 : K.lookup f48 = some ⟨oc48, od48, .func (PySem.W.fnOf "_law_caught" "_law_caught" (defArgs s_law_caught) (defBody s_law_caught) (defScope s_law_caught) .none kV48 dc48 pm48 an48 cd48 ct48), sl48⟩) (c48 : PySem.W.codeIn K cd48 "_law_caught" = true) (k48 : PySem.W.keepIn K (.ref f48) = true)
    {f49 : Addr} {od49 an49 : Option Addr} {sl49 : Array (Option Value)} {oc49 kV49 dc49 pm49 cd49 ct49 : Value}
    (a49 : PySem.W.nsIn K mainGlobals "_law_stretches_asked_right" = some (some (.ref f49)))
    (l49 : K.lookup f49 = some ⟨oc49, od49, .func (PySem.W.fnOf "_law_stretches_asked_right" "_law_stretches_asked_right" (defArgs s_law_stretches_asked_right) (defBody s_law_stretches_asked_right) (defScope s_law_stretches_asked_right) .none kV49 dc49 pm49 an49 cd49 ct49), sl49⟩) (c49 : PySem.W.codeIn K cd49 "_law_stretches_asked_right" = true) (k49 : PySem.W.keepIn K (.ref f49) = true)
    {f50 : Addr} {od50 an50 : Option Addr} {sl50 : Array (Option Value)} {oc50 kV50 dc50 pm50 cd50 ct50 : Value}
    (a50 : PySem.W.nsIn K mainGlobals "_law_asked_right" = some (some (.ref f50)))
    (l50 : K.lookup f50 = some ⟨oc50, od50, .func (PySem.W.fnOf "_law_asked_right" "_law_asked_right" (defArgs s_law_asked_right) (defBody s_law_asked_right) (defScope s_law_asked_right) .none kV50 dc50 pm50 an50 cd50 ct50), sl50⟩) (c50 : PySem.W.codeIn K cd50 "_law_asked_right" = true) (k50 : PySem.W.keepIn K (.ref f50) = true)
    {f51 : Addr} {od51 an51 : Option Addr} {sl51 : Array (Option Value)} {oc51 kV51 dc51 pm51 cd51 ct51 : Value}
    (a51 : PySem.W.nsIn K mainGlobals "_law_renamed_right" = some (some (.ref f51)))
    (l51 : K.lookup f51 = some ⟨oc51, od51, .func (PySem.W.fnOf "_law_renamed_right" "_law_renamed_right" (defArgs s_law_renamed_right) (defBody s_law_renamed_right) (defScope s_law_renamed_right) .none kV51 dc51 pm51 an51 cd51 ct51), sl51⟩) (c51 : PySem.W.codeIn K cd51 "_law_renamed_right" = true) (k51 : PySem.W.keepIn K (.ref f51) = true)
    {f52 : Addr} {od52 an52 : Option Addr} {sl52 : Array (Option Value)} {oc52 kV52 dc52 pm52 cd52 ct52 : Value}
    (a52 : PySem.W.nsIn K mainGlobals "law" = some (some (.ref f52)))
    (l52 : K.lookup f52 = some ⟨oc52, od52, .func (PySem.W.fnOf "law" "law" (defArgs s_law) (defBody s_law) (defScope s_law) .none kV52 dc52 pm52 an52 cd52 ct52), sl52⟩) (c52 : PySem.W.codeIn K cd52 "law" = true) (k52 : PySem.W.keepIn K (.ref f52) = true)
    (pg_Line : PySem.W.plainGet K C_Line Str.empty = true) (hd_Line : PySem.W.hasDictIn K C_Line = true) (po_Line : PySem.W.plainOver K C_Line = true) (sa_Line : PySem.W.findIn K (.ref C_Line) "__setattr__" = some (some (.builtin "object.__setattr__"))) (mk_Line : PySem.W.makesIn K C_Line = true) (kc_Line : PySem.W.keepIn K (.ref C_Line) = true)
    (if_Line : PySem.W.isFn K (.ref f18) = true)
    (na_Line_kept_places : PySem.W.findIn K (.ref C_Line) "kept_places" = some none)
    (na_Line_kept_stretches : PySem.W.findIn K (.ref C_Line) "kept_stretches" = some none)
    (na_Line_kept_longs : PySem.W.findIn K (.ref C_Line) "kept_longs" = some none)
    (fn_Line_names : PySem.W.isFn K (.ref f19) = true)
    (fn_Line_number_of : PySem.W.isFn K (.ref f20) = true)
    (fn_Line_roads : PySem.W.isFn K (.ref f21) = true)
    (fn_Line_many_stretches : PySem.W.isFn K (.ref f22) = true)
    (fn_Line_need_stretch : PySem.W.isFn K (.ref f23) = true)
    (fn_Line_ends : PySem.W.isFn K (.ref f24) = true)
    (fn_Line_kind : PySem.W.isFn K (.ref f25) = true)
    (fn_Line_home : PySem.W.isFn K (.ref f26) = true)
    (fn_Line_between : PySem.W.isFn K (.ref f27) = true)
    (fn_Line_many_longs : PySem.W.isFn K (.ref f28) = true)
    (fn_Line_need_long : PySem.W.isFn K (.ref f29) = true)
    (fn_Line_long_ends : PySem.W.isFn K (.ref f30) = true)
    (fn_Line_long_stretches : PySem.W.isFn K (.ref f31) = true)
    (fn_Line_long_home : PySem.W.isFn K (.ref f32) = true)
    (fn_Line_long_between : PySem.W.isFn K (.ref f33) = true)
    (fn_Line_long_of : PySem.W.isFn K (.ref f34) = true)
    (fn_Line_told : PySem.W.isFn K (.ref f35) = true)
    (fn_Line_mirrored : PySem.W.isFn K (.ref f36) = true)
    (fn_Line_renamed : PySem.W.isFn K (.ref f37) = true)
    {nm_NoName q_NoName : Str} {N_NoName : Addr} {bs_NoName bm_NoName sub_NoName : List Value} {sn_NoName : List Str} {ab_NoName : Bool} {col_NoName : Option Bool} {dd_NoName : Option Addr} {e0_NoName e1_NoName e2_NoName e3_NoName e5_NoName : Option Value}
    (xL_NoName : K.lookup C_NoName = some (excClassObj nm_NoName q_NoName C_NoName N_NoName bs_NoName bm_NoName true sn_NoName sub_NoName ab_NoName col_NoName dd_NoName e0_NoName e1_NoName e2_NoName e3_NoName e5_NoName "ValueError.__new__")) (ve_NoName : PySem.HandSPX.refsVE bm_NoName = true)
    (sa_NoName : PySem.W.findIn K (.ref C_NoName) "__setattr__" = some (some (.builtin "object.__setattr__")))
    (ga_NoName : PySem.W.findIn K (.ref C_NoName) "__getattribute__" = some (some (.builtin "BaseException.__getattribute__")))
    (gg_NoName : PySem.W.findIn K (.ref C_NoName) "__getattr__" = some none)
    (no_NoName : PySem.W.findIn K (.ref C_NoName) "found" = some none)
    (ex_NoName : PySem.W.subIn K (.ref C_NoName) (.type "BaseException") = some true)
    (ty_NoName : PySem.W.typeIn K (.ref C_NoName) = some (.type "type"))
    (kC_NoName : PySem.W.keepIn K (.ref C_NoName) = true)
    (hd_NoName : PySem.W.hasDictIn K C_NoName = true)
    (ha_NoName : PySem.W.findIn K (.ref C_NoName) "__class__" = some (some (.builtin "object.__class__")))
    (hm_NoName : PySem.W.mroIn K C_NoName (.type "object") = some true)
    (ti_NoName : PySem.W.typeIn K (.ref f1) = some (.type "function"))
    {nm_NoPlace q_NoPlace : Str} {N_NoPlace : Addr} {bs_NoPlace bm_NoPlace sub_NoPlace : List Value} {sn_NoPlace : List Str} {ab_NoPlace : Bool} {col_NoPlace : Option Bool} {dd_NoPlace : Option Addr} {e0_NoPlace e1_NoPlace e2_NoPlace e3_NoPlace e5_NoPlace : Option Value}
    (xL_NoPlace : K.lookup C_NoPlace = some (excClassObj nm_NoPlace q_NoPlace C_NoPlace N_NoPlace bs_NoPlace bm_NoPlace true sn_NoPlace sub_NoPlace ab_NoPlace col_NoPlace dd_NoPlace e0_NoPlace e1_NoPlace e2_NoPlace e3_NoPlace e5_NoPlace "ValueError.__new__")) (ve_NoPlace : PySem.HandSPX.refsVE bm_NoPlace = true)
    (sa_NoPlace : PySem.W.findIn K (.ref C_NoPlace) "__setattr__" = some (some (.builtin "object.__setattr__")))
    (ga_NoPlace : PySem.W.findIn K (.ref C_NoPlace) "__getattribute__" = some (some (.builtin "BaseException.__getattribute__")))
    (gg_NoPlace : PySem.W.findIn K (.ref C_NoPlace) "__getattr__" = some none)
    (no_NoPlace : PySem.W.findIn K (.ref C_NoPlace) "found" = some none)
    (ex_NoPlace : PySem.W.subIn K (.ref C_NoPlace) (.type "BaseException") = some true)
    (ty_NoPlace : PySem.W.typeIn K (.ref C_NoPlace) = some (.type "type"))
    (kC_NoPlace : PySem.W.keepIn K (.ref C_NoPlace) = true)
    (hd_NoPlace : PySem.W.hasDictIn K C_NoPlace = true)
    (ha_NoPlace : PySem.W.findIn K (.ref C_NoPlace) "__class__" = some (some (.builtin "object.__class__")))
    (hm_NoPlace : PySem.W.mroIn K C_NoPlace (.type "object") = some true)
    (ti_NoPlace : PySem.W.typeIn K (.ref f2) = some (.type "function"))
    {nm_NoStretch q_NoStretch : Str} {N_NoStretch : Addr} {bs_NoStretch bm_NoStretch sub_NoStretch : List Value} {sn_NoStretch : List Str} {ab_NoStretch : Bool} {col_NoStretch : Option Bool} {dd_NoStretch : Option Addr} {e0_NoStretch e1_NoStretch e2_NoStretch e3_NoStretch e5_NoStretch : Option Value}
    (xL_NoStretch : K.lookup C_NoStretch = some (excClassObj nm_NoStretch q_NoStretch C_NoStretch N_NoStretch bs_NoStretch bm_NoStretch true sn_NoStretch sub_NoStretch ab_NoStretch col_NoStretch dd_NoStretch e0_NoStretch e1_NoStretch e2_NoStretch e3_NoStretch e5_NoStretch "ValueError.__new__")) (ve_NoStretch : PySem.HandSPX.refsVE bm_NoStretch = true)
    (sa_NoStretch : PySem.W.findIn K (.ref C_NoStretch) "__setattr__" = some (some (.builtin "object.__setattr__")))
    (ga_NoStretch : PySem.W.findIn K (.ref C_NoStretch) "__getattribute__" = some (some (.builtin "BaseException.__getattribute__")))
    (gg_NoStretch : PySem.W.findIn K (.ref C_NoStretch) "__getattr__" = some none)
    (no_NoStretch : PySem.W.findIn K (.ref C_NoStretch) "found" = some none)
    (ex_NoStretch : PySem.W.subIn K (.ref C_NoStretch) (.type "BaseException") = some true)
    (ty_NoStretch : PySem.W.typeIn K (.ref C_NoStretch) = some (.type "type"))
    (kC_NoStretch : PySem.W.keepIn K (.ref C_NoStretch) = true)
    (hd_NoStretch : PySem.W.hasDictIn K C_NoStretch = true)
    (ha_NoStretch : PySem.W.findIn K (.ref C_NoStretch) "__class__" = some (some (.builtin "object.__class__")))
    (hm_NoStretch : PySem.W.mroIn K C_NoStretch (.type "object") = some true)
    (ti_NoStretch : PySem.W.typeIn K (.ref f3) = some (.type "function"))
    {nm_NoLong q_NoLong : Str} {N_NoLong : Addr} {bs_NoLong bm_NoLong sub_NoLong : List Value} {sn_NoLong : List Str} {ab_NoLong : Bool} {col_NoLong : Option Bool} {dd_NoLong : Option Addr} {e0_NoLong e1_NoLong e2_NoLong e3_NoLong e5_NoLong : Option Value}
    (xL_NoLong : K.lookup C_NoLong = some (excClassObj nm_NoLong q_NoLong C_NoLong N_NoLong bs_NoLong bm_NoLong true sn_NoLong sub_NoLong ab_NoLong col_NoLong dd_NoLong e0_NoLong e1_NoLong e2_NoLong e3_NoLong e5_NoLong "ValueError.__new__")) (ve_NoLong : PySem.HandSPX.refsVE bm_NoLong = true)
    (sa_NoLong : PySem.W.findIn K (.ref C_NoLong) "__setattr__" = some (some (.builtin "object.__setattr__")))
    (ga_NoLong : PySem.W.findIn K (.ref C_NoLong) "__getattribute__" = some (some (.builtin "BaseException.__getattribute__")))
    (gg_NoLong : PySem.W.findIn K (.ref C_NoLong) "__getattr__" = some none)
    (no_NoLong : PySem.W.findIn K (.ref C_NoLong) "found" = some none)
    (ex_NoLong : PySem.W.subIn K (.ref C_NoLong) (.type "BaseException") = some true)
    (ty_NoLong : PySem.W.typeIn K (.ref C_NoLong) = some (.type "type"))
    (kC_NoLong : PySem.W.keepIn K (.ref C_NoLong) = true)
    (hd_NoLong : PySem.W.hasDictIn K C_NoLong = true)
    (ha_NoLong : PySem.W.findIn K (.ref C_NoLong) "__class__" = some (some (.builtin "object.__class__")))
    (hm_NoLong : PySem.W.mroIn K C_NoLong (.type "object") = some true)
    (ti_NoLong : PySem.W.typeIn K (.ref f4) = some (.type "function"))
    {nm_NoPlaces q_NoPlaces : Str} {N_NoPlaces : Addr} {bs_NoPlaces bm_NoPlaces sub_NoPlaces : List Value} {sn_NoPlaces : List Str} {ab_NoPlaces : Bool} {col_NoPlaces : Option Bool} {dd_NoPlaces : Option Addr} {e0_NoPlaces e1_NoPlaces e2_NoPlaces e3_NoPlaces e5_NoPlaces : Option Value}
    (xL_NoPlaces : K.lookup C_NoPlaces = some (excClassObj nm_NoPlaces q_NoPlaces C_NoPlaces N_NoPlaces bs_NoPlaces bm_NoPlaces true sn_NoPlaces sub_NoPlaces ab_NoPlaces col_NoPlaces dd_NoPlaces e0_NoPlaces e1_NoPlaces e2_NoPlaces e3_NoPlaces e5_NoPlaces "ValueError.__new__")) (ve_NoPlaces : PySem.HandSPX.refsVE bm_NoPlaces = true)
    (sa_NoPlaces : PySem.W.findIn K (.ref C_NoPlaces) "__setattr__" = some (some (.builtin "object.__setattr__")))
    (ga_NoPlaces : PySem.W.findIn K (.ref C_NoPlaces) "__getattribute__" = some (some (.builtin "BaseException.__getattribute__")))
    (gg_NoPlaces : PySem.W.findIn K (.ref C_NoPlaces) "__getattr__" = some none)
    (no_NoPlaces : PySem.W.findIn K (.ref C_NoPlaces) "found" = some none)
    (ex_NoPlaces : PySem.W.subIn K (.ref C_NoPlaces) (.type "BaseException") = some true)
    (ty_NoPlaces : PySem.W.typeIn K (.ref C_NoPlaces) = some (.type "type"))
    (kC_NoPlaces : PySem.W.keepIn K (.ref C_NoPlaces) = true)
    (hd_NoPlaces : PySem.W.hasDictIn K C_NoPlaces = true)
    (ha_NoPlaces : PySem.W.findIn K (.ref C_NoPlaces) "__class__" = some (some (.builtin "object.__class__")))
    (hm_NoPlaces : PySem.W.mroIn K C_NoPlaces (.type "object") = some true)
    (ti_NoPlaces : PySem.W.typeIn K (.ref f5) = some (.type "function"))
    {nm_NoStretches q_NoStretches : Str} {N_NoStretches : Addr} {bs_NoStretches bm_NoStretches sub_NoStretches : List Value} {sn_NoStretches : List Str} {ab_NoStretches : Bool} {col_NoStretches : Option Bool} {dd_NoStretches : Option Addr} {e0_NoStretches e1_NoStretches e2_NoStretches e3_NoStretches e5_NoStretches : Option Value}
    (xL_NoStretches : K.lookup C_NoStretches = some (excClassObj nm_NoStretches q_NoStretches C_NoStretches N_NoStretches bs_NoStretches bm_NoStretches true sn_NoStretches sub_NoStretches ab_NoStretches col_NoStretches dd_NoStretches e0_NoStretches e1_NoStretches e2_NoStretches e3_NoStretches e5_NoStretches "ValueError.__new__")) (ve_NoStretches : PySem.HandSPX.refsVE bm_NoStretches = true)
    (sa_NoStretches : PySem.W.findIn K (.ref C_NoStretches) "__setattr__" = some (some (.builtin "object.__setattr__")))
    (ga_NoStretches : PySem.W.findIn K (.ref C_NoStretches) "__getattribute__" = some (some (.builtin "BaseException.__getattribute__")))
    (gg_NoStretches : PySem.W.findIn K (.ref C_NoStretches) "__getattr__" = some none)
    (no_NoStretches : PySem.W.findIn K (.ref C_NoStretches) "found" = some none)
    (ex_NoStretches : PySem.W.subIn K (.ref C_NoStretches) (.type "BaseException") = some true)
    (ty_NoStretches : PySem.W.typeIn K (.ref C_NoStretches) = some (.type "type"))
    (kC_NoStretches : PySem.W.keepIn K (.ref C_NoStretches) = true)
    (hd_NoStretches : PySem.W.hasDictIn K C_NoStretches = true)
    (ha_NoStretches : PySem.W.findIn K (.ref C_NoStretches) "__class__" = some (some (.builtin "object.__class__")))
    (hm_NoStretches : PySem.W.mroIn K C_NoStretches (.type "object") = some true)
    (ti_NoStretches : PySem.W.typeIn K (.ref f6) = some (.type "function"))
    {nm_NoLongs q_NoLongs : Str} {N_NoLongs : Addr} {bs_NoLongs bm_NoLongs sub_NoLongs : List Value} {sn_NoLongs : List Str} {ab_NoLongs : Bool} {col_NoLongs : Option Bool} {dd_NoLongs : Option Addr} {e0_NoLongs e1_NoLongs e2_NoLongs e3_NoLongs e5_NoLongs : Option Value}
    (xL_NoLongs : K.lookup C_NoLongs = some (excClassObj nm_NoLongs q_NoLongs C_NoLongs N_NoLongs bs_NoLongs bm_NoLongs true sn_NoLongs sub_NoLongs ab_NoLongs col_NoLongs dd_NoLongs e0_NoLongs e1_NoLongs e2_NoLongs e3_NoLongs e5_NoLongs "ValueError.__new__")) (ve_NoLongs : PySem.HandSPX.refsVE bm_NoLongs = true)
    (sa_NoLongs : PySem.W.findIn K (.ref C_NoLongs) "__setattr__" = some (some (.builtin "object.__setattr__")))
    (ga_NoLongs : PySem.W.findIn K (.ref C_NoLongs) "__getattribute__" = some (some (.builtin "BaseException.__getattribute__")))
    (gg_NoLongs : PySem.W.findIn K (.ref C_NoLongs) "__getattr__" = some none)
    (no_NoLongs : PySem.W.findIn K (.ref C_NoLongs) "found" = some none)
    (ex_NoLongs : PySem.W.subIn K (.ref C_NoLongs) (.type "BaseException") = some true)
    (ty_NoLongs : PySem.W.typeIn K (.ref C_NoLongs) = some (.type "type"))
    (kC_NoLongs : PySem.W.keepIn K (.ref C_NoLongs) = true)
    (hd_NoLongs : PySem.W.hasDictIn K C_NoLongs = true)
    (ha_NoLongs : PySem.W.findIn K (.ref C_NoLongs) "__class__" = some (some (.builtin "object.__class__")))
    (hm_NoLongs : PySem.W.mroIn K C_NoLongs (.type "object") = some true)
    (ti_NoLongs : PySem.W.typeIn K (.ref f7) = some (.type "function"))
    {nm_NoNumber q_NoNumber : Str} {N_NoNumber : Addr} {bs_NoNumber bm_NoNumber sub_NoNumber : List Value} {sn_NoNumber : List Str} {ab_NoNumber : Bool} {col_NoNumber : Option Bool} {dd_NoNumber : Option Addr} {e0_NoNumber e1_NoNumber e2_NoNumber e3_NoNumber e5_NoNumber : Option Value}
    (xL_NoNumber : K.lookup C_NoNumber = some (excClassObj nm_NoNumber q_NoNumber C_NoNumber N_NoNumber bs_NoNumber bm_NoNumber true sn_NoNumber sub_NoNumber ab_NoNumber col_NoNumber dd_NoNumber e0_NoNumber e1_NoNumber e2_NoNumber e3_NoNumber e5_NoNumber "ValueError.__new__")) (ve_NoNumber : PySem.HandSPX.refsVE bm_NoNumber = true)
    (sa_NoNumber : PySem.W.findIn K (.ref C_NoNumber) "__setattr__" = some (some (.builtin "object.__setattr__")))
    (ga_NoNumber : PySem.W.findIn K (.ref C_NoNumber) "__getattribute__" = some (some (.builtin "BaseException.__getattribute__")))
    (gg_NoNumber : PySem.W.findIn K (.ref C_NoNumber) "__getattr__" = some none)
    (no_NoNumber : PySem.W.findIn K (.ref C_NoNumber) "found" = some none)
    (ex_NoNumber : PySem.W.subIn K (.ref C_NoNumber) (.type "BaseException") = some true)
    (ty_NoNumber : PySem.W.typeIn K (.ref C_NoNumber) = some (.type "type"))
    (kC_NoNumber : PySem.W.keepIn K (.ref C_NoNumber) = true)
    (hd_NoNumber : PySem.W.hasDictIn K C_NoNumber = true)
    (ha_NoNumber : PySem.W.findIn K (.ref C_NoNumber) "__class__" = some (some (.builtin "object.__class__")))
    (hm_NoNumber : PySem.W.mroIn K C_NoNumber (.type "object") = some true)
    (ti_NoNumber : PySem.W.typeIn K (.ref f8) = some (.type "function"))
    {nm_Twice q_Twice : Str} {N_Twice : Addr} {bs_Twice bm_Twice sub_Twice : List Value} {sn_Twice : List Str} {ab_Twice : Bool} {col_Twice : Option Bool} {dd_Twice : Option Addr} {e0_Twice e1_Twice e2_Twice e3_Twice e5_Twice : Option Value}
    (xL_Twice : K.lookup C_Twice = some (excClassObj nm_Twice q_Twice C_Twice N_Twice bs_Twice bm_Twice true sn_Twice sub_Twice ab_Twice col_Twice dd_Twice e0_Twice e1_Twice e2_Twice e3_Twice e5_Twice "ValueError.__new__")) (ve_Twice : PySem.HandSPX.refsVE bm_Twice = true)
    (sa_Twice : PySem.W.findIn K (.ref C_Twice) "__setattr__" = some (some (.builtin "object.__setattr__")))
    (ga_Twice : PySem.W.findIn K (.ref C_Twice) "__getattribute__" = some (some (.builtin "BaseException.__getattribute__")))
    (gg_Twice : PySem.W.findIn K (.ref C_Twice) "__getattr__" = some none)
    (no_Twice : PySem.W.findIn K (.ref C_Twice) "found" = some none)
    (ex_Twice : PySem.W.subIn K (.ref C_Twice) (.type "BaseException") = some true)
    (ty_Twice : PySem.W.typeIn K (.ref C_Twice) = some (.type "type"))
    (kC_Twice : PySem.W.keepIn K (.ref C_Twice) = true)
    (hd_Twice : PySem.W.hasDictIn K C_Twice = true)
    (ha_Twice : PySem.W.findIn K (.ref C_Twice) "__class__" = some (some (.builtin "object.__class__")))
    (hm_Twice : PySem.W.mroIn K C_Twice (.type "object") = some true)
    (ti_Twice : PySem.W.typeIn K (.ref f9) = some (.type "function"))
    (rd_StaffError : PySem.W.readsIn K C_StaffError (.type "type") = true) (rg_StaffError : PySem.W.specialIn K (.ref C_StaffError) "__getattribute__" = some (some (.builtin "type.__getattribute__"))) (vi_StaffError : PySem.W.findCls K (.ref C_StaffError) (.type "type") "__init__" = some (.val (.builtin "ValueError.__init__")))
    (oc_get : PySem.W.specialIn K (.builtin "object.__class__") "__get__" = some (some (.builtin "getset_descriptor.__get__"))) (oc_take : PySem.W.takesIn K (.builtin "object.__class__") = some true)
    (ex_NoName_NoName : PySem.W.exmOne K (.ref C_NoName) (.ref C_NoName) = some true)
    (ex_Twice_NoName : PySem.W.exmOne K (.ref C_Twice) (.ref C_NoName) = some false)
    (ex_Twice_Twice : PySem.W.exmOne K (.ref C_Twice) (.ref C_Twice) = some true)
    {u_LONGEST : Value} (g_LONGEST : PySem.W.nsIn K mainGlobals "LONGEST" = some (some u_LONGEST)) (r_LONGEST : RelV (V.int 6) u_LONGEST)
    {u_LETTERS : Value} (g_LETTERS : PySem.W.nsIn K mainGlobals "LETTERS" = some (some u_LETTERS)) (r_LETTERS : RelV (V.str "abcdefghijklmnopqrstuvwxyz") u_LETTERS)
    {u_FEWEST_PLACES : Value} (g_FEWEST_PLACES : PySem.W.nsIn K mainGlobals "FEWEST_PLACES" = some (some u_FEWEST_PLACES)) (r_FEWEST_PLACES : RelV (V.int 2) u_FEWEST_PLACES)
    {u_MOST_PLACES : Value} (g_MOST_PLACES : PySem.W.nsIn K mainGlobals "MOST_PLACES" = some (some u_MOST_PLACES)) (r_MOST_PLACES : RelV (V.int 6) u_MOST_PLACES)
    {u_MOST_ROADS : Value} (g_MOST_ROADS : PySem.W.nsIn K mainGlobals "MOST_ROADS" = some (some u_MOST_ROADS)) (r_MOST_ROADS : RelV (V.int 3) u_MOST_ROADS)
    {u_MOST_LONGS : Value} (g_MOST_LONGS : PySem.W.nsIn K mainGlobals "MOST_LONGS" = some (some u_MOST_LONGS)) (r_MOST_LONGS : RelV (V.int 2) u_MOST_LONGS)
    (z_abs : PySem.W.nsIn K mainGlobals "abs" = some none)
    (z_all : PySem.W.nsIn K mainGlobals "all" = some none)
    (z_bool : PySem.W.nsIn K mainGlobals "bool" = some none)
    (z_dict : PySem.W.nsIn K mainGlobals "dict" = some none)
    (z_enumerate : PySem.W.nsIn K mainGlobals "enumerate" = some none)
    (z_int : PySem.W.nsIn K mainGlobals "int" = some none)
    (z_isinstance : PySem.W.nsIn K mainGlobals "isinstance" = some none)
    (z_len : PySem.W.nsIn K mainGlobals "len" = some none)
    (z_list : PySem.W.nsIn K mainGlobals "list" = some none)
    (z_max : PySem.W.nsIn K mainGlobals "max" = some none)
    (z_min : PySem.W.nsIn K mainGlobals "min" = some none)
    (z_range : PySem.W.nsIn K mainGlobals "range" = some none)
    (z_repr : PySem.W.nsIn K mainGlobals "repr" = some none)
    (z_reversed : PySem.W.nsIn K mainGlobals "reversed" = some none)
    (z_str : PySem.W.nsIn K mainGlobals "str" = some none)
    (z_tuple : PySem.W.nsIn K mainGlobals "tuple" = some none)
    (z_zip : PySem.W.nsIn K mainGlobals "zip" = some none) :
    ∃ fd : FuncData, (∀ (s : Shared) (v : Value), BindsTo s fd ⟨[v], []⟩ [("_law_script", v)]) ∧ ∀ base : Heap, K.In base → base.Ns mainGlobals mg → (∃ mm, base.Ns sysModules mm) → FnG l.prog w K mg base (L2.CX l.prog w) 9 fa fd ["_law_script"] (sp_law K) := by
  have e : fa = f52 := by
    have z := hfa.symm.trans (PySem.W.mg_of X G a52)
    injection z with z; injection z
  let D0 : Td0 := { C_Line := C_Line, C_NoName := C_NoName, C_NoPlace := C_NoPlace, C_NoStretch := C_NoStretch, C_NoLong := C_NoLong, C_NoPlaces := C_NoPlaces, C_NoStretches := C_NoStretches, C_NoLongs := C_NoLongs, C_NoNumber := C_NoNumber, C_Twice := C_Twice, C_StaffError := C_StaffError, a_NoName_init := f1, d_NoName_init := PySem.W.fnOf "__init__" "NoName.__init__" (defArgs s_NoName_init) (defBody s_NoName_init) (defScope s_NoName_init) .none kV1 dc1 pm1 an1 cd1 ct1, a_NoPlace_init := f2, d_NoPlace_init := PySem.W.fnOf "__init__" "NoPlace.__init__" (defArgs s_NoPlace_init) (defBody s_NoPlace_init) (defScope s_NoPlace_init) .none kV2 dc2 pm2 an2 cd2 ct2, a_NoStretch_init := f3, d_NoStretch_init := PySem.W.fnOf "__init__" "NoStretch.__init__" (defArgs s_NoStretch_init) (defBody s_NoStretch_init) (defScope s_NoStretch_init) .none kV3 dc3 pm3 an3 cd3 ct3, a_NoLong_init := f4, d_NoLong_init := PySem.W.fnOf "__init__" "NoLong.__init__" (defArgs s_NoLong_init) (defBody s_NoLong_init) (defScope s_NoLong_init) .none kV4 dc4 pm4 an4 cd4 ct4, a_NoPlaces_init := f5, d_NoPlaces_init := PySem.W.fnOf "__init__" "NoPlaces.__init__" (defArgs s_NoPlaces_init) (defBody s_NoPlaces_init) (defScope s_NoPlaces_init) .none kV5 dc5 pm5 an5 cd5 ct5, a_NoStretches_init := f6, d_NoStretches_init := PySem.W.fnOf "__init__" "NoStretches.__init__" (defArgs s_NoStretches_init) (defBody s_NoStretches_init) (defScope s_NoStretches_init) .none kV6 dc6 pm6 an6 cd6 ct6, a_NoLongs_init := f7 }
  let D1 : Td1 := { d_NoLongs_init := PySem.W.fnOf "__init__" "NoLongs.__init__" (defArgs s_NoLongs_init) (defBody s_NoLongs_init) (defScope s_NoLongs_init) .none kV7 dc7 pm7 an7 cd7 ct7, a_NoNumber_init := f8, d_NoNumber_init := PySem.W.fnOf "__init__" "NoNumber.__init__" (defArgs s_NoNumber_init) (defBody s_NoNumber_init) (defScope s_NoNumber_init) .none kV8 dc8 pm8 an8 cd8 ct8, a_Twice_init := f9, d_Twice_init := PySem.W.fnOf "__init__" "Twice.__init__" (defArgs s_Twice_init) (defBody s_Twice_init) (defScope s_Twice_init) .none kV9 dc9 pm9 an9 cd9 ct9, a_is_whole := f10, d_is_whole := PySem.W.fnOf "is_whole" "is_whole" (defArgs s_is_whole) (defBody s_is_whole) (defScope s_is_whole) .none kV10 dc10 pm10 an10 cd10 ct10, a_is_name := f11, d_is_name := PySem.W.fnOf "is_name" "is_name" (defArgs s_is_name) (defBody s_is_name) (defScope s_is_name) .none kV11 dc11 pm11 an11 cd11 ct11, a_is_row := f12, d_is_row := PySem.W.fnOf "is_row" "is_row" (defArgs s_is_row) (defBody s_is_row) (defScope s_is_row) .none kV12 dc12 pm12 an12 cd12 ct12, a_good_places := f13, d_good_places := PySem.W.fnOf "good_places" "good_places" (defArgs s_good_places) (defBody s_good_places) (defScope s_good_places) .none kV13 dc13 pm13 an13 cd13 ct13, a_is_stretch := f14, d_is_stretch := PySem.W.fnOf "is_stretch" "is_stretch" (defArgs s_is_stretch) (defBody s_is_stretch) (defScope s_is_stretch) .none kV14 dc14 pm14 an14 cd14 ct14, a_good_stretches := f15, d_good_stretches := PySem.W.fnOf "good_stretches" "good_stretches" (defArgs s_good_stretches) (defBody s_good_stretches) (defScope s_good_stretches) .none kV15 dc15 pm15 an15 cd15 ct15, a_is_long := f16, d_is_long := PySem.W.fnOf "is_long" "is_long" (defArgs s_is_long) (defBody s_is_long) (defScope s_is_long) .none kV16 dc16 pm16 an16 cd16 ct16, a_good_longs := f17, d_good_longs := PySem.W.fnOf "good_longs" "good_longs" (defArgs s_good_longs) (defBody s_good_longs) (defScope s_good_longs) .none kV17 dc17 pm17 an17 cd17 ct17, a_Line_init := f18, d_Line_init := PySem.W.fnOf "__init__" "Line.__init__" (defArgs s_Line_init) (defBody s_Line_init) (defScope s_Line_init) (.ref T18) kV18 dc18 pm18 an18 cd18 ct18, a_Line_names := f19 }
  let D2 : Td2 := { d_Line_names := PySem.W.fnOf "names" "Line.names" (defArgs s_Line_names) (defBody s_Line_names) (defScope s_Line_names) .none kV19 dc19 pm19 an19 cd19 ct19, a_Line_number_of := f20, d_Line_number_of := PySem.W.fnOf "number_of" "Line.number_of" (defArgs s_Line_number_of) (defBody s_Line_number_of) (defScope s_Line_number_of) .none kV20 dc20 pm20 an20 cd20 ct20, a_Line_roads := f21, d_Line_roads := PySem.W.fnOf "roads" "Line.roads" (defArgs s_Line_roads) (defBody s_Line_roads) (defScope s_Line_roads) .none kV21 dc21 pm21 an21 cd21 ct21, a_Line_many_stretches := f22, d_Line_many_stretches := PySem.W.fnOf "many_stretches" "Line.many_stretches" (defArgs s_Line_many_stretches) (defBody s_Line_many_stretches) (defScope s_Line_many_stretches) .none kV22 dc22 pm22 an22 cd22 ct22, a_Line_need_stretch := f23, d_Line_need_stretch := PySem.W.fnOf "need_stretch" "Line.need_stretch" (defArgs s_Line_need_stretch) (defBody s_Line_need_stretch) (defScope s_Line_need_stretch) .none kV23 dc23 pm23 an23 cd23 ct23, a_Line_ends := f24, d_Line_ends := PySem.W.fnOf "ends" "Line.ends" (defArgs s_Line_ends) (defBody s_Line_ends) (defScope s_Line_ends) .none kV24 dc24 pm24 an24 cd24 ct24, a_Line_kind := f25, d_Line_kind := PySem.W.fnOf "kind" "Line.kind" (defArgs s_Line_kind) (defBody s_Line_kind) (defScope s_Line_kind) .none kV25 dc25 pm25 an25 cd25 ct25, a_Line_home := f26, d_Line_home := PySem.W.fnOf "home" "Line.home" (defArgs s_Line_home) (defBody s_Line_home) (defScope s_Line_home) .none kV26 dc26 pm26 an26 cd26 ct26, a_Line_between := f27, d_Line_between := PySem.W.fnOf "between" "Line.between" (defArgs s_Line_between) (defBody s_Line_between) (defScope s_Line_between) .none kV27 dc27 pm27 an27 cd27 ct27, a_Line_many_longs := f28, d_Line_many_longs := PySem.W.fnOf "many_longs" "Line.many_longs" (defArgs s_Line_many_longs) (defBody s_Line_many_longs) (defScope s_Line_many_longs) .none kV28 dc28 pm28 an28 cd28 ct28, a_Line_need_long := f29, d_Line_need_long := PySem.W.fnOf "need_long" "Line.need_long" (defArgs s_Line_need_long) (defBody s_Line_need_long) (defScope s_Line_need_long) .none kV29 dc29 pm29 an29 cd29 ct29, a_Line_long_ends := f30, d_Line_long_ends := PySem.W.fnOf "long_ends" "Line.long_ends" (defArgs s_Line_long_ends) (defBody s_Line_long_ends) (defScope s_Line_long_ends) .none kV30 dc30 pm30 an30 cd30 ct30, a_Line_long_stretches := f31 }
  let D3 : Td3 := { d_Line_long_stretches := PySem.W.fnOf "long_stretches" "Line.long_stretches" (defArgs s_Line_long_stretches) (defBody s_Line_long_stretches) (defScope s_Line_long_stretches) .none kV31 dc31 pm31 an31 cd31 ct31, a_Line_long_home := f32, d_Line_long_home := PySem.W.fnOf "long_home" "Line.long_home" (defArgs s_Line_long_home) (defBody s_Line_long_home) (defScope s_Line_long_home) .none kV32 dc32 pm32 an32 cd32 ct32, a_Line_long_between := f33, d_Line_long_between := PySem.W.fnOf "long_between" "Line.long_between" (defArgs s_Line_long_between) (defBody s_Line_long_between) (defScope s_Line_long_between) .none kV33 dc33 pm33 an33 cd33 ct33, a_Line_long_of := f34, d_Line_long_of := PySem.W.fnOf "long_of" "Line.long_of" (defArgs s_Line_long_of) (defBody s_Line_long_of) (defScope s_Line_long_of) .none kV34 dc34 pm34 an34 cd34 ct34, a_Line_told := f35, d_Line_told := PySem.W.fnOf "told" "Line.told" (defArgs s_Line_told) (defBody s_Line_told) (defScope s_Line_told) .none kV35 dc35 pm35 an35 cd35 ct35, a_Line_mirrored := f36, d_Line_mirrored := PySem.W.fnOf "mirrored" "Line.mirrored" (defArgs s_Line_mirrored) (defBody s_Line_mirrored) (defScope s_Line_mirrored) .none kV36 dc36 pm36 an36 cd36 ct36, a_Line_renamed := f37, d_Line_renamed := PySem.W.fnOf "renamed" "Line.renamed" (defArgs s_Line_renamed) (defBody s_Line_renamed) (defScope s_Line_renamed) .none kV37 dc37 pm37 an37 cd37 ct37, a_law_cell := f38, d_law_cell := PySem.W.fnOf "_law_cell" "_law_cell" (defArgs s_law_cell) (defBody s_law_cell) (defScope s_law_cell) .none kV38 dc38 pm38 an38 cd38 ct38, a_law_box := f39, d_law_box := PySem.W.fnOf "_law_box" "_law_box" (defArgs s_law_box) (defBody s_law_box) (defScope s_law_box) .none kV39 dc39 pm39 an39 cd39 ct39, a_law_take := f40, d_law_take := PySem.W.fnOf "_law_take" "_law_take" (defArgs s_law_take) (defBody s_law_take) (defScope s_law_take) .none kV40 dc40 pm40 an40 cd40 ct40, a_law_names := f41, d_law_names := PySem.W.fnOf "_law_names" "_law_names" (defArgs s_law_names) (defBody s_law_names) (defScope s_law_names) .none kV41 dc41 pm41 an41 cd41 ct41, a_law_world := f42, d_law_world := PySem.W.fnOf "_law_world" "_law_world" (defArgs s_law_world) (defBody s_law_world) (defScope s_law_world) .none kV42 dc42 pm42 an42 cd42 ct42, a_law_is_name := f43 }
  let D4 : Td4 := { d_law_is_name := PySem.W.fnOf "_law_is_name" "_law_is_name" (defArgs s_law_is_name) (defBody s_law_is_name) (defScope s_law_is_name) .none kV43 dc43 pm43 an43 cd43 ct43, a_law_told := f44, d_law_told := PySem.W.fnOf "_law_told" "_law_told" (defArgs s_law_told) (defBody s_law_told) (defScope s_law_told) .none kV44 dc44 pm44 an44 cd44 ct44, a_law_turned := f45, d_law_turned := PySem.W.fnOf "_law_turned" "_law_turned" (defArgs s_law_turned) (defBody s_law_turned) (defScope s_law_turned) .none kV45 dc45 pm45 an45 cd45 ct45, a_law_dict := f46, d_law_dict := PySem.W.fnOf "_law_dict" "_law_dict" (defArgs s_law_dict) (defBody s_law_dict) (defScope s_law_dict) .none kV46 dc46 pm46 an46 cd46 ct46, a_law_due := f47, d_law_due := PySem.W.fnOf "_law_due" "_law_due" (defArgs s_law_due) (defBody s_law_due) (defScope s_law_due) .none kV47 dc47 pm47 an47 cd47 ct47, a_law_caught := f48, d_law_caught := PySem.W.fnOf "_law_caught" "_law_caught" (defArgs s_law_caught) (defBody s_law_caught) (defScope s_law_caught) .none kV48 dc48 pm48 an48 cd48 ct48, a_law_stretches_asked_right := f49, d_law_stretches_asked_right := PySem.W.fnOf "_law_stretches_asked_right" "_law_stretches_asked_right" (defArgs s_law_stretches_asked_right) (defBody s_law_stretches_asked_right) (defScope s_law_stretches_asked_right) .none kV49 dc49 pm49 an49 cd49 ct49, a_law_asked_right := f50, d_law_asked_right := PySem.W.fnOf "_law_asked_right" "_law_asked_right" (defArgs s_law_asked_right) (defBody s_law_asked_right) (defScope s_law_asked_right) .none kV50 dc50 pm50 an50 cd50 ct50, a_law_renamed_right := f51, d_law_renamed_right := PySem.W.fnOf "_law_renamed_right" "_law_renamed_right" (defArgs s_law_renamed_right) (defBody s_law_renamed_right) (defScope s_law_renamed_right) .none kV51 dc51 pm51 an51 cd51 ct51, a_law := f52, d_law := PySem.W.fnOf "law" "law" (defArgs s_law) (defBody s_law) (defScope s_law) .none kV52 dc52 pm52 an52 cd52 ct52, c_LONGEST := u_LONGEST, c_LETTERS := u_LETTERS, c_FEWEST_PLACES := u_FEWEST_PLACES, c_MOST_PLACES := u_MOST_PLACES, c_MOST_ROADS := u_MOST_ROADS }
  let D5 : Td5 := { c_MOST_LONGS := u_MOST_LONGS }
  let D : Td := { p0 := D0, p1 := D1, p2 := D2, p3 := D3, p4 := D4, p5 := D5 }
  have q0 : Tp0 K mg D := {
    m_Line := PySem.W.mg_of X G n_Line,
    m_NoName := PySem.W.mg_of X G n_NoName,
    m_NoPlace := PySem.W.mg_of X G n_NoPlace,
    m_NoStretch := PySem.W.mg_of X G n_NoStretch,
    m_NoLong := PySem.W.mg_of X G n_NoLong,
    m_NoPlaces := PySem.W.mg_of X G n_NoPlaces,
    m_NoStretches := PySem.W.mg_of X G n_NoStretches,
    m_NoLongs := PySem.W.mg_of X G n_NoLongs,
    m_NoNumber := PySem.W.mg_of X G n_NoNumber,
    m_Twice := PySem.W.mg_of X G n_Twice,
    m_StaffError := PySem.W.mg_of X G n_StaffError,
    F_NoName_init := fun_mk (st := s_NoName_init) l1 c1 k1,
    B_NoName_init := (fun_mk (st := s_NoName_init) l1 c1 k1).binds (ps := ["self", "found"]) (fun _ _ _ _ _ _ us hl => match us, hl with | [_, _], _ => by kernel_rfl),
    F_NoPlace_init := fun_mk (st := s_NoPlace_init) l2 c2 k2,
    B_NoPlace_init := (fun_mk (st := s_NoPlace_init) l2 c2 k2).binds (ps := ["self", "found"]) (fun _ _ _ _ _ _ us hl => match us, hl with | [_, _], _ => by kernel_rfl),
    F_NoStretch_init := fun_mk (st := s_NoStretch_init) l3 c3 k3,
    B_NoStretch_init := (fun_mk (st := s_NoStretch_init) l3 c3 k3).binds (ps := ["self", "found"]) (fun _ _ _ _ _ _ us hl => match us, hl with | [_, _], _ => by kernel_rfl),
    F_NoLong_init := fun_mk (st := s_NoLong_init) l4 c4 k4,
    B_NoLong_init := (fun_mk (st := s_NoLong_init) l4 c4 k4).binds (ps := ["self", "found"]) (fun _ _ _ _ _ _ us hl => match us, hl with | [_, _], _ => by kernel_rfl),
    F_NoPlaces_init := fun_mk (st := s_NoPlaces_init) l5 c5 k5,
    B_NoPlaces_init := (fun_mk (st := s_NoPlaces_init) l5 c5 k5).binds (ps := ["self", "found"]) (fun _ _ _ _ _ _ us hl => match us, hl with | [_, _], _ => by kernel_rfl),
    F_NoStretches_init := fun_mk (st := s_NoStretches_init) l6 c6 k6,
    B_NoStretches_init := (fun_mk (st := s_NoStretches_init) l6 c6 k6).binds (ps := ["self", "found"]) (fun _ _ _ _ _ _ us hl => match us, hl with | [_, _], _ => by kernel_rfl),
    F_NoLongs_init := fun_mk (st := s_NoLongs_init) l7 c7 k7 }
  have q1 : Tp1 K mg D := {
    B_NoLongs_init := (fun_mk (st := s_NoLongs_init) l7 c7 k7).binds (ps := ["self", "found"]) (fun _ _ _ _ _ _ us hl => match us, hl with | [_, _], _ => by kernel_rfl),
    F_NoNumber_init := fun_mk (st := s_NoNumber_init) l8 c8 k8,
    B_NoNumber_init := (fun_mk (st := s_NoNumber_init) l8 c8 k8).binds (ps := ["self", "found"]) (fun _ _ _ _ _ _ us hl => match us, hl with | [_, _], _ => by kernel_rfl),
    F_Twice_init := fun_mk (st := s_Twice_init) l9 c9 k9,
    B_Twice_init := (fun_mk (st := s_Twice_init) l9 c9 k9).binds (ps := ["self", "found"]) (fun _ _ _ _ _ _ us hl => match us, hl with | [_, _], _ => by kernel_rfl),
    F_is_whole := fun_mk (st := s_is_whole) l10 c10 k10,
    B_is_whole := (fun_mk (st := s_is_whole) l10 c10 k10).binds (ps := ["thing", "low", "high"]) (fun _ _ _ _ _ _ us hl => match us, hl with | [_, _, _], _ => by kernel_rfl),
    m_is_whole := PySem.W.mg_of X G a10,
    F_is_name := fun_mk (st := s_is_name) l11 c11 k11,
    B_is_name := (fun_mk (st := s_is_name) l11 c11 k11).binds (ps := ["thing"]) (fun _ _ _ _ _ _ us hl => match us, hl with | [_], _ => by kernel_rfl),
    m_is_name := PySem.W.mg_of X G a11,
    F_is_row := fun_mk (st := s_is_row) l12 c12 k12,
    B_is_row := (fun_mk (st := s_is_row) l12 c12 k12).binds (ps := ["thing", "size"]) (fun _ _ _ _ _ _ us hl => match us, hl with | [_, _], _ => by kernel_rfl),
    m_is_row := PySem.W.mg_of X G a12,
    F_good_places := fun_mk (st := s_good_places) l13 c13 k13,
    B_good_places := (fun_mk (st := s_good_places) l13 c13 k13).binds (ps := ["places"]) (fun _ _ _ _ _ _ us hl => match us, hl with | [_], _ => by kernel_rfl),
    m_good_places := PySem.W.mg_of X G a13,
    F_is_stretch := fun_mk (st := s_is_stretch) l14 c14 k14,
    B_is_stretch := (fun_mk (st := s_is_stretch) l14 c14 k14).binds (ps := ["thing"]) (fun _ _ _ _ _ _ us hl => match us, hl with | [_], _ => by kernel_rfl),
    m_is_stretch := PySem.W.mg_of X G a14,
    F_good_stretches := fun_mk (st := s_good_stretches) l15 c15 k15,
    B_good_stretches := (fun_mk (st := s_good_stretches) l15 c15 k15).binds (ps := ["stretches", "many"]) (fun _ _ _ _ _ _ us hl => match us, hl with | [_, _], _ => by kernel_rfl),
    m_good_stretches := PySem.W.mg_of X G a15,
    F_is_long := fun_mk (st := s_is_long) l16 c16 k16 }
  have q2 : Tp2 K mg D := {
    B_is_long := (fun_mk (st := s_is_long) l16 c16 k16).binds (ps := ["thing", "low", "high"]) (fun _ _ _ _ _ _ us hl => match us, hl with | [_, _, _], _ => by kernel_rfl),
    m_is_long := PySem.W.mg_of X G a16,
    F_good_longs := fun_mk (st := s_good_longs) l17 c17 k17,
    B_good_longs := (fun_mk (st := s_good_longs) l17 c17 k17).binds (ps := ["longs", "many"]) (fun _ _ _ _ _ _ us hl => match us, hl with | [_, _], _ => by kernel_rfl),
    m_good_longs := PySem.W.mg_of X G a17,
    F_Line_init := funN_mk (st := s_Line_init) l18 c18 k18 lT18 dT18,
    B_Line_init := funN_full (ps := ["self", "places", "stretches", "longs"]) (funN_mk (st := s_Line_init) l18 c18 k18 lT18 dT18) 4 rfl (fun _ _ _ _ _ _ _ us its hu hi => match us, hu, its, hi with | [_, _, _, _], _, [_], _ => ⟨_, rfl, rfl⟩),
    Bp_Line_init := funN_part (ps := ["self", "places", "stretches", "longs"]) (funN_mk (st := s_Line_init) l18 c18 k18 lT18 dT18) 3 rfl (fun _ _ _ _ _ _ _ us its hu hi => match us, hu, its, hi with | [_, _, _], _, [_], _ => ⟨_, rfl, rfl⟩),
    F_Line_names := fun_mk (st := s_Line_names) l19 c19 k19,
    B_Line_names := (fun_mk (st := s_Line_names) l19 c19 k19).binds (ps := ["self"]) (fun _ _ _ _ _ _ us hl => match us, hl with | [_], _ => by kernel_rfl),
    F_Line_number_of := fun_mk (st := s_Line_number_of) l20 c20 k20,
    B_Line_number_of := (fun_mk (st := s_Line_number_of) l20 c20 k20).binds (ps := ["self", "name"]) (fun _ _ _ _ _ _ us hl => match us, hl with | [_, _], _ => by kernel_rfl),
    F_Line_roads := fun_mk (st := s_Line_roads) l21 c21 k21,
    B_Line_roads := (fun_mk (st := s_Line_roads) l21 c21 k21).binds (ps := ["self", "name"]) (fun _ _ _ _ _ _ us hl => match us, hl with | [_, _], _ => by kernel_rfl),
    F_Line_many_stretches := fun_mk (st := s_Line_many_stretches) l22 c22 k22,
    B_Line_many_stretches := (fun_mk (st := s_Line_many_stretches) l22 c22 k22).binds (ps := ["self"]) (fun _ _ _ _ _ _ us hl => match us, hl with | [_], _ => by kernel_rfl),
    F_Line_need_stretch := fun_mk (st := s_Line_need_stretch) l23 c23 k23,
    B_Line_need_stretch := (fun_mk (st := s_Line_need_stretch) l23 c23 k23).binds (ps := ["self", "k"]) (fun _ _ _ _ _ _ us hl => match us, hl with | [_, _], _ => by kernel_rfl),
    F_Line_ends := fun_mk (st := s_Line_ends) l24 c24 k24,
    B_Line_ends := (fun_mk (st := s_Line_ends) l24 c24 k24).binds (ps := ["self", "k"]) (fun _ _ _ _ _ _ us hl => match us, hl with | [_, _], _ => by kernel_rfl),
    F_Line_kind := fun_mk (st := s_Line_kind) l25 c25 k25,
    B_Line_kind := (fun_mk (st := s_Line_kind) l25 c25 k25).binds (ps := ["self", "k"]) (fun _ _ _ _ _ _ us hl => match us, hl with | [_, _], _ => by kernel_rfl),
    F_Line_home := fun_mk (st := s_Line_home) l26 c26 k26,
    B_Line_home := (fun_mk (st := s_Line_home) l26 c26 k26).binds (ps := ["self", "k"]) (fun _ _ _ _ _ _ us hl => match us, hl with | [_, _], _ => by kernel_rfl) }
  have q3 : Tp3 K mg D := {
    F_Line_between := fun_mk (st := s_Line_between) l27 c27 k27,
    B_Line_between := (fun_mk (st := s_Line_between) l27 c27 k27).binds (ps := ["self", "one", "other"]) (fun _ _ _ _ _ _ us hl => match us, hl with | [_, _, _], _ => by kernel_rfl),
    F_Line_many_longs := fun_mk (st := s_Line_many_longs) l28 c28 k28,
    B_Line_many_longs := (fun_mk (st := s_Line_many_longs) l28 c28 k28).binds (ps := ["self"]) (fun _ _ _ _ _ _ us hl => match us, hl with | [_], _ => by kernel_rfl),
    F_Line_need_long := fun_mk (st := s_Line_need_long) l29 c29 k29,
    B_Line_need_long := (fun_mk (st := s_Line_need_long) l29 c29 k29).binds (ps := ["self", "j"]) (fun _ _ _ _ _ _ us hl => match us, hl with | [_, _], _ => by kernel_rfl),
    F_Line_long_ends := fun_mk (st := s_Line_long_ends) l30 c30 k30,
    B_Line_long_ends := (fun_mk (st := s_Line_long_ends) l30 c30 k30).binds (ps := ["self", "j"]) (fun _ _ _ _ _ _ us hl => match us, hl with | [_, _], _ => by kernel_rfl),
    F_Line_long_stretches := fun_mk (st := s_Line_long_stretches) l31 c31 k31,
    B_Line_long_stretches := (fun_mk (st := s_Line_long_stretches) l31 c31 k31).binds (ps := ["self", "j"]) (fun _ _ _ _ _ _ us hl => match us, hl with | [_, _], _ => by kernel_rfl),
    F_Line_long_home := fun_mk (st := s_Line_long_home) l32 c32 k32,
    B_Line_long_home := (fun_mk (st := s_Line_long_home) l32 c32 k32).binds (ps := ["self", "j"]) (fun _ _ _ _ _ _ us hl => match us, hl with | [_, _], _ => by kernel_rfl),
    F_Line_long_between := fun_mk (st := s_Line_long_between) l33 c33 k33,
    B_Line_long_between := (fun_mk (st := s_Line_long_between) l33 c33 k33).binds (ps := ["self", "one", "other"]) (fun _ _ _ _ _ _ us hl => match us, hl with | [_, _, _], _ => by kernel_rfl),
    F_Line_long_of := fun_mk (st := s_Line_long_of) l34 c34 k34,
    B_Line_long_of := (fun_mk (st := s_Line_long_of) l34 c34 k34).binds (ps := ["self", "k"]) (fun _ _ _ _ _ _ us hl => match us, hl with | [_, _], _ => by kernel_rfl),
    F_Line_told := fun_mk (st := s_Line_told) l35 c35 k35,
    B_Line_told := (fun_mk (st := s_Line_told) l35 c35 k35).binds (ps := ["self"]) (fun _ _ _ _ _ _ us hl => match us, hl with | [_], _ => by kernel_rfl),
    F_Line_mirrored := fun_mk (st := s_Line_mirrored) l36 c36 k36,
    B_Line_mirrored := (fun_mk (st := s_Line_mirrored) l36 c36 k36).binds (ps := ["self"]) (fun _ _ _ _ _ _ us hl => match us, hl with | [_], _ => by kernel_rfl),
    F_Line_renamed := fun_mk (st := s_Line_renamed) l37 c37 k37,
    B_Line_renamed := (fun_mk (st := s_Line_renamed) l37 c37 k37).binds (ps := ["self", "names"]) (fun _ _ _ _ _ _ us hl => match us, hl with | [_, _], _ => by kernel_rfl),
    F_law_cell := fun_mk (st := s_law_cell) l38 c38 k38,
    B_law_cell := (fun_mk (st := s_law_cell) l38 c38 k38).binds (ps := ["_law_script", "_law_k"]) (fun _ _ _ _ _ _ us hl => match us, hl with | [_, _], _ => by kernel_rfl) }
  have q4 : Tp4 K mg D := {
    m_law_cell := PySem.W.mg_of X G a38,
    F_law_box := fun_mk (st := s_law_box) l39 c39 k39,
    B_law_box := (fun_mk (st := s_law_box) l39 c39 k39).binds (ps := ["_law_cell_here"]) (fun _ _ _ _ _ _ us hl => match us, hl with | [_], _ => by kernel_rfl),
    m_law_box := PySem.W.mg_of X G a39,
    F_law_take := fun_mk (st := s_law_take) l40 c40 k40,
    B_law_take := (fun_mk (st := s_law_take) l40 c40 k40).binds (ps := ["_law_box_here", "_law_many"]) (fun _ _ _ _ _ _ us hl => match us, hl with | [_, _], _ => by kernel_rfl),
    m_law_take := PySem.W.mg_of X G a40,
    F_law_names := fun_mk (st := s_law_names) l41 c41 k41,
    B_law_names := (fun_mk (st := s_law_names) l41 c41 k41).binds (ps := ["_law_box_here", "_law_many"]) (fun _ _ _ _ _ _ us hl => match us, hl with | [_, _], _ => by kernel_rfl),
    m_law_names := PySem.W.mg_of X G a41,
    F_law_world := fun_mk (st := s_law_world) l42 c42 k42,
    B_law_world := (fun_mk (st := s_law_world) l42 c42 k42).binds (ps := ["_law_box_here"]) (fun _ _ _ _ _ _ us hl => match us, hl with | [_], _ => by kernel_rfl),
    m_law_world := PySem.W.mg_of X G a42,
    F_law_is_name := fun_mk (st := s_law_is_name) l43 c43 k43,
    B_law_is_name := (fun_mk (st := s_law_is_name) l43 c43 k43).binds (ps := ["_law_thing"]) (fun _ _ _ _ _ _ us hl => match us, hl with | [_], _ => by kernel_rfl),
    m_law_is_name := PySem.W.mg_of X G a43,
    F_law_told := fun_mk (st := s_law_told) l44 c44 k44,
    B_law_told := (fun_mk (st := s_law_told) l44 c44 k44).binds (ps := ["_law_world_here"]) (fun _ _ _ _ _ _ us hl => match us, hl with | [_], _ => by kernel_rfl),
    m_law_told := PySem.W.mg_of X G a44,
    F_law_turned := fun_mk (st := s_law_turned) l45 c45 k45,
    B_law_turned := (fun_mk (st := s_law_turned) l45 c45 k45).binds (ps := ["_law_world_here"]) (fun _ _ _ _ _ _ us hl => match us, hl with | [_], _ => by kernel_rfl),
    m_law_turned := PySem.W.mg_of X G a45,
    F_law_dict := fun_mk (st := s_law_dict) l46 c46 k46,
    B_law_dict := (fun_mk (st := s_law_dict) l46 c46 k46).binds (ps := ["_law_box_here", "_law_world_here"]) (fun _ _ _ _ _ _ us hl => match us, hl with | [_, _], _ => by kernel_rfl) }
  have q5 : Tp5 K mg D := {
    m_law_dict := PySem.W.mg_of X G a46,
    F_law_due := fun_mk (st := s_law_due) l47 c47 k47,
    B_law_due := (fun_mk (st := s_law_due) l47 c47 k47).binds (ps := ["_law_world_here", "_law_some"]) (fun _ _ _ _ _ _ us hl => match us, hl with | [_, _], _ => by kernel_rfl),
    m_law_due := PySem.W.mg_of X G a47,
    F_law_caught := fun_mk (st := s_law_caught) l48 c48 k48,
    B_law_caught := (fun_mk (st := s_law_caught) l48 c48 k48).binds (ps := ["_law_line", "_law_thing"]) (fun _ _ _ _ _ _ us hl => match us, hl with | [_, _], _ => by kernel_rfl),
    m_law_caught := PySem.W.mg_of X G a48,
    F_law_stretches_asked_right := fun_mk (st := s_law_stretches_asked_right) l49 c49 k49,
    B_law_stretches_asked_right := (fun_mk (st := s_law_stretches_asked_right) l49 c49 k49).binds (ps := ["_law_line", "_law_world_here"]) (fun _ _ _ _ _ _ us hl => match us, hl with | [_, _], _ => by kernel_rfl),
    m_law_stretches_asked_right := PySem.W.mg_of X G a49,
    F_law_asked_right := fun_mk (st := s_law_asked_right) l50 c50 k50,
    B_law_asked_right := (fun_mk (st := s_law_asked_right) l50 c50 k50).binds (ps := ["_law_line", "_law_world_here"]) (fun _ _ _ _ _ _ us hl => match us, hl with | [_, _], _ => by kernel_rfl),
    m_law_asked_right := PySem.W.mg_of X G a50,
    F_law_renamed_right := fun_mk (st := s_law_renamed_right) l51 c51 k51,
    B_law_renamed_right := (fun_mk (st := s_law_renamed_right) l51 c51 k51).binds (ps := ["_law_box_here", "_law_line", "_law_world_here"]) (fun _ _ _ _ _ _ us hl => match us, hl with | [_, _, _], _ => by kernel_rfl),
    m_law_renamed_right := PySem.W.mg_of X G a51,
    F_law := fun_mk (st := s_law) l52 c52 k52,
    B_law := (fun_mk (st := s_law) l52 c52 k52).binds (ps := ["_law_script"]) (fun _ _ _ _ _ _ us hl => match us, hl with | [_], _ => by kernel_rfl),
    m_law := PySem.W.mg_of X G a52,
    cl_Line := ⟨pg_Line, hd_Line, po_Line, sa_Line⟩,
    mk_Line := ⟨mk_Line, a18, if_Line, kc_Line⟩,
    na_Line_kept_places := na_Line_kept_places,
    na_Line_kept_stretches := na_Line_kept_stretches,
    na_Line_kept_longs := na_Line_kept_longs }
  have q6 : Tp6 K mg D := {
    M_Line_names := ⟨a19, fn_Line_names, k19⟩,
    M_Line_number_of := ⟨a20, fn_Line_number_of, k20⟩,
    M_Line_roads := ⟨a21, fn_Line_roads, k21⟩,
    M_Line_many_stretches := ⟨a22, fn_Line_many_stretches, k22⟩,
    M_Line_need_stretch := ⟨a23, fn_Line_need_stretch, k23⟩,
    M_Line_ends := ⟨a24, fn_Line_ends, k24⟩,
    M_Line_kind := ⟨a25, fn_Line_kind, k25⟩,
    M_Line_home := ⟨a26, fn_Line_home, k26⟩,
    M_Line_between := ⟨a27, fn_Line_between, k27⟩,
    M_Line_many_longs := ⟨a28, fn_Line_many_longs, k28⟩,
    M_Line_need_long := ⟨a29, fn_Line_need_long, k29⟩,
    M_Line_long_ends := ⟨a30, fn_Line_long_ends, k30⟩,
    M_Line_long_stretches := ⟨a31, fn_Line_long_stretches, k31⟩,
    M_Line_long_home := ⟨a32, fn_Line_long_home, k32⟩,
    M_Line_long_between := ⟨a33, fn_Line_long_between, k33⟩,
    M_Line_long_of := ⟨a34, fn_Line_long_of, k34⟩,
    M_Line_told := ⟨a35, fn_Line_told, k35⟩,
    M_Line_mirrored := ⟨a36, fn_Line_mirrored, k36⟩,
    M_Line_renamed := ⟨a37, fn_Line_renamed, k37⟩,
    er_NoName := ⟨⟨⟨_, _, _, _, _, _, _, _, _, _, _, _, _, _, _, xL_NoName, ve_NoName⟩, sa_NoName, ex_NoName, ty_NoName, kC_NoName⟩, ⟨ga_NoName, gg_NoName, ex_NoName, hd_NoName⟩, no_NoName, a1, ti_NoName, ha_NoName, hm_NoName⟩,
    er_NoPlace := ⟨⟨⟨_, _, _, _, _, _, _, _, _, _, _, _, _, _, _, xL_NoPlace, ve_NoPlace⟩, sa_NoPlace, ex_NoPlace, ty_NoPlace, kC_NoPlace⟩, ⟨ga_NoPlace, gg_NoPlace, ex_NoPlace, hd_NoPlace⟩, no_NoPlace, a2, ti_NoPlace, ha_NoPlace, hm_NoPlace⟩,
    er_NoStretch := ⟨⟨⟨_, _, _, _, _, _, _, _, _, _, _, _, _, _, _, xL_NoStretch, ve_NoStretch⟩, sa_NoStretch, ex_NoStretch, ty_NoStretch, kC_NoStretch⟩, ⟨ga_NoStretch, gg_NoStretch, ex_NoStretch, hd_NoStretch⟩, no_NoStretch, a3, ti_NoStretch, ha_NoStretch, hm_NoStretch⟩,
    er_NoLong := ⟨⟨⟨_, _, _, _, _, _, _, _, _, _, _, _, _, _, _, xL_NoLong, ve_NoLong⟩, sa_NoLong, ex_NoLong, ty_NoLong, kC_NoLong⟩, ⟨ga_NoLong, gg_NoLong, ex_NoLong, hd_NoLong⟩, no_NoLong, a4, ti_NoLong, ha_NoLong, hm_NoLong⟩,
    er_NoPlaces := ⟨⟨⟨_, _, _, _, _, _, _, _, _, _, _, _, _, _, _, xL_NoPlaces, ve_NoPlaces⟩, sa_NoPlaces, ex_NoPlaces, ty_NoPlaces, kC_NoPlaces⟩, ⟨ga_NoPlaces, gg_NoPlaces, ex_NoPlaces, hd_NoPlaces⟩, no_NoPlaces, a5, ti_NoPlaces, ha_NoPlaces, hm_NoPlaces⟩ }
  have q7 : Tp7 K mg D := {
    er_NoStretches := ⟨⟨⟨_, _, _, _, _, _, _, _, _, _, _, _, _, _, _, xL_NoStretches, ve_NoStretches⟩, sa_NoStretches, ex_NoStretches, ty_NoStretches, kC_NoStretches⟩, ⟨ga_NoStretches, gg_NoStretches, ex_NoStretches, hd_NoStretches⟩, no_NoStretches, a6, ti_NoStretches, ha_NoStretches, hm_NoStretches⟩,
    er_NoLongs := ⟨⟨⟨_, _, _, _, _, _, _, _, _, _, _, _, _, _, _, xL_NoLongs, ve_NoLongs⟩, sa_NoLongs, ex_NoLongs, ty_NoLongs, kC_NoLongs⟩, ⟨ga_NoLongs, gg_NoLongs, ex_NoLongs, hd_NoLongs⟩, no_NoLongs, a7, ti_NoLongs, ha_NoLongs, hm_NoLongs⟩,
    er_NoNumber := ⟨⟨⟨_, _, _, _, _, _, _, _, _, _, _, _, _, _, _, xL_NoNumber, ve_NoNumber⟩, sa_NoNumber, ex_NoNumber, ty_NoNumber, kC_NoNumber⟩, ⟨ga_NoNumber, gg_NoNumber, ex_NoNumber, hd_NoNumber⟩, no_NoNumber, a8, ti_NoNumber, ha_NoNumber, hm_NoNumber⟩,
    er_Twice := ⟨⟨⟨_, _, _, _, _, _, _, _, _, _, _, _, _, _, _, xL_Twice, ve_Twice⟩, sa_Twice, ex_Twice, ty_Twice, kC_Twice⟩, ⟨ga_Twice, gg_Twice, ex_Twice, hd_Twice⟩, no_Twice, a9, ti_Twice, ha_Twice, hm_Twice⟩,
    rd_StaffError := ⟨rd_StaffError, rg_StaffError⟩,
    vi_StaffError := vi_StaffError,
    oc_get := oc_get,
    oc_take := oc_take,
    ex_NoName_NoName := ex_NoName_NoName,
    ex_Twice_NoName := ex_Twice_NoName,
    ex_Twice_Twice := ex_Twice_Twice,
    mc_LONGEST := PySem.W.mg_of X G g_LONGEST,
    rc_LONGEST := r_LONGEST,
    mc_LETTERS := PySem.W.mg_of X G g_LETTERS,
    rc_LETTERS := r_LETTERS,
    mc_FEWEST_PLACES := PySem.W.mg_of X G g_FEWEST_PLACES,
    rc_FEWEST_PLACES := r_FEWEST_PLACES,
    mc_MOST_PLACES := PySem.W.mg_of X G g_MOST_PLACES,
    rc_MOST_PLACES := r_MOST_PLACES,
    mc_MOST_ROADS := PySem.W.mg_of X G g_MOST_ROADS,
    rc_MOST_ROADS := r_MOST_ROADS,
    mc_MOST_LONGS := PySem.W.mg_of X G g_MOST_LONGS,
    rc_MOST_LONGS := r_MOST_LONGS,
    z_abs := PySem.W.mg_none_of X G z_abs }
  have q8 : Tp8 K mg D := {
    z_all := PySem.W.mg_none_of X G z_all,
    z_bool := PySem.W.mg_none_of X G z_bool,
    z_dict := PySem.W.mg_none_of X G z_dict,
    z_enumerate := PySem.W.mg_none_of X G z_enumerate,
    z_int := PySem.W.mg_none_of X G z_int,
    z_isinstance := PySem.W.mg_none_of X G z_isinstance,
    z_len := PySem.W.mg_none_of X G z_len,
    z_list := PySem.W.mg_none_of X G z_list,
    z_max := PySem.W.mg_none_of X G z_max,
    z_min := PySem.W.mg_none_of X G z_min,
    z_range := PySem.W.mg_none_of X G z_range,
    z_repr := PySem.W.mg_none_of X G z_repr,
    z_reversed := PySem.W.mg_none_of X G z_reversed,
    z_str := PySem.W.mg_none_of X G z_str,
    z_tuple := PySem.W.mg_none_of X G z_tuple,
    z_zip := PySem.W.mg_none_of X G z_zip }
  let T : Tx K mg := { D := D, q0 := q0, q1 := q1, q2 := q2, q3 := q3, q4 := q4, q5 := q5, q6 := q6, q7 := q7, q8 := q8 }
  rw [e]
  exact ⟨T.d_law, fun s v => .of_eq rfl, fun base _ _ hs => ok_law T hs⟩
abbrev hR : PySem.W.OpenRow := PySem.W.OpenLaw.row PySem.Challenge.rw_onestaff_k06_other_lines
def hn0 : List Str := ["StaffError", "NoName", "NoPlace", "NoStretch", "NoLong", "NoPlaces", "NoStretches", "NoLongs", "NoNumber", "Twice", "LONGEST", "LETTERS", "is_whole", "is_name", "FEWEST_PLACES", "MOST_PLACES", "MOST_ROADS", "MOST_LONGS", "is_row", "good_places", "is_stretch", "good_stretches", "is_long", "good_longs", "Line", "_law_cell", "_law_box", "_law_take", "_law_names", "_law_world"]
def hn1 : List Str := ["_law_is_name", "_law_told", "_law_turned", "_law_dict", "_law_due", "_law_caught", "_law_stretches_asked_right", "_law_asked_right", "_law_renamed_right"]
def hnames : List Str := hn0 ++ hn1
def hc0 : List U.Ck := [fun K => decide (PySem.W.nsIn K mainGlobals "Line" = some (some (.ref (He.ga K "Line")))),
  fun K => decide (PySem.W.nsIn K mainGlobals "NoName" = some (some (.ref (He.ga K "NoName")))),
  fun K => decide (PySem.W.nsIn K mainGlobals "NoPlace" = some (some (.ref (He.ga K "NoPlace")))),
  fun K => decide (PySem.W.nsIn K mainGlobals "NoStretch" = some (some (.ref (He.ga K "NoStretch")))),
  fun K => decide (PySem.W.nsIn K mainGlobals "NoLong" = some (some (.ref (He.ga K "NoLong")))),
  fun K => decide (PySem.W.nsIn K mainGlobals "NoPlaces" = some (some (.ref (He.ga K "NoPlaces")))),
  fun K => decide (PySem.W.nsIn K mainGlobals "NoStretches" = some (some (.ref (He.ga K "NoStretches")))),
  fun K => decide (PySem.W.nsIn K mainGlobals "NoLongs" = some (some (.ref (He.ga K "NoLongs")))),
  fun K => decide (PySem.W.nsIn K mainGlobals "NoNumber" = some (some (.ref (He.ga K "NoNumber")))),
  fun K => decide (PySem.W.nsIn K mainGlobals "Twice" = some (some (.ref (He.ga K "Twice")))),
  fun K => decide (PySem.W.nsIn K mainGlobals "StaffError" = some (some (.ref (He.ga K "StaffError")))),
  fun K => decide (PySem.W.findIn K (.ref (He.ga K "NoName")) "__init__" = some (some (.ref (He.ma K (He.ga K "NoName") "__init__")))),
  fun K => decide (PySem.W.findIn K (.ref (He.ga K "NoPlace")) "__init__" = some (some (.ref (He.ma K (He.ga K "NoPlace") "__init__")))),
  fun K => decide (PySem.W.findIn K (.ref (He.ga K "NoStretch")) "__init__" = some (some (.ref (He.ma K (He.ga K "NoStretch") "__init__")))),
  fun K => decide (PySem.W.findIn K (.ref (He.ga K "NoLong")) "__init__" = some (some (.ref (He.ma K (He.ga K "NoLong") "__init__")))),
  fun K => decide (PySem.W.findIn K (.ref (He.ga K "NoPlaces")) "__init__" = some (some (.ref (He.ma K (He.ga K "NoPlaces") "__init__")))),
  fun K => decide (PySem.W.findIn K (.ref (He.ga K "NoStretches")) "__init__" = some (some (.ref (He.ma K (He.ga K "NoStretches") "__init__")))),
  fun K => decide (PySem.W.findIn K (.ref (He.ga K "NoLongs")) "__init__" = some (some (.ref (He.ma K (He.ga K "NoLongs") "__init__")))),
  fun K => decide (PySem.W.findIn K (.ref (He.ga K "NoNumber")) "__init__" = some (some (.ref (He.ma K (He.ga K "NoNumber") "__init__")))),
  fun K => decide (PySem.W.findIn K (.ref (He.ga K "Twice")) "__init__" = some (some (.ref (He.ma K (He.ga K "Twice") "__init__"))))]
def hc1 : List U.Ck := [fun K => decide (PySem.W.nsIn K mainGlobals "is_whole" = some (some (.ref (He.ga K "is_whole")))),
  fun K => decide (PySem.W.nsIn K mainGlobals "is_name" = some (some (.ref (He.ga K "is_name")))),
  fun K => decide (PySem.W.nsIn K mainGlobals "is_row" = some (some (.ref (He.ga K "is_row")))),
  fun K => decide (PySem.W.nsIn K mainGlobals "good_places" = some (some (.ref (He.ga K "good_places")))),
  fun K => decide (PySem.W.nsIn K mainGlobals "is_stretch" = some (some (.ref (He.ga K "is_stretch")))),
  fun K => decide (PySem.W.nsIn K mainGlobals "good_stretches" = some (some (.ref (He.ga K "good_stretches")))),
  fun K => decide (PySem.W.nsIn K mainGlobals "is_long" = some (some (.ref (He.ga K "is_long")))),
  fun K => decide (PySem.W.nsIn K mainGlobals "good_longs" = some (some (.ref (He.ga K "good_longs")))),
  fun K => decide (PySem.W.findIn K (.ref (He.ga K "Line")) "__init__" = some (some (.ref (He.ma K (He.ga K "Line") "__init__")))),
  fun K => decide (PySem.W.findIn K (.ref (He.ga K "Line")) "names" = some (some (.ref (He.ma K (He.ga K "Line") "names")))),
  fun K => decide (PySem.W.findIn K (.ref (He.ga K "Line")) "number_of" = some (some (.ref (He.ma K (He.ga K "Line") "number_of")))),
  fun K => decide (PySem.W.findIn K (.ref (He.ga K "Line")) "roads" = some (some (.ref (He.ma K (He.ga K "Line") "roads")))),
  fun K => decide (PySem.W.findIn K (.ref (He.ga K "Line")) "many_stretches" = some (some (.ref (He.ma K (He.ga K "Line") "many_stretches")))),
  fun K => decide (PySem.W.findIn K (.ref (He.ga K "Line")) "need_stretch" = some (some (.ref (He.ma K (He.ga K "Line") "need_stretch")))),
  fun K => decide (PySem.W.findIn K (.ref (He.ga K "Line")) "ends" = some (some (.ref (He.ma K (He.ga K "Line") "ends")))),
  fun K => decide (PySem.W.findIn K (.ref (He.ga K "Line")) "kind" = some (some (.ref (He.ma K (He.ga K "Line") "kind")))),
  fun K => decide (PySem.W.findIn K (.ref (He.ga K "Line")) "home" = some (some (.ref (He.ma K (He.ga K "Line") "home")))),
  fun K => decide (PySem.W.findIn K (.ref (He.ga K "Line")) "between" = some (some (.ref (He.ma K (He.ga K "Line") "between")))),
  fun K => decide (PySem.W.findIn K (.ref (He.ga K "Line")) "many_longs" = some (some (.ref (He.ma K (He.ga K "Line") "many_longs")))),
  fun K => decide (PySem.W.findIn K (.ref (He.ga K "Line")) "need_long" = some (some (.ref (He.ma K (He.ga K "Line") "need_long"))))]
def hc2 : List U.Ck := [fun K => decide (PySem.W.findIn K (.ref (He.ga K "Line")) "long_ends" = some (some (.ref (He.ma K (He.ga K "Line") "long_ends")))),
  fun K => decide (PySem.W.findIn K (.ref (He.ga K "Line")) "long_stretches" = some (some (.ref (He.ma K (He.ga K "Line") "long_stretches")))),
  fun K => decide (PySem.W.findIn K (.ref (He.ga K "Line")) "long_home" = some (some (.ref (He.ma K (He.ga K "Line") "long_home")))),
  fun K => decide (PySem.W.findIn K (.ref (He.ga K "Line")) "long_between" = some (some (.ref (He.ma K (He.ga K "Line") "long_between")))),
  fun K => decide (PySem.W.findIn K (.ref (He.ga K "Line")) "long_of" = some (some (.ref (He.ma K (He.ga K "Line") "long_of")))),
  fun K => decide (PySem.W.findIn K (.ref (He.ga K "Line")) "told" = some (some (.ref (He.ma K (He.ga K "Line") "told")))),
  fun K => decide (PySem.W.findIn K (.ref (He.ga K "Line")) "mirrored" = some (some (.ref (He.ma K (He.ga K "Line") "mirrored")))),
  fun K => decide (PySem.W.findIn K (.ref (He.ga K "Line")) "renamed" = some (some (.ref (He.ma K (He.ga K "Line") "renamed")))),
  fun K => decide (PySem.W.nsIn K mainGlobals "_law_cell" = some (some (.ref (He.ga K "_law_cell")))),
  fun K => decide (PySem.W.nsIn K mainGlobals "_law_box" = some (some (.ref (He.ga K "_law_box")))),
  fun K => decide (PySem.W.nsIn K mainGlobals "_law_take" = some (some (.ref (He.ga K "_law_take")))),
  fun K => decide (PySem.W.nsIn K mainGlobals "_law_names" = some (some (.ref (He.ga K "_law_names")))),
  fun K => decide (PySem.W.nsIn K mainGlobals "_law_world" = some (some (.ref (He.ga K "_law_world")))),
  fun K => decide (PySem.W.nsIn K mainGlobals "_law_is_name" = some (some (.ref (He.ga K "_law_is_name")))),
  fun K => decide (PySem.W.nsIn K mainGlobals "_law_told" = some (some (.ref (He.ga K "_law_told")))),
  fun K => decide (PySem.W.nsIn K mainGlobals "_law_turned" = some (some (.ref (He.ga K "_law_turned")))),
  fun K => decide (PySem.W.nsIn K mainGlobals "_law_dict" = some (some (.ref (He.ga K "_law_dict")))),
  fun K => decide (PySem.W.nsIn K mainGlobals "_law_due" = some (some (.ref (He.ga K "_law_due")))),
  fun K => decide (PySem.W.nsIn K mainGlobals "_law_caught" = some (some (.ref (He.ga K "_law_caught")))),
  fun K => decide (PySem.W.nsIn K mainGlobals "_law_stretches_asked_right" = some (some (.ref (He.ga K "_law_stretches_asked_right"))))]
def hc3 : List U.Ck := [fun K => decide (PySem.W.nsIn K mainGlobals "_law_asked_right" = some (some (.ref (He.ga K "_law_asked_right")))),
  fun K => decide (PySem.W.nsIn K mainGlobals "_law_renamed_right" = some (some (.ref (He.ga K "_law_renamed_right")))),
  fun K => decide (PySem.W.nsIn K mainGlobals "law" = some (some (.ref (He.ga K "law")))),
  fun K => PySem.W.plainGet K (He.ga K "Line") Str.empty,
  fun K => PySem.W.hasDictIn K (He.ga K "Line"),
  fun K => PySem.W.plainOver K (He.ga K "Line"),
  fun K => decide (PySem.W.findIn K (.ref (He.ga K "Line")) "__setattr__" = some (some (.builtin "object.__setattr__"))),
  fun K => PySem.W.makesIn K (He.ga K "Line"),
  fun K => PySem.W.keepIn K (.ref (He.ga K "Line")),
  fun K => PySem.W.isFn K (.ref (He.ma K (He.ga K "Line") "__init__")),
  fun K => decide (PySem.W.findIn K (.ref (He.ga K "Line")) "kept_places" = some none),
  fun K => decide (PySem.W.findIn K (.ref (He.ga K "Line")) "kept_stretches" = some none),
  fun K => decide (PySem.W.findIn K (.ref (He.ga K "Line")) "kept_longs" = some none),
  fun K => PySem.W.isFn K (.ref (He.ma K (He.ga K "Line") "names")),
  fun K => PySem.W.isFn K (.ref (He.ma K (He.ga K "Line") "number_of")),
  fun K => PySem.W.isFn K (.ref (He.ma K (He.ga K "Line") "roads")),
  fun K => PySem.W.isFn K (.ref (He.ma K (He.ga K "Line") "many_stretches")),
  fun K => PySem.W.isFn K (.ref (He.ma K (He.ga K "Line") "need_stretch")),
  fun K => PySem.W.isFn K (.ref (He.ma K (He.ga K "Line") "ends")),
  fun K => PySem.W.isFn K (.ref (He.ma K (He.ga K "Line") "kind"))]
def hc4 : List U.Ck := [fun K => PySem.W.isFn K (.ref (He.ma K (He.ga K "Line") "home")),
  fun K => PySem.W.isFn K (.ref (He.ma K (He.ga K "Line") "between")),
  fun K => PySem.W.isFn K (.ref (He.ma K (He.ga K "Line") "many_longs")),
  fun K => PySem.W.isFn K (.ref (He.ma K (He.ga K "Line") "need_long")),
  fun K => PySem.W.isFn K (.ref (He.ma K (He.ga K "Line") "long_ends")),
  fun K => PySem.W.isFn K (.ref (He.ma K (He.ga K "Line") "long_stretches")),
  fun K => PySem.W.isFn K (.ref (He.ma K (He.ga K "Line") "long_home")),
  fun K => PySem.W.isFn K (.ref (He.ma K (He.ga K "Line") "long_between")),
  fun K => PySem.W.isFn K (.ref (He.ma K (He.ga K "Line") "long_of")),
  fun K => PySem.W.isFn K (.ref (He.ma K (He.ga K "Line") "told")),
  fun K => PySem.W.isFn K (.ref (He.ma K (He.ga K "Line") "mirrored")),
  fun K => PySem.W.isFn K (.ref (He.ma K (He.ga K "Line") "renamed")),
  fun K => U.excU K (He.ga K "NoName"),
  fun K => decide (PySem.W.findIn K (.ref (He.ga K "NoName")) "__setattr__" = some (some (.builtin "object.__setattr__"))),
  fun K => decide (PySem.W.findIn K (.ref (He.ga K "NoName")) "__getattribute__" = some (some (.builtin "BaseException.__getattribute__"))),
  fun K => decide (PySem.W.findIn K (.ref (He.ga K "NoName")) "__getattr__" = some none),
  fun K => decide (PySem.W.findIn K (.ref (He.ga K "NoName")) "found" = some none),
  fun K => decide (PySem.W.subIn K (.ref (He.ga K "NoName")) (.type "BaseException") = some true),
  fun K => decide (PySem.W.typeIn K (.ref (He.ga K "NoName")) = some (.type "type")),
  fun K => PySem.W.keepIn K (.ref (He.ga K "NoName"))]
def hc5 : List U.Ck := [fun K => PySem.W.hasDictIn K (He.ga K "NoName"),
  fun K => decide (PySem.W.findIn K (.ref (He.ga K "NoName")) "__class__" = some (some (.builtin "object.__class__"))),
  fun K => decide (PySem.W.mroIn K (He.ga K "NoName") (.type "object") = some true),
  fun K => decide (PySem.W.typeIn K (.ref (He.ma K (He.ga K "NoName") "__init__")) = some (.type "function")),
  fun K => U.excU K (He.ga K "NoPlace"),
  fun K => decide (PySem.W.findIn K (.ref (He.ga K "NoPlace")) "__setattr__" = some (some (.builtin "object.__setattr__"))),
  fun K => decide (PySem.W.findIn K (.ref (He.ga K "NoPlace")) "__getattribute__" = some (some (.builtin "BaseException.__getattribute__"))),
  fun K => decide (PySem.W.findIn K (.ref (He.ga K "NoPlace")) "__getattr__" = some none),
  fun K => decide (PySem.W.findIn K (.ref (He.ga K "NoPlace")) "found" = some none),
  fun K => decide (PySem.W.subIn K (.ref (He.ga K "NoPlace")) (.type "BaseException") = some true),
  fun K => decide (PySem.W.typeIn K (.ref (He.ga K "NoPlace")) = some (.type "type")),
  fun K => PySem.W.keepIn K (.ref (He.ga K "NoPlace")),
  fun K => PySem.W.hasDictIn K (He.ga K "NoPlace"),
  fun K => decide (PySem.W.findIn K (.ref (He.ga K "NoPlace")) "__class__" = some (some (.builtin "object.__class__"))),
  fun K => decide (PySem.W.mroIn K (He.ga K "NoPlace") (.type "object") = some true),
  fun K => decide (PySem.W.typeIn K (.ref (He.ma K (He.ga K "NoPlace") "__init__")) = some (.type "function")),
  fun K => U.excU K (He.ga K "NoStretch"),
  fun K => decide (PySem.W.findIn K (.ref (He.ga K "NoStretch")) "__setattr__" = some (some (.builtin "object.__setattr__"))),
  fun K => decide (PySem.W.findIn K (.ref (He.ga K "NoStretch")) "__getattribute__" = some (some (.builtin "BaseException.__getattribute__"))),
  fun K => decide (PySem.W.findIn K (.ref (He.ga K "NoStretch")) "__getattr__" = some none)]
def hc6 : List U.Ck := [fun K => decide (PySem.W.findIn K (.ref (He.ga K "NoStretch")) "found" = some none),
  fun K => decide (PySem.W.subIn K (.ref (He.ga K "NoStretch")) (.type "BaseException") = some true),
  fun K => decide (PySem.W.typeIn K (.ref (He.ga K "NoStretch")) = some (.type "type")),
  fun K => PySem.W.keepIn K (.ref (He.ga K "NoStretch")),
  fun K => PySem.W.hasDictIn K (He.ga K "NoStretch"),
  fun K => decide (PySem.W.findIn K (.ref (He.ga K "NoStretch")) "__class__" = some (some (.builtin "object.__class__"))),
  fun K => decide (PySem.W.mroIn K (He.ga K "NoStretch") (.type "object") = some true),
  fun K => decide (PySem.W.typeIn K (.ref (He.ma K (He.ga K "NoStretch") "__init__")) = some (.type "function")),
  fun K => U.excU K (He.ga K "NoLong"),
  fun K => decide (PySem.W.findIn K (.ref (He.ga K "NoLong")) "__setattr__" = some (some (.builtin "object.__setattr__"))),
  fun K => decide (PySem.W.findIn K (.ref (He.ga K "NoLong")) "__getattribute__" = some (some (.builtin "BaseException.__getattribute__"))),
  fun K => decide (PySem.W.findIn K (.ref (He.ga K "NoLong")) "__getattr__" = some none),
  fun K => decide (PySem.W.findIn K (.ref (He.ga K "NoLong")) "found" = some none),
  fun K => decide (PySem.W.subIn K (.ref (He.ga K "NoLong")) (.type "BaseException") = some true),
  fun K => decide (PySem.W.typeIn K (.ref (He.ga K "NoLong")) = some (.type "type")),
  fun K => PySem.W.keepIn K (.ref (He.ga K "NoLong")),
  fun K => PySem.W.hasDictIn K (He.ga K "NoLong"),
  fun K => decide (PySem.W.findIn K (.ref (He.ga K "NoLong")) "__class__" = some (some (.builtin "object.__class__"))),
  fun K => decide (PySem.W.mroIn K (He.ga K "NoLong") (.type "object") = some true),
  fun K => decide (PySem.W.typeIn K (.ref (He.ma K (He.ga K "NoLong") "__init__")) = some (.type "function"))]
def hc7 : List U.Ck := [fun K => U.excU K (He.ga K "NoPlaces"),
  fun K => decide (PySem.W.findIn K (.ref (He.ga K "NoPlaces")) "__setattr__" = some (some (.builtin "object.__setattr__"))),
  fun K => decide (PySem.W.findIn K (.ref (He.ga K "NoPlaces")) "__getattribute__" = some (some (.builtin "BaseException.__getattribute__"))),
  fun K => decide (PySem.W.findIn K (.ref (He.ga K "NoPlaces")) "__getattr__" = some none),
  fun K => decide (PySem.W.findIn K (.ref (He.ga K "NoPlaces")) "found" = some none),
  fun K => decide (PySem.W.subIn K (.ref (He.ga K "NoPlaces")) (.type "BaseException") = some true),
  fun K => decide (PySem.W.typeIn K (.ref (He.ga K "NoPlaces")) = some (.type "type")),
  fun K => PySem.W.keepIn K (.ref (He.ga K "NoPlaces")),
  fun K => PySem.W.hasDictIn K (He.ga K "NoPlaces"),
  fun K => decide (PySem.W.findIn K (.ref (He.ga K "NoPlaces")) "__class__" = some (some (.builtin "object.__class__"))),
  fun K => decide (PySem.W.mroIn K (He.ga K "NoPlaces") (.type "object") = some true),
  fun K => decide (PySem.W.typeIn K (.ref (He.ma K (He.ga K "NoPlaces") "__init__")) = some (.type "function")),
  fun K => U.excU K (He.ga K "NoStretches"),
  fun K => decide (PySem.W.findIn K (.ref (He.ga K "NoStretches")) "__setattr__" = some (some (.builtin "object.__setattr__"))),
  fun K => decide (PySem.W.findIn K (.ref (He.ga K "NoStretches")) "__getattribute__" = some (some (.builtin "BaseException.__getattribute__"))),
  fun K => decide (PySem.W.findIn K (.ref (He.ga K "NoStretches")) "__getattr__" = some none),
  fun K => decide (PySem.W.findIn K (.ref (He.ga K "NoStretches")) "found" = some none),
  fun K => decide (PySem.W.subIn K (.ref (He.ga K "NoStretches")) (.type "BaseException") = some true),
  fun K => decide (PySem.W.typeIn K (.ref (He.ga K "NoStretches")) = some (.type "type")),
  fun K => PySem.W.keepIn K (.ref (He.ga K "NoStretches"))]
def hc8 : List U.Ck := [fun K => PySem.W.hasDictIn K (He.ga K "NoStretches"),
  fun K => decide (PySem.W.findIn K (.ref (He.ga K "NoStretches")) "__class__" = some (some (.builtin "object.__class__"))),
  fun K => decide (PySem.W.mroIn K (He.ga K "NoStretches") (.type "object") = some true),
  fun K => decide (PySem.W.typeIn K (.ref (He.ma K (He.ga K "NoStretches") "__init__")) = some (.type "function")),
  fun K => U.excU K (He.ga K "NoLongs"),
  fun K => decide (PySem.W.findIn K (.ref (He.ga K "NoLongs")) "__setattr__" = some (some (.builtin "object.__setattr__"))),
  fun K => decide (PySem.W.findIn K (.ref (He.ga K "NoLongs")) "__getattribute__" = some (some (.builtin "BaseException.__getattribute__"))),
  fun K => decide (PySem.W.findIn K (.ref (He.ga K "NoLongs")) "__getattr__" = some none),
  fun K => decide (PySem.W.findIn K (.ref (He.ga K "NoLongs")) "found" = some none),
  fun K => decide (PySem.W.subIn K (.ref (He.ga K "NoLongs")) (.type "BaseException") = some true),
  fun K => decide (PySem.W.typeIn K (.ref (He.ga K "NoLongs")) = some (.type "type")),
  fun K => PySem.W.keepIn K (.ref (He.ga K "NoLongs")),
  fun K => PySem.W.hasDictIn K (He.ga K "NoLongs"),
  fun K => decide (PySem.W.findIn K (.ref (He.ga K "NoLongs")) "__class__" = some (some (.builtin "object.__class__"))),
  fun K => decide (PySem.W.mroIn K (He.ga K "NoLongs") (.type "object") = some true),
  fun K => decide (PySem.W.typeIn K (.ref (He.ma K (He.ga K "NoLongs") "__init__")) = some (.type "function")),
  fun K => U.excU K (He.ga K "NoNumber"),
  fun K => decide (PySem.W.findIn K (.ref (He.ga K "NoNumber")) "__setattr__" = some (some (.builtin "object.__setattr__"))),
  fun K => decide (PySem.W.findIn K (.ref (He.ga K "NoNumber")) "__getattribute__" = some (some (.builtin "BaseException.__getattribute__"))),
  fun K => decide (PySem.W.findIn K (.ref (He.ga K "NoNumber")) "__getattr__" = some none)]
def hc9 : List U.Ck := [fun K => decide (PySem.W.findIn K (.ref (He.ga K "NoNumber")) "found" = some none),
  fun K => decide (PySem.W.subIn K (.ref (He.ga K "NoNumber")) (.type "BaseException") = some true),
  fun K => decide (PySem.W.typeIn K (.ref (He.ga K "NoNumber")) = some (.type "type")),
  fun K => PySem.W.keepIn K (.ref (He.ga K "NoNumber")),
  fun K => PySem.W.hasDictIn K (He.ga K "NoNumber"),
  fun K => decide (PySem.W.findIn K (.ref (He.ga K "NoNumber")) "__class__" = some (some (.builtin "object.__class__"))),
  fun K => decide (PySem.W.mroIn K (He.ga K "NoNumber") (.type "object") = some true),
  fun K => decide (PySem.W.typeIn K (.ref (He.ma K (He.ga K "NoNumber") "__init__")) = some (.type "function")),
  fun K => U.excU K (He.ga K "Twice"),
  fun K => decide (PySem.W.findIn K (.ref (He.ga K "Twice")) "__setattr__" = some (some (.builtin "object.__setattr__"))),
  fun K => decide (PySem.W.findIn K (.ref (He.ga K "Twice")) "__getattribute__" = some (some (.builtin "BaseException.__getattribute__"))),
  fun K => decide (PySem.W.findIn K (.ref (He.ga K "Twice")) "__getattr__" = some none),
  fun K => decide (PySem.W.findIn K (.ref (He.ga K "Twice")) "found" = some none),
  fun K => decide (PySem.W.subIn K (.ref (He.ga K "Twice")) (.type "BaseException") = some true),
  fun K => decide (PySem.W.typeIn K (.ref (He.ga K "Twice")) = some (.type "type")),
  fun K => PySem.W.keepIn K (.ref (He.ga K "Twice")),
  fun K => PySem.W.hasDictIn K (He.ga K "Twice"),
  fun K => decide (PySem.W.findIn K (.ref (He.ga K "Twice")) "__class__" = some (some (.builtin "object.__class__"))),
  fun K => decide (PySem.W.mroIn K (He.ga K "Twice") (.type "object") = some true),
  fun K => decide (PySem.W.typeIn K (.ref (He.ma K (He.ga K "Twice") "__init__")) = some (.type "function"))]
def hc10 : List U.Ck := [fun K => PySem.W.readsIn K (He.ga K "StaffError") (.type "type"),
  fun K => decide (PySem.W.specialIn K (.ref (He.ga K "StaffError")) "__getattribute__" = some (some (.builtin "type.__getattribute__"))),
  fun K => U.isVal (PySem.W.findCls K (.ref (He.ga K "StaffError")) (.type "type") "__init__") (.builtin "ValueError.__init__"),
  fun K => decide (PySem.W.specialIn K (.builtin "object.__class__") "__get__" = some (some (.builtin "getset_descriptor.__get__"))),
  fun K => decide (PySem.W.takesIn K (.builtin "object.__class__") = some true),
  fun K => decide (PySem.W.exmOne K (.ref (He.ga K "NoName")) (.ref (He.ga K "NoName")) = some true),
  fun K => decide (PySem.W.exmOne K (.ref (He.ga K "Twice")) (.ref (He.ga K "NoName")) = some false),
  fun K => decide (PySem.W.exmOne K (.ref (He.ga K "Twice")) (.ref (He.ga K "Twice")) = some true),
  fun K => U.conU K "LONGEST" (V.int 6),
  fun K => U.conU K "LETTERS" (V.str "abcdefghijklmnopqrstuvwxyz"),
  fun K => U.conU K "FEWEST_PLACES" (V.int 2),
  fun K => U.conU K "MOST_PLACES" (V.int 6),
  fun K => U.conU K "MOST_ROADS" (V.int 3),
  fun K => U.conU K "MOST_LONGS" (V.int 2),
  fun K => decide (PySem.W.nsIn K mainGlobals "abs" = some none),
  fun K => decide (PySem.W.nsIn K mainGlobals "all" = some none),
  fun K => decide (PySem.W.nsIn K mainGlobals "bool" = some none),
  fun K => decide (PySem.W.nsIn K mainGlobals "dict" = some none),
  fun K => decide (PySem.W.nsIn K mainGlobals "enumerate" = some none),
  fun K => decide (PySem.W.nsIn K mainGlobals "int" = some none)]
def hc11 : List U.Ck := [fun K => decide (PySem.W.nsIn K mainGlobals "isinstance" = some none),
  fun K => decide (PySem.W.nsIn K mainGlobals "len" = some none),
  fun K => decide (PySem.W.nsIn K mainGlobals "list" = some none),
  fun K => decide (PySem.W.nsIn K mainGlobals "max" = some none),
  fun K => decide (PySem.W.nsIn K mainGlobals "min" = some none),
  fun K => decide (PySem.W.nsIn K mainGlobals "range" = some none),
  fun K => decide (PySem.W.nsIn K mainGlobals "repr" = some none),
  fun K => decide (PySem.W.nsIn K mainGlobals "reversed" = some none),
  fun K => decide (PySem.W.nsIn K mainGlobals "str" = some none),
  fun K => decide (PySem.W.nsIn K mainGlobals "tuple" = some none),
  fun K => decide (PySem.W.nsIn K mainGlobals "zip" = some none)]
def hcks : List (List U.Ck) := [hc0, hc1, hc2, hc3, hc4, hc5, hc6, hc7, hc8, hc9, hc10, hc11]
def d1 : He.DefD := ⟨("NoName", some "__init__"), "__init__", "NoName.__init__", defArgs s_NoName_init, defBody s_NoName_init, defScope s_NoName_init, [], []⟩
def d2 : He.DefD := ⟨("NoPlace", some "__init__"), "__init__", "NoPlace.__init__", defArgs s_NoPlace_init, defBody s_NoPlace_init, defScope s_NoPlace_init, [], []⟩
def d3 : He.DefD := ⟨("NoStretch", some "__init__"), "__init__", "NoStretch.__init__", defArgs s_NoStretch_init, defBody s_NoStretch_init, defScope s_NoStretch_init, [], []⟩
def d4 : He.DefD := ⟨("NoLong", some "__init__"), "__init__", "NoLong.__init__", defArgs s_NoLong_init, defBody s_NoLong_init, defScope s_NoLong_init, [], []⟩
def d5 : He.DefD := ⟨("NoPlaces", some "__init__"), "__init__", "NoPlaces.__init__", defArgs s_NoPlaces_init, defBody s_NoPlaces_init, defScope s_NoPlaces_init, [], []⟩
def d6 : He.DefD := ⟨("NoStretches", some "__init__"), "__init__", "NoStretches.__init__", defArgs s_NoStretches_init, defBody s_NoStretches_init, defScope s_NoStretches_init, [], []⟩
def d7 : He.DefD := ⟨("NoLongs", some "__init__"), "__init__", "NoLongs.__init__", defArgs s_NoLongs_init, defBody s_NoLongs_init, defScope s_NoLongs_init, [], []⟩
def d8 : He.DefD := ⟨("NoNumber", some "__init__"), "__init__", "NoNumber.__init__", defArgs s_NoNumber_init, defBody s_NoNumber_init, defScope s_NoNumber_init, [], []⟩
def d9 : He.DefD := ⟨("Twice", some "__init__"), "__init__", "Twice.__init__", defArgs s_Twice_init, defBody s_Twice_init, defScope s_Twice_init, [], []⟩
def d10 : He.DefD := ⟨("is_whole", none), "is_whole", "is_whole", defArgs s_is_whole, defBody s_is_whole, defScope s_is_whole, [], []⟩
def d11 : He.DefD := ⟨("is_name", none), "is_name", "is_name", defArgs s_is_name, defBody s_is_name, defScope s_is_name, [], []⟩
def d12 : He.DefD := ⟨("is_row", none), "is_row", "is_row", defArgs s_is_row, defBody s_is_row, defScope s_is_row, [], []⟩
def d13 : He.DefD := ⟨("good_places", none), "good_places", "good_places", defArgs s_good_places, defBody s_good_places, defScope s_good_places, [], []⟩
def d14 : He.DefD := ⟨("is_stretch", none), "is_stretch", "is_stretch", defArgs s_is_stretch, defBody s_is_stretch, defScope s_is_stretch, [], []⟩
def d15 : He.DefD := ⟨("good_stretches", none), "good_stretches", "good_stretches", defArgs s_good_stretches, defBody s_good_stretches, defScope s_good_stretches, [], []⟩
def d16 : He.DefD := ⟨("is_long", none), "is_long", "is_long", defArgs s_is_long, defBody s_is_long, defScope s_is_long, [], []⟩
def d17 : He.DefD := ⟨("good_longs", none), "good_longs", "good_longs", defArgs s_good_longs, defBody s_good_longs, defScope s_good_longs, [], []⟩
def d18 : He.DefD := ⟨("Line", some "__init__"), "__init__", "Line.__init__", defArgs s_Line_init, defBody s_Line_init, defScope s_Line_init, [.non], []⟩
def d19 : He.DefD := ⟨("Line", some "names"), "names", "Line.names", defArgs s_Line_names, defBody s_Line_names, defScope s_Line_names, [], []⟩
def d20 : He.DefD := ⟨("Line", some "number_of"), "number_of", "Line.number_of", defArgs s_Line_number_of, defBody s_Line_number_of, defScope s_Line_number_of, [], []⟩
def d21 : He.DefD := ⟨("Line", some "roads"), "roads", "Line.roads", defArgs s_Line_roads, defBody s_Line_roads, defScope s_Line_roads, [], []⟩
def d22 : He.DefD := ⟨("Line", some "many_stretches"), "many_stretches", "Line.many_stretches", defArgs s_Line_many_stretches, defBody s_Line_many_stretches, defScope s_Line_many_stretches, [], []⟩
def d23 : He.DefD := ⟨("Line", some "need_stretch"), "need_stretch", "Line.need_stretch", defArgs s_Line_need_stretch, defBody s_Line_need_stretch, defScope s_Line_need_stretch, [], []⟩
def d24 : He.DefD := ⟨("Line", some "ends"), "ends", "Line.ends", defArgs s_Line_ends, defBody s_Line_ends, defScope s_Line_ends, [], []⟩
def d25 : He.DefD := ⟨("Line", some "kind"), "kind", "Line.kind", defArgs s_Line_kind, defBody s_Line_kind, defScope s_Line_kind, [], []⟩
def d26 : He.DefD := ⟨("Line", some "home"), "home", "Line.home", defArgs s_Line_home, defBody s_Line_home, defScope s_Line_home, [], []⟩
def d27 : He.DefD := ⟨("Line", some "between"), "between", "Line.between", defArgs s_Line_between, defBody s_Line_between, defScope s_Line_between, [], []⟩
def d28 : He.DefD := ⟨("Line", some "many_longs"), "many_longs", "Line.many_longs", defArgs s_Line_many_longs, defBody s_Line_many_longs, defScope s_Line_many_longs, [], []⟩
def d29 : He.DefD := ⟨("Line", some "need_long"), "need_long", "Line.need_long", defArgs s_Line_need_long, defBody s_Line_need_long, defScope s_Line_need_long, [], []⟩
def d30 : He.DefD := ⟨("Line", some "long_ends"), "long_ends", "Line.long_ends", defArgs s_Line_long_ends, defBody s_Line_long_ends, defScope s_Line_long_ends, [], []⟩
def d31 : He.DefD := ⟨("Line", some "long_stretches"), "long_stretches", "Line.long_stretches", defArgs s_Line_long_stretches, defBody s_Line_long_stretches, defScope s_Line_long_stretches, [], []⟩
def d32 : He.DefD := ⟨("Line", some "long_home"), "long_home", "Line.long_home", defArgs s_Line_long_home, defBody s_Line_long_home, defScope s_Line_long_home, [], []⟩
def d33 : He.DefD := ⟨("Line", some "long_between"), "long_between", "Line.long_between", defArgs s_Line_long_between, defBody s_Line_long_between, defScope s_Line_long_between, [], []⟩
def d34 : He.DefD := ⟨("Line", some "long_of"), "long_of", "Line.long_of", defArgs s_Line_long_of, defBody s_Line_long_of, defScope s_Line_long_of, [], []⟩
def d35 : He.DefD := ⟨("Line", some "told"), "told", "Line.told", defArgs s_Line_told, defBody s_Line_told, defScope s_Line_told, [], []⟩
def d36 : He.DefD := ⟨("Line", some "mirrored"), "mirrored", "Line.mirrored", defArgs s_Line_mirrored, defBody s_Line_mirrored, defScope s_Line_mirrored, [], []⟩
def d37 : He.DefD := ⟨("Line", some "renamed"), "renamed", "Line.renamed", defArgs s_Line_renamed, defBody s_Line_renamed, defScope s_Line_renamed, [], []⟩
def d38 : He.DefD := ⟨("_law_cell", none), "_law_cell", "_law_cell", defArgs s_law_cell, defBody s_law_cell, defScope s_law_cell, [], []⟩
def d39 : He.DefD := ⟨("_law_box", none), "_law_box", "_law_box", defArgs s_law_box, defBody s_law_box, defScope s_law_box, [], []⟩
def d40 : He.DefD := ⟨("_law_take", none), "_law_take", "_law_take", defArgs s_law_take, defBody s_law_take, defScope s_law_take, [], []⟩
def d41 : He.DefD := ⟨("_law_names", none), "_law_names", "_law_names", defArgs s_law_names, defBody s_law_names, defScope s_law_names, [], []⟩
def d42 : He.DefD := ⟨("_law_world", none), "_law_world", "_law_world", defArgs s_law_world, defBody s_law_world, defScope s_law_world, [], []⟩
def d43 : He.DefD := ⟨("_law_is_name", none), "_law_is_name", "_law_is_name", defArgs s_law_is_name, defBody s_law_is_name, defScope s_law_is_name, [], []⟩
def d44 : He.DefD := ⟨("_law_told", none), "_law_told", "_law_told", defArgs s_law_told, defBody s_law_told, defScope s_law_told, [], []⟩
def d45 : He.DefD := ⟨("_law_turned", none), "_law_turned", "_law_turned", defArgs s_law_turned, defBody s_law_turned, defScope s_law_turned, [], []⟩
def d46 : He.DefD := ⟨("_law_dict", none), "_law_dict", "_law_dict", defArgs s_law_dict, defBody s_law_dict, defScope s_law_dict, [], []⟩
def d47 : He.DefD := ⟨("_law_due", none), "_law_due", "_law_due", defArgs s_law_due, defBody s_law_due, defScope s_law_due, [], []⟩
def d48 : He.DefD := ⟨("_law_caught", none), "_law_caught", "_law_caught", defArgs s_law_caught, defBody s_law_caught, defScope s_law_caught, [], []⟩
def d49 : He.DefD := ⟨("_law_stretches_asked_right", none), "_law_stretches_asked_right", "_law_stretches_asked_right", defArgs s_law_stretches_asked_right, defBody s_law_stretches_asked_right, defScope s_law_stretches_asked_right, [], []⟩
def d50 : He.DefD := ⟨("_law_asked_right", none), "_law_asked_right", "_law_asked_right", defArgs s_law_asked_right, defBody s_law_asked_right, defScope s_law_asked_right, [], []⟩
def d51 : He.DefD := ⟨("_law_renamed_right", none), "_law_renamed_right", "_law_renamed_right", defArgs s_law_renamed_right, defBody s_law_renamed_right, defScope s_law_renamed_right, [], []⟩
def d52 : He.DefD := ⟨("law", none), "law", "law", defArgs s_law, defBody s_law, defScope s_law, [], []⟩
def hdefs : List He.DefD := [d1, d2, d3, d4, d5, d6, d7, d8, d9, d10, d11, d12, d13, d14, d15, d16, d17, d18, d19, d20, d21, d22, d23, d24, d25, d26, d27, d28, d29, d30, d31, d32, d33, d34, d35, d36, d37, d38, d39, d40, d41, d42, d43, d44, d45, d46, d47, d48, d49, d50, d51, d52]
abbrev hk : PySem.W.Hook := U.hookU hcks hdefs
def hob (s : PySem.W.SharedT) : He.AlD := U.obsUG hcks hdefs (HandSHeadRun.getT s)
theorem hob_eq (s : PySem.W.SharedT) : hob s = hk.obs s.abs := U.obsUG_eq (HandSHeadRun.getT_eq s)
set_option maxHeartbeats 0 in
theorem hrun (w : World) : HandSHeadRun.RunEq hR (PySem.W.view hR.prog [43]) hk hob 20000 hnames w := by
  intro os
  kernel_rfl
set_option maxHeartbeats 0 in
theorem facts {l : PySem.W.OpenLaw} {w : World} {K : PySem.W.Frag} {h : Heap} {mg : Str → Option Value} {fa : Addr} (X : K.In h) (G : h.Ns mainGlobals mg) (hfa : mg "law" = some (.ref fa)) (c : U.obsU hcks hdefs K = He.valD hdefs) :
    ∃ fd : FuncData, (∀ (s : Shared) (v : Value), BindsTo s fd ⟨[v], []⟩ [("_law_script", v)]) ∧ ∀ base : Heap, K.In base → base.Ns mainGlobals mg → (∃ mm, base.Ns sysModules mm) → FnG l.prog w K mg base (L2.CX l.prog w) 9 fa fd ["_law_script"] (sp_law K) := by
  have n_Line := of_decide_eq_true (show (decide (PySem.W.nsIn K mainGlobals "Line" = some (some (.ref (He.ga K "Line"))))) = true from U.ckU c 0 0 rfl rfl)
  have n_NoName := of_decide_eq_true (show (decide (PySem.W.nsIn K mainGlobals "NoName" = some (some (.ref (He.ga K "NoName"))))) = true from U.ckU c 0 1 rfl rfl)
  have n_NoPlace := of_decide_eq_true (show (decide (PySem.W.nsIn K mainGlobals "NoPlace" = some (some (.ref (He.ga K "NoPlace"))))) = true from U.ckU c 0 2 rfl rfl)
  have n_NoStretch := of_decide_eq_true (show (decide (PySem.W.nsIn K mainGlobals "NoStretch" = some (some (.ref (He.ga K "NoStretch"))))) = true from U.ckU c 0 3 rfl rfl)
  have n_NoLong := of_decide_eq_true (show (decide (PySem.W.nsIn K mainGlobals "NoLong" = some (some (.ref (He.ga K "NoLong"))))) = true from U.ckU c 0 4 rfl rfl)
  have n_NoPlaces := of_decide_eq_true (show (decide (PySem.W.nsIn K mainGlobals "NoPlaces" = some (some (.ref (He.ga K "NoPlaces"))))) = true from U.ckU c 0 5 rfl rfl)
  have n_NoStretches := of_decide_eq_true (show (decide (PySem.W.nsIn K mainGlobals "NoStretches" = some (some (.ref (He.ga K "NoStretches"))))) = true from U.ckU c 0 6 rfl rfl)
  have n_NoLongs := of_decide_eq_true (show (decide (PySem.W.nsIn K mainGlobals "NoLongs" = some (some (.ref (He.ga K "NoLongs"))))) = true from U.ckU c 0 7 rfl rfl)
  have n_NoNumber := of_decide_eq_true (show (decide (PySem.W.nsIn K mainGlobals "NoNumber" = some (some (.ref (He.ga K "NoNumber"))))) = true from U.ckU c 0 8 rfl rfl)
  have n_Twice := of_decide_eq_true (show (decide (PySem.W.nsIn K mainGlobals "Twice" = some (some (.ref (He.ga K "Twice"))))) = true from U.ckU c 0 9 rfl rfl)
  have n_StaffError := of_decide_eq_true (show (decide (PySem.W.nsIn K mainGlobals "StaffError" = some (some (.ref (He.ga K "StaffError"))))) = true from U.ckU c 0 10 rfl rfl)
  have a1 := of_decide_eq_true (show (decide (PySem.W.findIn K (.ref (He.ga K "NoName")) "__init__" = some (some (.ref (He.ma K (He.ga K "NoName") "__init__"))))) = true from U.ckU c 0 11 rfl rfl)
  have a2 := of_decide_eq_true (show (decide (PySem.W.findIn K (.ref (He.ga K "NoPlace")) "__init__" = some (some (.ref (He.ma K (He.ga K "NoPlace") "__init__"))))) = true from U.ckU c 0 12 rfl rfl)
  have a3 := of_decide_eq_true (show (decide (PySem.W.findIn K (.ref (He.ga K "NoStretch")) "__init__" = some (some (.ref (He.ma K (He.ga K "NoStretch") "__init__"))))) = true from U.ckU c 0 13 rfl rfl)
  have a4 := of_decide_eq_true (show (decide (PySem.W.findIn K (.ref (He.ga K "NoLong")) "__init__" = some (some (.ref (He.ma K (He.ga K "NoLong") "__init__"))))) = true from U.ckU c 0 14 rfl rfl)
  have a5 := of_decide_eq_true (show (decide (PySem.W.findIn K (.ref (He.ga K "NoPlaces")) "__init__" = some (some (.ref (He.ma K (He.ga K "NoPlaces") "__init__"))))) = true from U.ckU c 0 15 rfl rfl)
  have a6 := of_decide_eq_true (show (decide (PySem.W.findIn K (.ref (He.ga K "NoStretches")) "__init__" = some (some (.ref (He.ma K (He.ga K "NoStretches") "__init__"))))) = true from U.ckU c 0 16 rfl rfl)
  have a7 := of_decide_eq_true (show (decide (PySem.W.findIn K (.ref (He.ga K "NoLongs")) "__init__" = some (some (.ref (He.ma K (He.ga K "NoLongs") "__init__"))))) = true from U.ckU c 0 17 rfl rfl)
  have a8 := of_decide_eq_true (show (decide (PySem.W.findIn K (.ref (He.ga K "NoNumber")) "__init__" = some (some (.ref (He.ma K (He.ga K "NoNumber") "__init__"))))) = true from U.ckU c 0 18 rfl rfl)
  have a9 := of_decide_eq_true (show (decide (PySem.W.findIn K (.ref (He.ga K "Twice")) "__init__" = some (some (.ref (He.ma K (He.ga K "Twice") "__init__"))))) = true from U.ckU c 0 19 rfl rfl)
  have a10 := of_decide_eq_true (show (decide (PySem.W.nsIn K mainGlobals "is_whole" = some (some (.ref (He.ga K "is_whole"))))) = true from U.ckU c 1 0 rfl rfl)
  have a11 := of_decide_eq_true (show (decide (PySem.W.nsIn K mainGlobals "is_name" = some (some (.ref (He.ga K "is_name"))))) = true from U.ckU c 1 1 rfl rfl)
  have a12 := of_decide_eq_true (show (decide (PySem.W.nsIn K mainGlobals "is_row" = some (some (.ref (He.ga K "is_row"))))) = true from U.ckU c 1 2 rfl rfl)
  have a13 := of_decide_eq_true (show (decide (PySem.W.nsIn K mainGlobals "good_places" = some (some (.ref (He.ga K "good_places"))))) = true from U.ckU c 1 3 rfl rfl)
  have a14 := of_decide_eq_true (show (decide (PySem.W.nsIn K mainGlobals "is_stretch" = some (some (.ref (He.ga K "is_stretch"))))) = true from U.ckU c 1 4 rfl rfl)
  have a15 := of_decide_eq_true (show (decide (PySem.W.nsIn K mainGlobals "good_stretches" = some (some (.ref (He.ga K "good_stretches"))))) = true from U.ckU c 1 5 rfl rfl)
  have a16 := of_decide_eq_true (show (decide (PySem.W.nsIn K mainGlobals "is_long" = some (some (.ref (He.ga K "is_long"))))) = true from U.ckU c 1 6 rfl rfl)
  have a17 := of_decide_eq_true (show (decide (PySem.W.nsIn K mainGlobals "good_longs" = some (some (.ref (He.ga K "good_longs"))))) = true from U.ckU c 1 7 rfl rfl)
  have a18 := of_decide_eq_true (show (decide (PySem.W.findIn K (.ref (He.ga K "Line")) "__init__" = some (some (.ref (He.ma K (He.ga K "Line") "__init__"))))) = true from U.ckU c 1 8 rfl rfl)
  have a19 := of_decide_eq_true (show (decide (PySem.W.findIn K (.ref (He.ga K "Line")) "names" = some (some (.ref (He.ma K (He.ga K "Line") "names"))))) = true from U.ckU c 1 9 rfl rfl)
  have a20 := of_decide_eq_true (show (decide (PySem.W.findIn K (.ref (He.ga K "Line")) "number_of" = some (some (.ref (He.ma K (He.ga K "Line") "number_of"))))) = true from U.ckU c 1 10 rfl rfl)
  have a21 := of_decide_eq_true (show (decide (PySem.W.findIn K (.ref (He.ga K "Line")) "roads" = some (some (.ref (He.ma K (He.ga K "Line") "roads"))))) = true from U.ckU c 1 11 rfl rfl)
  have a22 := of_decide_eq_true (show (decide (PySem.W.findIn K (.ref (He.ga K "Line")) "many_stretches" = some (some (.ref (He.ma K (He.ga K "Line") "many_stretches"))))) = true from U.ckU c 1 12 rfl rfl)
  have a23 := of_decide_eq_true (show (decide (PySem.W.findIn K (.ref (He.ga K "Line")) "need_stretch" = some (some (.ref (He.ma K (He.ga K "Line") "need_stretch"))))) = true from U.ckU c 1 13 rfl rfl)
  have a24 := of_decide_eq_true (show (decide (PySem.W.findIn K (.ref (He.ga K "Line")) "ends" = some (some (.ref (He.ma K (He.ga K "Line") "ends"))))) = true from U.ckU c 1 14 rfl rfl)
  have a25 := of_decide_eq_true (show (decide (PySem.W.findIn K (.ref (He.ga K "Line")) "kind" = some (some (.ref (He.ma K (He.ga K "Line") "kind"))))) = true from U.ckU c 1 15 rfl rfl)
  have a26 := of_decide_eq_true (show (decide (PySem.W.findIn K (.ref (He.ga K "Line")) "home" = some (some (.ref (He.ma K (He.ga K "Line") "home"))))) = true from U.ckU c 1 16 rfl rfl)
  have a27 := of_decide_eq_true (show (decide (PySem.W.findIn K (.ref (He.ga K "Line")) "between" = some (some (.ref (He.ma K (He.ga K "Line") "between"))))) = true from U.ckU c 1 17 rfl rfl)
  have a28 := of_decide_eq_true (show (decide (PySem.W.findIn K (.ref (He.ga K "Line")) "many_longs" = some (some (.ref (He.ma K (He.ga K "Line") "many_longs"))))) = true from U.ckU c 1 18 rfl rfl)
  have a29 := of_decide_eq_true (show (decide (PySem.W.findIn K (.ref (He.ga K "Line")) "need_long" = some (some (.ref (He.ma K (He.ga K "Line") "need_long"))))) = true from U.ckU c 1 19 rfl rfl)
  have a30 := of_decide_eq_true (show (decide (PySem.W.findIn K (.ref (He.ga K "Line")) "long_ends" = some (some (.ref (He.ma K (He.ga K "Line") "long_ends"))))) = true from U.ckU c 2 0 rfl rfl)
  have a31 := of_decide_eq_true (show (decide (PySem.W.findIn K (.ref (He.ga K "Line")) "long_stretches" = some (some (.ref (He.ma K (He.ga K "Line") "long_stretches"))))) = true from U.ckU c 2 1 rfl rfl)
  have a32 := of_decide_eq_true (show (decide (PySem.W.findIn K (.ref (He.ga K "Line")) "long_home" = some (some (.ref (He.ma K (He.ga K "Line") "long_home"))))) = true from U.ckU c 2 2 rfl rfl)
  have a33 := of_decide_eq_true (show (decide (PySem.W.findIn K (.ref (He.ga K "Line")) "long_between" = some (some (.ref (He.ma K (He.ga K "Line") "long_between"))))) = true from U.ckU c 2 3 rfl rfl)
  have a34 := of_decide_eq_true (show (decide (PySem.W.findIn K (.ref (He.ga K "Line")) "long_of" = some (some (.ref (He.ma K (He.ga K "Line") "long_of"))))) = true from U.ckU c 2 4 rfl rfl)
  have a35 := of_decide_eq_true (show (decide (PySem.W.findIn K (.ref (He.ga K "Line")) "told" = some (some (.ref (He.ma K (He.ga K "Line") "told"))))) = true from U.ckU c 2 5 rfl rfl)
  have a36 := of_decide_eq_true (show (decide (PySem.W.findIn K (.ref (He.ga K "Line")) "mirrored" = some (some (.ref (He.ma K (He.ga K "Line") "mirrored"))))) = true from U.ckU c 2 6 rfl rfl)
  have a37 := of_decide_eq_true (show (decide (PySem.W.findIn K (.ref (He.ga K "Line")) "renamed" = some (some (.ref (He.ma K (He.ga K "Line") "renamed"))))) = true from U.ckU c 2 7 rfl rfl)
  have a38 := of_decide_eq_true (show (decide (PySem.W.nsIn K mainGlobals "_law_cell" = some (some (.ref (He.ga K "_law_cell"))))) = true from U.ckU c 2 8 rfl rfl)
  have a39 := of_decide_eq_true (show (decide (PySem.W.nsIn K mainGlobals "_law_box" = some (some (.ref (He.ga K "_law_box"))))) = true from U.ckU c 2 9 rfl rfl)
  have a40 := of_decide_eq_true (show (decide (PySem.W.nsIn K mainGlobals "_law_take" = some (some (.ref (He.ga K "_law_take"))))) = true from U.ckU c 2 10 rfl rfl)
  have a41 := of_decide_eq_true (show (decide (PySem.W.nsIn K mainGlobals "_law_names" = some (some (.ref (He.ga K "_law_names"))))) = true from U.ckU c 2 11 rfl rfl)
  have a42 := of_decide_eq_true (show (decide (PySem.W.nsIn K mainGlobals "_law_world" = some (some (.ref (He.ga K "_law_world"))))) = true from U.ckU c 2 12 rfl rfl)
  have a43 := of_decide_eq_true (show (decide (PySem.W.nsIn K mainGlobals "_law_is_name" = some (some (.ref (He.ga K "_law_is_name"))))) = true from U.ckU c 2 13 rfl rfl)
  have a44 := of_decide_eq_true (show (decide (PySem.W.nsIn K mainGlobals "_law_told" = some (some (.ref (He.ga K "_law_told"))))) = true from U.ckU c 2 14 rfl rfl)
  have a45 := of_decide_eq_true (show (decide (PySem.W.nsIn K mainGlobals "_law_turned" = some (some (.ref (He.ga K "_law_turned"))))) = true from U.ckU c 2 15 rfl rfl)
  have a46 := of_decide_eq_true (show (decide (PySem.W.nsIn K mainGlobals "_law_dict" = some (some (.ref (He.ga K "_law_dict"))))) = true from U.ckU c 2 16 rfl rfl)
  have a47 := of_decide_eq_true (show (decide (PySem.W.nsIn K mainGlobals "_law_due" = some (some (.ref (He.ga K "_law_due"))))) = true from U.ckU c 2 17 rfl rfl)
  have a48 := of_decide_eq_true (show (decide (PySem.W.nsIn K mainGlobals "_law_caught" = some (some (.ref (He.ga K "_law_caught"))))) = true from U.ckU c 2 18 rfl rfl)
  have a49 := of_decide_eq_true (show (decide (PySem.W.nsIn K mainGlobals "_law_stretches_asked_right" = some (some (.ref (He.ga K "_law_stretches_asked_right"))))) = true from U.ckU c 2 19 rfl rfl)
  have a50 := of_decide_eq_true (show (decide (PySem.W.nsIn K mainGlobals "_law_asked_right" = some (some (.ref (He.ga K "_law_asked_right"))))) = true from U.ckU c 3 0 rfl rfl)
  have a51 := of_decide_eq_true (show (decide (PySem.W.nsIn K mainGlobals "_law_renamed_right" = some (some (.ref (He.ga K "_law_renamed_right"))))) = true from U.ckU c 3 1 rfl rfl)
  have a52 := of_decide_eq_true (show (decide (PySem.W.nsIn K mainGlobals "law" = some (some (.ref (He.ga K "law"))))) = true from U.ckU c 3 2 rfl rfl)
  have pg_Line := (show (PySem.W.plainGet K (He.ga K "Line") Str.empty) = true from U.ckU c 3 3 rfl rfl)
  have hd_Line := (show (PySem.W.hasDictIn K (He.ga K "Line")) = true from U.ckU c 3 4 rfl rfl)
  have po_Line := (show (PySem.W.plainOver K (He.ga K "Line")) = true from U.ckU c 3 5 rfl rfl)
  have sa_Line := of_decide_eq_true (show (decide (PySem.W.findIn K (.ref (He.ga K "Line")) "__setattr__" = some (some (.builtin "object.__setattr__")))) = true from U.ckU c 3 6 rfl rfl)
  have mk_Line := (show (PySem.W.makesIn K (He.ga K "Line")) = true from U.ckU c 3 7 rfl rfl)
  have kc_Line := (show (PySem.W.keepIn K (.ref (He.ga K "Line"))) = true from U.ckU c 3 8 rfl rfl)
  have if_Line := (show (PySem.W.isFn K (.ref (He.ma K (He.ga K "Line") "__init__"))) = true from U.ckU c 3 9 rfl rfl)
  have na_Line_kept_places := of_decide_eq_true (show (decide (PySem.W.findIn K (.ref (He.ga K "Line")) "kept_places" = some none)) = true from U.ckU c 3 10 rfl rfl)
  have na_Line_kept_stretches := of_decide_eq_true (show (decide (PySem.W.findIn K (.ref (He.ga K "Line")) "kept_stretches" = some none)) = true from U.ckU c 3 11 rfl rfl)
  have na_Line_kept_longs := of_decide_eq_true (show (decide (PySem.W.findIn K (.ref (He.ga K "Line")) "kept_longs" = some none)) = true from U.ckU c 3 12 rfl rfl)
  have fn_Line_names := (show (PySem.W.isFn K (.ref (He.ma K (He.ga K "Line") "names"))) = true from U.ckU c 3 13 rfl rfl)
  have fn_Line_number_of := (show (PySem.W.isFn K (.ref (He.ma K (He.ga K "Line") "number_of"))) = true from U.ckU c 3 14 rfl rfl)
  have fn_Line_roads := (show (PySem.W.isFn K (.ref (He.ma K (He.ga K "Line") "roads"))) = true from U.ckU c 3 15 rfl rfl)
  have fn_Line_many_stretches := (show (PySem.W.isFn K (.ref (He.ma K (He.ga K "Line") "many_stretches"))) = true from U.ckU c 3 16 rfl rfl)
  have fn_Line_need_stretch := (show (PySem.W.isFn K (.ref (He.ma K (He.ga K "Line") "need_stretch"))) = true from U.ckU c 3 17 rfl rfl)
  have fn_Line_ends := (show (PySem.W.isFn K (.ref (He.ma K (He.ga K "Line") "ends"))) = true from U.ckU c 3 18 rfl rfl)
  have fn_Line_kind := (show (PySem.W.isFn K (.ref (He.ma K (He.ga K "Line") "kind"))) = true from U.ckU c 3 19 rfl rfl)
  have fn_Line_home := (show (PySem.W.isFn K (.ref (He.ma K (He.ga K "Line") "home"))) = true from U.ckU c 4 0 rfl rfl)
  have fn_Line_between := (show (PySem.W.isFn K (.ref (He.ma K (He.ga K "Line") "between"))) = true from U.ckU c 4 1 rfl rfl)
  have fn_Line_many_longs := (show (PySem.W.isFn K (.ref (He.ma K (He.ga K "Line") "many_longs"))) = true from U.ckU c 4 2 rfl rfl)
  have fn_Line_need_long := (show (PySem.W.isFn K (.ref (He.ma K (He.ga K "Line") "need_long"))) = true from U.ckU c 4 3 rfl rfl)
  have fn_Line_long_ends := (show (PySem.W.isFn K (.ref (He.ma K (He.ga K "Line") "long_ends"))) = true from U.ckU c 4 4 rfl rfl)
  have fn_Line_long_stretches := (show (PySem.W.isFn K (.ref (He.ma K (He.ga K "Line") "long_stretches"))) = true from U.ckU c 4 5 rfl rfl)
  have fn_Line_long_home := (show (PySem.W.isFn K (.ref (He.ma K (He.ga K "Line") "long_home"))) = true from U.ckU c 4 6 rfl rfl)
  have fn_Line_long_between := (show (PySem.W.isFn K (.ref (He.ma K (He.ga K "Line") "long_between"))) = true from U.ckU c 4 7 rfl rfl)
  have fn_Line_long_of := (show (PySem.W.isFn K (.ref (He.ma K (He.ga K "Line") "long_of"))) = true from U.ckU c 4 8 rfl rfl)
  have fn_Line_told := (show (PySem.W.isFn K (.ref (He.ma K (He.ga K "Line") "told"))) = true from U.ckU c 4 9 rfl rfl)
  have fn_Line_mirrored := (show (PySem.W.isFn K (.ref (He.ma K (He.ga K "Line") "mirrored"))) = true from U.ckU c 4 10 rfl rfl)
  have fn_Line_renamed := (show (PySem.W.isFn K (.ref (He.ma K (He.ga K "Line") "renamed"))) = true from U.ckU c 4 11 rfl rfl)
  have xu_NoName := (show (U.excU K (He.ga K "NoName")) = true from U.ckU c 4 12 rfl rfl)
  have sa_NoName := of_decide_eq_true (show (decide (PySem.W.findIn K (.ref (He.ga K "NoName")) "__setattr__" = some (some (.builtin "object.__setattr__")))) = true from U.ckU c 4 13 rfl rfl)
  have ga_NoName := of_decide_eq_true (show (decide (PySem.W.findIn K (.ref (He.ga K "NoName")) "__getattribute__" = some (some (.builtin "BaseException.__getattribute__")))) = true from U.ckU c 4 14 rfl rfl)
  have gg_NoName := of_decide_eq_true (show (decide (PySem.W.findIn K (.ref (He.ga K "NoName")) "__getattr__" = some none)) = true from U.ckU c 4 15 rfl rfl)
  have no_NoName := of_decide_eq_true (show (decide (PySem.W.findIn K (.ref (He.ga K "NoName")) "found" = some none)) = true from U.ckU c 4 16 rfl rfl)
  have ex_NoName := of_decide_eq_true (show (decide (PySem.W.subIn K (.ref (He.ga K "NoName")) (.type "BaseException") = some true)) = true from U.ckU c 4 17 rfl rfl)
  have ty_NoName := of_decide_eq_true (show (decide (PySem.W.typeIn K (.ref (He.ga K "NoName")) = some (.type "type"))) = true from U.ckU c 4 18 rfl rfl)
  have kC_NoName := (show (PySem.W.keepIn K (.ref (He.ga K "NoName"))) = true from U.ckU c 4 19 rfl rfl)
  have hd_NoName := (show (PySem.W.hasDictIn K (He.ga K "NoName")) = true from U.ckU c 5 0 rfl rfl)
  have ha_NoName := of_decide_eq_true (show (decide (PySem.W.findIn K (.ref (He.ga K "NoName")) "__class__" = some (some (.builtin "object.__class__")))) = true from U.ckU c 5 1 rfl rfl)
  have hm_NoName := of_decide_eq_true (show (decide (PySem.W.mroIn K (He.ga K "NoName") (.type "object") = some true)) = true from U.ckU c 5 2 rfl rfl)
  have ti_NoName := of_decide_eq_true (show (decide (PySem.W.typeIn K (.ref (He.ma K (He.ga K "NoName") "__init__")) = some (.type "function"))) = true from U.ckU c 5 3 rfl rfl)
  have xu_NoPlace := (show (U.excU K (He.ga K "NoPlace")) = true from U.ckU c 5 4 rfl rfl)
  have sa_NoPlace := of_decide_eq_true (show (decide (PySem.W.findIn K (.ref (He.ga K "NoPlace")) "__setattr__" = some (some (.builtin "object.__setattr__")))) = true from U.ckU c 5 5 rfl rfl)
  have ga_NoPlace := of_decide_eq_true (show (decide (PySem.W.findIn K (.ref (He.ga K "NoPlace")) "__getattribute__" = some (some (.builtin "BaseException.__getattribute__")))) = true from U.ckU c 5 6 rfl rfl)
  have gg_NoPlace := of_decide_eq_true (show (decide (PySem.W.findIn K (.ref (He.ga K "NoPlace")) "__getattr__" = some none)) = true from U.ckU c 5 7 rfl rfl)
  have no_NoPlace := of_decide_eq_true (show (decide (PySem.W.findIn K (.ref (He.ga K "NoPlace")) "found" = some none)) = true from U.ckU c 5 8 rfl rfl)
  have ex_NoPlace := of_decide_eq_true (show (decide (PySem.W.subIn K (.ref (He.ga K "NoPlace")) (.type "BaseException") = some true)) = true from U.ckU c 5 9 rfl rfl)
  have ty_NoPlace := of_decide_eq_true (show (decide (PySem.W.typeIn K (.ref (He.ga K "NoPlace")) = some (.type "type"))) = true from U.ckU c 5 10 rfl rfl)
  have kC_NoPlace := (show (PySem.W.keepIn K (.ref (He.ga K "NoPlace"))) = true from U.ckU c 5 11 rfl rfl)
  have hd_NoPlace := (show (PySem.W.hasDictIn K (He.ga K "NoPlace")) = true from U.ckU c 5 12 rfl rfl)
  have ha_NoPlace := of_decide_eq_true (show (decide (PySem.W.findIn K (.ref (He.ga K "NoPlace")) "__class__" = some (some (.builtin "object.__class__")))) = true from U.ckU c 5 13 rfl rfl)
  have hm_NoPlace := of_decide_eq_true (show (decide (PySem.W.mroIn K (He.ga K "NoPlace") (.type "object") = some true)) = true from U.ckU c 5 14 rfl rfl)
  have ti_NoPlace := of_decide_eq_true (show (decide (PySem.W.typeIn K (.ref (He.ma K (He.ga K "NoPlace") "__init__")) = some (.type "function"))) = true from U.ckU c 5 15 rfl rfl)
  have xu_NoStretch := (show (U.excU K (He.ga K "NoStretch")) = true from U.ckU c 5 16 rfl rfl)
  have sa_NoStretch := of_decide_eq_true (show (decide (PySem.W.findIn K (.ref (He.ga K "NoStretch")) "__setattr__" = some (some (.builtin "object.__setattr__")))) = true from U.ckU c 5 17 rfl rfl)
  have ga_NoStretch := of_decide_eq_true (show (decide (PySem.W.findIn K (.ref (He.ga K "NoStretch")) "__getattribute__" = some (some (.builtin "BaseException.__getattribute__")))) = true from U.ckU c 5 18 rfl rfl)
  have gg_NoStretch := of_decide_eq_true (show (decide (PySem.W.findIn K (.ref (He.ga K "NoStretch")) "__getattr__" = some none)) = true from U.ckU c 5 19 rfl rfl)
  have no_NoStretch := of_decide_eq_true (show (decide (PySem.W.findIn K (.ref (He.ga K "NoStretch")) "found" = some none)) = true from U.ckU c 6 0 rfl rfl)
  have ex_NoStretch := of_decide_eq_true (show (decide (PySem.W.subIn K (.ref (He.ga K "NoStretch")) (.type "BaseException") = some true)) = true from U.ckU c 6 1 rfl rfl)
  have ty_NoStretch := of_decide_eq_true (show (decide (PySem.W.typeIn K (.ref (He.ga K "NoStretch")) = some (.type "type"))) = true from U.ckU c 6 2 rfl rfl)
  have kC_NoStretch := (show (PySem.W.keepIn K (.ref (He.ga K "NoStretch"))) = true from U.ckU c 6 3 rfl rfl)
  have hd_NoStretch := (show (PySem.W.hasDictIn K (He.ga K "NoStretch")) = true from U.ckU c 6 4 rfl rfl)
  have ha_NoStretch := of_decide_eq_true (show (decide (PySem.W.findIn K (.ref (He.ga K "NoStretch")) "__class__" = some (some (.builtin "object.__class__")))) = true from U.ckU c 6 5 rfl rfl)
  have hm_NoStretch := of_decide_eq_true (show (decide (PySem.W.mroIn K (He.ga K "NoStretch") (.type "object") = some true)) = true from U.ckU c 6 6 rfl rfl)
  have ti_NoStretch := of_decide_eq_true (show (decide (PySem.W.typeIn K (.ref (He.ma K (He.ga K "NoStretch") "__init__")) = some (.type "function"))) = true from U.ckU c 6 7 rfl rfl)
  have xu_NoLong := (show (U.excU K (He.ga K "NoLong")) = true from U.ckU c 6 8 rfl rfl)
  have sa_NoLong := of_decide_eq_true (show (decide (PySem.W.findIn K (.ref (He.ga K "NoLong")) "__setattr__" = some (some (.builtin "object.__setattr__")))) = true from U.ckU c 6 9 rfl rfl)
  have ga_NoLong := of_decide_eq_true (show (decide (PySem.W.findIn K (.ref (He.ga K "NoLong")) "__getattribute__" = some (some (.builtin "BaseException.__getattribute__")))) = true from U.ckU c 6 10 rfl rfl)
  have gg_NoLong := of_decide_eq_true (show (decide (PySem.W.findIn K (.ref (He.ga K "NoLong")) "__getattr__" = some none)) = true from U.ckU c 6 11 rfl rfl)
  have no_NoLong := of_decide_eq_true (show (decide (PySem.W.findIn K (.ref (He.ga K "NoLong")) "found" = some none)) = true from U.ckU c 6 12 rfl rfl)
  have ex_NoLong := of_decide_eq_true (show (decide (PySem.W.subIn K (.ref (He.ga K "NoLong")) (.type "BaseException") = some true)) = true from U.ckU c 6 13 rfl rfl)
  have ty_NoLong := of_decide_eq_true (show (decide (PySem.W.typeIn K (.ref (He.ga K "NoLong")) = some (.type "type"))) = true from U.ckU c 6 14 rfl rfl)
  have kC_NoLong := (show (PySem.W.keepIn K (.ref (He.ga K "NoLong"))) = true from U.ckU c 6 15 rfl rfl)
  have hd_NoLong := (show (PySem.W.hasDictIn K (He.ga K "NoLong")) = true from U.ckU c 6 16 rfl rfl)
  have ha_NoLong := of_decide_eq_true (show (decide (PySem.W.findIn K (.ref (He.ga K "NoLong")) "__class__" = some (some (.builtin "object.__class__")))) = true from U.ckU c 6 17 rfl rfl)
  have hm_NoLong := of_decide_eq_true (show (decide (PySem.W.mroIn K (He.ga K "NoLong") (.type "object") = some true)) = true from U.ckU c 6 18 rfl rfl)
  have ti_NoLong := of_decide_eq_true (show (decide (PySem.W.typeIn K (.ref (He.ma K (He.ga K "NoLong") "__init__")) = some (.type "function"))) = true from U.ckU c 6 19 rfl rfl)
  have xu_NoPlaces := (show (U.excU K (He.ga K "NoPlaces")) = true from U.ckU c 7 0 rfl rfl)
  have sa_NoPlaces := of_decide_eq_true (show (decide (PySem.W.findIn K (.ref (He.ga K "NoPlaces")) "__setattr__" = some (some (.builtin "object.__setattr__")))) = true from U.ckU c 7 1 rfl rfl)
  have ga_NoPlaces := of_decide_eq_true (show (decide (PySem.W.findIn K (.ref (He.ga K "NoPlaces")) "__getattribute__" = some (some (.builtin "BaseException.__getattribute__")))) = true from U.ckU c 7 2 rfl rfl)
  have gg_NoPlaces := of_decide_eq_true (show (decide (PySem.W.findIn K (.ref (He.ga K "NoPlaces")) "__getattr__" = some none)) = true from U.ckU c 7 3 rfl rfl)
  have no_NoPlaces := of_decide_eq_true (show (decide (PySem.W.findIn K (.ref (He.ga K "NoPlaces")) "found" = some none)) = true from U.ckU c 7 4 rfl rfl)
  have ex_NoPlaces := of_decide_eq_true (show (decide (PySem.W.subIn K (.ref (He.ga K "NoPlaces")) (.type "BaseException") = some true)) = true from U.ckU c 7 5 rfl rfl)
  have ty_NoPlaces := of_decide_eq_true (show (decide (PySem.W.typeIn K (.ref (He.ga K "NoPlaces")) = some (.type "type"))) = true from U.ckU c 7 6 rfl rfl)
  have kC_NoPlaces := (show (PySem.W.keepIn K (.ref (He.ga K "NoPlaces"))) = true from U.ckU c 7 7 rfl rfl)
  have hd_NoPlaces := (show (PySem.W.hasDictIn K (He.ga K "NoPlaces")) = true from U.ckU c 7 8 rfl rfl)
  have ha_NoPlaces := of_decide_eq_true (show (decide (PySem.W.findIn K (.ref (He.ga K "NoPlaces")) "__class__" = some (some (.builtin "object.__class__")))) = true from U.ckU c 7 9 rfl rfl)
  have hm_NoPlaces := of_decide_eq_true (show (decide (PySem.W.mroIn K (He.ga K "NoPlaces") (.type "object") = some true)) = true from U.ckU c 7 10 rfl rfl)
  have ti_NoPlaces := of_decide_eq_true (show (decide (PySem.W.typeIn K (.ref (He.ma K (He.ga K "NoPlaces") "__init__")) = some (.type "function"))) = true from U.ckU c 7 11 rfl rfl)
  have xu_NoStretches := (show (U.excU K (He.ga K "NoStretches")) = true from U.ckU c 7 12 rfl rfl)
  have sa_NoStretches := of_decide_eq_true (show (decide (PySem.W.findIn K (.ref (He.ga K "NoStretches")) "__setattr__" = some (some (.builtin "object.__setattr__")))) = true from U.ckU c 7 13 rfl rfl)
  have ga_NoStretches := of_decide_eq_true (show (decide (PySem.W.findIn K (.ref (He.ga K "NoStretches")) "__getattribute__" = some (some (.builtin "BaseException.__getattribute__")))) = true from U.ckU c 7 14 rfl rfl)
  have gg_NoStretches := of_decide_eq_true (show (decide (PySem.W.findIn K (.ref (He.ga K "NoStretches")) "__getattr__" = some none)) = true from U.ckU c 7 15 rfl rfl)
  have no_NoStretches := of_decide_eq_true (show (decide (PySem.W.findIn K (.ref (He.ga K "NoStretches")) "found" = some none)) = true from U.ckU c 7 16 rfl rfl)
  have ex_NoStretches := of_decide_eq_true (show (decide (PySem.W.subIn K (.ref (He.ga K "NoStretches")) (.type "BaseException") = some true)) = true from U.ckU c 7 17 rfl rfl)
  have ty_NoStretches := of_decide_eq_true (show (decide (PySem.W.typeIn K (.ref (He.ga K "NoStretches")) = some (.type "type"))) = true from U.ckU c 7 18 rfl rfl)
  have kC_NoStretches := (show (PySem.W.keepIn K (.ref (He.ga K "NoStretches"))) = true from U.ckU c 7 19 rfl rfl)
  have hd_NoStretches := (show (PySem.W.hasDictIn K (He.ga K "NoStretches")) = true from U.ckU c 8 0 rfl rfl)
  have ha_NoStretches := of_decide_eq_true (show (decide (PySem.W.findIn K (.ref (He.ga K "NoStretches")) "__class__" = some (some (.builtin "object.__class__")))) = true from U.ckU c 8 1 rfl rfl)
  have hm_NoStretches := of_decide_eq_true (show (decide (PySem.W.mroIn K (He.ga K "NoStretches") (.type "object") = some true)) = true from U.ckU c 8 2 rfl rfl)
  have ti_NoStretches := of_decide_eq_true (show (decide (PySem.W.typeIn K (.ref (He.ma K (He.ga K "NoStretches") "__init__")) = some (.type "function"))) = true from U.ckU c 8 3 rfl rfl)
  have xu_NoLongs := (show (U.excU K (He.ga K "NoLongs")) = true from U.ckU c 8 4 rfl rfl)
  have sa_NoLongs := of_decide_eq_true (show (decide (PySem.W.findIn K (.ref (He.ga K "NoLongs")) "__setattr__" = some (some (.builtin "object.__setattr__")))) = true from U.ckU c 8 5 rfl rfl)
  have ga_NoLongs := of_decide_eq_true (show (decide (PySem.W.findIn K (.ref (He.ga K "NoLongs")) "__getattribute__" = some (some (.builtin "BaseException.__getattribute__")))) = true from U.ckU c 8 6 rfl rfl)
  have gg_NoLongs := of_decide_eq_true (show (decide (PySem.W.findIn K (.ref (He.ga K "NoLongs")) "__getattr__" = some none)) = true from U.ckU c 8 7 rfl rfl)
  have no_NoLongs := of_decide_eq_true (show (decide (PySem.W.findIn K (.ref (He.ga K "NoLongs")) "found" = some none)) = true from U.ckU c 8 8 rfl rfl)
  have ex_NoLongs := of_decide_eq_true (show (decide (PySem.W.subIn K (.ref (He.ga K "NoLongs")) (.type "BaseException") = some true)) = true from U.ckU c 8 9 rfl rfl)
  have ty_NoLongs := of_decide_eq_true (show (decide (PySem.W.typeIn K (.ref (He.ga K "NoLongs")) = some (.type "type"))) = true from U.ckU c 8 10 rfl rfl)
  have kC_NoLongs := (show (PySem.W.keepIn K (.ref (He.ga K "NoLongs"))) = true from U.ckU c 8 11 rfl rfl)
  have hd_NoLongs := (show (PySem.W.hasDictIn K (He.ga K "NoLongs")) = true from U.ckU c 8 12 rfl rfl)
  have ha_NoLongs := of_decide_eq_true (show (decide (PySem.W.findIn K (.ref (He.ga K "NoLongs")) "__class__" = some (some (.builtin "object.__class__")))) = true from U.ckU c 8 13 rfl rfl)
  have hm_NoLongs := of_decide_eq_true (show (decide (PySem.W.mroIn K (He.ga K "NoLongs") (.type "object") = some true)) = true from U.ckU c 8 14 rfl rfl)
  have ti_NoLongs := of_decide_eq_true (show (decide (PySem.W.typeIn K (.ref (He.ma K (He.ga K "NoLongs") "__init__")) = some (.type "function"))) = true from U.ckU c 8 15 rfl rfl)
  have xu_NoNumber := (show (U.excU K (He.ga K "NoNumber")) = true from U.ckU c 8 16 rfl rfl)
  have sa_NoNumber := of_decide_eq_true (show (decide (PySem.W.findIn K (.ref (He.ga K "NoNumber")) "__setattr__" = some (some (.builtin "object.__setattr__")))) = true from U.ckU c 8 17 rfl rfl)
  have ga_NoNumber := of_decide_eq_true (show (decide (PySem.W.findIn K (.ref (He.ga K "NoNumber")) "__getattribute__" = some (some (.builtin "BaseException.__getattribute__")))) = true from U.ckU c 8 18 rfl rfl)
  have gg_NoNumber := of_decide_eq_true (show (decide (PySem.W.findIn K (.ref (He.ga K "NoNumber")) "__getattr__" = some none)) = true from U.ckU c 8 19 rfl rfl)
  have no_NoNumber := of_decide_eq_true (show (decide (PySem.W.findIn K (.ref (He.ga K "NoNumber")) "found" = some none)) = true from U.ckU c 9 0 rfl rfl)
  have ex_NoNumber := of_decide_eq_true (show (decide (PySem.W.subIn K (.ref (He.ga K "NoNumber")) (.type "BaseException") = some true)) = true from U.ckU c 9 1 rfl rfl)
  have ty_NoNumber := of_decide_eq_true (show (decide (PySem.W.typeIn K (.ref (He.ga K "NoNumber")) = some (.type "type"))) = true from U.ckU c 9 2 rfl rfl)
  have kC_NoNumber := (show (PySem.W.keepIn K (.ref (He.ga K "NoNumber"))) = true from U.ckU c 9 3 rfl rfl)
  have hd_NoNumber := (show (PySem.W.hasDictIn K (He.ga K "NoNumber")) = true from U.ckU c 9 4 rfl rfl)
  have ha_NoNumber := of_decide_eq_true (show (decide (PySem.W.findIn K (.ref (He.ga K "NoNumber")) "__class__" = some (some (.builtin "object.__class__")))) = true from U.ckU c 9 5 rfl rfl)
  have hm_NoNumber := of_decide_eq_true (show (decide (PySem.W.mroIn K (He.ga K "NoNumber") (.type "object") = some true)) = true from U.ckU c 9 6 rfl rfl)
  have ti_NoNumber := of_decide_eq_true (show (decide (PySem.W.typeIn K (.ref (He.ma K (He.ga K "NoNumber") "__init__")) = some (.type "function"))) = true from U.ckU c 9 7 rfl rfl)
  have xu_Twice := (show (U.excU K (He.ga K "Twice")) = true from U.ckU c 9 8 rfl rfl)
  have sa_Twice := of_decide_eq_true (show (decide (PySem.W.findIn K (.ref (He.ga K "Twice")) "__setattr__" = some (some (.builtin "object.__setattr__")))) = true from U.ckU c 9 9 rfl rfl)
  have ga_Twice := of_decide_eq_true (show (decide (PySem.W.findIn K (.ref (He.ga K "Twice")) "__getattribute__" = some (some (.builtin "BaseException.__getattribute__")))) = true from U.ckU c 9 10 rfl rfl)
  have gg_Twice := of_decide_eq_true (show (decide (PySem.W.findIn K (.ref (He.ga K "Twice")) "__getattr__" = some none)) = true from U.ckU c 9 11 rfl rfl)
  have no_Twice := of_decide_eq_true (show (decide (PySem.W.findIn K (.ref (He.ga K "Twice")) "found" = some none)) = true from U.ckU c 9 12 rfl rfl)
  have ex_Twice := of_decide_eq_true (show (decide (PySem.W.subIn K (.ref (He.ga K "Twice")) (.type "BaseException") = some true)) = true from U.ckU c 9 13 rfl rfl)
  have ty_Twice := of_decide_eq_true (show (decide (PySem.W.typeIn K (.ref (He.ga K "Twice")) = some (.type "type"))) = true from U.ckU c 9 14 rfl rfl)
  have kC_Twice := (show (PySem.W.keepIn K (.ref (He.ga K "Twice"))) = true from U.ckU c 9 15 rfl rfl)
  have hd_Twice := (show (PySem.W.hasDictIn K (He.ga K "Twice")) = true from U.ckU c 9 16 rfl rfl)
  have ha_Twice := of_decide_eq_true (show (decide (PySem.W.findIn K (.ref (He.ga K "Twice")) "__class__" = some (some (.builtin "object.__class__")))) = true from U.ckU c 9 17 rfl rfl)
  have hm_Twice := of_decide_eq_true (show (decide (PySem.W.mroIn K (He.ga K "Twice") (.type "object") = some true)) = true from U.ckU c 9 18 rfl rfl)
  have ti_Twice := of_decide_eq_true (show (decide (PySem.W.typeIn K (.ref (He.ma K (He.ga K "Twice") "__init__")) = some (.type "function"))) = true from U.ckU c 9 19 rfl rfl)
  have rd_StaffError := (show (PySem.W.readsIn K (He.ga K "StaffError") (.type "type")) = true from U.ckU c 10 0 rfl rfl)
  have rg_StaffError := of_decide_eq_true (show (decide (PySem.W.specialIn K (.ref (He.ga K "StaffError")) "__getattribute__" = some (some (.builtin "type.__getattribute__")))) = true from U.ckU c 10 1 rfl rfl)
  have vi_StaffError := (show (U.isVal (PySem.W.findCls K (.ref (He.ga K "StaffError")) (.type "type") "__init__") (.builtin "ValueError.__init__")) = true from U.ckU c 10 2 rfl rfl)
  have oc_get := of_decide_eq_true (show (decide (PySem.W.specialIn K (.builtin "object.__class__") "__get__" = some (some (.builtin "getset_descriptor.__get__")))) = true from U.ckU c 10 3 rfl rfl)
  have oc_take := of_decide_eq_true (show (decide (PySem.W.takesIn K (.builtin "object.__class__") = some true)) = true from U.ckU c 10 4 rfl rfl)
  have ex_NoName_NoName := of_decide_eq_true (show (decide (PySem.W.exmOne K (.ref (He.ga K "NoName")) (.ref (He.ga K "NoName")) = some true)) = true from U.ckU c 10 5 rfl rfl)
  have ex_Twice_NoName := of_decide_eq_true (show (decide (PySem.W.exmOne K (.ref (He.ga K "Twice")) (.ref (He.ga K "NoName")) = some false)) = true from U.ckU c 10 6 rfl rfl)
  have ex_Twice_Twice := of_decide_eq_true (show (decide (PySem.W.exmOne K (.ref (He.ga K "Twice")) (.ref (He.ga K "Twice")) = some true)) = true from U.ckU c 10 7 rfl rfl)
  have cu_LONGEST := (show (U.conU K "LONGEST" (V.int 6)) = true from U.ckU c 10 8 rfl rfl)
  have cu_LETTERS := (show (U.conU K "LETTERS" (V.str "abcdefghijklmnopqrstuvwxyz")) = true from U.ckU c 10 9 rfl rfl)
  have cu_FEWEST_PLACES := (show (U.conU K "FEWEST_PLACES" (V.int 2)) = true from U.ckU c 10 10 rfl rfl)
  have cu_MOST_PLACES := (show (U.conU K "MOST_PLACES" (V.int 6)) = true from U.ckU c 10 11 rfl rfl)
  have cu_MOST_ROADS := (show (U.conU K "MOST_ROADS" (V.int 3)) = true from U.ckU c 10 12 rfl rfl)
  have cu_MOST_LONGS := (show (U.conU K "MOST_LONGS" (V.int 2)) = true from U.ckU c 10 13 rfl rfl)
  have z_abs := of_decide_eq_true (show (decide (PySem.W.nsIn K mainGlobals "abs" = some none)) = true from U.ckU c 10 14 rfl rfl)
  have z_all := of_decide_eq_true (show (decide (PySem.W.nsIn K mainGlobals "all" = some none)) = true from U.ckU c 10 15 rfl rfl)
  have z_bool := of_decide_eq_true (show (decide (PySem.W.nsIn K mainGlobals "bool" = some none)) = true from U.ckU c 10 16 rfl rfl)
  have z_dict := of_decide_eq_true (show (decide (PySem.W.nsIn K mainGlobals "dict" = some none)) = true from U.ckU c 10 17 rfl rfl)
  have z_enumerate := of_decide_eq_true (show (decide (PySem.W.nsIn K mainGlobals "enumerate" = some none)) = true from U.ckU c 10 18 rfl rfl)
  have z_int := of_decide_eq_true (show (decide (PySem.W.nsIn K mainGlobals "int" = some none)) = true from U.ckU c 10 19 rfl rfl)
  have z_isinstance := of_decide_eq_true (show (decide (PySem.W.nsIn K mainGlobals "isinstance" = some none)) = true from U.ckU c 11 0 rfl rfl)
  have z_len := of_decide_eq_true (show (decide (PySem.W.nsIn K mainGlobals "len" = some none)) = true from U.ckU c 11 1 rfl rfl)
  have z_list := of_decide_eq_true (show (decide (PySem.W.nsIn K mainGlobals "list" = some none)) = true from U.ckU c 11 2 rfl rfl)
  have z_max := of_decide_eq_true (show (decide (PySem.W.nsIn K mainGlobals "max" = some none)) = true from U.ckU c 11 3 rfl rfl)
  have z_min := of_decide_eq_true (show (decide (PySem.W.nsIn K mainGlobals "min" = some none)) = true from U.ckU c 11 4 rfl rfl)
  have z_range := of_decide_eq_true (show (decide (PySem.W.nsIn K mainGlobals "range" = some none)) = true from U.ckU c 11 5 rfl rfl)
  have z_repr := of_decide_eq_true (show (decide (PySem.W.nsIn K mainGlobals "repr" = some none)) = true from U.ckU c 11 6 rfl rfl)
  have z_reversed := of_decide_eq_true (show (decide (PySem.W.nsIn K mainGlobals "reversed" = some none)) = true from U.ckU c 11 7 rfl rfl)
  have z_str := of_decide_eq_true (show (decide (PySem.W.nsIn K mainGlobals "str" = some none)) = true from U.ckU c 11 8 rfl rfl)
  have z_tuple := of_decide_eq_true (show (decide (PySem.W.nsIn K mainGlobals "tuple" = some none)) = true from U.ckU c 11 9 rfl rfl)
  have z_zip := of_decide_eq_true (show (decide (PySem.W.nsIn K mainGlobals "zip" = some none)) = true from U.ckU c 11 10 rfl rfl)
  obtain ⟨_, _, _, _, _, _, _, _, _, l1, c1, k1⟩ := U.def0 (U.defU c 0 (d := d1) rfl)
  obtain ⟨_, _, _, _, _, _, _, _, _, l2, c2, k2⟩ := U.def0 (U.defU c 1 (d := d2) rfl)
  obtain ⟨_, _, _, _, _, _, _, _, _, l3, c3, k3⟩ := U.def0 (U.defU c 2 (d := d3) rfl)
  obtain ⟨_, _, _, _, _, _, _, _, _, l4, c4, k4⟩ := U.def0 (U.defU c 3 (d := d4) rfl)
  obtain ⟨_, _, _, _, _, _, _, _, _, l5, c5, k5⟩ := U.def0 (U.defU c 4 (d := d5) rfl)
  obtain ⟨_, _, _, _, _, _, _, _, _, l6, c6, k6⟩ := U.def0 (U.defU c 5 (d := d6) rfl)
  obtain ⟨_, _, _, _, _, _, _, _, _, l7, c7, k7⟩ := U.def0 (U.defU c 6 (d := d7) rfl)
  obtain ⟨_, _, _, _, _, _, _, _, _, l8, c8, k8⟩ := U.def0 (U.defU c 7 (d := d8) rfl)
  obtain ⟨_, _, _, _, _, _, _, _, _, l9, c9, k9⟩ := U.def0 (U.defU c 8 (d := d9) rfl)
  obtain ⟨_, _, _, _, _, _, _, _, _, l10, c10, k10⟩ := U.def0 (U.defU c 9 (d := d10) rfl)
  obtain ⟨_, _, _, _, _, _, _, _, _, l11, c11, k11⟩ := U.def0 (U.defU c 10 (d := d11) rfl)
  obtain ⟨_, _, _, _, _, _, _, _, _, l12, c12, k12⟩ := U.def0 (U.defU c 11 (d := d12) rfl)
  obtain ⟨_, _, _, _, _, _, _, _, _, l13, c13, k13⟩ := U.def0 (U.defU c 12 (d := d13) rfl)
  obtain ⟨_, _, _, _, _, _, _, _, _, l14, c14, k14⟩ := U.def0 (U.defU c 13 (d := d14) rfl)
  obtain ⟨_, _, _, _, _, _, _, _, _, l15, c15, k15⟩ := U.def0 (U.defU c 14 (d := d15) rfl)
  obtain ⟨_, _, _, _, _, _, _, _, _, l16, c16, k16⟩ := U.def0 (U.defU c 15 (d := d16) rfl)
  obtain ⟨_, _, _, _, _, _, _, _, _, l17, c17, k17⟩ := U.def0 (U.defU c 16 (d := d17) rfl)
  obtain ⟨_, _, _, _, _, _, _, _, _, _, _, _, l18, c18, k18, lT18, dT18⟩ := U.defN (U.defU c 17 (d := d18) rfl)
  obtain ⟨_, _, _, _, _, _, _, _, _, l19, c19, k19⟩ := U.def0 (U.defU c 18 (d := d19) rfl)
  obtain ⟨_, _, _, _, _, _, _, _, _, l20, c20, k20⟩ := U.def0 (U.defU c 19 (d := d20) rfl)
  obtain ⟨_, _, _, _, _, _, _, _, _, l21, c21, k21⟩ := U.def0 (U.defU c 20 (d := d21) rfl)
  obtain ⟨_, _, _, _, _, _, _, _, _, l22, c22, k22⟩ := U.def0 (U.defU c 21 (d := d22) rfl)
  obtain ⟨_, _, _, _, _, _, _, _, _, l23, c23, k23⟩ := U.def0 (U.defU c 22 (d := d23) rfl)
  obtain ⟨_, _, _, _, _, _, _, _, _, l24, c24, k24⟩ := U.def0 (U.defU c 23 (d := d24) rfl)
  obtain ⟨_, _, _, _, _, _, _, _, _, l25, c25, k25⟩ := U.def0 (U.defU c 24 (d := d25) rfl)
  obtain ⟨_, _, _, _, _, _, _, _, _, l26, c26, k26⟩ := U.def0 (U.defU c 25 (d := d26) rfl)
  obtain ⟨_, _, _, _, _, _, _, _, _, l27, c27, k27⟩ := U.def0 (U.defU c 26 (d := d27) rfl)
  obtain ⟨_, _, _, _, _, _, _, _, _, l28, c28, k28⟩ := U.def0 (U.defU c 27 (d := d28) rfl)
  obtain ⟨_, _, _, _, _, _, _, _, _, l29, c29, k29⟩ := U.def0 (U.defU c 28 (d := d29) rfl)
  obtain ⟨_, _, _, _, _, _, _, _, _, l30, c30, k30⟩ := U.def0 (U.defU c 29 (d := d30) rfl)
  obtain ⟨_, _, _, _, _, _, _, _, _, l31, c31, k31⟩ := U.def0 (U.defU c 30 (d := d31) rfl)
  obtain ⟨_, _, _, _, _, _, _, _, _, l32, c32, k32⟩ := U.def0 (U.defU c 31 (d := d32) rfl)
  obtain ⟨_, _, _, _, _, _, _, _, _, l33, c33, k33⟩ := U.def0 (U.defU c 32 (d := d33) rfl)
  obtain ⟨_, _, _, _, _, _, _, _, _, l34, c34, k34⟩ := U.def0 (U.defU c 33 (d := d34) rfl)
  obtain ⟨_, _, _, _, _, _, _, _, _, l35, c35, k35⟩ := U.def0 (U.defU c 34 (d := d35) rfl)
  obtain ⟨_, _, _, _, _, _, _, _, _, l36, c36, k36⟩ := U.def0 (U.defU c 35 (d := d36) rfl)
  obtain ⟨_, _, _, _, _, _, _, _, _, l37, c37, k37⟩ := U.def0 (U.defU c 36 (d := d37) rfl)
  obtain ⟨_, _, _, _, _, _, _, _, _, l38, c38, k38⟩ := U.def0 (U.defU c 37 (d := d38) rfl)
  obtain ⟨_, _, _, _, _, _, _, _, _, l39, c39, k39⟩ := U.def0 (U.defU c 38 (d := d39) rfl)
  obtain ⟨_, _, _, _, _, _, _, _, _, l40, c40, k40⟩ := U.def0 (U.defU c 39 (d := d40) rfl)
  obtain ⟨_, _, _, _, _, _, _, _, _, l41, c41, k41⟩ := U.def0 (U.defU c 40 (d := d41) rfl)
  obtain ⟨_, _, _, _, _, _, _, _, _, l42, c42, k42⟩ := U.def0 (U.defU c 41 (d := d42) rfl)
  obtain ⟨_, _, _, _, _, _, _, _, _, l43, c43, k43⟩ := U.def0 (U.defU c 42 (d := d43) rfl)
  obtain ⟨_, _, _, _, _, _, _, _, _, l44, c44, k44⟩ := U.def0 (U.defU c 43 (d := d44) rfl)
  obtain ⟨_, _, _, _, _, _, _, _, _, l45, c45, k45⟩ := U.def0 (U.defU c 44 (d := d45) rfl)
  obtain ⟨_, _, _, _, _, _, _, _, _, l46, c46, k46⟩ := U.def0 (U.defU c 45 (d := d46) rfl)
  obtain ⟨_, _, _, _, _, _, _, _, _, l47, c47, k47⟩ := U.def0 (U.defU c 46 (d := d47) rfl)
  obtain ⟨_, _, _, _, _, _, _, _, _, l48, c48, k48⟩ := U.def0 (U.defU c 47 (d := d48) rfl)
  obtain ⟨_, _, _, _, _, _, _, _, _, l49, c49, k49⟩ := U.def0 (U.defU c 48 (d := d49) rfl)
  obtain ⟨_, _, _, _, _, _, _, _, _, l50, c50, k50⟩ := U.def0 (U.defU c 49 (d := d50) rfl)
  obtain ⟨_, _, _, _, _, _, _, _, _, l51, c51, k51⟩ := U.def0 (U.defU c 50 (d := d51) rfl)
  obtain ⟨_, _, _, _, _, _, _, _, _, l52, c52, k52⟩ := U.def0 (U.defU c 51 (d := d52) rfl)
  obtain ⟨_, _, _, _, _, _, _, _, _, _, _, _, _, _, _, xL_NoName, ve_NoName⟩ := U.excU_ok xu_NoName
  obtain ⟨_, _, _, _, _, _, _, _, _, _, _, _, _, _, _, xL_NoPlace, ve_NoPlace⟩ := U.excU_ok xu_NoPlace
  obtain ⟨_, _, _, _, _, _, _, _, _, _, _, _, _, _, _, xL_NoStretch, ve_NoStretch⟩ := U.excU_ok xu_NoStretch
  obtain ⟨_, _, _, _, _, _, _, _, _, _, _, _, _, _, _, xL_NoLong, ve_NoLong⟩ := U.excU_ok xu_NoLong
  obtain ⟨_, _, _, _, _, _, _, _, _, _, _, _, _, _, _, xL_NoPlaces, ve_NoPlaces⟩ := U.excU_ok xu_NoPlaces
  obtain ⟨_, _, _, _, _, _, _, _, _, _, _, _, _, _, _, xL_NoStretches, ve_NoStretches⟩ := U.excU_ok xu_NoStretches
  obtain ⟨_, _, _, _, _, _, _, _, _, _, _, _, _, _, _, xL_NoLongs, ve_NoLongs⟩ := U.excU_ok xu_NoLongs
  obtain ⟨_, _, _, _, _, _, _, _, _, _, _, _, _, _, _, xL_NoNumber, ve_NoNumber⟩ := U.excU_ok xu_NoNumber
  obtain ⟨_, _, _, _, _, _, _, _, _, _, _, _, _, _, _, xL_Twice, ve_Twice⟩ := U.excU_ok xu_Twice
  obtain ⟨_, g_LONGEST, r_LONGEST⟩ := U.conU_ok cu_LONGEST
  obtain ⟨_, g_LETTERS, r_LETTERS⟩ := U.conU_ok cu_LETTERS
  obtain ⟨_, g_FEWEST_PLACES, r_FEWEST_PLACES⟩ := U.conU_ok cu_FEWEST_PLACES
  obtain ⟨_, g_MOST_PLACES, r_MOST_PLACES⟩ := U.conU_ok cu_MOST_PLACES
  obtain ⟨_, g_MOST_ROADS, r_MOST_ROADS⟩ := U.conU_ok cu_MOST_ROADS
  obtain ⟨_, g_MOST_LONGS, r_MOST_LONGS⟩ := U.conU_ok cu_MOST_LONGS
  exact all_mk X G hfa n_Line n_NoName n_NoPlace n_NoStretch n_NoLong n_NoPlaces n_NoStretches n_NoLongs n_NoNumber n_Twice n_StaffError a1 l1 c1 k1 a2 l2 c2 k2 a3 l3 c3 k3 a4 l4 c4 k4 a5 l5 c5 k5 a6 l6 c6 k6 a7 l7 c7 k7 a8 l8 c8 k8 a9 l9 c9 k9 a10 l10 c10 k10 a11 l11 c11 k11 a12 l12 c12 k12 a13 l13 c13 k13 a14 l14 c14 k14 a15 l15 c15 k15 a16 l16 c16 k16 a17 l17 c17 k17 a18 l18 c18 k18 lT18 dT18 a19 l19 c19 k19 a20 l20 c20 k20 a21 l21 c21 k21 a22 l22 c22 k22 a23 l23 c23 k23 a24 l24 c24 k24 a25 l25 c25 k25 a26 l26 c26 k26 a27 l27 c27 k27 a28 l28 c28 k28 a29 l29 c29 k29 a30 l30 c30 k30 a31 l31 c31 k31 a32 l32 c32 k32 a33 l33 c33 k33 a34 l34 c34 k34 a35 l35 c35 k35 a36 l36 c36 k36 a37 l37 c37 k37 a38 l38 c38 k38 a39 l39 c39 k39 a40 l40 c40 k40 a41 l41 c41 k41 a42 l42 c42 k42 a43 l43 c43 k43 a44 l44 c44 k44 a45 l45 c45 k45 a46 l46 c46 k46 a47 l47 c47 k47 a48 l48 c48 k48 a49 l49 c49 k49 a50 l50 c50 k50 a51 l51 c51 k51 a52 l52 c52 k52 pg_Line hd_Line po_Line sa_Line mk_Line kc_Line if_Line na_Line_kept_places na_Line_kept_stretches na_Line_kept_longs fn_Line_names fn_Line_number_of fn_Line_roads fn_Line_many_stretches fn_Line_need_stretch fn_Line_ends fn_Line_kind fn_Line_home fn_Line_between fn_Line_many_longs fn_Line_need_long fn_Line_long_ends fn_Line_long_stretches fn_Line_long_home fn_Line_long_between fn_Line_long_of fn_Line_told fn_Line_mirrored fn_Line_renamed xL_NoName ve_NoName sa_NoName ga_NoName gg_NoName no_NoName ex_NoName ty_NoName kC_NoName hd_NoName ha_NoName hm_NoName ti_NoName xL_NoPlace ve_NoPlace sa_NoPlace ga_NoPlace gg_NoPlace no_NoPlace ex_NoPlace ty_NoPlace kC_NoPlace hd_NoPlace ha_NoPlace hm_NoPlace ti_NoPlace xL_NoStretch ve_NoStretch sa_NoStretch ga_NoStretch gg_NoStretch no_NoStretch ex_NoStretch ty_NoStretch kC_NoStretch hd_NoStretch ha_NoStretch hm_NoStretch ti_NoStretch xL_NoLong ve_NoLong sa_NoLong ga_NoLong gg_NoLong no_NoLong ex_NoLong ty_NoLong kC_NoLong hd_NoLong ha_NoLong hm_NoLong ti_NoLong xL_NoPlaces ve_NoPlaces sa_NoPlaces ga_NoPlaces gg_NoPlaces no_NoPlaces ex_NoPlaces ty_NoPlaces kC_NoPlaces hd_NoPlaces ha_NoPlaces hm_NoPlaces ti_NoPlaces xL_NoStretches ve_NoStretches sa_NoStretches ga_NoStretches gg_NoStretches no_NoStretches ex_NoStretches ty_NoStretches kC_NoStretches hd_NoStretches ha_NoStretches hm_NoStretches ti_NoStretches xL_NoLongs ve_NoLongs sa_NoLongs ga_NoLongs gg_NoLongs no_NoLongs ex_NoLongs ty_NoLongs kC_NoLongs hd_NoLongs ha_NoLongs hm_NoLongs ti_NoLongs xL_NoNumber ve_NoNumber sa_NoNumber ga_NoNumber gg_NoNumber no_NoNumber ex_NoNumber ty_NoNumber kC_NoNumber hd_NoNumber ha_NoNumber hm_NoNumber ti_NoNumber xL_Twice ve_Twice sa_Twice ga_Twice gg_Twice no_Twice ex_Twice ty_Twice kC_Twice hd_Twice ha_Twice hm_Twice ti_Twice rd_StaffError rg_StaffError (U.isVal_ok vi_StaffError) oc_get oc_take ex_NoName_NoName ex_Twice_NoName ex_Twice_Twice g_LONGEST r_LONGEST g_LETTERS r_LETTERS g_FEWEST_PLACES r_FEWEST_PLACES g_MOST_PLACES r_MOST_PLACES g_MOST_ROADS r_MOST_ROADS g_MOST_LONGS r_MOST_LONGS z_abs z_all z_bool z_dict z_enumerate z_int z_isinstance z_len z_list z_max z_min z_range z_repr z_reversed z_str z_tuple z_zip
theorem walk {q : Program} {lo : List Str} {XP : (Str → Option Value) → Heap → Prop} {d : DefRec} (hdf : d.params.defaults = []) (hdn : d.name = ("law" : Str)) (hi : PyProof.Rows.importsNone q = true) :
    PySem.W.WalkO q lo XP hk.says PySem.Challenge.rw_onestaff_k06_other_lines.row.toRowW d [] (fun f vs => PySem.call f vs) :=
  U.walkGE (l := PySem.Challenge.rw_onestaff_k06_other_lines) (n := 63) (k := 9) (x := "_law_script") (cx := fun w => L2.CX PySem.Challenge.rw_onestaff_k06_other_lines.prog w) (sp := fun w K => sp_law K) rfl (by decide) hdf ⟨rfl, by decide, by decide⟩ hi (fun w mg fa h Y G hmg => by
    obtain ⟨K, KX, c⟩ := Y
    rw [hdn] at hmg
    obtain ⟨fd, hb, hF⟩ := facts (l := PySem.Challenge.rw_onestaff_k06_other_lines) (w := w) KX G hmg c
    exact ⟨K, fd, KX, hb, hF⟩) (fun _ _ _ a ns hl _ hS => ⟨_, rfl, a, ns, rfl, hS, hl, fun _ => rfl⟩) fun _ _ _ _ _ z => by obtain ⟨_, _, _, _, _, _, _, _, _, _, _, _, y⟩ := z; exact y
end K06
open PySem PySem.W PySem.Calls PyProof.Rows
set_option maxRecDepth 100000 in
set_option maxHeartbeats 0 in
theorem PySem.Challenge.cw_onestaff_k06_other_lines_holds : PySem.Challenge.rw_onestaff_k06_other_lines.Holds := by
  w_on; o_law
  refine HandSHeadRun.head_any (r := OpenLaw.row PySem.Challenge.rw_onestaff_k06_other_lines) (q := view (OpenLaw.row PySem.Challenge.rw_onestaff_k06_other_lines).prog [43]) (H := K06.hk) (ob := K06.hob) (M := 20000) (loose := K06.hnames) (d := HandSHeadRun.topDef (OpenLaw.row PySem.Challenge.rw_onestaff_k06_other_lines).prog 43) (kwd := []) K06.hob_eq
    (by kernel_rfl) (fun s => by kernel_rfl) K06.hrun (by kernel_rfl) (by kernel_rfl) (by kernel_rfl) (by rfl) (by first | assumption | decide +kernel) (by decide +kernel) ⟨rfl, rfl, rfl, rfl, rfl, by decide +kernel⟩ ?hw ?hc
  case hw => w_witness2
  case hc => exact K06.walk (by kernel_rfl) (by kernel_rfl) (by kernel_rfl)
#print axioms PySem.Challenge.cw_onestaff_k06_other_lines_holds

