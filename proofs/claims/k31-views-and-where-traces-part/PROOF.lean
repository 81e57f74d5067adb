import PyProof.Rows.All
import Wide.All
import OpenK.AllK
import Wide.FinOn
import HandS.ForMost
import HandS.Wide
import HandS.WideMore
import HandS.IsInst
import HandS.Defaults
import HandS.Flow
import HandS.TupAny
import HandS.Conv
import HandS.Exc
import HandS.Head0
import HandS.Head1
import HandS.Head2
import HandS.HeadEnd
import HandS.HeadHook1
import HandS.HeadHook2
import HandS.HeadHook3
import PySem.Challenge.RW_sameclock_k31_views_and_where_traces_par
set_option Elab.async false
set_option linter.all false
set_option maxRecDepth 100000
set_option maxHeartbeats 4000000
/-! Own base: a heap told by a list of its objects, frames of calls, joins of ways, whiles by a measure, calls by one structure. -/
namespace G
open PySem PySem.Spec PyProof.Rows L2

/-- the objects one speaks of, each once -/
structure Has (H : Hp) (L : List (Addr × HO)) : Prop where
  nd : (L.map (·.1)).Nodup
  is_ : ∀ p ∈ L, H p.1 = some p.2

section
variable {H H' : Hp} {L : List (Addr × HO)} {a p : Addr} {o o' : HO}
theorem Has.nil : Has H [] := ⟨List.nodup_nil, fun _ h => nomatch h⟩
theorem Has.get (M : Has H L) (i : Nat) (h : L[i]? = some (a, o)) : H a = some o := M.is_ _ (List.mem_of_getElem? h)
theorem Has.one (h : H a = some o) : Has H [(a, o)] := ⟨by simp, fun p hp => by
  rw [List.mem_singleton.mp hp]
  exact h⟩
theorem keep_new (h : H a = some o) (hp : H p = none) : upd H p o' a = some o := by
  rw [upd_ne (ne_of_none h hp)]
  exact h
theorem Has.fresh (M : Has H L) (hp : H p = none) : p ∉ L.map (·.1) := fun h => by
  obtain ⟨q, hq, e⟩ := List.mem_map.mp h
  have := M.is_ q hq
  rw [e, hp] at this
  cases this
theorem Has.new (M : Has H L) (hp : H p = none) : Has (upd H p o) (L ++ [(p, o)]) where
  nd := by
    rw [List.map_append, List.nodup_append]
    refine ⟨M.nd, by simp, fun x hx y hy e => ?_⟩
    simp only [List.map_cons, List.map_nil, List.mem_singleton] at hy
    subst hy
    subst e
    exact M.fresh hp hx
  is_ := fun q hq => by
    rcases List.mem_append.mp hq with h | h
    · exact keep_new (M.is_ q h) hp
    · rw [List.mem_singleton.mp h]
      exact upd_same
theorem nodup_fst {L : List (Addr × HO)} (nd : (L.map (·.1)).Nodup) {i j : Nat} {a : Addr} {x y : HO} (hi : L[i]? = some (a, x)) (hj : L[j]? = some (a, y)) : i = j := by
  have h1 : (L.map (·.1))[i]? = some a := by rw [List.getElem?_map, hi]; rfl
  have h2 : (L.map (·.1))[j]? = some a := by rw [List.getElem?_map, hj]; rfl
  exact nd_ix nd h1 h2
theorem map_fst_set : ∀ {L : List (Addr × HO)} {i : Nat} {o o' : HO} {a : Addr}, L[i]? = some (a, o) → (L.set i (a, o')).map (·.1) = L.map (·.1)
  | [], _, _, _, _, h => by simp at h
  | p :: L, 0, _, _, _, h => by
    simp only [List.getElem?_cons_zero, Option.some.injEq] at h
    subst h
    rfl
  | p :: L, i + 1, o, o', a, h => by
    simp only [List.getElem?_cons_succ] at h
    simp only [List.set_cons_succ, List.map_cons, List.cons.injEq, true_and]
    exact map_fst_set h
/-- the object at place i is another one in H', the others stand -/
theorem Has.put (M : Has H L) (i : Nat) (h : L[i]? = some (a, o)) (k : ∀ b u, H b = some u → b ≠ a → H' b = some u) (e : H' a = some o') : Has H' (L.set i (a, o')) where
  nd := by
    rw [map_fst_set h]
    exact M.nd
  is_ := fun q hq => by
    obtain ⟨j, hj, e2⟩ := List.mem_iff_getElem.mp hq
    have hj' : (L.set i (a, o'))[j]? = some q := by rw [List.getElem?_eq_getElem hj, e2]
    rw [List.getElem?_set] at hj'
    split at hj'
    · split at hj'
      · cases hj'
        exact e
      · cases hj'
    · rename_i hij
      have hm := M.is_ q (List.mem_of_getElem? hj')
      refine k _ _ hm fun ea => hij ?_
      obtain ⟨b, u⟩ := q
      subst ea
      exact nodup_fst M.nd h hj'
theorem Has.set (M : Has H L) (i : Nat) (h : L[i]? = some (a, o)) : Has (upd H a o') (L.set i (a, o')) :=
  M.put i h (fun b u e n => by rw [upd_ne n]; exact e) upd_same
theorem Has.keep (M : Has H L) (k : Same H H') : Has H' L := ⟨M.nd, fun p hp => k _ _ (M.is_ p hp)⟩
theorem Has.sub (M : Has H L) {L' : List (Addr × HO)} (h : L'.Sublist L) : Has H L' := ⟨M.nd.sublist (h.map _), fun p hp => M.is_ p (h.subset hp)⟩
theorem Has.perm (M : Has H L) {L' : List (Addr × HO)} (h : L.Perm L') : Has H L' := ⟨(h.map _).nodup_iff.mp M.nd, fun p hp => M.is_ p (h.mem_iff.mpr hp)⟩
theorem Has.ne (M : Has H L) {b : Addr} {u : HO} (i j : Nat) (hi : L[i]? = some (a, o)) (hj : L[j]? = some (b, u)) (hij : i ≠ j) : a ≠ b := fun e => by
  subst e
  exact hij (nodup_fst M.nd hi hj)
end

/-- all that was tracked stands, but what stands at ms -/
def Keep (ms : List Addr) (H H' : Hp) : Prop := ∀ b o, H b = some o → b ∉ ms → H' b = some o
section
variable {ms : List Addr} {H H1 H2 : Hp} {L : List (Addr × HO)} {a p : Addr} {o o' : HO}
theorem Keep.refl : Keep ms H H := fun _ _ h _ => h
theorem Keep.trans (x : Keep ms H H1) (y : Keep ms H1 H2) : Keep ms H H2 := fun b o h n => y b o (x b o h n) n
theorem Keep.of (x : Same H H1) : Keep ms H H1 := fun b o h _ => x b o h
theorem Keep.same (x : Keep [] H H1) : Same H H1 := fun b o h => x b o h (nomatch ·)
theorem Keep.mono {ns : List Addr} (x : Keep ms H H1) (h : ∀ b ∈ ms, b ∈ ns) : Keep ns H H1 := fun b o e n => x b o e fun z => n (h b z)
theorem Same.new (hp : H p = none) : Same H (upd H p o) := fun b u h => keep_new h hp
theorem Keep.new (hp : H p = none) : Keep ms H (upd H p o) := .of (Same.new hp)
theorem Keep.set (h : a ∈ ms) : Keep ms H (upd H a o) := fun b u e n => by
  rw [upd_ne fun z => n (by rw [z]; exact h)]
  exact e
/-- an object that H does not know is changed -/
theorem Keep.mut (x : Keep ms H H1) (h : H a = none) : Keep ms H (upd H1 a o) := fun b u e n => by
  rw [upd_ne (ne_of_none e h)]
  exact x b u e n
theorem Has.call1 (M : Has H L) (k : Keep [a] H H1) (i : Nat) (h : L[i]? = some (a, o)) (e : H1 a = some o') : Has H1 (L.set i (a, o')) :=
  M.put i h (fun b u q n => k b u q (by simpa using n)) e
theorem Same.back (k : Same H H1) (h : H1 p = none) : H p = none := k.free h
theorem Keep.back (k : Keep ms H H1) (h : H1 p = none) (hm : p ∉ ms) : H p = none := by
  cases e : H p with
  | none => rfl
  | some o =>
    rw [k p o e hm] at h
    cases h
end

/-! ### joins, whiles -/
section
variable {X : Cx} {st : Stmt} {sts : List Stmt} {t : TS}
/-- behind a statement N holds, from which one goes on -/
def tJoin (t : TS) : TS := fun D σ H => ∃ N : L2.St → Hp → Prop, t { D with nx := N } σ H ∧ ∀ σ' H', N σ' H' → D.nx σ' H'
theorem SP.nx {pins : List (Addr × Obj)} {D : Ends} {N : L2.St → Hp → Prop} (h : ∀ σ' H', N σ' H' → D.nx σ' H') {f : PySem.Flow} {s' : Shared} (z : SP X pins { D with nx := N } f s') : SP X pins D f s' := by
  cases f with
  | next =>
    obtain ⟨σ', H', I, q⟩ := z
    exact ⟨σ', H', I, h _ _ q⟩
  | brk => exact z
  | cont => exact z
  | ret u => exact z
theorem ps_join (h : PS X st t) : PS X st (tJoin t) := ⟨fun pins s σ H D I ⟨N, h1, h2⟩ => thn (h.run pins s σ H _ I h1) fun _ _ z => SP.nx h2 z⟩
theorem pss_join (h : PSs X sts t) : PSs X sts (tJoin t) := ⟨fun pins s σ H D I ⟨N, h1, h2⟩ => thn (h.run pins s σ H _ I h1) fun _ _ z => SP.nx h2 z⟩
end

/-! ### the text's facts, defs by name -/
structure Txt (fa : List He.Fa) (fn : List He.DefD) (K : PySem.W.Frag) (mg : Str → Option Value) : Prop where
  c : He.SaysD fa fn K
  h : ∃ h : Heap, K.In h ∧ h.Ns mainGlobals mg
/-- a def that calls may name -/
structure Dn (P : Program) (w : World) (K : PySem.W.Frag) (mg : Str → Option Value) (base : Heap) (CX : CXT) (k : Nat) (x : Str) (ps : List Str) (sp : Sp) : Prop where
  ex : ∃ (f : Addr) (fd : FuncData), FnOk P w K mg base CX k f fd ps sp ∧ mg x = some (.ref f) ∧ PySem.W.keepIn K (.ref f) = true ∧ Binds K fd ps [] ∧ ∃ oc od osl, K.lookup f = some ⟨oc, od, .func fd, osl⟩
section
variable {fa : List He.Fa} {fn : List He.DefD} {P : Program} {w : World} {K : PySem.W.Frag} {mg : Str → Option Value} {base : Heap}
theorem Txt.glo (T : Txt fa fn K mg) (j : Nat) {x : Str} (h : fa[j]? = some (.glo x)) : mg x = some (.ref (He.ga K x)) := by
  obtain ⟨_, X, G⟩ := T.h
  exact He.glo_ok X G (T.c.fact j h)
theorem Txt.free (T : Txt fa fn K mg) (j : Nat) {x : Str} (h : fa[j]? = some (.free x)) : mg x = none := by
  obtain ⟨_, X, G⟩ := T.h
  exact He.free_ok X G (T.c.fact j h)
theorem Txt.int (T : Txt fa fn K mg) (j : Nat) {x : Str} {i : Int} (h : fa[j]? = some (.int x i)) : ∃ t, mg x = some (.int i t) := by
  obtain ⟨_, X, G⟩ := T.h
  exact He.int_ok X G (T.c.fact j h)
theorem Txt.def_ (T : Txt fa fn K mg) (i j : Nat) {d : He.DefD} (hd : fn[i]? = some d) (hg : fa[j]? = some (.glo d.at_.1)) (hm : d.at_.2 = none) (h1 : d.dfl = []) (h2 : d.kwd = []) :
    (∃ fd, FunD K d.name d.qual d.params d.body d.scope [] [] (He.ga K d.at_.1) fd) ∧ mg d.at_.1 = some (.ref (He.ga K d.at_.1)) := by
  refine ⟨?_, T.glo j hg⟩
  obtain ⟨fd, F⟩ := T.c.def_ i hd
  have e : He.fAd K d.at_ = He.ga K d.at_.1 := by
    unfold He.fAd
    rw [hm]
  have e1 : d.dvs K = [] := by
    unfold He.DefD.dvs
    rw [h1]
    rfl
  have e2 : d.kws K = [] := by
    unfold He.DefD.kws
    rw [h2]
    rfl
  rw [e, e1, e2] at F
  exact ⟨fd, F⟩
/-- a def without defaults that lets nothing out -/
theorem mk_dn (T : Txt fa fn K mg) (i j : Nat) {d : He.DefD} {N ps : List Str} {k : Nat} {sp : Sp} (hd : fn[i]? = some d) (hg : fa[j]? = some (.glo d.at_.1)) (hm : d.at_.2 = none) (h1 : d.dfl = []) (h2 : d.kwd = [])
    (S : FnScope N ps d.scope) (len : ∀ vs H Q E, sp vs H Q E → vs.length = ps.length)
    (hb : ∀ (kV doc pm : Value) (an : Option Addr) (cdv ct : Value) (us : List Value), us.length = ps.length → bindArgs (PySem.W.fnOf d.name d.qual d.params d.body d.scope .none kV doc pm an cdv ct) ⟨us, []⟩ = pure (ps.zip us))
    (hbody : ∀ (cdv : Value) (A : Around) (outer : List Env) (s : Shared) (H : Hp) (vs : List V) (Q : VK) (E : XK), Room k (A.deeper (envOfC d.qual d.scope s.heap.objs.size (He.ga K d.at_.1) cdv)) → sp vs H Q E →
      ∃ t, PSs (cxOf CX0 P w K mg base N d.qual d.scope (He.ga K d.at_.1) cdv A outer s H E).nox d.body t ∧ t { nx := fun _ H' => Q .non H', rt := Q } (start N vs) H) : Dn P w K mg base CX0 (k + 1) d.at_.1 ps sp := by
  obtain ⟨⟨fd, F⟩, g⟩ := T.def_ i j hd hg hm h1 h2
  refine ⟨_, fd, F.ok S len fun cdv A outer s H vs Q E hr h => ?_, g, F.kp, F.bindsN hb, by
    obtain ⟨oc, od, dV, kV, doc, pm, an, cdv, ct, osl, e, lk, _⟩ := F.ex
    exact ⟨_, _, _, lk⟩⟩
  obtain ⟨t, p, q⟩ := hbody cdv A outer s H vs Q E hr h
  exact ⟨t, p.nox, q⟩
theorem Dn.imp {CX : CXT} {k : Nat} {x : Str} {ps : List Str} {sp sp' : Sp} (D : Dn P w K mg base CX k x ps sp) (h : ∀ vs H Q E, sp' vs H Q E → sp vs H Q E) : Dn P w K mg base CX k x ps sp' := by
  obtain ⟨f, fd, F, a, b, c⟩ := D.ex
  exact ⟨f, fd, F.imp h, a, b, c⟩
theorem Dn.mono {CX : CXT} {j k : Nat} {x : Str} {ps : List Str} {sp : Sp} (D : Dn P w K mg base CX j x ps sp) (h : j ≤ k) : Dn P w K mg base CX k x ps sp := by
  obtain ⟨f, fd, F, a, b, c⟩ := D.ex
  exact ⟨f, fd, F.mono h, a, b, c⟩
end
section
variable {X : Cx} {CX : CXT} {k : Nat} {ps : List Str} {sp : Sp} {E : XK} {x : Str} {p pos : Pos} {e : Expr} {es : List Expr} {t : TA}
theorem pe_callD {K : PySem.W.Frag} (hK : X.K = K) (D : Dn X.prog X.w K X.mg X.base CX k x ps sp) (hr : Room k X.A) (hg : Gl X x) (hx : Passes CX X E)
    (ha : PA X (e :: es) t) (hdb : (x == ("__debug__" : Str)) = false := by decide) (he : starEach (e :: es) X.env = (false, eval e X.env) :: starEach es X.env := by rfl) (hpl : (backTo pos (starEach es X.env)).any (·.1) = false := by rfl) :
    PE X (.Call (.Name x p) (e :: es) [] pos) (tCall sp [] E t) := by
  subst hK
  obtain ⟨f, fd, F, m, kp, b, _⟩ := D.ex
  exact pe_call F hr hg m kp b .nil hx ha hdb he hpl
theorem pe_callD0 {K : PySem.W.Frag} (hK : X.K = K) (D : Dn X.prog X.w K X.mg X.base CX k x ps sp) (hr : Room k X.A) (hg : Gl X x) (hx : Passes CX X E)
    (hdb : (x == ("__debug__" : Str)) = false := by decide) :
    PE X (.Call (.Name x p) [] [] pos) (tCall sp [] E tNil) := by
  subst hK
  obtain ⟨f, fd, F, m, kp, b, _⟩ := D.ex
  exact pe_call0 F hr hg m kp b .nil hx hdb
end

/-! ### the law's own end -/
theorem law_facts {fa : List He.Fa} {fn : List He.DefD} {P : Program} {w : World} {K : PySem.W.Frag} {h : Heap} {mg : Str → Option Value} {f : Addr} {d : He.DefD} {k : Nat} {sp : Sp} (X : K.In h) (G : h.Ns mainGlobals mg)
    (hfa : mg d.at_.1 = some (.ref f)) (c : He.SaysD fa fn K) (i j : Nat) (hd : fn[i]? = some d) (hg : fa[j]? = some (.glo d.at_.1)) (hm : d.at_.2 = none) (h1 : d.dfl = []) (h2 : d.kwd = [])
    (hb : ∀ (kV doc pm : Value) (an : Option Addr) (cdv ct : Value) (us : List Value), us.length = 1 → bindArgs (PySem.W.fnOf d.name d.qual d.params d.body d.scope .none kV doc pm an cdv ct) ⟨us, []⟩ = pure ((["script"] : List Str).zip us))
    (ok : ∀ base, Txt fa fn K mg → Dn P w K mg base CX0 k d.at_.1 ["script"] sp) :
    ∃ fd : FuncData, (∀ (s : Shared) (v : Value), BindsTo s fd ⟨[v], []⟩ [("script", v)]) ∧ ∀ base : Heap, K.In base → base.Ns mainGlobals mg → FnOk P w K mg base CX0 k f fd ["script"] sp := by
  have T : Txt fa fn K mg := ⟨c, h, X, G⟩
  obtain ⟨⟨fd, F⟩, g⟩ := T.def_ i j hd hg hm h1 h2
  rw [hfa] at g
  cases g
  have b := FunD.bindsA (ps := ["script"]) F hb
  refine ⟨fd, fun s v => b s [v] rfl, fun base _ _ => ?_⟩
  obtain ⟨f2, fd2, F2, m, _, _, oc, od, osl, lk⟩ := (ok base T).ex
  rw [hfa] at m
  cases m
  obtain ⟨oc', od', dV, kV, doc, pm, an, cdv, ct, osl', e, lk', _⟩ := F.ex
  rw [lk] at lk'
  cases lk'
  exact F2

/-! ### classes -/
section
variable {fa : List He.Fa} {fn : List He.DefD} {P : Program} {w : World} {K : PySem.W.Frag} {mg : Str → Option Value} {base : Heap}
theorem Txt.cls (T : Txt fa fn K mg) (j : Nat) {x : Str} (h : fa[j]? = some (.cls x)) : Cls K (He.ga K x) := He.cls_ok (T.c.fact j h)
theorem Txt.noat (T : Txt fa fn K mg) (j : Nat) {x f : Str} (h : fa[j]? = some (.noat x f)) : NoAttr K (He.ga K x) f := He.noat_ok (T.c.fact j h)
theorem Txt.meth (T : Txt fa fn K mg) (j : Nat) {x m : Str} (h : fa[j]? = some (.meth x m)) : Meth K (He.ga K x) m (He.ma K (He.ga K x) m) := He.meth_ok (T.c.fact j h)
theorem Txt.mkr (T : Txt fa fn K mg) (j : Nat) {x : Str} (h : fa[j]? = some (.mkr x)) : Mk K (He.ga K x) (He.ma K (He.ga K x) "__init__") := He.mkr_ok (T.c.fact j h)
/-- a method by its class's name -/
structure Mt (P : Program) (w : World) (K : PySem.W.Frag) (mg : Str → Option Value) (base : Heap) (CX : CXT) (k : Nat) (c m : Str) (ps : List Str) (sp : Sp) : Prop where
  ex : ∃ (f : Addr) (fd : FuncData), FnOk P w K mg base CX k f fd ps sp ∧ f = He.ma K (He.ga K c) m ∧ Binds K fd ps []
theorem Txt.defm (T : Txt fa fn K mg) (i : Nat) {d : He.DefD} {c m : Str} (hd : fn[i]? = some d) (hm : d.at_ = (c, some m)) (h1 : d.dfl = []) (h2 : d.kwd = []) :
    ∃ fd, FunD K d.name d.qual d.params d.body d.scope [] [] (He.ma K (He.ga K c) m) fd := by
  obtain ⟨fd, F⟩ := T.c.def_ i hd
  have e : He.fAd K d.at_ = He.ma K (He.ga K c) m := by
    unfold He.fAd
    rw [hm]
  have e1 : d.dvs K = [] := by
    unfold He.DefD.dvs
    rw [h1]
    rfl
  have e2 : d.kws K = [] := by
    unfold He.DefD.kws
    rw [h2]
    rfl
  rw [e, e1, e2] at F
  exact ⟨fd, F⟩
/-- a method without defaults that lets nothing out -/
theorem mk_mt (T : Txt fa fn K mg) (i : Nat) {d : He.DefD} {c m : Str} {N ps : List Str} {k : Nat} {sp : Sp} (hd : fn[i]? = some d) (hm : d.at_ = (c, some m)) (h1 : d.dfl = []) (h2 : d.kwd = [])
    (S : FnScope N ps d.scope) (len : ∀ vs H Q E, sp vs H Q E → vs.length = ps.length)
    (hb : ∀ (kV doc pm : Value) (an : Option Addr) (cdv ct : Value) (us : List Value), us.length = ps.length → bindArgs (PySem.W.fnOf d.name d.qual d.params d.body d.scope .none kV doc pm an cdv ct) ⟨us, []⟩ = pure (ps.zip us))
    (hbody : ∀ (cdv : Value) (A : Around) (outer : List Env) (s : Shared) (H : Hp) (vs : List V) (Q : VK) (E : XK), Room k (A.deeper (envOfC d.qual d.scope s.heap.objs.size (He.ma K (He.ga K c) m) cdv)) → sp vs H Q E →
      ∃ t, PSs (cxOf CX0 P w K mg base N d.qual d.scope (He.ma K (He.ga K c) m) cdv A outer s H E).nox d.body t ∧ t { nx := fun _ H' => Q .non H', rt := Q } (start N vs) H) : Mt P w K mg base CX0 (k + 1) c m ps sp := by
  obtain ⟨fd, F⟩ := T.defm i hd hm h1 h2
  refine ⟨_, fd, F.ok S len fun cdv A outer s H vs Q E hr h => ?_, rfl, F.bindsN hb⟩
  obtain ⟨t, p, q⟩ := hbody cdv A outer s H vs Q E hr h
  exact ⟨t, p.nox, q⟩
theorem Mt.mono {CX : CXT} {j k : Nat} {c m : Str} {ps : List Str} {sp : Sp} (D : Mt P w K mg base CX j c m ps sp) (h : j ≤ k) : Mt P w K mg base CX k c m ps sp := by
  obtain ⟨f, fd, F, a, b⟩ := D.ex
  exact ⟨f, fd, F.mono h, a, b⟩
end
section
variable {X : Cx} {CX : CXT} {k : Nat} {ps : List Str} {sp : Sp} {E : XK} {c m : Str} {p pos apos : Pos} {e o : Expr} {es : List Expr} {ta : TE} {t : TA}
theorem pe_methD {K : PySem.W.Frag} (hK : X.K = K) {pl : Sem Bool} (D : Mt X.prog X.w K X.mg X.base CX k c m ps sp) (cl : Cls K (He.ga K c)) (hm : Meth K (He.ga K c) m (He.ma K (He.ga K c) m)) (hr : Room k X.A) (hx : Passes CX X E) (he : PE X o ta) (ha : PA X (e :: es) t)
    (hst : starEach (e :: es) X.env = (false, eval e X.env) :: starEach es X.env := by rfl) (hpl : (backTo pos (starEach es X.env)).any (·.1) = false := by rfl)
    (ht : eval (.Call (.Attribute o m apos) (e :: es) [] pos) X.env = (do let ov ← eval o X.env; standAt apos.atName; let (f, first) ← holding [ov] (getMethod ov m pl); callWith pos f first (backTo pos (starEach (e :: es) X.env)) (backToKw pos (keywordEach [] X.env))) := by rfl) :
    PE X (.Call (.Attribute o m apos) (e :: es) [] pos) (tMeth (He.ga K c) m sp [] E ta t) := by
  subst hK
  obtain ⟨f, fd, F, rfl, b⟩ := D.ex
  exact pe_meth he cl hm F hr b .nil hx ha hst hpl ht
theorem pe_methD0 {K : PySem.W.Frag} (hK : X.K = K) {pl : Sem Bool} (D : Mt X.prog X.w K X.mg X.base CX k c m ps sp) (cl : Cls K (He.ga K c)) (hm : Meth K (He.ga K c) m (He.ma K (He.ga K c) m)) (hr : Room k X.A) (hx : Passes CX X E) (he : PE X o ta)
    (ht : eval (.Call (.Attribute o m apos) [] [] pos) X.env = (do let ov ← eval o X.env; standAt apos.atName; let (f, first) ← holding [ov] (getMethod ov m pl); callWith pos f first (backTo pos (starEach [] X.env)) (backToKw pos (keywordEach [] X.env))) := by rfl) :
    PE X (.Call (.Attribute o m apos) [] [] pos) (tMeth (He.ga K c) m sp [] E ta tNil) := by
  subst hK
  obtain ⟨f, fd, F, rfl, b⟩ := D.ex
  exact pe_meth0 he cl hm F hr b .nil hx ht
theorem pe_makeD {K : PySem.W.Frag} (hK : X.K = K) (D : Mt X.prog X.w K X.mg X.base CX k c "__init__" ps sp) (M : Mk K (He.ga K c) (He.ma K (He.ga K c) "__init__")) (hr : Room (k + 1) X.A) (hg : Gl X c) (hm : X.mg c = some (.ref (He.ga K c))) (hx : Passes CX X E)
    (ha : PA X (e :: es) t) (hdb : (c == ("__debug__" : Str)) = false := by decide) (he : starEach (e :: es) X.env = (false, eval e X.env) :: starEach es X.env := by rfl) (hpl : (backTo pos (starEach es X.env)).any (·.1) = false := by rfl) :
    PE X (.Call (.Name c p) (e :: es) [] pos) (tMake (He.ga K c) sp [] E t) := by
  subst hK
  obtain ⟨f, fd, F, rfl, b⟩ := D.ex
  exact pe_make M F hr hg hm b .nil hx ha hdb he hpl
end
/-! ### fields by their places -/
section
variable {fs : List (Str × V)} {f : Str} {v y : V}
theorem lk_ix : ∀ {fs : List (Str × V)} (n : Nat), (fs.map (·.1)).Nodup → fs[n]? = some (f, v) → fs.lookup f = some v
  | [], _, _, h => by simp at h
  | p :: fs, 0, _, h => by
    simp only [List.getElem?_cons_zero, Option.some.injEq] at h
    subst h
    simp [List.lookup]
  | p :: fs, n + 1, nd, h => by
    simp only [List.getElem?_cons_succ] at h
    obtain ⟨g, x⟩ := p
    rw [List.map_cons, List.nodup_cons] at nd
    have hm : f ∈ fs.map (·.1) := List.mem_map.mpr ⟨(f, v), List.mem_of_getElem? h, rfl⟩
    have ne : (f == g) = false := beq_eq_false_iff_ne.mpr fun e => nd.1 (e ▸ hm)
    simp only [List.lookup, ne]
    exact lk_ix n nd.2 h
theorem lk_none : ∀ {fs : List (Str × V)}, f ∉ fs.map (·.1) → fs.lookup f = none
  | [], _ => rfl
  | (g, x) :: fs, h => by
    rw [List.map_cons, List.mem_cons, not_or] at h
    have ne : (f == g) = false := beq_eq_false_iff_ne.mpr h.1
    simp only [List.lookup, ne]
    exact lk_none h.2
theorem pt_ix : ∀ {fs : List (Str × V)} (n : Nat), (fs.map (·.1)).Nodup → fs[n]? = some (f, v) → putF f y fs = fs.set n (f, y)
  | [], _, _, h => by simp at h
  | p :: fs, 0, _, h => by
    simp only [List.getElem?_cons_zero, Option.some.injEq] at h
    subst h
    simp [putF]
  | p :: fs, n + 1, nd, h => by
    simp only [List.getElem?_cons_succ] at h
    obtain ⟨g, x⟩ := p
    rw [List.map_cons, List.nodup_cons] at nd
    have hm : f ∈ fs.map (·.1) := List.mem_map.mpr ⟨(f, v), List.mem_of_getElem? h, rfl⟩
    have ne : ¬ g = f := fun e => nd.1 (e ▸ hm)
    simp only [putF, if_neg ne, List.set_cons_succ]
    rw [pt_ix n nd.2 h]
theorem pt_new : ∀ {fs : List (Str × V)}, f ∉ fs.map (·.1) → putF f y fs = fs ++ [(f, y)]
  | [], _ => rfl
  | (g, x) :: fs, h => by
    rw [List.map_cons, List.mem_cons, not_or] at h
    have ne : ¬ g = f := fun e => h.1 e.symm
    simp only [putF, if_neg ne, List.cons_append]
    rw [pt_new h.2]
end

section
variable {H H' : Hp} {L : List (Addr × HO)} {a : Addr} {o : HO}
theorem Has.add (M : Has H L) (h : H a = some o) (n : a ∉ L.map (·.1)) : Has H (L ++ [(a, o)]) where
  nd := by
    rw [List.map_append, List.nodup_append]
    refine ⟨M.nd, by simp, fun x hx y hy e => ?_⟩
    rw [List.map_singleton, List.mem_singleton] at hy
    have e2 : x = a := e.trans hy
    exact n (e2 ▸ hx)
  is_ := fun q hq => by
    rcases List.mem_append.mp hq with z | z
    · exact M.is_ q z
    · rw [List.mem_singleton.mp z]
      exact h
end

theorem Keep.tup {ms : List Addr} {H H' : Hp} {t : Addr} {xs : List V} (k : Keep ms H H') (hm : ∀ m ∈ ms, ∃ o, H m = some o ∧ ∀ xs, o ≠ .tup xs) (h : H t = some (.tup xs)) : H' t = some (.tup xs) :=
  k t _ h fun z => by
    obtain ⟨o, e, n⟩ := hm t z
    rw [h] at e
    exact n xs (Option.some.inj e).symm

/-! ### parts of the heap's list, tables of lists -/
section
variable {H H' : Hp} {X Y L L' : List (Addr × HO)} {a : Addr} {o o' : HO}
theorem Has.mid (M : Has H (X ++ (L ++ Y))) : Has H L := M.sub ((List.sublist_append_left L Y).trans (List.sublist_append_right X _))
/-- a part has changed, the rest stands -/
theorem Has.frame (M : Has H (X ++ (L ++ Y))) (k : Keep (L.map (·.1)) H H') (M' : Has H' L') (e : L'.map (·.1) = L.map (·.1)) : Has H' (X ++ (L' ++ Y)) where
  nd := by
    have z := M.nd
    rw [List.map_append, List.map_append] at z ⊢
    rw [e]
    exact z
  is_ := fun q hq => by
    have z := M.nd
    rw [List.map_append, List.map_append, List.nodup_append] at z
    obtain ⟨_, z2, z3⟩ := z
    rw [List.nodup_append] at z2
    obtain ⟨_, _, z4⟩ := z2
    rcases List.mem_append.mp hq with h | h
    · refine k _ _ (M.is_ q (List.mem_append_left _ h)) fun hm => ?_
      exact z3 q.1 (List.mem_map_of_mem h) q.1 (List.mem_append_left _ hm) rfl
    · rcases List.mem_append.mp h with h | h
      · exact M'.is_ q h
      · refine k _ _ (M.is_ q (List.mem_append_right _ (List.mem_append_right _ h))) fun hm => ?_
        exact z4 q.1 hm q.1 (List.mem_map_of_mem h) rfl
/-- the lists at these addresses -/
def tab : List Addr → List (List V) → List (Addr × HO)
  | a :: as, r :: rs => (a, .lst r) :: tab as rs
  | _, _ => []
theorem tab_get : ∀ {as : List Addr} {rs : List (List V)} {i : Nat} {a : Addr} {r : List V}, as[i]? = some a → rs[i]? = some r → (tab as rs)[i]? = some (a, .lst r)
  | [], _, _, _, _, h, _ => by simp at h
  | _ :: _, [], _, _, _, _, h => by simp at h
  | a :: as, r :: rs, 0, _, _, h, h2 => by
    simp only [List.getElem?_cons_zero, Option.some.injEq] at h h2
    subst h
    subst h2
    rfl
  | a :: as, r :: rs, i + 1, _, _, h, h2 => by
    simp only [List.getElem?_cons_succ] at h h2
    exact tab_get (as := as) h h2
theorem tab_set : ∀ {as : List Addr} {rs : List (List V)} {i : Nat} {a : Addr} {r : List V}, as[i]? = some a → (tab as rs).set i (a, .lst r) = tab as (rs.set i r)
  | [], _, _, _, _, h => by simp at h
  | _ :: _, [], _, _, _, _ => rfl
  | a :: as, r :: rs, 0, _, _, h => by
    simp only [List.getElem?_cons_zero, Option.some.injEq] at h
    subst h
    rfl
  | a :: as, r :: rs, i + 1, _, _, h => by
    simp only [List.getElem?_cons_succ] at h
    show (a, HO.lst r) :: (tab as rs).set i _ = _
    rw [tab_set h]
    rfl
theorem tab_fst : ∀ {as : List Addr} {rs : List (List V)}, as.length = rs.length → (tab as rs).map (·.1) = as
  | [], [], _ => rfl
  | [], _ :: _, h => by simp at h
  | _ :: _, [], h => by simp at h
  | a :: as, r :: rs, h => by
    simp only [List.length_cons, Nat.add_right_cancel_iff] at h
    show a :: (tab as rs).map (·.1) = _
    rw [tab_fst h]
variable {as : List Addr} {rs : List (List V)} {i : Nat} {r r' : List V}
theorem Has.tabGet (M : Has H (X ++ (tab as rs ++ Y))) (ha : as[i]? = some a) (hr : rs[i]? = some r) : H a = some (.lst r) := M.mid.get i (tab_get ha hr)
theorem Has.tabSet (M : Has H (X ++ (tab as rs ++ Y))) (ha : as[i]? = some a) (hr : rs[i]? = some r) : Has (upd H a (.lst r')) (X ++ (tab as (rs.set i r') ++ Y)) := by
  have h := tab_get ha hr
  have hi := (List.getElem?_eq_some_iff.mp h).1
  have h2 : (X ++ (tab as rs ++ Y))[X.length + i]? = some (a, .lst r) := by
    rw [List.getElem?_append_right (Nat.le_add_right _ _), Nat.add_sub_cancel_left, List.getElem?_append_left hi]
    exact h
  have M2 := M.set (o' := .lst r') _ h2
  have e : (X ++ (tab as rs ++ Y)).set (X.length + i) (a, .lst r') = X ++ (tab as (rs.set i r') ++ Y) := by
    rw [List.set_append_right _ _ (Nat.le_add_right _ _), Nat.add_sub_cancel_left, List.set_append_left _ _ hi, tab_set ha]
  rw [e] at M2
  exact M2
/-- one more list at the end of a table -/
theorem tab_snoc : ∀ {as : List Addr} {rs : List (List V)}, as.length = rs.length → tab (as ++ [a]) (rs ++ [r]) = tab as rs ++ [(a, .lst r)]
  | [], [], _ => rfl
  | [], _ :: _, h => by simp at h
  | _ :: _, [], h => by simp at h
  | b :: as, r' :: rs, h => by
    simp only [List.length_cons, Nat.add_right_cancel_iff] at h
    show (b, HO.lst r') :: tab (as ++ [a]) (rs ++ [r]) = _
    rw [tab_snoc h]
    rfl
end
end G

set_option Elab.async false
set_option linter.all false
set_option maxRecDepth 100000
set_option maxHeartbeats 4000000
/-! Rules that take any kind of value, and the walk of a reading step by step. -/
namespace G
open PySem PySem.Spec PyProof.Rows L2

/-! ### rules for any kind of value -/
def rAddU (K : PySem.W.Frag) : R2 := fun x y H Q => match x, y with
  | .int i, .int j => Q (.int (i + j)) H
  | .str a, .str b => a.length + b.length ≤ sizeLine ∧ Q (.str (a ++ b)) H
  | .ref a, .ref b => rCat (.ref a) (.ref b) H Q ∨ rCatA K (.ref a) (.ref b) H Q
  | _, _ => False
def rMulU : R2 := fun x y H Q => match x, y with
  | .int i, .int j => (CMul i j ∨ CMulW i j) ∧ Q (.int (i * j)) H
  | .ref a, .int j => rRep (.ref a) (.int j) H Q
  | _, _ => False
def rEqU (K : PySem.W.Frag) (neg : Bool) : R2 := fun x y H Q => (scal x y = true ∧ Q (.bl (if neg then !decide (x = y) else decide (x = y))) H) ∨ (if neg then rNeD K x y H Q else rEqD K x y H Q)
/-- the heap's dict at a holds o at y -/
def rInU (K : PySem.W.Frag) (neg : Bool) : R2 := fun x y H Q => rIn K neg x y H Q ∨ (∃ a o, y = .ref a ∧ DGet H a x o ∧ Q (.bl (if neg then !o.isSome else o.isSome)) H) ∨
  (∃ c z, x = .str ⟨#[c]⟩ ∧ y = .str z ∧ Q (.bl (if neg then !decide (c ∈ z.cps.toList) else decide (c ∈ z.cps.toList))) H)
def rIxU (K : PySem.W.Frag) : R2 := fun x y H Q => rIxL K x y H Q ∨ rIxT K x y H Q ∨ rIxS x y H Q ∨ ∃ a v, x = .ref a ∧ DGet H a y (some v) ∧ Q v H
def rLenU (K : PySem.W.Frag) : List V → Hp → VK → Prop := fun xs H Q => (∃ x n, xs = [x] ∧ LenV K x H n ∧ Q (.int n) H) ∨ ∃ a kvs, xs = [.ref a] ∧ H a = some (.dK kvs) ∧ Q (.int (kvs.length : Nat)) H
def rAbs : List V → Hp → VK → Prop := fun xs H Q => ∃ i, xs = [.int i] ∧ Q (.int (if i < 0 then -i else i)) H
def rMax2 : List V → Hp → VK → Prop := fun xs H Q => ∃ i j, xs = [.int i, .int j] ∧ Q (.int (if j > i then j else i)) H
def rMin2 : List V → Hp → VK → Prop := fun xs H Q => ∃ i j, xs = [.int i, .int j] ∧ Q (.int (if j < i then j else i)) H
def rInt1 : List V → Hp → VK → Prop := fun xs H Q => (∃ i, xs = [.int i] ∧ Q (.int i) H) ∨ ∃ k, xs = [.bl k] ∧ Q (.int (if k then 1 else 0)) H
def rStrI : List V → Hp → VK → Prop := fun xs H Q => ∃ i, xs = [.int i] ∧ i.natAbs.log2 < 1920 ∧ Q (.str (toString i)) H
def rCmpI (p : Int → Int → Bool) : R2 := rI0 fun i j => .bl (p i j)

section
variable {X : Cx} {a b c : Expr} {ta tb tc : TE} {pos : Pos}
theorem op_addU {K : PySem.W.Frag} (hK : X.K = K) : OpR X (binaryOp .Add) (rAddU K) := by
  subst hK
  intro pins s σ H x y v u Q I rx ry h
  cases x <;> cases y <;> first | exact h.elim | skip
  · exact op_add pins s σ H _ _ v u Q I rx ry ⟨_, _, rfl, rfl, h⟩
  · exact op_add_str pins s σ H _ _ v u Q I rx ry ⟨_, _, rfl, rfl, h.1, h.2⟩
  · rcases h with h | h
    · exact op_cat pins s σ H _ _ v u Q I rx ry h
    · exact op_catA pins s σ H _ _ v u Q I rx ry h
theorem op_mulU : OpR X (binaryOp .Mult) rMulU := by
  intro pins s σ H x y v u Q I rx ry h
  cases x <;> cases y <;> first | exact h.elim | skip
  · rcases h with ⟨h | h, q⟩
    · exact op_mul pins s σ H _ _ v u Q I rx ry ⟨_, _, rfl, rfl, h, q⟩
    · exact op_mulW pins s σ H _ _ v u Q I rx ry ⟨_, _, rfl, rfl, h, q⟩
  · exact op_rep pins s σ H _ _ v u Q I rx ry h
theorem op_eqU {K : PySem.W.Frag} (hK : X.K = K) (hu : X.A.units + 64 < cLine) : OpR X (compareOp .Eq) (rEqU K false) := by
  subst hK
  intro pins s σ H x y v u Q I rx ry h
  rcases h with ⟨hs, q⟩ | h
  · exact op_eq pins s σ H x y v u Q I rx ry ⟨hs, q⟩
  · exact op_eqD hu pins s σ H x y v u Q I rx ry h
theorem op_neU {K : PySem.W.Frag} (hK : X.K = K) (hu : X.A.units + 64 < cLine) : OpR X (compareOp .NotEq) (rEqU K true) := by
  subst hK
  intro pins s σ H x y v u Q I rx ry h
  rcases h with ⟨hs, q⟩ | h
  · exact op_ne pins s σ H x y v u Q I rx ry ⟨hs, q⟩
  · exact op_neD hu pins s σ H x y v u Q I rx ry h
theorem op_inU {K : PySem.W.Frag} (hK : X.K = K) (hu : X.A.units + 1 < cLine) : OpR X (compareOp .In) (rInU K false) := by
  subst hK
  intro pins s σ H x y v u Q I rx ry h
  rcases h with h | ⟨a, o, rfl, g, q⟩ | ⟨c, z, rfl, rfl, q⟩
  · exact op_in_seq pins s σ H x y v u Q I rx ry h
  · obtain rfl : u = Value.ref a := ry
    exact d_in hu I g rx fun s1 I1 => ⟨.bl _, H, I1, rfl, q⟩
  · exact op_in_sign pins s σ H _ _ v u Q I rx ry ⟨c, z, rfl, rfl, q⟩
theorem op_niU {K : PySem.W.Frag} (hK : X.K = K) (hu : X.A.units + 1 < cLine) : OpR X (compareOp .NotIn) (rInU K true) := by
  subst hK
  intro pins s σ H x y v u Q I rx ry h
  rcases h with h | ⟨a, o, rfl, g, q⟩ | ⟨c, z, rfl, rfl, q⟩
  · exact op_notIn_seq pins s σ H x y v u Q I rx ry h
  · obtain rfl : u = Value.ref a := ry
    exact d_notIn hu I g rx fun s1 I1 => ⟨.bl _, H, I1, rfl, q⟩
  · exact op_notIn_sign pins s σ H _ _ v u Q I rx ry ⟨c, z, rfl, rfl, q⟩
theorem ix_dict (hu : X.A.units + 1 < cLine) : IxR X (fun x y H Q => ∃ a v, x = .ref a ∧ DGet H a y (some v) ∧ Q v H) := by
  intro value slice pins s σ H x y v u Q I rx ry h hs
  obtain ⟨a, z, rfl, g, q⟩ := h
  obtain rfl : v = Value.ref a := rx
  exact tail_any (dict_typeIs I g) PySem.F.slot_dict_getitem.lookup (d_getItem hu I g ry fun w' s' I' rw' => ⟨z, H, I', rw', q⟩) hs
theorem ix_U {K : PySem.W.Frag} (hK : X.K = K) (hu : X.A.units + 1 < cLine) : IxR X (rIxU K) := by
  subst hK
  exact ix_list.or (ix_tup.or (ix_str.or (ix_dict hu)))
theorem pe_ixU {K : PySem.W.Frag} (hK : X.K = K) {a b : Expr} {ta tb : TE} {pos : Pos} (hu : X.A.units + 1 < cLine) (ha : PE X a ta) (hb : PE X b tb) (hs : PlainIx b := by exact fun _ _ => rfl) : PE X (.Subscript a b pos) (tOp (rIxU K) ta tb) := pe_ix (ix_U hK hu) ha hb hs
theorem c_len {K : PySem.W.Frag} (hK : X.K = K) : CallR X (.builtin "len") (rLenU K) := by
  subst hK
  intro pins s σ H xs us Q I r h
  rcases h with h | ⟨a, kvs, rfl, e, q⟩
  · exact call_len pins s σ H xs us Q I r h
  · rw [Vals.ref1 r]
    exact d_len I (.inl e) fun t s1 I1 => ⟨.int _, H, I1, ⟨_, rfl⟩, q⟩
theorem c_abs : CallR X (.builtin "abs") rAbs := call_abs
theorem c_max2 (hc : X.calm = true) : CallR X (.builtin "max") rMax2 := call_max2 hc
theorem c_min2 (hc : X.calm = true) : CallR X (.builtin "min") rMin2 := call_min2 hc
theorem c_int : CallR X (.type "int") rInt1 := call_int1
theorem c_str : CallR X (.type "str") rStrI := call_str_int
theorem c_isi {K : PySem.W.Frag} (hK : X.K = K) : CallR X (.builtin "isinstance") (rIsi K) := by
  subst hK
  exact call_isi
theorem o_lt : OpR X (compareOp .Lt) (rCmpI fun i j => decide (i < j)) := op_lt
theorem o_le : OpR X (compareOp .LtE) (rCmpI fun i j => decide (i ≤ j)) := op_le
theorem o_gt : OpR X (compareOp .Gt) (rCmpI fun i j => decide (j < i)) := op_gt
theorem o_ge : OpR X (compareOp .GtE) (rCmpI fun i j => decide (j ≤ i)) := op_ge
/-- what is walked: a list or a tuple -/
def iSeq (K : PySem.W.Frag) (tl : TE) : TI := fun σ H R => tl σ H fun x H1 => (∃ a xs, x = .ref a ∧ SqL K H1 a xs ∧ R (Itl K a) H1) ∨ ∃ a xs, x = .ref a ∧ SqT K H1 a xs ∧ R (Itt K a) H1
/-- an iterator that was just laid -/
theorem pie_new {pins : List (Addr × Obj)} {σ : L2.St} {H : Hp} {s : Shared} {R : It → Hp → Prop} {tg : Expr} {o : Obj} {J : It} {tn : Nat → Heap → Prop} (I : Inv X pins σ H s)
    (tu : Turn X.prog X.w X.K tg J [s.heap.objs.size] s.heap.objs.size tn) (h0 : tn 0 (s.heap.push o)) (q : R J H) : PIE X pins σ tg R (.ref s.heap.objs.size) { s with heap := s.heap.push o } := by
  have k := I.kept (t' := s.toks) (h' := s.heap.push o) (fun b u e => Heap.get?_push_of_some _ e)
  refine ⟨_, _, tn, J, H, rfl, k, tu, h0, ?_, q⟩
  intro b hb
  rw [List.mem_singleton.mp hb]
  exact I.fpOk (Nat.le_refl _) (I.hok.fresh (Nat.le_refl _))
theorem pi_seq {K : PySem.W.Frag} (hK : X.K = K) {tg l : Expr} {tl : TE} (hl : PE X l tl) : PI X tg l (iSeq K tl) := by
  subst hK
  refine ⟨fun pins s σ H R I h => thn (hl.run pins s σ H _ I h) ?_⟩
  rintro v s1 ⟨x, H1, I1, r1, ⟨a, xs, rfl, hq, q⟩ | ⟨a, xs, rfl, hq, q⟩⟩ <;> cases r1
  · obtain ⟨its, _, p, _⟩ := I1.list hq
    exact wpAny_pyIter_list p.isList (pie_new I1 (turn_list a _) ⟨_, Heap.get?_push_size _ rfl, rfl, rfl⟩ q)
  · obtain ⟨its, _, p, _⟩ := I1.tuple hq
    exact wpAny_pyIter_tuple (show s1.heap.IsTuple a its.toArray from p) (pie_new I1 (turn_tuple a _) ⟨_, Heap.get?_push_size _ rfl, rfl, rfl⟩ q)
/-- a value's truth as a test -/
def tTru (K : PySem.W.Frag) (ta : TE) : TT := fun σ H Q => ta σ H fun x H' => ∃ k, TruV K x H' k ∧ Q k H'
theorem pt_tru {K : PySem.W.Frag} (hK : X.K = K) (ha : PE X a ta) (he : ∀ whole, isTrue a X.env whole = (do let v ← whole; standAt a.pos; holding [v] (truthy v)) := by intro _; rfl) : PT X a (tTru K ta) := by
  subst hK
  exact pt_truth ha he
end

/-! ### the steps of a reading -/
/-- a new tuple, a new list, of these -/
def rTupN (xs : List V) : Hp → VK → Prop := fun H Q => xs.length ≤ sizeLine ∧ ∀ p, H p = none → Q (.ref p) (upd H p (.tup xs))
def rLstN (xs : List V) : Hp → VK → Prop := fun H Q => xs.length ≤ sizeLine ∧ ∀ p, H p = none → Q (.ref p) (upd H p (.lst xs))
section
variable {K : PySem.W.Frag} {σ : L2.St} {H : Hp} {D : Ends} {t u : TS} {te ta tb tc : TE} {tt tt' : TT} {Q : VK} {QB : Bool → Hp → Prop} {QA : List V → Hp → Prop} {QS : L2.St → Hp → Prop} {g : TG} {r r' : R2} {v x y : V} {i j : Int} {b c : Bool} {k : Nat} {tA tA' : TA} {A B : Prop} {p q : Prop} {sp : Sp} {E : XK} {dvs vs : List V} {xs ys : List V} {a d C dx : Addr} {fs : List (Str × V)} {f : Str} {z z' : Str}
theorem g_seq (h : t { nx := u D, rt := D.rt, bk := D.bk, ct := D.ct } σ H) : tSeq t u D σ H := h
theorem g_next (h : D.nx σ H) : tNext D σ H := h
theorem g_asg (h : te σ H fun x H1 => g x σ H1 D.nx) : tAsg te g D σ H := h
theorem g_drop (h : te σ H fun _ H1 => D.nx σ H1) : tDrop te D σ H := h
theorem g_ret (h : te σ H D.rt) : tRet te D σ H := h
theorem g_retN (h : D.rt .non H) : tRetN D σ H := h
theorem g_brk (h : D.bk σ H) : tBreak D σ H := h
theorem g_ct (h : D.ct σ H) : tCont D σ H := h
theorem g_ifS (h : tt σ H fun b H1 => if b = true then t D σ H1 else u D σ H1) : tIfS tt t u D σ H := h
theorem g_name (h : QS (σ.set k (some v)) H) : gName k v σ H QS := h
theorem g_aug {ti : TIp} (e : σ[k]? = some (some x)) (h : te σ H fun y H1 => ti x y H1 fun z H2 => D.nx (σ.set k (some z)) H2) : tAug k te ti D σ H := ⟨x, e, h⟩
theorem g_ipI {f : Int → Int → Int} (h : Q (.int (f i j)) H) : ipI f (.int i) (.int j) H Q := ⟨i, j, rfl, rfl, h⟩
theorem g_var (e : σ[k]? = some (some v)) (h : Q v H) : tVar k σ H Q := ⟨v, e, h⟩
theorem g_c (h : Q v H) : tC v σ H Q := h
theorem g_op (h : ta σ H fun x H1 => tb σ H1 fun y H2 => r x y H2 Q) : tOp r ta tb σ H Q := h
theorem g_un {r : V → Hp → VK → Prop} (h : ta σ H fun x H1 => r x H1 Q) : tUn r ta σ H Q := h
theorem g_rU {g : Int → V} (h : Q (g i) H) : rU g (.int i) H Q := ⟨i, rfl, h⟩
theorem g_I0 {g : Int → Int → V} (h : Q (g i j) H) : rI0 g (.int i) (.int j) H Q := ⟨i, j, rfl, rfl, h⟩
theorem g_I {C : Int → Int → Prop} {g : Int → Int → V} (hc : C i j) (h : Q (g i j) H) : rI C g (.int i) (.int j) H Q := ⟨i, j, rfl, rfl, hc, h⟩
theorem g_cmpI {p : Int → Int → Bool} (h : Q (.bl (p i j)) H) : rCmpI p (.int i) (.int j) H Q := ⟨i, j, rfl, rfl, h⟩
theorem g_addI (h : Q (.int (i + j)) H) : rAddU K (.int i) (.int j) H Q := h
theorem g_addS (hl : z.length + z'.length ≤ sizeLine) (h : Q (.str (z ++ z')) H) : rAddU K (.str z) (.str z') H Q := ⟨hl, h⟩
theorem g_mulI (hc : CMul i j ∨ CMulW i j) (h : Q (.int (i * j)) H) : rMulU (.int i) (.int j) H Q := ⟨hc, h⟩
theorem g_eqI (h : Q (.bl (decide (i = j))) H) : rEqU K false (.int i) (.int j) H Q := .inl ⟨rfl, by
  have e : decide (V.int i = V.int j) = decide (i = j) := by simp
  show Q (.bl (decide (V.int i = V.int j))) H
  rw [e]
  exact h⟩
theorem g_neI (h : Q (.bl (!decide (i = j))) H) : rEqU K true (.int i) (.int j) H Q := .inl ⟨rfl, by
  have e : decide (V.int i = V.int j) = decide (i = j) := by simp
  show Q (.bl (!decide (V.int i = V.int j))) H
  rw [e]
  exact h⟩
theorem g_eqS (h : Q (.bl (decide (z = z'))) H) : rEqU K false (.str z) (.str z') H Q := .inl ⟨rfl, by
  have e : decide (V.str z = V.str z') = decide (z = z') := by simp
  show Q (.bl (decide (V.str z = V.str z'))) H
  rw [e]
  exact h⟩
theorem g_neS (h : Q (.bl (!decide (z = z'))) H) : rEqU K true (.str z) (.str z') H Q := .inl ⟨rfl, by
  have e : decide (V.str z = V.str z') = decide (z = z') := by simp
  show Q (.bl (!decide (V.str z = V.str z'))) H
  rw [e]
  exact h⟩
theorem g_eqB (h : Q (.bl (decide (b = c))) H) : rEqU K false (.bl b) (.bl c) H Q := .inl ⟨rfl, by
  have e : decide (V.bl b = V.bl c) = decide (b = c) := by simp
  show Q (.bl (decide (V.bl b = V.bl c))) H
  rw [e]
  exact h⟩
theorem g_neB (h : Q (.bl (!decide (b = c))) H) : rEqU K true (.bl b) (.bl c) H Q := .inl ⟨rfl, by
  have e : decide (V.bl b = V.bl c) = decide (b = c) := by simp
  show Q (.bl (!decide (V.bl b = V.bl c))) H
  rw [e]
  exact h⟩
theorem g_eqD {d e : PyData} (h1 : Dp K H x d) (h2 : Dp K H y e) (s1 : SeqAt.shaped d = true) (s2 : SeqAt.shaped e = true) (h : Q (.bl (PyData.eqv d e)) H) : rEqU K false x y H Q := .inr ⟨d, e, h1, h2, s1, s2, h⟩
theorem g_neD {d e : PyData} (h1 : Dp K H x d) (h2 : Dp K H y e) (s1 : SeqAt.shaped d = true) (s2 : SeqAt.shaped e = true) (h : Q (.bl (!PyData.eqv d e)) H) : rEqU K true x y H Q := .inr ⟨d, e, h1, h2, s1, s2, h⟩
theorem g_test (h : te σ H fun x H' => ∃ k, x = .bl k ∧ QB k H') : tTest te σ H QB := h
theorem g_B (h : te σ H fun x H' => ∃ k, x = .bl k ∧ QB k H') : tB te σ H QB := h
theorem g_exb {R : Bool → Prop} (h : R b) : ∃ k, V.bl b = V.bl k ∧ R k := ⟨b, rfl, h⟩
theorem g_tru (h : te σ H fun x H' => ∃ k, TruV K x H' k ∧ QB k H') : tTru K te σ H QB := h
theorem g_truB {R : Bool → Prop} (h : R b) : ∃ k, TruV K (.bl b) H k ∧ R k := ⟨b, rfl, h⟩
theorem g_truI {R : Bool → Prop} (h : R (i != 0)) : ∃ k, TruV K (.int i) H k ∧ R k := ⟨_, rfl, h⟩
theorem g_truN {R : Bool → Prop} (h : R false) : ∃ k, TruV K .non H k ∧ R k := ⟨_, rfl, h⟩
theorem g_not (h : tt σ H fun c H1 => QB (!c) H1) : tNot tt σ H QB := h
theorem g_and (h : tt σ H fun c H1 => if c = true then tt' σ H1 QB else QB false H1) : tAnd tt tt' σ H QB := h
theorem g_or (h : tt σ H fun c H1 => if c = true then QB true H1 else tt' σ H1 QB) : tOr tt tt' σ H QB := h
theorem g_notV (h : ta σ H fun x H1 => ∃ c, x = .bl c ∧ Q (.bl (!c)) H1) : tNotV ta σ H Q := h
theorem g_andV (h : ta σ H fun x H1 => ∃ c, x = .bl c ∧ if c = true then tb σ H1 Q else Q (.bl false) H1) : tAndV ta tb σ H Q := h
theorem g_orV (h : ta σ H fun x H1 => ∃ c, x = .bl c ∧ if c = true then Q (.bl true) H1 else tb σ H1 Q) : tOrV ta tb σ H Q := h
theorem g_ifE (h : tt σ H fun c H1 => if c = true then ta σ H1 Q else tb σ H1 Q) : tIf tt ta tb σ H Q := h
theorem g_chain (h : ta σ H fun x H1 => tb σ H1 fun y H2 => r x y H2 fun z H3 => ∃ k, z = .bl k ∧ (if k = true then tc σ H3 fun w' H4 => r' y w' H4 Q else Q (.bl false) H3)) : tChain r r' ta tb tc σ H Q := h
theorem g_nilA (h : QA [] H) : tNil σ H QA := h
theorem g_consA (h : ta σ H fun x H1 => tA σ H1 fun xs H2 => QA (x :: xs) H2) : tCons ta tA σ H QA := h
theorem g_tup (h : tA σ H fun xs H1 => rTupN xs H1 Q) : tTup tA σ H Q := h
theorem g_lst (h : tA σ H fun xs H1 => rLstN xs H1 Q) : tLst tA σ H Q := h
theorem g_cb {r : List V → Hp → VK → Prop} (h : tA σ H fun vs H1 => r vs H1 Q) : tCB r tA σ H Q := h
theorem g_call (h : tA σ H fun vs H1 => sp (vs ++ dvs) H1 Q E) : tCall sp dvs E tA σ H Q := h
theorem g_bm {T : String} {r : V → List V → Hp → VK → Prop} (h : te σ H fun x H1 => tyV K T x H1 ∧ tA σ H1 fun xs H2 => r x xs H2 Q) : tBM K T r te tA σ H Q := h
theorem g_bm0 {T : String} {r : V → List V → Hp → VK → Prop} (h : te σ H fun x H1 => tyV K T x H1 ∧ r x [] H1 Q) : tBM0 K T r te σ H Q := h
theorem g_lenL (hl : SqL K H a xs) (h : Q (.int (xs.length : Nat)) H) : rLenU K [.ref a] H Q := .inl ⟨_, _, rfl, .inl ⟨_, hl, rfl⟩, h⟩
theorem g_lenT (hl : SqT K H a xs) (h : Q (.int (xs.length : Nat)) H) : rLenU K [.ref a] H Q := .inl ⟨_, _, rfl, .inr ⟨_, hl, rfl⟩, h⟩
theorem g_lenS (hl : z.length ≤ sizeLine) (h : Q (.int (z.length : Nat)) H) : rLenU K [.str z] H Q := .inl ⟨_, _, rfl, ⟨hl, rfl⟩, h⟩
theorem g_abs (h : Q (.int (if i < 0 then -i else i)) H) : rAbs [.int i] H Q := ⟨i, rfl, h⟩
theorem g_max2 (h : Q (.int (if j > i then j else i)) H) : rMax2 [.int i, .int j] H Q := ⟨i, j, rfl, h⟩
theorem g_min2 (h : Q (.int (if j < i then j else i)) H) : rMin2 [.int i, .int j] H Q := ⟨i, j, rfl, h⟩
theorem g_intI (h : Q (.int i) H) : rInt1 [.int i] H Q := .inl ⟨i, rfl, h⟩
theorem g_intB (h : Q (.int (if b then 1 else 0)) H) : rInt1 [.bl b] H Q := .inr ⟨b, rfl, h⟩
theorem g_ixL {n : Nat} (hl : SqL K H a xs) (e : i = (n : Int)) (hv : xs[n]? = some v) (h : Q v H) : rIxU K (.ref a) (.int i) H Q := .inl ⟨_, _, _, _, rfl, rfl, hl, by rw [e]; exact atI_nat hv, h⟩
theorem g_ixL' (hl : SqL K H a xs) (hv : atI xs i = some v) (h : Q v H) : rIxU K (.ref a) (.int i) H Q := .inl ⟨_, _, _, _, rfl, rfl, hl, hv, h⟩
theorem g_ixT {n : Nat} (hl : SqT K H a xs) (e : i = (n : Int)) (hv : xs[n]? = some v) (h : Q v H) : rIxU K (.ref a) (.int i) H Q := .inr (.inl ⟨_, _, _, _, rfl, rfl, hl, by rw [e]; exact atI_nat hv, h⟩)
theorem g_ixT' (hl : SqT K H a xs) (hv : atI xs i = some v) (h : Q v H) : rIxU K (.ref a) (.int i) H Q := .inr (.inl ⟨_, _, _, _, rfl, rfl, hl, hv, h⟩)
theorem g_ixD (g : DGet H a x (some v)) (h : Q v H) : rIxU K (.ref a) x H Q := .inr (.inr (.inr ⟨_, _, rfl, g, h⟩))
theorem g_isi {t u : Value} (hc : ClsV y u) (ht : TyX K H x t) (hk : PySem.W.kitOne K t u = some b) (h : Q (.bl b) H) : rIsi K [x, y] H Q := ⟨x, y, t, u, b, rfl, hc, ht, hk, h⟩
/-- branches -/
theorem g_if [Decidable p] (h1 : p → A) (h2 : ¬ p → B) : if decide p = true then A else B := by
  by_cases h : p
  · rw [if_pos (decide_eq_true h)]
    exact h1 h
  · rw [if_neg fun z => h (of_decide_eq_true z)]
    exact h2 h
theorem g_ifN [Decidable p] (h1 : ¬ p → A) (h2 : p → B) : if (!decide p) = true then A else B := by
  by_cases h : p
  · rw [decide_eq_true h]
    exact h2 h
  · rw [decide_eq_false h]
    exact h1 h
theorem g_ifB (h1 : b = true → A) (h2 : b = false → B) : if b = true then A else B := by
  cases b with
  | true => exact h1 rfl
  | false => exact h2 rfl
theorem g_ifBn (h1 : b = false → A) (h2 : b = true → B) : if (!b) = true then A else B := by
  cases b with
  | true => exact h2 rfl
  | false => exact h1 rfl
theorem g_ifT (h : A) : if true = true then A else B := h
theorem g_ifF (h : B) : if false = true then A else B := h
theorem g_ifNT (h : B) : if (!true) = true then A else B := h
theorem g_ifNF (h : A) : if (!false) = true then A else B := h
/-- a list grown -/
theorem g_append {L : List (Addr × HO)} (M : Has H L) (n : Nat) (h : L[n]? = some (a, .lst xs)) (hl : xs.length < sizeLine) (k : Has (upd H a (.lst (xs ++ [y]))) (L.set n (a, .lst (xs ++ [y]))) → Q .non (upd H a (.lst (xs ++ [y])))) : rAppend (.ref a) [y] H Q :=
  ⟨a, xs, y, rfl, rfl, M.get n h, hl, k (M.set n h)⟩
theorem g_setL {L : List (Addr × HO)} {R : Hp → Prop} {m : Nat} (M : Has H L) (n : Nat) (h : L[n]? = some (a, .lst xs)) (hi : ixN xs.length i = some m) (k : Has (upd H a (.lst (xs.set m y))) (L.set n (a, .lst (xs.set m y))) → R (upd H a (.lst (xs.set m y)))) : rSetL (.ref a) (.int i) y H R :=
  ⟨a, xs, i, m, rfl, rfl, M.get n h, hi, k (M.set n h)⟩
/-- a new object -/
theorem g_new {L : List (Addr × HO)} {o : HO} {R : Addr → Hp → Prop} (M : Has H L) (k : ∀ p, H p = none → Has (upd H p o) (L ++ [(p, o)]) → R p (upd H p o)) : ∀ p, H p = none → R p (upd H p o) := fun p hp => k p hp (M.new hp)
end
theorem mul_ok {i j : Int} (h : -18446744073709551616 < j) (h2 : j < 18446744073709551616) : CMul i j ∨ CMulW i j := .inl (.inr ⟨h, h2⟩)
theorem mul_ok' {i j : Int} (h : -18446744073709551616 < i) (h2 : i < 18446744073709551616) : CMul i j ∨ CMulW i j := .inl (.inl ⟨h, h2⟩)
theorem cdivW_of {i j : Int} (h : 0 < j) (h2 : j < 2 ^ 64) : CDivW i j := wide_div h (b := 64) (by omega) (by decide) (by decide)
theorem cpow_of {i j : Int} (h : 0 ≤ j) (h2 : j ≤ 1000000) (h3 : i.natAbs < 2 ^ 64) : CPow i j := ⟨h, h2, h3⟩

/-! ### loops -/
/-- what a for asks once its iterator has come -/
def ForW (g : TG) (tb : TS) (D : Ends) (σ : L2.St) : It → Hp → Prop := fun J H1 => ∃ W : Nat → Nat → L2.St → Hp → Prop, (∃ m, W 0 m σ H1) ∧ ∀ i m σ H, W i m σ H →
  (J.stop i H ∧ D.nx σ H) ∨ (J.go i H ∧ ∃ N : L2.St → Hp → Prop, (∀ σ' H', N σ' H' → ∃ m', m' < m ∧ W (i + 1) m' σ' H') ∧ ∀ x H', J.yld i H x H' → g x σ H' fun σ2 H2 => tb { D with nx := N, ct := N, bk := D.nx } σ2 H2)
def rR1 : List V → Hp → (It → Hp → Prop) → Prop := fun vs H R => ∃ j : Int, vs = [.int j] ∧ -(2 ^ 62) ≤ j ∧ j < 2 ^ 62 ∧ R (Itr 0 j.toNat) H
def rR2 : List V → Hp → (It → Hp → Prop) → Prop := fun vs H R => ∃ i j : Int, vs = [.int i, .int j] ∧ (-(2 ^ 62) ≤ i ∧ i < 2 ^ 62 ∧ -(2 ^ 62) ≤ j ∧ j < 2 ^ 62) ∧ R (Itr i (j - i).toNat) H
def iR (r : List V → Hp → (It → Hp → Prop) → Prop) (ta : TA) : TI := fun σ H R => ta σ H fun vs H1 => r vs H1 R
theorem pi_r1 {X : Cx} {tg a : Expr} {ta : TA} {p pos : Pos} (hg : Gl X "range") (hm : X.mg "range" = none) (ha : PA X [a] ta) (hs : starEach [a] X.env = [(false, eval a X.env)] := by rfl) : PI X tg (.Call (.Name "range" p) [a] [] pos) (iR rR1 ta) := pi_range1 hg hm ha hs
theorem pi_r2 {X : Cx} {tg a b : Expr} {ta : TA} {p pos : Pos} (hg : Gl X "range") (hm : X.mg "range" = none) (ha : PA X [a, b] ta) (hs : starEach [a, b] X.env = [(false, eval a X.env), (false, eval b X.env)] := by rfl) (hs2 : starEach [b] X.env = [(false, eval b X.env)] := by rfl) : PI X tg (.Call (.Name "range" p) [a, b] [] pos) (iR rR2 ta) := pi_range2 hg hm ha hs hs2
section
variable {K : PySem.W.Frag} {σ : L2.St} {H : Hp} {D : Ends} {wi : TI} {g : TG} {tb : TS} {ta : TA} {te : TE} {R : It → Hp → Prop} {r : List V → Hp → (It → Hp → Prop) → Prop} {i j : Int} {a : Addr} {xs : List V} {Q : VK} {n lo : Int}
theorem g_for (h : wi σ H (ForW g tb D σ)) : tFor wi g tb D σ H := h
theorem g_iR (h : ta σ H fun vs H1 => r vs H1 R) : iR r ta σ H R := h
theorem g_rR1 (h1 : -4611686018427387904 ≤ i) (h2 : i < 4611686018427387904) (h : R (Itr 0 i.toNat) H) : rR1 [.int i] H R := ⟨i, rfl, h1, h2, h⟩
theorem g_rR2 (h1 : -4611686018427387904 ≤ i ∧ i < 4611686018427387904 ∧ -4611686018427387904 ≤ j ∧ j < 4611686018427387904) (h : R (Itr i (j - i).toNat) H) : rR2 [.int i, .int j] H R := ⟨i, j, rfl, h1, h⟩
theorem g_iSeq (h : te σ H fun x H1 => (∃ a xs, x = .ref a ∧ SqL K H1 a xs ∧ R (Itl K a) H1) ∨ ∃ a xs, x = .ref a ∧ SqT K H1 a xs ∧ R (Itt K a) H1) : iSeq K te σ H R := h
theorem g_seqL (hl : SqL K H a xs) (h : R (Itl K a) H) : (∃ b ys, V.ref a = .ref b ∧ SqL K H b ys ∧ R (Itl K b) H) ∨ ∃ b ys, V.ref a = .ref b ∧ SqT K H b ys ∧ R (Itt K b) H := .inl ⟨a, xs, rfl, hl, h⟩
theorem g_seqT (hl : SqT K H a xs) (h : R (Itt K a) H) : (∃ b ys, V.ref a = .ref b ∧ SqL K H b ys ∧ R (Itl K b) H) ∨ ∃ b ys, V.ref a = .ref b ∧ SqT K H b ys ∧ R (Itt K b) H := .inr ⟨a, xs, rfl, hl, h⟩
theorem f_range {lo : Int} {n : Nat} (Pv : Nat → L2.St → Hp → Prop) (h0 : Pv 0 σ H)
    (hs : ∀ i σ H, i < n → Pv i σ H → g (.int (lo + i)) σ H fun σ2 H2 => tb { nx := Pv (i + 1), rt := D.rt, ct := Pv (i + 1), bk := D.nx } σ2 H2) (hd : ∀ σ H, Pv n σ H → D.nx σ H) : ForW g tb D σ (Itr lo n) H := for_range Pv h0 hs hd
theorem f_list (Pv : Nat → L2.St → Hp → Prop) (h0 : Pv 0 σ H) (hl : ∀ i σ H, i ≤ xs.length → Pv i σ H → SqL K H a xs)
    (hs : ∀ i x σ H, xs[i]? = some x → Pv i σ H → g x σ H fun σ2 H2 => tb { nx := Pv (i + 1), rt := D.rt, ct := Pv (i + 1), bk := D.nx } σ2 H2) (hd : ∀ σ H, Pv xs.length σ H → D.nx σ H) : ForW g tb D σ (Itl K a) H := for_list Pv h0 hl hs hd
theorem f_tup (Pv : Nat → L2.St → Hp → Prop) (h0 : Pv 0 σ H) (hl : ∀ i σ H, i ≤ xs.length → Pv i σ H → SqT K H a xs)
    (hs : ∀ i x σ H, xs[i]? = some x → Pv i σ H → g x σ H fun σ2 H2 => tb { nx := Pv (i + 1), rt := D.rt, ct := Pv (i + 1), bk := D.nx } σ2 H2) (hd : ∀ σ H, Pv xs.length σ H → D.nx σ H) : ForW g tb D σ (Itt K a) H := for_tup Pv h0 hl hs hd
/-- while: W by a measure and the state -/
def WhileW (c : TT) (tb : TS) (D : Ends) (W : Nat → L2.St → Hp → Prop) : Prop := ∀ m σ H, W m σ H →
  c σ H fun b H1 => if b = true then ∃ N : L2.St → Hp → Prop, (∀ σ' H', N σ' H' → ∃ m', m' < m ∧ W m' σ' H') ∧ tb { D with nx := N, ct := N, bk := D.nx } σ H1 else D.nx σ H1
theorem g_whileT {m : Nat} {W : Nat → L2.St → Hp → Prop} {A : (L2.St → Hp → Prop) → Prop} (h : A fun σ' H' => ∃ m', m' < m ∧ W m' σ' H') : ∃ N : L2.St → Hp → Prop, (∀ σ' H', N σ' H' → ∃ m', m' < m ∧ W m' σ' H') ∧ A N := ⟨_, fun _ _ h => h, h⟩
/-! ### isinstance of the scalars -/
theorem isi_of {x : V} {T T' : String} {b : Bool} (ht : TyX K H x (.type T)) (hk : kitB T T' = some b) (h : Q (.bl b) H) : rIsi K [x, .ty T'] H Q := ⟨x, .ty T', .type T, .type T', b, rfl, .ty T', ht, kit_ty hk, h⟩
theorem k_ii : kitB "int" "int" = some true := by decide +kernel
theorem k_ib : kitB "int" "bool" = some false := by decide +kernel
theorem k_bi : kitB "bool" "int" = some true := by decide +kernel
theorem k_bb : kitB "bool" "bool" = some true := by decide +kernel
theorem k_is_ : kitB "int" "str" = some false := by decide +kernel
theorem k_bs : kitB "bool" "str" = some false := by decide +kernel
theorem k_it : kitB "int" "tuple" = some false := by decide +kernel
theorem k_bt : kitB "bool" "tuple" = some false := by decide +kernel
theorem k_si : kitB "str" "int" = some false := by decide +kernel
theorem k_sb : kitB "str" "bool" = some false := by decide +kernel
theorem k_ss : kitB "str" "str" = some true := by decide +kernel
theorem k_st : kitB "str" "tuple" = some false := by decide +kernel
theorem k_ni : kitB "NoneType" "int" = some false := by decide +kernel
theorem k_nb : kitB "NoneType" "bool" = some false := by decide +kernel
theorem k_ns : kitB "NoneType" "str" = some false := by decide +kernel
theorem k_nt : kitB "NoneType" "tuple" = some false := by decide +kernel
theorem k_tt : kitB "tuple" "tuple" = some true := by decide +kernel
theorem k_ti : kitB "tuple" "int" = some false := by decide +kernel
theorem k_tb : kitB "tuple" "bool" = some false := by decide +kernel
theorem k_ts : kitB "tuple" "str" = some false := by decide +kernel
variable {z : Str} {b : Bool}
theorem g_isiIi (h : Q (.bl true) H) : rIsi K [.int i, .ty "int"] H Q := isi_of (.base (.int i)) k_ii h
theorem g_isiIb (h : Q (.bl false) H) : rIsi K [.int i, .ty "bool"] H Q := isi_of (.base (.int i)) k_ib h
theorem g_isiIs (h : Q (.bl false) H) : rIsi K [.int i, .ty "str"] H Q := isi_of (.base (.int i)) k_is_ h
theorem g_isiIt (h : Q (.bl false) H) : rIsi K [.int i, .ty "tuple"] H Q := isi_of (.base (.int i)) k_it h
theorem g_isiBi (h : Q (.bl true) H) : rIsi K [.bl b, .ty "int"] H Q := isi_of (.base (.bl b)) k_bi h
theorem g_isiBb (h : Q (.bl true) H) : rIsi K [.bl b, .ty "bool"] H Q := isi_of (.base (.bl b)) k_bb h
theorem g_isiBs (h : Q (.bl false) H) : rIsi K [.bl b, .ty "str"] H Q := isi_of (.base (.bl b)) k_bs h
theorem g_isiBt (h : Q (.bl false) H) : rIsi K [.bl b, .ty "tuple"] H Q := isi_of (.base (.bl b)) k_bt h
theorem g_isiSi (h : Q (.bl false) H) : rIsi K [.str z, .ty "int"] H Q := isi_of (.base (.str z)) k_si h
theorem g_isiSb (h : Q (.bl false) H) : rIsi K [.str z, .ty "bool"] H Q := isi_of (.base (.str z)) k_sb h
theorem g_isiSs (h : Q (.bl true) H) : rIsi K [.str z, .ty "str"] H Q := isi_of (.base (.str z)) k_ss h
theorem g_isiSt (h : Q (.bl false) H) : rIsi K [.str z, .ty "tuple"] H Q := isi_of (.base (.str z)) k_st h
theorem g_isiNi (h : Q (.bl false) H) : rIsi K [.non, .ty "int"] H Q := isi_of (.base .non) k_ni h
theorem g_isiNb (h : Q (.bl false) H) : rIsi K [.non, .ty "bool"] H Q := isi_of (.base .non) k_nb h
theorem g_isiNs (h : Q (.bl false) H) : rIsi K [.non, .ty "str"] H Q := isi_of (.base .non) k_ns h
theorem g_isiNt (h : Q (.bl false) H) : rIsi K [.non, .ty "tuple"] H Q := isi_of (.base .non) k_nt h
end
section
variable {H H1 : Hp} {a : Addr} {o : HO}
theorem Same.mut (x : Same H H1) (h : H a = none) : Same H (upd H1 a o) := fun b u e => by
  rw [upd_ne (ne_of_none e h)]
  exact x b u e
theorem Same.new' (x : Same H H1) (h : H1 a = none) : Same H (upd H1 a o) := fun b u e => keep_new (x b u e) h
end
theorem q_int {Q : VK} {x y : Int} {H : Hp} (e : x = y) (h : Q (.int x) H) : Q (.int y) H := e ▸ h
theorem q_bl {Q : VK} {x y : Bool} {H : Hp} (e : x = y) (h : Q (.bl x) H) : Q (.bl y) H := e ▸ h
theorem q_str {Q : VK} {x y : Str} {H : Hp} (e : x = y) (h : Q (.str x) H) : Q (.str y) H := e ▸ h
theorem g_disp {trs : List (TE × TE)} {σ : L2.St} {H : Hp} {Q : VK} (h : ∀ p, H p = none → tPairs trs σ (upd H p (.dK [])) fun ps H2 => H2 p = some (.dK []) ∧ ∃ kvs : List (Key × V), ps = kvs.map (fun kv => (kV kv.1, kv.2)) ∧ kvs.length ≤ 15 ∧ Q (.ref p) (upd H2 p (.dK (mergeK [] kvs)))) : tDisp trs σ H Q := h
theorem g_pairN {σ : L2.St} {H : Hp} {R : List (V × V) → Hp → Prop} (h : R [] H) : tPairs [] σ H R := h
theorem g_pairC {tk tv : TE} {r : List (TE × TE)} {σ : L2.St} {H : Hp} {R : List (V × V) → Hp → Prop} (h : tk σ H fun x H1 => tv σ H1 fun y H2 => tPairs r σ H2 fun ps H3 => R ((x, y) :: ps) H3) : tPairs ((tk, tv) :: r) σ H R := h
theorem g_dput {td ty tv : TE} {D : Ends} {σ : L2.St} {H : Hp} (h : tv σ H fun v H1 => td σ H1 fun x H2 => ty σ H2 fun y H3 => ∃ a H4, x = .ref a ∧ DPut H3 a y v H4 ∧ D.nx σ H4) : sDPut td ty tv D σ H := h

/-! ### the laws' draws: a dict with a row, a place and a seed -/
theorem ne_ra : ¬ (("row" : Str) = "at") := by decide +kernel
theorem ne_rs : ¬ (("row" : Str) = "seed") := by decide +kernel
theorem ne_as : ¬ (("at" : Str) = "seed") := by decide +kernel
theorem ne_sa : ¬ (("seed" : Str) = "at") := by decide +kernel
theorem ne_ar : ¬ (("at" : Str) = "row") := by decide +kernel
theorem ne_sr : ¬ (("seed" : Str) = "row") := by decide +kernel
def drK (r : Addr) (n sd : Int) : List (Key × V) := [(.inr "row", .ref r), (.inr "at", .int n), (.inr "seed", .int sd)]
structure RowOk (row : List Int) (sd : Int) : Prop where
  dig : ∀ x ∈ row, 0 ≤ x ∧ x < 1000
  len : row.length ≤ 1260
  s0 : 0 ≤ sd
  s1 : sd < 1000003
theorem dr_row (r : Addr) (n sd : Int) : valV (drK r n sd) (.inr "row") = some (.ref r) := by
  unfold drK
  exact valV_pos rfl
theorem dr_at (r : Addr) (n sd : Int) : valV (drK r n sd) (.inr "at") = some (.int n) := by
  unfold drK
  rw [valV_neg (fun e => ne_ra (Sum.inr.inj e))]
  exact valV_pos rfl
theorem dr_seed (r : Addr) (n sd : Int) : valV (drK r n sd) (.inr "seed") = some (.int sd) := by
  unfold drK
  rw [valV_neg (fun e => ne_rs (Sum.inr.inj e)), valV_neg (fun e => ne_as (Sum.inr.inj e))]
  exact valV_pos rfl
theorem dr_put (r : Addr) (n m sd : Int) : putK (drK r n sd) (.inr "at") (.int m) = drK r m sd := by
  unfold putK
  rw [valV_any, dr_at]
  simp only [Option.isSome_some, if_true]
  unfold drK
  simp only [List.map_cons, List.map_nil]
  rw [if_neg (fun e => ne_ra (Sum.inr.inj e)), if_pos trivial, if_neg (fun e => ne_sa (Sum.inr.inj e))]
theorem dr_made (r : Addr) (n sd : Int) : mergeK [] [(.inr "row", .ref r), (.inr "at", .int n), (.inr "seed", .int sd)] = drK r n sd := by
  have h1 : putK ([] : List (Key × V)) (.inr "row") (.ref r) = [(.inr "row", .ref r)] := putK_new _ rfl
  have h2 : putK ([(.inr "row", .ref r)] : List (Key × V)) (.inr "at") (.int n) = [(.inr "row", .ref r)] ++ [(.inr "at", .int n)] := putK_new _ (by rw [valV_neg (fun e => ne_ra (Sum.inr.inj e))]; rfl)
  have h3 : putK ([(.inr "row", .ref r), (.inr "at", .int n)] : List (Key × V)) (.inr "seed") (.int sd) = [(.inr "row", .ref r), (.inr "at", .int n)] ++ [(.inr "seed", .int sd)] := putK_new _ (by
    rw [valV_neg (fun e => ne_rs (Sum.inr.inj e)), valV_neg (fun e => ne_as (Sum.inr.inj e))]; rfl)
  unfold mergeK
  simp only [List.foldl_cons, List.foldl_nil]
  rw [h1, h2]
  exact h3
theorem dg_row {H : Hp} {d r : Addr} {n sd : Int} (h : H d = some (.dK (drK r n sd))) : DGet H d (.str "row") (some (.ref r)) := by
  rw [← dr_row r n sd]
  exact DGet.k (k := .inr "row") h
theorem dg_at {H : Hp} {d r : Addr} {n sd : Int} (h : H d = some (.dK (drK r n sd))) : DGet H d (.str "at") (some (.int n)) := by
  rw [← dr_at r n sd]
  exact DGet.k (k := .inr "at") h
theorem dg_seed {H : Hp} {d r : Addr} {n sd : Int} (h : H d = some (.dK (drK r n sd))) : DGet H d (.str "seed") (some (.int sd)) := by
  rw [← dr_seed r n sd]
  exact DGet.k (k := .inr "seed") h
theorem dp_at {H : Hp} {d r : Addr} {n sd : Int} (m : Int) (h : H d = some (.dK (drK r n sd))) : DPut H d (.str "at") (.int m) (upd H d (.dK (drK r m sd))) := by
  rw [← dr_put r n m sd]
  exact DPut.k (k := .inr "at") h (by show 3 < sizeLine; decide)
theorem szl {n : Nat} (h : n ≤ 100000) : n < sizeLine := Nat.lt_of_le_of_lt h (by decide)
theorem szle {n : Nat} (h : n ≤ 100000) : n ≤ sizeLine := Nat.le_trans h (by decide)

/-! ### //, %, shifts by name -/
def rMod : R2 := rI (fun _ j => 0 < j) fun i j => .int (i % j)
def rFdiv : R2 := rI CDivW fun i j => .int (i / j)
def rShl : R2 := rI CPow fun i j => .int (i * 2 ^ j.toNat)
def rPow : R2 := rI CPow fun i j => .int (i ^ j.toNat)
def rShr : R2 := rI (fun _ j => 0 ≤ j) fun i j => .int (i / 2 ^ j.toNat)
section
variable {X : Cx} {i j : Int} {H : Hp} {Q : VK}
theorem o_mod : OpR X (binaryOp .Mod) rMod := op_mod
theorem o_fdiv : OpR X (binaryOp .FloorDiv) rFdiv := op_fdivW
theorem o_shl : OpR X (binaryOp .LShift) rShl := op_shl
theorem o_pow : OpR X (binaryOp .Pow) rPow := op_pow
theorem o_shr : OpR X (binaryOp .RShift) rShr := op_shr
theorem io_fdiv : OpR X (inplaceOp .FloorDiv) rFdiv := iop_fdivW
theorem io_mod : OpR X (inplaceOp .Mod) rMod := iop_mod
theorem g_mod (h : 0 < j) (q : Q (.int (i % j)) H) : rMod (.int i) (.int j) H Q := ⟨i, j, rfl, rfl, h, q⟩
theorem g_fdiv (h : 0 < j) (h2 : j < 18446744073709551616) (q : Q (.int (i / j)) H) : rFdiv (.int i) (.int j) H Q := ⟨i, j, rfl, rfl, cdivW_of h h2, q⟩
theorem g_shl (h : 0 ≤ j) (h2 : j ≤ 1000000) (h3 : i.natAbs < 18446744073709551616) (q : Q (.int (i * 2 ^ j.toNat)) H) : rShl (.int i) (.int j) H Q := ⟨i, j, rfl, rfl, ⟨h, h2, h3⟩, q⟩
theorem g_pow (h : 0 ≤ j) (h2 : j ≤ 1000000) (h3 : i.natAbs < 18446744073709551616) (q : Q (.int (i ^ j.toNat)) H) : rPow (.int i) (.int j) H Q := ⟨i, j, rfl, rfl, ⟨h, h2, h3⟩, q⟩
theorem g_shr (h : 0 ≤ j) (q : Q (.int (i / 2 ^ j.toNat)) H) : rShr (.int i) (.int j) H Q := ⟨i, j, rfl, rfl, h, q⟩
end

/-! ### fields, methods, makes -/
def rFld (K : PySem.W.Frag) (f : Str) : V → Hp → VK → Prop := fun x H Q => ∃ a C dx fs v, x = .ref a ∧ H a = some (.ins C dx fs) ∧ Cls K C ∧ NoAttr K C f ∧ fs.lookup f = some v ∧ Q v H
def rSFld (K : PySem.W.Frag) (f : Str) : V → V → Hp → (Hp → Prop) → Prop := fun x y H R => ∃ a C dx fs, x = .ref a ∧ H a = some (.ins C dx fs) ∧ Cls K C ∧ NoAttr K C f ∧ fs.length < 1000 ∧ R (upd H a (.ins C dx (putF f y fs)))
def tSFld (K : PySem.W.Frag) (ta tv : TE) (f : Str) : TS := fun D σ H => tv σ H fun y H1 => ta σ H1 fun x H2 => rSFld K f x y H2 (D.nx σ)
/-- the receiver of a method's call -/
def rRcv (C : Addr) (m : Str) : V → Hp → (Hp → Prop) → Prop := fun x H R => ∃ a dx fs, x = .ref a ∧ H a = some (.ins C dx fs) ∧ fs.lookup m = none ∧ R H
section
variable {X : Cx} {o e value : Expr} {f : Str} {pos pos' : Pos} {ta tv : TE}
theorem pe_fldU {K : PySem.W.Frag} (hK : X.K = K) (he : PE X e ta) (hb : attributeBase e f X.env (eval e X.env) = eval e X.env) : PE X (.Attribute e f pos) (tUn (rFld K f) ta) := by
  subst hK
  exact pe_fld he hb
theorem ps_fldU {K : PySem.W.Frag} (hK : X.K = K) (ha : PE X o ta) (hv : PE X value tv) (hs : swapsWith value (some (.Attribute o f pos')) pos.line X.env = pure false) : PS X (.Assign [.Attribute o f pos'] value pos) (tSFld K ta tv f) := by
  subst hK
  exact ps_fld ha hv hs
end
section
variable {K : PySem.W.Frag} {σ : L2.St} {H : Hp} {D : Ends} {ta tv : TE} {t : TA} {Q : VK} {v y : V} {a C dx : Addr} {fs fs' : List (Str × V)} {f m : Str} {sp : Sp} {dvs : List V} {E : XK} {L : List (Addr × HO)} {R : Hp → Prop}
theorem g_fld (he : H a = some (.ins C dx fs)) (cl : Cls K C) (na : NoAttr K C f) (l : fs.lookup f = some v) (h : Q v H) : rFld K f (.ref a) H Q := ⟨a, C, dx, fs, v, rfl, he, cl, na, l, h⟩
theorem g_sfld (h : tv σ H fun y H1 => ta σ H1 fun x H2 => rSFld K f x y H2 (D.nx σ)) : tSFld K ta tv f D σ H := h
theorem g_setF (M : Has H L) (n : Nat) (he : L[n]? = some (a, .ins C dx fs)) (cl : Cls K C) (na : NoAttr K C f) (hl : fs.length < 1000) (e : putF f y fs = fs') (k : Has (upd H a (.ins C dx fs')) (L.set n (a, .ins C dx fs')) → R (upd H a (.ins C dx fs'))) : rSFld K f (.ref a) y H R :=
  ⟨a, C, dx, fs, rfl, M.get n he, cl, na, hl, by rw [e]; exact k (M.set n he)⟩
theorem g_meth (h : ta σ H fun x H1 => ∃ a dx fs, x = .ref a ∧ H1 a = some (.ins C dx fs) ∧ fs.lookup m = none ∧ t σ H1 fun vs H2 => sp (x :: (vs ++ dvs)) H2 Q E) : tMeth C m sp dvs E ta t σ H Q := h
theorem g_rcv {A : Prop} (he : H a = some (.ins C dx fs)) (l : fs.lookup m = none) (h : A) : ∃ b dx' fs', V.ref a = .ref b ∧ H b = some (.ins C dx' fs') ∧ fs'.lookup m = none ∧ A := ⟨a, dx, fs, rfl, he, l, h⟩
theorem g_make (h : t σ H fun vs H1 => ∀ x dx, H1 x = none → H1 dx = none → dx ≠ x → sp (.ref x :: (vs ++ dvs)) (upd (upd H1 dx (.own x)) x (.ins C dx [])) (fun v H2 => v = .non ∧ Q (.ref x) H2) E) : tMake C sp dvs E t σ H Q := h
end
section
variable {H : Hp} {x dx C : Addr}
/-- the heap in which an __init__ starts -/
def made (H : Hp) (x dx C : Addr) : Hp := upd (upd H dx (.own x)) x (.ins C dx [])
theorem made_same (hx : H x = none) (hd : H dx = none) : Same H (made H x dx C) := fun b o e => by
  unfold made
  rw [upd_ne (ne_of_none e hx), upd_ne (ne_of_none e hd)]
  exact e
theorem made_at : made H x dx C x = some (.ins C dx []) := upd_same
theorem made_none {p : Addr} (h : made H x dx C p = none) : H p = none ∧ p ≠ x ∧ p ≠ dx := by
  unfold made at h
  by_cases h1 : p = x
  · subst h1; rw [upd_same] at h; cases h
  · rw [upd_ne h1] at h
    by_cases h2 : p = dx
    · subst h2; rw [upd_same] at h; cases h
    · rw [upd_ne h2] at h
      exact ⟨h, h1, h2⟩
end

/-! ### stores by place, replicated lists, slices, all and any -/
def rSetU : V → V → V → Hp → (Hp → Prop) → Prop := fun o i v H Q => rSetL o i v H Q ∨ ∃ a H', o = .ref a ∧ DPut H a i v H' ∧ Q H'
section
variable {X : Cx}
theorem set_U (hu : X.A.units + 1 < cLine) : PSet X rSetU := by
  intro pins s σ H o i v ov iv u Q I ro ri rv h
  rcases h with h | ⟨a, H', rfl, g, q⟩
  · exact set_list pins s σ H o i v ov iv u Q I ro ri rv h
  · obtain rfl : ov = Value.ref a := ro
    exact d_setItem hu I g ri rv fun s1 I1 => ⟨H', I1, q⟩
end
section
variable {K : PySem.W.Frag} {σ : L2.St} {H : Hp} {R : Hp → Prop} {RS : L2.St → Hp → Prop} {te ti : TE} {t : TSet} {v y : V} {a : Addr} {xs : List V} {i : Int} {L : List (Addr × HO)} {m : Nat} {Q : VK}
theorem g_sub (h : te σ H fun o H1 => ti σ H1 fun i H2 => t o i v H2 fun H3 => RS σ H3) : gSub te ti t v σ H RS := h
theorem g_setU (M : Has H L) (n : Nat) (h : L[n]? = some (a, .lst xs)) (hi : i = (m : Int)) (hm : m < xs.length) (k : Has (upd H a (.lst (xs.set m y))) (L.set n (a, .lst (xs.set m y))) → R (upd H a (.lst (xs.set m y)))) : rSetU (.ref a) (.int i) y H R :=
  .inl ⟨a, xs, i, m, rfl, rfl, M.get n h, by
    unfold ixN
    rw [if_pos (by omega), if_pos (by omega)]
    congr 1
    omega, k (M.set n h)⟩
theorem rep_flat {x : V} : ∀ n : Nat, (List.replicate n [x]).flatten = List.replicate n x
  | 0 => rfl
  | n + 1 => by
    rw [List.replicate_succ, List.replicate_succ, List.flatten_cons, rep_flat n]
    rfl
theorem g_rep {x : V} {k : Int} (h : H a = some (.lst [x])) (h0 : -4611686018427387904 ≤ k) (h1 : k ≤ 100000) (q : ∀ p, H p = none → Q (.ref p) (upd H p (.lst (List.replicate k.toNat x)))) : rMulU (.ref a) (.int k) H Q := by
  refine ⟨a, k, [x], rfl, rfl, h, by omega, by omega, szle (by simp; omega), fun p hp => ?_⟩
  rw [rep_flat]
  exact q p hp
theorem g_repI {x : Int} {k : Int} (h : H a = some (.lst [.int x])) (h0 : -4611686018427387904 ≤ k) (h1 : k ≤ 100000) (q : ∀ p, H p = none → Q (.ref p) (upd H p (.lst ((List.replicate k.toNat x).map V.int)))) : rMulU (.ref a) (.int k) H Q :=
  g_rep h h0 h1 fun p hp => by
    have z := q p hp
    rw [List.map_replicate] at z
    exact z
end
def rAllU (K : PySem.W.Frag) : List V → Hp → VK → Prop := fun vs H Q => ∃ (a : Addr) (bs : List Bool), vs = [V.ref a] ∧ SqL K H a (bs.map V.bl) ∧ Q (.bl (bs.all id)) H
def rAnyU (K : PySem.W.Frag) : List V → Hp → VK → Prop := fun vs H Q => ∃ (a : Addr) (bs : List Bool), vs = [V.ref a] ∧ SqL K H a (bs.map V.bl) ∧ Q (.bl (bs.any id)) H
section
variable {X : Cx} {K : PySem.W.Frag} {H : Hp} {Q : VK} {a : Addr} {bs : List Bool}
theorem c_all {K : PySem.W.Frag} (hK : X.K = K) (hc : X.calm = true) : CallR X (.builtin "all") (rAllU K) := by
  subst hK
  exact cr_all hc
theorem c_any {K : PySem.W.Frag} (hK : X.K = K) (hc : X.calm = true) : CallR X (.builtin "any") (rAnyU K) := by
  subst hK
  exact cr_any hc
theorem g_all (h : SqL K H a (bs.map V.bl)) (q : Q (.bl (bs.all id)) H) : rAllU K [.ref a] H Q := ⟨a, bs, rfl, h, q⟩
theorem g_any (h : SqL K H a (bs.map V.bl)) (q : Q (.bl (bs.any id)) H) : rAnyU K [.ref a] H Q := ⟨a, bs, rfl, h, q⟩
end
/-! slices -/
def rSlU (K : PySem.W.Frag) : V → Option Int → Option Int → Hp → VK → Prop := fun x lo hi H Q => rSlL K x lo hi H Q ∨ rSlA K x lo hi H Q ∨ ∃ z, x = .str z ∧ z.length ≤ sizeLine ∧ Q (.str (cutS z lo hi)) H
theorem sl_U {X : Cx} {K : PySem.W.Frag} (hK : X.K = K) : SlR X (rSlU K) := by
  subst hK
  exact sl_list.or (sl_tupA.or sl_str)
section
variable {K : PySem.W.Frag} {σ : L2.St} {H : Hp} {Q : VK} {te : TE} {tl th : TO} {QO : Option Int → Hp → Prop} {r : V → Option Int → Option Int → Hp → VK → Prop} {a : Addr} {xs : List V} {lo hi : Option Int} {i : Int} {z : Str}
theorem g_sl (h : te σ H fun x H1 => tl σ H1 fun l H2 => th σ H2 fun u H3 => r x l u H3 Q) : tSl r te tl th σ H Q := h
theorem g_part (h : te σ H fun x H1 => ∃ i, x = .int i ∧ QO (some i) H1) : tPart te σ H QO := h
theorem g_exi {A : Int → Prop} (h : A i) : ∃ j, V.int i = .int j ∧ A j := ⟨i, rfl, h⟩
theorem g_noPart (h : QO none H) : tNoPart σ H QO := h
theorem g_slL (h : SqL K H a xs) (q : ∀ p, H p = none → Q (.ref p) (upd H p (.lst (cutV xs lo hi)))) : rSlU K (.ref a) lo hi H Q := .inl ⟨a, xs, rfl, h, q⟩
theorem g_slS (hl : z.length ≤ sizeLine) (q : Q (.str (cutS z lo hi)) H) : rSlU K (.str z) lo hi H Q := .inr (.inr ⟨z, rfl, hl, q⟩)
end
theorem cutV_from {xs : List V} {n : Nat} : cutV xs (some (n : Int)) none = xs.drop n := by
  unfold cutV
  rw [HT.sIx_nat, HT.sIx_none]
  by_cases h : n ≤ xs.length
  · rw [Nat.min_eq_left h, List.take_of_length_le (by simp)]
  · rw [Nat.min_eq_right (by omega), List.drop_of_length_le (by omega), List.drop_of_length_le (by omega)]
    simp

/-! ### methods of built-in types, own methods: the written part named -/
section
variable {X : Cx} {K : PySem.W.Frag} {o e : Expr} {es : List Expr} {to : TE} {t : TA} {name : Str} {apos cpos pos : Pos} {T id : String} {r : V → List V → Hp → VK → Prop}
def rTyV (K : PySem.W.Frag) (T : String) : V → Hp → (Hp → Prop) → Prop := fun x H R => tyV K T x H ∧ R H
def tBMU (K : PySem.W.Frag) (T : String) (r : V → List V → Hp → VK → Prop) (to : TE) (t : TA) : TE := fun σ H Q => to σ H fun x H1 => rTyV K T x H1 fun H2 => t σ H2 fun xs H3 => r x xs H3 Q
end
theorem g_lenM {K : PySem.W.Frag} {H : Hp} {a : Addr} {Q : VK} {α : Type} {f : α → V} {ns : List α} (h : SqL K H a (ns.map f)) (q : Q (.int (ns.length : Nat)) H) : rLenU K [.ref a] H Q := g_lenL h (by rw [List.length_map]; exact q)
theorem g_ty_ {K : PySem.W.Frag} {T : String} {x : V} {H : Hp} {A : Prop} (h : tyV K T x H) (q : A) : tyV K T x H ∧ A := ⟨h, q⟩

/-! ### list comprehensions -/
def LcW (g : TG) (tt : TT) (te : TE) (vs : List Nat) (σ : L2.St) (Q : VK) : It → Hp → Prop := fun J H1 => ∀ D, H1 D = none → ∃ W : Nat → Nat → Hp → Prop, (∃ m, W 0 m (upd H1 D (.lst []))) ∧ ∀ i m H, W i m H →
  (J.stop i H ∧ Q (.ref D) H) ∨ (J.go i H ∧ ∃ Nx : Hp → Prop, (∀ H', Nx H' → ∃ m', m' < m ∧ W (i + 1) m' H') ∧ ∀ x H', J.yld i H x H' → g x (wipe σ vs) H' fun σ2 H2 => wipe σ2 vs = wipe σ vs ∧ tt σ2 H2 fun b H3 =>
    if b = true then te σ2 H3 fun y H4 => ∃ acc, H4 D = some (.lst acc) ∧ acc.length < sizeLine ∧ Nx (upd H4 D (.lst (acc ++ [y]))) else Nx H3)
section
variable {K : PySem.W.Frag} {σ : L2.St} {H : Hp} {g : TG} {tt : TT} {te : TE} {wi : TI} {vs : List Nat} {Q : VK} {lo : Int} {n : Nat} {a : Addr} {xs : List V} {QB : Bool → Hp → Prop}
theorem g_lc (h : wi σ H (LcW g tt te vs σ Q)) : tLc wi g tt te vs σ H Q := h
theorem g_yes (h : QB true H) : tYes σ H QB := h
theorem g_wipe {σ1 σ2 : L2.St} {A : Prop} (e : wipe σ1 vs = wipe σ2 vs) (h : A) : wipe σ1 vs = wipe σ2 vs ∧ A := ⟨e, h⟩
theorem l_range (Pv : Addr → Nat → Hp → Prop) (h0 : ∀ D, H D = none → Pv D 0 (upd H D (.lst [])))
    (hs : ∀ D, H D = none → ∀ i H', i < n → Pv D i H' → g (.int (lo + i)) (wipe σ vs) H' fun σ2 H2 => wipe σ2 vs = wipe σ vs ∧ tt σ2 H2 fun b H3 => if b = true then te σ2 H3 fun y H4 => ∃ acc, H4 D = some (.lst acc) ∧ acc.length < sizeLine ∧ Pv D (i + 1) (upd H4 D (.lst (acc ++ [y]))) else Pv D (i + 1) H3)
    (hd : ∀ D, H D = none → ∀ H', Pv D n H' → Q (.ref D) H') : LcW g tt te vs σ Q (Itr lo n) H := fun D hD => lc_range (Pv D) (h0 D hD) (hs D hD) (hd D hD)
theorem l_list (Pv : Addr → Nat → Hp → Prop) (h0 : ∀ D, H D = none → Pv D 0 (upd H D (.lst []))) (hl : ∀ D, H D = none → ∀ i H', i ≤ xs.length → Pv D i H' → SqL K H' a xs)
    (hs : ∀ D, H D = none → ∀ i x H', xs[i]? = some x → Pv D i H' → g x (wipe σ vs) H' fun σ2 H2 => wipe σ2 vs = wipe σ vs ∧ tt σ2 H2 fun b H3 => if b = true then te σ2 H3 fun y H4 => ∃ acc, H4 D = some (.lst acc) ∧ acc.length < sizeLine ∧ Pv D (i + 1) (upd H4 D (.lst (acc ++ [y]))) else Pv D (i + 1) H3)
    (hd : ∀ D, H D = none → ∀ H', Pv D xs.length H' → Q (.ref D) H') : LcW g tt te vs σ Q (Itl K a) H := fun D hD => lc_list (Pv D) (h0 D hD) (hl D hD) (hs D hD) (hd D hD)
theorem l_tup (Pv : Addr → Nat → Hp → Prop) (h0 : ∀ D, H D = none → Pv D 0 (upd H D (.lst []))) (hl : ∀ D, H D = none → ∀ i H', i ≤ xs.length → Pv D i H' → SqT K H' a xs)
    (hs : ∀ D, H D = none → ∀ i x H', xs[i]? = some x → Pv D i H' → g x (wipe σ vs) H' fun σ2 H2 => wipe σ2 vs = wipe σ vs ∧ tt σ2 H2 fun b H3 => if b = true then te σ2 H3 fun y H4 => ∃ acc, H4 D = some (.lst acc) ∧ acc.length < sizeLine ∧ Pv D (i + 1) (upd H4 D (.lst (acc ++ [y]))) else Pv D (i + 1) H3)
    (hd : ∀ D, H D = none → ∀ H', Pv D xs.length H' → Q (.ref D) H') : LcW g tt te vs σ Q (Itt K a) H := fun D hD => lc_tup (Pv D) (h0 D hD) (hl D hD) (hs D hD) (hd D hD)
end
section
variable {H H1 : Hp} {L : List (Addr × HO)} {a b : Addr} {o o' u u' : HO}
/-- two objects have changed -/
theorem Has.call2 (M : Has H L) (k : Keep [a, b] H H1) (i j : Nat) (hi : L[i]? = some (a, o)) (hj : L[j]? = some (b, u)) (hij : i ≠ j) (e1 : H1 a = some o') (e2 : H1 b = some u') : Has H1 ((L.set i (a, o')).set j (b, u')) := by
  have nab : a ≠ b := M.ne i j hi hj hij
  have k1 : Keep [a] H (upd H1 b u) := fun x w e n => by
    by_cases hx : x = b
    · subst hx
      rw [upd_same]
      exact (M.get j hj).symm.trans e
    · rw [upd_ne hx]
      refine k x w e ?_
      simp only [List.mem_cons, List.not_mem_nil, or_false, not_or]
      exact ⟨fun z => n (List.mem_singleton.mpr z), hx⟩
  have M1 : Has (upd H1 b u) (L.set i (a, o')) := M.call1 k1 i hi (by rw [upd_ne nab]; exact e1)
  have hj' : (L.set i (a, o'))[j]? = some (b, u) := by rw [List.getElem?_set_ne hij]; exact hj
  have M2 := M1.set (o' := u') j hj'
  have e : upd (upd H1 b u) b u' = H1 := by
    rw [upd_upd]
    funext x
    by_cases hx : x = b
    · subst hx
      rw [upd_same, e2]
    · rw [upd_ne hx]
  rw [e] at M2
  exact M2
end

/-! ### None asked -/
def rIsN (neg : Bool) : R2 := fun x y H Q => y = .non ∧ Q (.bl (if neg then !decide (x = .non) else decide (x = .non))) H
theorem o_isN {X : Cx} : OpR X (compareOp .Is) (rIsN false) := op_isN
theorem o_notN {X : Cx} : OpR X (compareOp .IsNot) (rIsN true) := op_notN
section
variable {H : Hp} {Q : VK} {i : Int} {z : Str} {b : Bool} {a : Addr}
theorem g_isNn (h : Q (.bl true) H) : rIsN false .non .non H Q := ⟨rfl, h⟩
theorem g_isNi (h : Q (.bl false) H) : rIsN false (.int i) .non H Q := ⟨rfl, h⟩
theorem g_isNs (h : Q (.bl false) H) : rIsN false (.str z) .non H Q := ⟨rfl, h⟩
theorem g_isNb (h : Q (.bl false) H) : rIsN false (.bl b) .non H Q := ⟨rfl, h⟩
theorem g_isNr (h : Q (.bl false) H) : rIsN false (.ref a) .non H Q := ⟨rfl, h⟩
theorem g_noNn (h : Q (.bl false) H) : rIsN true .non .non H Q := ⟨rfl, h⟩
theorem g_noNi (h : Q (.bl true) H) : rIsN true (.int i) .non H Q := ⟨rfl, h⟩
theorem g_noNs (h : Q (.bl true) H) : rIsN true (.str z) .non H Q := ⟨rfl, h⟩
theorem g_noNb (h : Q (.bl true) H) : rIsN true (.bl b) .non H Q := ⟨rfl, h⟩
theorem g_noNr (h : Q (.bl true) H) : rIsN true (.ref a) .non H Q := ⟨rfl, h⟩
end

/-! ### list.index, min and max of a list -/
def rIndexU (K : PySem.W.Frag) : V → List V → Hp → VK → Prop := rIndex K
theorem m_index {X : Cx} {K : PySem.W.Frag} (hK : X.K = K) : MtR X "list.index" (rIndexU K) := by
  subst hK
  exact mt_index
def rMin1 (K : PySem.W.Frag) : List V → Hp → VK → Prop := rMin K
def rMax1 (K : PySem.W.Frag) : List V → Hp → VK → Prop := rMax K
theorem c_min1 {X : Cx} {K : PySem.W.Frag} (hK : X.K = K) (hc : X.calm = true) : CallR X (.builtin "min") (rMin1 K) := by
  subst hK
  exact cr_min hc
theorem c_max1 {X : Cx} {K : PySem.W.Frag} (hK : X.K = K) (hc : X.calm = true) : CallR X (.builtin "max") (rMax1 K) := by
  subst hK
  exact cr_max hc
section
variable {K : PySem.W.Frag} {H : Hp} {Q : VK} {a : Addr} {ns : List Int} {ys : List V} {y z : V} {j : Nat}
theorem g_min1 (h : SqL K H a (ns.map V.int)) (h0 : 0 < ns.length) (q : ∀ m, m ∈ ns → (∀ y, y ∈ ns → m ≤ y) → Q (.int m) H) : rMin1 K [.ref a] H Q := ⟨a, ns, rfl, h, h0, q⟩
theorem g_max1 (h : SqL K H a (ns.map V.int)) (h0 : 0 < ns.length) (q : ∀ m, m ∈ ns → (∀ y, y ∈ ns → y ≤ m) → Q (.int m) H) : rMax1 K [.ref a] H Q := ⟨a, ns, rfl, h, h0, q⟩
theorem g_index (h : SqL K H a ys) (f1 : flatV y = true) (f2 : ys.all flatV = true) (hj : ys[j]? = some z) (e : eqV z y = true) (n : ∀ (m : Nat) (z' : V), m < j → ys[m]? = some z' → eqV z' y = false) (q : Q (.int (j : Nat)) H) : rIndexU K (.ref a) [y] H Q :=
  ⟨a, ys, y, j, z, rfl, rfl, h, f1, f2, hj, e, n, q⟩
end
end G

set_option Elab.async false
set_option linter.all false
set_option maxRecDepth 100000
set_option maxHeartbeats 4000000
/-! Data that never changes: None, bools, ints, texts, tuples of such. -/
namespace G
open PySem PySem.Spec PyProof.Rows L2

mutual
/-- the value v is the data d, by the heap H -/
inductive Im (H : Hp) : V → PyData → Prop
  | non : Im H .non .none
  | bl (b : Bool) : Im H (.bl b) (.bool b)
  | int (i : Int) : Im H (.int i) (.int i)
  | str (x : Str) : Im H (.str x) (.str x)
  | tup {a : Addr} {xs : List V} {ds : List PyData} : H a = some (.tup xs) → Ims H xs ds → Im H (.ref a) (.tuple ds)
inductive Ims (H : Hp) : List V → List PyData → Prop
  | nil : Ims H [] []
  | cons {v : V} {vs : List V} {d : PyData} {ds : List PyData} : Im H v d → Ims H vs ds → Ims H (v :: vs) (d :: ds)
end
section
variable {K : PySem.W.Frag} {H H' : Hp} {v x y : V} {d e : PyData} {vs xs : List V} {ds es : List PyData} {a b p : Addr} {ms : List Addr} {i : Int} {z : Str}
mutual
theorem Im.mono : ∀ {v : V} {d : PyData}, Im H v d → (∀ a xs, H a = some (.tup xs) → H' a = some (.tup xs)) → Im H' v d
  | _, _, .non, _ => .non
  | _, _, .bl b, _ => .bl b
  | _, _, .int i, _ => .int i
  | _, _, .str x, _ => .str x
  | _, _, .tup h hs, k => .tup (k _ _ h) (Ims.mono hs k)
theorem Ims.mono : ∀ {vs : List V} {ds : List PyData}, Ims H vs ds → (∀ a xs, H a = some (.tup xs) → H' a = some (.tup xs)) → Ims H' vs ds
  | _, _, .nil, _ => .nil
  | _, _, .cons h t, k => .cons (Im.mono h k) (Ims.mono t k)
end
theorem Im.same (h : Im H v d) (k : Same H H') : Im H' v d := h.mono fun a xs e => k a _ e
theorem Ims.same (h : Ims H vs ds) (k : Same H H') : Ims H' vs ds := h.mono fun a xs e => k a _ e
/-- no tuple stands at ms -/
def NoTup (H : Hp) (ms : List Addr) : Prop := ∀ m ∈ ms, ∀ xs, H m ≠ some (.tup xs)
theorem NoTup.nil : NoTup H [] := fun _ h => nomatch h
theorem NoTup.one {o : HO} (h : H a = some o) (n : ∀ xs, o ≠ .tup xs) : NoTup H [a] := fun m hm xs e => by
  rw [List.mem_singleton.mp hm, h] at e
  exact n xs (Option.some.inj e)
theorem NoTup.new (h : H a = none) : NoTup H [a] := fun m hm xs e => by
  rw [List.mem_singleton.mp hm, h] at e
  cases e
theorem NoTup.cons {o : HO} (h : H a = some o) (n : ∀ xs, o ≠ .tup xs) (t : NoTup H ms) : NoTup H (a :: ms) := fun m hm xs e => by
  rcases List.mem_cons.mp hm with z | z
  · rw [z, h] at e
    exact n xs (Option.some.inj e)
  · exact t m z xs e
theorem Im.keep (h : Im H v d) (k : Keep ms H H') (n : NoTup H ms) : Im H' v d := h.mono fun a xs e => k a _ e fun z => n a z xs e
theorem Ims.keep (h : Ims H vs ds) (k : Keep ms H H') (n : NoTup H ms) : Ims H' vs ds := h.mono fun a xs e => k a _ e fun z => n a z xs e
mutual
theorem Im.dp : ∀ {v : V} {d : PyData}, Im H v d → Dp K H v d
  | _, _, .non => .non
  | _, _, .bl b => .bl b
  | _, _, .int i => .int i
  | _, _, .str x => .str x
  | _, _, .tup h hs => .tup (SqT.of h) (Ims.dp hs)
theorem Ims.dp : ∀ {vs : List V} {ds : List PyData}, Ims H vs ds → DpAll K H vs ds
  | _, _, .nil => .nil
  | _, _, .cons h t => .cons (Im.dp h) (Ims.dp t)
end
theorem Ims.length : ∀ {vs : List V} {ds : List PyData}, Ims H vs ds → vs.length = ds.length
  | _, _, .nil => rfl
  | _, _, .cons _ t => by rw [List.length_cons, List.length_cons, t.length]
theorem Ims.get : ∀ {vs : List V} {ds : List PyData} {n : Nat} {d : PyData}, Ims H vs ds → ds[n]? = some d → ∃ v, vs[n]? = some v ∧ Im H v d
  | _, _, n, _, .nil, e => by simp at e
  | _, _, 0, _, .cons h t, e => by
    simp only [List.getElem?_cons_zero, Option.some.injEq] at e
    subst e
    exact ⟨_, rfl, h⟩
  | _, _, n + 1, _, .cons h t, e => by
    simp only [List.getElem?_cons_succ] at e
    obtain ⟨v, h1, h2⟩ := t.get e
    exact ⟨v, by simpa using h1, h2⟩
theorem Ims.append : ∀ {vs xs : List V} {ds es : List PyData}, Ims H vs ds → Ims H xs es → Ims H (vs ++ xs) (ds ++ es)
  | _, _, _, _, .nil, s => s
  | _, _, _, _, .cons h t, s => .cons h (t.append s)
theorem Ims.take : ∀ {vs : List V} {ds : List PyData} (n : Nat), Ims H vs ds → Ims H (vs.take n) (ds.take n)
  | _, _, 0, _ => .nil
  | _, _, _ + 1, .nil => .nil
  | _, _, n + 1, .cons h t => .cons h (t.take n)
theorem Ims.drop : ∀ {vs : List V} {ds : List PyData} (n : Nat), Ims H vs ds → Ims H (vs.drop n) (ds.drop n)
  | _, _, 0, h => h
  | _, _, _ + 1, .nil => .nil
  | _, _, n + 1, .cons _ t => t.drop n
theorem Ims.one (h : Im H v d) : Ims H [v] [d] := .cons h .nil
theorem Im.int_inv (h : Im H v (.int i)) : v = .int i := by cases h; rfl
theorem Im.bl_inv {b : Bool} (h : Im H v (.bool b)) : v = .bl b := by cases h; rfl
theorem Im.str_inv (h : Im H v (.str z)) : v = .str z := by cases h; rfl
theorem Im.non_inv (h : Im H v .none) : v = .non := by cases h; rfl
theorem Im.tup_inv (h : Im H v (.tuple ds)) : ∃ a xs, v = .ref a ∧ H a = some (.tup xs) ∧ Ims H xs ds := by
  cases h with
  | tup h hs => exact ⟨_, _, rfl, h, hs⟩
/-- the items of ds[lo:hi] -/
def cutD (ds : List PyData) (lo hi : Option Int) : List PyData := (ds.drop (HT.sIx ds.length 0 lo)).take (HT.sIx ds.length ds.length hi - HT.sIx ds.length 0 lo)
theorem Ims.cut {lo hi : Option Int} (h : Ims H vs ds) : Ims H (cutV vs lo hi) (cutD ds lo hi) := by
  unfold cutV cutD
  rw [h.length]
  exact (h.drop _).take _
theorem cutD_to {n : Nat} : cutD ds none (some (n : Int)) = ds.take n := by
  unfold cutD
  rw [HT.sIx_nat, HT.sIx_none, Nat.sub_zero, List.drop_zero]
  by_cases h : n ≤ ds.length
  · rw [Nat.min_eq_left h]
  · rw [Nat.min_eq_right (by omega), List.take_of_length_le (Nat.le_refl _), List.take_of_length_le (by omega)]
theorem cutD_from {n : Nat} : cutD ds (some (n : Int)) none = ds.drop n := by
  unfold cutD
  rw [HT.sIx_nat, HT.sIx_none]
  by_cases h : n ≤ ds.length
  · rw [Nat.min_eq_left h, List.take_of_length_le (by simp)]
  · rw [Nat.min_eq_right (by omega), List.drop_of_length_le (by omega), List.drop_of_length_le (by omega)]
    simp
theorem cutD_length (ds : List PyData) (lo hi : Option Int) : (cutD ds lo hi).length ≤ ds.length := by
  unfold cutD
  rw [List.length_take, List.length_drop]
  omega
end
/-! ### the steps over data -/
section
variable {K : PySem.W.Frag} {H : Hp} {Q : VK} {v x y : V} {d e : PyData} {vs xs : List V} {ds es : List PyData} {a b p : Addr} {i : Int} {z : Str} {n : Nat} {lo hi : Option Int} {R : It → Hp → Prop} {QB : Bool → Hp → Prop}
/-- a new tuple of data -/
theorem m_new (h : Ims H xs ds) (hl : ds.length ≤ 100000) (k : ∀ p H', Same H H' → H p = none → Im H' (.ref p) (.tuple ds) → Q (.ref p) H') : rTupN xs H Q :=
  ⟨szle (by rw [h.length]; exact hl), fun p hp => k p _ (Same.new hp) hp (.tup upd_same (h.same (Same.new hp)))⟩
theorem m_ix (h : Im H x (.tuple ds)) (e : i = (n : Int)) (hd : ds[n]? = some d) (k : ∀ v, Im H v d → Q v H) : rIxU K x (.int i) H Q := by
  obtain ⟨a, xs, rfl, h1, h2⟩ := h.tup_inv
  obtain ⟨v, hv, hm⟩ := h2.get hd
  exact g_ixT (SqT.of h1) e hv (k v hm)
theorem m_len (h : Im H x (.tuple ds)) (q : Q (.int (ds.length : Nat)) H) : rLenU K [x] H Q := by
  obtain ⟨a, xs, rfl, h1, h2⟩ := h.tup_inv
  refine g_lenT (SqT.of h1) ?_
  rw [h2.length]
  exact q
theorem m_eq (hx : Im H x d) (hy : Im H y e) (s1 : SeqAt.shaped d = true) (s2 : SeqAt.shaped e = true) (h : Q (.bl (PyData.eqv d e)) H) : rEqU K false x y H Q := g_eqD hx.dp hy.dp s1 s2 h
theorem m_ne (hx : Im H x d) (hy : Im H y e) (s1 : SeqAt.shaped d = true) (s2 : SeqAt.shaped e = true) (h : Q (.bl (!PyData.eqv d e)) H) : rEqU K true x y H Q := g_neD hx.dp hy.dp s1 s2 h
theorem m_cat (hx : Im H x (.tuple ds)) (hy : Im H y (.tuple es)) (hl : ds.length + es.length ≤ 100000) (k : ∀ p H', Same H H' → Im H' (.ref p) (.tuple (ds ++ es)) → Q (.ref p) H') : rAddU K x y H Q := by
  obtain ⟨a, xs, rfl, h1, h2⟩ := hx.tup_inv
  obtain ⟨b, ys, rfl, h3, h4⟩ := hy.tup_inv
  refine .inr ⟨a, b, xs, ys, rfl, rfl, SqT.of h1, SqT.of h3, szle (by rw [h2.length, h4.length]; exact hl), fun e => ?_, fun _ e => ?_, fun _ _ p hp => ?_⟩
  · subst e
    have : ds = [] := by cases h2; rfl
    subst this
    exact k b H (Same.refl H) hy
  · subst e
    have : es = [] := by cases h4; rfl
    subst this
    rw [List.append_nil] at k
    exact k a H (Same.refl H) hx
  · exact k p _ (Same.new hp) (.tup upd_same ((h2.append h4).same (Same.new hp)))
theorem m_sl (hx : Im H x (.tuple ds)) (k : ∀ p H', Same H H' → Im H' (.ref p) (.tuple (cutD ds lo hi)) → Q (.ref p) H') : rSlU K x lo hi H Q := by
  obtain ⟨a, xs, rfl, h1, h2⟩ := hx.tup_inv
  refine .inr (.inl ⟨a, xs, rfl, SqT.of h1, fun e => ?_, fun _ p hp => ?_⟩)
  · have z : cutD ds lo hi = ds := by
      unfold cutD
      rw [← h2.length, e.1, e.2, List.drop_zero, Nat.sub_zero, h2.length, List.take_length]
    rw [z] at k
    exact k a H (Same.refl H) hx
  · exact k p _ (Same.new hp) (.tup upd_same (h2.cut.same (Same.new hp)))
theorem m_isiT {T' : String} {b : Bool} (hx : Im H x (.tuple ds)) (hk : kitB "tuple" T' = some b) (h : Q (.bl b) H) : rIsi K [x, .ty T'] H Q := by
  obtain ⟨a, xs, rfl, h1, _⟩ := hx.tup_inv
  exact isi_of (.base (.tup h1)) hk h
theorem m_seq (hx : Im H x (.tuple ds)) (k : ∀ a xs, x = .ref a → H a = some (.tup xs) → Ims H xs ds → R (Itt K a) H) : (∃ b ys, x = .ref b ∧ SqL K H b ys ∧ R (Itl K b) H) ∨ ∃ b ys, x = .ref b ∧ SqT K H b ys ∧ R (Itt K b) H := by
  obtain ⟨a, xs, e, h1, h2⟩ := hx.tup_inv
  exact .inr ⟨a, xs, e, SqT.of h1, k a xs e h1 h2⟩
end
/-! tuple(..) -/
def rTupU (K : PySem.W.Frag) : List V → Hp → VK → Prop := fun vs H Q => ∃ x, vs = [x] ∧ kTup K x H Q
theorem c_tuple {X : Cx} {K : PySem.W.Frag} (hK : X.K = K) : CallR X (.type "tuple") (rTupU K) := by
  subst hK
  rintro pins s σ H _ us Q I r ⟨x, rfl, h⟩
  obtain ⟨u, rfl, ru⟩ := vals1 r
  exact rl_tuple pins s σ H x u Q I ru h
section
variable {K : PySem.W.Frag} {H : Hp} {Q : VK} {x : V} {a : Addr} {xs : List V} {ds : List PyData}
theorem m_tupleT (hx : Im H x (.tuple ds)) (q : Q x H) : rTupU K [x] H Q := by
  obtain ⟨a, xs, rfl, h1, _⟩ := hx.tup_inv
  exact ⟨_, rfl, .inr ⟨a, xs, rfl, SqT.of h1, q⟩⟩
theorem m_tupleL (h : SqL K H a xs) (hm : Ims H xs ds) (k : ∀ p H', Same H H' → H p = none → Im H' (.ref p) (.tuple ds) → Q (.ref p) H') : rTupU K [.ref a] H Q :=
  ⟨_, rfl, .inl ⟨a, xs, rfl, h, fun p hp => k p _ (Same.new hp) hp (.tup upd_same (hm.same (Same.new hp)))⟩⟩
end
/-! ### what == says -/
theorem shaped_of {d : PyData} (h : d.canLay0 = true) (h2 : d.depth ≤ 64) : SeqAt.shaped d = true := by
  unfold SeqAt.shaped
  rw [h, decide_eq_true h2]
  rfl
theorem layAll_mem : ∀ {ds : List PyData}, (∀ d ∈ ds, d.canLay0 = true) → PyData.canLayAll0 ds = true
  | [], _ => rfl
  | d :: ds, h => by
    rw [PyData.canLayAll0, h d List.mem_cons_self, layAll_mem fun x hx => h x (List.mem_cons_of_mem _ hx)]
    rfl
theorem depthAll_mem {k : Nat} : ∀ {ds : List PyData}, (∀ d ∈ ds, d.depth ≤ k) → PyData.depthAll ds ≤ k
  | [], _ => by rw [PyData.depthAll]; exact Nat.zero_le _
  | d :: ds, h => by
    rw [PyData.depthAll]
    exact Nat.max_le.mpr ⟨h d List.mem_cons_self, depthAll_mem fun x hx => h x (List.mem_cons_of_mem _ hx)⟩
/-- data of depth at most k -/
def Lay (k : Nat) (d : PyData) : Prop := d.canLay0 = true ∧ d.depth ≤ k
theorem Lay.shaped {k : Nat} {d : PyData} (h : Lay k d) (hk : k ≤ 64) : SeqAt.shaped d = true := shaped_of h.1 (Nat.le_trans h.2 hk)
theorem Lay.tup {k : Nat} {ds : List PyData} (h : ∀ d ∈ ds, Lay k d) : Lay (k + 1) (.tuple ds) :=
  ⟨by rw [PyData.canLay0]; exact layAll_mem fun d hd => (h d hd).1, by rw [PyData.depth]; exact Nat.succ_le_succ (depthAll_mem fun d hd => (h d hd).2)⟩
theorem Lay.int {k : Nat} {i : Int} : Lay k (.int i) := ⟨by rw [PyData.canLay0], by rw [PyData.depth]; exact Nat.zero_le _⟩
theorem Lay.bl {k : Nat} {b : Bool} : Lay k (.bool b) := ⟨by rw [PyData.canLay0], by rw [PyData.depth]; exact Nat.zero_le _⟩
theorem Lay.non {k : Nat} : Lay k .none := ⟨by rw [PyData.canLay0], by rw [PyData.depth]; exact Nat.zero_le _⟩
theorem Lay.str {k : Nat} {z : Str} (h : PyData.strOk z = true) : Lay k (.str z) := ⟨by rw [PyData.canLay0]; exact h, by rw [PyData.depth]; exact Nat.zero_le _⟩
theorem Lay.mono {k k' : Nat} {d : PyData} (h : Lay k d) (hk : k ≤ k') : Lay k' d := ⟨h.1, Nat.le_trans h.2 hk⟩
theorem Lay.refl {k : Nat} {d : PyData} (h : Lay k d) : PyData.eqv d d = true := SeqAt.eqv_refl d h.1
theorem inV_strs {k : Str} {ks : List Str} : inV (.str k) (ks.map V.str) = ks.contains k := by
  unfold inV
  induction ks with
  | nil => rfl
  | cons z ks ih =>
    rw [List.map_cons, List.any_cons, ih, List.contains_cons]
    congr 1
    have e : eqV (.str z) (.str k) = (z == k) := rfl
    rw [e]
    by_cases h : z = k
    · subst h; rfl
    · rw [beq_eq_false_iff_ne.mpr h, beq_eq_false_iff_ne.mpr (Ne.symm h)]
theorem flat_strs {ks : List Str} : (ks.map V.str).all flatV = true := by
  induction ks with
  | nil => rfl
  | cons z ks ih => rw [List.map_cons, List.all_cons, ih]; rfl
/-- a text within a new tuple, a new list of texts -/
theorem g_inTs {K : PySem.W.Frag} {H : Hp} {Q : VK} {k : Str} {p : Addr} {ks : List Str} (h : H p = some (.tup (ks.map V.str)) ∨ H p = some (.lst (ks.map V.str))) (q : Q (.bl (ks.contains k)) H) : rInU K false (.str k) (.ref p) H Q := by
  refine .inl ⟨p, ks.map V.str, rfl, ?_, rfl, flat_strs, ?_⟩
  · rcases h with h | h
    · exact .inr (SqT.of h)
    · exact .inl (SqL.of h)
  · rw [inV_strs]
    exact q
theorem g_niTs {K : PySem.W.Frag} {H : Hp} {Q : VK} {k : Str} {p : Addr} {ks : List Str} (h : H p = some (.tup (ks.map V.str)) ∨ H p = some (.lst (ks.map V.str))) (q : Q (.bl (!ks.contains k)) H) : rInU K true (.str k) (.ref p) H Q := by
  refine .inl ⟨p, ks.map V.str, rfl, ?_, rfl, flat_strs, ?_⟩
  · rcases h with h | h
    · exact .inr (SqT.of h)
    · exact .inl (SqL.of h)
  · rw [inV_strs]
    exact q
theorem map_take_succ {α β : Type} {f : α → β} {ds : List α} {i : Nat} {d : α} (h : ds[i]? = some d) : (ds.take (i + 1)).map f = (ds.take i).map f ++ [f d] := by
  rw [List.take_add_one, h, List.map_append]
  rfl
theorem filter_take_succ {α : Type} {f : α → Bool} {ds : List α} {i : Nat} {d : α} (h : ds[i]? = some d) : (ds.take (i + 1)).filter f = (ds.take i).filter f ++ (if f d then [d] else []) := by
  rw [List.take_add_one, h, List.filter_append]
  congr 1
  show [d].filter f = _
  rw [List.filter_cons]
  rfl
end G

set_option Elab.async false
set_option linter.all false
set_option maxRecDepth 100000
set_option maxHeartbeats 4000000
namespace K31
open PySem PySem.Spec PyProof.Rows L2 G
local macro_rules | `(tactic| walk_at "sc") => `(tactic| first | assumption | decide | omega | (simp only [List.length_cons, List.length_nil, List.length_append, List.length_map, List.length_replicate, List.length_set]; omega) | (show _ ≤ sizeLine; decide) | (show _ < sizeLine; decide))
local macro_rules | `(tactic| walk_at "sq") => `(tactic| first | assumption | exact SqL.of (by walk_at "hi") | exact SqT.of (by walk_at "hi"))
local macro_rules | `(tactic| walk_at "sd") => `(tactic| first | exact mul_ok (by walk_at "sc") (by walk_at "sc") | exact mul_ok' (by walk_at "sc") (by walk_at "sc"))
local macro_rules | `(tactic| walk_at "hi") => `(tactic| first | assumption | exact Has.get (by assumption) 0 rfl | exact Has.get (by assumption) 1 rfl | exact Has.get (by assumption) 2 rfl | exact Has.get (by assumption) 3 rfl | exact Has.get (by assumption) 4 rfl | exact Has.get (by assumption) 5 rfl | exact Has.get (by assumption) 6 rfl | exact Has.get (by assumption) 7 rfl | exact Has.get (by assumption) 8 rfl | exact Has.get (by assumption) 9 rfl)
local macro_rules | `(tactic| walk_at "s") => `(tactic| first
  | (with_reducible first
  | refine g_seq ?_ | refine g_asg ?_ | refine g_var rfl ?_ | refine g_c ?_ | refine g_op ?_ | refine g_name ?_ | refine g_consA ?_ | refine g_nilA ?_
  | refine g_test ?_ | refine g_exb ?_ | refine g_ifS ?_ | refine g_ret ?_ | refine g_call ?_ | refine g_cb ?_ | refine g_eqI ?_ | refine g_eqS ?_ | refine g_neI ?_ | refine g_neS ?_
  | refine g_cmpI ?_ | refine g_I0 ?_ | refine g_addI ?_ | refine g_intI ?_ | refine g_abs ?_ | refine g_max2 ?_ | refine g_min2 ?_ | refine g_next ?_ | refine g_drop ?_ | refine g_aug rfl ?_ | refine g_ipI ?_
  | refine g_tru ?_ | refine g_truB ?_ | refine g_truI ?_ | refine g_truN ?_ | refine g_not ?_ | refine g_and ?_ | refine g_or ?_ | refine g_notV ?_ | refine g_andV ?_ | refine g_orV ?_ | refine g_ifE ?_ | refine g_chain ?_
  | refine g_un ?_ | refine g_rU ?_ | refine g_retN ?_ | refine g_brk ?_ | refine g_ct ?_ | refine g_B ?_ | refine g_eqB ?_ | refine g_neB ?_ | refine g_bm ?_ | refine g_bm0 ?_ | refine g_intB ?_
  | refine g_disp ?_ | refine g_pairN ?_ | refine g_pairC ?_ | refine g_dput ?_ | refine g_isNn ?_ | refine g_isNi ?_ | refine g_isNs ?_ | refine g_isNb ?_ | refine g_isNr ?_ | refine g_noNn ?_ | refine g_noNi ?_ | refine g_noNs ?_ | refine g_noNb ?_ | refine g_noNr ?_ | refine g_lc ?_ | refine g_yes ?_ | refine g_sfld ?_ | refine g_meth ?_ | refine g_make ?_ | refine g_sub ?_ | refine g_sl ?_ | refine g_part ?_ | refine g_exi ?_ | refine g_noPart ?_ | refine g_for ?_ | refine g_iR ?_ | refine g_iSeq ?_ | refine g_isiIi ?_ | refine g_isiIb ?_ | refine g_isiIs ?_ | refine g_isiIt ?_ | refine g_isiBi ?_ | refine g_isiBb ?_ | refine g_isiBs ?_ | refine g_isiBt ?_ | refine g_isiSi ?_ | refine g_isiSb ?_ | refine g_isiSs ?_ | refine g_isiSt ?_ | refine g_isiNi ?_ | refine g_isiNb ?_ | refine g_isiNs ?_ | refine g_isiNt ?_
  | refine g_ifT ?_ | refine g_ifF ?_ | refine g_ifNT ?_ | refine g_ifNF ?_ | refine g_tup ?_ | refine g_lst ?_)
  | ((with_reducible refine g_mod ?c ?_); (case c => walk_at "sc")) | ((with_reducible refine g_fdiv ?c ?d ?_); (case c => walk_at "sc"); (case d => walk_at "sc")) | ((with_reducible refine g_shr ?c ?_); (case c => walk_at "sc"))
  | ((with_reducible refine g_shl ?c ?d ?e ?_); (case c => walk_at "sc"); (case d => walk_at "sc"); (case e => walk_at "sc")) | ((with_reducible refine g_pow ?c ?d ?e ?_); (case c => walk_at "sc"); (case d => walk_at "sc"); (case e => walk_at "sc")) | ((with_reducible refine g_mulI ?c ?_); (case c => walk_at "sd"))
  | ((with_reducible refine g_wipe ?e ?_); (case e => rfl)) | walk_at "fld" | ((with_reducible refine g_rR1 ?c1 ?c2 ?_); (case c1 => walk_at "sc"); (case c2 => walk_at "sc")) | ((with_reducible refine g_rR2 ?c1 ?_); (case c1 => exact ⟨by walk_at "sc", by walk_at "sc", by walk_at "sc", by walk_at "sc"⟩))
  | ((with_reducible refine' g_lenM ?c ?_); (case c => walk_at "sq")) | ((with_reducible refine' g_lenL ?c ?_); (case c => walk_at "sq")) | ((with_reducible refine' g_seqL ?c ?_); (case c => walk_at "sq"))
  | ((with_reducible refine' g_ty_ ?c ?_); (case c => exact .inl ⟨rfl, _, by walk_at "sq"⟩)))
local macro_rules | `(tactic| walk_at "go") => `(tactic| repeat walk_at "s")
local macro_rules | `(tactic| walk_at "len") => `(tactic| (intro vs H Q E h; first | (obtain ⟨e, _⟩ := h; rw [e]; rfl) | (obtain ⟨_, e, _⟩ := h; rw [e]; rfl) | (obtain ⟨_, _, e, _⟩ := h; rw [e]; rfl) | (obtain ⟨_, _, _, e, _⟩ := h; rw [e]; rfl) | (obtain ⟨_, _, _, _, e, _⟩ := h; rw [e]; rfl) | (obtain ⟨_, _, _, _, _, e, _⟩ := h; rw [e]; rfl) | (obtain ⟨_, _, _, _, _, _, e, _⟩ := h; rw [e]; rfl) | (obtain ⟨_, _, _, _, _, _, _, e, _⟩ := h; rw [e]; rfl) | (obtain ⟨_, _, _, _, _, _, _, _, e, _⟩ := h; rw [e]; rfl) | (obtain ⟨_, _, _, _, _, _, _, _, _, e, _⟩ := h; rw [e]; rfl) | (obtain ⟨_, _, _, _, _, _, _, _, _, _, e, _⟩ := h; rw [e]; rfl) | (obtain ⟨_, _, _, _, _, _, _, _, _, _, _, e, _⟩ := h; rw [e]; rfl) | (obtain ⟨_, _, _, _, _, _, _, _, _, _, _, _, e, _⟩ := h; rw [e]; rfl) | (obtain ⟨_, _, _, _, _, _, _, _, _, _, _, _, _, e, _⟩ := h; rw [e]; rfl) | (obtain ⟨_, _, _, _, _, _, _, _, _, _, _, _, _, _, e, _⟩ := h; rw [e]; rfl) | (obtain ⟨_, _, _, _, _, _, _, _, _, _, _, _, _, _, _, e, _⟩ := h; rw [e]; rfl) | (obtain ⟨_, _, _, _, _, _, _, _, _, _, _, _, _, _, _, _, e, _⟩ := h; rw [e]; rfl) | (obtain ⟨_, _, _, _, _, _, _, _, _, _, _, _, _, _, _, _, _, e, _⟩ := h; rw [e]; rfl) | (obtain ⟨_, _, _, _, _, _, _, _, _, _, _, _, _, _, _, _, _, _, e, _⟩ := h; rw [e]; rfl) | (obtain ⟨_, _, _, _, _, _, _, _, _, _, _, _, _, _, _, _, _, _, _, e, _⟩ := h; rw [e]; rfl) | (obtain ⟨_, _, _, _, _, _, _, _, _, _, _, _, _, _, _, _, _, _, _, _, e, _⟩ := h; rw [e]; rfl) | (obtain ⟨_, _, _, _, _, _, _, _, _, _, _, _, _, _, _, _, _, _, _, _, _, e, _⟩ := h; rw [e]; rfl) | (obtain ⟨_, _, _, _, _, _, _, _, _, _, _, _, _, _, _, _, _, _, _, _, _, _, e, _⟩ := h; rw [e]; rfl) | (obtain ⟨_, _, _, _, _, _, _, _, _, _, _, _, _, _, _, _, _, _, _, _, _, _, _, e, _⟩ := h; rw [e]; rfl)))

def topS (i : Nat) : Stmt := PySem.Challenge.pw_sameclock_k31_views_and_where_traces_par.main.body.getD i (.Pass ⟨0, 0, 0, 0⟩)
def dOf (x : Str) (i : Nat) : He.DefD := ⟨(x, none), x, x, defArgs (topS i), defBody (topS i), defScope (topS i), [], []⟩
def mOf (c m q : Str) (s : Stmt) : He.DefD := ⟨(c, some m), m, q, defArgs s, defBody s, defScope s, [], []⟩
def fn : List He.DefD := [dOf "without_time" 1, dOf "view" 2, dOf "apart" 3, dOf "_law_draws" 5, dOf "_law_reader" 6, dOf "_law_next" 7, dOf "_law_event" 8, dOf "_law_other" 9, dOf "_law_viewed" 10, dOf "_law_parted" 11, dOf "law" 12]
def fa : List He.Fa := [.glo "without_time", .glo "view", .glo "apart", .glo "_law_draws", .glo "_law_reader", .glo "_law_next", .glo "_law_event", .glo "_law_other", .glo "_law_viewed", .glo "_law_parted", .glo "law", .free "abs", .free "int", .free "isinstance", .free "len", .free "min", .free "range", .free "tuple"]
variable {P : Program} {w : World} {K : PySem.W.Frag} {mg : Str → Option Value} {base : Heap}
def sp_law_draws (K : PySem.W.Frag) : Sp := fun vs H Q _ => ∃ (a : Addr) (ns : List Int), vs = [.ref a] ∧ SqL K H a (ns.map V.int) ∧ ns.length ≤ 63 ∧
  ∀ H' p (row : List Int), Same H H' → H p = none → H' p = some (.lst (row.map V.int)) → (∀ x ∈ row, 0 ≤ x ∧ x < 1000) → row.length ≤ 1260 → Q (.ref p) H'
structure DrI (H : Hp) (a p : Addr) (b : Nat) (cell : Option V → Prop) (σ : L2.St) (H' : Hp) : Prop where
  ex : ∃ (row : List Int) (k c t m : Option V), σ = [some (.ref a), some (.ref p), k, c, t, m] ∧ cell c ∧ Same H H' ∧ Has H' [(p, .lst (row.map V.int))] ∧ (∀ x ∈ row, 0 ≤ x ∧ x < 1000) ∧ row.length ≤ b
theorem app_map {row : List Int} {x : Int} : row.map V.int ++ [V.int x] = (row ++ [x]).map V.int := by simp
theorem sc_law_draws : FnScope ["script", "draws", "k", "cell", "turn", "mixed"] ["script"] (defScope (topS 5)) := ⟨rfl, rfl, rfl, by decide +kernel, rfl, by decide +kernel, by decide +kernel⟩
theorem ok_law_draws (T : Txt fa fn K mg) : Dn P w K mg base CX0 1 "_law_draws" ["script"] (sp_law_draws K) := by
  refine mk_dn (d := dOf "_law_draws" 5) T 3 3 rfl rfl rfl rfl rfl sc_law_draws (by walk_at "len") (fun _ _ _ _ _ _ us hl => match us, hl with | [_], _ => rfl) (fun cdv A outer s H vs Q E hr h => ⟨_, (pss_cons (ps_set (i := 1) sc_law_draws.nd rfl (.inl rfl) (pe_lst pa_nil))
      (pss_cons (ps_for PassesOwn.never rfl (pi_r1 rfl (T.free 16 rfl) (pa_cons (pe_callB (c_min2 rfl) rfl (T.free 15 rfl) (by decide +kernel) (pa_cons (pe_callB (c_len (K := K) rfl) rfl (T.free 14 rfl) (by decide +kernel) (pa_cons (pv 0) pa_nil)) (pa_cons pe_int pa_nil))) pa_nil)) (pg_name (i := 2) sc_law_draws.nd rfl (.inl rfl)) (pss_cons (ps_set (i := 3) sc_law_draws.nd rfl (.inl rfl) (pe_callB c_abs rfl (T.free 11 rfl) (by decide +kernel) (pa_cons (pe_ixU (K := K) rfl (hu_of hr) (pv 0) (pv 2)) pa_nil)))
      (pss_one (ps_if (pt_cmpR o_ge (pv 3) (pe_op o_pow pe_int pe_int) (nomark _)) (pss_one (ps_for PassesOwn.never rfl (pi_r1 rfl (T.free 16 rfl) (pa_cons pe_int pa_nil)) (pg_name (i := 4) sc_law_draws.nd rfl (.inl rfl)) (pss_one (ps_if (pt_cmpR o_gt (pv 3) pe_int (nomark _)) (pss_cons (ps_expr (pe_bm PySem.F.plainAttrs_list PySem.F.slot_list_append PySem.F.type_list_append mt_append (pv 1) (pa_cons (pe_op o_mod (pv 3) pe_int) pa_nil)))
      (pss_one (ps_set (i := 3) sc_law_draws.nd rfl (.inl rfl) (pe_op o_fdiv (pv 3) pe_int)))) pss_nil)))) (pss_cons (ps_set (i := 5) sc_law_draws.nd rfl (.inl rfl) (pe_op o_mod (pe_callTy c_int rfl (T.free 12 rfl) (by decide +kernel) (pa_cons (pe_op (op_addU (K := K) rfl) (pe_op (op_addU (K := K) rfl) (pe_op op_mulU (pe_ixU (K := K) rfl (hu_of hr) (pv 0) (pv 2)) pe_int) (pe_op op_mulU (pv 2) pe_int)) pe_int) pa_nil)) pe_int))
      (pss_one (ps_for PassesOwn.never rfl (pi_r1 rfl (T.free 16 rfl) (pa_cons pe_int pa_nil)) (pg_name (i := 4) sc_law_draws.nd rfl (.inl rfl)) (pss_cons (ps_set (i := 5) sc_law_draws.nd rfl (.inl rfl) (pe_op o_mod (pe_callTy c_int rfl (T.free 12 rfl) (by decide +kernel) (pa_cons (pe_op (op_addU (K := K) rfl) (pe_op (op_addU (K := K) rfl) (pe_op op_mulU (pv 5) (pv 5)) (pe_op op_mulU (pv 4) pe_int)) pe_int) pa_nil)) pe_int))
      (pss_one (ps_expr (pe_bm PySem.F.plainAttrs_list PySem.F.slot_list_append PySem.F.type_list_append mt_append (pv 1) (pa_cons (pe_op o_mod (pv 5) pe_int) pa_nil))))))))))))
      (pss_one (ps_ret (pv 1))))), ?_⟩)
  obtain ⟨a, ns, rfl, hS, hlen, hQ⟩ := h
  walk_at "go"
  refine ⟨by decide, fun p hp => ?_⟩
  walk_at "go"
  have hS1 : SqL K (upd H p (.lst [])) a (ns.map V.int) := (Same.new hp).seq hS
  refine g_lenL hS1 ?_
  walk_at "go"
  have hn : (ns.map V.int).length = ns.length := List.length_map _
  rw [hn]
  have hj : (if (63 : Int) < (ns.length : Int) then (63 : Int) else (ns.length : Int)).toNat = ns.length := by split <;> omega
  rw [hj]
  have M0 : Has (upd H p (.lst [])) [(p, .lst (([] : List Int).map V.int))] := Has.one upd_same
  refine f_range (fun i σ H' => ∃ (row : List Int) (k c t m : Option V), σ = [some (.ref a), some (.ref p), k, c, t, m] ∧ Same H H' ∧ Has H' [(p, .lst (row.map V.int))] ∧ (∀ x ∈ row, 0 ≤ x ∧ x < 1000) ∧ row.length ≤ 20 * i)
    ⟨[], _, _, _, _, rfl, Same.new hp, M0, (fun _ h => nomatch h), Nat.le_refl _⟩ ?_ ?_
  · rintro i σ H' hi ⟨row, k, c, t, m, rfl, hs, M, hr1, hr2⟩
    walk_at "go"
    have hS2 := hs.seq hS
    obtain ⟨z, hz⟩ : ∃ z, ns[i]? = some z := ⟨_, List.getElem?_eq_getElem hi⟩
    have hz' : (ns.map V.int)[i]? = some (V.int z) := by rw [List.getElem?_map, hz]; rfl
    refine g_ixL hS2 (n := i) (by omega) hz' ?_
    walk_at "go"
    have hb : 0 ≤ (if z < 0 then -z else z) := by split <;> omega
    generalize (if z < 0 then -z else z) = cell at hb
    refine g_if (fun hc => ?_) (fun hc => ?_)
    · walk_at "go"
      refine f_range (fun j σ H' => ∃ (row : List Int) (cell : Int) (k t m : Option V), σ = [some (.ref a), some (.ref p), k, some (.int cell), t, m] ∧ 0 ≤ cell ∧ Same H H' ∧ Has H' [(p, .lst (row.map V.int))] ∧ (∀ x ∈ row, 0 ≤ x ∧ x < 1000) ∧ row.length ≤ 20 * i + j)
        ⟨row, cell, _, _, _, rfl, hb, hs, M, hr1, by omega⟩ ?_ ?_
      · rintro j σ H2 hj ⟨row, cell, k, t, m, rfl, hb, hs, M, hr1, hr2⟩
        walk_at "go"
        refine g_if (fun h0 => ?_) (fun h0 => ?_)
        · walk_at "go"
          refine g_append M 0 rfl (szl (by rw [List.length_map]; have hj' : j < 20 := hj; omega)) (fun M1 => ?_)
          walk_at "go"
          refine ⟨row ++ [cell % 1000], cell / 1000, _, _, _, rfl, by omega, Same.mut hs hp, by rw [← app_map]; exact M1, ?_, by rw [List.length_append]; simp; omega⟩
          intro x hx
          rcases List.mem_append.mp hx with hx | hx
          · exact hr1 x hx
          · rw [List.mem_singleton.mp hx]
            omega
        · walk_at "go"
          exact ⟨row, cell, _, _, _, rfl, hb, hs, M, hr1, by omega⟩
      · rintro σ H2 ⟨row, cell, k, t, m, rfl, hb, hs, M, hr1, hr2⟩
        walk_at "go"
        exact ⟨row, _, _, _, _, rfl, hs, M, hr1, by have h20 : (20 : Int).toNat = 20 := rfl; omega⟩
    · walk_at "go"
      have hz2 := hs.seq hS
      refine g_ixL hz2 (n := i) (by omega) hz' ?_
      walk_at "go"
      refine f_range (fun j σ H' => ∃ (row : List Int) (mixed : Int) (k c t : Option V), σ = [some (.ref a), some (.ref p), k, c, t, some (.int mixed)] ∧ 0 ≤ mixed ∧ mixed < 2147483647 ∧ Same H H' ∧ Has H' [(p, .lst (row.map V.int))] ∧ (∀ x ∈ row, 0 ≤ x ∧ x < 1000) ∧ row.length ≤ 20 * i + j)
        ⟨row, _, _, _, _, rfl, Int.emod_nonneg _ (by decide), Int.emod_lt_of_pos _ (by decide), hs, M, hr1, by omega⟩ ?_ ?_
      · rintro j σ H2 hj ⟨row, mixed, k, c, t, rfl, hm0, hm1, hs, M, hr1, hr2⟩
        walk_at "go"
        have hj' : j < 3 := hj
        refine g_append M 0 rfl (szl (by rw [List.length_map]; omega)) (fun M1 => ?_)
        walk_at "go"
        refine ⟨row ++ [_], _, _, _, _, rfl, Int.emod_nonneg _ (by decide), Int.lt_of_lt_of_le (Int.emod_lt_of_pos _ (by decide)) (by decide), Same.mut hs hp, by rw [← app_map]; exact M1, ?_, by rw [List.length_append]; simp; omega⟩
        intro x hx
        rcases List.mem_append.mp hx with hx | hx
        · exact hr1 x hx
        · rw [List.mem_singleton.mp hx]
          exact ⟨Int.emod_nonneg _ (by decide), Int.emod_lt_of_pos _ (by decide)⟩
      · rintro σ H2 ⟨row, mixed, k, c, t, rfl, hm0, hm1, hs, M, hr1, hr2⟩
        walk_at "go"
        exact ⟨row, _, _, _, _, rfl, hs, M, hr1, by have h20 : (3 : Int).toNat = 3 := rfl; omega⟩
  · rintro σ H' ⟨row, k, c, t, m, rfl, hs, M, hr1, hr2⟩
    walk_at "go"
    exact hQ H' p row hs hp (M.get 0 rfl) hr1 (by omega)

def sp_law_reader (K : PySem.W.Frag) : Sp := fun vs H Q _ => ∃ (a : Addr) (ns : List Int), vs = [.ref a] ∧ SqL K H a (ns.map V.int) ∧ ns.length ≤ 63 ∧
  ∀ H' d r (row : List Int) (sd : Int), Same H H' → H d = none → H r = none → Has H' [(d, .dK (drK r 0 sd)), (r, .lst (row.map V.int))] → RowOk row sd → Q (.ref d) H'
theorem sc_law_reader : FnScope ["script", "row", "seed"] ["script"] (defScope (topS 6)) := ⟨rfl, rfl, rfl, by decide +kernel, rfl, by decide +kernel, by decide +kernel⟩
theorem ok_law_reader (T : Txt fa fn K mg) : Dn P w K mg base CX0 2 "_law_reader" ["script"] (sp_law_reader K) := by
  refine mk_dn (d := dOf "_law_reader" 6) T 4 4 rfl rfl rfl rfl rfl sc_law_reader (by walk_at "len") (fun _ _ _ _ _ _ us hl => match us, hl with | [_], _ => rfl) (fun cdv A outer s H vs Q E hr h => ⟨_, (pss_cons (ps_set (i := 1) sc_law_reader.nd rfl (.inl rfl) (pe_callD (K := K) rfl (ok_law_draws T) (hr.mono (by decide)) rfl pass0 (pa_cons (pv 0) pa_nil)))
      (pss_cons (ps_set (i := 2) sc_law_reader.nd rfl (.inl rfl) pe_int)
      (pss_cons (ps_if (pt_cmpR o_gt (pe_callB (c_len (K := K) rfl) rfl (T.free 14 rfl) (by decide +kernel) (pa_cons (pv 0) pa_nil)) pe_int (nomark _)) (pss_one (ps_set (i := 2) sc_law_reader.nd rfl (.inl rfl) (pe_op o_mod (pe_callB c_abs rfl (T.free 11 rfl) (by decide +kernel) (pa_cons (pe_ixU (K := K) rfl (hu_of hr) (pv 0) (pe_un un_neg pe_int)) pa_nil)) pe_int))) pss_nil)
      (pss_one (ps_ret (pe_disp (pps_cons pe_str (pv 1) (pps_cons pe_str pe_int (pps_cons pe_str (pv 2) pps_nil))) (by rfl) (by rfl) (fun z => by cases z) (by decide))))))), ?_⟩)
  obtain ⟨a, ns, rfl, hS, hlen, hQ⟩ := h
  walk_at "go"
  refine ⟨a, ns, rfl, hS, hlen, fun H1 p row s1 hp hr hr1 hr2 => ?_⟩
  walk_at "go"
  have hS1 := s1.seq hS
  refine g_lenL hS1 ?_
  walk_at "go"
  have fin : ∀ (sd : Int), 0 ≤ sd → sd < 1000003 → ∀ d, H1 d = none → upd H1 d (.dK []) d = some (.dK []) ∧ ∃ kvs : List (Key × V), [(V.str "row", V.ref p), (V.str "at", V.int 0), (V.str "seed", V.int sd)] = kvs.map (fun kv => (kV kv.1, kv.2)) ∧ kvs.length ≤ 15 ∧ Q (.ref d) (upd (upd H1 d (.dK [])) d (.dK (mergeK [] kvs))) := by
    intro sd h0 h1 d hd
    refine ⟨upd_same, [(.inr "row", .ref p), (.inr "at", .int 0), (.inr "seed", .int sd)], rfl, (by show 3 ≤ 15; decide), ?_⟩
    rw [dr_made, upd_upd]
    refine hQ _ d p row sd (Same.new' s1 hd) (s1.free hd) hp ?_ ⟨hr1, hr2, h0, h1⟩
    have M : Has (upd H1 d (.dK (drK p 0 sd))) ([(p, .lst (row.map V.int))] ++ [(d, .dK (drK p 0 sd))]) := (Has.one hr).new hd
    exact M.perm (List.perm_append_comm (l₁ := [_]) (l₂ := [_]))
  refine g_if (fun h0 => ?_) (fun h0 => ?_)
  · walk_at "go"
    have hn : (ns.map V.int).length = ns.length := List.length_map _
    rw [hn] at h0
    obtain ⟨z, hz⟩ : ∃ z, ns[ns.length - 1]? = some z := ⟨_, List.getElem?_eq_getElem (by omega)⟩
    have hz' : (ns.map V.int)[ns.length - 1]? = some (V.int z) := by rw [List.getElem?_map, hz]; rfl
    refine g_ixL' hS1 (v := .int z) ?_ ?_
    · show (ixN _ (-1)).bind _ = _
      unfold ixN
      rw [if_neg (by decide), if_pos (by omega), hn]
      have e : ((-1 : Int) + (ns.length : Int)).toNat = ns.length - 1 := by omega
      show (ns.map V.int)[((-1 : Int) + (ns.length : Int)).toNat]? = _
      rw [e]
      exact hz'
    · walk_at "go"
      intro d hd
      walk_at "go"
      exact fin _ (Int.emod_nonneg _ (by decide)) (Int.emod_lt_of_pos _ (by decide)) d hd
  · walk_at "go"
    intro d hd
    walk_at "go"
    exact fin _ (by decide) (by decide) d hd
def sp_law_next (K : PySem.W.Frag) : Sp := fun vs H Q _ => ∃ (d r : Addr) (n sd m : Int) (row : List Int), vs = [.ref d, .int m] ∧ H d = some (.dK (drK r n sd)) ∧ H r = some (.lst (row.map V.int)) ∧ RowOk row sd ∧ 0 ≤ n ∧ 0 < m ∧
  ∀ H' v, Keep [d] H H' → H' d = some (.dK (drK r (n + 1) sd)) → 0 ≤ v → v < m → Q (.int v) H'
theorem sc_law_next : FnScope ["draws", "many", "at", "mixed"] ["draws", "many"] (defScope (topS 7)) := ⟨rfl, rfl, rfl, by decide +kernel, rfl, by decide +kernel, by decide +kernel⟩
theorem ok_law_next (T : Txt fa fn K mg) : Dn P w K mg base CX0 1 "_law_next" ["draws", "many"] (sp_law_next K) := by
  refine mk_dn (d := dOf "_law_next" 7) T 5 5 rfl rfl rfl rfl rfl sc_law_next (by walk_at "len") (fun _ _ _ _ _ _ us hl => match us, hl with | [_, _], _ => rfl) (fun cdv A outer s H vs Q E hr h => ⟨_, (pss_cons (ps_set (i := 2) sc_law_next.nd rfl (.inl rfl) (pe_ixU (K := K) rfl (hu_of hr) (pv 0) pe_str))
      (pss_cons (ps_dput (hu_of hr) (pv 0) pe_str (pe_op (op_addU (K := K) rfl) (pv 2) pe_int) rfl)
      (pss_cons (ps_if (pt_cmpR o_lt (pv 2) (pe_callB (c_len (K := K) rfl) rfl (T.free 14 rfl) (by decide +kernel) (pa_cons (pe_ixU (K := K) rfl (hu_of hr) (pv 0) pe_str) pa_nil)) (nomark _)) (pss_one (ps_ret (pe_op o_mod (pe_callTy c_int rfl (T.free 12 rfl) (by decide +kernel) (pa_cons (pe_ixU (K := K) rfl (hu_of hr) (pe_ixU (K := K) rfl (hu_of hr) (pv 0) pe_str) (pv 2)) pa_nil)) (pv 1)))) pss_nil)
      (pss_cons (ps_set (i := 3) sc_law_next.nd rfl (.inl rfl) (pe_op o_mod (pe_callTy c_int rfl (T.free 12 rfl) (by decide +kernel) (pa_cons (pe_op op_mulU (pe_op (op_addU (K := K) rfl) (pe_op (op_addU (K := K) rfl) (pe_ixU (K := K) rfl (hu_of hr) (pv 0) pe_str) (pe_op op_mulU pe_int (pv 2))) pe_int) pe_int) pa_nil)) pe_int))
      (pss_one (ps_ret (pe_op o_mod (pe_op o_fdiv (pe_op o_mod (pe_callTy c_int rfl (T.free 12 rfl) (by decide +kernel) (pa_cons (pe_op (op_addU (K := K) rfl) (pe_op op_mulU (pv 3) (pv 3)) (pv 2)) pa_nil)) pe_int) pe_int) (pv 1)))))))), ?_⟩)
  obtain ⟨d, r, n, sd, m, row, rfl, hd, hr, ok, hn, hm, hQ⟩ := h
  walk_at "go"
  refine g_ixD (dg_at hd) ?_
  walk_at "go"
  refine ⟨d, _, rfl, dp_at (n + 1) hd, ?_⟩
  have ne : r ≠ d := ne_of hr hd (by intro z; cases z)
  have hd1 : upd H d (.dK (drK r (n + 1) sd)) d = some (.dK (drK r (n + 1) sd)) := upd_same
  have hr1 : upd H d (.dK (drK r (n + 1) sd)) r = some (.lst (row.map V.int)) := by rw [upd_ne ne]; exact hr
  have hk : Keep [d] H (upd H d (.dK (drK r (n + 1) sd))) := Keep.set (List.mem_singleton.mpr rfl)
  walk_at "go"
  refine g_ixD (dg_row hd1) ?_
  walk_at "go"
  refine g_if (fun h0 => ?_) (fun h0 => ?_)
  · walk_at "go"
    refine g_ixD (dg_row hd1) ?_
    walk_at "go"
    obtain ⟨z, hz⟩ : ∃ z, row[n.toNat]? = some z := ⟨_, List.getElem?_eq_getElem (by omega)⟩
    refine g_ixL (SqL.of hr1) (n := n.toNat) (by omega) (by rw [List.getElem?_map, hz]; rfl) ?_
    walk_at "go"
    exact hQ _ _ hk hd1 (Int.emod_nonneg _ (by omega)) (Int.emod_lt_of_pos _ hm)
  · walk_at "go"
    refine g_ixD (dg_seed hd1) ?_
    walk_at "go"
    exact hQ _ _ hk hd1 (Int.emod_nonneg _ (by omega)) (Int.emod_lt_of_pos _ hm)
theorem use_next {H : Hp} {d r : Addr} {n sd m : Int} {row : List Int} {Q : VK} {E : XK} (hd : H d = some (.dK (drK r n sd))) (hr : H r = some (.lst (row.map V.int))) (ok : RowOk row sd) (hn : 0 ≤ n) (hm : 0 < m)
    (k : ∀ H' v, Keep [d] H H' → H' d = some (.dK (drK r (n + 1) sd)) → H' r = some (.lst (row.map V.int)) → 0 ≤ v → v < m → Q (.int v) H') : sp_law_next K ([.ref d, .int m] ++ []) H Q E :=
  ⟨d, r, n, sd, m, row, rfl, hd, hr, ok, hn, hm, fun H' v kp h1 h2 h3 => k H' v kp h1 (kp r _ hr (by
    have ne : r ≠ d := ne_of hr hd (by intro z; cases z)
    simpa using ne)) h2 h3⟩
theorem use_nextM {H : Hp} {L : List (Addr × HO)} {d r : Addr} {n sd m : Int} {row : List Int} {Q : VK} {E : XK} (M : Has H ((d, .dK (drK r n sd)) :: (r, .lst (row.map V.int)) :: L)) (ok : RowOk row sd) (hn : 0 ≤ n) (hm : 0 < m)
    (k : ∀ H' v, Keep [d] H H' → Has H' ((d, .dK (drK r (n + 1) sd)) :: (r, .lst (row.map V.int)) :: L) → 0 ≤ v → v < m → Q (.int v) H') : sp_law_next K ([.ref d, .int m] ++ []) H Q E :=
  ⟨d, r, n, sd, m, row, rfl, M.get 0 rfl, M.get 1 rfl, ok, hn, hm, fun H' v kp h1 h2 h3 => k H' v kp (M.call1 kp 0 rfl h1) h2 h3⟩

/-! ### events, views, where two part -/
/-- an event: a kind, a time, more -/
structure Evd (d : PyData) : Prop where
  ex : ∃ (k : Str) (t : Int) (rest : List PyData), d = .tuple (.str k :: .int t :: rest) ∧ PyData.strOk k = true ∧ (∀ x ∈ rest, Lay 0 x) ∧ rest.length ≤ 2
theorem Evd.lay {d : PyData} (h : Evd d) : Lay 1 d := by
  obtain ⟨k, t, rest, rfl, h1, h2, _⟩ := h.ex
  refine Lay.tup fun x hx => ?_
  rcases List.mem_cons.mp hx with rfl | hx
  · exact .str h1
  · rcases List.mem_cons.mp hx with rfl | hx
    · exact .int
    · exact h2 x hx
def wt : PyData → PyData
  | .tuple (k :: _ :: rest) => .tuple (k :: rest)
  | d => d
theorem wt_lay {d : PyData} (h : Evd d) : Lay 1 (wt d) := by
  obtain ⟨k, t, rest, rfl, h1, h2, _⟩ := h.ex
  refine Lay.tup fun x hx => ?_
  rcases List.mem_cons.mp hx with rfl | hx
  · exact .str h1
  · exact h2 x hx
def sp_without_time (K : PySem.W.Frag) : Sp := fun vs H Q _ => ∃ (x : V) (d : PyData), vs = [x] ∧ Im H x d ∧ Evd d ∧ ∀ p H', Same H H' → Im H' (.ref p) (wt d) → Q (.ref p) H'
theorem sc_without_time : FnScope ["event"] ["event"] (defScope (topS 1)) := ⟨rfl, rfl, rfl, by decide +kernel, rfl, by decide +kernel, by decide +kernel⟩
theorem ok_without_time (T : Txt fa fn K mg) : Dn P w K mg base CX0 1 "without_time" ["event"] (sp_without_time K) := by
  refine mk_dn (d := dOf "without_time" 1) T 0 0 rfl rfl rfl rfl rfl sc_without_time (by walk_at "len") (fun _ _ _ _ _ _ us hl => match us, hl with | [_], _ => rfl) (fun cdv A outer s H vs Q E hr h => ⟨_, (pss_one (ps_ret (pe_op (op_addU (K := K) rfl) (pe_tup (pa_cons (pe_ixU (K := K) rfl (hu_of hr) (pv 0) pe_int) pa_nil)) (pe_slice (sl_U (K := K) rfl) (pv 0) (po_some pe_int) po_none)))), ?_⟩)
  obtain ⟨x, d, rfl, hx, he, hQ⟩ := h
  obtain ⟨k, t, rest, rfl, hk, hr, hl⟩ := he.ex
  walk_at "go"
  refine m_ix hx (n := 0) rfl rfl (fun v hv => ?_)
  walk_at "go"
  refine m_new (Ims.one hv) (by show 1 ≤ 100000; decide) (fun p H1 s1 _ hp => ?_)
  walk_at "go"
  refine m_sl (hx.same s1) (fun q H2 s2 hq => ?_)
  have e : cutD (.str k :: .int t :: rest) (some 2) none = rest := cutD_from (n := 2)
  rw [e] at hq
  refine m_cat (hp.same s2) hq (by simp; omega) (fun u H3 s3 hu => ?_)
  exact hQ u H3 ((s1.trans s2).trans s3) hu
def kin (ks : List Str) : PyData → Bool
  | .tuple (.str k :: _) => ks.contains k
  | _ => false
def viewD (ds : List PyData) (what : Str) : List PyData :=
  if what = "all" then ds else if what = "lines" then ds.map wt else if what = "times" then ds.filter (kin ["out", "touch", "drop", "stop"]) else (ds.filter (kin ["touch", "drop"])).map wt
def sp_view (K : PySem.W.Frag) : Sp := fun vs H Q _ => ∃ (x : V) (ds : List PyData) (what : Str), vs = [x, .str what] ∧ Im H x (.tuple ds) ∧ (∀ d ∈ ds, Evd d) ∧ ds.length ≤ 1000 ∧ ∀ p H', Same H H' → Im H' (.ref p) (.tuple (viewD ds what)) → Q (.ref p) H'
theorem sc_view : FnScope ["trace", "what", "event"] ["trace", "what"] (defScope (topS 2)) := ⟨rfl, rfl, rfl, by decide +kernel, rfl, by decide +kernel, by decide +kernel⟩
theorem ok_view (T : Txt fa fn K mg) : Dn P w K mg base CX0 2 "view" ["trace", "what"] (sp_view K) := by
  refine mk_dn (d := dOf "view" 2) T 1 1 rfl rfl rfl rfl rfl sc_view (by walk_at "len") (fun _ _ _ _ _ _ us hl => match us, hl with | [_, _], _ => rfl) (fun cdv A outer s H vs Q E hr h => ⟨_, (pss_cons (ps_if (pt_cmpR (op_eqU (K := K) rfl hr.units) (pv 1) pe_str (nomark _)) (pss_one (ps_ret (pe_callTy (c_tuple (K := K) rfl) rfl (T.free 17 rfl) (by decide +kernel) (pa_cons (pv 0) pa_nil)))) pss_nil)
      (pss_cons (ps_if (pt_cmpR (op_eqU (K := K) rfl hr.units) (pv 1) pe_str (nomark _)) (pss_one (ps_ret (pe_callTy (c_tuple (K := K) rfl) rfl (T.free 17 rfl) (by decide +kernel) (pa_cons (pe_lc rfl sc_view.nd (pi_seq (K := K) rfl (pv 0)) (blkOk_by (own := [("event", 2)]) (N := ["trace", "what", "event"]) (sc := defScope (topS 2)) (by decide +kernel)) (fun _ _ _ _ _ => (pg_name (i := 2) sc_view.nd rfl (.inl rfl))) (fun _ _ _ _ _ => pts_nil) (fun _ _ _ _ _ => (pe_callD (K := K) rfl (ok_without_time T) (hr.mono (by decide)) rfl pass0 (pa_cons (pv 2) pa_nil)))) pa_nil)))) pss_nil)
      (pss_cons (ps_if (pt_cmpR (op_eqU (K := K) rfl hr.units) (pv 1) pe_str (nomark _)) (pss_one (ps_ret (pe_callTy (c_tuple (K := K) rfl) rfl (T.free 17 rfl) (by decide +kernel) (pa_cons (pe_lc rfl sc_view.nd (pi_seq (K := K) rfl (pv 0)) (blkOk_by (own := [("event", 2)]) (N := ["trace", "what", "event"]) (sc := defScope (topS 2)) (by decide +kernel)) (fun _ _ _ _ _ => (pg_name (i := 2) sc_view.nd rfl (.inl rfl))) (fun _ _ _ _ _ => (pts_one (pt_cmpR (op_inU (K := K) rfl (hu_of hr)) (pe_ixU (K := K) rfl (hu_of hr) (pv 2) pe_int) (pe_tup (pa_cons pe_str (pa_cons pe_str (pa_cons pe_str (pa_cons pe_str pa_nil))))) (by rfl)))) (fun _ _ _ _ _ => (pv 2))) pa_nil)))) pss_nil)
      (pss_one (ps_ret (pe_callTy (c_tuple (K := K) rfl) rfl (T.free 17 rfl) (by decide +kernel) (pa_cons (pe_lc rfl sc_view.nd (pi_seq (K := K) rfl (pv 0)) (blkOk_by (own := [("event", 2)]) (N := ["trace", "what", "event"]) (sc := defScope (topS 2)) (by decide +kernel)) (fun _ _ _ _ _ => (pg_name (i := 2) sc_view.nd rfl (.inl rfl))) (fun _ _ _ _ _ => (pts_one (pt_cmpR (op_inU (K := K) rfl (hu_of hr)) (pe_ixU (K := K) rfl (hu_of hr) (pv 2) pe_int) (pe_tup (pa_cons pe_str (pa_cons pe_str pa_nil))) (by rfl)))) (fun _ _ _ _ _ => (pe_callD (K := K) rfl (ok_without_time T) (hr.mono (by decide)) rfl pass0 (pa_cons (pv 2) pa_nil)))) pa_nil))))))), ?_⟩)
  obtain ⟨x, ds, what, rfl, hx, he, hl, hQ⟩ := h
  walk_at "go"
  refine g_if (fun h1 => ?_) (fun h1 => ?_)
  · walk_at "go"
    obtain ⟨a, xs, rfl, _, _⟩ := hx.tup_inv
    refine m_tupleT hx ?_
    have e : viewD ds what = ds := by unfold viewD; rw [if_pos h1]
    rw [e] at hQ
    exact hQ a H (Same.refl H) hx
  walk_at "go"
  refine g_if (fun h2 => ?_) (fun h2 => ?_)
  · walk_at "go"
    refine m_seq hx (fun a ys ex ha hys => ?_)
    have hyl := hys.length
    refine l_tup (xs := ys) (fun D i H' => ∃ xs, H' D = some (.lst xs) ∧ Ims H' xs ((ds.take i).map wt) ∧ Same H H') (fun D hD => ⟨[], upd_same, .nil, Same.new hD⟩) (fun D hD i H' _ ⟨_, _, _, s1⟩ => SqT.of (s1 _ _ ha)) ?_ ?_
    · rintro D hD i v H' hi ⟨xs, hDl, hxs, s1⟩
      have hi' := (List.getElem?_eq_some_iff.mp hi).1
      obtain ⟨d, hd⟩ : ∃ d, ds[i]? = some d := ⟨_, List.getElem?_eq_getElem (by omega)⟩
      obtain ⟨v', hv', hvd⟩ := hys.get hd
      rw [hi] at hv'
      cases hv'
      have hed := he d (List.mem_of_getElem? hd)
      walk_at "go"
      refine ⟨v, d, rfl, hvd.same s1, hed, fun p H2 s2 hp => ?_⟩
      walk_at "go"
      refine ⟨xs, s2 _ _ hDl, szl (by rw [hxs.length, List.length_map, List.length_take]; omega), xs ++ [.ref p], upd_same, ?_, Same.mut (s1.trans s2) hD⟩
      rw [map_take_succ hd]
      exact ((hxs.same s2).append (Ims.one hp)).keep (Keep.set (List.mem_singleton.mpr rfl)) (NoTup.one (s2 _ _ hDl) (fun _ z => by cases z))
    · rintro D hD H' ⟨xs, hDl, hxs, s1⟩
      walk_at "go"
      rw [hyl, List.take_length] at hxs
      refine m_tupleL (SqL.of hDl) hxs (fun p H2 s2 _ hp => ?_)
      have e : viewD ds what = ds.map wt := by unfold viewD; rw [if_neg h1, if_pos h2]
      rw [e] at hQ
      exact hQ p H2 (s1.trans s2) hp
  walk_at "go"
  refine g_if (fun h3 => ?_) (fun h3 => ?_)
  · walk_at "go"
    refine m_seq hx (fun a ys ex ha hys => ?_)
    have hyl := hys.length
    refine l_tup (xs := ys) (fun D i H' => ∃ xs, H' D = some (.lst xs) ∧ Ims H' xs ((ds.take i).filter (kin ["out", "touch", "drop", "stop"])) ∧ Same H H') (fun D hD => ⟨[], upd_same, .nil, Same.new hD⟩) (fun D hD i H' _ ⟨_, _, _, s1⟩ => SqT.of (s1 _ _ ha)) ?_ ?_
    · rintro D hD i v H' hi ⟨xs, hDl, hxs, s1⟩
      have hi' := (List.getElem?_eq_some_iff.mp hi).1
      obtain ⟨d, hd⟩ : ∃ d, ds[i]? = some d := ⟨_, List.getElem?_eq_getElem (by omega)⟩
      obtain ⟨v', hv', hvd⟩ := hys.get hd
      rw [hi] at hv'
      cases hv'
      have hed := he d (List.mem_of_getElem? hd)
      obtain ⟨k, t, rest, rfl, hk, hr, hrl⟩ := hed.ex
      walk_at "go"
      refine m_ix (hvd.same s1) (n := 0) rfl rfl (fun u hu => ?_)
      rw [hu.str_inv]
      walk_at "go"
      refine ⟨by show 4 ≤ sizeLine; decide, fun p hp => ?_⟩
      refine g_inTs (ks := ["out", "touch", "drop", "stop"]) (.inl upd_same) ?_
      walk_at "go"
      have s2 := s1.trans (Same.new (o := .tup ((["out", "touch", "drop", "stop"] : List Str).map V.str)) hp)
      have hDl2 := keep_new (o' := .tup ((["out", "touch", "drop", "stop"] : List Str).map V.str)) hDl hp
      have hxs2 := hxs.same (Same.new (o := .tup ((["out", "touch", "drop", "stop"] : List Str).map V.str)) hp)
      rw [filter_take_succ hd]
      refine g_ifB (fun h4 => ?_) (fun h4 => ?_)
      · walk_at "go"
        have e4 : kin ["out", "touch", "drop", "stop"] (.tuple (.str k :: .int t :: rest)) = true := h4
        rw [e4, if_pos rfl]
        refine ⟨xs, hDl2, szl (by rw [hxs.length]; have := List.length_filter_le (kin ["out", "touch", "drop", "stop"]) (ds.take i); rw [List.length_take] at this; omega), xs ++ [v], upd_same, ?_, Same.mut s2 hD⟩
        exact (hxs2.append (Ims.one (hvd.same s2))).keep (Keep.set (List.mem_singleton.mpr rfl)) (NoTup.one hDl2 (fun _ z => by cases z))
      · have e4 : kin ["out", "touch", "drop", "stop"] (.tuple (.str k :: .int t :: rest)) = false := h4
        rw [e4, if_neg Bool.false_ne_true, List.append_nil]
        exact ⟨xs, hDl2, hxs2, s2⟩
    · rintro D hD H' ⟨xs, hDl, hxs, s1⟩
      walk_at "go"
      rw [hyl, List.take_length] at hxs
      refine m_tupleL (SqL.of hDl) hxs (fun p H2 s2 _ hp => ?_)
      have e : viewD ds what = ds.filter (kin ["out", "touch", "drop", "stop"]) := by unfold viewD; rw [if_neg h1, if_neg h2, if_pos h3]
      rw [e] at hQ
      exact hQ p H2 (s1.trans s2) hp
  · walk_at "go"
    refine m_seq hx (fun a ys ex ha hys => ?_)
    have hyl := hys.length
    refine l_tup (xs := ys) (fun D i H' => ∃ xs, H' D = some (.lst xs) ∧ Ims H' xs (((ds.take i).filter (kin ["touch", "drop"])).map wt) ∧ Same H H') (fun D hD => ⟨[], upd_same, .nil, Same.new hD⟩) (fun D hD i H' _ ⟨_, _, _, s1⟩ => SqT.of (s1 _ _ ha)) ?_ ?_
    · rintro D hD i v H' hi ⟨xs, hDl, hxs, s1⟩
      have hi' := (List.getElem?_eq_some_iff.mp hi).1
      obtain ⟨d, hd⟩ : ∃ d, ds[i]? = some d := ⟨_, List.getElem?_eq_getElem (by omega)⟩
      obtain ⟨v', hv', hvd⟩ := hys.get hd
      rw [hi] at hv'
      cases hv'
      have hed := he d (List.mem_of_getElem? hd)
      obtain ⟨k, t, rest, rfl, hk, hr, hrl⟩ := hed.ex
      walk_at "go"
      refine m_ix (hvd.same s1) (n := 0) rfl rfl (fun u hu => ?_)
      rw [hu.str_inv]
      walk_at "go"
      refine ⟨by show 2 ≤ sizeLine; decide, fun p hp => ?_⟩
      refine g_inTs (ks := ["touch", "drop"]) (.inl upd_same) ?_
      walk_at "go"
      have s2 := s1.trans (Same.new (o := .tup ((["touch", "drop"] : List Str).map V.str)) hp)
      have hDl2 := keep_new (o' := .tup ((["touch", "drop"] : List Str).map V.str)) hDl hp
      have hxs2 := hxs.same (Same.new (o := .tup ((["touch", "drop"] : List Str).map V.str)) hp)
      rw [filter_take_succ hd]
      refine g_ifB (fun h4 => ?_) (fun h4 => ?_)
      · walk_at "go"
        have e4 : kin ["touch", "drop"] (.tuple (.str k :: .int t :: rest)) = true := h4
        rw [e4, if_pos rfl]
        refine ⟨v, _, rfl, hvd.same s2, hed, fun q H3 s3 hq => ?_⟩
        walk_at "go"
        refine ⟨xs, s3 _ _ hDl2, szl (by rw [hxs.length, List.length_map]; have := List.length_filter_le (kin ["touch", "drop"]) (ds.take i); rw [List.length_take] at this; omega), xs ++ [.ref q], upd_same, ?_, Same.mut (s2.trans s3) hD⟩
        rw [List.map_append]
        exact ((hxs2.same s3).append (Ims.one hq)).keep (Keep.set (List.mem_singleton.mpr rfl)) (NoTup.one (s3 _ _ hDl2) (fun _ z => by cases z))
      · have e4 : kin ["touch", "drop"] (.tuple (.str k :: .int t :: rest)) = false := h4
        rw [e4, if_neg Bool.false_ne_true, List.append_nil]
        exact ⟨xs, hDl2, hxs2, s2⟩
    · rintro D hD H' ⟨xs, hDl, hxs, s1⟩
      walk_at "go"
      rw [hyl, List.take_length] at hxs
      refine m_tupleL (SqL.of hDl) hxs (fun p H2 s2 _ hp => ?_)
      have e : viewD ds what = (ds.filter (kin ["touch", "drop"])).map wt := by unfold viewD; rw [if_neg h1, if_neg h2, if_neg h3]
      rw [e] at hQ
      exact hQ p H2 (s1.trans s2) hp

/-! ### where two rows part -/
def apD : Nat → List PyData → List PyData → PyData
  | _, [], [] => .none
  | n, e :: _, [] => .tuple [.int n, e, .none]
  | n, [], f :: _ => .tuple [.int n, .none, f]
  | n, e :: es, f :: fs => if PyData.eqv e f then apD (n + 1) es fs else .tuple [.int n, e, f]
theorem apD_lay {k : Nat} : ∀ {n : Nat} {es fs : List PyData}, (∀ d ∈ es, Lay k d) → (∀ d ∈ fs, Lay k d) → Lay (k + 1) (apD n es fs)
  | _, [], [], _, _ => by rw [apD]; exact .non
  | n, e :: _, [], h, _ => by
    rw [apD]
    refine Lay.tup fun x hx => ?_
    simp only [List.mem_cons, List.not_mem_nil, or_false] at hx
    rcases hx with rfl | rfl | rfl
    · exact .int
    · exact h _ List.mem_cons_self
    · exact .non
  | n, [], f :: _, _, h => by
    rw [apD]
    refine Lay.tup fun x hx => ?_
    simp only [List.mem_cons, List.not_mem_nil, or_false] at hx
    rcases hx with rfl | rfl | rfl
    · exact .int
    · exact .non
    · exact h _ List.mem_cons_self
  | n, e :: es, f :: fs, h, h2 => by
    rw [apD]
    split
    · exact apD_lay (fun d hd => h d (List.mem_cons_of_mem _ hd)) fun d hd => h2 d (List.mem_cons_of_mem _ hd)
    · refine Lay.tup fun x hx => ?_
      simp only [List.mem_cons, List.not_mem_nil, or_false] at hx
      rcases hx with rfl | rfl | rfl
      · exact .int
      · exact h _ List.mem_cons_self
      · exact h2 _ List.mem_cons_self
theorem apD_self {k : Nat} : ∀ {n : Nat} {es : List PyData}, (∀ d ∈ es, Lay k d) → apD n es es = .none
  | _, [], _ => rfl
  | n, e :: es, h => by
    rw [apD, (h e List.mem_cons_self).refl, if_pos rfl]
    exact apD_self fun d hd => h d (List.mem_cons_of_mem _ hd)
theorem apD_step {es fs : List PyData} {i : Nat} {e f : PyData} (he : es[i]? = some e) (hf : fs[i]? = some f) : apD i (es.drop i) (fs.drop i) = if PyData.eqv e f then apD (i + 1) (es.drop (i + 1)) (fs.drop (i + 1)) else .tuple [.int i, e, f] := by
  obtain ⟨h1, e1⟩ := List.getElem?_eq_some_iff.mp he
  obtain ⟨h2, e2⟩ := List.getElem?_eq_some_iff.mp hf
  rw [List.drop_eq_getElem_cons h1, List.drop_eq_getElem_cons h2, apD, e1, e2]
theorem apD_end1 {es fs : List PyData} {i : Nat} {e : PyData} (he : es[i]? = some e) (hf : fs.length ≤ i) : apD i (es.drop i) (fs.drop i) = .tuple [.int i, e, .none] := by
  obtain ⟨h1, e1⟩ := List.getElem?_eq_some_iff.mp he
  rw [List.drop_eq_getElem_cons h1, List.drop_of_length_le hf, apD, e1]
theorem apD_end2 {es fs : List PyData} {i : Nat} {f : PyData} (he : es.length ≤ i) (hf : fs[i]? = some f) : apD i (es.drop i) (fs.drop i) = .tuple [.int i, .none, f] := by
  obtain ⟨h1, e1⟩ := List.getElem?_eq_some_iff.mp hf
  rw [List.drop_eq_getElem_cons h1, List.drop_of_length_le he, apD, e1]
theorem apD_end {es fs : List PyData} {i : Nat} (he : es.length ≤ i) (hf : fs.length ≤ i) : apD i (es.drop i) (fs.drop i) = .none := by
  rw [List.drop_of_length_le he, List.drop_of_length_le hf, apD]
def sp_apart (K : PySem.W.Frag) : Sp := fun vs H Q _ => ∃ (x y : V) (es fs : List PyData), vs = [x, y] ∧ Im H x (.tuple es) ∧ Im H y (.tuple fs) ∧ (∀ d ∈ es, Lay 5 d) ∧ (∀ d ∈ fs, Lay 5 d) ∧ es.length ≤ 1000 ∧ fs.length ≤ 1000 ∧
  ∀ v H', Same H H' → Im H' v (apD 0 es fs) → Q v H'
theorem at_ex {ds : List PyData} {i : Nat} (h : i < ds.length) : ∃ d, ds[i]? = some d ∧ d ∈ ds := ⟨_, List.getElem?_eq_getElem h, List.getElem_mem h⟩
theorem sc_apart : FnScope ["first", "second", "k"] ["first", "second"] (defScope (topS 3)) := ⟨rfl, rfl, rfl, by decide +kernel, rfl, by decide +kernel, by decide +kernel⟩
theorem ok_apart (T : Txt fa fn K mg) : Dn P w K mg base CX0 1 "apart" ["first", "second"] (sp_apart K) := by
  refine mk_dn (d := dOf "apart" 3) T 2 2 rfl rfl rfl rfl rfl sc_apart (by walk_at "len") (fun _ _ _ _ _ _ us hl => match us, hl with | [_, _], _ => rfl) (fun cdv A outer s H vs Q E hr h => ⟨_, (pss_cons (ps_for PassesOwn.never rfl (pi_r1 rfl (T.free 16 rfl) (pa_cons (pe_callB (c_min2 rfl) rfl (T.free 15 rfl) (by decide +kernel) (pa_cons (pe_callB (c_len (K := K) rfl) rfl (T.free 14 rfl) (by decide +kernel) (pa_cons (pv 0) pa_nil)) (pa_cons (pe_callB (c_len (K := K) rfl) rfl (T.free 14 rfl) (by decide +kernel) (pa_cons (pv 1) pa_nil)) pa_nil))) pa_nil)) (pg_name (i := 2) sc_apart.nd rfl (.inl rfl)) (pss_one (ps_if (pt_cmpR (op_neU (K := K) rfl hr.units) (pe_ixU (K := K) rfl (hu_of hr) (pv 0) (pv 2)) (pe_ixU (K := K) rfl (hu_of hr) (pv 1) (pv 2)) (nomark _)) (pss_one (ps_ret (pe_tup (pa_cons (pv 2) (pa_cons (pe_ixU (K := K) rfl (hu_of hr) (pv 0) (pv 2)) (pa_cons (pe_ixU (K := K) rfl (hu_of hr) (pv 1) (pv 2)) pa_nil)))))) pss_nil)))
      (pss_cons (ps_if (pt_cmpR o_lt (pe_callB (c_len (K := K) rfl) rfl (T.free 14 rfl) (by decide +kernel) (pa_cons (pv 0) pa_nil)) (pe_callB (c_len (K := K) rfl) rfl (T.free 14 rfl) (by decide +kernel) (pa_cons (pv 1) pa_nil)) (nomark _)) (pss_one (ps_ret (pe_tup (pa_cons (pe_callB (c_len (K := K) rfl) rfl (T.free 14 rfl) (by decide +kernel) (pa_cons (pv 0) pa_nil)) (pa_cons pe_non (pa_cons (pe_ixU (K := K) rfl (hu_of hr) (pv 1) (pe_callB (c_len (K := K) rfl) rfl (T.free 14 rfl) (by decide +kernel) (pa_cons (pv 0) pa_nil))) pa_nil)))))) pss_nil)
      (pss_cons (ps_if (pt_cmpR o_lt (pe_callB (c_len (K := K) rfl) rfl (T.free 14 rfl) (by decide +kernel) (pa_cons (pv 1) pa_nil)) (pe_callB (c_len (K := K) rfl) rfl (T.free 14 rfl) (by decide +kernel) (pa_cons (pv 0) pa_nil)) (nomark _)) (pss_one (ps_ret (pe_tup (pa_cons (pe_callB (c_len (K := K) rfl) rfl (T.free 14 rfl) (by decide +kernel) (pa_cons (pv 1) pa_nil)) (pa_cons (pe_ixU (K := K) rfl (hu_of hr) (pv 0) (pe_callB (c_len (K := K) rfl) rfl (T.free 14 rfl) (by decide +kernel) (pa_cons (pv 1) pa_nil))) (pa_cons pe_non pa_nil)))))) pss_nil)
      (pss_one (ps_ret pe_non))))), ?_⟩)
  obtain ⟨x, y, es, fs, rfl, hx, hy, le, lf, n1, n2, hQ⟩ := h
  walk_at "go"
  refine m_len hx ?_
  walk_at "go"
  refine m_len hy ?_
  walk_at "go"
  have hm : (if (fs.length : Int) < (es.length : Int) then (fs.length : Int) else (es.length : Int)).toNat = min es.length fs.length := by split <;> omega
  rw [hm]
  refine f_range (fun i σ H' => ∃ o, σ = [some x, some y, o] ∧ H' = H ∧ apD 0 es fs = apD i (es.drop i) (fs.drop i)) ⟨_, rfl, rfl, rfl⟩ ?_ ?_
  · rintro i σ H' hi ⟨o, rfl, rfl, ha⟩
    obtain ⟨e, he, hme⟩ := at_ex (ds := es) (i := i) (by omega)
    obtain ⟨f, hf, hmf⟩ := at_ex (ds := fs) (i := i) (by omega)
    have e0 : (0 + (i : Int)) = (i : Int) := by omega
    rw [apD_step he hf] at ha
    walk_at "go"
    rw [e0]
    refine m_ix hx rfl he (fun v hv => ?_)
    walk_at "go"
    refine m_ix hy rfl hf (fun u hu => ?_)
    refine m_ne hv hu ((le e hme).shaped (by decide)) ((lf f hmf).shaped (by decide)) ?_
    walk_at "go"
    refine g_ifBn (fun h1 => ?_) (fun h1 => ?_)
    · walk_at "go"
      refine m_ix hx rfl he (fun v hv => ?_)
      walk_at "go"
      refine m_ix hy rfl hf (fun u hu => ?_)
      walk_at "go"
      rw [h1, if_neg Bool.false_ne_true] at ha
      refine m_new (.cons (.int _) (.cons hv (.cons hu .nil))) (by show 3 ≤ 100000; decide) (fun p H2 s2 _ hp => hQ _ _ s2 ?_)
      rw [ha]
      exact hp
    · walk_at "go"
      rw [h1, if_pos rfl] at ha
      exact ⟨_, rfl, rfl, ha⟩
  · rintro σ H' ⟨o, rfl, rfl, ha⟩
    walk_at "go"
    refine m_len hx ?_
    walk_at "go"
    refine m_len hy ?_
    walk_at "go"
    refine g_if (fun h1 => ?_) (fun h1 => ?_)
    · walk_at "go"
      refine m_len hx ?_
      walk_at "go"
      refine m_len hx ?_
      obtain ⟨f, hf, hmf⟩ := at_ex (ds := fs) (i := es.length) (by omega)
      have hk : min es.length fs.length = es.length := by omega
      rw [hk, apD_end2 (Nat.le_refl _) hf] at ha
      walk_at "go"
      refine m_ix hy rfl hf (fun u hu => ?_)
      walk_at "go"
      refine m_new (.cons (.int _) (.cons .non (.cons hu .nil))) (by show 3 ≤ 100000; decide) (fun p H2 s2 _ hp => hQ _ _ s2 ?_)
      rw [ha]
      exact hp
    walk_at "go"
    refine m_len hy ?_
    walk_at "go"
    refine m_len hx ?_
    walk_at "go"
    refine g_if (fun h2 => ?_) (fun h2 => ?_)
    · walk_at "go"
      refine m_len hy ?_
      walk_at "go"
      refine m_len hy ?_
      obtain ⟨e, he, hme⟩ := at_ex (ds := es) (i := fs.length) (by omega)
      have hk : min es.length fs.length = fs.length := by omega
      rw [hk, apD_end1 he (Nat.le_refl _)] at ha
      refine m_ix hx rfl he (fun u hu => ?_)
      walk_at "go"
      refine m_new (.cons (.int _) (.cons hu (.cons .non .nil))) (by show 3 ≤ 100000; decide) (fun p H2 s2 _ hp => hQ _ _ s2 ?_)
      rw [ha]
      exact hp
    · walk_at "go"
      rw [apD_end (by omega) (by omega)] at ha
      refine hQ _ _ (Same.refl _) ?_
      rw [ha]
      exact .non
def sp_law_parted (K : PySem.W.Frag) : Sp := fun vs H Q _ => ∃ (x y : V) (es fs : List PyData), vs = [x, y] ∧ Im H x (.tuple es) ∧ Im H y (.tuple fs) ∧ (∀ d ∈ es, Lay 5 d) ∧ (∀ d ∈ fs, Lay 5 d) ∧ es.length ≤ 1000 ∧ fs.length ≤ 1000 ∧
  ∀ v H', Same H H' → Im H' v (apD 0 es fs) → Q v H'
theorem sc_law_parted : FnScope ["first", "second", "at", "x", "y"] ["first", "second"] (defScope (topS 11)) := ⟨rfl, rfl, rfl, by decide +kernel, rfl, by decide +kernel, by decide +kernel⟩
theorem ok_law_parted (T : Txt fa fn K mg) : Dn P w K mg base CX0 1 "_law_parted" ["first", "second"] (sp_law_parted K) := by
  refine mk_dn (d := dOf "_law_parted" 11) T 9 9 rfl rfl rfl rfl rfl sc_law_parted (by walk_at "len") (fun _ _ _ _ _ _ us hl => match us, hl with | [_, _], _ => rfl) (fun cdv A outer s H vs Q E hr h => ⟨_, (pss_cons (ps_set (i := 2) sc_law_parted.nd rfl (.inl rfl) pe_int)
      (pss_cons (ps_join (ps_while PassesOwn.never (PW.pt (pw_and (pt_cmpR o_lt (pv 2) (pe_callB (c_len (K := K) rfl) rfl (T.free 14 rfl) (by decide +kernel) (pa_cons (pv 0) pa_nil)) (nomark _)) (pw_and (pt_cmpR o_lt (pv 2) (pe_callB (c_len (K := K) rfl) rfl (T.free 14 rfl) (by decide +kernel) (pa_cons (pv 1) pa_nil)) (nomark _)) (pw_and1 (pt_cmpR (op_eqU (K := K) rfl hr.units) (pe_ixU (K := K) rfl (hu_of hr) (pv 0) (pv 2)) (pe_ixU (K := K) rfl (hu_of hr) (pv 1) (pv 2)) (nomark _)))))) (pss_one (ps_set (i := 2) sc_law_parted.nd rfl (.inl rfl) (pe_op (op_addU (K := K) rfl) (pv 2) pe_int)))))
      (pss_cons (ps_if (PW.pt (pw_and (pt_cmpR (op_eqU (K := K) rfl hr.units) (pv 2) (pe_callB (c_len (K := K) rfl) rfl (T.free 14 rfl) (by decide +kernel) (pa_cons (pv 0) pa_nil)) (nomark _)) (pw_and1 (pt_cmpR (op_eqU (K := K) rfl hr.units) (pv 2) (pe_callB (c_len (K := K) rfl) rfl (T.free 14 rfl) (by decide +kernel) (pa_cons (pv 1) pa_nil)) (nomark _))))) (pss_one (ps_ret pe_non)) pss_nil)
      (pss_cons (ps_set (i := 3) sc_law_parted.nd rfl (.inl rfl) pe_non)
      (pss_cons (ps_set (i := 4) sc_law_parted.nd rfl (.inl rfl) pe_non)
      (pss_cons (ps_join (ps_if (pt_cmpR o_lt (pv 2) (pe_callB (c_len (K := K) rfl) rfl (T.free 14 rfl) (by decide +kernel) (pa_cons (pv 0) pa_nil)) (nomark _)) (pss_one (ps_set (i := 3) sc_law_parted.nd rfl (.inl rfl) (pe_ixU (K := K) rfl (hu_of hr) (pv 0) (pv 2)))) pss_nil))
      (pss_cons (ps_join (ps_if (pt_cmpR o_lt (pv 2) (pe_callB (c_len (K := K) rfl) rfl (T.free 14 rfl) (by decide +kernel) (pa_cons (pv 1) pa_nil)) (nomark _)) (pss_one (ps_set (i := 4) sc_law_parted.nd rfl (.inl rfl) (pe_ixU (K := K) rfl (hu_of hr) (pv 1) (pv 2)))) pss_nil))
      (pss_one (ps_ret (pe_tup (pa_cons (pv 2) (pa_cons (pv 3) (pa_cons (pv 4) pa_nil))))))))))))), ?_⟩)
  obtain ⟨x, y, es, fs, rfl, hx, hy, le, lf, n1, n2, hQ⟩ := h
  walk_at "go"
  refine ⟨fun σ H' => ∃ i : Nat, σ = [some x, some y, some (.int i), none, none] ∧ H' = H ∧ i ≤ es.length ∧ i ≤ fs.length ∧ apD 0 es fs = apD i (es.drop i) (fs.drop i) ∧ (i = es.length ∨ i = fs.length ∨ ∃ e f, es[i]? = some e ∧ fs[i]? = some f ∧ PyData.eqv e f = false), ?_, ?_⟩
  · refine ⟨fun m σ H' => ∃ (i : Nat), σ = [some x, some y, some (.int i), none, none] ∧ H' = H ∧ i ≤ es.length ∧ i ≤ fs.length ∧ m = es.length - i ∧ apD 0 es fs = apD i (es.drop i) (fs.drop i), ⟨_, 0, rfl, rfl, Nat.zero_le _, Nat.zero_le _, rfl, rfl⟩, ?_⟩
    rintro m σ H' ⟨i, rfl, rfl, i1, i2, rfl, ha⟩
    walk_at "go"
    refine m_len hx ?_
    walk_at "go"
    refine g_if (fun h1 => ?_) (fun h1 => ?_)
    · walk_at "go"
      refine m_len hy ?_
      walk_at "go"
      refine g_if (fun h2 => ?_) (fun h2 => ?_)
      · obtain ⟨e, he, hme⟩ := at_ex (ds := es) (i := i) (by omega)
        obtain ⟨f, hf, hmf⟩ := at_ex (ds := fs) (i := i) (by omega)
        rw [apD_step he hf] at ha
        walk_at "go"
        refine m_ix hx rfl he (fun v hv => ?_)
        walk_at "go"
        refine m_ix hy rfl hf (fun u hu => ?_)
        refine m_eq hv hu ((le e hme).shaped (by decide)) ((lf f hmf).shaped (by decide)) ?_
        walk_at "go"
        refine g_ifB (fun h3 => ?_) (fun h3 => ?_)
        · refine g_whileT ?_
          walk_at "go"
          rw [h3, if_pos rfl] at ha
          exact ⟨_, by omega, i + 1, rfl, rfl, by omega, by omega, rfl, ha⟩
        · walk_at "go"
          rw [h3, if_neg Bool.false_ne_true] at ha
          refine ⟨i, rfl, rfl, i1, i2, ?_, .inr (.inr ⟨e, f, he, hf, h3⟩)⟩
          rw [apD_step he hf, h3, if_neg Bool.false_ne_true]
          exact ha
      · walk_at "go"
        exact ⟨i, rfl, rfl, i1, i2, ha, .inr (.inl (by omega))⟩
    · walk_at "go"
      exact ⟨i, rfl, rfl, i1, i2, ha, .inl (by omega)⟩
  rintro σ H' ⟨i, rfl, rfl, i1, i2, ha, hend⟩
  walk_at "go"
  refine m_len hx ?_
  walk_at "go"
  have goX : ∀ (D : Ends), D.nx = (fun _ _ => True) → True := fun _ _ => trivial
  refine g_if (fun h1 => ?_) (fun h1 => ?_)
  · walk_at "go"
    refine m_len hy ?_
    walk_at "go"
    refine g_if (fun h2 => ?_) (fun h2 => ?_)
    · walk_at "go"
      rw [apD_end (by omega) (by omega)] at ha
      refine hQ _ _ (Same.refl _) ?_
      rw [ha]
      exact .non
    · walk_at "go"
      obtain ⟨f, hf, hmf⟩ := at_ex (ds := fs) (i := i) (by omega)
      rw [apD_end2 (by omega) hf] at ha
      refine ⟨fun σ H1 => σ = [some x, some y, some (.int i), some .non, some .non] ∧ H1 = H', ?_, ?_⟩
      · walk_at "go"
        refine m_len hx ?_
        walk_at "go"
        refine g_if (fun h3 => absurd h3 (by omega)) (fun _ => ?_)
        walk_at "go"
        exact ⟨rfl, rfl⟩
      rintro σ H1 ⟨rfl, rfl⟩
      walk_at "go"
      refine ⟨fun σ H2 => ∃ v, σ = [some x, some y, some (.int i), some .non, some v] ∧ H2 = H1 ∧ Im H1 v f, ?_, ?_⟩
      · walk_at "go"
        refine m_len hy ?_
        walk_at "go"
        refine g_if (fun _ => ?_) (fun h3 => absurd h3 (by omega))
        walk_at "go"
        refine m_ix hy rfl hf (fun u hu => ?_)
        walk_at "go"
        exact ⟨u, rfl, rfl, hu⟩
      rintro σ H2 ⟨v, rfl, rfl, hv⟩
      walk_at "go"
      refine m_new (.cons (.int _) (.cons .non (.cons hv .nil))) (by show 3 ≤ 100000; decide) (fun p H3 s3 _ hp => hQ _ _ s3 ?_)
      rw [ha]
      exact hp
  · walk_at "go"
    obtain ⟨e, he, hme⟩ := at_ex (ds := es) (i := i) (by omega)
    refine ⟨fun σ H1 => ∃ v, σ = [some x, some y, some (.int i), some v, some .non] ∧ H1 = H' ∧ Im H' v e, ?_, ?_⟩
    · walk_at "go"
      refine m_len hx ?_
      walk_at "go"
      refine g_if (fun _ => ?_) (fun h3 => absurd h3 (by omega))
      walk_at "go"
      refine m_ix hx rfl he (fun u hu => ?_)
      walk_at "go"
      exact ⟨u, rfl, rfl, hu⟩
    rintro σ H1 ⟨v, rfl, rfl, hv⟩
    walk_at "go"
    rcases hend with h | h | ⟨e', f, he', hf, hne⟩
    · exact absurd h (by omega)
    · rw [apD_end1 he (by omega)] at ha
      refine ⟨fun σ H2 => σ = [some x, some y, some (.int i), some v, some .non] ∧ H2 = H1, ?_, ?_⟩
      · walk_at "go"
        refine m_len hy ?_
        walk_at "go"
        refine g_if (fun h3 => absurd h3 (by omega)) (fun _ => ?_)
        walk_at "go"
        exact ⟨rfl, rfl⟩
      rintro σ H2 ⟨rfl, rfl⟩
      walk_at "go"
      refine m_new (.cons (.int _) (.cons hv (.cons .non .nil))) (by show 3 ≤ 100000; decide) (fun p H3 s3 _ hp => hQ _ _ s3 ?_)
      rw [ha]
      exact hp
    · rw [he] at he'
      cases he'
      rw [apD_step he hf, hne, if_neg Bool.false_ne_true] at ha
      have hlt := (List.getElem?_eq_some_iff.mp hf).1
      refine ⟨fun σ H2 => ∃ u, σ = [some x, some y, some (.int i), some v, some u] ∧ H2 = H1 ∧ Im H1 u f, ?_, ?_⟩
      · walk_at "go"
        refine m_len hy ?_
        walk_at "go"
        refine g_if (fun _ => ?_) (fun h3 => absurd h3 (by omega))
        walk_at "go"
        refine m_ix hy rfl hf (fun u hu => ?_)
        walk_at "go"
        exact ⟨u, rfl, rfl, hu⟩
      rintro σ H2 ⟨u, rfl, rfl, hu⟩
      walk_at "go"
      refine m_new (.cons (.int _) (.cons hv (.cons hu .nil))) (by show 3 ≤ 100000; decide) (fun p H3 s3 _ hp => hQ _ _ s3 ?_)
      rw [ha]
      exact hp

/-! ### the law's own views -/
def whats : List Str := ["all", "lines", "times", "visits"]
def al (what : Str) : Bool := (["all", "lines"] : List Str).contains what
def lv (what : Str) : Bool := (["lines", "visits"] : List Str).contains what
def keptB (what : Str) (d : PyData) : Bool := kin ["touch", "drop"] d || (decide (what = "times") && kin ["out", "stop"] d)
def shw (what : Str) (d : PyData) : PyData := if lv what = true then wt d else d
def viewL (what : Str) (ds : List PyData) : List PyData := ds.flatMap fun d => if (keptB what d || al what) = true then [shw what d] else []
theorem fm_map {α β : Type} (f : α → β) (ds : List α) : (ds.flatMap fun d => [f d]) = ds.map f := by
  induction ds with
  | nil => rfl
  | cons d ds ih => rw [List.flatMap_cons, ih]; rfl
theorem fm_filter {α β : Type} (g : α → Bool) (f : α → β) (ds : List α) : (ds.flatMap fun d => if g d = true then [f d] else []) = (ds.filter g).map f := by
  induction ds with
  | nil => rfl
  | cons d ds ih =>
    rw [List.flatMap_cons, ih, List.filter_cons]
    cases g d <;> rfl
theorem viewL_eq {what : Str} (h : what ∈ whats) (ds : List PyData) : viewL what ds = viewD ds what := by
  have n1 : ¬ ("lines" : Str) = "all" := by decide +kernel
  have n2 : ¬ ("times" : Str) = "all" := by decide +kernel
  have n3 : ¬ ("times" : Str) = "lines" := by decide +kernel
  have n4 : ¬ ("visits" : Str) = "all" := by decide +kernel
  have n5 : ¬ ("visits" : Str) = "lines" := by decide +kernel
  have n6 : ¬ ("visits" : Str) = "times" := by decide +kernel
  have a1 : al "all" = true := by decide +kernel
  have a2 : al "lines" = true := by decide +kernel
  have a3 : al "times" = false := by decide +kernel
  have a4 : al "visits" = false := by decide +kernel
  have b1 : lv "all" = false := by decide +kernel
  have b2 : lv "lines" = true := by decide +kernel
  have b3 : lv "times" = false := by decide +kernel
  have b4 : lv "visits" = true := by decide +kernel
  unfold viewL viewD
  simp only [whats, List.mem_cons, List.not_mem_nil, or_false] at h
  rcases h with rfl | rfl | rfl | rfl
  · simp only [a1, Bool.or_true, if_true, shw, b1, Bool.false_eq_true, if_false]
    rw [fm_map]
    simp
  · simp only [a2, Bool.or_true, if_true, shw, b2, if_neg n1]
    rw [fm_map]
  · simp only [a3, Bool.or_false, shw, b3, Bool.false_eq_true, if_false, if_neg n2, if_neg n3]
    rw [fm_filter]
    simp only [List.map_id', if_true]
    congr 1
    funext d
    unfold keptB
    rw [decide_eq_true rfl, Bool.true_and]
    unfold kin
    split
    · simp only [List.contains_cons, List.contains_nil, Bool.or_false]
      rename_i k _
      cases (k == ("touch" : Str)) <;> cases (k == ("drop" : Str)) <;> cases (k == ("out" : Str)) <;> cases (k == ("stop" : Str)) <;> rfl
    · rfl
  · simp only [a4, Bool.or_false, shw, b4, if_true, if_neg n4, if_neg n5, if_neg n6]
    rw [fm_filter]
    congr 2
    funext d
    unfold keptB
    rw [decide_eq_false n6, Bool.false_and, Bool.or_false]
theorem viewL_succ {what : Str} {ds : List PyData} {i : Nat} {d : PyData} (h : ds[i]? = some d) : viewL what (ds.take (i + 1)) = viewL what (ds.take i) ++ (if (keptB what d || al what) = true then [shw what d] else []) := by
  unfold viewL
  rw [List.take_add_one, h, List.flatMap_append]
  congr 1
  show [d].flatMap _ = _
  rw [List.flatMap_cons, List.flatMap_nil, List.append_nil]
theorem viewL_len {what : Str} (ds : List PyData) : (viewL what ds).length ≤ ds.length := by
  unfold viewL
  induction ds with
  | nil => exact Nat.le_refl _
  | cons d ds ih =>
    rw [List.flatMap_cons, List.length_append, List.length_cons]
    split
    · rw [List.length_singleton]; omega
    · rw [List.length_nil]; omega
theorem view_lay {what : Str} {ds : List PyData} (h : ∀ d ∈ ds, Evd d) : ∀ d ∈ viewD ds what, Lay 1 d := by
  intro d hd
  unfold viewD at hd
  split at hd
  · exact (h d hd).lay
  · split at hd
    · obtain ⟨e, he, rfl⟩ := List.mem_map.mp hd
      exact wt_lay (h e he)
    · split at hd
      · exact (h d (List.mem_filter.mp hd).1).lay
      · obtain ⟨e, he, rfl⟩ := List.mem_map.mp hd
        exact wt_lay (h e (List.mem_filter.mp he).1)
theorem view_len {what : Str} {ds : List PyData} : (viewD ds what).length ≤ ds.length := by
  unfold viewD
  split
  · exact Nat.le_refl _
  · split
    · rw [List.length_map]; exact Nat.le_refl _
    · split
      · exact List.length_filter_le _ _
      · rw [List.length_map]; exact List.length_filter_le _ _
def sp_law_viewed (K : PySem.W.Frag) : Sp := fun vs H Q _ => ∃ (x : V) (ds : List PyData) (what : Str), vs = [x, .str what] ∧ Im H x (.tuple ds) ∧ (∀ d ∈ ds, Evd d) ∧ ds.length ≤ 1000 ∧ what ∈ whats ∧ ∀ p H', Same H H' → Im H' (.ref p) (.tuple (viewD ds what)) → Q (.ref p) H'
theorem sc_law_viewed : FnScope ["row", "what", "found", "event", "kept", "shown"] ["row", "what"] (defScope (topS 10)) := ⟨rfl, rfl, rfl, by decide +kernel, rfl, by decide +kernel, by decide +kernel⟩
theorem ok_law_viewed (T : Txt fa fn K mg) : Dn P w K mg base CX0 1 "_law_viewed" ["row", "what"] (sp_law_viewed K) := by
  refine mk_dn (d := dOf "_law_viewed" 10) T 8 8 rfl rfl rfl rfl rfl sc_law_viewed (by walk_at "len") (fun _ _ _ _ _ _ us hl => match us, hl with | [_, _], _ => rfl) (fun cdv A outer s H vs Q E hr h => ⟨_, (pss_cons (ps_set (i := 2) sc_law_viewed.nd rfl (.inl rfl) (pe_tup pa_nil))
      (pss_cons (ps_for PassesOwn.never rfl (pi_seq (K := K) rfl (pv 0)) (pg_name (i := 3) sc_law_viewed.nd rfl (.inl rfl)) (pss_cons (ps_join (ps_set (i := 4) sc_law_viewed.nd rfl (.inl rfl) (pe_or (pe_cmpR (op_inU (K := K) rfl (hu_of hr)) (pe_ixU (K := K) rfl (hu_of hr) (pv 3) pe_int) (pe_lst (pa_cons pe_str (pa_cons pe_str pa_nil))) (by rfl)) (pe_one (pe_and (pe_cmpR (op_eqU (K := K) rfl hr.units) (pv 1) pe_str (nomark _)) (pe_one (pe_cmpR (op_inU (K := K) rfl (hu_of hr)) (pe_ixU (K := K) rfl (hu_of hr) (pv 3) pe_int) (pe_lst (pa_cons pe_str (pa_cons pe_str pa_nil))) (by rfl))))))))
      (pss_cons (ps_join (ps_if (pt_cmpR (op_inU (K := K) rfl (hu_of hr)) (pv 1) (pe_lst (pa_cons pe_str (pa_cons pe_str pa_nil))) (by rfl)) (pss_one (ps_set (i := 5) sc_law_viewed.nd rfl (.inl rfl) (pe_op (op_addU (K := K) rfl) (pe_slice (sl_U (K := K) rfl) (pv 3) po_none (po_some pe_int)) (pe_slice (sl_U (K := K) rfl) (pv 3) (po_some pe_int) po_none)))) (pss_one (ps_set (i := 5) sc_law_viewed.nd rfl (.inl rfl) (pv 3)))))
      (pss_one (ps_join (ps_if (PW.pt (pw_or (pt_tru (K := K) rfl (pv 4)) (pw_or1 (pt_cmpR (op_inU (K := K) rfl (hu_of hr)) (pv 1) (pe_lst (pa_cons pe_str (pa_cons pe_str pa_nil))) (by rfl))))) (pss_one (ps_set (i := 2) sc_law_viewed.nd rfl (.inl rfl) (pe_op (op_addU (K := K) rfl) (pv 2) (pe_tup (pa_cons (pv 5) pa_nil))))) pss_nil))))))
      (pss_one (ps_ret (pv 2))))), ?_⟩)
  obtain ⟨x, ds, what, rfl, hx, he, hl, hw, hQ⟩ := h
  walk_at "go"
  refine m_new .nil (by decide) (fun p0 H0 s0 _ hp0 => ?_)
  walk_at "go"
  refine m_seq (hx.same s0) (fun a ys ex ha hys => ?_)
  have hyl := hys.length
  refine f_tup (xs := ys) (fun i σ H' => ∃ (p : Addr) (o3 o4 o5 : Option V), σ = [some x, some (.str what), some (.ref p), o3, o4, o5] ∧ Same H0 H' ∧ Im H' (.ref p) (.tuple (viewL what (ds.take i)))) ⟨p0, _, _, _, rfl, Same.refl _, hp0⟩ (fun i σ H' _ ⟨_, _, _, _, _, s1, _⟩ => SqT.of (s1 _ _ ha)) ?_ ?_
  · rintro i v σ H' hi ⟨p, o3, o4, o5, rfl, s1, hp⟩
    have hi' := (List.getElem?_eq_some_iff.mp hi).1
    obtain ⟨d, hd⟩ : ∃ d, ds[i]? = some d := ⟨_, List.getElem?_eq_getElem (by omega)⟩
    obtain ⟨v', hv', hvd⟩ := hys.get hd
    rw [hi] at hv'
    cases hv'
    obtain ⟨k, t, rest, rfl, hk, hr, hrl⟩ := (he d (List.mem_of_getElem? hd)).ex
    have hvd1 := hvd.same s1
    walk_at "go"
    refine ⟨fun σ H2 => σ = [some x, some (.str what), some (.ref p), some v, some (.bl (keptB what (.tuple (.str k :: .int t :: rest)))), o5] ∧ Same H' H2, ?_, ?_⟩
    · walk_at "go"
      refine m_ix hvd1 (n := 0) rfl rfl (fun u hu => ?_)
      rw [hu.str_inv]
      walk_at "go"
      refine ⟨by show 2 ≤ sizeLine; decide, fun q hq => ?_⟩
      have s2 : Same H' (upd H' q (.lst ((["touch", "drop"] : List Str).map V.str))) := Same.new hq
      refine g_inTs (ks := ["touch", "drop"]) (.inr upd_same) ?_
      walk_at "go"
      refine g_ifB (fun h4 => ?_) (fun h4 => ?_)
      · walk_at "go"
        refine ⟨?_, s2⟩
        have e : keptB what (.tuple (.str k :: .int t :: rest)) = true := by
          unfold keptB
          rw [show kin ["touch", "drop"] (.tuple (.str k :: .int t :: rest)) = true from h4]
          rfl
        rw [e]
        rfl
      · have e : keptB what (.tuple (.str k :: .int t :: rest)) = (decide (what = "times") && (["out", "stop"] : List Str).contains k) := by
          unfold keptB
          rw [show kin ["touch", "drop"] (.tuple (.str k :: .int t :: rest)) = false from h4]
          rfl
        rw [e]
        walk_at "go"
        refine g_if (fun h5 => ?_) (fun h5 => ?_)
        · walk_at "go"
          refine m_ix (hvd1.same s2) (n := 0) rfl rfl (fun u hu => ?_)
          rw [hu.str_inv]
          walk_at "go"
          refine ⟨by show 2 ≤ sizeLine; decide, fun q2 hq2 => ?_⟩
          have s3 : Same _ (upd _ q2 (.lst ((["out", "stop"] : List Str).map V.str))) := Same.new hq2
          refine g_inTs (ks := ["out", "stop"]) (.inr upd_same) ?_
          walk_at "go"
          refine ⟨?_, s2.trans s3⟩
          rw [decide_eq_true h5]
          rfl
        · walk_at "go"
          refine ⟨?_, s2⟩
          rw [decide_eq_false h5]
          rfl
    rintro σ H2 ⟨rfl, s2⟩
    walk_at "go"
    refine ⟨fun σ H3 => ∃ u, σ = [some x, some (.str what), some (.ref p), some v, some (.bl (keptB what (.tuple (.str k :: .int t :: rest)))), some u] ∧ Same H' H3 ∧ Im H3 u (shw what (.tuple (.str k :: .int t :: rest))), ?_, ?_⟩
    · walk_at "go"
      refine ⟨by show 2 ≤ sizeLine; decide, fun q hq => ?_⟩
      have s3 : Same H' (upd H2 q (.lst ((["lines", "visits"] : List Str).map V.str))) := s2.trans (Same.new hq)
      refine g_inTs (ks := ["lines", "visits"]) (.inr upd_same) ?_
      walk_at "go"
      refine g_ifB (fun h4 => ?_) (fun h4 => ?_)
      · walk_at "go"
        refine m_sl (hvd1.same s3) (fun q1 H4 s4 hq1 => ?_)
        walk_at "go"
        refine m_sl ((hvd1.same s3).same s4) (fun q2 H5 s5 hq2 => ?_)
        have e1 : cutD (.str k :: .int t :: rest) none (some 1) = [.str k] := cutD_to (n := 1)
        have e2 : cutD (.str k :: .int t :: rest) (some 2) none = rest := cutD_from (n := 2)
        rw [e1] at hq1
        rw [e2] at hq2
        refine m_cat (hq1.same s5) hq2 (by simp; omega) (fun q3 H6 s6 hq3 => ?_)
        walk_at "go"
        refine ⟨_, rfl, ((s3.trans s4).trans s5).trans s6, ?_⟩
        have e : shw what (.tuple (.str k :: .int t :: rest)) = .tuple (.str k :: rest) := by
          unfold shw
          rw [if_pos (show lv what = true from h4)]
          rfl
        rw [e]
        exact hq3
      · walk_at "go"
        refine ⟨_, rfl, s3, ?_⟩
        have e : shw what (.tuple (.str k :: .int t :: rest)) = .tuple (.str k :: .int t :: rest) := by
          unfold shw
          rw [show lv what = false from h4, if_neg Bool.false_ne_true]
        rw [e]
        exact hvd1.same s3
    rintro σ H3 ⟨u, rfl, s3, hu⟩
    walk_at "go"
    have hp3 := hp.same s3
    rw [viewL_succ hd]
    have fin : ∀ H4, Same H3 H4 → (keptB what (.tuple (.str k :: .int t :: rest)) || al what) = false → ∃ (p' : Addr) (o3 o4 o5 : Option V), [some x, some (.str what), some (.ref p), some v, some (.bl (keptB what (.tuple (.str k :: .int t :: rest)))), some u] = [some x, some (.str what), some (.ref p'), o3, o4, o5] ∧ Same H0 H4 ∧
        Im H4 (.ref p') (.tuple (viewL what (ds.take i) ++ (if (keptB what (.tuple (.str k :: .int t :: rest)) || al what) = true then [shw what (.tuple (.str k :: .int t :: rest))] else []))) := fun H4 s4 z =>
      ⟨p, _, _, _, rfl, (s1.trans s3).trans s4, by
        rw [z, if_neg Bool.false_ne_true, List.append_nil]
        exact hp3.same s4⟩
    have hlen := viewL_len (what := what) (ds.take i)
    rw [List.length_take] at hlen
    refine ⟨fun σ H4 => ∃ (p : Addr) (o3 o4 o5 : Option V), σ = [some x, some (.str what), some (.ref p), o3, o4, o5] ∧ Same H0 H4 ∧ Im H4 (.ref p) (.tuple (viewL what (ds.take i) ++ (if (keptB what (.tuple (.str k :: .int t :: rest)) || al what) = true then [shw what (.tuple (.str k :: .int t :: rest))] else []))), ?_, fun σ H4 z => z⟩
    have grow : ∀ H4, Same H3 H4 → (keptB what (.tuple (.str k :: .int t :: rest)) || al what) = true → ∀ q H5, Same H4 H5 → Im H5 (.ref q) (.tuple (viewL what (ds.take i) ++ [shw what (.tuple (.str k :: .int t :: rest))])) →
        ∃ (p : Addr) (o3 o4 o5 : Option V), [some x, some (.str what), some (.ref q), some v, some (.bl (keptB what (.tuple (.str k :: .int t :: rest)))), some u] = [some x, some (.str what), some (.ref p), o3, o4, o5] ∧ Same H0 H5 ∧
        Im H5 (.ref p) (.tuple (viewL what (ds.take i) ++ (if (keptB what (.tuple (.str k :: .int t :: rest)) || al what) = true then [shw what (.tuple (.str k :: .int t :: rest))] else []))) := fun H4 s4 z q H5 s5 hq =>
      ⟨q, _, _, _, rfl, ((s1.trans s3).trans s4).trans s5, by
        rw [z, if_pos rfl]
        exact hq⟩
    generalize keptB what (.tuple (.str k :: .int t :: rest)) = kb at *
    walk_at "go"
    refine g_ifB (fun h4 => ?_) (fun h4 => ?_)
    · subst h4
      walk_at "go"
      refine m_new (Ims.one hu) (by show 1 ≤ 100000; decide) (fun q H4 s4 _ hq => ?_)
      refine m_cat (hp3.same s4) hq (by simp; omega) (fun q2 H5 s5 hq2 => ?_)
      walk_at "go"
      exact grow H3 (Same.refl _) rfl q2 H5 (s4.trans s5) hq2
    · subst h4
      walk_at "go"
      refine ⟨by show 2 ≤ sizeLine; decide, fun q hq => ?_⟩
      have s4 : Same H3 (upd H3 q (.lst [.str "all", .str "lines"])) := Same.new hq
      refine g_inTs (ks := ["all", "lines"]) (.inr upd_same) ?_
      walk_at "go"
      refine g_ifB (fun h5 => ?_) (fun h5 => ?_)
      · walk_at "go"
        refine m_new (Ims.one (hu.same s4)) (by show 1 ≤ 100000; decide) (fun q1 H5 s5 _ hq1 => ?_)
        refine m_cat ((hp3.same s4).same s5) hq1 (by simp; omega) (fun q2 H6 s6 hq2 => ?_)
        walk_at "go"
        exact grow _ s4 (show (false || al what) = true from h5) q2 H6 (s5.trans s6) hq2
      · walk_at "go"
        exact fin _ s4 (show (false || al what) = false from h5)
  · rintro σ H' ⟨p, o3, o4, o5, rfl, s1, hp⟩
    walk_at "go"
    rw [hyl, List.take_length, viewL_eq hw] at hp
    exact hQ p H' (s0.trans s1) hp

abbrev kinds : List Str := ["fetch", "data", "touch", "drop", "guess", "back", "out", "stop"]
theorem kinds_ok : ∀ k ∈ kinds, PyData.strOk k = true := by decide +kernel
def sp_law_event (K : PySem.W.Frag) : Sp := fun vs H Q _ => ∃ (d r : Addr) (n sd : Int) (row : List Int) (L : List (Addr × HO)), vs = [.ref d] ∧ Has H ((d, .dK (drK r n sd)) :: (r, .lst (row.map V.int)) :: L) ∧ RowOk row sd ∧ 0 ≤ n ∧
  ∀ H' p e n', Keep [d] H H' → Has H' ((d, .dK (drK r n' sd)) :: (r, .lst (row.map V.int)) :: L) → 0 ≤ n' → Im H' (.ref p) e → Evd e → Q (.ref p) H'
theorem sc_law_event : FnScope ["draws", "kind", "time"] ["draws"] (defScope (topS 8)) := ⟨rfl, rfl, rfl, by decide +kernel, rfl, by decide +kernel, by decide +kernel⟩
theorem ok_law_event (T : Txt fa fn K mg) : Dn P w K mg base CX0 2 "_law_event" ["draws"] (sp_law_event K) := by
  refine mk_dn (d := dOf "_law_event" 8) T 6 6 rfl rfl rfl rfl rfl sc_law_event (by walk_at "len") (fun _ _ _ _ _ _ us hl => match us, hl with | [_], _ => rfl) (fun cdv A outer s H vs Q E hr h => ⟨_, (pss_cons (ps_set (i := 1) sc_law_event.nd rfl (.inl rfl) (pe_ixU (K := K) rfl (hu_of hr) (pe_lst (pa_cons pe_str (pa_cons pe_str (pa_cons pe_str (pa_cons pe_str (pa_cons pe_str (pa_cons pe_str (pa_cons pe_str (pa_cons pe_str pa_nil))))))))) (pe_callD (K := K) rfl (ok_law_next T) (hr.mono (by decide)) rfl pass0 (pa_cons (pv 0) (pa_cons pe_int pa_nil)))))
      (pss_cons (ps_set (i := 2) sc_law_event.nd rfl (.inl rfl) (pe_callD (K := K) rfl (ok_law_next T) (hr.mono (by decide)) rfl pass0 (pa_cons (pv 0) (pa_cons pe_int pa_nil))))
      (pss_cons (ps_if (pt_cmpR (op_eqU (K := K) rfl hr.units) (pv 1) pe_str (nomark _)) (pss_one (ps_ret (pe_tup (pa_cons (pv 1) (pa_cons (pv 2) pa_nil))))) pss_nil)
      (pss_cons (ps_if (pt_cmpR (op_inU (K := K) rfl (hu_of hr)) (pv 1) (pe_lst (pa_cons pe_str (pa_cons pe_str pa_nil))) (by rfl)) (pss_one (ps_ret (pe_tup (pa_cons (pv 1) (pa_cons (pv 2) (pa_cons (pe_callD (K := K) rfl (ok_law_next T) (hr.mono (by decide)) rfl pass0 (pa_cons (pv 0) (pa_cons pe_int pa_nil))) pa_nil)))))) pss_nil)
      (pss_one (ps_ret (pe_tup (pa_cons (pv 1) (pa_cons (pv 2) (pa_cons (pe_callD (K := K) rfl (ok_law_next T) (hr.mono (by decide)) rfl pass0 (pa_cons (pv 0) (pa_cons pe_int pa_nil))) (pa_cons (pe_cmpR (op_eqU (K := K) rfl hr.units) (pe_callD (K := K) rfl (ok_law_next T) (hr.mono (by decide)) rfl pass0 (pa_cons (pv 0) (pa_cons pe_int pa_nil))) pe_int (nomark _)) pa_nil))))))))))), ?_⟩)
  obtain ⟨d, r, n, sd, row, L, rfl, M, ok, hn, hQ⟩ := h
  walk_at "go"
  refine ⟨by show 8 ≤ sizeLine; decide, fun q hq => ?_⟩
  have M1 := M.new (o := .lst (kinds.map V.str)) hq
  have k1 : Keep [d] H (upd H q (.lst (kinds.map V.str))) := Keep.new hq
  walk_at "go"
  refine use_nextM M1 ok hn (by decide) (fun H2 v2 k2 M2 hv20 hv21 => ?_)
  obtain ⟨k, hk, hkm⟩ : ∃ k, (kinds.map V.str)[v2.toNat]? = some (.str k) ∧ k ∈ kinds := by
    have hl : v2.toNat < kinds.length := by show v2.toNat < 8; omega
    refine ⟨kinds[v2.toNat], ?_, List.getElem_mem hl⟩
    rw [List.getElem?_map, List.getElem?_eq_getElem hl]
    rfl
  have hqk : H2 q = some (.lst (kinds.map V.str)) := M2.is_ (q, .lst (kinds.map V.str)) (by simp)
  have hok := kinds_ok k hkm
  refine g_ixL (SqL.of hqk) (n := v2.toNat) (by omega) hk ?_
  have M2' : Has H2 ((d, .dK (drK r (n + 1) sd)) :: (r, .lst (row.map V.int)) :: L) := M2.sub ((List.sublist_append_left L _).cons₂ _ |>.cons₂ _)
  have k12 := k1.trans k2
  walk_at "go"
  refine use_nextM M2' ok (by omega) (by decide) (fun H3 t k3 M3 ht0 ht1 => ?_)
  have k13 := k12.trans k3
  walk_at "go"
  refine g_if (fun h1 => ?_) (fun h1 => ?_)
  · walk_at "go"
    refine m_new (.cons (.str k) (.cons (.int t) .nil)) (by show 2 ≤ 100000; decide) (fun p H4 s4 _ hp => ?_)
    exact hQ _ p _ _ (k13.trans (Keep.of s4)) (M3.keep s4) (by omega) hp ⟨k, t, [], rfl, hok, (fun _ h => nomatch h), Nat.zero_le _⟩
  walk_at "go"
  refine ⟨by show 2 ≤ sizeLine; decide, fun q2 hq2 => ?_⟩
  have s4 : Same H3 (upd H3 q2 (.lst ((["back", "out"] : List Str).map V.str))) := Same.new hq2
  have M4 := M3.keep s4
  have k14 := k13.trans (Keep.of s4)
  refine g_inTs (ks := ["back", "out"]) (.inr upd_same) ?_
  walk_at "go"
  refine g_ifB (fun h2 => ?_) (fun h2 => ?_)
  · walk_at "go"
    refine use_nextM M4 ok (by omega) (by decide) (fun H5 v5 k5 M5 h50 h51 => ?_)
    walk_at "go"
    refine m_new (.cons (.str k) (.cons (.int t) (.cons (.int v5) .nil))) (by show 3 ≤ 100000; decide) (fun p H6 s6 _ hp => ?_)
    exact hQ _ p _ _ ((k14.trans k5).trans (Keep.of s6)) (M5.keep s6) (by omega) hp ⟨k, t, [.int v5], rfl, hok, (fun x hx => by rw [List.mem_singleton.mp hx]; exact .int), by show 1 ≤ 2; decide⟩
  · walk_at "go"
    refine use_nextM M4 ok (by omega) (by decide) (fun H5 v5 k5 M5 h50 h51 => ?_)
    walk_at "go"
    refine use_nextM M5 ok (by omega) (by decide) (fun H6 v6 k6 M6 h60 h61 => ?_)
    walk_at "go"
    refine m_new (.cons (.str k) (.cons (.int t) (.cons (.int v5) (.cons (.bl _) .nil)))) (by show 4 ≤ 100000; decide) (fun p H7 s7 _ hp => ?_)
    refine hQ _ p _ _ (((k14.trans k5).trans k6).trans (Keep.of s7)) (M6.keep s7) (by omega) hp ⟨k, t, [.int v5, .bool _], rfl, hok, (fun x hx => ?_), by show 2 ≤ 2; decide⟩
    simp only [List.mem_cons, List.not_mem_nil, or_false] at hx
    rcases hx with rfl | rfl
    · exact .int
    · exact .bl
def sp_law_other (K : PySem.W.Frag) : Sp := fun vs H Q _ => ∃ (d r : Addr) (n sd : Int) (row : List Int) (L : List (Addr × HO)) (x : V) (ds : List PyData), vs = [.ref d, x] ∧ Has H ((d, .dK (drK r n sd)) :: (r, .lst (row.map V.int)) :: L) ∧ RowOk row sd ∧ 0 ≤ n ∧ Im H x (.tuple ds) ∧ (∀ e ∈ ds, Evd e) ∧ ds.length ≤ 100 ∧
  ∀ H' y es n', Keep [d] H H' → Has H' ((d, .dK (drK r n' sd)) :: (r, .lst (row.map V.int)) :: L) → 0 ≤ n' → Im H' y (.tuple es) → (∀ e ∈ es, Evd e) → es.length ≤ ds.length + 1 → Q y H'
theorem sc_law_other : FnScope ["draws", "row", "pick", "at"] ["draws", "row"] (defScope (topS 9)) := ⟨rfl, rfl, rfl, by decide +kernel, rfl, by decide +kernel, by decide +kernel⟩
theorem ok_law_other (T : Txt fa fn K mg) : Dn P w K mg base CX0 3 "_law_other" ["draws", "row"] (sp_law_other K) := by
  refine mk_dn (d := dOf "_law_other" 9) T 7 7 rfl rfl rfl rfl rfl sc_law_other (by walk_at "len") (fun _ _ _ _ _ _ us hl => match us, hl with | [_, _], _ => rfl) (fun cdv A outer s H vs Q E hr h => ⟨_, (pss_cons (ps_set (i := 2) sc_law_other.nd rfl (.inl rfl) (pe_callD (K := K) rfl (ok_law_next T) (hr.mono (by decide)) rfl pass0 (pa_cons (pv 0) (pa_cons pe_int pa_nil))))
      (pss_cons (ps_set (i := 3) sc_law_other.nd rfl (.inl rfl) (pe_callD (K := K) rfl (ok_law_next T) (hr.mono (by decide)) rfl pass0 (pa_cons (pv 0) (pa_cons (pe_op (op_addU (K := K) rfl) (pe_callB (c_len (K := K) rfl) rfl (T.free 14 rfl) (by decide +kernel) (pa_cons (pv 1) pa_nil)) pe_int) pa_nil))))
      (pss_cons (ps_if (pt_cmpR (op_eqU (K := K) rfl hr.units) (pv 2) pe_int (nomark _)) (pss_one (ps_ret (pe_callTy (c_tuple (K := K) rfl) rfl (T.free 17 rfl) (by decide +kernel) (pa_cons (pv 1) pa_nil)))) pss_nil)
      (pss_cons (ps_if (pt_cmpR (op_eqU (K := K) rfl hr.units) (pv 2) pe_int (nomark _)) (pss_one (ps_ret (pe_op (op_addU (K := K) rfl) (pe_slice (sl_U (K := K) rfl) (pv 1) po_none (po_some (pv 3))) (pe_slice (sl_U (K := K) rfl) (pv 1) (po_some (pe_op (op_addU (K := K) rfl) (pv 3) pe_int)) po_none)))) pss_nil)
      (pss_cons (ps_if (pt_cmpR (op_eqU (K := K) rfl hr.units) (pv 2) pe_int (nomark _)) (pss_one (ps_ret (pe_op (op_addU (K := K) rfl) (pe_op (op_addU (K := K) rfl) (pe_slice (sl_U (K := K) rfl) (pv 1) po_none (po_some (pv 3))) (pe_tup (pa_cons (pe_callD (K := K) rfl (ok_law_event T) (hr.mono (by decide)) rfl pass0 (pa_cons (pv 0) pa_nil)) pa_nil))) (pe_slice (sl_U (K := K) rfl) (pv 1) (po_some (pv 3)) po_none)))) pss_nil)
      (pss_cons (ps_if (pt_cmpR (op_eqU (K := K) rfl hr.units) (pv 2) pe_int (nomark _)) (pss_one (ps_ret (pe_op (op_addU (K := K) rfl) (pe_op (op_addU (K := K) rfl) (pe_slice (sl_U (K := K) rfl) (pv 1) po_none (po_some (pv 3))) (pe_tup (pa_cons (pe_callD (K := K) rfl (ok_law_event T) (hr.mono (by decide)) rfl pass0 (pa_cons (pv 0) pa_nil)) pa_nil))) (pe_slice (sl_U (K := K) rfl) (pv 1) (po_some (pe_op (op_addU (K := K) rfl) (pv 3) pe_int)) po_none)))) pss_nil)
      (pss_one (ps_ret (pe_slice (sl_U (K := K) rfl) (pv 1) po_none (po_some (pv 3))))))))))), ?_⟩)
  obtain ⟨d, r, n, sd, row, L, x, ds, rfl, M, ok, hn, hx, he, hl, hQ⟩ := h
  have nt : ∀ {H : Hp} {n : Int} , Has H ((d, .dK (drK r n sd)) :: (r, .lst (row.map V.int)) :: L) → NoTup H [d] := fun M => NoTup.one (M.get 0 rfl) (fun _ z => by cases z)
  walk_at "go"
  refine use_nextM M ok hn (by decide) (fun H1 pick k1 M1 hp0 hp1 => ?_)
  have hx1 := hx.keep k1 (nt M)
  walk_at "go"
  refine m_len hx1 ?_
  walk_at "go"
  refine use_nextM M1 ok (by omega) (by omega) (fun H2 at_ k2 M2 ha0 ha1 => ?_)
  have hx2 := hx1.keep k2 (nt M1)
  have k12 := k1.trans k2
  obtain ⟨j, rfl⟩ : ∃ j : Nat, at_ = (j : Int) := ⟨at_.toNat, by omega⟩
  have hj1 : ((j : Int) + 1) = ((j + 1 : Nat) : Int) := by omega
  have et : ∀ e ∈ ds.take j, Evd e := fun e h => he e (List.mem_of_mem_take h)
  have ed : ∀ m, ∀ e ∈ ds.drop m, Evd e := fun m e h => he e (List.mem_of_mem_drop h)
  walk_at "go"
  refine g_if (fun h1 => ?_) (fun h1 => ?_)
  · walk_at "go"
    exact m_tupleT hx2 (hQ _ _ ds _ k12 M2 (by omega) hx2 he (by omega))
  walk_at "go"
  refine g_if (fun h2 => ?_) (fun h2 => ?_)
  · walk_at "go"
    refine m_sl hx2 (fun p3 H3 s3 hp3 => ?_)
    walk_at "go"
    rw [hj1]
    refine m_sl (hx2.same s3) (fun p4 H4 s4 hp4 => ?_)
    rw [cutD_to] at hp3
    rw [cutD_from] at hp4
    refine m_cat (hp3.same s4) hp4 (by rw [List.length_take, List.length_drop]; omega) (fun p5 H5 s5 hp5 => ?_)
    have s35 := (s3.trans s4).trans s5
    refine hQ _ _ _ _ (k12.trans (Keep.of s35)) (M2.keep s35) (by omega) hp5 (fun e h => ?_) (by rw [List.length_append, List.length_take, List.length_drop]; omega)
    rcases List.mem_append.mp h with h | h
    · exact et e h
    · exact ed _ e h
  walk_at "go"
  refine g_if (fun h3 => ?_) (fun h3 => ?_)
  · walk_at "go"
    refine m_sl hx2 (fun p3 H3 s3 hp3 => ?_)
    rw [cutD_to] at hp3
    walk_at "go"
    refine ⟨d, r, _, sd, row, L, rfl, M2.keep s3, ok, by omega, fun H4 p4 e4 n4 k4 M4 hn4 hp4 he4 => ?_⟩
    walk_at "go"
    refine m_new (Ims.one hp4) (by show 1 ≤ 100000; decide) (fun p5 H5 s5 _ hp5 => ?_)
    refine m_cat ((hp3.keep k4 (nt (M2.keep s3))).same s5) hp5 (by rw [List.length_take, List.length_singleton]; omega) (fun p6 H6 s6 hp6 => ?_)
    have hx6 := (((hx2.same s3).keep k4 (nt (M2.keep s3))).same s5).same s6
    walk_at "go"
    refine m_sl hx6 (fun p7 H7 s7 hp7 => ?_)
    rw [cutD_from] at hp7
    refine m_cat (hp6.same s7) hp7 (by rw [List.length_append, List.length_take, List.length_singleton, List.length_drop]; omega) (fun p8 H8 s8 hp8 => ?_)
    have s58 := ((s5.trans s6).trans s7).trans s8
    refine hQ _ _ _ _ (((k12.trans (Keep.of s3)).trans k4).trans (Keep.of s58)) (M4.keep s58) hn4 hp8 (fun e h => ?_) (by rw [List.length_append, List.length_append, List.length_take, List.length_singleton, List.length_drop]; omega)
    rcases List.mem_append.mp h with h | h
    · rcases List.mem_append.mp h with h | h
      · exact et e h
      · rw [List.mem_singleton.mp h]; exact he4
    · exact ed _ e h
  walk_at "go"
  refine g_if (fun h4 => ?_) (fun h4 => ?_)
  · walk_at "go"
    refine m_sl hx2 (fun p3 H3 s3 hp3 => ?_)
    rw [cutD_to] at hp3
    walk_at "go"
    refine ⟨d, r, _, sd, row, L, rfl, M2.keep s3, ok, by omega, fun H4 p4 e4 n4 k4 M4 hn4 hp4 he4 => ?_⟩
    walk_at "go"
    refine m_new (Ims.one hp4) (by show 1 ≤ 100000; decide) (fun p5 H5 s5 _ hp5 => ?_)
    refine m_cat ((hp3.keep k4 (nt (M2.keep s3))).same s5) hp5 (by rw [List.length_take, List.length_singleton]; omega) (fun p6 H6 s6 hp6 => ?_)
    have hx6 := (((hx2.same s3).keep k4 (nt (M2.keep s3))).same s5).same s6
    walk_at "go"
    rw [hj1]
    refine m_sl hx6 (fun p7 H7 s7 hp7 => ?_)
    rw [cutD_from] at hp7
    refine m_cat (hp6.same s7) hp7 (by rw [List.length_append, List.length_take, List.length_singleton, List.length_drop]; omega) (fun p8 H8 s8 hp8 => ?_)
    have s58 := ((s5.trans s6).trans s7).trans s8
    refine hQ _ _ _ _ (((k12.trans (Keep.of s3)).trans k4).trans (Keep.of s58)) (M4.keep s58) hn4 hp8 (fun e h => ?_) (by rw [List.length_append, List.length_append, List.length_take, List.length_singleton, List.length_drop]; omega)
    rcases List.mem_append.mp h with h | h
    · rcases List.mem_append.mp h with h | h
      · exact et e h
      · rw [List.mem_singleton.mp h]; exact he4
    · exact ed _ e h
  · walk_at "go"
    refine m_sl hx2 (fun p3 H3 s3 hp3 => ?_)
    rw [cutD_to] at hp3
    exact hQ _ _ _ _ (k12.trans (Keep.of s3)) (M2.keep s3) (by omega) hp3 et (by rw [List.length_take]; omega)

theorem whats_at {i : Nat} {v : V} (h : (whats.map V.str)[i]? = some v) : ∃ w, v = .str w ∧ w ∈ whats := by
  rw [List.getElem?_map] at h
  cases e : whats[i]? with
  | none => rw [e] at h; cases h
  | some w =>
    rw [e] at h
    exact ⟨w, (Option.some.inj h).symm, List.mem_of_getElem? e⟩
def sp_law (K : PySem.W.Frag) : Sp := fun vs H Q _ => ∃ (a : Addr) (ns : List Int), vs = [.ref a] ∧ SqL K H a (ns.map V.int) ∧ ns.length ≤ 63 ∧ ∀ H', Q (.bl true) H'
theorem sc_law : FnScope ["script", "draws", "turn", "first", "second", "what", "told", "k"] ["script"] (defScope (topS 12)) := ⟨rfl, rfl, rfl, by decide +kernel, rfl, by decide +kernel, by decide +kernel⟩
theorem ok_law (T : Txt fa fn K mg) : Dn P w K mg base CX0 4 "law" ["script"] (sp_law K) := by
  refine mk_dn (d := dOf "law" 12) T 10 10 rfl rfl rfl rfl rfl sc_law (by walk_at "len") (fun _ _ _ _ _ _ us hl => match us, hl with | [_], _ => rfl) (fun cdv A outer s H vs Q E hr h => ⟨_, (pss_cons (ps_set (i := 1) sc_law.nd rfl (.inr rfl) (pe_callD (K := K) rfl (ok_law_reader T) (hr.mono (by decide)) rfl pass0 (pa_cons (pv 0) pa_nil)))
      (pss_cons (ps_for PassesOwn.never rfl (pi_r1 rfl (T.free 16 rfl) (pa_cons pe_int pa_nil)) (pg_name (i := 2) sc_law.nd rfl (.inl rfl)) (pss_cons (ps_set (i := 3) sc_law.nd rfl (.inl rfl) (pe_callTy (c_tuple (K := K) rfl) rfl (T.free 17 rfl) (by decide +kernel) (pa_cons (pe_lc rfl sc_law.nd (pi_r1 rfl (T.free 16 rfl) (pa_cons (pe_callD (K := K) rfl (ok_law_next T) (hr.mono (by decide)) rfl pass0 (pa_cons (pv 1) (pa_cons pe_int pa_nil))) pa_nil)) (blkOk_by (own := [("k", 7)]) (N := ["script", "draws", "turn", "first", "second", "what", "told", "k"]) (sc := defScope (topS 12)) (by decide +kernel)) (fun _ _ _ _ _ => (pg_name (i := 7) sc_law.nd rfl (.inl rfl))) (fun _ _ _ _ _ => pts_nil) (fun _ _ _ _ _ => (pe_callD (K := K) rfl (ok_law_event T) (hr.mono (by decide)) rfl pass0 (pa_cons (pv 1) pa_nil)))) pa_nil)))
      (pss_cons (ps_set (i := 4) sc_law.nd rfl (.inl rfl) (pe_callD (K := K) rfl (ok_law_other T) (hr.mono (by decide)) rfl pass0 (pa_cons (pv 1) (pa_cons (pv 3) pa_nil))))
      (pss_cons (ps_if (PW.pt (pw_or (pt_cmpR (op_neU (K := K) rfl hr.units) (pe_callD (K := K) rfl (ok_apart T) (hr.mono (by decide)) rfl pass0 (pa_cons (pv 3) (pa_cons (pv 4) pa_nil))) (pe_callD (K := K) rfl (ok_law_parted T) (hr.mono (by decide)) rfl pass0 (pa_cons (pv 3) (pa_cons (pv 4) pa_nil))) (nomark _)) (pw_or1 (pt_cmpR o_notN (pe_callD (K := K) rfl (ok_apart T) (hr.mono (by decide)) rfl pass0 (pa_cons (pv 4) (pa_cons (pv 4) pa_nil))) pe_non (nomark _))))) (pss_one (ps_ret pe_bl)) pss_nil)
      (pss_cons (ps_if (pt_cmpR (op_neU (K := K) rfl hr.units) (pe_callD (K := K) rfl (ok_apart T) (hr.mono (by decide)) rfl pass0 (pa_cons (pv 4) (pa_cons (pv 3) pa_nil))) (pe_callD (K := K) rfl (ok_law_parted T) (hr.mono (by decide)) rfl pass0 (pa_cons (pv 4) (pa_cons (pv 3) pa_nil))) (nomark _)) (pss_one (ps_ret pe_bl)) pss_nil)
      (pss_one (ps_for PassesOwn.never rfl (pi_seq (K := K) rfl (pe_lst (pa_cons pe_str (pa_cons pe_str (pa_cons pe_str (pa_cons pe_str pa_nil)))))) (pg_name (i := 5) sc_law.nd rfl (.inl rfl)) (pss_cons (ps_set (i := 6) sc_law.nd rfl (.inl rfl) (pe_callD (K := K) rfl (ok_view T) (hr.mono (by decide)) rfl pass0 (pa_cons (pv 3) (pa_cons (pv 5) pa_nil))))
      (pss_cons (ps_if (PW.pt (pw_or (pt_not (pt_tru (K := K) rfl (pe_callB (c_isi (K := K) rfl) rfl (T.free 13 rfl) (by decide +kernel) (pa_cons (pv 6) (pa_cons (pe_bltn (v := .ty "tuple") rfl (T.free 17 rfl) (by decide +kernel) rfl) pa_nil))))) (pw_or1 (pt_cmpR (op_neU (K := K) rfl hr.units) (pv 6) (pe_callD (K := K) rfl (ok_law_viewed T) (hr.mono (by decide)) rfl pass0 (pa_cons (pv 3) (pa_cons (pv 5) pa_nil))) (nomark _))))) (pss_one (ps_ret pe_bl)) pss_nil)
      (pss_one (ps_if (pt_cmpR (op_neU (K := K) rfl hr.units) (pe_callD (K := K) rfl (ok_apart T) (hr.mono (by decide)) rfl pass0 (pa_cons (pv 6) (pa_cons (pe_callD (K := K) rfl (ok_view T) (hr.mono (by decide)) rfl pass0 (pa_cons (pv 4) (pa_cons (pv 5) pa_nil))) pa_nil))) (pe_callD (K := K) rfl (ok_law_parted T) (hr.mono (by decide)) rfl pass0 (pa_cons (pv 6) (pa_cons (pe_callD (K := K) rfl (ok_law_viewed T) (hr.mono (by decide)) rfl pass0 (pa_cons (pv 4) (pa_cons (pv 5) pa_nil))) pa_nil))) (nomark _)) (pss_one (ps_ret pe_bl)) pss_nil)))))))))))
      (pss_one (ps_ret (pe_and (pe_cmpR (op_eqU (K := K) rfl hr.units) (pe_callD (K := K) rfl (ok_view T) (hr.mono (by decide)) rfl pass0 (pa_cons (pe_tup pa_nil) (pa_cons pe_str pa_nil))) (pe_tup pa_nil) (nomark _)) (pe_one (pe_cmpR o_isN (pe_callD (K := K) rfl (ok_apart T) (hr.mono (by decide)) rfl pass0 (pa_cons (pe_tup pa_nil) (pa_cons (pe_tup pa_nil) pa_nil))) pe_non (nomark _)))))))), ?_⟩)
  obtain ⟨a, ns, rfl, hS, hlen, hQ⟩ := h
  walk_at "go"
  refine ⟨a, ns, rfl, hS, hlen, fun H1 d r row sd s1 hd0 hr0 M1 ok => ?_⟩
  walk_at "go"
  have nt : ∀ {H : Hp} {n : Int} {L : List (Addr × HO)}, Has H ((d, .dK (drK r n sd)) :: L) → NoTup H [d] := fun M => NoTup.one (M.get 0 rfl) (fun _ z => by cases z)
  refine f_range (fun i σ H' => ∃ (n : Int) (o2 o3 o4 o5 o6 o7 : Option V), σ = [some (.ref a), some (.ref d), o2, o3, o4, o5, o6, o7] ∧ Has H' [(d, .dK (drK r n sd)), (r, .lst (row.map V.int))] ∧ 0 ≤ n)
    ⟨0, _, _, _, _, _, _, rfl, M1, Int.le_refl _⟩ ?_ ?_
  · rintro i σ H' hi ⟨n, o2, o3, o4, o5, o6, o7, rfl, M, hn⟩
    walk_at "go"
    refine use_nextM M ok hn (by decide) (fun H2 m k2 M2 hm0 hm1 => ?_)
    walk_at "go"
    refine l_range (fun D i H' => ∃ (n : Int) (xs : List V) (es : List PyData), Has H' ([(d, .dK (drK r n sd)), (r, .lst (row.map V.int))] ++ [(D, .lst xs)]) ∧ Ims H' xs es ∧ (∀ e ∈ es, Evd e) ∧ es.length = i ∧ 0 ≤ n) (fun D hD => ⟨_, [], [], M2.new hD, .nil, (fun _ h => nomatch h), rfl, by omega⟩) ?_ ?_
    · rintro D hD j H3 hj ⟨n3, xs, es, M3, hxs, hes, hl, hn3⟩
      walk_at "go"
      refine ⟨d, r, n3, sd, row, _, rfl, M3, ok, hn3, fun H4 p e n4 k4 M4 hn4 hp he => ?_⟩
      walk_at "go"
      have hxs4 := hxs.keep k4 (nt M3)
      refine ⟨xs, M4.get 2 rfl, szl (by rw [hxs.length, hl]; omega), n4, xs ++ [.ref p], es ++ [e], M4.set 2 rfl, (hxs4.append (Ims.one hp)).keep (Keep.set (List.mem_singleton.mpr rfl)) (NoTup.one (M4.get 2 rfl) (fun _ z => by cases z)), fun x hx => ?_, by rw [List.length_append, hl]; rfl, hn4⟩
      rcases List.mem_append.mp hx with hx | hx
      · exact hes x hx
      · rw [List.mem_singleton.mp hx]; exact he
    rintro D hD H3 ⟨n3, xs, es, M3, hxs, hes, hl, hn3⟩
    walk_at "go"
    have hl13 : es.length ≤ 13 := by omega
    refine m_tupleL (SqL.of (M3.get 2 rfl)) hxs (fun p1 H4 s4 _ hp1 => ?_)
    have M4 : Has H4 [(d, .dK (drK r n3 sd)), (r, .lst (row.map V.int))] := (M3.sub (List.sublist_append_left [_, _] _)).keep s4
    walk_at "go"
    refine ⟨d, r, n3, sd, row, [], _, es, rfl, M4, ok, hn3, hp1, hes, by omega, fun H5 y fs n5 k5 M5 hn5 hy hfs hlf => ?_⟩
    have hp5 := hp1.keep k5 (nt M4)
    have le : ∀ d ∈ es, Lay 5 d := fun d hd => (hes d hd).lay.mono (by decide)
    have lf : ∀ d ∈ fs, Lay 5 d := fun d hd => (hfs d hd).lay.mono (by decide)
    have la : ∀ {es fs : List PyData}, (∀ d ∈ es, Lay 5 d) → (∀ d ∈ fs, Lay 5 d) → Lay 6 (apD 0 es fs) := fun a b => apD_lay a b
    walk_at "go"
    refine ⟨_, _, es, fs, rfl, hp5, hy, le, lf, by omega, by omega, fun v6 H6 s6 h6 => ?_⟩
    walk_at "go"
    refine ⟨_, _, es, fs, rfl, hp5.same s6, hy.same s6, le, lf, by omega, by omega, fun v7 H7 s7 h7 => ?_⟩
    refine m_ne (h6.same s7) h7 ((la le lf).shaped (by decide)) ((la le lf).shaped (by decide)) ?_
    rw [(la le lf).refl]
    have s57 := s6.trans s7
    walk_at "go"
    refine ⟨_, _, fs, fs, rfl, hy.same s57, hy.same s57, lf, lf, by omega, by omega, fun v8 H8 s8 h8 => ?_⟩
    rw [apD_self lf] at h8
    rw [h8.non_inv]
    have s58 := s57.trans s8
    walk_at "go"
    refine ⟨_, _, fs, es, rfl, hy.same s58, hp5.same s58, lf, le, by omega, by omega, fun v9 H9 s9 h9 => ?_⟩
    walk_at "go"
    refine ⟨_, _, fs, es, rfl, (hy.same s58).same s9, (hp5.same s58).same s9, lf, le, by omega, by omega, fun v10 H10 s10 h10 => ?_⟩
    refine m_ne (h9.same s10) h10 ((la lf le).shaped (by decide)) ((la lf le).shaped (by decide)) ?_
    rw [(la lf le).refl]
    have sA := (s58.trans s9).trans s10
    have hpA := hp5.same sA
    have hyA := hy.same sA
    have MA := M5.keep sA
    walk_at "go"
    refine ⟨by show 4 ≤ sizeLine; decide, fun q hq => ?_⟩
    refine g_seqL (xs := whats.map V.str) (SqL.of upd_same) ?_
    have sq : Same H10 (upd H10 q (.lst (whats.map V.str))) := Same.new hq
    have hpB := hpA.same sq
    have hyB := hyA.same sq
    have MB := MA.keep sq
    refine f_list (xs := whats.map V.str) (fun j σ H' => ∃ (o2 o5 o6 o7 : Option V), σ = [some (.ref a), some (.ref d), o2, some (.ref p1), some y, o5, o6, o7] ∧ Same (upd H10 q (.lst (whats.map V.str))) H')
      ⟨_, _, _, _, rfl, Same.refl _⟩ (fun j σ H' _ ⟨_, _, _, _, _, hs⟩ => SqL.of (hs _ _ upd_same)) ?_ ?_
    · rintro j v σ HC hj ⟨o2, o5, o6, o7, rfl, sC⟩
      obtain ⟨w, rfl, hw⟩ := whats_at hj
      have hpC := hpB.same sC
      have hyC := hyB.same sC
      have lv1 : ∀ d ∈ viewD es w, Lay 5 d := fun d hd => (view_lay hes d hd).mono (by decide)
      have lv2 : ∀ d ∈ viewD fs w, Lay 5 d := fun d hd => (view_lay hfs d hd).mono (by decide)
      have n1 := view_len (what := w) (ds := es)
      have n2 := view_len (what := w) (ds := fs)
      walk_at "go"
      refine ⟨_, es, w, rfl, hpC, hes, by omega, fun pt HD sD hD => ?_⟩
      walk_at "go"
      refine m_isiT hD k_tt ?_
      walk_at "go"
      refine ⟨_, es, w, rfl, hpC.same sD, hes, by omega, hw, fun pu HE sE hE => ?_⟩
      refine m_ne (hD.same sE) hE ((Lay.tup lv1).shaped (by decide)) ((Lay.tup lv1).shaped (by decide)) ?_
      rw [(Lay.tup lv1).refl]
      have sDE := sD.trans sE
      walk_at "go"
      refine ⟨_, fs, w, rfl, hyC.same sDE, hfs, by omega, fun p3 HF sF hF => ?_⟩
      walk_at "go"
      refine ⟨_, _, _, _, rfl, (hD.same sE).same sF, hF, lv1, lv2, by omega, by omega, fun v5 HG sG hG => ?_⟩
      have sDG := (sDE.trans sF).trans sG
      walk_at "go"
      refine ⟨_, fs, w, rfl, hyC.same sDG, hfs, by omega, hw, fun p4 HI sI hI => ?_⟩
      walk_at "go"
      refine ⟨_, _, _, _, rfl, (((hD.same sE).same sF).same sG).same sI, hI, lv1, lv2, by omega, by omega, fun v6 HJ sJ hJ => ?_⟩
      refine m_ne ((hG.same sI).same sJ) hJ ((la lv1 lv2).shaped (by decide)) ((la lv1 lv2).shaped (by decide)) ?_
      rw [(la lv1 lv2).refl]
      walk_at "go"
      exact ⟨_, _, _, _, rfl, ((sC.trans sDG).trans sI).trans sJ⟩
    · rintro σ HC ⟨o2, o5, o6, o7, rfl, sC⟩
      walk_at "go"
      exact ⟨n5, _, _, _, _, _, _, rfl, MB.keep sC, hn5⟩
  · rintro σ H' ⟨n, o2, o3, o4, o5, o6, o7, rfl, M, hn⟩
    walk_at "go"
    refine m_new .nil (by decide) (fun p H2 s2 _ hp => ?_)
    walk_at "go"
    refine ⟨_, [], _, rfl, hp, (fun _ h => nomatch h), by decide, fun p3 H3 s3 hp3 => ?_⟩
    walk_at "go"
    refine m_new .nil (by decide) (fun p4 H4 s4 _ hp4 => ?_)
    have e : ∀ w : Str, viewD [] w = [] := fun w => by
      unfold viewD
      split
      · rfl
      · split
        · rfl
        · split <;> rfl
    rw [e] at hp3
    have l0 : Lay 1 (.tuple []) := Lay.tup (k := 0) (fun _ h => nomatch h)
    refine m_eq (hp3.same s4) hp4 (l0.shaped (by decide)) (l0.shaped (by decide)) ?_
    rw [l0.refl]
    walk_at "go"
    refine m_new .nil (by decide) (fun p5 H5 s5 _ hp5 => ?_)
    walk_at "go"
    refine m_new .nil (by decide) (fun p6 H6 s6 _ hp6 => ?_)
    walk_at "go"
    refine ⟨_, _, [], [], rfl, hp5.same s6, hp6, (fun _ h => nomatch h), (fun _ h => nomatch h), by decide, by decide, fun v7 H7 s7 h7 => ?_⟩
    rw [show apD 0 [] [] = .none from rfl] at h7
    rw [h7.non_inv]
    walk_at "go"
    exact hQ _
/-! ### the head -/
abbrev R : PySem.W.OpenRow := PySem.W.OpenLaw.row PySem.Challenge.rw_sameclock_k31_views_and_where_traces_par
abbrev hk : PySem.W.Hook := He.hookD 4 fa fn
def ob (s : PySem.W.SharedT) : He.AlD := He.obsDG 4 fa fn (HandSHeadRun.getT s)
theorem ob_eq (s : PySem.W.SharedT) : ob s = hk.obs s.abs := He.obsDG_eq (HandSHeadRun.getT_eq s)
theorem run (w : World) : HandSHeadRun.RunEq R (PySem.W.view R.prog [12]) hk ob 3000 ["without_time", "view", "apart", "_law_draws", "_law_reader", "_law_next", "_law_event", "_law_other", "_law_viewed", "_law_parted"] w := by
  intro os
  kernel_rfl
theorem facts {P : Program} {w : World} {K : PySem.W.Frag} {h : Heap} {mg : Str → Option Value} {f : Addr} (X : K.In h) (G : h.Ns mainGlobals mg) (hfa : mg ("law" : Str) = some (.ref f)) (c : He.SaysD fa fn K) :
    ∃ fd : FuncData, (∀ (s : Shared) (v : Value), BindsTo s fd ⟨[v], []⟩ [("script", v)]) ∧ ∀ base : Heap, K.In base → base.Ns mainGlobals mg → FnOk P w K mg base CX0 4 f fd ["script"] (sp_law K) :=
  law_facts (d := dOf "law" 12) X G hfa c 10 10 rfl rfl rfl rfl rfl (fun _ _ _ _ _ _ us hl => match us, hl with | [_], _ => rfl) fun _ T => ok_law T
end K31
open PySem PySem.W PySem.Calls PyProof.Rows
theorem PySem.Challenge.cw_sameclock_k31_views_and_where_traces_par_holds : PySem.Challenge.rw_sameclock_k31_views_and_where_traces_par.Holds := by
  w_on; o_law
  refine HandSHeadRun.head_any (r := OpenLaw.row PySem.Challenge.rw_sameclock_k31_views_and_where_traces_par) (q := view (OpenLaw.row PySem.Challenge.rw_sameclock_k31_views_and_where_traces_par).prog [12]) (H := K31.hk) (ob := K31.ob) (M := 3000) (loose := ["without_time", "view", "apart", "_law_draws", "_law_reader", "_law_next", "_law_event", "_law_other", "_law_viewed", "_law_parted"]) (d := HandSHeadRun.topDef (OpenLaw.row PySem.Challenge.rw_sameclock_k31_views_and_where_traces_par).prog 12) (kwd := []) K31.ob_eq
    (by kernel_rfl) (fun s => by kernel_rfl) K31.run (by kernel_rfl) (by kernel_rfl) (by kernel_rfl) (by rfl) (by first | assumption | decide +kernel) (by decide +kernel) ⟨rfl, rfl, rfl, rfl, rfl, by decide +kernel⟩ ?hw ?hc
  case hw => w_witness2
  case hc =>
    refine L2.walk_ofE (l := PySem.Challenge.rw_sameclock_k31_views_and_where_traces_par) (n := 63) (k := 4) (x := "script") (CX := L2.CX0) rfl (by decide) (by kernel_rfl) ⟨rfl, by decide, by decide⟩ ?F (fun _ _ _ _ z => z)
    intro w mg fa h Y G hmg0
    obtain ⟨K, KX, c⟩ := Y
    have hmg : mg ("law" : PySem.Str) = some (.ref fa) := by
      have e : (HandSHeadRun.topDef (OpenLaw.row PySem.Challenge.rw_sameclock_k31_views_and_where_traces_par).prog 12).name = ("law" : PySem.Str) := by kernel_rfl
      rw [← e]
      exact hmg0
    obtain ⟨fd, hb, hF⟩ := K31.facts (P := (PySem.Challenge.rw_sameclock_k31_views_and_where_traces_par).prog) (w := w) KX G hmg c
    exact ⟨K, fd, K31.sp_law K, KX, hb, fun H a ns hl _ hS => ⟨a, ns, rfl, hS, hl, fun _ => rfl⟩, hF⟩
#print axioms PySem.Challenge.cw_sameclock_k31_views_and_where_traces_par_holds

