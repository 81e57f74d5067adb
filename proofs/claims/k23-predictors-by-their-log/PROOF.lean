import PyProof.Rows.All
import Wide.All
import OpenK.AllK
import Wide.FinOn
import HandS.ForMost
import HandS.Wide
import HandS.WideMore
import HandS.IsInst
import HandS.Defaults
import HandS.Flow
import HandS.Exc
import HandS.Head0
import HandS.Head1
import HandS.Head2
import HandS.HeadEnd
import HandS.HeadHook1
import HandS.HeadHook2
import HandS.HeadHook3
import PySem.Challenge.RW_sameclock_k23_predictors_by_their_log
set_option Elab.async false
set_option linter.all false
set_option maxRecDepth 100000
set_option maxHeartbeats 4000000
/-! Own base: a heap told by a list of its objects, frames of calls, joins of ways, whiles by a measure, calls by one structure. -/
namespace G
open PySem PySem.Spec PyProof.Rows L2

/-- the objects one speaks of, each once -/
structure Has (H : Hp) (L : List (Addr × HO)) : Prop where
  nd : (L.map (·.1)).Nodup
  is_ : ∀ p ∈ L, H p.1 = some p.2

section
variable {H H' : Hp} {L : List (Addr × HO)} {a p : Addr} {o o' : HO}
theorem Has.nil : Has H [] := ⟨List.nodup_nil, fun _ h => nomatch h⟩
theorem Has.get (M : Has H L) (i : Nat) (h : L[i]? = some (a, o)) : H a = some o := M.is_ _ (List.mem_of_getElem? h)
theorem Has.one (h : H a = some o) : Has H [(a, o)] := ⟨by simp, fun p hp => by
  rw [List.mem_singleton.mp hp]
  exact h⟩
theorem keep_new (h : H a = some o) (hp : H p = none) : upd H p o' a = some o := by
  rw [upd_ne (ne_of_none h hp)]
  exact h
theorem Has.fresh (M : Has H L) (hp : H p = none) : p ∉ L.map (·.1) := fun h => by
  obtain ⟨q, hq, e⟩ := List.mem_map.mp h
  have := M.is_ q hq
  rw [e, hp] at this
  cases this
theorem Has.new (M : Has H L) (hp : H p = none) : Has (upd H p o) (L ++ [(p, o)]) where
  nd := by
    rw [List.map_append, List.nodup_append]
    refine ⟨M.nd, by simp, fun x hx y hy e => ?_⟩
    simp only [List.map_cons, List.map_nil, List.mem_singleton] at hy
    subst hy
    subst e
    exact M.fresh hp hx
  is_ := fun q hq => by
    rcases List.mem_append.mp hq with h | h
    · exact keep_new (M.is_ q h) hp
    · rw [List.mem_singleton.mp h]
      exact upd_same
theorem nodup_fst {L : List (Addr × HO)} (nd : (L.map (·.1)).Nodup) {i j : Nat} {a : Addr} {x y : HO} (hi : L[i]? = some (a, x)) (hj : L[j]? = some (a, y)) : i = j := by
  have h1 : (L.map (·.1))[i]? = some a := by rw [List.getElem?_map, hi]; rfl
  have h2 : (L.map (·.1))[j]? = some a := by rw [List.getElem?_map, hj]; rfl
  exact nd_ix nd h1 h2
theorem map_fst_set : ∀ {L : List (Addr × HO)} {i : Nat} {o o' : HO} {a : Addr}, L[i]? = some (a, o) → (L.set i (a, o')).map (·.1) = L.map (·.1)
  | [], _, _, _, _, h => by simp at h
  | p :: L, 0, _, _, _, h => by
    simp only [List.getElem?_cons_zero, Option.some.injEq] at h
    subst h
    rfl
  | p :: L, i + 1, o, o', a, h => by
    simp only [List.getElem?_cons_succ] at h
    simp only [List.set_cons_succ, List.map_cons, List.cons.injEq, true_and]
    exact map_fst_set h
/-- the object at place i is another one in H', the others stand -/
theorem Has.put (M : Has H L) (i : Nat) (h : L[i]? = some (a, o)) (k : ∀ b u, H b = some u → b ≠ a → H' b = some u) (e : H' a = some o') : Has H' (L.set i (a, o')) where
  nd := by
    rw [map_fst_set h]
    exact M.nd
  is_ := fun q hq => by
    obtain ⟨j, hj, e2⟩ := List.mem_iff_getElem.mp hq
    have hj' : (L.set i (a, o'))[j]? = some q := by rw [List.getElem?_eq_getElem hj, e2]
    rw [List.getElem?_set] at hj'
    split at hj'
    · split at hj'
      · cases hj'
        exact e
      · cases hj'
    · rename_i hij
      have hm := M.is_ q (List.mem_of_getElem? hj')
      refine k _ _ hm fun ea => hij ?_
      obtain ⟨b, u⟩ := q
      subst ea
      exact nodup_fst M.nd h hj'
theorem Has.set (M : Has H L) (i : Nat) (h : L[i]? = some (a, o)) : Has (upd H a o') (L.set i (a, o')) :=
  M.put i h (fun b u e n => by rw [upd_ne n]; exact e) upd_same
theorem Has.keep (M : Has H L) (k : Same H H') : Has H' L := ⟨M.nd, fun p hp => k _ _ (M.is_ p hp)⟩
theorem Has.sub (M : Has H L) {L' : List (Addr × HO)} (h : L'.Sublist L) : Has H L' := ⟨M.nd.sublist (h.map _), fun p hp => M.is_ p (h.subset hp)⟩
theorem Has.perm (M : Has H L) {L' : List (Addr × HO)} (h : L.Perm L') : Has H L' := ⟨(h.map _).nodup_iff.mp M.nd, fun p hp => M.is_ p (h.mem_iff.mpr hp)⟩
theorem Has.ne (M : Has H L) {b : Addr} {u : HO} (i j : Nat) (hi : L[i]? = some (a, o)) (hj : L[j]? = some (b, u)) (hij : i ≠ j) : a ≠ b := fun e => by
  subst e
  exact hij (nodup_fst M.nd hi hj)
end

/-- all that was tracked stands, but what stands at ms -/
def Keep (ms : List Addr) (H H' : Hp) : Prop := ∀ b o, H b = some o → b ∉ ms → H' b = some o
section
variable {ms : List Addr} {H H1 H2 : Hp} {L : List (Addr × HO)} {a p : Addr} {o o' : HO}
theorem Keep.refl : Keep ms H H := fun _ _ h _ => h
theorem Keep.trans (x : Keep ms H H1) (y : Keep ms H1 H2) : Keep ms H H2 := fun b o h n => y b o (x b o h n) n
theorem Keep.of (x : Same H H1) : Keep ms H H1 := fun b o h _ => x b o h
theorem Keep.same (x : Keep [] H H1) : Same H H1 := fun b o h => x b o h (nomatch ·)
theorem Keep.mono {ns : List Addr} (x : Keep ms H H1) (h : ∀ b ∈ ms, b ∈ ns) : Keep ns H H1 := fun b o e n => x b o e fun z => n (h b z)
theorem Same.new (hp : H p = none) : Same H (upd H p o) := fun b u h => keep_new h hp
theorem Keep.new (hp : H p = none) : Keep ms H (upd H p o) := .of (Same.new hp)
theorem Keep.set (h : a ∈ ms) : Keep ms H (upd H a o) := fun b u e n => by
  rw [upd_ne fun z => n (by rw [z]; exact h)]
  exact e
/-- an object that H does not know is changed -/
theorem Keep.mut (x : Keep ms H H1) (h : H a = none) : Keep ms H (upd H1 a o) := fun b u e n => by
  rw [upd_ne (ne_of_none e h)]
  exact x b u e n
theorem Has.call1 (M : Has H L) (k : Keep [a] H H1) (i : Nat) (h : L[i]? = some (a, o)) (e : H1 a = some o') : Has H1 (L.set i (a, o')) :=
  M.put i h (fun b u q n => k b u q (by simpa using n)) e
theorem Same.back (k : Same H H1) (h : H1 p = none) : H p = none := k.free h
theorem Keep.back (k : Keep ms H H1) (h : H1 p = none) (hm : p ∉ ms) : H p = none := by
  cases e : H p with
  | none => rfl
  | some o =>
    rw [k p o e hm] at h
    cases h
end

/-! ### joins, whiles -/
section
variable {X : Cx} {st : Stmt} {sts : List Stmt} {t : TS}
/-- behind a statement N holds, from which one goes on -/
def tJoin (t : TS) : TS := fun D σ H => ∃ N : L2.St → Hp → Prop, t { D with nx := N } σ H ∧ ∀ σ' H', N σ' H' → D.nx σ' H'
theorem SP.nx {pins : List (Addr × Obj)} {D : Ends} {N : L2.St → Hp → Prop} (h : ∀ σ' H', N σ' H' → D.nx σ' H') {f : PySem.Flow} {s' : Shared} (z : SP X pins { D with nx := N } f s') : SP X pins D f s' := by
  cases f with
  | next =>
    obtain ⟨σ', H', I, q⟩ := z
    exact ⟨σ', H', I, h _ _ q⟩
  | brk => exact z
  | cont => exact z
  | ret u => exact z
theorem ps_join (h : PS X st t) : PS X st (tJoin t) := ⟨fun pins s σ H D I ⟨N, h1, h2⟩ => thn (h.run pins s σ H _ I h1) fun _ _ z => SP.nx h2 z⟩
theorem pss_join (h : PSs X sts t) : PSs X sts (tJoin t) := ⟨fun pins s σ H D I ⟨N, h1, h2⟩ => thn (h.run pins s σ H _ I h1) fun _ _ z => SP.nx h2 z⟩
end

/-! ### the text's facts, defs by name -/
structure Txt (fa : List He.Fa) (fn : List He.DefD) (K : PySem.W.Frag) (mg : Str → Option Value) : Prop where
  c : He.SaysD fa fn K
  h : ∃ h : Heap, K.In h ∧ h.Ns mainGlobals mg
/-- a def that calls may name -/
structure Dn (P : Program) (w : World) (K : PySem.W.Frag) (mg : Str → Option Value) (base : Heap) (CX : CXT) (k : Nat) (x : Str) (ps : List Str) (sp : Sp) : Prop where
  ex : ∃ (f : Addr) (fd : FuncData), FnOk P w K mg base CX k f fd ps sp ∧ mg x = some (.ref f) ∧ PySem.W.keepIn K (.ref f) = true ∧ Binds K fd ps [] ∧ ∃ oc od osl, K.lookup f = some ⟨oc, od, .func fd, osl⟩
section
variable {fa : List He.Fa} {fn : List He.DefD} {P : Program} {w : World} {K : PySem.W.Frag} {mg : Str → Option Value} {base : Heap}
theorem Txt.glo (T : Txt fa fn K mg) (j : Nat) {x : Str} (h : fa[j]? = some (.glo x)) : mg x = some (.ref (He.ga K x)) := by
  obtain ⟨_, X, G⟩ := T.h
  exact He.glo_ok X G (T.c.fact j h)
theorem Txt.free (T : Txt fa fn K mg) (j : Nat) {x : Str} (h : fa[j]? = some (.free x)) : mg x = none := by
  obtain ⟨_, X, G⟩ := T.h
  exact He.free_ok X G (T.c.fact j h)
theorem Txt.int (T : Txt fa fn K mg) (j : Nat) {x : Str} {i : Int} (h : fa[j]? = some (.int x i)) : ∃ t, mg x = some (.int i t) := by
  obtain ⟨_, X, G⟩ := T.h
  exact He.int_ok X G (T.c.fact j h)
theorem Txt.def_ (T : Txt fa fn K mg) (i j : Nat) {d : He.DefD} (hd : fn[i]? = some d) (hg : fa[j]? = some (.glo d.at_.1)) (hm : d.at_.2 = none) (h1 : d.dfl = []) (h2 : d.kwd = []) :
    (∃ fd, FunD K d.name d.qual d.params d.body d.scope [] [] (He.ga K d.at_.1) fd) ∧ mg d.at_.1 = some (.ref (He.ga K d.at_.1)) := by
  refine ⟨?_, T.glo j hg⟩
  obtain ⟨fd, F⟩ := T.c.def_ i hd
  have e : He.fAd K d.at_ = He.ga K d.at_.1 := by
    unfold He.fAd
    rw [hm]
  have e1 : d.dvs K = [] := by
    unfold He.DefD.dvs
    rw [h1]
    rfl
  have e2 : d.kws K = [] := by
    unfold He.DefD.kws
    rw [h2]
    rfl
  rw [e, e1, e2] at F
  exact ⟨fd, F⟩
/-- a def without defaults that lets nothing out -/
theorem mk_dn (T : Txt fa fn K mg) (i j : Nat) {d : He.DefD} {N ps : List Str} {k : Nat} {sp : Sp} (hd : fn[i]? = some d) (hg : fa[j]? = some (.glo d.at_.1)) (hm : d.at_.2 = none) (h1 : d.dfl = []) (h2 : d.kwd = [])
    (S : FnScope N ps d.scope) (len : ∀ vs H Q E, sp vs H Q E → vs.length = ps.length)
    (hb : ∀ (kV doc pm : Value) (an : Option Addr) (cdv ct : Value) (us : List Value), us.length = ps.length → bindArgs (PySem.W.fnOf d.name d.qual d.params d.body d.scope .none kV doc pm an cdv ct) ⟨us, []⟩ = pure (ps.zip us))
    (hbody : ∀ (cdv : Value) (A : Around) (outer : List Env) (s : Shared) (H : Hp) (vs : List V) (Q : VK) (E : XK), Room k (A.deeper (envOfC d.qual d.scope s.heap.objs.size (He.ga K d.at_.1) cdv)) → sp vs H Q E →
      ∃ t, PSs (cxOf CX0 P w K mg base N d.qual d.scope (He.ga K d.at_.1) cdv A outer s H E).nox d.body t ∧ t { nx := fun _ H' => Q .non H', rt := Q } (start N vs) H) : Dn P w K mg base CX0 (k + 1) d.at_.1 ps sp := by
  obtain ⟨⟨fd, F⟩, g⟩ := T.def_ i j hd hg hm h1 h2
  refine ⟨_, fd, F.ok S len fun cdv A outer s H vs Q E hr h => ?_, g, F.kp, F.bindsN hb, by
    obtain ⟨oc, od, dV, kV, doc, pm, an, cdv, ct, osl, e, lk, _⟩ := F.ex
    exact ⟨_, _, _, lk⟩⟩
  obtain ⟨t, p, q⟩ := hbody cdv A outer s H vs Q E hr h
  exact ⟨t, p.nox, q⟩
theorem Dn.imp {CX : CXT} {k : Nat} {x : Str} {ps : List Str} {sp sp' : Sp} (D : Dn P w K mg base CX k x ps sp) (h : ∀ vs H Q E, sp' vs H Q E → sp vs H Q E) : Dn P w K mg base CX k x ps sp' := by
  obtain ⟨f, fd, F, a, b, c⟩ := D.ex
  exact ⟨f, fd, F.imp h, a, b, c⟩
theorem Dn.mono {CX : CXT} {j k : Nat} {x : Str} {ps : List Str} {sp : Sp} (D : Dn P w K mg base CX j x ps sp) (h : j ≤ k) : Dn P w K mg base CX k x ps sp := by
  obtain ⟨f, fd, F, a, b, c⟩ := D.ex
  exact ⟨f, fd, F.mono h, a, b, c⟩
end
section
variable {X : Cx} {CX : CXT} {k : Nat} {ps : List Str} {sp : Sp} {E : XK} {x : Str} {p pos : Pos} {e : Expr} {es : List Expr} {t : TA}
theorem pe_callD {K : PySem.W.Frag} (hK : X.K = K) (D : Dn X.prog X.w K X.mg X.base CX k x ps sp) (hr : Room k X.A) (hg : Gl X x) (hx : Passes CX X E)
    (ha : PA X (e :: es) t) (hdb : (x == ("__debug__" : Str)) = false := by decide) (he : starEach (e :: es) X.env = (false, eval e X.env) :: starEach es X.env := by rfl) (hpl : (backTo pos (starEach es X.env)).any (·.1) = false := by rfl) :
    PE X (.Call (.Name x p) (e :: es) [] pos) (tCall sp [] E t) := by
  subst hK
  obtain ⟨f, fd, F, m, kp, b, _⟩ := D.ex
  exact pe_call F hr hg m kp b .nil hx ha hdb he hpl
theorem pe_callD0 {K : PySem.W.Frag} (hK : X.K = K) (D : Dn X.prog X.w K X.mg X.base CX k x ps sp) (hr : Room k X.A) (hg : Gl X x) (hx : Passes CX X E)
    (hdb : (x == ("__debug__" : Str)) = false := by decide) :
    PE X (.Call (.Name x p) [] [] pos) (tCall sp [] E tNil) := by
  subst hK
  obtain ⟨f, fd, F, m, kp, b, _⟩ := D.ex
  exact pe_call0 F hr hg m kp b .nil hx hdb
end

/-! ### the law's own end -/
theorem law_facts {fa : List He.Fa} {fn : List He.DefD} {P : Program} {w : World} {K : PySem.W.Frag} {h : Heap} {mg : Str → Option Value} {f : Addr} {d : He.DefD} {k : Nat} {sp : Sp} (X : K.In h) (G : h.Ns mainGlobals mg)
    (hfa : mg d.at_.1 = some (.ref f)) (c : He.SaysD fa fn K) (i j : Nat) (hd : fn[i]? = some d) (hg : fa[j]? = some (.glo d.at_.1)) (hm : d.at_.2 = none) (h1 : d.dfl = []) (h2 : d.kwd = [])
    (hb : ∀ (kV doc pm : Value) (an : Option Addr) (cdv ct : Value) (us : List Value), us.length = 1 → bindArgs (PySem.W.fnOf d.name d.qual d.params d.body d.scope .none kV doc pm an cdv ct) ⟨us, []⟩ = pure ((["script"] : List Str).zip us))
    (ok : ∀ base, Txt fa fn K mg → Dn P w K mg base CX0 k d.at_.1 ["script"] sp) :
    ∃ fd : FuncData, (∀ (s : Shared) (v : Value), BindsTo s fd ⟨[v], []⟩ [("script", v)]) ∧ ∀ base : Heap, K.In base → base.Ns mainGlobals mg → FnOk P w K mg base CX0 k f fd ["script"] sp := by
  have T : Txt fa fn K mg := ⟨c, h, X, G⟩
  obtain ⟨⟨fd, F⟩, g⟩ := T.def_ i j hd hg hm h1 h2
  rw [hfa] at g
  cases g
  have b := FunD.bindsA (ps := ["script"]) F hb
  refine ⟨fd, fun s v => b s [v] rfl, fun base _ _ => ?_⟩
  obtain ⟨f2, fd2, F2, m, _, _, oc, od, osl, lk⟩ := (ok base T).ex
  rw [hfa] at m
  cases m
  obtain ⟨oc', od', dV, kV, doc, pm, an, cdv, ct, osl', e, lk', _⟩ := F.ex
  rw [lk] at lk'
  cases lk'
  exact F2

/-! ### classes -/
section
variable {fa : List He.Fa} {fn : List He.DefD} {P : Program} {w : World} {K : PySem.W.Frag} {mg : Str → Option Value} {base : Heap}
theorem Txt.cls (T : Txt fa fn K mg) (j : Nat) {x : Str} (h : fa[j]? = some (.cls x)) : Cls K (He.ga K x) := He.cls_ok (T.c.fact j h)
theorem Txt.noat (T : Txt fa fn K mg) (j : Nat) {x f : Str} (h : fa[j]? = some (.noat x f)) : NoAttr K (He.ga K x) f := He.noat_ok (T.c.fact j h)
theorem Txt.meth (T : Txt fa fn K mg) (j : Nat) {x m : Str} (h : fa[j]? = some (.meth x m)) : Meth K (He.ga K x) m (He.ma K (He.ga K x) m) := He.meth_ok (T.c.fact j h)
theorem Txt.mkr (T : Txt fa fn K mg) (j : Nat) {x : Str} (h : fa[j]? = some (.mkr x)) : Mk K (He.ga K x) (He.ma K (He.ga K x) "__init__") := He.mkr_ok (T.c.fact j h)
/-- a method by its class's name -/
structure Mt (P : Program) (w : World) (K : PySem.W.Frag) (mg : Str → Option Value) (base : Heap) (CX : CXT) (k : Nat) (c m : Str) (ps : List Str) (sp : Sp) : Prop where
  ex : ∃ (f : Addr) (fd : FuncData), FnOk P w K mg base CX k f fd ps sp ∧ f = He.ma K (He.ga K c) m ∧ Binds K fd ps []
theorem Txt.defm (T : Txt fa fn K mg) (i : Nat) {d : He.DefD} {c m : Str} (hd : fn[i]? = some d) (hm : d.at_ = (c, some m)) (h1 : d.dfl = []) (h2 : d.kwd = []) :
    ∃ fd, FunD K d.name d.qual d.params d.body d.scope [] [] (He.ma K (He.ga K c) m) fd := by
  obtain ⟨fd, F⟩ := T.c.def_ i hd
  have e : He.fAd K d.at_ = He.ma K (He.ga K c) m := by
    unfold He.fAd
    rw [hm]
  have e1 : d.dvs K = [] := by
    unfold He.DefD.dvs
    rw [h1]
    rfl
  have e2 : d.kws K = [] := by
    unfold He.DefD.kws
    rw [h2]
    rfl
  rw [e, e1, e2] at F
  exact ⟨fd, F⟩
/-- a method without defaults that lets nothing out -/
theorem mk_mt (T : Txt fa fn K mg) (i : Nat) {d : He.DefD} {c m : Str} {N ps : List Str} {k : Nat} {sp : Sp} (hd : fn[i]? = some d) (hm : d.at_ = (c, some m)) (h1 : d.dfl = []) (h2 : d.kwd = [])
    (S : FnScope N ps d.scope) (len : ∀ vs H Q E, sp vs H Q E → vs.length = ps.length)
    (hb : ∀ (kV doc pm : Value) (an : Option Addr) (cdv ct : Value) (us : List Value), us.length = ps.length → bindArgs (PySem.W.fnOf d.name d.qual d.params d.body d.scope .none kV doc pm an cdv ct) ⟨us, []⟩ = pure (ps.zip us))
    (hbody : ∀ (cdv : Value) (A : Around) (outer : List Env) (s : Shared) (H : Hp) (vs : List V) (Q : VK) (E : XK), Room k (A.deeper (envOfC d.qual d.scope s.heap.objs.size (He.ma K (He.ga K c) m) cdv)) → sp vs H Q E →
      ∃ t, PSs (cxOf CX0 P w K mg base N d.qual d.scope (He.ma K (He.ga K c) m) cdv A outer s H E).nox d.body t ∧ t { nx := fun _ H' => Q .non H', rt := Q } (start N vs) H) : Mt P w K mg base CX0 (k + 1) c m ps sp := by
  obtain ⟨fd, F⟩ := T.defm i hd hm h1 h2
  refine ⟨_, fd, F.ok S len fun cdv A outer s H vs Q E hr h => ?_, rfl, F.bindsN hb⟩
  obtain ⟨t, p, q⟩ := hbody cdv A outer s H vs Q E hr h
  exact ⟨t, p.nox, q⟩
theorem Mt.mono {CX : CXT} {j k : Nat} {c m : Str} {ps : List Str} {sp : Sp} (D : Mt P w K mg base CX j c m ps sp) (h : j ≤ k) : Mt P w K mg base CX k c m ps sp := by
  obtain ⟨f, fd, F, a, b⟩ := D.ex
  exact ⟨f, fd, F.mono h, a, b⟩
end
section
variable {X : Cx} {CX : CXT} {k : Nat} {ps : List Str} {sp : Sp} {E : XK} {c m : Str} {p pos apos : Pos} {e o : Expr} {es : List Expr} {ta : TE} {t : TA}
theorem pe_methD {K : PySem.W.Frag} (hK : X.K = K) {pl : Sem Bool} (D : Mt X.prog X.w K X.mg X.base CX k c m ps sp) (cl : Cls K (He.ga K c)) (hm : Meth K (He.ga K c) m (He.ma K (He.ga K c) m)) (hr : Room k X.A) (hx : Passes CX X E) (he : PE X o ta) (ha : PA X (e :: es) t)
    (hst : starEach (e :: es) X.env = (false, eval e X.env) :: starEach es X.env := by rfl) (hpl : (backTo pos (starEach es X.env)).any (·.1) = false := by rfl)
    (ht : eval (.Call (.Attribute o m apos) (e :: es) [] pos) X.env = (do let ov ← eval o X.env; standAt apos.atName; let (f, first) ← holding [ov] (getMethod ov m pl); callWith pos f first (backTo pos (starEach (e :: es) X.env)) (backToKw pos (keywordEach [] X.env))) := by rfl) :
    PE X (.Call (.Attribute o m apos) (e :: es) [] pos) (tMeth (He.ga K c) m sp [] E ta t) := by
  subst hK
  obtain ⟨f, fd, F, rfl, b⟩ := D.ex
  exact pe_meth he cl hm F hr b .nil hx ha hst hpl ht
theorem pe_methD0 {K : PySem.W.Frag} (hK : X.K = K) {pl : Sem Bool} (D : Mt X.prog X.w K X.mg X.base CX k c m ps sp) (cl : Cls K (He.ga K c)) (hm : Meth K (He.ga K c) m (He.ma K (He.ga K c) m)) (hr : Room k X.A) (hx : Passes CX X E) (he : PE X o ta)
    (ht : eval (.Call (.Attribute o m apos) [] [] pos) X.env = (do let ov ← eval o X.env; standAt apos.atName; let (f, first) ← holding [ov] (getMethod ov m pl); callWith pos f first (backTo pos (starEach [] X.env)) (backToKw pos (keywordEach [] X.env))) := by rfl) :
    PE X (.Call (.Attribute o m apos) [] [] pos) (tMeth (He.ga K c) m sp [] E ta tNil) := by
  subst hK
  obtain ⟨f, fd, F, rfl, b⟩ := D.ex
  exact pe_meth0 he cl hm F hr b .nil hx ht
theorem pe_makeD {K : PySem.W.Frag} (hK : X.K = K) (D : Mt X.prog X.w K X.mg X.base CX k c "__init__" ps sp) (M : Mk K (He.ga K c) (He.ma K (He.ga K c) "__init__")) (hr : Room (k + 1) X.A) (hg : Gl X c) (hm : X.mg c = some (.ref (He.ga K c))) (hx : Passes CX X E)
    (ha : PA X (e :: es) t) (hdb : (c == ("__debug__" : Str)) = false := by decide) (he : starEach (e :: es) X.env = (false, eval e X.env) :: starEach es X.env := by rfl) (hpl : (backTo pos (starEach es X.env)).any (·.1) = false := by rfl) :
    PE X (.Call (.Name c p) (e :: es) [] pos) (tMake (He.ga K c) sp [] E t) := by
  subst hK
  obtain ⟨f, fd, F, rfl, b⟩ := D.ex
  exact pe_make M F hr hg hm b .nil hx ha hdb he hpl
end
/-! ### fields by their places -/
section
variable {fs : List (Str × V)} {f : Str} {v y : V}
theorem lk_ix : ∀ {fs : List (Str × V)} (n : Nat), (fs.map (·.1)).Nodup → fs[n]? = some (f, v) → fs.lookup f = some v
  | [], _, _, h => by simp at h
  | p :: fs, 0, _, h => by
    simp only [List.getElem?_cons_zero, Option.some.injEq] at h
    subst h
    simp [List.lookup]
  | p :: fs, n + 1, nd, h => by
    simp only [List.getElem?_cons_succ] at h
    obtain ⟨g, x⟩ := p
    rw [List.map_cons, List.nodup_cons] at nd
    have hm : f ∈ fs.map (·.1) := List.mem_map.mpr ⟨(f, v), List.mem_of_getElem? h, rfl⟩
    have ne : (f == g) = false := beq_eq_false_iff_ne.mpr fun e => nd.1 (e ▸ hm)
    simp only [List.lookup, ne]
    exact lk_ix n nd.2 h
theorem lk_none : ∀ {fs : List (Str × V)}, f ∉ fs.map (·.1) → fs.lookup f = none
  | [], _ => rfl
  | (g, x) :: fs, h => by
    rw [List.map_cons, List.mem_cons, not_or] at h
    have ne : (f == g) = false := beq_eq_false_iff_ne.mpr h.1
    simp only [List.lookup, ne]
    exact lk_none h.2
theorem pt_ix : ∀ {fs : List (Str × V)} (n : Nat), (fs.map (·.1)).Nodup → fs[n]? = some (f, v) → putF f y fs = fs.set n (f, y)
  | [], _, _, h => by simp at h
  | p :: fs, 0, _, h => by
    simp only [List.getElem?_cons_zero, Option.some.injEq] at h
    subst h
    simp [putF]
  | p :: fs, n + 1, nd, h => by
    simp only [List.getElem?_cons_succ] at h
    obtain ⟨g, x⟩ := p
    rw [List.map_cons, List.nodup_cons] at nd
    have hm : f ∈ fs.map (·.1) := List.mem_map.mpr ⟨(f, v), List.mem_of_getElem? h, rfl⟩
    have ne : ¬ g = f := fun e => nd.1 (e ▸ hm)
    simp only [putF, if_neg ne, List.set_cons_succ]
    rw [pt_ix n nd.2 h]
theorem pt_new : ∀ {fs : List (Str × V)}, f ∉ fs.map (·.1) → putF f y fs = fs ++ [(f, y)]
  | [], _ => rfl
  | (g, x) :: fs, h => by
    rw [List.map_cons, List.mem_cons, not_or] at h
    have ne : ¬ g = f := fun e => h.1 e.symm
    simp only [putF, if_neg ne, List.cons_append]
    rw [pt_new h.2]
end

section
variable {H H' : Hp} {L : List (Addr × HO)} {a : Addr} {o : HO}
theorem Has.add (M : Has H L) (h : H a = some o) (n : a ∉ L.map (·.1)) : Has H (L ++ [(a, o)]) where
  nd := by
    rw [List.map_append, List.nodup_append]
    refine ⟨M.nd, by simp, fun x hx y hy e => ?_⟩
    rw [List.map_singleton, List.mem_singleton] at hy
    have e2 : x = a := e.trans hy
    exact n (e2 ▸ hx)
  is_ := fun q hq => by
    rcases List.mem_append.mp hq with z | z
    · exact M.is_ q z
    · rw [List.mem_singleton.mp z]
      exact h
end

theorem Keep.tup {ms : List Addr} {H H' : Hp} {t : Addr} {xs : List V} (k : Keep ms H H') (hm : ∀ m ∈ ms, ∃ o, H m = some o ∧ ∀ xs, o ≠ .tup xs) (h : H t = some (.tup xs)) : H' t = some (.tup xs) :=
  k t _ h fun z => by
    obtain ⟨o, e, n⟩ := hm t z
    rw [h] at e
    exact n xs (Option.some.inj e).symm
end G

set_option Elab.async false
set_option linter.all false
set_option maxRecDepth 100000
set_option maxHeartbeats 4000000
/-! Rules that take any kind of value, and the walk of a reading step by step. -/
namespace G
open PySem PySem.Spec PyProof.Rows L2

/-! ### rules for any kind of value -/
def rAddU (K : PySem.W.Frag) : R2 := fun x y H Q => match x, y with
  | .int i, .int j => Q (.int (i + j)) H
  | .str a, .str b => a.length + b.length ≤ sizeLine ∧ Q (.str (a ++ b)) H
  | .ref a, .ref b => rCat (.ref a) (.ref b) H Q ∨ rCatT K (.ref a) (.ref b) H Q
  | _, _ => False
def rMulU : R2 := fun x y H Q => match x, y with
  | .int i, .int j => (CMul i j ∨ CMulW i j) ∧ Q (.int (i * j)) H
  | .ref a, .int j => rRep (.ref a) (.int j) H Q
  | _, _ => False
def rEqU (K : PySem.W.Frag) (neg : Bool) : R2 := fun x y H Q => (scal x y = true ∧ Q (.bl (if neg then !decide (x = y) else decide (x = y))) H) ∨ (if neg then rNeD K x y H Q else rEqD K x y H Q)
/-- the heap's dict at a holds o at y -/
def rInU (K : PySem.W.Frag) (neg : Bool) : R2 := fun x y H Q => rIn K neg x y H Q ∨ (∃ a o, y = .ref a ∧ DGet H a x o ∧ Q (.bl (if neg then !o.isSome else o.isSome)) H) ∨
  (∃ c z, x = .str ⟨#[c]⟩ ∧ y = .str z ∧ Q (.bl (if neg then !decide (c ∈ z.cps.toList) else decide (c ∈ z.cps.toList))) H)
def rIxU (K : PySem.W.Frag) : R2 := fun x y H Q => rIxL K x y H Q ∨ rIxT K x y H Q ∨ rIxS x y H Q ∨ ∃ a v, x = .ref a ∧ DGet H a y (some v) ∧ Q v H
def rLenU (K : PySem.W.Frag) : List V → Hp → VK → Prop := fun xs H Q => (∃ x n, xs = [x] ∧ LenV K x H n ∧ Q (.int n) H) ∨ ∃ a kvs, xs = [.ref a] ∧ H a = some (.dK kvs) ∧ Q (.int (kvs.length : Nat)) H
def rAbs : List V → Hp → VK → Prop := fun xs H Q => ∃ i, xs = [.int i] ∧ Q (.int (if i < 0 then -i else i)) H
def rMax2 : List V → Hp → VK → Prop := fun xs H Q => ∃ i j, xs = [.int i, .int j] ∧ Q (.int (if j > i then j else i)) H
def rMin2 : List V → Hp → VK → Prop := fun xs H Q => ∃ i j, xs = [.int i, .int j] ∧ Q (.int (if j < i then j else i)) H
def rInt1 : List V → Hp → VK → Prop := fun xs H Q => (∃ i, xs = [.int i] ∧ Q (.int i) H) ∨ ∃ k, xs = [.bl k] ∧ Q (.int (if k then 1 else 0)) H
def rStrI : List V → Hp → VK → Prop := fun xs H Q => ∃ i, xs = [.int i] ∧ i.natAbs.log2 < 1920 ∧ Q (.str (toString i)) H
def rCmpI (p : Int → Int → Bool) : R2 := rI0 fun i j => .bl (p i j)

section
variable {X : Cx} {a b c : Expr} {ta tb tc : TE} {pos : Pos}
theorem op_addU {K : PySem.W.Frag} (hK : X.K = K) : OpR X (binaryOp .Add) (rAddU K) := by
  subst hK
  intro pins s σ H x y v u Q I rx ry h
  cases x <;> cases y <;> first | exact h.elim | skip
  · exact op_add pins s σ H _ _ v u Q I rx ry ⟨_, _, rfl, rfl, h⟩
  · exact op_add_str pins s σ H _ _ v u Q I rx ry ⟨_, _, rfl, rfl, h.1, h.2⟩
  · rcases h with h | h
    · exact op_cat pins s σ H _ _ v u Q I rx ry h
    · exact op_catT pins s σ H _ _ v u Q I rx ry h
theorem op_mulU : OpR X (binaryOp .Mult) rMulU := by
  intro pins s σ H x y v u Q I rx ry h
  cases x <;> cases y <;> first | exact h.elim | skip
  · rcases h with ⟨h | h, q⟩
    · exact op_mul pins s σ H _ _ v u Q I rx ry ⟨_, _, rfl, rfl, h, q⟩
    · exact op_mulW pins s σ H _ _ v u Q I rx ry ⟨_, _, rfl, rfl, h, q⟩
  · exact op_rep pins s σ H _ _ v u Q I rx ry h
theorem op_eqU {K : PySem.W.Frag} (hK : X.K = K) (hu : X.A.units + 64 < cLine) : OpR X (compareOp .Eq) (rEqU K false) := by
  subst hK
  intro pins s σ H x y v u Q I rx ry h
  rcases h with ⟨hs, q⟩ | h
  · exact op_eq pins s σ H x y v u Q I rx ry ⟨hs, q⟩
  · exact op_eqD hu pins s σ H x y v u Q I rx ry h
theorem op_neU {K : PySem.W.Frag} (hK : X.K = K) (hu : X.A.units + 64 < cLine) : OpR X (compareOp .NotEq) (rEqU K true) := by
  subst hK
  intro pins s σ H x y v u Q I rx ry h
  rcases h with ⟨hs, q⟩ | h
  · exact op_ne pins s σ H x y v u Q I rx ry ⟨hs, q⟩
  · exact op_neD hu pins s σ H x y v u Q I rx ry h
theorem op_inU {K : PySem.W.Frag} (hK : X.K = K) (hu : X.A.units + 1 < cLine) : OpR X (compareOp .In) (rInU K false) := by
  subst hK
  intro pins s σ H x y v u Q I rx ry h
  rcases h with h | ⟨a, o, rfl, g, q⟩ | ⟨c, z, rfl, rfl, q⟩
  · exact op_in_seq pins s σ H x y v u Q I rx ry h
  · obtain rfl : u = Value.ref a := ry
    exact d_in hu I g rx fun s1 I1 => ⟨.bl _, H, I1, rfl, q⟩
  · exact op_in_sign pins s σ H _ _ v u Q I rx ry ⟨c, z, rfl, rfl, q⟩
theorem op_niU {K : PySem.W.Frag} (hK : X.K = K) (hu : X.A.units + 1 < cLine) : OpR X (compareOp .NotIn) (rInU K true) := by
  subst hK
  intro pins s σ H x y v u Q I rx ry h
  rcases h with h | ⟨a, o, rfl, g, q⟩ | ⟨c, z, rfl, rfl, q⟩
  · exact op_notIn_seq pins s σ H x y v u Q I rx ry h
  · obtain rfl : u = Value.ref a := ry
    exact d_notIn hu I g rx fun s1 I1 => ⟨.bl _, H, I1, rfl, q⟩
  · exact op_notIn_sign pins s σ H _ _ v u Q I rx ry ⟨c, z, rfl, rfl, q⟩
theorem ix_dict (hu : X.A.units + 1 < cLine) : IxR X (fun x y H Q => ∃ a v, x = .ref a ∧ DGet H a y (some v) ∧ Q v H) := by
  intro value slice pins s σ H x y v u Q I rx ry h hs
  obtain ⟨a, z, rfl, g, q⟩ := h
  obtain rfl : v = Value.ref a := rx
  exact tail_any (dict_typeIs I g) PySem.F.slot_dict_getitem.lookup (d_getItem hu I g ry fun w' s' I' rw' => ⟨z, H, I', rw', q⟩) hs
theorem ix_U {K : PySem.W.Frag} (hK : X.K = K) (hu : X.A.units + 1 < cLine) : IxR X (rIxU K) := by
  subst hK
  exact ix_list.or (ix_tup.or (ix_str.or (ix_dict hu)))
theorem pe_ixU {K : PySem.W.Frag} (hK : X.K = K) {a b : Expr} {ta tb : TE} {pos : Pos} (hu : X.A.units + 1 < cLine) (ha : PE X a ta) (hb : PE X b tb) (hs : PlainIx b := by exact fun _ _ => rfl) : PE X (.Subscript a b pos) (tOp (rIxU K) ta tb) := pe_ix (ix_U hK hu) ha hb hs
theorem c_len {K : PySem.W.Frag} (hK : X.K = K) : CallR X (.builtin "len") (rLenU K) := by
  subst hK
  intro pins s σ H xs us Q I r h
  rcases h with h | ⟨a, kvs, rfl, e, q⟩
  · exact call_len pins s σ H xs us Q I r h
  · rw [Vals.ref1 r]
    exact d_len I (.inl e) fun t s1 I1 => ⟨.int _, H, I1, ⟨_, rfl⟩, q⟩
theorem c_abs : CallR X (.builtin "abs") rAbs := call_abs
theorem c_max2 (hc : X.calm = true) : CallR X (.builtin "max") rMax2 := call_max2 hc
theorem c_min2 (hc : X.calm = true) : CallR X (.builtin "min") rMin2 := call_min2 hc
theorem c_int : CallR X (.type "int") rInt1 := call_int1
theorem c_str : CallR X (.type "str") rStrI := call_str_int
theorem c_isi {K : PySem.W.Frag} (hK : X.K = K) : CallR X (.builtin "isinstance") (rIsi K) := by
  subst hK
  exact call_isi
theorem o_lt : OpR X (compareOp .Lt) (rCmpI fun i j => decide (i < j)) := op_lt
theorem o_le : OpR X (compareOp .LtE) (rCmpI fun i j => decide (i ≤ j)) := op_le
theorem o_gt : OpR X (compareOp .Gt) (rCmpI fun i j => decide (j < i)) := op_gt
theorem o_ge : OpR X (compareOp .GtE) (rCmpI fun i j => decide (j ≤ i)) := op_ge
/-- what is walked: a list or a tuple -/
def iSeq (K : PySem.W.Frag) (tl : TE) : TI := fun σ H R => tl σ H fun x H1 => (∃ a xs, x = .ref a ∧ SqL K H1 a xs ∧ R (Itl K a) H1) ∨ ∃ a xs, x = .ref a ∧ SqT K H1 a xs ∧ R (Itt K a) H1
/-- an iterator that was just laid -/
theorem pie_new {pins : List (Addr × Obj)} {σ : L2.St} {H : Hp} {s : Shared} {R : It → Hp → Prop} {tg : Expr} {o : Obj} {J : It} {tn : Nat → Heap → Prop} (I : Inv X pins σ H s)
    (tu : Turn X.prog X.w X.K tg J [s.heap.objs.size] s.heap.objs.size tn) (h0 : tn 0 (s.heap.push o)) (q : R J H) : PIE X pins σ tg R (.ref s.heap.objs.size) { s with heap := s.heap.push o } := by
  have k := I.kept (t' := s.toks) (h' := s.heap.push o) (fun b u e => Heap.get?_push_of_some _ e)
  refine ⟨_, _, tn, J, H, rfl, k, tu, h0, ?_, q⟩
  intro b hb
  rw [List.mem_singleton.mp hb]
  exact I.fpOk (Nat.le_refl _) (I.hok.fresh (Nat.le_refl _))
theorem pi_seq {K : PySem.W.Frag} (hK : X.K = K) {tg l : Expr} {tl : TE} (hl : PE X l tl) : PI X tg l (iSeq K tl) := by
  subst hK
  refine ⟨fun pins s σ H R I h => thn (hl.run pins s σ H _ I h) ?_⟩
  rintro v s1 ⟨x, H1, I1, r1, ⟨a, xs, rfl, hq, q⟩ | ⟨a, xs, rfl, hq, q⟩⟩ <;> cases r1
  · obtain ⟨its, _, p, _⟩ := I1.list hq
    exact wpAny_pyIter_list p.isList (pie_new I1 (turn_list a _) ⟨_, Heap.get?_push_size _ rfl, rfl, rfl⟩ q)
  · obtain ⟨its, _, p, _⟩ := I1.tuple hq
    exact wpAny_pyIter_tuple (show s1.heap.IsTuple a its.toArray from p) (pie_new I1 (turn_tuple a _) ⟨_, Heap.get?_push_size _ rfl, rfl, rfl⟩ q)
/-- a value's truth as a test -/
def tTru (K : PySem.W.Frag) (ta : TE) : TT := fun σ H Q => ta σ H fun x H' => ∃ k, TruV K x H' k ∧ Q k H'
theorem pt_tru {K : PySem.W.Frag} (hK : X.K = K) (ha : PE X a ta) (he : ∀ whole, isTrue a X.env whole = (do let v ← whole; standAt a.pos; holding [v] (truthy v)) := by intro _; rfl) : PT X a (tTru K ta) := by
  subst hK
  exact pt_truth ha he
end

/-! ### the steps of a reading -/
section
variable {K : PySem.W.Frag} {σ : L2.St} {H : Hp} {D : Ends} {t u : TS} {te ta tb tc : TE} {tt tt' : TT} {Q : VK} {QB : Bool → Hp → Prop} {QA : List V → Hp → Prop} {QS : L2.St → Hp → Prop} {g : TG} {r r' : R2} {v x y : V} {i j : Int} {b c : Bool} {k : Nat} {tA tA' : TA} {A B : Prop} {p q : Prop} {sp : Sp} {E : XK} {dvs vs : List V} {xs ys : List V} {a d C dx : Addr} {fs : List (Str × V)} {f : Str} {z z' : Str}
theorem g_seq (h : t { nx := u D, rt := D.rt, bk := D.bk, ct := D.ct } σ H) : tSeq t u D σ H := h
theorem g_next (h : D.nx σ H) : tNext D σ H := h
theorem g_asg (h : te σ H fun x H1 => g x σ H1 D.nx) : tAsg te g D σ H := h
theorem g_drop (h : te σ H fun _ H1 => D.nx σ H1) : tDrop te D σ H := h
theorem g_ret (h : te σ H D.rt) : tRet te D σ H := h
theorem g_retN (h : D.rt .non H) : tRetN D σ H := h
theorem g_brk (h : D.bk σ H) : tBreak D σ H := h
theorem g_ct (h : D.ct σ H) : tCont D σ H := h
theorem g_ifS (h : tt σ H fun b H1 => if b = true then t D σ H1 else u D σ H1) : tIfS tt t u D σ H := h
theorem g_name (h : QS (σ.set k (some v)) H) : gName k v σ H QS := h
theorem g_aug {ti : TIp} (e : σ[k]? = some (some x)) (h : te σ H fun y H1 => ti x y H1 fun z H2 => D.nx (σ.set k (some z)) H2) : tAug k te ti D σ H := ⟨x, e, h⟩
theorem g_ipI {f : Int → Int → Int} (h : Q (.int (f i j)) H) : ipI f (.int i) (.int j) H Q := ⟨i, j, rfl, rfl, h⟩
theorem g_var (e : σ[k]? = some (some v)) (h : Q v H) : tVar k σ H Q := ⟨v, e, h⟩
theorem g_c (h : Q v H) : tC v σ H Q := h
theorem g_op (h : ta σ H fun x H1 => tb σ H1 fun y H2 => r x y H2 Q) : tOp r ta tb σ H Q := h
theorem g_un {r : V → Hp → VK → Prop} (h : ta σ H fun x H1 => r x H1 Q) : tUn r ta σ H Q := h
theorem g_rU {g : Int → V} (h : Q (g i) H) : rU g (.int i) H Q := ⟨i, rfl, h⟩
theorem g_I0 {g : Int → Int → V} (h : Q (g i j) H) : rI0 g (.int i) (.int j) H Q := ⟨i, j, rfl, rfl, h⟩
theorem g_I {C : Int → Int → Prop} {g : Int → Int → V} (hc : C i j) (h : Q (g i j) H) : rI C g (.int i) (.int j) H Q := ⟨i, j, rfl, rfl, hc, h⟩
theorem g_cmpI {p : Int → Int → Bool} (h : Q (.bl (p i j)) H) : rCmpI p (.int i) (.int j) H Q := ⟨i, j, rfl, rfl, h⟩
theorem g_addI (h : Q (.int (i + j)) H) : rAddU K (.int i) (.int j) H Q := h
theorem g_addS (hl : z.length + z'.length ≤ sizeLine) (h : Q (.str (z ++ z')) H) : rAddU K (.str z) (.str z') H Q := ⟨hl, h⟩
theorem g_mulI (hc : CMul i j ∨ CMulW i j) (h : Q (.int (i * j)) H) : rMulU (.int i) (.int j) H Q := ⟨hc, h⟩
theorem g_eqI (h : Q (.bl (decide (i = j))) H) : rEqU K false (.int i) (.int j) H Q := .inl ⟨rfl, by
  have e : decide (V.int i = V.int j) = decide (i = j) := by simp
  show Q (.bl (decide (V.int i = V.int j))) H
  rw [e]
  exact h⟩
theorem g_neI (h : Q (.bl (!decide (i = j))) H) : rEqU K true (.int i) (.int j) H Q := .inl ⟨rfl, by
  have e : decide (V.int i = V.int j) = decide (i = j) := by simp
  show Q (.bl (!decide (V.int i = V.int j))) H
  rw [e]
  exact h⟩
theorem g_eqS (h : Q (.bl (decide (z = z'))) H) : rEqU K false (.str z) (.str z') H Q := .inl ⟨rfl, by
  have e : decide (V.str z = V.str z') = decide (z = z') := by simp
  show Q (.bl (decide (V.str z = V.str z'))) H
  rw [e]
  exact h⟩
theorem g_neS (h : Q (.bl (!decide (z = z'))) H) : rEqU K true (.str z) (.str z') H Q := .inl ⟨rfl, by
  have e : decide (V.str z = V.str z') = decide (z = z') := by simp
  show Q (.bl (!decide (V.str z = V.str z'))) H
  rw [e]
  exact h⟩
theorem g_eqB (h : Q (.bl (decide (b = c))) H) : rEqU K false (.bl b) (.bl c) H Q := .inl ⟨rfl, by
  have e : decide (V.bl b = V.bl c) = decide (b = c) := by simp
  show Q (.bl (decide (V.bl b = V.bl c))) H
  rw [e]
  exact h⟩
theorem g_neB (h : Q (.bl (!decide (b = c))) H) : rEqU K true (.bl b) (.bl c) H Q := .inl ⟨rfl, by
  have e : decide (V.bl b = V.bl c) = decide (b = c) := by simp
  show Q (.bl (!decide (V.bl b = V.bl c))) H
  rw [e]
  exact h⟩
theorem g_eqD {d e : PyData} (h1 : Dp K H x d) (h2 : Dp K H y e) (s1 : SeqAt.shaped d = true) (s2 : SeqAt.shaped e = true) (h : Q (.bl (PyData.eqv d e)) H) : rEqU K false x y H Q := .inr ⟨d, e, h1, h2, s1, s2, h⟩
theorem g_neD {d e : PyData} (h1 : Dp K H x d) (h2 : Dp K H y e) (s1 : SeqAt.shaped d = true) (s2 : SeqAt.shaped e = true) (h : Q (.bl (!PyData.eqv d e)) H) : rEqU K true x y H Q := .inr ⟨d, e, h1, h2, s1, s2, h⟩
theorem g_test (h : te σ H fun x H' => ∃ k, x = .bl k ∧ QB k H') : tTest te σ H QB := h
theorem g_B (h : te σ H fun x H' => ∃ k, x = .bl k ∧ QB k H') : tB te σ H QB := h
theorem g_exb {R : Bool → Prop} (h : R b) : ∃ k, V.bl b = V.bl k ∧ R k := ⟨b, rfl, h⟩
theorem g_tru (h : te σ H fun x H' => ∃ k, TruV K x H' k ∧ QB k H') : tTru K te σ H QB := h
theorem g_truB {R : Bool → Prop} (h : R b) : ∃ k, TruV K (.bl b) H k ∧ R k := ⟨b, rfl, h⟩
theorem g_truI {R : Bool → Prop} (h : R (i != 0)) : ∃ k, TruV K (.int i) H k ∧ R k := ⟨_, rfl, h⟩
theorem g_truN {R : Bool → Prop} (h : R false) : ∃ k, TruV K .non H k ∧ R k := ⟨_, rfl, h⟩
theorem g_not (h : tt σ H fun c H1 => QB (!c) H1) : tNot tt σ H QB := h
theorem g_and (h : tt σ H fun c H1 => if c = true then tt' σ H1 QB else QB false H1) : tAnd tt tt' σ H QB := h
theorem g_or (h : tt σ H fun c H1 => if c = true then QB true H1 else tt' σ H1 QB) : tOr tt tt' σ H QB := h
theorem g_notV (h : ta σ H fun x H1 => ∃ c, x = .bl c ∧ Q (.bl (!c)) H1) : tNotV ta σ H Q := h
theorem g_andV (h : ta σ H fun x H1 => ∃ c, x = .bl c ∧ if c = true then tb σ H1 Q else Q (.bl false) H1) : tAndV ta tb σ H Q := h
theorem g_orV (h : ta σ H fun x H1 => ∃ c, x = .bl c ∧ if c = true then Q (.bl true) H1 else tb σ H1 Q) : tOrV ta tb σ H Q := h
theorem g_ifE (h : tt σ H fun c H1 => if c = true then ta σ H1 Q else tb σ H1 Q) : tIf tt ta tb σ H Q := h
theorem g_chain (h : ta σ H fun x H1 => tb σ H1 fun y H2 => r x y H2 fun z H3 => ∃ k, z = .bl k ∧ (if k = true then tc σ H3 fun w' H4 => r' y w' H4 Q else Q (.bl false) H3)) : tChain r r' ta tb tc σ H Q := h
theorem g_nilA (h : QA [] H) : tNil σ H QA := h
theorem g_consA (h : ta σ H fun x H1 => tA σ H1 fun xs H2 => QA (x :: xs) H2) : tCons ta tA σ H QA := h
theorem g_tup (h : tA σ H fun xs H1 => xs.length ≤ sizeLine ∧ ∀ p, H1 p = none → Q (.ref p) (upd H1 p (.tup xs))) : tTup tA σ H Q := h
theorem g_lst (h : tA σ H fun xs H1 => xs.length ≤ sizeLine ∧ ∀ p, H1 p = none → Q (.ref p) (upd H1 p (.lst xs))) : tLst tA σ H Q := h
theorem g_cb {r : List V → Hp → VK → Prop} (h : tA σ H fun vs H1 => r vs H1 Q) : tCB r tA σ H Q := h
theorem g_call (h : tA σ H fun vs H1 => sp (vs ++ dvs) H1 Q E) : tCall sp dvs E tA σ H Q := h
theorem g_bm {T : String} {r : V → List V → Hp → VK → Prop} (h : te σ H fun x H1 => tyV K T x H1 ∧ tA σ H1 fun xs H2 => r x xs H2 Q) : tBM K T r te tA σ H Q := h
theorem g_bm0 {T : String} {r : V → List V → Hp → VK → Prop} (h : te σ H fun x H1 => tyV K T x H1 ∧ r x [] H1 Q) : tBM0 K T r te σ H Q := h
theorem g_lenL (hl : SqL K H a xs) (h : Q (.int (xs.length : Nat)) H) : rLenU K [.ref a] H Q := .inl ⟨_, _, rfl, .inl ⟨_, hl, rfl⟩, h⟩
theorem g_lenT (hl : SqT K H a xs) (h : Q (.int (xs.length : Nat)) H) : rLenU K [.ref a] H Q := .inl ⟨_, _, rfl, .inr ⟨_, hl, rfl⟩, h⟩
theorem g_lenS (hl : z.length ≤ sizeLine) (h : Q (.int (z.length : Nat)) H) : rLenU K [.str z] H Q := .inl ⟨_, _, rfl, ⟨hl, rfl⟩, h⟩
theorem g_abs (h : Q (.int (if i < 0 then -i else i)) H) : rAbs [.int i] H Q := ⟨i, rfl, h⟩
theorem g_max2 (h : Q (.int (if j > i then j else i)) H) : rMax2 [.int i, .int j] H Q := ⟨i, j, rfl, h⟩
theorem g_min2 (h : Q (.int (if j < i then j else i)) H) : rMin2 [.int i, .int j] H Q := ⟨i, j, rfl, h⟩
theorem g_intI (h : Q (.int i) H) : rInt1 [.int i] H Q := .inl ⟨i, rfl, h⟩
theorem g_intB (h : Q (.int (if b then 1 else 0)) H) : rInt1 [.bl b] H Q := .inr ⟨b, rfl, h⟩
theorem g_ixL {n : Nat} (hl : SqL K H a xs) (e : i = (n : Int)) (hv : xs[n]? = some v) (h : Q v H) : rIxU K (.ref a) (.int i) H Q := .inl ⟨_, _, _, _, rfl, rfl, hl, by rw [e]; exact atI_nat hv, h⟩
theorem g_ixL' (hl : SqL K H a xs) (hv : atI xs i = some v) (h : Q v H) : rIxU K (.ref a) (.int i) H Q := .inl ⟨_, _, _, _, rfl, rfl, hl, hv, h⟩
theorem g_ixT {n : Nat} (hl : SqT K H a xs) (e : i = (n : Int)) (hv : xs[n]? = some v) (h : Q v H) : rIxU K (.ref a) (.int i) H Q := .inr (.inl ⟨_, _, _, _, rfl, rfl, hl, by rw [e]; exact atI_nat hv, h⟩)
theorem g_ixT' (hl : SqT K H a xs) (hv : atI xs i = some v) (h : Q v H) : rIxU K (.ref a) (.int i) H Q := .inr (.inl ⟨_, _, _, _, rfl, rfl, hl, hv, h⟩)
theorem g_ixD (g : DGet H a x (some v)) (h : Q v H) : rIxU K (.ref a) x H Q := .inr (.inr (.inr ⟨_, _, rfl, g, h⟩))
theorem g_isi {t u : Value} (hc : ClsV y u) (ht : TyX K H x t) (hk : PySem.W.kitOne K t u = some b) (h : Q (.bl b) H) : rIsi K [x, y] H Q := ⟨x, y, t, u, b, rfl, hc, ht, hk, h⟩
/-- branches -/
theorem g_if [Decidable p] (h1 : p → A) (h2 : ¬ p → B) : if decide p = true then A else B := by
  by_cases h : p
  · rw [if_pos (decide_eq_true h)]
    exact h1 h
  · rw [if_neg fun z => h (of_decide_eq_true z)]
    exact h2 h
theorem g_ifN [Decidable p] (h1 : ¬ p → A) (h2 : p → B) : if (!decide p) = true then A else B := by
  by_cases h : p
  · rw [decide_eq_true h]
    exact h2 h
  · rw [decide_eq_false h]
    exact h1 h
theorem g_ifB (h1 : b = true → A) (h2 : b = false → B) : if b = true then A else B := by
  cases b with
  | true => exact h1 rfl
  | false => exact h2 rfl
theorem g_ifBn (h1 : b = false → A) (h2 : b = true → B) : if (!b) = true then A else B := by
  cases b with
  | true => exact h2 rfl
  | false => exact h1 rfl
theorem g_ifT (h : A) : if true = true then A else B := h
theorem g_ifF (h : B) : if false = true then A else B := h
theorem g_ifNT (h : B) : if (!true) = true then A else B := h
theorem g_ifNF (h : A) : if (!false) = true then A else B := h
/-- a list grown -/
theorem g_append {L : List (Addr × HO)} (M : Has H L) (n : Nat) (h : L[n]? = some (a, .lst xs)) (hl : xs.length < sizeLine) (k : Has (upd H a (.lst (xs ++ [y]))) (L.set n (a, .lst (xs ++ [y]))) → Q .non (upd H a (.lst (xs ++ [y])))) : rAppend (.ref a) [y] H Q :=
  ⟨a, xs, y, rfl, rfl, M.get n h, hl, k (M.set n h)⟩
theorem g_setL {L : List (Addr × HO)} {R : Hp → Prop} {m : Nat} (M : Has H L) (n : Nat) (h : L[n]? = some (a, .lst xs)) (hi : ixN xs.length i = some m) (k : Has (upd H a (.lst (xs.set m y))) (L.set n (a, .lst (xs.set m y))) → R (upd H a (.lst (xs.set m y)))) : rSetL (.ref a) (.int i) y H R :=
  ⟨a, xs, i, m, rfl, rfl, M.get n h, hi, k (M.set n h)⟩
/-- a new object -/
theorem g_new {L : List (Addr × HO)} {o : HO} {R : Addr → Hp → Prop} (M : Has H L) (k : ∀ p, H p = none → Has (upd H p o) (L ++ [(p, o)]) → R p (upd H p o)) : ∀ p, H p = none → R p (upd H p o) := fun p hp => k p hp (M.new hp)
end
theorem mul_ok {i j : Int} (h : -18446744073709551616 < j) (h2 : j < 18446744073709551616) : CMul i j ∨ CMulW i j := .inl (.inr ⟨h, h2⟩)
theorem mul_ok' {i j : Int} (h : -18446744073709551616 < i) (h2 : i < 18446744073709551616) : CMul i j ∨ CMulW i j := .inl (.inl ⟨h, h2⟩)
theorem cdivW_of {i j : Int} (h : 0 < j) (h2 : j < 2 ^ 64) : CDivW i j := wide_div h (b := 64) (by omega) (by decide) (by decide)
theorem cpow_of {i j : Int} (h : 0 ≤ j) (h2 : j ≤ 1000000) (h3 : i.natAbs < 2 ^ 64) : CPow i j := ⟨h, h2, h3⟩

/-! ### loops -/
/-- what a for asks once its iterator has come -/
def ForW (g : TG) (tb : TS) (D : Ends) (σ : L2.St) : It → Hp → Prop := fun J H1 => ∃ W : Nat → Nat → L2.St → Hp → Prop, (∃ m, W 0 m σ H1) ∧ ∀ i m σ H, W i m σ H →
  (J.stop i H ∧ D.nx σ H) ∨ (J.go i H ∧ ∃ N : L2.St → Hp → Prop, (∀ σ' H', N σ' H' → ∃ m', m' < m ∧ W (i + 1) m' σ' H') ∧ ∀ x H', J.yld i H x H' → g x σ H' fun σ2 H2 => tb { D with nx := N, ct := N, bk := D.nx } σ2 H2)
def rR1 : List V → Hp → (It → Hp → Prop) → Prop := fun vs H R => ∃ j : Int, vs = [.int j] ∧ -(2 ^ 62) ≤ j ∧ j < 2 ^ 62 ∧ R (Itr 0 j.toNat) H
def rR2 : List V → Hp → (It → Hp → Prop) → Prop := fun vs H R => ∃ i j : Int, vs = [.int i, .int j] ∧ (-(2 ^ 62) ≤ i ∧ i < 2 ^ 62 ∧ -(2 ^ 62) ≤ j ∧ j < 2 ^ 62) ∧ R (Itr i (j - i).toNat) H
def iR (r : List V → Hp → (It → Hp → Prop) → Prop) (ta : TA) : TI := fun σ H R => ta σ H fun vs H1 => r vs H1 R
theorem pi_r1 {X : Cx} {tg a : Expr} {ta : TA} {p pos : Pos} (hg : Gl X "range") (hm : X.mg "range" = none) (ha : PA X [a] ta) (hs : starEach [a] X.env = [(false, eval a X.env)] := by rfl) : PI X tg (.Call (.Name "range" p) [a] [] pos) (iR rR1 ta) := pi_range1 hg hm ha hs
theorem pi_r2 {X : Cx} {tg a b : Expr} {ta : TA} {p pos : Pos} (hg : Gl X "range") (hm : X.mg "range" = none) (ha : PA X [a, b] ta) (hs : starEach [a, b] X.env = [(false, eval a X.env), (false, eval b X.env)] := by rfl) (hs2 : starEach [b] X.env = [(false, eval b X.env)] := by rfl) : PI X tg (.Call (.Name "range" p) [a, b] [] pos) (iR rR2 ta) := pi_range2 hg hm ha hs hs2
section
variable {K : PySem.W.Frag} {σ : L2.St} {H : Hp} {D : Ends} {wi : TI} {g : TG} {tb : TS} {ta : TA} {te : TE} {R : It → Hp → Prop} {r : List V → Hp → (It → Hp → Prop) → Prop} {i j : Int} {a : Addr} {xs : List V} {Q : VK} {n lo : Int}
theorem g_for (h : wi σ H (ForW g tb D σ)) : tFor wi g tb D σ H := h
theorem g_iR (h : ta σ H fun vs H1 => r vs H1 R) : iR r ta σ H R := h
theorem g_rR1 (h1 : -4611686018427387904 ≤ i) (h2 : i < 4611686018427387904) (h : R (Itr 0 i.toNat) H) : rR1 [.int i] H R := ⟨i, rfl, h1, h2, h⟩
theorem g_rR2 (h1 : -4611686018427387904 ≤ i ∧ i < 4611686018427387904 ∧ -4611686018427387904 ≤ j ∧ j < 4611686018427387904) (h : R (Itr i (j - i).toNat) H) : rR2 [.int i, .int j] H R := ⟨i, j, rfl, h1, h⟩
theorem g_iSeq (h : te σ H fun x H1 => (∃ a xs, x = .ref a ∧ SqL K H1 a xs ∧ R (Itl K a) H1) ∨ ∃ a xs, x = .ref a ∧ SqT K H1 a xs ∧ R (Itt K a) H1) : iSeq K te σ H R := h
theorem g_seqL (hl : SqL K H a xs) (h : R (Itl K a) H) : (∃ b ys, V.ref a = .ref b ∧ SqL K H b ys ∧ R (Itl K b) H) ∨ ∃ b ys, V.ref a = .ref b ∧ SqT K H b ys ∧ R (Itt K b) H := .inl ⟨a, xs, rfl, hl, h⟩
theorem g_seqT (hl : SqT K H a xs) (h : R (Itt K a) H) : (∃ b ys, V.ref a = .ref b ∧ SqL K H b ys ∧ R (Itl K b) H) ∨ ∃ b ys, V.ref a = .ref b ∧ SqT K H b ys ∧ R (Itt K b) H := .inr ⟨a, xs, rfl, hl, h⟩
theorem f_range {lo : Int} {n : Nat} (Pv : Nat → L2.St → Hp → Prop) (h0 : Pv 0 σ H)
    (hs : ∀ i σ H, i < n → Pv i σ H → g (.int (lo + i)) σ H fun σ2 H2 => tb { nx := Pv (i + 1), rt := D.rt, ct := Pv (i + 1), bk := D.nx } σ2 H2) (hd : ∀ σ H, Pv n σ H → D.nx σ H) : ForW g tb D σ (Itr lo n) H := for_range Pv h0 hs hd
theorem f_list (Pv : Nat → L2.St → Hp → Prop) (h0 : Pv 0 σ H) (hl : ∀ i σ H, i ≤ xs.length → Pv i σ H → SqL K H a xs)
    (hs : ∀ i x σ H, xs[i]? = some x → Pv i σ H → g x σ H fun σ2 H2 => tb { nx := Pv (i + 1), rt := D.rt, ct := Pv (i + 1), bk := D.nx } σ2 H2) (hd : ∀ σ H, Pv xs.length σ H → D.nx σ H) : ForW g tb D σ (Itl K a) H := for_list Pv h0 hl hs hd
theorem f_tup (Pv : Nat → L2.St → Hp → Prop) (h0 : Pv 0 σ H) (hl : ∀ i σ H, i ≤ xs.length → Pv i σ H → SqT K H a xs)
    (hs : ∀ i x σ H, xs[i]? = some x → Pv i σ H → g x σ H fun σ2 H2 => tb { nx := Pv (i + 1), rt := D.rt, ct := Pv (i + 1), bk := D.nx } σ2 H2) (hd : ∀ σ H, Pv xs.length σ H → D.nx σ H) : ForW g tb D σ (Itt K a) H := for_tup Pv h0 hl hs hd
/-- while: W by a measure and the state -/
def WhileW (c : TT) (tb : TS) (D : Ends) (W : Nat → L2.St → Hp → Prop) : Prop := ∀ m σ H, W m σ H →
  c σ H fun b H1 => if b = true then ∃ N : L2.St → Hp → Prop, (∀ σ' H', N σ' H' → ∃ m', m' < m ∧ W m' σ' H') ∧ tb { D with nx := N, ct := N, bk := D.nx } σ H1 else D.nx σ H1
theorem g_whileT {m : Nat} {W : Nat → L2.St → Hp → Prop} {A : (L2.St → Hp → Prop) → Prop} (h : A fun σ' H' => ∃ m', m' < m ∧ W m' σ' H') : ∃ N : L2.St → Hp → Prop, (∀ σ' H', N σ' H' → ∃ m', m' < m ∧ W m' σ' H') ∧ A N := ⟨_, fun _ _ h => h, h⟩
/-! ### isinstance of the scalars -/
theorem isi_of {x : V} {T T' : String} {b : Bool} (ht : TyX K H x (.type T)) (hk : kitB T T' = some b) (h : Q (.bl b) H) : rIsi K [x, .ty T'] H Q := ⟨x, .ty T', .type T, .type T', b, rfl, .ty T', ht, kit_ty hk, h⟩
theorem k_ii : kitB "int" "int" = some true := by decide +kernel
theorem k_ib : kitB "int" "bool" = some false := by decide +kernel
theorem k_bi : kitB "bool" "int" = some true := by decide +kernel
theorem k_bb : kitB "bool" "bool" = some true := by decide +kernel
theorem k_is_ : kitB "int" "str" = some false := by decide +kernel
theorem k_bs : kitB "bool" "str" = some false := by decide +kernel
theorem k_it : kitB "int" "tuple" = some false := by decide +kernel
theorem k_bt : kitB "bool" "tuple" = some false := by decide +kernel
theorem k_si : kitB "str" "int" = some false := by decide +kernel
theorem k_sb : kitB "str" "bool" = some false := by decide +kernel
theorem k_ss : kitB "str" "str" = some true := by decide +kernel
theorem k_st : kitB "str" "tuple" = some false := by decide +kernel
theorem k_ni : kitB "NoneType" "int" = some false := by decide +kernel
theorem k_nb : kitB "NoneType" "bool" = some false := by decide +kernel
theorem k_ns : kitB "NoneType" "str" = some false := by decide +kernel
theorem k_nt : kitB "NoneType" "tuple" = some false := by decide +kernel
theorem k_tt : kitB "tuple" "tuple" = some true := by decide +kernel
theorem k_ti : kitB "tuple" "int" = some false := by decide +kernel
theorem k_tb : kitB "tuple" "bool" = some false := by decide +kernel
theorem k_ts : kitB "tuple" "str" = some false := by decide +kernel
variable {z : Str} {b : Bool}
theorem g_isiIi (h : Q (.bl true) H) : rIsi K [.int i, .ty "int"] H Q := isi_of (.base (.int i)) k_ii h
theorem g_isiIb (h : Q (.bl false) H) : rIsi K [.int i, .ty "bool"] H Q := isi_of (.base (.int i)) k_ib h
theorem g_isiIs (h : Q (.bl false) H) : rIsi K [.int i, .ty "str"] H Q := isi_of (.base (.int i)) k_is_ h
theorem g_isiIt (h : Q (.bl false) H) : rIsi K [.int i, .ty "tuple"] H Q := isi_of (.base (.int i)) k_it h
theorem g_isiBi (h : Q (.bl true) H) : rIsi K [.bl b, .ty "int"] H Q := isi_of (.base (.bl b)) k_bi h
theorem g_isiBb (h : Q (.bl true) H) : rIsi K [.bl b, .ty "bool"] H Q := isi_of (.base (.bl b)) k_bb h
theorem g_isiBs (h : Q (.bl false) H) : rIsi K [.bl b, .ty "str"] H Q := isi_of (.base (.bl b)) k_bs h
theorem g_isiBt (h : Q (.bl false) H) : rIsi K [.bl b, .ty "tuple"] H Q := isi_of (.base (.bl b)) k_bt h
theorem g_isiSi (h : Q (.bl false) H) : rIsi K [.str z, .ty "int"] H Q := isi_of (.base (.str z)) k_si h
theorem g_isiSb (h : Q (.bl false) H) : rIsi K [.str z, .ty "bool"] H Q := isi_of (.base (.str z)) k_sb h
theorem g_isiSs (h : Q (.bl true) H) : rIsi K [.str z, .ty "str"] H Q := isi_of (.base (.str z)) k_ss h
theorem g_isiSt (h : Q (.bl false) H) : rIsi K [.str z, .ty "tuple"] H Q := isi_of (.base (.str z)) k_st h
theorem g_isiNi (h : Q (.bl false) H) : rIsi K [.non, .ty "int"] H Q := isi_of (.base .non) k_ni h
theorem g_isiNb (h : Q (.bl false) H) : rIsi K [.non, .ty "bool"] H Q := isi_of (.base .non) k_nb h
theorem g_isiNs (h : Q (.bl false) H) : rIsi K [.non, .ty "str"] H Q := isi_of (.base .non) k_ns h
theorem g_isiNt (h : Q (.bl false) H) : rIsi K [.non, .ty "tuple"] H Q := isi_of (.base .non) k_nt h
end
section
variable {H H1 : Hp} {a : Addr} {o : HO}
theorem Same.mut (x : Same H H1) (h : H a = none) : Same H (upd H1 a o) := fun b u e => by
  rw [upd_ne (ne_of_none e h)]
  exact x b u e
theorem Same.new' (x : Same H H1) (h : H1 a = none) : Same H (upd H1 a o) := fun b u e => keep_new (x b u e) h
end
theorem q_int {Q : VK} {x y : Int} {H : Hp} (e : x = y) (h : Q (.int x) H) : Q (.int y) H := e ▸ h
theorem q_bl {Q : VK} {x y : Bool} {H : Hp} (e : x = y) (h : Q (.bl x) H) : Q (.bl y) H := e ▸ h
theorem q_str {Q : VK} {x y : Str} {H : Hp} (e : x = y) (h : Q (.str x) H) : Q (.str y) H := e ▸ h
theorem g_disp {trs : List (TE × TE)} {σ : L2.St} {H : Hp} {Q : VK} (h : ∀ p, H p = none → tPairs trs σ (upd H p (.dK [])) fun ps H2 => H2 p = some (.dK []) ∧ ∃ kvs : List (Key × V), ps = kvs.map (fun kv => (kV kv.1, kv.2)) ∧ kvs.length ≤ 15 ∧ Q (.ref p) (upd H2 p (.dK (mergeK [] kvs)))) : tDisp trs σ H Q := h
theorem g_pairN {σ : L2.St} {H : Hp} {R : List (V × V) → Hp → Prop} (h : R [] H) : tPairs [] σ H R := h
theorem g_pairC {tk tv : TE} {r : List (TE × TE)} {σ : L2.St} {H : Hp} {R : List (V × V) → Hp → Prop} (h : tk σ H fun x H1 => tv σ H1 fun y H2 => tPairs r σ H2 fun ps H3 => R ((x, y) :: ps) H3) : tPairs ((tk, tv) :: r) σ H R := h
theorem g_dput {td ty tv : TE} {D : Ends} {σ : L2.St} {H : Hp} (h : tv σ H fun v H1 => td σ H1 fun x H2 => ty σ H2 fun y H3 => ∃ a H4, x = .ref a ∧ DPut H3 a y v H4 ∧ D.nx σ H4) : sDPut td ty tv D σ H := h

/-! ### the laws' draws: a dict with a row, a place and a seed -/
theorem ne_ra : ¬ (("row" : Str) = "at") := by decide +kernel
theorem ne_rs : ¬ (("row" : Str) = "seed") := by decide +kernel
theorem ne_as : ¬ (("at" : Str) = "seed") := by decide +kernel
theorem ne_sa : ¬ (("seed" : Str) = "at") := by decide +kernel
theorem ne_ar : ¬ (("at" : Str) = "row") := by decide +kernel
theorem ne_sr : ¬ (("seed" : Str) = "row") := by decide +kernel
def drK (r : Addr) (n sd : Int) : List (Key × V) := [(.inr "row", .ref r), (.inr "at", .int n), (.inr "seed", .int sd)]
structure RowOk (row : List Int) (sd : Int) : Prop where
  dig : ∀ x ∈ row, 0 ≤ x ∧ x < 1000
  len : row.length ≤ 1260
  s0 : 0 ≤ sd
  s1 : sd < 1000003
theorem dr_row (r : Addr) (n sd : Int) : valV (drK r n sd) (.inr "row") = some (.ref r) := by
  unfold drK
  exact valV_pos rfl
theorem dr_at (r : Addr) (n sd : Int) : valV (drK r n sd) (.inr "at") = some (.int n) := by
  unfold drK
  rw [valV_neg (fun e => ne_ra (Sum.inr.inj e))]
  exact valV_pos rfl
theorem dr_seed (r : Addr) (n sd : Int) : valV (drK r n sd) (.inr "seed") = some (.int sd) := by
  unfold drK
  rw [valV_neg (fun e => ne_rs (Sum.inr.inj e)), valV_neg (fun e => ne_as (Sum.inr.inj e))]
  exact valV_pos rfl
theorem dr_put (r : Addr) (n m sd : Int) : putK (drK r n sd) (.inr "at") (.int m) = drK r m sd := by
  unfold putK
  rw [valV_any, dr_at]
  simp only [Option.isSome_some, if_true]
  unfold drK
  simp only [List.map_cons, List.map_nil]
  rw [if_neg (fun e => ne_ra (Sum.inr.inj e)), if_pos trivial, if_neg (fun e => ne_sa (Sum.inr.inj e))]
theorem dr_made (r : Addr) (n sd : Int) : mergeK [] [(.inr "row", .ref r), (.inr "at", .int n), (.inr "seed", .int sd)] = drK r n sd := by
  have h1 : putK ([] : List (Key × V)) (.inr "row") (.ref r) = [(.inr "row", .ref r)] := putK_new _ rfl
  have h2 : putK ([(.inr "row", .ref r)] : List (Key × V)) (.inr "at") (.int n) = [(.inr "row", .ref r)] ++ [(.inr "at", .int n)] := putK_new _ (by rw [valV_neg (fun e => ne_ra (Sum.inr.inj e))]; rfl)
  have h3 : putK ([(.inr "row", .ref r), (.inr "at", .int n)] : List (Key × V)) (.inr "seed") (.int sd) = [(.inr "row", .ref r), (.inr "at", .int n)] ++ [(.inr "seed", .int sd)] := putK_new _ (by
    rw [valV_neg (fun e => ne_rs (Sum.inr.inj e)), valV_neg (fun e => ne_as (Sum.inr.inj e))]; rfl)
  unfold mergeK
  simp only [List.foldl_cons, List.foldl_nil]
  rw [h1, h2]
  exact h3
theorem dg_row {H : Hp} {d r : Addr} {n sd : Int} (h : H d = some (.dK (drK r n sd))) : DGet H d (.str "row") (some (.ref r)) := by
  rw [← dr_row r n sd]
  exact DGet.k (k := .inr "row") h
theorem dg_at {H : Hp} {d r : Addr} {n sd : Int} (h : H d = some (.dK (drK r n sd))) : DGet H d (.str "at") (some (.int n)) := by
  rw [← dr_at r n sd]
  exact DGet.k (k := .inr "at") h
theorem dg_seed {H : Hp} {d r : Addr} {n sd : Int} (h : H d = some (.dK (drK r n sd))) : DGet H d (.str "seed") (some (.int sd)) := by
  rw [← dr_seed r n sd]
  exact DGet.k (k := .inr "seed") h
theorem dp_at {H : Hp} {d r : Addr} {n sd : Int} (m : Int) (h : H d = some (.dK (drK r n sd))) : DPut H d (.str "at") (.int m) (upd H d (.dK (drK r m sd))) := by
  rw [← dr_put r n m sd]
  exact DPut.k (k := .inr "at") h (by show 3 < sizeLine; decide)
theorem szl {n : Nat} (h : n ≤ 100000) : n < sizeLine := Nat.lt_of_le_of_lt h (by decide)
theorem szle {n : Nat} (h : n ≤ 100000) : n ≤ sizeLine := Nat.le_trans h (by decide)

/-! ### //, %, shifts by name -/
def rMod : R2 := rI (fun _ j => 0 < j) fun i j => .int (i % j)
def rFdiv : R2 := rI CDivW fun i j => .int (i / j)
def rShl : R2 := rI CPow fun i j => .int (i * 2 ^ j.toNat)
def rPow : R2 := rI CPow fun i j => .int (i ^ j.toNat)
def rShr : R2 := rI (fun _ j => 0 ≤ j) fun i j => .int (i / 2 ^ j.toNat)
section
variable {X : Cx} {i j : Int} {H : Hp} {Q : VK}
theorem o_mod : OpR X (binaryOp .Mod) rMod := op_mod
theorem o_fdiv : OpR X (binaryOp .FloorDiv) rFdiv := op_fdivW
theorem o_shl : OpR X (binaryOp .LShift) rShl := op_shl
theorem o_pow : OpR X (binaryOp .Pow) rPow := op_pow
theorem o_shr : OpR X (binaryOp .RShift) rShr := op_shr
theorem io_fdiv : OpR X (inplaceOp .FloorDiv) rFdiv := iop_fdivW
theorem io_mod : OpR X (inplaceOp .Mod) rMod := iop_mod
theorem g_mod (h : 0 < j) (q : Q (.int (i % j)) H) : rMod (.int i) (.int j) H Q := ⟨i, j, rfl, rfl, h, q⟩
theorem g_fdiv (h : 0 < j) (h2 : j < 18446744073709551616) (q : Q (.int (i / j)) H) : rFdiv (.int i) (.int j) H Q := ⟨i, j, rfl, rfl, cdivW_of h h2, q⟩
theorem g_shl (h : 0 ≤ j) (h2 : j ≤ 1000000) (h3 : i.natAbs < 18446744073709551616) (q : Q (.int (i * 2 ^ j.toNat)) H) : rShl (.int i) (.int j) H Q := ⟨i, j, rfl, rfl, ⟨h, h2, h3⟩, q⟩
theorem g_pow (h : 0 ≤ j) (h2 : j ≤ 1000000) (h3 : i.natAbs < 18446744073709551616) (q : Q (.int (i ^ j.toNat)) H) : rPow (.int i) (.int j) H Q := ⟨i, j, rfl, rfl, ⟨h, h2, h3⟩, q⟩
theorem g_shr (h : 0 ≤ j) (q : Q (.int (i / 2 ^ j.toNat)) H) : rShr (.int i) (.int j) H Q := ⟨i, j, rfl, rfl, h, q⟩
end

/-! ### fields, methods, makes -/
def rFld (K : PySem.W.Frag) (f : Str) : V → Hp → VK → Prop := fun x H Q => ∃ a C dx fs v, x = .ref a ∧ H a = some (.ins C dx fs) ∧ Cls K C ∧ NoAttr K C f ∧ fs.lookup f = some v ∧ Q v H
def rSFld (K : PySem.W.Frag) (f : Str) : V → V → Hp → (Hp → Prop) → Prop := fun x y H R => ∃ a C dx fs, x = .ref a ∧ H a = some (.ins C dx fs) ∧ Cls K C ∧ NoAttr K C f ∧ fs.length < 1000 ∧ R (upd H a (.ins C dx (putF f y fs)))
def tSFld (K : PySem.W.Frag) (ta tv : TE) (f : Str) : TS := fun D σ H => tv σ H fun y H1 => ta σ H1 fun x H2 => rSFld K f x y H2 (D.nx σ)
/-- the receiver of a method's call -/
def rRcv (C : Addr) (m : Str) : V → Hp → (Hp → Prop) → Prop := fun x H R => ∃ a dx fs, x = .ref a ∧ H a = some (.ins C dx fs) ∧ fs.lookup m = none ∧ R H
section
variable {X : Cx} {o e value : Expr} {f : Str} {pos pos' : Pos} {ta tv : TE}
theorem pe_fldU {K : PySem.W.Frag} (hK : X.K = K) (he : PE X e ta) (hb : attributeBase e f X.env (eval e X.env) = eval e X.env) : PE X (.Attribute e f pos) (tUn (rFld K f) ta) := by
  subst hK
  exact pe_fld he hb
theorem ps_fldU {K : PySem.W.Frag} (hK : X.K = K) (ha : PE X o ta) (hv : PE X value tv) (hs : swapsWith value (some (.Attribute o f pos')) pos.line X.env = pure false) : PS X (.Assign [.Attribute o f pos'] value pos) (tSFld K ta tv f) := by
  subst hK
  exact ps_fld ha hv hs
end
section
variable {K : PySem.W.Frag} {σ : L2.St} {H : Hp} {D : Ends} {ta tv : TE} {t : TA} {Q : VK} {v y : V} {a C dx : Addr} {fs fs' : List (Str × V)} {f m : Str} {sp : Sp} {dvs : List V} {E : XK} {L : List (Addr × HO)} {R : Hp → Prop}
theorem g_fld (he : H a = some (.ins C dx fs)) (cl : Cls K C) (na : NoAttr K C f) (l : fs.lookup f = some v) (h : Q v H) : rFld K f (.ref a) H Q := ⟨a, C, dx, fs, v, rfl, he, cl, na, l, h⟩
theorem g_sfld (h : tv σ H fun y H1 => ta σ H1 fun x H2 => rSFld K f x y H2 (D.nx σ)) : tSFld K ta tv f D σ H := h
theorem g_setF (M : Has H L) (n : Nat) (he : L[n]? = some (a, .ins C dx fs)) (cl : Cls K C) (na : NoAttr K C f) (hl : fs.length < 1000) (e : putF f y fs = fs') (k : Has (upd H a (.ins C dx fs')) (L.set n (a, .ins C dx fs')) → R (upd H a (.ins C dx fs'))) : rSFld K f (.ref a) y H R :=
  ⟨a, C, dx, fs, rfl, M.get n he, cl, na, hl, by rw [e]; exact k (M.set n he)⟩
theorem g_meth (h : ta σ H fun x H1 => ∃ a dx fs, x = .ref a ∧ H1 a = some (.ins C dx fs) ∧ fs.lookup m = none ∧ t σ H1 fun vs H2 => sp (x :: (vs ++ dvs)) H2 Q E) : tMeth C m sp dvs E ta t σ H Q := h
theorem g_rcv {A : Prop} (he : H a = some (.ins C dx fs)) (l : fs.lookup m = none) (h : A) : ∃ b dx' fs', V.ref a = .ref b ∧ H b = some (.ins C dx' fs') ∧ fs'.lookup m = none ∧ A := ⟨a, dx, fs, rfl, he, l, h⟩
theorem g_make (h : t σ H fun vs H1 => ∀ x dx, H1 x = none → H1 dx = none → dx ≠ x → sp (.ref x :: (vs ++ dvs)) (upd (upd H1 dx (.own x)) x (.ins C dx [])) (fun v H2 => v = .non ∧ Q (.ref x) H2) E) : tMake C sp dvs E t σ H Q := h
end
section
variable {H : Hp} {x dx C : Addr}
/-- the heap in which an __init__ starts -/
def made (H : Hp) (x dx C : Addr) : Hp := upd (upd H dx (.own x)) x (.ins C dx [])
theorem made_same (hx : H x = none) (hd : H dx = none) : Same H (made H x dx C) := fun b o e => by
  unfold made
  rw [upd_ne (ne_of_none e hx), upd_ne (ne_of_none e hd)]
  exact e
theorem made_at : made H x dx C x = some (.ins C dx []) := upd_same
theorem made_none {p : Addr} (h : made H x dx C p = none) : H p = none ∧ p ≠ x ∧ p ≠ dx := by
  unfold made at h
  by_cases h1 : p = x
  · subst h1; rw [upd_same] at h; cases h
  · rw [upd_ne h1] at h
    by_cases h2 : p = dx
    · subst h2; rw [upd_same] at h; cases h
    · rw [upd_ne h2] at h
      exact ⟨h, h1, h2⟩
end

/-! ### stores by place, replicated lists, slices, all and any -/
def rSetU : V → V → V → Hp → (Hp → Prop) → Prop := fun o i v H Q => rSetL o i v H Q ∨ ∃ a H', o = .ref a ∧ DPut H a i v H' ∧ Q H'
section
variable {X : Cx}
theorem set_U (hu : X.A.units + 1 < cLine) : PSet X rSetU := by
  intro pins s σ H o i v ov iv u Q I ro ri rv h
  rcases h with h | ⟨a, H', rfl, g, q⟩
  · exact set_list pins s σ H o i v ov iv u Q I ro ri rv h
  · obtain rfl : ov = Value.ref a := ro
    exact d_setItem hu I g ri rv fun s1 I1 => ⟨H', I1, q⟩
end
section
variable {K : PySem.W.Frag} {σ : L2.St} {H : Hp} {R : Hp → Prop} {RS : L2.St → Hp → Prop} {te ti : TE} {t : TSet} {v y : V} {a : Addr} {xs : List V} {i : Int} {L : List (Addr × HO)} {m : Nat} {Q : VK}
theorem g_sub (h : te σ H fun o H1 => ti σ H1 fun i H2 => t o i v H2 fun H3 => RS σ H3) : gSub te ti t v σ H RS := h
theorem g_setU (M : Has H L) (n : Nat) (h : L[n]? = some (a, .lst xs)) (hi : i = (m : Int)) (hm : m < xs.length) (k : Has (upd H a (.lst (xs.set m y))) (L.set n (a, .lst (xs.set m y))) → R (upd H a (.lst (xs.set m y)))) : rSetU (.ref a) (.int i) y H R :=
  .inl ⟨a, xs, i, m, rfl, rfl, M.get n h, by
    unfold ixN
    rw [if_pos (by omega), if_pos (by omega)]
    congr 1
    omega, k (M.set n h)⟩
theorem g_repI {x : Int} {k : Int} (h : H a = some (.lst [.int x])) (h0 : -4611686018427387904 ≤ k) (h1 : k ≤ 100000) (q : ∀ p, H p = none → Q (.ref p) (upd H p (.lst ((List.replicate k.toNat x).map V.int)))) : rMulU (.ref a) (.int k) H Q := by
  refine ⟨a, k, [.int x], rfl, rfl, h, by omega, by omega, szle (by simp; omega), fun p hp => ?_⟩
  have e : (List.replicate k.toNat [V.int x]).flatten = (List.replicate k.toNat x).map V.int := by
    generalize k.toNat = n
    induction n with
    | zero => rfl
    | succ n ih =>
      rw [List.replicate_succ, List.replicate_succ, List.flatten_cons, ih]
      rfl
  rw [e]
  exact q p hp
end
def rAllU (K : PySem.W.Frag) : List V → Hp → VK → Prop := fun vs H Q => ∃ (a : Addr) (bs : List Bool), vs = [V.ref a] ∧ SqL K H a (bs.map V.bl) ∧ Q (.bl (bs.all id)) H
def rAnyU (K : PySem.W.Frag) : List V → Hp → VK → Prop := fun vs H Q => ∃ (a : Addr) (bs : List Bool), vs = [V.ref a] ∧ SqL K H a (bs.map V.bl) ∧ Q (.bl (bs.any id)) H
section
variable {X : Cx} {K : PySem.W.Frag} {H : Hp} {Q : VK} {a : Addr} {bs : List Bool}
theorem c_all {K : PySem.W.Frag} (hK : X.K = K) (hc : X.calm = true) : CallR X (.builtin "all") (rAllU K) := by
  subst hK
  exact cr_all hc
theorem c_any {K : PySem.W.Frag} (hK : X.K = K) (hc : X.calm = true) : CallR X (.builtin "any") (rAnyU K) := by
  subst hK
  exact cr_any hc
theorem g_all (h : SqL K H a (bs.map V.bl)) (q : Q (.bl (bs.all id)) H) : rAllU K [.ref a] H Q := ⟨a, bs, rfl, h, q⟩
theorem g_any (h : SqL K H a (bs.map V.bl)) (q : Q (.bl (bs.any id)) H) : rAnyU K [.ref a] H Q := ⟨a, bs, rfl, h, q⟩
end
/-! slices -/
def rSlU (K : PySem.W.Frag) : V → Option Int → Option Int → Hp → VK → Prop := fun x lo hi H Q => rSlL K x lo hi H Q ∨ rSlT K x lo hi H Q ∨ ∃ z, x = .str z ∧ z.length ≤ sizeLine ∧ Q (.str (cutS z lo hi)) H
theorem sl_U {X : Cx} {K : PySem.W.Frag} (hK : X.K = K) : SlR X (rSlU K) := by
  subst hK
  exact sl_list.or (sl_tup.or sl_str)
section
variable {K : PySem.W.Frag} {σ : L2.St} {H : Hp} {Q : VK} {te : TE} {tl th : TO} {QO : Option Int → Hp → Prop} {r : V → Option Int → Option Int → Hp → VK → Prop} {a : Addr} {xs : List V} {lo hi : Option Int} {i : Int} {z : Str}
theorem g_sl (h : te σ H fun x H1 => tl σ H1 fun l H2 => th σ H2 fun u H3 => r x l u H3 Q) : tSl r te tl th σ H Q := h
theorem g_part (h : te σ H fun x H1 => ∃ i, x = .int i ∧ QO (some i) H1) : tPart te σ H QO := h
theorem g_exi {A : Int → Prop} (h : A i) : ∃ j, V.int i = .int j ∧ A j := ⟨i, rfl, h⟩
theorem g_noPart (h : QO none H) : tNoPart σ H QO := h
theorem g_slL (h : SqL K H a xs) (q : ∀ p, H p = none → Q (.ref p) (upd H p (.lst (cutV xs lo hi)))) : rSlU K (.ref a) lo hi H Q := .inl ⟨a, xs, rfl, h, q⟩
theorem g_slS (hl : z.length ≤ sizeLine) (q : Q (.str (cutS z lo hi)) H) : rSlU K (.str z) lo hi H Q := .inr (.inr ⟨z, rfl, hl, q⟩)
end
theorem cutV_from {xs : List V} {n : Nat} : cutV xs (some (n : Int)) none = xs.drop n := by
  unfold cutV
  rw [HT.sIx_nat, HT.sIx_none]
  by_cases h : n ≤ xs.length
  · rw [Nat.min_eq_left h, List.take_of_length_le (by simp)]
  · rw [Nat.min_eq_right (by omega), List.drop_of_length_le (by omega), List.drop_of_length_le (by omega)]
    simp

/-! ### methods of built-in types, own methods: the written part named -/
section
variable {X : Cx} {K : PySem.W.Frag} {o e : Expr} {es : List Expr} {to : TE} {t : TA} {name : Str} {apos cpos pos : Pos} {T id : String} {r : V → List V → Hp → VK → Prop}
def rTyV (K : PySem.W.Frag) (T : String) : V → Hp → (Hp → Prop) → Prop := fun x H R => tyV K T x H ∧ R H
def tBMU (K : PySem.W.Frag) (T : String) (r : V → List V → Hp → VK → Prop) (to : TE) (t : TA) : TE := fun σ H Q => to σ H fun x H1 => rTyV K T x H1 fun H2 => t σ H2 fun xs H3 => r x xs H3 Q
end
theorem g_lenM {K : PySem.W.Frag} {H : Hp} {a : Addr} {Q : VK} {α : Type} {f : α → V} {ns : List α} (h : SqL K H a (ns.map f)) (q : Q (.int (ns.length : Nat)) H) : rLenU K [.ref a] H Q := g_lenL h (by rw [List.length_map]; exact q)
theorem g_ty_ {K : PySem.W.Frag} {T : String} {x : V} {H : Hp} {A : Prop} (h : tyV K T x H) (q : A) : tyV K T x H ∧ A := ⟨h, q⟩

/-! ### list comprehensions -/
def LcW (g : TG) (tt : TT) (te : TE) (vs : List Nat) (σ : L2.St) (Q : VK) : It → Hp → Prop := fun J H1 => ∀ D, H1 D = none → ∃ W : Nat → Nat → Hp → Prop, (∃ m, W 0 m (upd H1 D (.lst []))) ∧ ∀ i m H, W i m H →
  (J.stop i H ∧ Q (.ref D) H) ∨ (J.go i H ∧ ∃ Nx : Hp → Prop, (∀ H', Nx H' → ∃ m', m' < m ∧ W (i + 1) m' H') ∧ ∀ x H', J.yld i H x H' → g x (wipe σ vs) H' fun σ2 H2 => wipe σ2 vs = wipe σ vs ∧ tt σ2 H2 fun b H3 =>
    if b = true then te σ2 H3 fun y H4 => ∃ acc, H4 D = some (.lst acc) ∧ acc.length < sizeLine ∧ Nx (upd H4 D (.lst (acc ++ [y]))) else Nx H3)
section
variable {K : PySem.W.Frag} {σ : L2.St} {H : Hp} {g : TG} {tt : TT} {te : TE} {wi : TI} {vs : List Nat} {Q : VK} {lo : Int} {n : Nat} {a : Addr} {xs : List V} {QB : Bool → Hp → Prop}
theorem g_lc (h : wi σ H (LcW g tt te vs σ Q)) : tLc wi g tt te vs σ H Q := h
theorem g_yes (h : QB true H) : tYes σ H QB := h
theorem g_wipe {σ1 σ2 : L2.St} {A : Prop} (e : wipe σ1 vs = wipe σ2 vs) (h : A) : wipe σ1 vs = wipe σ2 vs ∧ A := ⟨e, h⟩
theorem l_range (Pv : Addr → Nat → Hp → Prop) (h0 : ∀ D, H D = none → Pv D 0 (upd H D (.lst [])))
    (hs : ∀ D, H D = none → ∀ i H', i < n → Pv D i H' → g (.int (lo + i)) (wipe σ vs) H' fun σ2 H2 => wipe σ2 vs = wipe σ vs ∧ tt σ2 H2 fun b H3 => if b = true then te σ2 H3 fun y H4 => ∃ acc, H4 D = some (.lst acc) ∧ acc.length < sizeLine ∧ Pv D (i + 1) (upd H4 D (.lst (acc ++ [y]))) else Pv D (i + 1) H3)
    (hd : ∀ D, H D = none → ∀ H', Pv D n H' → Q (.ref D) H') : LcW g tt te vs σ Q (Itr lo n) H := fun D hD => lc_range (Pv D) (h0 D hD) (hs D hD) (hd D hD)
theorem l_list (Pv : Addr → Nat → Hp → Prop) (h0 : ∀ D, H D = none → Pv D 0 (upd H D (.lst []))) (hl : ∀ D, H D = none → ∀ i H', i ≤ xs.length → Pv D i H' → SqL K H' a xs)
    (hs : ∀ D, H D = none → ∀ i x H', xs[i]? = some x → Pv D i H' → g x (wipe σ vs) H' fun σ2 H2 => wipe σ2 vs = wipe σ vs ∧ tt σ2 H2 fun b H3 => if b = true then te σ2 H3 fun y H4 => ∃ acc, H4 D = some (.lst acc) ∧ acc.length < sizeLine ∧ Pv D (i + 1) (upd H4 D (.lst (acc ++ [y]))) else Pv D (i + 1) H3)
    (hd : ∀ D, H D = none → ∀ H', Pv D xs.length H' → Q (.ref D) H') : LcW g tt te vs σ Q (Itl K a) H := fun D hD => lc_list (Pv D) (h0 D hD) (hl D hD) (hs D hD) (hd D hD)
theorem l_tup (Pv : Addr → Nat → Hp → Prop) (h0 : ∀ D, H D = none → Pv D 0 (upd H D (.lst []))) (hl : ∀ D, H D = none → ∀ i H', i ≤ xs.length → Pv D i H' → SqT K H' a xs)
    (hs : ∀ D, H D = none → ∀ i x H', xs[i]? = some x → Pv D i H' → g x (wipe σ vs) H' fun σ2 H2 => wipe σ2 vs = wipe σ vs ∧ tt σ2 H2 fun b H3 => if b = true then te σ2 H3 fun y H4 => ∃ acc, H4 D = some (.lst acc) ∧ acc.length < sizeLine ∧ Pv D (i + 1) (upd H4 D (.lst (acc ++ [y]))) else Pv D (i + 1) H3)
    (hd : ∀ D, H D = none → ∀ H', Pv D xs.length H' → Q (.ref D) H') : LcW g tt te vs σ Q (Itt K a) H := fun D hD => lc_tup (Pv D) (h0 D hD) (hl D hD) (hs D hD) (hd D hD)
end
section
variable {H H1 : Hp} {L : List (Addr × HO)} {a b : Addr} {o o' u u' : HO}
/-- two objects have changed -/
theorem Has.call2 (M : Has H L) (k : Keep [a, b] H H1) (i j : Nat) (hi : L[i]? = some (a, o)) (hj : L[j]? = some (b, u)) (hij : i ≠ j) (e1 : H1 a = some o') (e2 : H1 b = some u') : Has H1 ((L.set i (a, o')).set j (b, u')) := by
  have nab : a ≠ b := M.ne i j hi hj hij
  have k1 : Keep [a] H (upd H1 b u) := fun x w e n => by
    by_cases hx : x = b
    · subst hx
      rw [upd_same]
      exact (M.get j hj).symm.trans e
    · rw [upd_ne hx]
      refine k x w e ?_
      simp only [List.mem_cons, List.not_mem_nil, or_false, not_or]
      exact ⟨fun z => n (List.mem_singleton.mpr z), hx⟩
  have M1 : Has (upd H1 b u) (L.set i (a, o')) := M.call1 k1 i hi (by rw [upd_ne nab]; exact e1)
  have hj' : (L.set i (a, o'))[j]? = some (b, u) := by rw [List.getElem?_set_ne hij]; exact hj
  have M2 := M1.set (o' := u') j hj'
  have e : upd (upd H1 b u) b u' = H1 := by
    rw [upd_upd]
    funext x
    by_cases hx : x = b
    · subst hx
      rw [upd_same, e2]
    · rw [upd_ne hx]
  rw [e] at M2
  exact M2
end

/-! ### None asked -/
def rIsN (neg : Bool) : R2 := fun x y H Q => y = .non ∧ Q (.bl (if neg then !decide (x = .non) else decide (x = .non))) H
theorem o_isN {X : Cx} : OpR X (compareOp .Is) (rIsN false) := op_isN
theorem o_notN {X : Cx} : OpR X (compareOp .IsNot) (rIsN true) := op_notN
section
variable {H : Hp} {Q : VK} {i : Int} {z : Str} {b : Bool} {a : Addr}
theorem g_isNn (h : Q (.bl true) H) : rIsN false .non .non H Q := ⟨rfl, h⟩
theorem g_isNi (h : Q (.bl false) H) : rIsN false (.int i) .non H Q := ⟨rfl, h⟩
theorem g_isNs (h : Q (.bl false) H) : rIsN false (.str z) .non H Q := ⟨rfl, h⟩
theorem g_isNb (h : Q (.bl false) H) : rIsN false (.bl b) .non H Q := ⟨rfl, h⟩
theorem g_isNr (h : Q (.bl false) H) : rIsN false (.ref a) .non H Q := ⟨rfl, h⟩
theorem g_noNn (h : Q (.bl false) H) : rIsN true .non .non H Q := ⟨rfl, h⟩
theorem g_noNi (h : Q (.bl true) H) : rIsN true (.int i) .non H Q := ⟨rfl, h⟩
theorem g_noNs (h : Q (.bl true) H) : rIsN true (.str z) .non H Q := ⟨rfl, h⟩
theorem g_noNb (h : Q (.bl true) H) : rIsN true (.bl b) .non H Q := ⟨rfl, h⟩
theorem g_noNr (h : Q (.bl true) H) : rIsN true (.ref a) .non H Q := ⟨rfl, h⟩
end
end G

set_option Elab.async false
set_option linter.all false
set_option maxRecDepth 100000
set_option maxHeartbeats 4000000
namespace K23
open PySem PySem.Spec PyProof.Rows L2 G
local macro_rules | `(tactic| walk_at "sc") => `(tactic| first | assumption | decide | omega | (simp only [List.length_cons, List.length_nil, List.length_append, List.length_map, List.length_replicate, List.length_set]; omega) | (show _ ≤ sizeLine; decide) | (show _ < sizeLine; decide))
local macro_rules | `(tactic| walk_at "sq") => `(tactic| first | assumption | exact SqL.of (by walk_at "hi") | exact SqT.of (by walk_at "hi"))
local macro_rules | `(tactic| walk_at "sd") => `(tactic| first | exact mul_ok (by walk_at "sc") (by walk_at "sc") | exact mul_ok' (by walk_at "sc") (by walk_at "sc"))
local macro_rules | `(tactic| walk_at "hi") => `(tactic| first | assumption | exact Has.get (by assumption) 0 rfl | exact Has.get (by assumption) 1 rfl | exact Has.get (by assumption) 2 rfl | exact Has.get (by assumption) 3 rfl | exact Has.get (by assumption) 4 rfl | exact Has.get (by assumption) 5 rfl | exact Has.get (by assumption) 6 rfl | exact Has.get (by assumption) 7 rfl | exact Has.get (by assumption) 8 rfl | exact Has.get (by assumption) 9 rfl)
local macro_rules | `(tactic| walk_at "s") => `(tactic| first
  | (with_reducible first
  | refine g_seq ?_ | refine g_asg ?_ | refine g_var rfl ?_ | refine g_c ?_ | refine g_op ?_ | refine g_name ?_ | refine g_consA ?_ | refine g_nilA ?_
  | refine g_test ?_ | refine g_exb ?_ | refine g_ifS ?_ | refine g_ret ?_ | refine g_call ?_ | refine g_cb ?_ | refine g_eqI ?_ | refine g_eqS ?_ | refine g_neI ?_ | refine g_neS ?_
  | refine g_cmpI ?_ | refine g_I0 ?_ | refine g_addI ?_ | refine g_intI ?_ | refine g_abs ?_ | refine g_max2 ?_ | refine g_min2 ?_ | refine g_next ?_ | refine g_drop ?_ | refine g_aug rfl ?_ | refine g_ipI ?_
  | refine g_tru ?_ | refine g_truB ?_ | refine g_truI ?_ | refine g_truN ?_ | refine g_not ?_ | refine g_and ?_ | refine g_or ?_ | refine g_notV ?_ | refine g_andV ?_ | refine g_orV ?_ | refine g_ifE ?_ | refine g_chain ?_
  | refine g_un ?_ | refine g_rU ?_ | refine g_retN ?_ | refine g_brk ?_ | refine g_ct ?_ | refine g_B ?_ | refine g_eqB ?_ | refine g_neB ?_ | refine g_bm ?_ | refine g_bm0 ?_ | refine g_intB ?_
  | refine g_disp ?_ | refine g_pairN ?_ | refine g_pairC ?_ | refine g_dput ?_ | refine g_isNn ?_ | refine g_isNi ?_ | refine g_isNs ?_ | refine g_isNb ?_ | refine g_isNr ?_ | refine g_noNn ?_ | refine g_noNi ?_ | refine g_noNs ?_ | refine g_noNb ?_ | refine g_noNr ?_ | refine g_lc ?_ | refine g_yes ?_ | refine g_sfld ?_ | refine g_meth ?_ | refine g_make ?_ | refine g_sub ?_ | refine g_sl ?_ | refine g_part ?_ | refine g_exi ?_ | refine g_noPart ?_ | refine g_for ?_ | refine g_iR ?_ | refine g_iSeq ?_ | refine g_isiIi ?_ | refine g_isiIb ?_ | refine g_isiIs ?_ | refine g_isiIt ?_ | refine g_isiBi ?_ | refine g_isiBb ?_ | refine g_isiBs ?_ | refine g_isiBt ?_ | refine g_isiSi ?_ | refine g_isiSb ?_ | refine g_isiSs ?_ | refine g_isiSt ?_ | refine g_isiNi ?_ | refine g_isiNb ?_ | refine g_isiNs ?_ | refine g_isiNt ?_
  | refine g_ifT ?_ | refine g_ifF ?_ | refine g_ifNT ?_ | refine g_ifNF ?_ | refine g_tup ?_ | refine g_lst ?_)
  | ((with_reducible refine g_mod ?c ?_); (case c => walk_at "sc")) | ((with_reducible refine g_fdiv ?c ?d ?_); (case c => walk_at "sc"); (case d => walk_at "sc")) | ((with_reducible refine g_shr ?c ?_); (case c => walk_at "sc"))
  | ((with_reducible refine g_shl ?c ?d ?e ?_); (case c => walk_at "sc"); (case d => walk_at "sc"); (case e => walk_at "sc")) | ((with_reducible refine g_pow ?c ?d ?e ?_); (case c => walk_at "sc"); (case d => walk_at "sc"); (case e => walk_at "sc")) | ((with_reducible refine g_mulI ?c ?_); (case c => walk_at "sd"))
  | ((with_reducible refine g_wipe ?e ?_); (case e => rfl)) | walk_at "fld" | ((with_reducible refine g_rR1 ?c1 ?c2 ?_); (case c1 => walk_at "sc"); (case c2 => walk_at "sc")) | ((with_reducible refine g_rR2 ?c1 ?_); (case c1 => exact ⟨by walk_at "sc", by walk_at "sc", by walk_at "sc", by walk_at "sc"⟩))
  | ((with_reducible refine' g_lenM ?c ?_); (case c => walk_at "sq")) | ((with_reducible refine' g_lenL ?c ?_); (case c => walk_at "sq")) | ((with_reducible refine' g_seqL ?c ?_); (case c => walk_at "sq"))
  | ((with_reducible refine' g_ty_ ?c ?_); (case c => exact .inl ⟨rfl, _, by walk_at "sq"⟩)))
local macro_rules | `(tactic| walk_at "go") => `(tactic| repeat walk_at "s")
local macro_rules | `(tactic| walk_at "len") => `(tactic| (intro vs H Q E h; first | (obtain ⟨e, _⟩ := h; rw [e]; rfl) | (obtain ⟨_, e, _⟩ := h; rw [e]; rfl) | (obtain ⟨_, _, e, _⟩ := h; rw [e]; rfl) | (obtain ⟨_, _, _, e, _⟩ := h; rw [e]; rfl) | (obtain ⟨_, _, _, _, e, _⟩ := h; rw [e]; rfl) | (obtain ⟨_, _, _, _, _, e, _⟩ := h; rw [e]; rfl) | (obtain ⟨_, _, _, _, _, _, e, _⟩ := h; rw [e]; rfl) | (obtain ⟨_, _, _, _, _, _, _, e, _⟩ := h; rw [e]; rfl) | (obtain ⟨_, _, _, _, _, _, _, _, e, _⟩ := h; rw [e]; rfl) | (obtain ⟨_, _, _, _, _, _, _, _, _, e, _⟩ := h; rw [e]; rfl) | (obtain ⟨_, _, _, _, _, _, _, _, _, _, e, _⟩ := h; rw [e]; rfl) | (obtain ⟨_, _, _, _, _, _, _, _, _, _, _, e, _⟩ := h; rw [e]; rfl) | (obtain ⟨_, _, _, _, _, _, _, _, _, _, _, _, e, _⟩ := h; rw [e]; rfl) | (obtain ⟨_, _, _, _, _, _, _, _, _, _, _, _, _, e, _⟩ := h; rw [e]; rfl) | (obtain ⟨_, _, _, _, _, _, _, _, _, _, _, _, _, _, e, _⟩ := h; rw [e]; rfl) | (obtain ⟨_, _, _, _, _, _, _, _, _, _, _, _, _, _, _, e, _⟩ := h; rw [e]; rfl) | (obtain ⟨_, _, _, _, _, _, _, _, _, _, _, _, _, _, _, _, e, _⟩ := h; rw [e]; rfl) | (obtain ⟨_, _, _, _, _, _, _, _, _, _, _, _, _, _, _, _, _, e, _⟩ := h; rw [e]; rfl) | (obtain ⟨_, _, _, _, _, _, _, _, _, _, _, _, _, _, _, _, _, _, e, _⟩ := h; rw [e]; rfl) | (obtain ⟨_, _, _, _, _, _, _, _, _, _, _, _, _, _, _, _, _, _, _, e, _⟩ := h; rw [e]; rfl) | (obtain ⟨_, _, _, _, _, _, _, _, _, _, _, _, _, _, _, _, _, _, _, _, e, _⟩ := h; rw [e]; rfl) | (obtain ⟨_, _, _, _, _, _, _, _, _, _, _, _, _, _, _, _, _, _, _, _, _, e, _⟩ := h; rw [e]; rfl) | (obtain ⟨_, _, _, _, _, _, _, _, _, _, _, _, _, _, _, _, _, _, _, _, _, _, e, _⟩ := h; rw [e]; rfl) | (obtain ⟨_, _, _, _, _, _, _, _, _, _, _, _, _, _, _, _, _, _, _, _, _, _, _, e, _⟩ := h; rw [e]; rfl)))

def topS (i : Nat) : Stmt := PySem.Challenge.pw_sameclock_k23_predictors_by_their_log.main.body.getD i (.Pass ⟨0, 0, 0, 0⟩)
def dOf (x : Str) (i : Nat) : He.DefD := ⟨(x, none), x, x, defArgs (topS i), defBody (topS i), defScope (topS i), [], []⟩
def mOf (c m q : Str) (s : Stmt) : He.DefD := ⟨(c, some m), m, q, defArgs s, defBody s, defScope s, [], []⟩
def fn : List He.DefD := [dOf "_law_draws" 3, dOf "_law_reader" 4, dOf "_law_next" 5, dOf "_law_settings" 6, dOf "_law_past" 7, dOf "_law_place" 8, dOf "_law_guess" 9, dOf "law" 10, mOf "Predictor" "__init__" "Predictor.__init__" (inClass (topS 1) 0), mOf "Predictor" "place_of" "Predictor.place_of" (inClass (topS 1) 1), mOf "Predictor" "guess" "Predictor.guess" (inClass (topS 1) 2), mOf "Predictor" "learn" "Predictor.learn" (inClass (topS 1) 3)]
def fa : List He.Fa := [.glo "_law_draws", .glo "_law_reader", .glo "_law_next", .glo "_law_settings", .glo "_law_past", .glo "_law_place", .glo "_law_guess", .glo "law", .glo "Predictor", .cls "Predictor", .mkr "Predictor", .meth "Predictor" "place_of", .meth "Predictor" "guess", .meth "Predictor" "learn", .noat "Predictor" "_kind", .noat "Predictor" "_bits", .noat "Predictor" "_history", .noat "Predictor" "_counters", .free "abs", .free "int", .free "len", .free "max", .free "min", .free "range"]
variable {P : Program} {w : World} {K : PySem.W.Frag} {mg : Str → Option Value} {base : Heap}
theorem nd_Predictor : (["_kind", "_bits", "_history", "_counters"] : List Str).Nodup := by decide +kernel
abbrev fs_Predictor (v0 v1 v2 v3 : V) : List (Str × V) := [("_kind", v0), ("_bits", v1), ("_history", v2), ("_counters", v3)]
theorem cl_Predictor (T : Txt fa fn K mg) : Cls K (He.ga K "Predictor") := T.cls 9 rfl
theorem na_Predictor__kind (T : Txt fa fn K mg) : NoAttr K (He.ga K "Predictor") "_kind" := T.noat 14 rfl
theorem nf_Predictor__kind : ("_kind" : Str) ∉ ([] : List Str) := by decide +kernel
theorem na_Predictor__bits (T : Txt fa fn K mg) : NoAttr K (He.ga K "Predictor") "_bits" := T.noat 15 rfl
theorem nf_Predictor__bits : ("_bits" : Str) ∉ (["_kind"] : List Str) := by decide +kernel
theorem na_Predictor__history (T : Txt fa fn K mg) : NoAttr K (He.ga K "Predictor") "_history" := T.noat 16 rfl
theorem nf_Predictor__history : ("_history" : Str) ∉ (["_kind", "_bits"] : List Str) := by decide +kernel
theorem na_Predictor__counters (T : Txt fa fn K mg) : NoAttr K (He.ga K "Predictor") "_counters" := T.noat 17 rfl
theorem nf_Predictor__counters : ("_counters" : Str) ∉ (["_kind", "_bits", "_history"] : List Str) := by decide +kernel
theorem nm_Predictor_place_of : ("place_of" : Str) ∉ (["_kind", "_bits", "_history", "_counters"] : List Str) := by decide +kernel
theorem nm_Predictor_guess : ("guess" : Str) ∉ (["_kind", "_bits", "_history", "_counters"] : List Str) := by decide +kernel
theorem nm_Predictor_learn : ("learn" : Str) ∉ (["_kind", "_bits", "_history", "_counters"] : List Str) := by decide +kernel
local macro_rules | `(tactic| walk_at "fld") => `(tactic| first | ((with_reducible refine' g_fld (f := "_kind") ?h ?c ?n ?l ?_); (case h => walk_at "hi"); (case c => exact cl_Predictor (by assumption)); (case n => exact na_Predictor__kind (by assumption)); (case l => exact lk_ix 0 nd_Predictor rfl)) | ((with_reducible refine' g_fld (f := "_bits") ?h ?c ?n ?l ?_); (case h => walk_at "hi"); (case c => exact cl_Predictor (by assumption)); (case n => exact na_Predictor__bits (by assumption)); (case l => exact lk_ix 1 nd_Predictor rfl)) | ((with_reducible refine' g_fld (f := "_history") ?h ?c ?n ?l ?_); (case h => walk_at "hi"); (case c => exact cl_Predictor (by assumption)); (case n => exact na_Predictor__history (by assumption)); (case l => exact lk_ix 2 nd_Predictor rfl)) | ((with_reducible refine' g_fld (f := "_counters") ?h ?c ?n ?l ?_); (case h => walk_at "hi"); (case c => exact cl_Predictor (by assumption)); (case n => exact na_Predictor__counters (by assumption)); (case l => exact lk_ix 3 nd_Predictor rfl)) | ((with_reducible refine' g_rcv (m := "place_of") ?h ?l ?_); (case h => walk_at "hi"); (case l => exact lk_none nm_Predictor_place_of)) | ((with_reducible refine' g_rcv (m := "guess") ?h ?l ?_); (case h => walk_at "hi"); (case l => exact lk_none nm_Predictor_guess)) | ((with_reducible refine' g_rcv (m := "learn") ?h ?l ?_); (case h => walk_at "hi"); (case l => exact lk_none nm_Predictor_learn)))
/-! ### the predictor -/
/-- its counters' place -/
def plV (k : Str) (h : Int) (n : Nat) (row : Int) : Int := if k = "history" then Builtin.bitXor (row % n) h else row % n
/-- where it may be asked -/
structure PrOk (k : Str) (b h : Int) (cs : List Int) : Prop where
  kind : k = "taken" ∨ (k = "two" ∧ 0 < cs.length) ∨ (k = "history" ∧ 0 ≤ b ∧ b ≤ 60 ∧ cs.length = 2 ^ b.toNat ∧ 0 ≤ h ∧ h < 2 ^ b.toNat)
theorem th_ne : ¬ ("taken" : Str) = "history" := by decide +kernel
theorem t2_ne : ¬ ("two" : Str) = "history" := by decide +kernel
theorem t2_nt : ¬ ("two" : Str) = "taken" := by decide +kernel
theorem tt_ne : ¬ ("taken" : Str) = "two" := by decide +kernel
theorem h2_ne : ¬ ("history" : Str) = "two" := by decide +kernel
theorem ht_ne : ¬ ("history" : Str) = "taken" := by decide +kernel
theorem pw_cast (n : Nat) : ((2 ^ n : Nat) : Int) = 2 ^ n := by simp
theorem pw_int (n : Nat) : (2 : Int) ^ n = ((2 ^ n : Nat) : Int) := by simp
theorem PrOk.pl {k : Str} {b h row : Int} {cs : List Int} (o : PrOk k b h cs) (nt : ¬ k = "taken") : 0 < cs.length ∧ 0 ≤ plV k h cs.length row ∧ plV k h cs.length row < cs.length := by
  rcases o.kind with e | ⟨e, h0⟩ | ⟨e, h0, h1, h2, h3, h4⟩
  · exact (nt e).elim
  · subst e
    unfold plV
    rw [if_neg t2_ne]
    refine ⟨h0, Int.emod_nonneg _ (by omega), Int.emod_lt_of_pos _ (by omega)⟩
  · subst e
    have hp : 0 < cs.length := by rw [h2]; exact Nat.two_pow_pos _
    unfold plV
    rw [if_pos rfl]
    have a0 : 0 ≤ row % (cs.length : Int) := Int.emod_nonneg _ (by omega)
    have a1 : row % (cs.length : Int) < cs.length := Int.emod_lt_of_pos _ (by omega)
    refine ⟨hp, Bits.bitXor_nonneg a0 h3, ?_⟩
    rw [Bits.bitXor_pp a0 h3]
    have e1 : (row % (cs.length : Int)).toNat < 2 ^ b.toNat := by rw [← h2]; omega
    have e2 : h.toNat < 2 ^ b.toNat := by
      rw [pw_int] at h4
      omega
    have := Nat.xor_lt_two_pow e1 e2
    rw [← h2] at this
    exact Int.ofNat_lt.mpr this
/-- the predictor at p, its counters at c -/
abbrev prO (K : PySem.W.Frag) (dx : Addr) (k : Str) (b h : Int) (c : Addr) : HO := .ins (He.ga K "Predictor") dx (fs_Predictor (.str k) (.int b) (.int h) (.ref c))
abbrev ctO (cs : List Int) : HO := .lst (cs.map V.int)
def sp_Predictor_place_of (K : PySem.W.Frag) : Sp := fun vs H Q _ => ∃ (p dx c : Addr) (k : Str) (b h : Int) (cs : List Int) (row : Int), vs = [.ref p, .int row] ∧ H p = some (prO K dx k b h c) ∧ H c = some (ctO cs) ∧ 0 < cs.length ∧ Q (.int (plV k h cs.length row)) H
theorem sc_Predictor_place_of : FnScope ["self", "row", "place"] ["self", "row"] (defScope (inClass (topS 1) 1)) := ⟨rfl, rfl, rfl, by decide +kernel, rfl, by decide +kernel, by decide +kernel⟩
theorem mt_Predictor_place_of (T : Txt fa fn K mg) : Mt P w K mg base CX0 1 "Predictor" "place_of" ["self", "row"] (sp_Predictor_place_of K) := by
  refine mk_mt (d := mOf "Predictor" "place_of" "Predictor.place_of" (inClass (topS 1) 1)) T 9 rfl rfl rfl rfl sc_Predictor_place_of (by walk_at "len") (fun _ _ _ _ _ _ us hl => match us, hl with | [_, _], _ => rfl) (fun cdv A outer s H vs Q E hr h => ⟨_, (pss_cons (ps_set (i := 2) sc_Predictor_place_of.nd rfl (.inl rfl) (pe_op o_mod (pv 1) (pe_callB (c_len (K := K) rfl) rfl (T.free 20 rfl) (by decide +kernel) (pa_cons (pe_fldU (K := K) rfl (pv 0) rfl) pa_nil))))
      (pss_cons (ps_if (pt_cmpR (op_eqU (K := K) rfl hr.units) (pe_fldU (K := K) rfl (pv 0) rfl) pe_str (nomark _)) (pss_one (ps_set (i := 2) sc_Predictor_place_of.nd rfl (.inl rfl) (pe_op op_xor (pv 2) (pe_fldU (K := K) rfl (pv 0) rfl)))) pss_nil)
      (pss_one (ps_ret (pv 2))))), ?_⟩)
  obtain ⟨p, dx, c, k, b, h, cs, row, rfl, hp, hc, h0, hQ⟩ := h
  have hl : (cs.map V.int).length = cs.length := List.length_map _
  walk_at "go"
  refine g_if (fun h1 => ?_) (fun h1 => ?_)
  · walk_at "go"
    refine q_int ?_ hQ
    unfold plV
    rw [if_pos h1]
  · walk_at "go"
    refine q_int ?_ hQ
    unfold plV
    rw [if_neg h1]
def gsV (k : Str) (h : Int) (cs : List Int) (row : Int) : Bool := if k = "taken" then true else decide (2 ≤ cs.getD (plV k h cs.length row).toNat 0)
def sp_Predictor_guess (K : PySem.W.Frag) : Sp := fun vs H Q _ => ∃ (p dx c : Addr) (k : Str) (b h : Int) (cs : List Int) (row : Int), vs = [.ref p, .int row] ∧ H p = some (prO K dx k b h c) ∧ H c = some (ctO cs) ∧ PrOk k b h cs ∧ Q (.bl (gsV k h cs row)) H
theorem getD_at {cs : List Int} {i : Int} (h0 : 0 ≤ i) (h1 : i < cs.length) : (cs.map V.int)[i.toNat]? = some (.int (cs.getD i.toNat 0)) := by
  rw [List.getElem?_map, List.getD_eq_getElem?_getD, List.getElem?_eq_getElem (by omega)]
  rfl
theorem sc_Predictor_guess : FnScope ["self", "row"] ["self", "row"] (defScope (inClass (topS 1) 2)) := ⟨rfl, rfl, rfl, by decide +kernel, rfl, by decide +kernel, by decide +kernel⟩
theorem mt_Predictor_guess (T : Txt fa fn K mg) : Mt P w K mg base CX0 2 "Predictor" "guess" ["self", "row"] (sp_Predictor_guess K) := by
  refine mk_mt (d := mOf "Predictor" "guess" "Predictor.guess" (inClass (topS 1) 2)) T 10 rfl rfl rfl rfl sc_Predictor_guess (by walk_at "len") (fun _ _ _ _ _ _ us hl => match us, hl with | [_, _], _ => rfl) (fun cdv A outer s H vs Q E hr h => ⟨_, (pss_cons (ps_if (pt_cmpR (op_eqU (K := K) rfl hr.units) (pe_fldU (K := K) rfl (pv 0) rfl) pe_str (nomark _)) (pss_one (ps_ret pe_bl)) pss_nil)
      (pss_one (ps_ret (pe_cmpR o_ge (pe_ixU (K := K) rfl (hu_of hr) (pe_fldU (K := K) rfl (pv 0) rfl) (pe_methD (K := K) rfl (mt_Predictor_place_of T) (cl_Predictor T) (T.meth 11 rfl) (hr.mono (by decide)) pass0 (pv 0) (pa_cons (pv 1) pa_nil))) pe_int (nomark _))))), ?_⟩)
  obtain ⟨p, dx, c, k, b, h, cs, row, rfl, hp, hc, ok, hQ⟩ := h
  walk_at "go"
  refine g_if (fun h1 => ?_) (fun h1 => ?_)
  · walk_at "go"
    refine q_bl ?_ hQ
    unfold gsV
    rw [if_pos h1]
  · walk_at "go"
    obtain ⟨h0, h2, h3⟩ := ok.pl (row := row) h1
    refine ⟨p, dx, c, k, b, h, cs, row, rfl, hp, hc, h0, ?_⟩
    walk_at "go"
    refine g_ixL (SqL.of hc) (n := (plV k h cs.length row).toNat) (by omega) (getD_at h2 h3) ?_
    walk_at "go"
    refine q_bl ?_ hQ
    unfold gsV
    rw [if_neg h1]
/-- a counter turned -/
def upV (t : Bool) (c : Int) : Int := if t then min 3 (c + 1) else max 0 (c - 1)
def lcV (k : Str) (h : Int) (cs : List Int) (row : Int) (t : Bool) : List Int := if k = "taken" then cs else cs.set (plV k h cs.length row).toNat (upV t (cs.getD (plV k h cs.length row).toNat 0))
def lhV (k : Str) (b h : Int) (t : Bool) : Int := if k = "history" then (2 * h + if t then 1 else 0) % 2 ^ b.toNat else h
def sp_Predictor_learn (K : PySem.W.Frag) : Sp := fun vs H Q _ => ∃ (p dx c : Addr) (k : Str) (b h : Int) (cs : List Int) (row : Int) (t : Bool), vs = [.ref p, .int row, .bl t] ∧ H p = some (prO K dx k b h c) ∧ H c = some (ctO cs) ∧ PrOk k b h cs ∧
  ∀ H', Keep [p, c] H H' → H' p = some (prO K dx k b (lhV k b h t) c) → H' c = some (ctO (lcV k h cs row t)) → Q .non H'
theorem set_map_int {cs : List Int} {n : Nat} {x : Int} : (cs.map V.int).set n (.int x) = (cs.set n x).map V.int := by rw [List.map_set]
theorem sc_Predictor_learn : FnScope ["self", "row", "taken", "place"] ["self", "row", "taken"] (defScope (inClass (topS 1) 3)) := ⟨rfl, rfl, rfl, by decide +kernel, rfl, by decide +kernel, by decide +kernel⟩
theorem mt_Predictor_learn (T : Txt fa fn K mg) : Mt P w K mg base CX0 2 "Predictor" "learn" ["self", "row", "taken"] (sp_Predictor_learn K) := by
  refine mk_mt (d := mOf "Predictor" "learn" "Predictor.learn" (inClass (topS 1) 3)) T 11 rfl rfl rfl rfl sc_Predictor_learn (by walk_at "len") (fun _ _ _ _ _ _ us hl => match us, hl with | [_, _, _], _ => rfl) (fun cdv A outer s H vs Q E hr h => ⟨_, (pss_cons (ps_if (pt_cmpR (op_eqU (K := K) rfl hr.units) (pe_fldU (K := K) rfl (pv 0) rfl) pe_str (nomark _)) (pss_one ps_retN) pss_nil)
      (pss_cons (ps_set (i := 3) sc_Predictor_learn.nd rfl (.inl rfl) (pe_methD (K := K) rfl (mt_Predictor_place_of T) (cl_Predictor T) (T.meth 11 rfl) (hr.mono (by decide)) pass0 (pv 0) (pa_cons (pv 1) pa_nil)))
      (pss_cons (ps_join (ps_if (pt_tru (K := K) rfl (pv 2)) (pss_one (ps_asg (pe_callB (c_min2 rfl) rfl (T.free 22 rfl) (by decide +kernel) (pa_cons pe_int (pa_cons (pe_op (op_addU (K := K) rfl) (pe_ixU (K := K) rfl (hu_of hr) (pe_fldU (K := K) rfl (pv 0) rfl) (pv 3)) pe_int) pa_nil))) (pg_sub (pe_fldU (K := K) rfl (pv 0) rfl) (pv 3) (set_U (hu_of hr))))) (pss_one (ps_asg (pe_callB (c_max2 rfl) rfl (T.free 21 rfl) (by decide +kernel) (pa_cons pe_int (pa_cons (pe_op op_sub (pe_ixU (K := K) rfl (hu_of hr) (pe_fldU (K := K) rfl (pv 0) rfl) (pv 3)) pe_int) pa_nil))) (pg_sub (pe_fldU (K := K) rfl (pv 0) rfl) (pv 3) (set_U (hu_of hr)))))))
      (pss_one (ps_if (pt_cmpR (op_eqU (K := K) rfl hr.units) (pe_fldU (K := K) rfl (pv 0) rfl) pe_str (nomark _)) (pss_one (ps_fldU (K := K) rfl (pv 0) (pe_op o_mod (pe_op (op_addU (K := K) rfl) (pe_op op_mulU pe_int (pe_fldU (K := K) rfl (pv 0) rfl)) (pe_callTy c_int rfl (T.free 19 rfl) (by decide +kernel) (pa_cons (pv 2) pa_nil))) (pe_op o_shl pe_int (pe_fldU (K := K) rfl (pv 0) rfl))) rfl)) pss_nil))))), ?_⟩)
  obtain ⟨p, dx, c, k, b, h, cs, row, t, rfl, hp, hc, ok, hQ⟩ := h
  walk_at "go"
  refine g_if (fun h1 => ?_) (fun h1 => ?_)
  · walk_at "go"
    refine hQ H Keep.refl ?_ ?_
    · unfold lhV
      rw [if_neg (fun e => ht_ne (e.symm.trans h1))]
      exact hp
    · unfold lcV
      rw [if_pos h1]
      exact hc
  walk_at "go"
  obtain ⟨h0, h2, h3⟩ := ok.pl (row := row) h1
  refine ⟨p, dx, c, k, b, h, cs, row, rfl, hp, hc, h0, ?_⟩
  walk_at "go"
  have M : Has H [(p, prO K dx k b h c), (c, ctO cs)] := ⟨by
    have ne : p ≠ c := ne_of hp hc (by intro z; cases z)
    simp [ne], fun q hq => by
    rcases List.mem_cons.mp hq with e | hq
    · rw [e]; exact hp
    · rw [List.mem_singleton.mp hq]; exact hc⟩
  have hix := getD_at h2 h3
  have hl : (cs.map V.int).length = cs.length := List.length_map _
  refine ⟨fun σ H' => σ = [some (.ref p), some (.int row), some (.bl t), some (.int (plV k h cs.length row))] ∧ Keep [p, c] H H' ∧ Has H' [(p, prO K dx k b h c), (c, ctO (lcV k h cs row t))], ?_, ?_⟩
  · walk_at "go"
    have fin : ∀ x, x = upV t (cs.getD (plV k h cs.length row).toNat 0) → Has (upd H c (.lst ((cs.map V.int).set (plV k h cs.length row).toNat (.int x)))) [(p, prO K dx k b h c), (c, ctO (lcV k h cs row t))] := fun x e => by
      have z : ctO (lcV k h cs row t) = .lst ((cs.map V.int).set (plV k h cs.length row).toNat (.int x)) := by
        unfold ctO lcV
        rw [if_neg h1, set_map_int, e]
      rw [z]
      exact M.set 1 rfl
    cases t with
    | true =>
      walk_at "go"
      refine g_ixL (SqL.of hc) (n := (plV k h cs.length row).toNat) (by omega) hix ?_
      walk_at "go"
      refine g_setU M 1 rfl (m := (plV k h cs.length row).toNat) (by omega) (by omega) (fun _ => ?_)
      walk_at "go"
      refine ⟨rfl, Keep.set (by simp), fin _ ?_⟩
      unfold upV
      simp only [if_true]
      omega
    | false =>
      walk_at "go"
      refine g_ixL (SqL.of hc) (n := (plV k h cs.length row).toNat) (by omega) hix ?_
      walk_at "go"
      refine g_setU M 1 rfl (m := (plV k h cs.length row).toNat) (by omega) (by omega) (fun _ => ?_)
      walk_at "go"
      refine ⟨rfl, Keep.set (by simp), fin _ ?_⟩
      unfold upV
      simp only [Bool.false_eq_true, if_false]
      omega
  rintro σ H1 ⟨rfl, k1, M1⟩
  walk_at "go"
  have hp1 := M1.get 0 rfl
  refine g_if (fun h4 => ?_) (fun h4 => ?_)
  · walk_at "go"
    rcases ok.kind with e | ⟨e, _⟩ | ⟨e, b0, b1, b2, b3, b4⟩
    · exact (h1 e).elim
    · exact (t2_ne (e.symm.trans h4)).elim
    have hpw : (0 : Int) < 1 * 2 ^ b.toNat := by
      have := Nat.two_pow_pos b.toNat
      rw [pw_int]
      omega
    refine g_shl (by omega) (by omega) (by decide) ?_
    refine g_mod hpw ?_
    walk_at "go"
    refine g_setF M1 0 rfl (cl_Predictor T) (na_Predictor__history T) (by show 4 < 1000; decide) (pt_ix 2 nd_Predictor rfl) (fun M2 => ?_)
    walk_at "go"
    have e : lhV k b h t = (2 * h + if t then 1 else 0) % (1 * 2 ^ b.toNat) := by
      unfold lhV
      rw [if_pos h4, Int.one_mul]
    refine hQ _ (k1.trans (Keep.set (by simp))) ?_ (M2.get 1 rfl)
    rw [e]
    exact M2.get 0 rfl
  · walk_at "go"
    refine hQ _ k1 ?_ (M1.get 1 rfl)
    have e : lhV k b h t = h := by
      unfold lhV
      rw [if_neg h4]
    rw [e]
    exact hp1
/-- what a predictor's settings are -/
inductive PSet_ : Str → Int → List V → Prop
  | taken : PSet_ "taken" 0 [.str "taken"]
  | two (n : Int) (h : 0 < n) (h2 : n ≤ 100000) : PSet_ "two" n [.str "two", .int n]
  | hist (n : Int) (h : 0 ≤ n) (h2 : n ≤ 16) : PSet_ "history" n [.str "history", .int n]
def b0V (k : Str) (n : Int) : Int := if k = "history" then n else 0
def c0V (k : Str) (n : Int) : List Int := if k = "two" then List.replicate n.toNat 1 else if k = "history" then List.replicate (2 ^ n.toNat) 1 else []
def sp_Predictor___init__ (K : PySem.W.Frag) : Sp := fun vs H Q _ => ∃ (p dx s : Addr) (k : Str) (n : Int) (xs : List V), vs = [.ref p, .ref s] ∧ H p = some (.ins (He.ga K "Predictor") dx []) ∧ H s = some (.tup xs) ∧ PSet_ k n xs ∧
  ∀ H' c, Keep [p] H H' → H c = none → H' p = some (prO K dx k (b0V k n) 0 c) → H' c = some (ctO (c0V k n)) → Q .non H'
theorem pr_start {k : Str} {n : Int} {xs : List V} (h : PSet_ k n xs) : PrOk k (b0V k n) 0 (c0V k n) := by
  cases h with
  | taken => exact ⟨.inl rfl⟩
  | two n h h2 =>
    refine ⟨.inr (.inl ⟨rfl, ?_⟩)⟩
    unfold c0V
    rw [if_pos rfl, List.length_replicate]
    omega
  | hist n h h2 =>
    refine ⟨.inr (.inr ⟨rfl, ?_⟩)⟩
    unfold b0V c0V
    rw [if_pos rfl, if_neg h2_ne, if_pos rfl, List.length_replicate]
    refine ⟨h, by omega, rfl, Int.le_refl _, ?_⟩
    rw [pw_int]
    have := Nat.two_pow_pos n.toNat
    omega

theorem new_ne {H : Hp} {p q : Addr} {o : HO} (hp : H p = some o) (hq : H q = none) : q ∉ [p] := fun z => by
  rw [List.mem_singleton] at z
  subst z
  rw [hp] at hq
  cases hq
theorem sc_Predictor___init__ : FnScope ["self", "settings"] ["self", "settings"] (defScope (inClass (topS 1) 0)) := ⟨rfl, rfl, rfl, by decide +kernel, rfl, by decide +kernel, by decide +kernel⟩
theorem mt_Predictor___init__ (T : Txt fa fn K mg) : Mt P w K mg base CX0 1 "Predictor" "__init__" ["self", "settings"] (sp_Predictor___init__ K) := by
  refine mk_mt (d := mOf "Predictor" "__init__" "Predictor.__init__" (inClass (topS 1) 0)) T 8 rfl rfl rfl rfl sc_Predictor___init__ (by walk_at "len") (fun _ _ _ _ _ _ us hl => match us, hl with | [_, _], _ => rfl) (fun cdv A outer s H vs Q E hr h => ⟨_, (pss_cons (ps_fldU (K := K) rfl (pv 0) (pe_ixU (K := K) rfl (hu_of hr) (pv 1) pe_int) rfl)
      (pss_cons (ps_fldU (K := K) rfl (pv 0) pe_int rfl)
      (pss_cons (ps_fldU (K := K) rfl (pv 0) pe_int rfl)
      (pss_cons (ps_fldU (K := K) rfl (pv 0) (pe_lst pa_nil) rfl)
      (pss_one (ps_if (pt_cmpR (op_eqU (K := K) rfl hr.units) (pe_fldU (K := K) rfl (pv 0) rfl) pe_str (nomark _)) (pss_one (ps_fldU (K := K) rfl (pv 0) (pe_op op_mulU (pe_lst (pa_cons pe_int pa_nil)) (pe_ixU (K := K) rfl (hu_of hr) (pv 1) pe_int)) rfl)) (pss_one (ps_if (pt_cmpR (op_eqU (K := K) rfl hr.units) (pe_fldU (K := K) rfl (pv 0) rfl) pe_str (nomark _)) (pss_cons (ps_fldU (K := K) rfl (pv 0) (pe_ixU (K := K) rfl (hu_of hr) (pv 1) pe_int) rfl)
      (pss_one (ps_fldU (K := K) rfl (pv 0) (pe_op op_mulU (pe_lst (pa_cons pe_int pa_nil)) (pe_op o_shl pe_int (pe_fldU (K := K) rfl (pv 0) rfl))) rfl))) pss_nil)))))))), ?_⟩)
  obtain ⟨p, dx, s, k, n, xs, rfl, hp, hs, hset, hQ⟩ := h
  have nsp : p ≠ s := ne_of hp hs (by intro z; cases z)
  have M0 : Has H [(p, .ins (He.ga K "Predictor") dx []), (s, .tup xs)] := ⟨by simp [nsp], fun q hq => by
    rcases List.mem_cons.mp hq with e | hq
    · rw [e]; exact hp
    · rw [List.mem_singleton.mp hq]; exact hs⟩
  have k0 : Keep [p] H H := Keep.refl
  have mp : p ∈ [p] := List.mem_singleton.mpr rfl
  obtain ⟨tl, rfl⟩ : ∃ tl, xs = .str k :: tl := by cases hset <;> exact ⟨_, rfl⟩
  walk_at "go"
  refine g_ixT (SqT.of hs) (n := 0) rfl rfl ?_
  walk_at "go"
  refine g_setF M0 0 rfl (cl_Predictor T) (na_Predictor__kind T) (by decide) (pt_new nf_Predictor__kind) (fun M1 => ?_)
  have k1 := k0.trans (Keep.set (o := .ins (He.ga K "Predictor") dx [("_kind", .str k)]) mp)
  walk_at "go"
  refine g_setF M1 0 rfl (cl_Predictor T) (na_Predictor__bits T) (by show 1 < 1000; decide) (pt_new nf_Predictor__bits) (fun M2 => ?_)
  have k2 := k1.trans (Keep.set (o := .ins (He.ga K "Predictor") dx [("_kind", .str k), ("_bits", .int 0)]) mp)
  walk_at "go"
  refine g_setF M2 0 rfl (cl_Predictor T) (na_Predictor__history T) (by show 2 < 1000; decide) (pt_new nf_Predictor__history) (fun M3 => ?_)
  have k3 := k2.trans (Keep.set (o := .ins (He.ga K "Predictor") dx [("_kind", .str k), ("_bits", .int 0), ("_history", .int 0)]) mp)
  walk_at "go"
  refine ⟨by decide, fun q hq => ?_⟩
  have M4 := M3.new (o := .lst []) hq
  have k4 := k3.trans (Keep.new (o := .lst []) hq)
  have hHq : H q = none := k3.back hq (new_ne (M3.get 0 rfl) hq)
  walk_at "go"
  refine g_setF M4 0 rfl (cl_Predictor T) (na_Predictor__counters T) (by show 3 < 1000; decide) (pt_new nf_Predictor__counters) (fun M5 => ?_)
  have k5 := k4.trans (Keep.set (o := prO K dx k 0 0 q) mp)
  have hs5 := M5.get 1 rfl
  walk_at "go"
  cases hset with
  | taken =>
    refine g_if (fun e => (tt_ne e).elim) (fun _ => ?_)
    walk_at "go"
    refine g_if (fun e => (th_ne e).elim) (fun _ => ?_)
    walk_at "go"
    refine hQ _ q k5 hHq ?_ ?_
    · unfold b0V
      rw [if_neg th_ne]
      exact M5.get 0 rfl
    · unfold c0V
      rw [if_neg tt_ne, if_neg th_ne]
      exact M5.get 2 rfl
  | two _ h h2 =>
    refine g_if (fun _ => ?_) (fun e => (e rfl).elim)
    walk_at "go"
    refine ⟨by show 1 ≤ sizeLine; decide, fun u hu => ?_⟩
    have M6 := M5.new (o := .lst [.int 1]) hu
    have k6 := k5.trans (Keep.new (o := .lst [.int 1]) hu)
    walk_at "go"
    refine g_ixT (SqT.of (M6.get 1 rfl)) (n := 1) rfl rfl ?_
    refine g_repI (M6.get 3 rfl) (by omega) (by omega) (fun c hc => ?_)
    have M7 := M6.new (o := ctO (List.replicate n.toNat 1)) hc
    have k7 := k6.trans (Keep.new (o := ctO (List.replicate n.toNat 1)) hc)
    have hHc : H c = none := k6.back hc (new_ne (M6.get 0 rfl) hc)
    walk_at "go"
    refine g_setF M7 0 rfl (cl_Predictor T) (na_Predictor__counters T) (by show 4 < 1000; decide) (pt_ix 3 nd_Predictor rfl) (fun M8 => ?_)
    have k8 := k7.trans (Keep.set (o := prO K dx "two" 0 0 c) mp)
    walk_at "go"
    refine hQ _ c k8 hHc ?_ ?_
    · unfold b0V
      rw [if_neg t2_ne]
      exact M8.get 0 rfl
    · unfold c0V
      rw [if_pos rfl]
      exact M8.get 4 rfl
  | hist _ h h2 =>
    refine g_if (fun e => (h2_ne e).elim) (fun _ => ?_)
    walk_at "go"
    refine g_if (fun _ => ?_) (fun e => (e rfl).elim)
    walk_at "go"
    refine g_ixT (SqT.of hs5) (n := 1) rfl rfl ?_
    walk_at "go"
    refine g_setF M5 0 rfl (cl_Predictor T) (na_Predictor__bits T) (by show 4 < 1000; decide) (pt_ix 1 nd_Predictor rfl) (fun M6 => ?_)
    have k6 := k5.trans (Keep.set (o := prO K dx "history" n 0 q) mp)
    walk_at "go"
    refine ⟨by show 1 ≤ sizeLine; decide, fun u hu => ?_⟩
    have M7 := M6.new (o := .lst [.int 1]) hu
    have k7 := k6.trans (Keep.new (o := .lst [.int 1]) hu)
    walk_at "go"
    have hpw : (1 : Int) * 2 ^ n.toNat = ((2 ^ n.toNat : Nat) : Int) := by rw [pw_int, Int.one_mul]
    have hp16 : 2 ^ n.toNat ≤ 2 ^ 16 := Nat.pow_le_pow_right (by decide) (by omega)
    rw [hpw]
    have hpa : (-4611686018427387904 : Int) ≤ ((2 ^ n.toNat : Nat) : Int) := Int.le_trans (by decide) (Int.natCast_nonneg _)
    have hpb : ((2 ^ n.toNat : Nat) : Int) ≤ 100000 := Int.ofNat_le.mpr (Nat.le_trans hp16 (by decide))
    refine g_repI (M7.get 3 rfl) hpa hpb (fun c hc => ?_)
    rw [Int.toNat_natCast] at *
    have M8 := M7.new (o := ctO (List.replicate (2 ^ n.toNat) 1)) hc
    have k8 := k7.trans (Keep.new (o := ctO (List.replicate (2 ^ n.toNat) 1)) hc)
    have hHc : H c = none := k7.back hc (new_ne (M7.get 0 rfl) hc)
    walk_at "go"
    refine g_setF M8 0 rfl (cl_Predictor T) (na_Predictor__counters T) (by show 4 < 1000; decide) (pt_ix 3 nd_Predictor rfl) (fun M9 => ?_)
    have k9 := k8.trans (Keep.set (o := prO K dx "history" n 0 c) mp)
    walk_at "go"
    refine hQ _ c k9 hHc ?_ ?_
    · unfold b0V
      rw [if_pos rfl]
      exact M9.get 0 rfl
    · unfold c0V
      rw [if_neg h2_ne, if_pos rfl]
      exact M9.get 4 rfl

theorem use_init {H : Hp} {L : List (Addr × HO)} {x dx s : Addr} {k : Str} {n : Int} {xs : List V} {R : Hp → Prop} {E : XK} (M : Has H L) (hx : H x = none) (hd : H dx = none) (hs : H s = some (.tup xs)) (hset : PSet_ k n xs)
    (kk : ∀ H' c, Same H H' → Has H' (L ++ [(x, prO K dx k (b0V k n) 0 c)] ++ [(c, ctO (c0V k n))]) → R H') :
    sp_Predictor___init__ K (.ref x :: ([.ref s] ++ [])) (upd (upd H dx (.own x)) x (.ins (He.ga K "Predictor") dx [])) (fun v H2 => v = .non ∧ R H2) E := by
  refine ⟨x, dx, s, k, n, xs, rfl, upd_same, made_same hx hd _ _ hs, hset, fun H' c kp hc h1 h2 => ⟨rfl, ?_⟩⟩
  obtain ⟨c0, c1, c2⟩ := made_none hc
  have sm : Same H H' := fun b o e => kp b o (made_same hx hd _ _ e) (fun z => by
    rw [List.mem_singleton] at z
    subst z
    rw [hx] at e
    cases e)
  refine kk H' c sm (((M.keep sm).add h1 (M.fresh hx)).add h2 ?_)
  rw [List.map_append, List.mem_append, not_or]
  exact ⟨M.fresh c0, by simpa using c1⟩
theorem use_learn {H : Hp} {L : List (Addr × HO)} {p dx c : Addr} {k : Str} {b h : Int} {cs : List Int} {row : Int} {t : Bool} {Q : VK} {E : XK} (M : Has H L) (i j : Nat) (hi : L[i]? = some (p, prO K dx k b h c)) (hj : L[j]? = some (c, ctO cs)) (hij : i ≠ j) (ok : PrOk k b h cs)
    (kk : ∀ H', Keep [p, c] H H' → Has H' ((L.set i (p, prO K dx k b (lhV k b h t) c)).set j (c, ctO (lcV k h cs row t))) → Q .non H') : sp_Predictor_learn K (.ref p :: ([.int row, .bl t] ++ [])) H Q E :=
  ⟨p, dx, c, k, b, h, cs, row, t, rfl, M.get i hi, M.get j hj, ok, fun H' kp h1 h2 => kk H' kp (M.call2 kp i j hi hj hij h1 h2)⟩
theorem lcV_len {k : Str} {h : Int} {cs : List Int} {row : Int} {t : Bool} : (lcV k h cs row t).length = cs.length := by
  unfold lcV
  split
  · rfl
  · rw [List.length_set]
theorem PrOk.learn {k : Str} {b h : Int} {cs : List Int} {row : Int} {t : Bool} (o : PrOk k b h cs) : PrOk k b (lhV k b h t) (lcV k h cs row t) := by
  rcases o.kind with e | ⟨e, h0⟩ | ⟨e, h0, h1, h2, h3, h4⟩
  · exact ⟨.inl e⟩
  · exact ⟨.inr (.inl ⟨e, by rw [lcV_len]; exact h0⟩)⟩
  · refine ⟨.inr (.inr ⟨e, h0, h1, by rw [lcV_len]; exact h2, ?_, ?_⟩)⟩
    · unfold lhV
      rw [if_pos e]
      exact Int.emod_nonneg _ (by rw [pw_int]; have := Nat.two_pow_pos b.toNat; omega)
    · unfold lhV
      rw [if_pos e]
      exact Int.emod_lt_of_pos _ (by rw [pw_int]; have := Nat.two_pow_pos b.toNat; omega)
/-- counters within their bounds -/
def EB (cs : List Int) : Prop := ∀ x ∈ cs, 0 ≤ x ∧ x ≤ 3
theorem up_b {t : Bool} {c : Int} (h : 0 ≤ c ∧ c ≤ 3) : 0 ≤ upV t c ∧ upV t c ≤ 3 := by
  unfold upV
  split <;> omega
theorem getD_b {cs : List Int} (h : EB cs) (n : Nat) : 0 ≤ cs.getD n 0 ∧ cs.getD n 0 ≤ 3 := by
  rw [List.getD_eq_getElem?_getD]
  cases e : cs[n]? with
  | none => simp
  | some x => exact h x (List.mem_of_getElem? e)
theorem set_b {cs : List Int} (h : EB cs) (n : Nat) (t : Bool) : EB (cs.set n (upV t (cs.getD n 0))) := fun x hx => by
  rcases List.mem_or_eq_of_mem_set hx with hx | hx
  · exact h x hx
  · rw [hx]
    exact up_b (getD_b h n)
theorem EB.learn {k : Str} {h : Int} {cs : List Int} {row : Int} {t : Bool} (e : EB cs) : EB (lcV k h cs row t) := by
  unfold lcV
  split
  · exact e
  · exact set_b e _ t
theorem EB.start {k : Str} {n : Int} : EB (c0V k n) := fun x hx => by
  unfold c0V at hx
  split at hx
  · rw [List.eq_of_mem_replicate hx]; decide
  · split at hx
    · rw [List.eq_of_mem_replicate hx]; decide
    · cases hx

/-! ### the log's own reckoning -/
abbrev Log := List (Int × Bool)
def lg (log : Log) (i : Nat) : Int × Bool := log.getD i (0, false)
def pastN (log : Log) (e : Nat) : Nat → Nat
  | 0 => 0
  | b + 1 => pastN log e b + if b + 1 ≤ e ∧ (lg log (e - 1 - b)).2 = true then 2 ^ b else 0
theorem pastN_lt (log : Log) (e : Nat) : ∀ b, pastN log e b < 2 ^ b
  | 0 => by simp [pastN]
  | b + 1 => by
    have := pastN_lt log e b
    rw [pastN, Nat.pow_succ]
    split <;> omega
theorem lg_app {log : Log} {x : Int × Bool} {i : Nat} (h : i < log.length) : lg (log ++ [x]) i = lg log i := by
  unfold lg
  rw [List.getD_eq_getElem?_getD, List.getD_eq_getElem?_getD, List.getElem?_append_left h]
theorem lg_new {log : Log} {x : Int × Bool} : lg (log ++ [x]) log.length = x := by
  unfold lg
  rw [List.getD_eq_getElem?_getD, List.getElem?_append_right (Nat.le_refl _), Nat.sub_self]
  rfl
theorem pastN_app {log : Log} {x : Int × Bool} {e : Nat} (he : e ≤ log.length) : ∀ b, pastN (log ++ [x]) e b = pastN log e b
  | 0 => rfl
  | b + 1 => by
    rw [pastN, pastN, pastN_app he b]
    by_cases h : b + 1 ≤ e
    · rw [lg_app (by omega)]
    · rw [if_neg (fun z => h z.1), if_neg (fun z => h z.1)]
def bt (b : Bool) : Nat := if b then 1 else 0
theorem pastN_shift (log : Log) (x : Int × Bool) : ∀ b, pastN (log ++ [x]) (log.length + 1) (b + 1) = bt x.2 + 2 * pastN log log.length b
  | 0 => by
    have e : log.length + 1 - 1 - 0 = log.length := by omega
    rw [pastN, pastN, pastN, e, lg_new]
    cases h : x.2 <;> simp [bt]
  | b + 1 => by
    rw [pastN, pastN_shift log x b, pastN]
    by_cases h : b + 1 ≤ log.length
    · have e : log.length + 1 - 1 - (b + 1) = log.length - 1 - b := by omega
      rw [e, lg_app (by omega)]
      by_cases h2 : (lg log (log.length - 1 - b)).2 = true
      · rw [if_pos ⟨by omega, h2⟩, if_pos ⟨h, h2⟩, Nat.pow_succ]
        omega
      · rw [if_neg (fun z => h2 z.2), if_neg (fun z => h2 z.2)]
        omega
    · rw [if_neg (fun z => h (by omega)), if_neg (fun z => h z.1)]
      omega
theorem pastN_next (log : Log) (x : Int × Bool) (b : Nat) : pastN (log ++ [x]) (log.length + 1) b = (2 * pastN log log.length b + bt x.2) % 2 ^ b := by
  cases b with
  | zero => simp [pastN, Nat.mod_one]
  | succ b =>
    rw [pastN_shift, pastN]
    have h1 := pastN_lt log log.length b
    have h2 : bt x.2 ≤ 1 := by cases x.2 <;> decide
    split
    · have e : 2 * (pastN log log.length b + 2 ^ b) + bt x.2 = (bt x.2 + 2 * pastN log log.length b) + 2 ^ (b + 1) := by
        rw [Nat.pow_succ]; omega
      rw [e, Nat.add_mod_right, Nat.mod_eq_of_lt]
      rw [Nat.pow_succ]; omega
    · rw [Nat.add_zero, Nat.add_comm, Nat.mod_eq_of_lt]
      rw [Nat.pow_succ]; omega
def plN (k : Str) (n : Int) (log : Log) (e : Nat) (row : Int) : Int := if k = "two" then row % n else Builtin.bitXor (row % 2 ^ n.toNat) ((pastN log e n.toNat : Nat) : Int)
theorem plN_app {k : Str} {n : Int} {log : Log} {x : Int × Bool} {e : Nat} {row : Int} (he : e ≤ log.length) : plN k n (log ++ [x]) e row = plN k n log e row := by
  unfold plN
  rw [pastN_app he]
def cntN (k : Str) (n : Int) (log : Log) (j : Int) : Nat → Int
  | 0 => 1
  | m + 1 => if plN k n log m (lg log m).1 = j then upV (lg log m).2 (cntN k n log j m) else cntN k n log j m
theorem cntN_app {k : Str} {n : Int} {log : Log} {x : Int × Bool} {j : Int} : ∀ {m : Nat}, m ≤ log.length → cntN k n (log ++ [x]) j m = cntN k n log j m
  | 0, _ => rfl
  | m + 1, h => by
    rw [cntN, cntN, cntN_app (by omega), plN_app (by omega), lg_app (by omega)]
def guessN (k : Str) (n : Int) (log : Log) (row : Int) : Bool := if k = "taken" then true else decide (1 < cntN k n log (plN k n log log.length row) log.length)
/-- the predictor's state is what the log says -/
structure Lgd (k : Str) (n : Int) (log : Log) (b h : Int) (cs : List Int) : Prop where
  ok : PrOk k b h cs
  two : k = "two" → (cs.length : Int) = n
  his : k = "history" → 0 ≤ n ∧ b = n ∧ h = ((pastN log log.length n.toNat : Nat) : Int)
  cnt : ¬ k = "taken" → ∀ j : Nat, j < cs.length → cs.getD j 0 = cntN k n log (j : Int) log.length
theorem Lgd.pl {k : Str} {n : Int} {log : Log} {b h : Int} {cs : List Int} (L : Lgd k n log b h cs) (nt : ¬ k = "taken") (row : Int) : plV k h cs.length row = plN k n log log.length row := by
  unfold plV plN
  rcases L.ok.kind with e | ⟨e, _⟩ | ⟨e, _, _, z, _⟩
  · exact (nt e).elim
  · rw [if_neg (by rw [e]; exact t2_ne), if_pos e, L.two e]
  · obtain ⟨_, e2, e3⟩ := L.his e
    rw [if_pos e, if_neg (by rw [e]; exact h2_ne), e3, z, e2, pw_int]
theorem Lgd.guess {k : Str} {n : Int} {log : Log} {b h : Int} {cs : List Int} (L : Lgd k n log b h cs) (row : Int) : gsV k h cs row = guessN k n log row := by
  unfold gsV guessN
  by_cases nt : k = "taken"
  · rw [if_pos nt, if_pos nt]
  · rw [if_neg nt, if_neg nt]
    obtain ⟨h0, h1, h2⟩ := L.ok.pl (row := row) nt
    rw [L.cnt nt _ (by omega), Int.toNat_of_nonneg h1, L.pl nt]
    apply decide_eq_decide.mpr
    omega
theorem Lgd.learn {k : Str} {n : Int} {log : Log} {b h : Int} {cs : List Int} (L : Lgd k n log b h cs) (row : Int) (t : Bool) : Lgd k n (log ++ [(row, t)]) b (lhV k b h t) (lcV k h cs row t) := by
  refine ⟨L.ok.learn, fun e => by rw [lcV_len]; exact L.two e, fun e => ?_, fun nt j hj => ?_⟩
  · obtain ⟨e1, e2, e3⟩ := L.his e
    refine ⟨e1, e2, ?_⟩
    rw [List.length_append]
    show lhV k b h t = ((pastN (log ++ [(row, t)]) (log.length + 1) n.toNat : Nat) : Int)
    rw [pastN_next]
    unfold lhV
    rw [if_pos e, e3, e2, pw_int]
    cases t <;> simp [bt]
  · rw [lcV_len] at hj
    obtain ⟨h0, h1, h2⟩ := L.ok.pl (row := row) nt
    rw [List.length_append]
    show (lcV k h cs row t).getD j 0 = cntN k n (log ++ [(row, t)]) (j : Int) (log.length + 1)
    rw [cntN, lg_new, cntN_app (Nat.le_refl _), plN_app (Nat.le_refl _), ← L.pl nt]
    show (lcV k h cs row t).getD j 0 = if plV k h cs.length row = (j : Int) then upV t (cntN k n log (j : Int) log.length) else cntN k n log (j : Int) log.length
    unfold lcV
    rw [if_neg nt]
    by_cases e : (plV k h cs.length row).toNat = j
    · rw [if_pos (by omega), e, List.getD_eq_getElem?_getD, List.getElem?_set_self hj, ← L.cnt nt j hj]
      rfl
    · rw [if_neg (by omega), List.getD_eq_getElem?_getD, List.getElem?_set_ne e, ← List.getD_eq_getElem?_getD]
      exact L.cnt nt j hj
theorem Lgd.start {k : Str} {n : Int} {xs : List V} (h : PSet_ k n xs) : Lgd k n [] (b0V k n) 0 (c0V k n) := by
  refine ⟨pr_start h, fun e => ?_, fun e => ?_, fun nt j hj => ?_⟩
  · cases h with
    | taken => exact (tt_ne e).elim
    | two n h h2 =>
      unfold c0V
      rw [if_pos rfl, List.length_replicate]
      omega
    | hist n h h2 => exact (h2_ne e).elim
  · cases h with
    | taken => exact (th_ne e).elim
    | two n h h2 => exact (t2_ne e).elim
    | hist n h h2 =>
      refine ⟨h, by unfold b0V; rw [if_pos rfl], ?_⟩
      have z : ∀ b, pastN [] 0 b = 0 := fun b => by
        induction b with
        | zero => rfl
        | succ b ih => rw [pastN, ih, if_neg (fun z => by omega)]
      show (0 : Int) = ((pastN [] 0 n.toNat : Nat) : Int)
      rw [z]
      rfl
  · show _ = (1 : Int)
    have : ∀ x ∈ c0V k n, x = 1 := fun x hx => by
      unfold c0V at hx
      split at hx
      · exact List.eq_of_mem_replicate hx
      · split at hx
        · exact List.eq_of_mem_replicate hx
        · cases hx
    rw [List.getD_eq_getElem?_getD, List.getElem?_eq_getElem hj]
    exact this _ (List.getElem_mem hj)

def sp_law_draws (K : PySem.W.Frag) : Sp := fun vs H Q _ => ∃ (a : Addr) (ns : List Int), vs = [.ref a] ∧ SqL K H a (ns.map V.int) ∧ ns.length ≤ 63 ∧
  ∀ H' p (row : List Int), Same H H' → H p = none → H' p = some (.lst (row.map V.int)) → (∀ x ∈ row, 0 ≤ x ∧ x < 1000) → row.length ≤ 1260 → Q (.ref p) H'
structure DrI (H : Hp) (a p : Addr) (b : Nat) (cell : Option V → Prop) (σ : L2.St) (H' : Hp) : Prop where
  ex : ∃ (row : List Int) (k c t m : Option V), σ = [some (.ref a), some (.ref p), k, c, t, m] ∧ cell c ∧ Same H H' ∧ Has H' [(p, .lst (row.map V.int))] ∧ (∀ x ∈ row, 0 ≤ x ∧ x < 1000) ∧ row.length ≤ b
theorem app_map {row : List Int} {x : Int} : row.map V.int ++ [V.int x] = (row ++ [x]).map V.int := by simp
theorem sc_law_draws : FnScope ["script", "draws", "k", "cell", "turn", "mixed"] ["script"] (defScope (topS 3)) := ⟨rfl, rfl, rfl, by decide +kernel, rfl, by decide +kernel, by decide +kernel⟩
theorem ok_law_draws (T : Txt fa fn K mg) : Dn P w K mg base CX0 1 "_law_draws" ["script"] (sp_law_draws K) := by
  refine mk_dn (d := dOf "_law_draws" 3) T 0 0 rfl rfl rfl rfl rfl sc_law_draws (by walk_at "len") (fun _ _ _ _ _ _ us hl => match us, hl with | [_], _ => rfl) (fun cdv A outer s H vs Q E hr h => ⟨_, (pss_cons (ps_set (i := 1) sc_law_draws.nd rfl (.inl rfl) (pe_lst pa_nil))
      (pss_cons (ps_for PassesOwn.never rfl (pi_r1 rfl (T.free 23 rfl) (pa_cons (pe_callB (c_min2 rfl) rfl (T.free 22 rfl) (by decide +kernel) (pa_cons (pe_callB (c_len (K := K) rfl) rfl (T.free 20 rfl) (by decide +kernel) (pa_cons (pv 0) pa_nil)) (pa_cons pe_int pa_nil))) pa_nil)) (pg_name (i := 2) sc_law_draws.nd rfl (.inl rfl)) (pss_cons (ps_set (i := 3) sc_law_draws.nd rfl (.inl rfl) (pe_callB c_abs rfl (T.free 18 rfl) (by decide +kernel) (pa_cons (pe_ixU (K := K) rfl (hu_of hr) (pv 0) (pv 2)) pa_nil)))
      (pss_one (ps_if (pt_cmpR o_ge (pv 3) (pe_op o_pow pe_int pe_int) (nomark _)) (pss_one (ps_for PassesOwn.never rfl (pi_r1 rfl (T.free 23 rfl) (pa_cons pe_int pa_nil)) (pg_name (i := 4) sc_law_draws.nd rfl (.inl rfl)) (pss_one (ps_if (pt_cmpR o_gt (pv 3) pe_int (nomark _)) (pss_cons (ps_expr (pe_bm PySem.F.plainAttrs_list PySem.F.slot_list_append PySem.F.type_list_append mt_append (pv 1) (pa_cons (pe_op o_mod (pv 3) pe_int) pa_nil)))
      (pss_one (ps_set (i := 3) sc_law_draws.nd rfl (.inl rfl) (pe_op o_fdiv (pv 3) pe_int)))) pss_nil)))) (pss_cons (ps_set (i := 5) sc_law_draws.nd rfl (.inl rfl) (pe_op o_mod (pe_callTy c_int rfl (T.free 19 rfl) (by decide +kernel) (pa_cons (pe_op (op_addU (K := K) rfl) (pe_op (op_addU (K := K) rfl) (pe_op op_mulU (pe_ixU (K := K) rfl (hu_of hr) (pv 0) (pv 2)) pe_int) (pe_op op_mulU (pv 2) pe_int)) pe_int) pa_nil)) pe_int))
      (pss_one (ps_for PassesOwn.never rfl (pi_r1 rfl (T.free 23 rfl) (pa_cons pe_int pa_nil)) (pg_name (i := 4) sc_law_draws.nd rfl (.inl rfl)) (pss_cons (ps_set (i := 5) sc_law_draws.nd rfl (.inl rfl) (pe_op o_mod (pe_callTy c_int rfl (T.free 19 rfl) (by decide +kernel) (pa_cons (pe_op (op_addU (K := K) rfl) (pe_op (op_addU (K := K) rfl) (pe_op op_mulU (pv 5) (pv 5)) (pe_op op_mulU (pv 4) pe_int)) pe_int) pa_nil)) pe_int))
      (pss_one (ps_expr (pe_bm PySem.F.plainAttrs_list PySem.F.slot_list_append PySem.F.type_list_append mt_append (pv 1) (pa_cons (pe_op o_mod (pv 5) pe_int) pa_nil))))))))))))
      (pss_one (ps_ret (pv 1))))), ?_⟩)
  obtain ⟨a, ns, rfl, hS, hlen, hQ⟩ := h
  walk_at "go"
  refine ⟨by decide, fun p hp => ?_⟩
  walk_at "go"
  have hS1 : SqL K (upd H p (.lst [])) a (ns.map V.int) := (Same.new hp).seq hS
  refine g_lenL hS1 ?_
  walk_at "go"
  have hn : (ns.map V.int).length = ns.length := List.length_map _
  rw [hn]
  have hj : (if (63 : Int) < (ns.length : Int) then (63 : Int) else (ns.length : Int)).toNat = ns.length := by split <;> omega
  rw [hj]
  have M0 : Has (upd H p (.lst [])) [(p, .lst (([] : List Int).map V.int))] := Has.one upd_same
  refine f_range (fun i σ H' => ∃ (row : List Int) (k c t m : Option V), σ = [some (.ref a), some (.ref p), k, c, t, m] ∧ Same H H' ∧ Has H' [(p, .lst (row.map V.int))] ∧ (∀ x ∈ row, 0 ≤ x ∧ x < 1000) ∧ row.length ≤ 20 * i)
    ⟨[], _, _, _, _, rfl, Same.new hp, M0, (fun _ h => nomatch h), Nat.le_refl _⟩ ?_ ?_
  · rintro i σ H' hi ⟨row, k, c, t, m, rfl, hs, M, hr1, hr2⟩
    walk_at "go"
    have hS2 := hs.seq hS
    obtain ⟨z, hz⟩ : ∃ z, ns[i]? = some z := ⟨_, List.getElem?_eq_getElem hi⟩
    have hz' : (ns.map V.int)[i]? = some (V.int z) := by rw [List.getElem?_map, hz]; rfl
    refine g_ixL hS2 (n := i) (by omega) hz' ?_
    walk_at "go"
    have hb : 0 ≤ (if z < 0 then -z else z) := by split <;> omega
    generalize (if z < 0 then -z else z) = cell at hb
    refine g_if (fun hc => ?_) (fun hc => ?_)
    · walk_at "go"
      refine f_range (fun j σ H' => ∃ (row : List Int) (cell : Int) (k t m : Option V), σ = [some (.ref a), some (.ref p), k, some (.int cell), t, m] ∧ 0 ≤ cell ∧ Same H H' ∧ Has H' [(p, .lst (row.map V.int))] ∧ (∀ x ∈ row, 0 ≤ x ∧ x < 1000) ∧ row.length ≤ 20 * i + j)
        ⟨row, cell, _, _, _, rfl, hb, hs, M, hr1, by omega⟩ ?_ ?_
      · rintro j σ H2 hj ⟨row, cell, k, t, m, rfl, hb, hs, M, hr1, hr2⟩
        walk_at "go"
        refine g_if (fun h0 => ?_) (fun h0 => ?_)
        · walk_at "go"
          refine g_append M 0 rfl (szl (by rw [List.length_map]; have hj' : j < 20 := hj; omega)) (fun M1 => ?_)
          walk_at "go"
          refine ⟨row ++ [cell % 1000], cell / 1000, _, _, _, rfl, by omega, Same.mut hs hp, by rw [← app_map]; exact M1, ?_, by rw [List.length_append]; simp; omega⟩
          intro x hx
          rcases List.mem_append.mp hx with hx | hx
          · exact hr1 x hx
          · rw [List.mem_singleton.mp hx]
            omega
        · walk_at "go"
          exact ⟨row, cell, _, _, _, rfl, hb, hs, M, hr1, by omega⟩
      · rintro σ H2 ⟨row, cell, k, t, m, rfl, hb, hs, M, hr1, hr2⟩
        walk_at "go"
        exact ⟨row, _, _, _, _, rfl, hs, M, hr1, by have h20 : (20 : Int).toNat = 20 := rfl; omega⟩
    · walk_at "go"
      have hz2 := hs.seq hS
      refine g_ixL hz2 (n := i) (by omega) hz' ?_
      walk_at "go"
      refine f_range (fun j σ H' => ∃ (row : List Int) (mixed : Int) (k c t : Option V), σ = [some (.ref a), some (.ref p), k, c, t, some (.int mixed)] ∧ 0 ≤ mixed ∧ mixed < 2147483647 ∧ Same H H' ∧ Has H' [(p, .lst (row.map V.int))] ∧ (∀ x ∈ row, 0 ≤ x ∧ x < 1000) ∧ row.length ≤ 20 * i + j)
        ⟨row, _, _, _, _, rfl, Int.emod_nonneg _ (by decide), Int.emod_lt_of_pos _ (by decide), hs, M, hr1, by omega⟩ ?_ ?_
      · rintro j σ H2 hj ⟨row, mixed, k, c, t, rfl, hm0, hm1, hs, M, hr1, hr2⟩
        walk_at "go"
        have hj' : j < 3 := hj
        refine g_append M 0 rfl (szl (by rw [List.length_map]; omega)) (fun M1 => ?_)
        walk_at "go"
        refine ⟨row ++ [_], _, _, _, _, rfl, Int.emod_nonneg _ (by decide), Int.lt_of_lt_of_le (Int.emod_lt_of_pos _ (by decide)) (by decide), Same.mut hs hp, by rw [← app_map]; exact M1, ?_, by rw [List.length_append]; simp; omega⟩
        intro x hx
        rcases List.mem_append.mp hx with hx | hx
        · exact hr1 x hx
        · rw [List.mem_singleton.mp hx]
          exact ⟨Int.emod_nonneg _ (by decide), Int.emod_lt_of_pos _ (by decide)⟩
      · rintro σ H2 ⟨row, mixed, k, c, t, rfl, hm0, hm1, hs, M, hr1, hr2⟩
        walk_at "go"
        exact ⟨row, _, _, _, _, rfl, hs, M, hr1, by have h20 : (3 : Int).toNat = 3 := rfl; omega⟩
  · rintro σ H' ⟨row, k, c, t, m, rfl, hs, M, hr1, hr2⟩
    walk_at "go"
    exact hQ H' p row hs hp (M.get 0 rfl) hr1 (by omega)

def sp_law_reader (K : PySem.W.Frag) : Sp := fun vs H Q _ => ∃ (a : Addr) (ns : List Int), vs = [.ref a] ∧ SqL K H a (ns.map V.int) ∧ ns.length ≤ 63 ∧
  ∀ H' d r (row : List Int) (sd : Int), Same H H' → H d = none → H r = none → Has H' [(d, .dK (drK r 0 sd)), (r, .lst (row.map V.int))] → RowOk row sd → Q (.ref d) H'
theorem sc_law_reader : FnScope ["script", "row", "seed"] ["script"] (defScope (topS 4)) := ⟨rfl, rfl, rfl, by decide +kernel, rfl, by decide +kernel, by decide +kernel⟩
theorem ok_law_reader (T : Txt fa fn K mg) : Dn P w K mg base CX0 2 "_law_reader" ["script"] (sp_law_reader K) := by
  refine mk_dn (d := dOf "_law_reader" 4) T 1 1 rfl rfl rfl rfl rfl sc_law_reader (by walk_at "len") (fun _ _ _ _ _ _ us hl => match us, hl with | [_], _ => rfl) (fun cdv A outer s H vs Q E hr h => ⟨_, (pss_cons (ps_set (i := 1) sc_law_reader.nd rfl (.inl rfl) (pe_callD (K := K) rfl (ok_law_draws T) (hr.mono (by decide)) rfl pass0 (pa_cons (pv 0) pa_nil)))
      (pss_cons (ps_set (i := 2) sc_law_reader.nd rfl (.inl rfl) pe_int)
      (pss_cons (ps_if (pt_cmpR o_gt (pe_callB (c_len (K := K) rfl) rfl (T.free 20 rfl) (by decide +kernel) (pa_cons (pv 0) pa_nil)) pe_int (nomark _)) (pss_one (ps_set (i := 2) sc_law_reader.nd rfl (.inl rfl) (pe_op o_mod (pe_callB c_abs rfl (T.free 18 rfl) (by decide +kernel) (pa_cons (pe_ixU (K := K) rfl (hu_of hr) (pv 0) (pe_un un_neg pe_int)) pa_nil)) pe_int))) pss_nil)
      (pss_one (ps_ret (pe_disp (pps_cons pe_str (pv 1) (pps_cons pe_str pe_int (pps_cons pe_str (pv 2) pps_nil))) (by rfl) (by rfl) (fun z => by cases z) (by decide))))))), ?_⟩)
  obtain ⟨a, ns, rfl, hS, hlen, hQ⟩ := h
  walk_at "go"
  refine ⟨a, ns, rfl, hS, hlen, fun H1 p row s1 hp hr hr1 hr2 => ?_⟩
  walk_at "go"
  have hS1 := s1.seq hS
  refine g_lenL hS1 ?_
  walk_at "go"
  have fin : ∀ (sd : Int), 0 ≤ sd → sd < 1000003 → ∀ d, H1 d = none → upd H1 d (.dK []) d = some (.dK []) ∧ ∃ kvs : List (Key × V), [(V.str "row", V.ref p), (V.str "at", V.int 0), (V.str "seed", V.int sd)] = kvs.map (fun kv => (kV kv.1, kv.2)) ∧ kvs.length ≤ 15 ∧ Q (.ref d) (upd (upd H1 d (.dK [])) d (.dK (mergeK [] kvs))) := by
    intro sd h0 h1 d hd
    refine ⟨upd_same, [(.inr "row", .ref p), (.inr "at", .int 0), (.inr "seed", .int sd)], rfl, (by show 3 ≤ 15; decide), ?_⟩
    rw [dr_made, upd_upd]
    refine hQ _ d p row sd (Same.new' s1 hd) (s1.free hd) hp ?_ ⟨hr1, hr2, h0, h1⟩
    have M : Has (upd H1 d (.dK (drK p 0 sd))) ([(p, .lst (row.map V.int))] ++ [(d, .dK (drK p 0 sd))]) := (Has.one hr).new hd
    exact M.perm (List.perm_append_comm (l₁ := [_]) (l₂ := [_]))
  refine g_if (fun h0 => ?_) (fun h0 => ?_)
  · walk_at "go"
    have hn : (ns.map V.int).length = ns.length := List.length_map _
    rw [hn] at h0
    obtain ⟨z, hz⟩ : ∃ z, ns[ns.length - 1]? = some z := ⟨_, List.getElem?_eq_getElem (by omega)⟩
    have hz' : (ns.map V.int)[ns.length - 1]? = some (V.int z) := by rw [List.getElem?_map, hz]; rfl
    refine g_ixL' hS1 (v := .int z) ?_ ?_
    · show (ixN _ (-1)).bind _ = _
      unfold ixN
      rw [if_neg (by decide), if_pos (by omega), hn]
      have e : ((-1 : Int) + (ns.length : Int)).toNat = ns.length - 1 := by omega
      show (ns.map V.int)[((-1 : Int) + (ns.length : Int)).toNat]? = _
      rw [e]
      exact hz'
    · walk_at "go"
      intro d hd
      walk_at "go"
      exact fin _ (Int.emod_nonneg _ (by decide)) (Int.emod_lt_of_pos _ (by decide)) d hd
  · walk_at "go"
    intro d hd
    walk_at "go"
    exact fin _ (by decide) (by decide) d hd
def sp_law_next (K : PySem.W.Frag) : Sp := fun vs H Q _ => ∃ (d r : Addr) (n sd m : Int) (row : List Int), vs = [.ref d, .int m] ∧ H d = some (.dK (drK r n sd)) ∧ H r = some (.lst (row.map V.int)) ∧ RowOk row sd ∧ 0 ≤ n ∧ 0 < m ∧
  ∀ H' v, Keep [d] H H' → H' d = some (.dK (drK r (n + 1) sd)) → 0 ≤ v → v < m → Q (.int v) H'
theorem sc_law_next : FnScope ["draws", "many", "at", "mixed"] ["draws", "many"] (defScope (topS 5)) := ⟨rfl, rfl, rfl, by decide +kernel, rfl, by decide +kernel, by decide +kernel⟩
theorem ok_law_next (T : Txt fa fn K mg) : Dn P w K mg base CX0 1 "_law_next" ["draws", "many"] (sp_law_next K) := by
  refine mk_dn (d := dOf "_law_next" 5) T 2 2 rfl rfl rfl rfl rfl sc_law_next (by walk_at "len") (fun _ _ _ _ _ _ us hl => match us, hl with | [_, _], _ => rfl) (fun cdv A outer s H vs Q E hr h => ⟨_, (pss_cons (ps_set (i := 2) sc_law_next.nd rfl (.inl rfl) (pe_ixU (K := K) rfl (hu_of hr) (pv 0) pe_str))
      (pss_cons (ps_dput (hu_of hr) (pv 0) pe_str (pe_op (op_addU (K := K) rfl) (pv 2) pe_int) rfl)
      (pss_cons (ps_if (pt_cmpR o_lt (pv 2) (pe_callB (c_len (K := K) rfl) rfl (T.free 20 rfl) (by decide +kernel) (pa_cons (pe_ixU (K := K) rfl (hu_of hr) (pv 0) pe_str) pa_nil)) (nomark _)) (pss_one (ps_ret (pe_op o_mod (pe_callTy c_int rfl (T.free 19 rfl) (by decide +kernel) (pa_cons (pe_ixU (K := K) rfl (hu_of hr) (pe_ixU (K := K) rfl (hu_of hr) (pv 0) pe_str) (pv 2)) pa_nil)) (pv 1)))) pss_nil)
      (pss_cons (ps_set (i := 3) sc_law_next.nd rfl (.inl rfl) (pe_op o_mod (pe_callTy c_int rfl (T.free 19 rfl) (by decide +kernel) (pa_cons (pe_op op_mulU (pe_op (op_addU (K := K) rfl) (pe_op (op_addU (K := K) rfl) (pe_ixU (K := K) rfl (hu_of hr) (pv 0) pe_str) (pe_op op_mulU pe_int (pv 2))) pe_int) pe_int) pa_nil)) pe_int))
      (pss_one (ps_ret (pe_op o_mod (pe_op o_fdiv (pe_op o_mod (pe_callTy c_int rfl (T.free 19 rfl) (by decide +kernel) (pa_cons (pe_op (op_addU (K := K) rfl) (pe_op op_mulU (pv 3) (pv 3)) (pv 2)) pa_nil)) pe_int) pe_int) (pv 1)))))))), ?_⟩)
  obtain ⟨d, r, n, sd, m, row, rfl, hd, hr, ok, hn, hm, hQ⟩ := h
  walk_at "go"
  refine g_ixD (dg_at hd) ?_
  walk_at "go"
  refine ⟨d, _, rfl, dp_at (n + 1) hd, ?_⟩
  have ne : r ≠ d := ne_of hr hd (by intro z; cases z)
  have hd1 : upd H d (.dK (drK r (n + 1) sd)) d = some (.dK (drK r (n + 1) sd)) := upd_same
  have hr1 : upd H d (.dK (drK r (n + 1) sd)) r = some (.lst (row.map V.int)) := by rw [upd_ne ne]; exact hr
  have hk : Keep [d] H (upd H d (.dK (drK r (n + 1) sd))) := Keep.set (List.mem_singleton.mpr rfl)
  walk_at "go"
  refine g_ixD (dg_row hd1) ?_
  walk_at "go"
  refine g_if (fun h0 => ?_) (fun h0 => ?_)
  · walk_at "go"
    refine g_ixD (dg_row hd1) ?_
    walk_at "go"
    obtain ⟨z, hz⟩ : ∃ z, row[n.toNat]? = some z := ⟨_, List.getElem?_eq_getElem (by omega)⟩
    refine g_ixL (SqL.of hr1) (n := n.toNat) (by omega) (by rw [List.getElem?_map, hz]; rfl) ?_
    walk_at "go"
    exact hQ _ _ hk hd1 (Int.emod_nonneg _ (by omega)) (Int.emod_lt_of_pos _ hm)
  · walk_at "go"
    refine g_ixD (dg_seed hd1) ?_
    walk_at "go"
    exact hQ _ _ hk hd1 (Int.emod_nonneg _ (by omega)) (Int.emod_lt_of_pos _ hm)
theorem use_next {H : Hp} {d r : Addr} {n sd m : Int} {row : List Int} {Q : VK} {E : XK} (hd : H d = some (.dK (drK r n sd))) (hr : H r = some (.lst (row.map V.int))) (ok : RowOk row sd) (hn : 0 ≤ n) (hm : 0 < m)
    (k : ∀ H' v, Keep [d] H H' → H' d = some (.dK (drK r (n + 1) sd)) → H' r = some (.lst (row.map V.int)) → 0 ≤ v → v < m → Q (.int v) H') : sp_law_next K ([.ref d, .int m] ++ []) H Q E :=
  ⟨d, r, n, sd, m, row, rfl, hd, hr, ok, hn, hm, fun H' v kp h1 h2 h3 => k H' v kp h1 (kp r _ hr (by
    have ne : r ≠ d := ne_of hr hd (by intro z; cases z)
    simpa using ne)) h2 h3⟩
theorem use_nextM {H : Hp} {L : List (Addr × HO)} {d r : Addr} {n sd m : Int} {row : List Int} {Q : VK} {E : XK} (M : Has H ((d, .dK (drK r n sd)) :: (r, .lst (row.map V.int)) :: L)) (ok : RowOk row sd) (hn : 0 ≤ n) (hm : 0 < m)
    (k : ∀ H' v, Keep [d] H H' → Has H' ((d, .dK (drK r (n + 1) sd)) :: (r, .lst (row.map V.int)) :: L) → 0 ≤ v → v < m → Q (.int v) H') : sp_law_next K ([.ref d, .int m] ++ []) H Q E :=
  ⟨d, r, n, sd, m, row, rfl, M.get 0 rfl, M.get 1 rfl, ok, hn, hm, fun H' v kp h1 h2 h3 => k H' v kp (M.call1 kp 0 rfl h1) h2 h3⟩

def sp_law_settings (K : PySem.W.Frag) : Sp := fun vs H Q _ => ∃ (d r : Addr) (n sd : Int) (row : List Int) (L : List (Addr × HO)), vs = [.ref d] ∧ Has H ((d, .dK (drK r n sd)) :: (r, .lst (row.map V.int)) :: L) ∧ RowOk row sd ∧ 0 ≤ n ∧
  ∀ H' s k m xs n', Has H' ((d, .dK (drK r n' sd)) :: (r, .lst (row.map V.int)) :: L ++ [(s, .tup xs)]) → PSet_ k m xs → 0 ≤ n' → Q (.ref s) H'
theorem sc_law_settings : FnScope ["draws", "pick"] ["draws"] (defScope (topS 6)) := ⟨rfl, rfl, rfl, by decide +kernel, rfl, by decide +kernel, by decide +kernel⟩
theorem ok_law_settings (T : Txt fa fn K mg) : Dn P w K mg base CX0 2 "_law_settings" ["draws"] (sp_law_settings K) := by
  refine mk_dn (d := dOf "_law_settings" 6) T 3 3 rfl rfl rfl rfl rfl sc_law_settings (by walk_at "len") (fun _ _ _ _ _ _ us hl => match us, hl with | [_], _ => rfl) (fun cdv A outer s H vs Q E hr h => ⟨_, (pss_cons (ps_set (i := 1) sc_law_settings.nd rfl (.inl rfl) (pe_callD (K := K) rfl (ok_law_next T) (hr.mono (by decide)) rfl pass0 (pa_cons (pv 0) (pa_cons pe_int pa_nil))))
      (pss_cons (ps_if (pt_cmpR (op_eqU (K := K) rfl hr.units) (pv 1) pe_int (nomark _)) (pss_one (ps_ret (pe_tup (pa_cons pe_str pa_nil)))) pss_nil)
      (pss_cons (ps_if (pt_cmpR o_lt (pv 1) pe_int (nomark _)) (pss_one (ps_ret (pe_tup (pa_cons pe_str (pa_cons (pe_op o_shl pe_int (pe_callD (K := K) rfl (ok_law_next T) (hr.mono (by decide)) rfl pass0 (pa_cons (pv 0) (pa_cons pe_int pa_nil)))) pa_nil))))) pss_nil)
      (pss_one (ps_ret (pe_tup (pa_cons pe_str (pa_cons (pe_op (op_addU (K := K) rfl) pe_int (pe_callD (K := K) rfl (ok_law_next T) (hr.mono (by decide)) rfl pass0 (pa_cons (pv 0) (pa_cons pe_int pa_nil)))) pa_nil)))))))), ?_⟩)
  obtain ⟨d, r, n, sd, row, L, rfl, M, ok, hn, hQ⟩ := h
  walk_at "go"
  refine use_nextM M ok hn (by decide) (fun H1 v1 k1 M1 hv0 hv1 => ?_)
  walk_at "go"
  refine g_if (fun h => ?_) (fun h => ?_)
  · walk_at "go"
    exact ⟨by show 1 ≤ sizeLine; decide, fun s hs => hQ _ s _ _ _ _ (M1.new hs) .taken (by omega)⟩
  walk_at "go"
  refine g_if (fun h => ?_) (fun h => ?_)
  · walk_at "go"
    refine use_nextM M1 ok (by omega) (by decide) (fun H2 v2 k2 M2 hv20 hv21 => ?_)
    walk_at "go"
    have hpw : 0 < (1 : Int) * 2 ^ v2.toNat ∧ (1 : Int) * 2 ^ v2.toNat ≤ 64 := by
      have h1 : 2 ^ v2.toNat ≤ 2 ^ 6 := Nat.pow_le_pow_right (by decide) (by omega)
      have h2 := Nat.two_pow_pos v2.toNat
      rw [pw_int]
      omega
    exact ⟨by show 2 ≤ sizeLine; decide, fun s hs => hQ _ s _ _ _ _ (M2.new hs) (.two _ hpw.1 (by omega)) (by omega)⟩
  · walk_at "go"
    refine use_nextM M1 ok (by omega) (by decide) (fun H2 v2 k2 M2 hv20 hv21 => ?_)
    walk_at "go"
    exact ⟨by show 2 ≤ sizeLine; decide, fun s hs => hQ _ s _ _ _ _ (M2.new hs) (.hist _ (by omega) (by omega)) (by omega)⟩
/-- the log's rows -/
def LogT (H : Hp) (ts : List Addr) (log : Log) : Prop := ts.length = log.length ∧ ∀ i t, ts[i]? = some t → H t = some (.tup [.int (lg log i).1, .bl (lg log i).2])
theorem LogT.keep {ms : List Addr} {H H' : Hp} {ts : List Addr} {log : Log} (h : LogT H ts log) (k : Keep ms H H') (hm : ∀ m ∈ ms, ∃ o, H m = some o ∧ ∀ xs, o ≠ .tup xs) : LogT H' ts log :=
  ⟨h.1, fun i t e => k.tup hm (h.2 i t e)⟩
theorem LogT.same {H H' : Hp} {ts : List Addr} {log : Log} (h : LogT H ts log) (k : Same H H') : LogT H' ts log := ⟨h.1, fun i t e => k _ _ (h.2 i t e)⟩
theorem LogT.at_ {H : Hp} {ts : List Addr} {log : Log} (h : LogT H ts log) {i : Nat} (hi : i < log.length) : ∃ t, (ts.map V.ref)[i]? = some (.ref t) ∧ H t = some (.tup [.int (lg log i).1, .bl (lg log i).2]) := by
  have hi' : i < ts.length := by rw [h.1]; exact hi
  refine ⟨ts[i], ?_, h.2 i _ (List.getElem?_eq_getElem hi')⟩
  rw [List.getElem?_map, List.getElem?_eq_getElem hi']
  rfl
def sp_law_past (K : PySem.W.Frag) : Sp := fun vs H Q _ => ∃ (l : Addr) (ts : List Addr) (log : Log) (e : Nat) (b : Int), vs = [.ref l, .int e, .int b] ∧ H l = some (.lst (ts.map V.ref)) ∧ LogT H ts log ∧ e ≤ log.length ∧ 0 ≤ b ∧ b ≤ 16 ∧ Q (.int ((pastN log e b.toNat : Nat) : Int)) H
theorem sc_law_past : FnScope ["log", "end", "bits", "past", "k"] ["log", "end", "bits"] (defScope (topS 7)) := ⟨rfl, rfl, rfl, by decide +kernel, rfl, by decide +kernel, by decide +kernel⟩
theorem ok_law_past (T : Txt fa fn K mg) : Dn P w K mg base CX0 1 "_law_past" ["log", "end", "bits"] (sp_law_past K) := by
  refine mk_dn (d := dOf "_law_past" 7) T 4 4 rfl rfl rfl rfl rfl sc_law_past (by walk_at "len") (fun _ _ _ _ _ _ us hl => match us, hl with | [_, _, _], _ => rfl) (fun cdv A outer s H vs Q E hr h => ⟨_, (pss_cons (ps_set (i := 3) sc_law_past.nd rfl (.inl rfl) pe_int)
      (pss_cons (ps_for PassesOwn.never rfl (pi_r1 rfl (T.free 23 rfl) (pa_cons (pv 2) pa_nil)) (pg_name (i := 4) sc_law_past.nd rfl (.inl rfl)) (pss_one (ps_if (PW.pt (pw_and (pt_cmpR o_ge (pe_op op_sub (pe_op op_sub (pv 1) pe_int) (pv 4)) pe_int (nomark _)) (pw_and1 (pt_tru (K := K) rfl (pe_ixU (K := K) rfl (hu_of hr) (pe_ixU (K := K) rfl (hu_of hr) (pv 0) (pe_op op_sub (pe_op op_sub (pv 1) pe_int) (pv 4))) pe_int))))) (pss_one (ps_set (i := 3) sc_law_past.nd rfl (.inl rfl) (pe_op (op_addU (K := K) rfl) (pv 3) (pe_op o_shl pe_int (pv 4))))) pss_nil)))
      (pss_one (ps_ret (pv 3))))), ?_⟩)
  obtain ⟨l, ts, log, e, b, rfl, hl, hT, he, hb, hb2, hQ⟩ := h
  walk_at "go"
  refine f_range (fun i σ H' => ∃ (o4 : Option V), σ = [some (.ref l), some (.int e), some (.int b), some (.int ((pastN log e i : Nat) : Int)), o4] ∧ H' = H) ⟨_, rfl, rfl⟩ ?_ ?_
  · rintro i σ H' hi ⟨o4, rfl, rfl⟩
    walk_at "go"
    refine g_if (fun h => ?_) (fun h => ?_)
    · walk_at "go"
      obtain ⟨t, ht1, ht2⟩ := hT.at_ (i := e - 1 - i) (by omega)
      refine g_ixL (SqL.of hl) (n := e - 1 - i) (by omega) ht1 ?_
      walk_at "go"
      refine g_ixT (SqT.of ht2) (n := 1) rfl rfl ?_
      walk_at "go"
      refine g_ifB (fun h2 => ?_) (fun h2 => ?_)
      · walk_at "go"
        refine ⟨some (.int (0 + (i : Int))), ?_, rfl⟩
        rw [pastN, if_pos ⟨by omega, h2⟩]
        have e1 : (0 + (i : Int)).toNat = i := by omega
        rw [e1, Int.one_mul, pw_int, Int.natCast_add]
        rfl
      · walk_at "go"
        refine ⟨some (.int (0 + (i : Int))), ?_, rfl⟩
        rw [pastN, if_neg (fun z => by rw [h2] at z; exact Bool.noConfusion z.2)]
        rfl
    · walk_at "go"
      refine ⟨some (.int (0 + (i : Int))), ?_, rfl⟩
      rw [pastN, if_neg (fun z => h (by omega))]
      rfl
  · rintro σ H' ⟨o4, rfl, rfl⟩
    walk_at "go"
    exact hQ
def sp_law_place (K : PySem.W.Frag) : Sp := fun vs H Q _ => ∃ (s l : Addr) (xs : List V) (k : Str) (n : Int) (ts : List Addr) (log : Log) (e : Nat) (row : Int), vs = [.ref s, .ref l, .int e, .int row] ∧ H s = some (.tup xs) ∧ PSet_ k n xs ∧ ¬ k = "taken" ∧ H l = some (.lst (ts.map V.ref)) ∧ LogT H ts log ∧ e ≤ log.length ∧ Q (.int (plN k n log e row)) H
theorem sc_law_place : FnScope ["settings", "log", "end", "row", "many"] ["settings", "log", "end", "row"] (defScope (topS 8)) := ⟨rfl, rfl, rfl, by decide +kernel, rfl, by decide +kernel, by decide +kernel⟩
theorem ok_law_place (T : Txt fa fn K mg) : Dn P w K mg base CX0 2 "_law_place" ["settings", "log", "end", "row"] (sp_law_place K) := by
  refine mk_dn (d := dOf "_law_place" 8) T 5 5 rfl rfl rfl rfl rfl sc_law_place (by walk_at "len") (fun _ _ _ _ _ _ us hl => match us, hl with | [_, _, _, _], _ => rfl) (fun cdv A outer s H vs Q E hr h => ⟨_, (pss_cons (ps_if (pt_cmpR (op_eqU (K := K) rfl hr.units) (pe_ixU (K := K) rfl (hu_of hr) (pv 0) pe_int) pe_str (nomark _)) (pss_one (ps_ret (pe_op o_mod (pv 3) (pe_ixU (K := K) rfl (hu_of hr) (pv 0) pe_int)))) pss_nil)
      (pss_cons (ps_set (i := 4) sc_law_place.nd rfl (.inl rfl) (pe_op o_shl pe_int (pe_ixU (K := K) rfl (hu_of hr) (pv 0) pe_int)))
      (pss_one (ps_ret (pe_op op_xor (pe_op o_mod (pv 3) (pv 4)) (pe_callD (K := K) rfl (ok_law_past T) (hr.mono (by decide)) rfl pass0 (pa_cons (pv 1) (pa_cons (pv 2) (pa_cons (pe_ixU (K := K) rfl (hu_of hr) (pv 0) pe_int) pa_nil))))))))), ?_⟩)
  obtain ⟨s, l, xs, k, n, ts, log, e, row, rfl, hs, hset, nt, hl, hT, he, hQ⟩ := h
  walk_at "go"
  cases hset with
  | taken => exact (nt rfl).elim
  | two _ h h2 =>
    refine g_ixT (SqT.of hs) (n := 0) rfl rfl ?_
    walk_at "go"
    refine g_if (fun _ => ?_) (fun z => (z rfl).elim)
    walk_at "go"
    refine g_ixT (SqT.of hs) (n := 1) rfl rfl ?_
    walk_at "go"
    refine q_int ?_ hQ
    unfold plN
    rw [if_pos rfl]
  | hist _ h h2 =>
    refine g_ixT (SqT.of hs) (n := 0) rfl rfl ?_
    walk_at "go"
    refine g_if (fun z => (h2_ne z).elim) (fun _ => ?_)
    walk_at "go"
    refine g_ixT (SqT.of hs) (n := 1) rfl rfl ?_
    walk_at "go"
    have hpw : (0 : Int) < 1 * 2 ^ n.toNat := by
      have := Nat.two_pow_pos n.toNat
      rw [pw_int]
      omega
    refine g_mod hpw ?_
    walk_at "go"
    refine g_ixT (SqT.of hs) (n := 1) rfl rfl ?_
    walk_at "go"
    refine ⟨l, ts, log, e, n, rfl, hl, hT, he, h, h2, ?_⟩
    walk_at "go"
    refine q_int ?_ hQ
    unfold plN
    rw [if_neg h2_ne, Int.one_mul]
theorem up_min (c : Int) : upV true c = if c + 1 < 3 then c + 1 else 3 := by
  unfold upV
  simp only [if_true]
  omega
theorem up_max (c : Int) : upV false c = if c - 1 > 0 then c - 1 else 0 := by
  unfold upV
  simp only [Bool.false_eq_true, if_false]
  omega
def sp_law_guess (K : PySem.W.Frag) : Sp := fun vs H Q _ => ∃ (s l : Addr) (xs : List V) (k : Str) (n : Int) (ts : List Addr) (log : Log) (row : Int), vs = [.ref s, .ref l, .int row] ∧ H s = some (.tup xs) ∧ PSet_ k n xs ∧ H l = some (.lst (ts.map V.ref)) ∧ LogT H ts log ∧ log.length ≤ 100000 ∧ Q (.bl (guessN k n log row)) H
theorem sc_law_guess : FnScope ["settings", "log", "row", "place", "counter", "k"] ["settings", "log", "row"] (defScope (topS 9)) := ⟨rfl, rfl, rfl, by decide +kernel, rfl, by decide +kernel, by decide +kernel⟩
theorem ok_law_guess (T : Txt fa fn K mg) : Dn P w K mg base CX0 3 "_law_guess" ["settings", "log", "row"] (sp_law_guess K) := by
  refine mk_dn (d := dOf "_law_guess" 9) T 6 6 rfl rfl rfl rfl rfl sc_law_guess (by walk_at "len") (fun _ _ _ _ _ _ us hl => match us, hl with | [_, _, _], _ => rfl) (fun cdv A outer s H vs Q E hr h => ⟨_, (pss_cons (ps_if (pt_cmpR (op_eqU (K := K) rfl hr.units) (pe_ixU (K := K) rfl (hu_of hr) (pv 0) pe_int) pe_str (nomark _)) (pss_one (ps_ret pe_bl)) pss_nil)
      (pss_cons (ps_set (i := 3) sc_law_guess.nd rfl (.inl rfl) (pe_callD (K := K) rfl (ok_law_place T) (hr.mono (by decide)) rfl pass0 (pa_cons (pv 0) (pa_cons (pv 1) (pa_cons (pe_callB (c_len (K := K) rfl) rfl (T.free 20 rfl) (by decide +kernel) (pa_cons (pv 1) pa_nil)) (pa_cons (pv 2) pa_nil))))))
      (pss_cons (ps_set (i := 4) sc_law_guess.nd rfl (.inl rfl) pe_int)
      (pss_cons (ps_for PassesOwn.never rfl (pi_r1 rfl (T.free 23 rfl) (pa_cons (pe_callB (c_len (K := K) rfl) rfl (T.free 20 rfl) (by decide +kernel) (pa_cons (pv 1) pa_nil)) pa_nil)) (pg_name (i := 5) sc_law_guess.nd rfl (.inl rfl)) (pss_one (ps_if (pt_cmpR (op_eqU (K := K) rfl hr.units) (pe_callD (K := K) rfl (ok_law_place T) (hr.mono (by decide)) rfl pass0 (pa_cons (pv 0) (pa_cons (pv 1) (pa_cons (pv 5) (pa_cons (pe_ixU (K := K) rfl (hu_of hr) (pe_ixU (K := K) rfl (hu_of hr) (pv 1) (pv 5)) pe_int) pa_nil))))) (pv 3) (nomark _)) (pss_one (ps_if (pt_tru (K := K) rfl (pe_ixU (K := K) rfl (hu_of hr) (pe_ixU (K := K) rfl (hu_of hr) (pv 1) (pv 5)) pe_int)) (pss_one (ps_set (i := 4) sc_law_guess.nd rfl (.inl rfl) (pe_callB (c_min2 rfl) rfl (T.free 22 rfl) (by decide +kernel) (pa_cons pe_int (pa_cons (pe_op (op_addU (K := K) rfl) (pv 4) pe_int) pa_nil))))) (pss_one (ps_set (i := 4) sc_law_guess.nd rfl (.inl rfl) (pe_callB (c_max2 rfl) rfl (T.free 21 rfl) (by decide +kernel) (pa_cons pe_int (pa_cons (pe_op op_sub (pv 4) pe_int) pa_nil))))))) pss_nil)))
      (pss_one (ps_ret (pe_cmpR o_gt (pv 4) pe_int (nomark _)))))))), ?_⟩)
  obtain ⟨s, l, xs, k, n, ts, log, row, rfl, hs, hset, hl, hT, hlog, hQ⟩ := h
  have h0 : xs[0]? = some (.str k) := by cases hset <;> rfl
  walk_at "go"
  refine g_ixT (SqT.of hs) (n := 0) rfl h0 ?_
  walk_at "go"
  refine g_if (fun h => ?_) (fun h => ?_)
  · walk_at "go"
    refine q_bl ?_ hQ
    unfold guessN
    rw [if_pos h]
  walk_at "go"
  rw [hT.1]
  refine ⟨s, l, xs, k, n, ts, log, log.length, row, rfl, hs, hset, h, hl, hT, Nat.le_refl _, ?_⟩
  walk_at "go"
  rw [hT.1]
  refine g_rR1 (by omega) (by omega) ?_
  refine f_range (fun i σ H' => ∃ (o5 : Option V), σ = [some (.ref s), some (.ref l), some (.int row), some (.int (plN k n log log.length row)), some (.int (cntN k n log (plN k n log log.length row) i)), o5] ∧ H' = H) ⟨_, rfl, rfl⟩ ?_ ?_
  · rintro i σ H' hi ⟨o5, rfl, rfl⟩
    walk_at "go"
    obtain ⟨t, ht1, ht2⟩ := hT.at_ (i := i) (by omega)
    have e0 : (0 + (i : Int)) = (i : Int) := by omega
    rw [e0]
    refine g_ixL (SqL.of hl) (n := i) rfl ht1 ?_
    walk_at "go"
    refine g_ixT (SqT.of ht2) (n := 0) rfl rfl ?_
    walk_at "go"
    refine ⟨s, l, xs, k, n, ts, log, i, _, rfl, hs, hset, h, hl, hT, by omega, ?_⟩
    walk_at "go"
    refine g_if (fun h1 => ?_) (fun h1 => ?_)
    · walk_at "go"
      refine g_ixL (SqL.of hl) (n := i) rfl ht1 ?_
      walk_at "go"
      refine g_ixT (SqT.of ht2) (n := 1) rfl rfl ?_
      walk_at "go"
      refine g_ifB (fun h2 => ?_) (fun h2 => ?_)
      · walk_at "go"
        refine ⟨some (.int (i : Int)), ?_, rfl⟩
        rw [cntN, if_pos h1, h2]
        rw [up_min]
        rfl
      · walk_at "go"
        refine ⟨some (.int (i : Int)), ?_, rfl⟩
        rw [cntN, if_pos h1, h2]
        rw [up_max]
        rfl
    · walk_at "go"
      refine ⟨some (.int (i : Int)), ?_, rfl⟩
      rw [cntN, if_neg h1]
      rfl
  · rintro σ H' ⟨o5, rfl, rfl⟩
    walk_at "go"
    refine q_bl ?_ hQ
    unfold guessN
    rw [if_neg h]
    rfl

abbrev L23 (K : PySem.W.Frag) (d r : Addr) (n sd : Int) (row : List Int) (s : Addr) (xs : List V) (k : Str) (p dx : Addr) (b h : Int) (c : Addr) (cs : List Int) (q dx2 c2 : Addr) (b2 : Int) (cs2 : List Int) : List (Addr × HO) :=
  [(d, .dK (drK r n sd)), (r, .lst (row.map V.int)), (s, .tup xs), (p, prO K dx k b h c), (c, ctO cs), (q, prO K dx2 k b2 0 c2), (c2, ctO cs2)]
def sp_law (K : PySem.W.Frag) : Sp := fun vs H Q _ => ∃ (a : Addr) (ns : List Int), vs = [.ref a] ∧ SqL K H a (ns.map V.int) ∧ ns.length ≤ 63 ∧ ∀ H', Q (.bl true) H'
theorem sc_law : FnScope ["script", "draws", "settings", "predictor", "other", "few", "apart", "lean", "log", "turn", "row", "asked", "taken"] ["script"] (defScope (topS 10)) := ⟨rfl, rfl, rfl, by decide +kernel, rfl, by decide +kernel, by decide +kernel⟩
theorem ok_law (T : Txt fa fn K mg) : Dn P w K mg base CX0 4 "law" ["script"] (sp_law K) := by
  refine mk_dn (d := dOf "law" 10) T 7 7 rfl rfl rfl rfl rfl sc_law (by walk_at "len") (fun _ _ _ _ _ _ us hl => match us, hl with | [_], _ => rfl) (fun cdv A outer s H vs Q E hr h => ⟨_, (pss_cons (ps_set (i := 1) sc_law.nd rfl (.inl rfl) (pe_callD (K := K) rfl (ok_law_reader T) (hr.mono (by decide)) rfl pass0 (pa_cons (pv 0) pa_nil)))
      (pss_cons (ps_set (i := 2) sc_law.nd rfl (.inl rfl) (pe_callD (K := K) rfl (ok_law_settings T) (hr.mono (by decide)) rfl pass0 (pa_cons (pv 1) pa_nil)))
      (pss_cons (ps_set (i := 3) sc_law.nd rfl (.inl rfl) (pe_makeD (K := K) rfl (mt_Predictor___init__ T) (T.mkr 10 rfl) (hr.mono (by decide)) rfl (T.glo 8 rfl) pass0 (pa_cons (pv 2) pa_nil)))
      (pss_cons (ps_set (i := 4) sc_law.nd rfl (.inl rfl) (pe_makeD (K := K) rfl (mt_Predictor___init__ T) (T.mkr 10 rfl) (hr.mono (by decide)) rfl (T.glo 8 rfl) pass0 (pa_cons (pv 2) pa_nil)))
      (pss_cons (ps_set (i := 5) sc_law.nd rfl (.inl rfl) (pe_op (op_addU (K := K) rfl) pe_int (pe_callD (K := K) rfl (ok_law_next T) (hr.mono (by decide)) rfl pass0 (pa_cons (pv 1) (pa_cons pe_int pa_nil)))))
      (pss_cons (ps_set (i := 6) sc_law.nd rfl (.inl rfl) (pe_ixU (K := K) rfl (hu_of hr) (pe_lst (pa_cons pe_int (pa_cons pe_int (pa_cons pe_int (pa_cons pe_int pa_nil))))) (pe_callD (K := K) rfl (ok_law_next T) (hr.mono (by decide)) rfl pass0 (pa_cons (pv 1) (pa_cons pe_int pa_nil)))))
      (pss_cons (ps_set (i := 7) sc_law.nd rfl (.inl rfl) (pe_callD (K := K) rfl (ok_law_next T) (hr.mono (by decide)) rfl pass0 (pa_cons (pv 1) (pa_cons pe_int pa_nil))))
      (pss_cons (ps_set (i := 8) sc_law.nd rfl (.inl rfl) (pe_lst pa_nil))
      (pss_cons (ps_for PassesOwn.never rfl (pi_r1 rfl (T.free 23 rfl) (pa_cons (pe_op (op_addU (K := K) rfl) pe_int (pe_callD (K := K) rfl (ok_law_next T) (hr.mono (by decide)) rfl pass0 (pa_cons (pv 1) (pa_cons pe_int pa_nil)))) pa_nil)) (pg_name (i := 9) sc_law.nd rfl (.inl rfl)) (pss_cons (ps_set (i := 10) sc_law.nd rfl (.inl rfl) (pe_op op_mulU (pe_callD (K := K) rfl (ok_law_next T) (hr.mono (by decide)) rfl pass0 (pa_cons (pv 1) (pa_cons (pv 5) pa_nil))) (pv 6)))
      (pss_cons (ps_set (i := 11) sc_law.nd rfl (.inl rfl) (pe_callD (K := K) rfl (ok_law_next T) (hr.mono (by decide)) rfl pass0 (pa_cons (pv 1) (pa_cons (pe_op op_mulU (pe_op op_mulU pe_int (pv 6)) (pv 5)) pa_nil))))
      (pss_cons (ps_if (pt_cmpR (op_neU (K := K) rfl hr.units) (pe_methD (K := K) rfl (mt_Predictor_guess T) (cl_Predictor T) (T.meth 12 rfl) (hr.mono (by decide)) pass0 (pv 3) (pa_cons (pv 11) pa_nil)) (pe_callD (K := K) rfl (ok_law_guess T) (hr.mono (by decide)) rfl pass0 (pa_cons (pv 2) (pa_cons (pv 8) (pa_cons (pv 11) pa_nil)))) (nomark _)) (pss_one (ps_ret pe_bl)) pss_nil)
      (pss_cons (ps_if (pt_cmpR (op_neU (K := K) rfl hr.units) (pe_methD (K := K) rfl (mt_Predictor_guess T) (cl_Predictor T) (T.meth 12 rfl) (hr.mono (by decide)) pass0 (pv 3) (pa_cons (pv 10) pa_nil)) (pe_callD (K := K) rfl (ok_law_guess T) (hr.mono (by decide)) rfl pass0 (pa_cons (pv 2) (pa_cons (pv 8) (pa_cons (pv 10) pa_nil)))) (nomark _)) (pss_one (ps_ret pe_bl)) pss_nil)
      (pss_cons (ps_set (i := 12) sc_law.nd rfl (.inl rfl) (pe_cmpR o_lt (pe_callD (K := K) rfl (ok_law_next T) (hr.mono (by decide)) rfl pass0 (pa_cons (pv 1) (pa_cons pe_int pa_nil))) (pv 7) (nomark _)))
      (pss_cons (ps_if (pt_cmpR o_notN (pe_methD (K := K) rfl (mt_Predictor_learn T) (cl_Predictor T) (T.meth 13 rfl) (hr.mono (by decide)) pass0 (pv 3) (pa_cons (pv 10) (pa_cons (pv 12) pa_nil))) pe_non (nomark _)) (pss_one (ps_ret pe_bl)) pss_nil)
      (pss_one (ps_expr (pe_bm PySem.F.plainAttrs_list PySem.F.slot_list_append PySem.F.type_list_append mt_append (pv 8) (pa_cons (pe_tup (pa_cons (pv 10) (pa_cons (pv 12) pa_nil))) pa_nil)))))))))))
      (pss_one (ps_ret (pe_cmpR (op_eqU (K := K) rfl hr.units) (pe_methD (K := K) rfl (mt_Predictor_guess T) (cl_Predictor T) (T.meth 12 rfl) (hr.mono (by decide)) pass0 (pv 4) (pa_cons (pv 5) pa_nil)) (pe_callD (K := K) rfl (ok_law_guess T) (hr.mono (by decide)) rfl pass0 (pa_cons (pv 2) (pa_cons (pe_lst pa_nil) (pa_cons (pv 5) pa_nil)))) (nomark _))))))))))))), ?_⟩)
  obtain ⟨a, ns, rfl, hS, hlen, hQ⟩ := h
  walk_at "go"
  refine ⟨a, ns, rfl, hS, hlen, fun H1 d r rw_ sd s1 hd0 hr0 M1 ok => ?_⟩
  walk_at "go"
  refine ⟨d, r, 0, sd, rw_, [], rfl, M1, ok, Int.le_refl _, fun H2 s k m xs n2 M2 hset hn2 => ?_⟩
  have L0 := Lgd.start hset
  walk_at "go"
  intro p dx hp hdx _
  refine use_init M2 hp hdx (M2.get 2 rfl) hset (fun H3 c sm3 M3 => ?_)
  walk_at "go"
  intro q dx2 hq hdx2 _
  refine use_init M3 hq hdx2 (M3.get 2 rfl) hset (fun H4 c2 sm4 M4 => ?_)
  walk_at "go"
  refine use_nextM M4 ok hn2 (by decide) (fun H5 few k5 M5 hf0 hf1 => ?_)
  walk_at "go"
  refine ⟨by show 4 ≤ sizeLine; decide, fun u hu => ?_⟩
  have M6 := M5.new (o := .lst [.int 1, .int 3, .int 32, .int 65]) hu
  walk_at "go"
  refine use_nextM M6 ok (by omega) (by decide) (fun H7 v7 k7 M7 hv70 hv71 => ?_)
  obtain ⟨ap, hap, ha0, ha1⟩ : ∃ ap : Int, [V.int 1, V.int 3, V.int 32, V.int 65][v7.toNat]? = some (.int ap) ∧ 1 ≤ ap ∧ ap ≤ 65 := by
    have hz : v7 = 0 ∨ v7 = 1 ∨ v7 = 2 ∨ v7 = 3 := by omega
    rcases hz with rfl | rfl | rfl | rfl <;> exact ⟨_, rfl, by decide, by decide⟩
  refine g_ixL (SqL.of (M7.get 7 rfl)) (n := v7.toNat) (by omega) hap ?_
  walk_at "go"
  refine use_nextM M7 ok (by omega) (by decide) (fun H8 lean k8 M8 hv80 hv81 => ?_)
  walk_at "go"
  refine ⟨by decide, fun l hl => ?_⟩
  have M9 : Has _ (L23 K d r (n2 + 1 + 1 + 1) sd rw_ s xs k p dx (b0V k m) 0 c (c0V k m) q dx2 c2 (b0V k m) (c0V k m) ++ [(l, .lst (([] : List Addr).map V.ref))]) := (M8.sub (L' := L23 K d r (n2 + 1 + 1 + 1) sd rw_ s xs k p dx (b0V k m) 0 c (c0V k m) q dx2 c2 (b0V k m) (c0V k m)) (List.sublist_append_left _ _)).new hl
  walk_at "go"
  refine use_nextM M9 ok (by omega) (by decide) (fun H10 v10 k10 M10 hv100 hv101 => ?_)
  walk_at "go"
  refine f_range (fun i σ H' => ∃ (n h : Int) (cs : List Int) (ts : List Addr) (log : Log) (o8 o9 o10 o11 : Option V), σ = [some (.ref a), some (.ref d), some (.ref s), some (.ref p), some (.ref q), some (.int (1 + few)), some (.int ap), some (.int lean), some (.ref l), o8, o9, o10, o11] ∧
      Has H' (L23 K d r n sd rw_ s xs k p dx (b0V k m) h c cs q dx2 c2 (b0V k m) (c0V k m) ++ [(l, .lst (ts.map V.ref))]) ∧ 0 ≤ n ∧ Lgd k m log (b0V k m) h cs ∧ LogT H' ts log ∧ log.length = i)
    ⟨n2 + 1 + 1 + 1 + 1, 0, c0V k m, [], [], _, _, _, _, rfl, M10, by omega, L0, ⟨rfl, fun _ _ h => by cases h⟩, rfl⟩ ?_ ?_
  · rintro i σ H' hi ⟨n, h, cs, ts, log, o8, o9, o10, o11, rfl, M, hn, Lg, hT, hlg⟩
    walk_at "go"
    have hpos : 0 < 3 * ap * (1 + few) := Int.mul_pos (by omega) (by omega)
    have tk : ∀ m' ∈ [d], ∃ o, H' m' = some o ∧ ∀ xs, o ≠ .tup xs := fun m' hm => by
      rw [List.mem_singleton.mp hm]
      exact ⟨_, M.get 0 rfl, fun _ z => by cases z⟩
    refine use_nextM M ok hn (by omega) (fun H11 row k11 M11 hw0 hw1 => ?_)
    have hT11 := hT.keep k11 tk
    walk_at "go"
    refine use_nextM M11 ok (by omega) hpos (fun H12 asked k12 M12 hs0 hs1 => ?_)
    have hT12 := hT11.keep k12 (fun m' hm => by
      rw [List.mem_singleton.mp hm]
      exact ⟨_, M11.get 0 rfl, fun _ z => by cases z⟩)
    walk_at "go"
    refine ⟨p, dx, c, k, _, h, cs, asked, rfl, M12.get 3 rfl, M12.get 4 rfl, Lg.ok, ?_⟩
    walk_at "go"
    refine ⟨s, l, xs, k, m, ts, log, asked, rfl, M12.get 2 rfl, hset, M12.get 7 rfl, hT12, by omega, ?_⟩
    rw [Lg.guess]
    walk_at "go"
    refine g_ifN (fun z => (z rfl).elim) (fun _ => ?_)
    walk_at "go"
    refine ⟨p, dx, c, k, _, h, cs, _, rfl, M12.get 3 rfl, M12.get 4 rfl, Lg.ok, ?_⟩
    walk_at "go"
    refine ⟨s, l, xs, k, m, ts, log, _, rfl, M12.get 2 rfl, hset, M12.get 7 rfl, hT12, by omega, ?_⟩
    rw [Lg.guess]
    walk_at "go"
    refine g_ifN (fun z => (z rfl).elim) (fun _ => ?_)
    walk_at "go"
    refine use_nextM M12 ok (by omega) (by decide) (fun H13 v13 k13 M13 hv130 hv131 => ?_)
    have hT13 := hT12.keep k13 (fun m' hm => by
      rw [List.mem_singleton.mp hm]
      exact ⟨_, M12.get 0 rfl, fun _ z => by cases z⟩)
    walk_at "go"
    refine use_learn M13 3 4 rfl rfl (by decide) Lg.ok (fun H14 k14 M14 => ?_)
    have hT14 := hT13.keep k14 (fun m' hm => by
      rcases List.mem_cons.mp hm with e | hm
      · rw [e]
        exact ⟨_, M13.get 3 rfl, fun _ z => by cases z⟩
      · rw [List.mem_singleton.mp hm]
        exact ⟨_, M13.get 4 rfl, fun _ z => by cases z⟩)
    walk_at "go"
    refine ⟨by show 2 ≤ sizeLine; decide, fun u hu => ?_⟩
    have M15 := M14.new (o := .tup [.int (row * ap), .bl (decide (v13 < lean))]) hu
    have hT15 := hT14.same (Same.new (o := .tup [.int (row * ap), .bl (decide (v13 < lean))]) hu)
    walk_at "go"
    have hi2 : i < 3 + 58 := by omega
    refine g_append M15 7 rfl (szl (by rw [List.length_map, hT.1]; omega)) (fun M16 => ?_)
    have hT16 := hT15.keep (ms := [l]) (Keep.set (o := .lst (ts.map V.ref ++ [.ref u])) (List.mem_singleton.mpr rfl)) (fun m' hm => by
      rw [List.mem_singleton.mp hm]
      exact ⟨_, M15.get 7 rfl, fun _ z => by cases z⟩)
    have hu16 := M16.get 8 rfl
    walk_at "go"
    refine ⟨n + 1 + 1 + 1, _, _, ts ++ [u], log ++ [(row * ap, decide (v13 < lean))], _, _, _, _, rfl, ?_, by omega, Lg.learn _ _, ⟨by rw [List.length_append, List.length_append, hT.1]; rfl, ?_⟩, by rw [List.length_append, hlg]; rfl⟩
    · rw [List.map_append]
      exact M16.sub (List.sublist_append_left _ _)
    · intro j t ht
      by_cases hj : j < ts.length
      · rw [List.getElem?_append_left hj] at ht
        rw [lg_app (by rw [← hT.1]; exact hj)]
        exact hT16.2 j t ht
      · have e : j = ts.length := by
          have := (List.getElem?_eq_some_iff.mp ht).1
          rw [List.length_append, List.length_singleton] at this
          omega
        subst e
        rw [List.getElem?_append_right (Nat.le_refl _), Nat.sub_self] at ht
        cases ht
        rw [hT.1, lg_new]
        exact hu16
  · rintro σ H' ⟨n, h, cs, ts, log, o8, o9, o10, o11, rfl, M, hn, Lg, hT, hlg⟩
    walk_at "go"
    refine ⟨q, dx2, c2, k, _, 0, c0V k m, _, rfl, M.get 5 rfl, M.get 6 rfl, L0.ok, ?_⟩
    walk_at "go"
    refine ⟨by decide, fun u hu => ?_⟩
    have M2 := M.new (o := .lst (([] : List Addr).map V.ref)) hu
    walk_at "go"
    refine ⟨s, u, xs, k, m, [], [], _, rfl, M2.get 2 rfl, hset, M2.get 8 rfl, ⟨rfl, fun _ _ h => by cases h⟩, by decide, ?_⟩
    rw [L0.guess]
    walk_at "go"
    refine q_bl ?_ (hQ _)
    exact (decide_eq_true rfl).symm
/-! ### the head -/
abbrev R : PySem.W.OpenRow := PySem.W.OpenLaw.row PySem.Challenge.rw_sameclock_k23_predictors_by_their_log
abbrev hk : PySem.W.Hook := He.hookD 5 fa fn
def ob (s : PySem.W.SharedT) : He.AlD := He.obsDG 5 fa fn (HandSHeadRun.getT s)
theorem ob_eq (s : PySem.W.SharedT) : ob s = hk.obs s.abs := He.obsDG_eq (HandSHeadRun.getT_eq s)
theorem run (w : World) : HandSHeadRun.RunEq R (PySem.W.view R.prog [10]) hk ob 3000 ["Predictor", "_law_draws", "_law_reader", "_law_next", "_law_settings", "_law_past", "_law_place", "_law_guess"] w := by
  intro os
  kernel_rfl
theorem facts {P : Program} {w : World} {K : PySem.W.Frag} {h : Heap} {mg : Str → Option Value} {f : Addr} (X : K.In h) (G : h.Ns mainGlobals mg) (hfa : mg ("law" : Str) = some (.ref f)) (c : He.SaysD fa fn K) :
    ∃ fd : FuncData, (∀ (s : Shared) (v : Value), BindsTo s fd ⟨[v], []⟩ [("script", v)]) ∧ ∀ base : Heap, K.In base → base.Ns mainGlobals mg → FnOk P w K mg base CX0 4 f fd ["script"] (sp_law K) :=
  law_facts (d := dOf "law" 10) X G hfa c 7 7 rfl rfl rfl rfl rfl (fun _ _ _ _ _ _ us hl => match us, hl with | [_], _ => rfl) fun _ T => ok_law T
end K23
open PySem PySem.W PySem.Calls PyProof.Rows
theorem PySem.Challenge.cw_sameclock_k23_predictors_by_their_log_holds : PySem.Challenge.rw_sameclock_k23_predictors_by_their_log.Holds := by
  w_on; o_law
  refine HandSHeadRun.head_any (r := OpenLaw.row PySem.Challenge.rw_sameclock_k23_predictors_by_their_log) (q := view (OpenLaw.row PySem.Challenge.rw_sameclock_k23_predictors_by_their_log).prog [10]) (H := K23.hk) (ob := K23.ob) (M := 3000) (loose := ["Predictor", "_law_draws", "_law_reader", "_law_next", "_law_settings", "_law_past", "_law_place", "_law_guess"]) (d := HandSHeadRun.topDef (OpenLaw.row PySem.Challenge.rw_sameclock_k23_predictors_by_their_log).prog 10) (kwd := []) K23.ob_eq
    (by kernel_rfl) (fun s => by kernel_rfl) K23.run (by kernel_rfl) (by kernel_rfl) (by kernel_rfl) (by rfl) (by first | assumption | decide +kernel) (by decide +kernel) ⟨rfl, rfl, rfl, rfl, rfl, by decide +kernel⟩ ?hw ?hc
  case hw => w_witness2
  case hc =>
    refine L2.walk_ofE (l := PySem.Challenge.rw_sameclock_k23_predictors_by_their_log) (n := 63) (k := 4) (x := "script") (CX := L2.CX0) rfl (by decide) (by kernel_rfl) ⟨rfl, by decide, by decide⟩ ?F (fun _ _ _ _ z => z)
    intro w mg fa h Y G hmg0
    obtain ⟨K, KX, c⟩ := Y
    have hmg : mg ("law" : PySem.Str) = some (.ref fa) := by
      have e : (HandSHeadRun.topDef (OpenLaw.row PySem.Challenge.rw_sameclock_k23_predictors_by_their_log).prog 10).name = ("law" : PySem.Str) := by kernel_rfl
      rw [← e]
      exact hmg0
    obtain ⟨fd, hb, hF⟩ := K23.facts (P := (PySem.Challenge.rw_sameclock_k23_predictors_by_their_log).prog) (w := w) KX G hmg c
    exact ⟨K, fd, K23.sp_law K, KX, hb, fun H a ns hl _ hS => ⟨a, ns, rfl, hS, hl, fun _ => rfl⟩, hF⟩
#print axioms PySem.Challenge.cw_sameclock_k23_predictors_by_their_log_holds

