import PyProof.Rows.All
import Wide.All
import OpenK.AllK
import Wide.FinOn
import HandS.ForMost
import HandS.Wide
import HandS.WideMore
import HandS.IsInst
import HandS.Defaults
import HandS.Flow
import HandS.TupAny
import HandS.Conv
import HandS.Exc
import HandS.TupMul
import HandS.TupSets
import HandS.Style
import HandS.Head0
import HandS.Head1
import HandS.Head2
import HandS.HeadEnd
import HandS.HeadHook1
import HandS.HeadHook2
import HandS.HeadHook3
import PySem.Challenge.RW_sameclock_k26_settings_and_what_is_none
set_option Elab.async false
set_option linter.all false
set_option maxRecDepth 100000
set_option maxHeartbeats 4000000
/-! Own base: a heap told by a list of its objects, frames of calls, joins of ways, whiles by a measure, calls by one structure. -/
namespace G
open PySem PySem.Spec PyProof.Rows L2

/-- the objects one speaks of, each once -/
structure Has (H : Hp) (L : List (Addr × HO)) : Prop where
  nd : (L.map (·.1)).Nodup
  is_ : ∀ p ∈ L, H p.1 = some p.2

section
variable {H H' : Hp} {L : List (Addr × HO)} {a p : Addr} {o o' : HO}
theorem Has.nil : Has H [] := ⟨List.nodup_nil, fun _ h => nomatch h⟩
theorem Has.get (M : Has H L) (i : Nat) (h : L[i]? = some (a, o)) : H a = some o := M.is_ _ (List.mem_of_getElem? h)
theorem Has.one (h : H a = some o) : Has H [(a, o)] := ⟨by simp, fun p hp => by
  rw [List.mem_singleton.mp hp]
  exact h⟩
theorem keep_new (h : H a = some o) (hp : H p = none) : upd H p o' a = some o := by
  rw [upd_ne (ne_of_none h hp)]
  exact h
theorem Has.fresh (M : Has H L) (hp : H p = none) : p ∉ L.map (·.1) := fun h => by
  obtain ⟨q, hq, e⟩ := List.mem_map.mp h
  have := M.is_ q hq
  rw [e, hp] at this
  cases this
theorem Has.new (M : Has H L) (hp : H p = none) : Has (upd H p o) (L ++ [(p, o)]) where
  nd := by
    rw [List.map_append, List.nodup_append]
    refine ⟨M.nd, by simp, fun x hx y hy e => ?_⟩
    simp only [List.map_cons, List.map_nil, List.mem_singleton] at hy
    subst hy
    subst e
    exact M.fresh hp hx
  is_ := fun q hq => by
    rcases List.mem_append.mp hq with h | h
    · exact keep_new (M.is_ q h) hp
    · rw [List.mem_singleton.mp h]
      exact upd_same
theorem nodup_fst {L : List (Addr × HO)} (nd : (L.map (·.1)).Nodup) {i j : Nat} {a : Addr} {x y : HO} (hi : L[i]? = some (a, x)) (hj : L[j]? = some (a, y)) : i = j := by
  have h1 : (L.map (·.1))[i]? = some a := by rw [List.getElem?_map, hi]; rfl
  have h2 : (L.map (·.1))[j]? = some a := by rw [List.getElem?_map, hj]; rfl
  exact nd_ix nd h1 h2
theorem map_fst_set : ∀ {L : List (Addr × HO)} {i : Nat} {o o' : HO} {a : Addr}, L[i]? = some (a, o) → (L.set i (a, o')).map (·.1) = L.map (·.1)
  | [], _, _, _, _, h => by simp at h
  | p :: L, 0, _, _, _, h => by
    simp only [List.getElem?_cons_zero, Option.some.injEq] at h
    subst h
    rfl
  | p :: L, i + 1, o, o', a, h => by
    simp only [List.getElem?_cons_succ] at h
    simp only [List.set_cons_succ, List.map_cons, List.cons.injEq, true_and]
    exact map_fst_set h
/-- the object at place i is another one in H', the others stand -/
theorem Has.put (M : Has H L) (i : Nat) (h : L[i]? = some (a, o)) (k : ∀ b u, H b = some u → b ≠ a → H' b = some u) (e : H' a = some o') : Has H' (L.set i (a, o')) where
  nd := by
    rw [map_fst_set h]
    exact M.nd
  is_ := fun q hq => by
    obtain ⟨j, hj, e2⟩ := List.mem_iff_getElem.mp hq
    have hj' : (L.set i (a, o'))[j]? = some q := by rw [List.getElem?_eq_getElem hj, e2]
    rw [List.getElem?_set] at hj'
    split at hj'
    · split at hj'
      · cases hj'
        exact e
      · cases hj'
    · rename_i hij
      have hm := M.is_ q (List.mem_of_getElem? hj')
      refine k _ _ hm fun ea => hij ?_
      obtain ⟨b, u⟩ := q
      subst ea
      exact nodup_fst M.nd h hj'
theorem Has.set (M : Has H L) (i : Nat) (h : L[i]? = some (a, o)) : Has (upd H a o') (L.set i (a, o')) :=
  M.put i h (fun b u e n => by rw [upd_ne n]; exact e) upd_same
theorem Has.keep (M : Has H L) (k : Same H H') : Has H' L := ⟨M.nd, fun p hp => k _ _ (M.is_ p hp)⟩
theorem Has.sub (M : Has H L) {L' : List (Addr × HO)} (h : L'.Sublist L) : Has H L' := ⟨M.nd.sublist (h.map _), fun p hp => M.is_ p (h.subset hp)⟩
theorem Has.perm (M : Has H L) {L' : List (Addr × HO)} (h : L.Perm L') : Has H L' := ⟨(h.map _).nodup_iff.mp M.nd, fun p hp => M.is_ p (h.mem_iff.mpr hp)⟩
theorem Has.ne (M : Has H L) {b : Addr} {u : HO} (i j : Nat) (hi : L[i]? = some (a, o)) (hj : L[j]? = some (b, u)) (hij : i ≠ j) : a ≠ b := fun e => by
  subst e
  exact hij (nodup_fst M.nd hi hj)
end

/-- all that was tracked stands, but what stands at ms -/
def Keep (ms : List Addr) (H H' : Hp) : Prop := ∀ b o, H b = some o → b ∉ ms → H' b = some o
section
variable {ms : List Addr} {H H1 H2 : Hp} {L : List (Addr × HO)} {a p : Addr} {o o' : HO}
theorem Keep.refl : Keep ms H H := fun _ _ h _ => h
theorem Keep.trans (x : Keep ms H H1) (y : Keep ms H1 H2) : Keep ms H H2 := fun b o h n => y b o (x b o h n) n
theorem Keep.of (x : Same H H1) : Keep ms H H1 := fun b o h _ => x b o h
theorem Keep.same (x : Keep [] H H1) : Same H H1 := fun b o h => x b o h (nomatch ·)
theorem Keep.mono {ns : List Addr} (x : Keep ms H H1) (h : ∀ b ∈ ms, b ∈ ns) : Keep ns H H1 := fun b o e n => x b o e fun z => n (h b z)
theorem Same.new (hp : H p = none) : Same H (upd H p o) := fun b u h => keep_new h hp
theorem Keep.new (hp : H p = none) : Keep ms H (upd H p o) := .of (Same.new hp)
theorem Keep.set (h : a ∈ ms) : Keep ms H (upd H a o) := fun b u e n => by
  rw [upd_ne fun z => n (by rw [z]; exact h)]
  exact e
/-- an object that H does not know is changed -/
theorem Keep.mut (x : Keep ms H H1) (h : H a = none) : Keep ms H (upd H1 a o) := fun b u e n => by
  rw [upd_ne (ne_of_none e h)]
  exact x b u e n
theorem Has.call1 (M : Has H L) (k : Keep [a] H H1) (i : Nat) (h : L[i]? = some (a, o)) (e : H1 a = some o') : Has H1 (L.set i (a, o')) :=
  M.put i h (fun b u q n => k b u q (by simpa using n)) e
theorem Same.back (k : Same H H1) (h : H1 p = none) : H p = none := k.free h
theorem Keep.back (k : Keep ms H H1) (h : H1 p = none) (hm : p ∉ ms) : H p = none := by
  cases e : H p with
  | none => rfl
  | some o =>
    rw [k p o e hm] at h
    cases h
end

/-! ### joins, whiles -/
section
variable {X : Cx} {st : Stmt} {sts : List Stmt} {t : TS}
/-- behind a statement N holds, from which one goes on -/
def tJoin (t : TS) : TS := fun D σ H => ∃ N : L2.St → Hp → Prop, t { D with nx := N } σ H ∧ ∀ σ' H', N σ' H' → D.nx σ' H'
theorem SP.nx {pins : List (Addr × Obj)} {D : Ends} {N : L2.St → Hp → Prop} (h : ∀ σ' H', N σ' H' → D.nx σ' H') {f : PySem.Flow} {s' : Shared} (z : SP X pins { D with nx := N } f s') : SP X pins D f s' := by
  cases f with
  | next =>
    obtain ⟨σ', H', I, q⟩ := z
    exact ⟨σ', H', I, h _ _ q⟩
  | brk => exact z
  | cont => exact z
  | ret u => exact z
theorem ps_join (h : PS X st t) : PS X st (tJoin t) := ⟨fun pins s σ H D I ⟨N, h1, h2⟩ => thn (h.run pins s σ H _ I h1) fun _ _ z => SP.nx h2 z⟩
theorem pss_join (h : PSs X sts t) : PSs X sts (tJoin t) := ⟨fun pins s σ H D I ⟨N, h1, h2⟩ => thn (h.run pins s σ H _ I h1) fun _ _ z => SP.nx h2 z⟩
end

/-! ### the text's facts, defs by name -/
structure Txt (fa : List He.Fa) (fn : List He.DefD) (K : PySem.W.Frag) (mg : Str → Option Value) : Prop where
  c : He.SaysD fa fn K
  h : ∃ h : Heap, K.In h ∧ h.Ns mainGlobals mg
/-- a def that calls may name -/
structure Dn (P : Program) (w : World) (K : PySem.W.Frag) (mg : Str → Option Value) (base : Heap) (CX : CXT) (k : Nat) (x : Str) (ps : List Str) (sp : Sp) : Prop where
  ex : ∃ (f : Addr) (fd : FuncData), FnOk P w K mg base CX k f fd ps sp ∧ mg x = some (.ref f) ∧ PySem.W.keepIn K (.ref f) = true ∧ Binds K fd ps [] ∧ ∃ oc od osl, K.lookup f = some ⟨oc, od, .func fd, osl⟩
section
variable {fa : List He.Fa} {fn : List He.DefD} {P : Program} {w : World} {K : PySem.W.Frag} {mg : Str → Option Value} {base : Heap}
theorem Txt.glo (T : Txt fa fn K mg) (j : Nat) {x : Str} (h : fa[j]? = some (.glo x)) : mg x = some (.ref (He.ga K x)) := by
  obtain ⟨_, X, G⟩ := T.h
  exact He.glo_ok X G (T.c.fact j h)
theorem Txt.free (T : Txt fa fn K mg) (j : Nat) {x : Str} (h : fa[j]? = some (.free x)) : mg x = none := by
  obtain ⟨_, X, G⟩ := T.h
  exact He.free_ok X G (T.c.fact j h)
theorem Txt.int (T : Txt fa fn K mg) (j : Nat) {x : Str} {i : Int} (h : fa[j]? = some (.int x i)) : ∃ t, mg x = some (.int i t) := by
  obtain ⟨_, X, G⟩ := T.h
  exact He.int_ok X G (T.c.fact j h)
theorem Txt.def_ (T : Txt fa fn K mg) (i j : Nat) {d : He.DefD} (hd : fn[i]? = some d) (hg : fa[j]? = some (.glo d.at_.1)) (hm : d.at_.2 = none) (h1 : d.dfl = []) (h2 : d.kwd = []) :
    (∃ fd, FunD K d.name d.qual d.params d.body d.scope [] [] (He.ga K d.at_.1) fd) ∧ mg d.at_.1 = some (.ref (He.ga K d.at_.1)) := by
  refine ⟨?_, T.glo j hg⟩
  obtain ⟨fd, F⟩ := T.c.def_ i hd
  have e : He.fAd K d.at_ = He.ga K d.at_.1 := by
    unfold He.fAd
    rw [hm]
  have e1 : d.dvs K = [] := by
    unfold He.DefD.dvs
    rw [h1]
    rfl
  have e2 : d.kws K = [] := by
    unfold He.DefD.kws
    rw [h2]
    rfl
  rw [e, e1, e2] at F
  exact ⟨fd, F⟩
theorem Txt.str (T : Txt fa fn K mg) (j : Nat) {x z : Str} (h : fa[j]? = some (.str x z)) : ∃ t, mg x = some (.str z t) := by
  obtain ⟨_, X, G⟩ := T.h
  exact He.str_ok X G (T.c.fact j h)
/-- a global number, a global text -/
theorem pe_gint {X : Cx} (T : Txt fa fn K mg) (e : X.mg = mg) {x : Str} {i : Int} {pos : Pos} (j : Nat) (h : fa[j]? = some (.int x i)) (hg : Gl X x) (hd : (x == ("__debug__" : Str)) = false := by decide) : PE X (.Name x pos) (tC (.int i)) := by
  obtain ⟨t, ht⟩ := T.int j h
  exact pe_glob hg (by rw [e]; exact ht) ⟨t, rfl⟩ hd
theorem pe_gstr {X : Cx} (T : Txt fa fn K mg) (e : X.mg = mg) {x z : Str} {pos : Pos} (j : Nat) (h : fa[j]? = some (.str x z)) (hg : Gl X x) (hd : (x == ("__debug__" : Str)) = false := by decide) : PE X (.Name x pos) (tC (.str z)) := by
  obtain ⟨t, ht⟩ := T.str j h
  exact pe_glob hg (by rw [e]; exact ht) ⟨t, rfl⟩ hd
/-- a def without defaults that lets nothing out -/
theorem mk_dn (T : Txt fa fn K mg) (i j : Nat) {d : He.DefD} {N ps : List Str} {k : Nat} {sp : Sp} (hd : fn[i]? = some d) (hg : fa[j]? = some (.glo d.at_.1)) (hm : d.at_.2 = none) (h1 : d.dfl = []) (h2 : d.kwd = [])
    (S : FnScope N ps d.scope) (len : ∀ vs H Q E, sp vs H Q E → vs.length = ps.length)
    (hb : ∀ (kV doc pm : Value) (an : Option Addr) (cdv ct : Value) (us : List Value), us.length = ps.length → bindArgs (PySem.W.fnOf d.name d.qual d.params d.body d.scope .none kV doc pm an cdv ct) ⟨us, []⟩ = pure (ps.zip us))
    (hbody : ∀ (cdv : Value) (A : Around) (outer : List Env) (s : Shared) (H : Hp) (vs : List V) (Q : VK) (E : XK), Room k (A.deeper (envOfC d.qual d.scope s.heap.objs.size (He.ga K d.at_.1) cdv)) → sp vs H Q E →
      ∃ t, PSs (cxOf CX0 P w K mg base N d.qual d.scope (He.ga K d.at_.1) cdv A outer s H E).nox d.body t ∧ t { nx := fun _ H' => Q .non H', rt := Q } (start N vs) H) : Dn P w K mg base CX0 (k + 1) d.at_.1 ps sp := by
  obtain ⟨⟨fd, F⟩, g⟩ := T.def_ i j hd hg hm h1 h2
  refine ⟨_, fd, F.ok S len fun cdv A outer s H vs Q E hr h => ?_, g, F.kp, F.bindsN hb, by
    obtain ⟨oc, od, dV, kV, doc, pm, an, cdv, ct, osl, e, lk, _⟩ := F.ex
    exact ⟨_, _, _, lk⟩⟩
  obtain ⟨t, p, q⟩ := hbody cdv A outer s H vs Q E hr h
  exact ⟨t, p.nox, q⟩
theorem Dn.imp {CX : CXT} {k : Nat} {x : Str} {ps : List Str} {sp sp' : Sp} (D : Dn P w K mg base CX k x ps sp) (h : ∀ vs H Q E, sp' vs H Q E → sp vs H Q E) : Dn P w K mg base CX k x ps sp' := by
  obtain ⟨f, fd, F, a, b, c⟩ := D.ex
  exact ⟨f, fd, F.imp h, a, b, c⟩
theorem Dn.mono {CX : CXT} {j k : Nat} {x : Str} {ps : List Str} {sp : Sp} (D : Dn P w K mg base CX j x ps sp) (h : j ≤ k) : Dn P w K mg base CX k x ps sp := by
  obtain ⟨f, fd, F, a, b, c⟩ := D.ex
  exact ⟨f, fd, F.mono h, a, b, c⟩
end
section
variable {X : Cx} {CX : CXT} {k : Nat} {ps : List Str} {sp : Sp} {E : XK} {x : Str} {p pos : Pos} {e : Expr} {es : List Expr} {t : TA}
theorem pe_callD {K : PySem.W.Frag} (hK : X.K = K) (D : Dn X.prog X.w K X.mg X.base CX k x ps sp) (hr : Room k X.A) (hg : Gl X x) (hx : Passes CX X E)
    (ha : PA X (e :: es) t) (hdb : (x == ("__debug__" : Str)) = false := by decide) (he : starEach (e :: es) X.env = (false, eval e X.env) :: starEach es X.env := by rfl) (hpl : (backTo pos (starEach es X.env)).any (·.1) = false := by rfl) :
    PE X (.Call (.Name x p) (e :: es) [] pos) (tCall sp [] E t) := by
  subst hK
  obtain ⟨f, fd, F, m, kp, b, _⟩ := D.ex
  exact pe_call F hr hg m kp b .nil hx ha hdb he hpl
theorem pe_callD0 {K : PySem.W.Frag} (hK : X.K = K) (D : Dn X.prog X.w K X.mg X.base CX k x ps sp) (hr : Room k X.A) (hg : Gl X x) (hx : Passes CX X E)
    (hdb : (x == ("__debug__" : Str)) = false := by decide) :
    PE X (.Call (.Name x p) [] [] pos) (tCall sp [] E tNil) := by
  subst hK
  obtain ⟨f, fd, F, m, kp, b, _⟩ := D.ex
  exact pe_call0 F hr hg m kp b .nil hx hdb
end

/-! ### the law's own end -/
theorem law_facts {fa : List He.Fa} {fn : List He.DefD} {P : Program} {w : World} {K : PySem.W.Frag} {h : Heap} {mg : Str → Option Value} {f : Addr} {d : He.DefD} {k : Nat} {sp : Sp} (X : K.In h) (G : h.Ns mainGlobals mg)
    (hfa : mg d.at_.1 = some (.ref f)) (c : He.SaysD fa fn K) (i j : Nat) (hd : fn[i]? = some d) (hg : fa[j]? = some (.glo d.at_.1)) (hm : d.at_.2 = none) (h1 : d.dfl = []) (h2 : d.kwd = [])
    (hb : ∀ (kV doc pm : Value) (an : Option Addr) (cdv ct : Value) (us : List Value), us.length = 1 → bindArgs (PySem.W.fnOf d.name d.qual d.params d.body d.scope .none kV doc pm an cdv ct) ⟨us, []⟩ = pure ((["script"] : List Str).zip us))
    (ok : ∀ base, Txt fa fn K mg → Dn P w K mg base CX0 k d.at_.1 ["script"] sp) :
    ∃ fd : FuncData, (∀ (s : Shared) (v : Value), BindsTo s fd ⟨[v], []⟩ [("script", v)]) ∧ ∀ base : Heap, K.In base → base.Ns mainGlobals mg → FnOk P w K mg base CX0 k f fd ["script"] sp := by
  have T : Txt fa fn K mg := ⟨c, h, X, G⟩
  obtain ⟨⟨fd, F⟩, g⟩ := T.def_ i j hd hg hm h1 h2
  rw [hfa] at g
  cases g
  have b := FunD.bindsA (ps := ["script"]) F hb
  refine ⟨fd, fun s v => b s [v] rfl, fun base _ _ => ?_⟩
  obtain ⟨f2, fd2, F2, m, _, _, oc, od, osl, lk⟩ := (ok base T).ex
  rw [hfa] at m
  cases m
  obtain ⟨oc', od', dV, kV, doc, pm, an, cdv, ct, osl', e, lk', _⟩ := F.ex
  rw [lk] at lk'
  cases lk'
  exact F2

/-! ### classes -/
section
variable {fa : List He.Fa} {fn : List He.DefD} {P : Program} {w : World} {K : PySem.W.Frag} {mg : Str → Option Value} {base : Heap}
theorem Txt.cls (T : Txt fa fn K mg) (j : Nat) {x : Str} (h : fa[j]? = some (.cls x)) : Cls K (He.ga K x) := He.cls_ok (T.c.fact j h)
theorem Txt.noat (T : Txt fa fn K mg) (j : Nat) {x f : Str} (h : fa[j]? = some (.noat x f)) : NoAttr K (He.ga K x) f := He.noat_ok (T.c.fact j h)
theorem Txt.meth (T : Txt fa fn K mg) (j : Nat) {x m : Str} (h : fa[j]? = some (.meth x m)) : Meth K (He.ga K x) m (He.ma K (He.ga K x) m) := He.meth_ok (T.c.fact j h)
theorem Txt.mkr (T : Txt fa fn K mg) (j : Nat) {x : Str} (h : fa[j]? = some (.mkr x)) : Mk K (He.ga K x) (He.ma K (He.ga K x) "__init__") := He.mkr_ok (T.c.fact j h)
/-- a method by its class's name -/
structure Mt (P : Program) (w : World) (K : PySem.W.Frag) (mg : Str → Option Value) (base : Heap) (CX : CXT) (k : Nat) (c m : Str) (ps : List Str) (sp : Sp) : Prop where
  ex : ∃ (f : Addr) (fd : FuncData), FnOk P w K mg base CX k f fd ps sp ∧ f = He.ma K (He.ga K c) m ∧ Binds K fd ps []
theorem Txt.defm (T : Txt fa fn K mg) (i : Nat) {d : He.DefD} {c m : Str} (hd : fn[i]? = some d) (hm : d.at_ = (c, some m)) (h1 : d.dfl = []) (h2 : d.kwd = []) :
    ∃ fd, FunD K d.name d.qual d.params d.body d.scope [] [] (He.ma K (He.ga K c) m) fd := by
  obtain ⟨fd, F⟩ := T.c.def_ i hd
  have e : He.fAd K d.at_ = He.ma K (He.ga K c) m := by
    unfold He.fAd
    rw [hm]
  have e1 : d.dvs K = [] := by
    unfold He.DefD.dvs
    rw [h1]
    rfl
  have e2 : d.kws K = [] := by
    unfold He.DefD.kws
    rw [h2]
    rfl
  rw [e, e1, e2] at F
  exact ⟨fd, F⟩
/-- a method without defaults that lets nothing out -/
theorem mk_mt (T : Txt fa fn K mg) (i : Nat) {d : He.DefD} {c m : Str} {N ps : List Str} {k : Nat} {sp : Sp} (hd : fn[i]? = some d) (hm : d.at_ = (c, some m)) (h1 : d.dfl = []) (h2 : d.kwd = [])
    (S : FnScope N ps d.scope) (len : ∀ vs H Q E, sp vs H Q E → vs.length = ps.length)
    (hb : ∀ (kV doc pm : Value) (an : Option Addr) (cdv ct : Value) (us : List Value), us.length = ps.length → bindArgs (PySem.W.fnOf d.name d.qual d.params d.body d.scope .none kV doc pm an cdv ct) ⟨us, []⟩ = pure (ps.zip us))
    (hbody : ∀ (cdv : Value) (A : Around) (outer : List Env) (s : Shared) (H : Hp) (vs : List V) (Q : VK) (E : XK), Room k (A.deeper (envOfC d.qual d.scope s.heap.objs.size (He.ma K (He.ga K c) m) cdv)) → sp vs H Q E →
      ∃ t, PSs (cxOf CX0 P w K mg base N d.qual d.scope (He.ma K (He.ga K c) m) cdv A outer s H E).nox d.body t ∧ t { nx := fun _ H' => Q .non H', rt := Q } (start N vs) H) : Mt P w K mg base CX0 (k + 1) c m ps sp := by
  obtain ⟨fd, F⟩ := T.defm i hd hm h1 h2
  refine ⟨_, fd, F.ok S len fun cdv A outer s H vs Q E hr h => ?_, rfl, F.bindsN hb⟩
  obtain ⟨t, p, q⟩ := hbody cdv A outer s H vs Q E hr h
  exact ⟨t, p.nox, q⟩
theorem Mt.mono {CX : CXT} {j k : Nat} {c m : Str} {ps : List Str} {sp : Sp} (D : Mt P w K mg base CX j c m ps sp) (h : j ≤ k) : Mt P w K mg base CX k c m ps sp := by
  obtain ⟨f, fd, F, a, b⟩ := D.ex
  exact ⟨f, fd, F.mono h, a, b⟩
end
section
variable {X : Cx} {CX : CXT} {k : Nat} {ps : List Str} {sp : Sp} {E : XK} {c m : Str} {p pos apos : Pos} {e o : Expr} {es : List Expr} {ta : TE} {t : TA}
theorem pe_methD {K : PySem.W.Frag} (hK : X.K = K) {pl : Sem Bool} (D : Mt X.prog X.w K X.mg X.base CX k c m ps sp) (cl : Cls K (He.ga K c)) (hm : Meth K (He.ga K c) m (He.ma K (He.ga K c) m)) (hr : Room k X.A) (hx : Passes CX X E) (he : PE X o ta) (ha : PA X (e :: es) t)
    (hst : starEach (e :: es) X.env = (false, eval e X.env) :: starEach es X.env := by rfl) (hpl : (backTo pos (starEach es X.env)).any (·.1) = false := by rfl)
    (ht : eval (.Call (.Attribute o m apos) (e :: es) [] pos) X.env = (do let ov ← eval o X.env; standAt apos.atName; let (f, first) ← holding [ov] (getMethod ov m pl); callWith pos f first (backTo pos (starEach (e :: es) X.env)) (backToKw pos (keywordEach [] X.env))) := by rfl) :
    PE X (.Call (.Attribute o m apos) (e :: es) [] pos) (tMeth (He.ga K c) m sp [] E ta t) := by
  subst hK
  obtain ⟨f, fd, F, rfl, b⟩ := D.ex
  exact pe_meth he cl hm F hr b .nil hx ha hst hpl ht
theorem pe_methD0 {K : PySem.W.Frag} (hK : X.K = K) {pl : Sem Bool} (D : Mt X.prog X.w K X.mg X.base CX k c m ps sp) (cl : Cls K (He.ga K c)) (hm : Meth K (He.ga K c) m (He.ma K (He.ga K c) m)) (hr : Room k X.A) (hx : Passes CX X E) (he : PE X o ta)
    (ht : eval (.Call (.Attribute o m apos) [] [] pos) X.env = (do let ov ← eval o X.env; standAt apos.atName; let (f, first) ← holding [ov] (getMethod ov m pl); callWith pos f first (backTo pos (starEach [] X.env)) (backToKw pos (keywordEach [] X.env))) := by rfl) :
    PE X (.Call (.Attribute o m apos) [] [] pos) (tMeth (He.ga K c) m sp [] E ta tNil) := by
  subst hK
  obtain ⟨f, fd, F, rfl, b⟩ := D.ex
  exact pe_meth0 he cl hm F hr b .nil hx ht
theorem pe_makeD {K : PySem.W.Frag} (hK : X.K = K) (D : Mt X.prog X.w K X.mg X.base CX k c "__init__" ps sp) (M : Mk K (He.ga K c) (He.ma K (He.ga K c) "__init__")) (hr : Room (k + 1) X.A) (hg : Gl X c) (hm : X.mg c = some (.ref (He.ga K c))) (hx : Passes CX X E)
    (ha : PA X (e :: es) t) (hdb : (c == ("__debug__" : Str)) = false := by decide) (he : starEach (e :: es) X.env = (false, eval e X.env) :: starEach es X.env := by rfl) (hpl : (backTo pos (starEach es X.env)).any (·.1) = false := by rfl) :
    PE X (.Call (.Name c p) (e :: es) [] pos) (tMake (He.ga K c) sp [] E t) := by
  subst hK
  obtain ⟨f, fd, F, rfl, b⟩ := D.ex
  exact pe_make M F hr hg hm b .nil hx ha hdb he hpl
end
/-! ### fields by their places -/
section
variable {fs : List (Str × V)} {f : Str} {v y : V}
theorem lk_ix : ∀ {fs : List (Str × V)} (n : Nat), (fs.map (·.1)).Nodup → fs[n]? = some (f, v) → fs.lookup f = some v
  | [], _, _, h => by simp at h
  | p :: fs, 0, _, h => by
    simp only [List.getElem?_cons_zero, Option.some.injEq] at h
    subst h
    simp [List.lookup]
  | p :: fs, n + 1, nd, h => by
    simp only [List.getElem?_cons_succ] at h
    obtain ⟨g, x⟩ := p
    rw [List.map_cons, List.nodup_cons] at nd
    have hm : f ∈ fs.map (·.1) := List.mem_map.mpr ⟨(f, v), List.mem_of_getElem? h, rfl⟩
    have ne : (f == g) = false := beq_eq_false_iff_ne.mpr fun e => nd.1 (e ▸ hm)
    simp only [List.lookup, ne]
    exact lk_ix n nd.2 h
theorem lk_none : ∀ {fs : List (Str × V)}, f ∉ fs.map (·.1) → fs.lookup f = none
  | [], _ => rfl
  | (g, x) :: fs, h => by
    rw [List.map_cons, List.mem_cons, not_or] at h
    have ne : (f == g) = false := beq_eq_false_iff_ne.mpr h.1
    simp only [List.lookup, ne]
    exact lk_none h.2
theorem pt_ix : ∀ {fs : List (Str × V)} (n : Nat), (fs.map (·.1)).Nodup → fs[n]? = some (f, v) → putF f y fs = fs.set n (f, y)
  | [], _, _, h => by simp at h
  | p :: fs, 0, _, h => by
    simp only [List.getElem?_cons_zero, Option.some.injEq] at h
    subst h
    simp [putF]
  | p :: fs, n + 1, nd, h => by
    simp only [List.getElem?_cons_succ] at h
    obtain ⟨g, x⟩ := p
    rw [List.map_cons, List.nodup_cons] at nd
    have hm : f ∈ fs.map (·.1) := List.mem_map.mpr ⟨(f, v), List.mem_of_getElem? h, rfl⟩
    have ne : ¬ g = f := fun e => nd.1 (e ▸ hm)
    simp only [putF, if_neg ne, List.set_cons_succ]
    rw [pt_ix n nd.2 h]
theorem pt_new : ∀ {fs : List (Str × V)}, f ∉ fs.map (·.1) → putF f y fs = fs ++ [(f, y)]
  | [], _ => rfl
  | (g, x) :: fs, h => by
    rw [List.map_cons, List.mem_cons, not_or] at h
    have ne : ¬ g = f := fun e => h.1 e.symm
    simp only [putF, if_neg ne, List.cons_append]
    rw [pt_new h.2]
end

section
variable {H H' : Hp} {L : List (Addr × HO)} {a : Addr} {o : HO}
theorem Has.add (M : Has H L) (h : H a = some o) (n : a ∉ L.map (·.1)) : Has H (L ++ [(a, o)]) where
  nd := by
    rw [List.map_append, List.nodup_append]
    refine ⟨M.nd, by simp, fun x hx y hy e => ?_⟩
    rw [List.map_singleton, List.mem_singleton] at hy
    have e2 : x = a := e.trans hy
    exact n (e2 ▸ hx)
  is_ := fun q hq => by
    rcases List.mem_append.mp hq with z | z
    · exact M.is_ q z
    · rw [List.mem_singleton.mp z]
      exact h
end

theorem Keep.tup {ms : List Addr} {H H' : Hp} {t : Addr} {xs : List V} (k : Keep ms H H') (hm : ∀ m ∈ ms, ∃ o, H m = some o ∧ ∀ xs, o ≠ .tup xs) (h : H t = some (.tup xs)) : H' t = some (.tup xs) :=
  k t _ h fun z => by
    obtain ⟨o, e, n⟩ := hm t z
    rw [h] at e
    exact n xs (Option.some.inj e).symm

/-! ### parts of the heap's list, tables of lists -/
section
variable {H H' : Hp} {X Y L L' : List (Addr × HO)} {a : Addr} {o o' : HO}
theorem Has.mid (M : Has H (X ++ (L ++ Y))) : Has H L := M.sub ((List.sublist_append_left L Y).trans (List.sublist_append_right X _))
/-- a part has changed, the rest stands -/
theorem Has.frame (M : Has H (X ++ (L ++ Y))) (k : Keep (L.map (·.1)) H H') (M' : Has H' L') (e : L'.map (·.1) = L.map (·.1)) : Has H' (X ++ (L' ++ Y)) where
  nd := by
    have z := M.nd
    rw [List.map_append, List.map_append] at z ⊢
    rw [e]
    exact z
  is_ := fun q hq => by
    have z := M.nd
    rw [List.map_append, List.map_append, List.nodup_append] at z
    obtain ⟨_, z2, z3⟩ := z
    rw [List.nodup_append] at z2
    obtain ⟨_, _, z4⟩ := z2
    rcases List.mem_append.mp hq with h | h
    · refine k _ _ (M.is_ q (List.mem_append_left _ h)) fun hm => ?_
      exact z3 q.1 (List.mem_map_of_mem h) q.1 (List.mem_append_left _ hm) rfl
    · rcases List.mem_append.mp h with h | h
      · exact M'.is_ q h
      · refine k _ _ (M.is_ q (List.mem_append_right _ (List.mem_append_right _ h))) fun hm => ?_
        exact z4 q.1 hm q.1 (List.mem_map_of_mem h) rfl
/-- the lists at these addresses -/
def tab : List Addr → List (List V) → List (Addr × HO)
  | a :: as, r :: rs => (a, .lst r) :: tab as rs
  | _, _ => []
theorem tab_get : ∀ {as : List Addr} {rs : List (List V)} {i : Nat} {a : Addr} {r : List V}, as[i]? = some a → rs[i]? = some r → (tab as rs)[i]? = some (a, .lst r)
  | [], _, _, _, _, h, _ => by simp at h
  | _ :: _, [], _, _, _, _, h => by simp at h
  | a :: as, r :: rs, 0, _, _, h, h2 => by
    simp only [List.getElem?_cons_zero, Option.some.injEq] at h h2
    subst h
    subst h2
    rfl
  | a :: as, r :: rs, i + 1, _, _, h, h2 => by
    simp only [List.getElem?_cons_succ] at h h2
    exact tab_get (as := as) h h2
theorem tab_set : ∀ {as : List Addr} {rs : List (List V)} {i : Nat} {a : Addr} {r : List V}, as[i]? = some a → (tab as rs).set i (a, .lst r) = tab as (rs.set i r)
  | [], _, _, _, _, h => by simp at h
  | _ :: _, [], _, _, _, _ => rfl
  | a :: as, r :: rs, 0, _, _, h => by
    simp only [List.getElem?_cons_zero, Option.some.injEq] at h
    subst h
    rfl
  | a :: as, r :: rs, i + 1, _, _, h => by
    simp only [List.getElem?_cons_succ] at h
    show (a, HO.lst r) :: (tab as rs).set i _ = _
    rw [tab_set h]
    rfl
theorem tab_fst : ∀ {as : List Addr} {rs : List (List V)}, as.length = rs.length → (tab as rs).map (·.1) = as
  | [], [], _ => rfl
  | [], _ :: _, h => by simp at h
  | _ :: _, [], h => by simp at h
  | a :: as, r :: rs, h => by
    simp only [List.length_cons, Nat.add_right_cancel_iff] at h
    show a :: (tab as rs).map (·.1) = _
    rw [tab_fst h]
variable {as : List Addr} {rs : List (List V)} {i : Nat} {r r' : List V}
theorem Has.tabGet (M : Has H (X ++ (tab as rs ++ Y))) (ha : as[i]? = some a) (hr : rs[i]? = some r) : H a = some (.lst r) := M.mid.get i (tab_get ha hr)
theorem Has.tabSet (M : Has H (X ++ (tab as rs ++ Y))) (ha : as[i]? = some a) (hr : rs[i]? = some r) : Has (upd H a (.lst r')) (X ++ (tab as (rs.set i r') ++ Y)) := by
  have h := tab_get ha hr
  have hi := (List.getElem?_eq_some_iff.mp h).1
  have h2 : (X ++ (tab as rs ++ Y))[X.length + i]? = some (a, .lst r) := by
    rw [List.getElem?_append_right (Nat.le_add_right _ _), Nat.add_sub_cancel_left, List.getElem?_append_left hi]
    exact h
  have M2 := M.set (o' := .lst r') _ h2
  have e : (X ++ (tab as rs ++ Y)).set (X.length + i) (a, .lst r') = X ++ (tab as (rs.set i r') ++ Y) := by
    rw [List.set_append_right _ _ (Nat.le_add_right _ _), Nat.add_sub_cancel_left, List.set_append_left _ _ hi, tab_set ha]
  rw [e] at M2
  exact M2
/-- one more list at the end of a table -/
theorem tab_snoc : ∀ {as : List Addr} {rs : List (List V)}, as.length = rs.length → tab (as ++ [a]) (rs ++ [r]) = tab as rs ++ [(a, .lst r)]
  | [], [], _ => rfl
  | [], _ :: _, h => by simp at h
  | _ :: _, [], h => by simp at h
  | b :: as, r' :: rs, h => by
    simp only [List.length_cons, Nat.add_right_cancel_iff] at h
    show (b, HO.lst r') :: tab (as ++ [a]) (rs ++ [r]) = _
    rw [tab_snoc h]
    rfl
end
end G

set_option Elab.async false
set_option linter.all false
set_option maxRecDepth 100000
set_option maxHeartbeats 4000000
/-! Rules that take any kind of value, and the walk of a reading step by step. -/
namespace G
open PySem PySem.Spec PyProof.Rows L2

/-! ### a tuple, repeated -/
theorem tuple_mul1 (l : Addr) (items : Array Value) (n : Nat) (dd : Option Addr) (sl : Array (Option Value)) (u : Tok) :
    Meets (Builtin.«tuple.__mul__» ⟨[.ref l, .int 1 u], []⟩) (fun _ R s => s.heap.get? l = some { cls := .type "tuple", dict := dd, data := .seq items n, slots := sl } ∧
      R (.ok (.ret (Value.ref l))) s) :=
  .of_wp fun prog w A R s h => by
    obtain ⟨hp, g, d, tk, os⟩ := s
    obtain ⟨hl, h⟩ := h
    have f1 := AutoSeq1.idx_int
    have c0 : (decide ((1 : Int) < -(2 ^ 63)) || decide ((1 : Int) ≥ 2 ^ 63)) = false := by decide
    have c1 : (items.isEmpty || (1 : Int) == 1) = true := by rw [Bool.or_eq_true]; exact .inr rfl
    wp_walk using wpAny_loadPart' hl
    repeat (first
      | (refine wpAny_ite_false (decide_eq_false (by rw [c0]; exact Bool.false_ne_true)) ?_; wp_walk using wpAny_loadPart' hl)
      | (refine wpAny_ite_true (decide_eq_true c1) ?_; wp_walk using wpAny_loadPart' hl))
    exact ⟨_, rfl, h⟩
def rRepT1 (K : PySem.W.Frag) : R2 := fun x y H Q => ∃ l xs, x = .ref l ∧ y = .int 1 ∧ SqT K H l xs ∧ Q x H
theorem op_repT1 {X : Cx} : OpR X (binaryOp .Mult) (rRepT1 X.K) := by
  intro pins s σ H x y v u Q I rx ry h
  obtain ⟨l, xs, rfl, rfl, hT, q⟩ := h
  cases rx
  obtain ⟨t, rfl⟩ := ry
  obtain ⟨its, r, ⟨⟨cls, dd, data, sl⟩, ho, hc, n, hd⟩, hs⟩ := I.tuple hT
  simp only at hc hd
  subst hc hd
  exact wpAny_binaryOp_repeat_ref (T := "tuple") (U := "int") (by decide) ⟨_, ho, rfl⟩ (fun s' => typeIs_int s' 1 t) noFill_tuple_mul F.fills_int_mul F.slot_int_rmul repeat_tuple F.slot_int_index.lookup
    (call_meets F.slot_int_rmul (typeIs_int s 1 t) F.entry_int_rmul (F.args_int_rmul_2 _ _) (int_rmul_tuple 1 t l its.toArray n dd sl)
      ⟨ho, rfl, ⟨_, ho, rfl⟩, call_meets F.slot_tuple_mul ⟨_, ho, rfl⟩ F.entry_tuple_mul (F.args_tuple_mul_2 _ _) (tuple_mul1 l its.toArray n dd sl t) ⟨ho, ⟨.ref l, H, I, rfl, q⟩⟩⟩)
/-- t * k of a tuple, 1 to 1000 times -/
def rRepTU : R2 := fun x y H Q => ∃ l k xs, x = .ref l ∧ y = .int k ∧ H l = some (.tup xs) ∧ xs ≠ [] ∧ 1 ≤ k ∧ k ≤ 1000 ∧ xs.length ≤ 1000 ∧ ∀ p H', Same H H' → H' p = some (.tup (List.replicate k.toNat xs).flatten) → Q (.ref p) H'
theorem op_repTU {X : Cx} : OpR X (binaryOp .Mult) rRepTU := by
  intro pins s σ H x y v u Q I rx ry h
  obtain ⟨l, k, xs, rfl, rfl, hT, hne, h1, h2, hl, q⟩ := h
  by_cases hk : k = 1
  · subst hk
    refine op_repT1 pins s σ H _ _ v u Q I rx ry ⟨l, xs, rfl, rfl, SqT.of hT, q l H (Same.refl H) ?_⟩
    rw [hT]
    simp
  · exact op_repT pins s σ H _ _ v u Q I rx ry ⟨l, k, xs, rfl, rfl, SqT.of hT, hne, by omega, h2, hl, fun p hp => q p _ (Same.new hp) upd_same⟩
/-! ### rules for any kind of value -/
def rAddU (K : PySem.W.Frag) : R2 := fun x y H Q => match x, y with
  | .int i, .int j => Q (.int (i + j)) H
  | .str a, .str b => a.length + b.length ≤ sizeLine ∧ Q (.str (a ++ b)) H
  | .ref a, .ref b => rCat (.ref a) (.ref b) H Q ∨ rCatA K (.ref a) (.ref b) H Q
  | _, _ => False
def rMulU : R2 := fun x y H Q => match x, y with
  | .int i, .int j => (CMul i j ∨ CMulW i j) ∧ Q (.int (i * j)) H
  | .ref a, .int j => rRep (.ref a) (.int j) H Q ∨ rRepTU (.ref a) (.int j) H Q
  | _, _ => False
def rEqU (K : PySem.W.Frag) (neg : Bool) : R2 := fun x y H Q => (scal x y = true ∧ Q (.bl (if neg then !decide (x = y) else decide (x = y))) H) ∨ (if neg then rNeD K x y H Q else rEqD K x y H Q)
/-- the heap's dict at a holds o at y -/
def rInDT (K : PySem.W.Frag) (neg : Bool) : R2 := fun x y H Q => ∃ d ds, Dp K H x d ∧ (Dp K H y (.tuple ds) ∨ Dp K H y (.list ds)) ∧ SeqAt.shaped d = true ∧ PyData.canLayAll0 ds = true ∧ Q (.bl (if neg then !(ds.any fun z => PyData.eqv z d) else ds.any fun z => PyData.eqv z d)) H
theorem hu65 {A : Around} {k : Nat} (hr : Room k A) : A.units + 65 < cLine := by have := hr.un; omega
theorem op_inDT {X : Cx} (hu : X.A.units + 65 < cLine) : OpR X (compareOp .In) (rInDT X.K false) := by
  intro pins s σ H x y v u Q I rx ry h
  obtain ⟨d, ds, hd, he, sd, se, q⟩ := h
  obtain ⟨as, r1⟩ := Dp.reads I d x v hd rx
  rcases he with he | he
  · obtain ⟨bs, r2⟩ := Dp.reads I (.tuple ds) y u he ry
    exact SeqAt.in_tuple_reads r2 r1 se (SeqAt.canLay_of_shaped sd) (room_in_shaped sd hu) ⟨.bl _, H, I, rfl, q⟩
  · obtain ⟨bs, r2⟩ := Dp.reads I (.list ds) y u he ry
    exact SeqAt.in_list_reads r2 r1 se (SeqAt.canLay_of_shaped sd) (room_in_shaped sd hu) ⟨.bl _, H, I, rfl, q⟩
theorem op_niDT {X : Cx} (hu : X.A.units + 65 < cLine) : OpR X (compareOp .NotIn) (rInDT X.K true) := by
  intro pins s σ H x y v u Q I rx ry h
  obtain ⟨d, ds, hd, he, sd, se, q⟩ := h
  obtain ⟨as, r1⟩ := Dp.reads I d x v hd rx
  rcases he with he | he
  · obtain ⟨bs, r2⟩ := Dp.reads I (.tuple ds) y u he ry
    exact SeqAt.notIn_tuple_reads r2 r1 se (SeqAt.canLay_of_shaped sd) (room_in_shaped sd hu) ⟨.bl _, H, I, rfl, q⟩
  · obtain ⟨bs, r2⟩ := Dp.reads I (.list ds) y u he ry
    exact SeqAt.notIn_list_reads r2 r1 se (SeqAt.canLay_of_shaped sd) (room_in_shaped sd hu) ⟨.bl _, H, I, rfl, q⟩
def rInU (K : PySem.W.Frag) (neg : Bool) : R2 := fun x y H Q => rIn K neg x y H Q ∨ (∃ a o, y = .ref a ∧ DGet H a x o ∧ Q (.bl (if neg then !o.isSome else o.isSome)) H) ∨
  (∃ c z, x = .str ⟨#[c]⟩ ∧ y = .str z ∧ Q (.bl (if neg then !decide (c ∈ z.cps.toList) else decide (c ∈ z.cps.toList))) H) ∨ rInDT K neg x y H Q
def rIxU (K : PySem.W.Frag) : R2 := fun x y H Q => rIxL K x y H Q ∨ rIxT K x y H Q ∨ rIxS x y H Q ∨ ∃ a v, x = .ref a ∧ DGet H a y (some v) ∧ Q v H
def rLenU (K : PySem.W.Frag) : List V → Hp → VK → Prop := fun xs H Q => (∃ x n, xs = [x] ∧ LenV K x H n ∧ Q (.int n) H) ∨ ∃ a kvs, xs = [.ref a] ∧ H a = some (.dK kvs) ∧ Q (.int (kvs.length : Nat)) H
def rAbs : List V → Hp → VK → Prop := fun xs H Q => ∃ i, xs = [.int i] ∧ Q (.int (if i < 0 then -i else i)) H
def rMax2 : List V → Hp → VK → Prop := fun xs H Q => ∃ i j, xs = [.int i, .int j] ∧ Q (.int (if j > i then j else i)) H
def rMin2 : List V → Hp → VK → Prop := fun xs H Q => ∃ i j, xs = [.int i, .int j] ∧ Q (.int (if j < i then j else i)) H
def rInt1 : List V → Hp → VK → Prop := fun xs H Q => (∃ i, xs = [.int i] ∧ Q (.int i) H) ∨ ∃ k, xs = [.bl k] ∧ Q (.int (if k then 1 else 0)) H
def rStrI : List V → Hp → VK → Prop := fun xs H Q => ∃ i, xs = [.int i] ∧ i.natAbs.log2 < 1920 ∧ Q (.str (toString i)) H
def rCmpI (p : Int → Int → Bool) : R2 := rI0 fun i j => .bl (p i j)

section
variable {X : Cx} {a b c : Expr} {ta tb tc : TE} {pos : Pos}
theorem op_addU {K : PySem.W.Frag} (hK : X.K = K) : OpR X (binaryOp .Add) (rAddU K) := by
  subst hK
  intro pins s σ H x y v u Q I rx ry h
  cases x <;> cases y <;> first | exact h.elim | skip
  · exact op_add pins s σ H _ _ v u Q I rx ry ⟨_, _, rfl, rfl, h⟩
  · exact op_add_str pins s σ H _ _ v u Q I rx ry ⟨_, _, rfl, rfl, h.1, h.2⟩
  · rcases h with h | h
    · exact op_cat pins s σ H _ _ v u Q I rx ry h
    · exact op_catA pins s σ H _ _ v u Q I rx ry h
theorem op_mulU : OpR X (binaryOp .Mult) rMulU := by
  intro pins s σ H x y v u Q I rx ry h
  cases x <;> cases y <;> first | exact h.elim | skip
  · rcases h with ⟨h | h, q⟩
    · exact op_mul pins s σ H _ _ v u Q I rx ry ⟨_, _, rfl, rfl, h, q⟩
    · exact op_mulW pins s σ H _ _ v u Q I rx ry ⟨_, _, rfl, rfl, h, q⟩
  · rcases h with h | h
    · exact op_rep pins s σ H _ _ v u Q I rx ry h
    · exact op_repTU pins s σ H _ _ v u Q I rx ry h
theorem op_eqU {K : PySem.W.Frag} (hK : X.K = K) (hu : X.A.units + 64 < cLine) : OpR X (compareOp .Eq) (rEqU K false) := by
  subst hK
  intro pins s σ H x y v u Q I rx ry h
  rcases h with ⟨hs, q⟩ | h
  · exact op_eq pins s σ H x y v u Q I rx ry ⟨hs, q⟩
  · exact op_eqD hu pins s σ H x y v u Q I rx ry h
theorem op_neU {K : PySem.W.Frag} (hK : X.K = K) (hu : X.A.units + 64 < cLine) : OpR X (compareOp .NotEq) (rEqU K true) := by
  subst hK
  intro pins s σ H x y v u Q I rx ry h
  rcases h with ⟨hs, q⟩ | h
  · exact op_ne pins s σ H x y v u Q I rx ry ⟨hs, q⟩
  · exact op_neD hu pins s σ H x y v u Q I rx ry h
theorem op_inU {K : PySem.W.Frag} (hK : X.K = K) (hu : X.A.units + 65 < cLine) : OpR X (compareOp .In) (rInU K false) := by
  subst hK
  intro pins s σ H x y v u Q I rx ry h
  rcases h with h | ⟨a, o, rfl, g, q⟩ | ⟨c, z, rfl, rfl, q⟩ | h
  · exact op_in_seq pins s σ H x y v u Q I rx ry h
  · obtain rfl : u = Value.ref a := ry
    exact d_in (by omega) I g rx fun s1 I1 => ⟨.bl _, H, I1, rfl, q⟩
  · exact op_in_sign pins s σ H _ _ v u Q I rx ry ⟨c, z, rfl, rfl, q⟩
  · exact op_inDT hu pins s σ H x y v u Q I rx ry h
theorem op_niU {K : PySem.W.Frag} (hK : X.K = K) (hu : X.A.units + 65 < cLine) : OpR X (compareOp .NotIn) (rInU K true) := by
  subst hK
  intro pins s σ H x y v u Q I rx ry h
  rcases h with h | ⟨a, o, rfl, g, q⟩ | ⟨c, z, rfl, rfl, q⟩ | h
  · exact op_notIn_seq pins s σ H x y v u Q I rx ry h
  · obtain rfl : u = Value.ref a := ry
    exact d_notIn (by omega) I g rx fun s1 I1 => ⟨.bl _, H, I1, rfl, q⟩
  · exact op_notIn_sign pins s σ H _ _ v u Q I rx ry ⟨c, z, rfl, rfl, q⟩
  · exact op_niDT hu pins s σ H x y v u Q I rx ry h
theorem ix_dict (hu : X.A.units + 1 < cLine) : IxR X (fun x y H Q => ∃ a v, x = .ref a ∧ DGet H a y (some v) ∧ Q v H) := by
  intro value slice pins s σ H x y v u Q I rx ry h hs
  obtain ⟨a, z, rfl, g, q⟩ := h
  obtain rfl : v = Value.ref a := rx
  exact tail_any (dict_typeIs I g) PySem.F.slot_dict_getitem.lookup (d_getItem hu I g ry fun w' s' I' rw' => ⟨z, H, I', rw', q⟩) hs
theorem ix_U {K : PySem.W.Frag} (hK : X.K = K) (hu : X.A.units + 1 < cLine) : IxR X (rIxU K) := by
  subst hK
  exact ix_list.or (ix_tup.or (ix_str.or (ix_dict hu)))
theorem pe_ixU {K : PySem.W.Frag} (hK : X.K = K) {a b : Expr} {ta tb : TE} {pos : Pos} (hu : X.A.units + 1 < cLine) (ha : PE X a ta) (hb : PE X b tb) (hs : PlainIx b := by exact fun _ _ => rfl) : PE X (.Subscript a b pos) (tOp (rIxU K) ta tb) := pe_ix (ix_U hK hu) ha hb hs
theorem c_len {K : PySem.W.Frag} (hK : X.K = K) : CallR X (.builtin "len") (rLenU K) := by
  subst hK
  intro pins s σ H xs us Q I r h
  rcases h with h | ⟨a, kvs, rfl, e, q⟩
  · exact call_len pins s σ H xs us Q I r h
  · rw [Vals.ref1 r]
    exact d_len I (.inl e) fun t s1 I1 => ⟨.int _, H, I1, ⟨_, rfl⟩, q⟩
theorem c_abs : CallR X (.builtin "abs") rAbs := call_abs
theorem c_max2 (hc : X.calm = true) : CallR X (.builtin "max") rMax2 := call_max2 hc
theorem c_min2 (hc : X.calm = true) : CallR X (.builtin "min") rMin2 := call_min2 hc
theorem c_int : CallR X (.type "int") rInt1 := call_int1
theorem c_str : CallR X (.type "str") rStrI := call_str_int
theorem c_isi {K : PySem.W.Frag} (hK : X.K = K) : CallR X (.builtin "isinstance") (rIsi K) := by
  subst hK
  exact call_isi
theorem o_lt : OpR X (compareOp .Lt) (rCmpI fun i j => decide (i < j)) := op_lt
theorem o_le : OpR X (compareOp .LtE) (rCmpI fun i j => decide (i ≤ j)) := op_le
theorem o_gt : OpR X (compareOp .Gt) (rCmpI fun i j => decide (j < i)) := op_gt
theorem o_ge : OpR X (compareOp .GtE) (rCmpI fun i j => decide (j ≤ i)) := op_ge
/-- what is walked: a list or a tuple -/
def iSeq (K : PySem.W.Frag) (tl : TE) : TI := fun σ H R => tl σ H fun x H1 => (∃ a xs, x = .ref a ∧ SqL K H1 a xs ∧ R (Itl K a) H1) ∨ ∃ a xs, x = .ref a ∧ SqT K H1 a xs ∧ R (Itt K a) H1
/-- an iterator that was just laid -/
theorem pie_new {pins : List (Addr × Obj)} {σ : L2.St} {H : Hp} {s : Shared} {R : It → Hp → Prop} {tg : Expr} {o : Obj} {J : It} {tn : Nat → Heap → Prop} (I : Inv X pins σ H s)
    (tu : Turn X.prog X.w X.K tg J [s.heap.objs.size] s.heap.objs.size tn) (h0 : tn 0 (s.heap.push o)) (q : R J H) : PIE X pins σ tg R (.ref s.heap.objs.size) { s with heap := s.heap.push o } := by
  have k := I.kept (t' := s.toks) (h' := s.heap.push o) (fun b u e => Heap.get?_push_of_some _ e)
  refine ⟨_, _, tn, J, H, rfl, k, tu, h0, ?_, q⟩
  intro b hb
  rw [List.mem_singleton.mp hb]
  exact I.fpOk (Nat.le_refl _) (I.hok.fresh (Nat.le_refl _))
theorem pi_seq {K : PySem.W.Frag} (hK : X.K = K) {tg l : Expr} {tl : TE} (hl : PE X l tl) : PI X tg l (iSeq K tl) := by
  subst hK
  refine ⟨fun pins s σ H R I h => thn (hl.run pins s σ H _ I h) ?_⟩
  rintro v s1 ⟨x, H1, I1, r1, ⟨a, xs, rfl, hq, q⟩ | ⟨a, xs, rfl, hq, q⟩⟩ <;> cases r1
  · obtain ⟨its, _, p, _⟩ := I1.list hq
    exact wpAny_pyIter_list p.isList (pie_new I1 (turn_list a _) ⟨_, Heap.get?_push_size _ rfl, rfl, rfl⟩ q)
  · obtain ⟨its, _, p, _⟩ := I1.tuple hq
    exact wpAny_pyIter_tuple (show s1.heap.IsTuple a its.toArray from p) (pie_new I1 (turn_tuple a _) ⟨_, Heap.get?_push_size _ rfl, rfl, rfl⟩ q)
/-- a value's truth as a test -/
def tTru (K : PySem.W.Frag) (ta : TE) : TT := fun σ H Q => ta σ H fun x H' => ∃ k, TruV K x H' k ∧ Q k H'
theorem pt_tru {K : PySem.W.Frag} (hK : X.K = K) (ha : PE X a ta) (he : ∀ whole, isTrue a X.env whole = (do let v ← whole; standAt a.pos; holding [v] (truthy v)) := by intro _; rfl) : PT X a (tTru K ta) := by
  subst hK
  exact pt_truth ha he
end

/-! ### the steps of a reading -/
/-- a new tuple, a new list, of these -/
def rTupN (xs : List V) : Hp → VK → Prop := fun H Q => xs.length ≤ sizeLine ∧ ∀ p, H p = none → Q (.ref p) (upd H p (.tup xs))
def rLstN (xs : List V) : Hp → VK → Prop := fun H Q => xs.length ≤ sizeLine ∧ ∀ p, H p = none → Q (.ref p) (upd H p (.lst xs))
section
variable {K : PySem.W.Frag} {σ : L2.St} {H : Hp} {D : Ends} {t u : TS} {te ta tb tc : TE} {tt tt' : TT} {Q : VK} {QB : Bool → Hp → Prop} {QA : List V → Hp → Prop} {QS : L2.St → Hp → Prop} {g : TG} {r r' : R2} {v x y : V} {i j : Int} {b c : Bool} {k : Nat} {tA tA' : TA} {A B : Prop} {p q : Prop} {sp : Sp} {E : XK} {dvs vs : List V} {xs ys : List V} {a d C dx : Addr} {fs : List (Str × V)} {f : Str} {z z' : Str}
theorem g_seq (h : t { nx := u D, rt := D.rt, bk := D.bk, ct := D.ct } σ H) : tSeq t u D σ H := h
theorem g_next (h : D.nx σ H) : tNext D σ H := h
theorem g_asg (h : te σ H fun x H1 => g x σ H1 D.nx) : tAsg te g D σ H := h
theorem g_drop (h : te σ H fun _ H1 => D.nx σ H1) : tDrop te D σ H := h
theorem g_ret (h : te σ H D.rt) : tRet te D σ H := h
theorem g_retN (h : D.rt .non H) : tRetN D σ H := h
theorem g_brk (h : D.bk σ H) : tBreak D σ H := h
theorem g_ct (h : D.ct σ H) : tCont D σ H := h
theorem g_ifS (h : tt σ H fun b H1 => if b = true then t D σ H1 else u D σ H1) : tIfS tt t u D σ H := h
theorem g_name (h : QS (σ.set k (some v)) H) : gName k v σ H QS := h
theorem g_aug {ti : TIp} (e : σ[k]? = some (some x)) (h : te σ H fun y H1 => ti x y H1 fun z H2 => D.nx (σ.set k (some z)) H2) : tAug k te ti D σ H := ⟨x, e, h⟩
theorem g_ipI {f : Int → Int → Int} (h : Q (.int (f i j)) H) : ipI f (.int i) (.int j) H Q := ⟨i, j, rfl, rfl, h⟩
theorem g_var (e : σ[k]? = some (some v)) (h : Q v H) : tVar k σ H Q := ⟨v, e, h⟩
theorem g_c (h : Q v H) : tC v σ H Q := h
theorem g_op (h : ta σ H fun x H1 => tb σ H1 fun y H2 => r x y H2 Q) : tOp r ta tb σ H Q := h
theorem g_un {r : V → Hp → VK → Prop} (h : ta σ H fun x H1 => r x H1 Q) : tUn r ta σ H Q := h
theorem g_rU {g : Int → V} (h : Q (g i) H) : rU g (.int i) H Q := ⟨i, rfl, h⟩
theorem g_I0 {g : Int → Int → V} (h : Q (g i j) H) : rI0 g (.int i) (.int j) H Q := ⟨i, j, rfl, rfl, h⟩
theorem g_I {C : Int → Int → Prop} {g : Int → Int → V} (hc : C i j) (h : Q (g i j) H) : rI C g (.int i) (.int j) H Q := ⟨i, j, rfl, rfl, hc, h⟩
theorem g_cmpI {p : Int → Int → Bool} (h : Q (.bl (p i j)) H) : rCmpI p (.int i) (.int j) H Q := ⟨i, j, rfl, rfl, h⟩
theorem g_addI (h : Q (.int (i + j)) H) : rAddU K (.int i) (.int j) H Q := h
theorem g_addS (hl : z.length + z'.length ≤ sizeLine) (h : Q (.str (z ++ z')) H) : rAddU K (.str z) (.str z') H Q := ⟨hl, h⟩
theorem g_mulI (hc : CMul i j ∨ CMulW i j) (h : Q (.int (i * j)) H) : rMulU (.int i) (.int j) H Q := ⟨hc, h⟩
theorem g_eqI (h : Q (.bl (decide (i = j))) H) : rEqU K false (.int i) (.int j) H Q := .inl ⟨rfl, by
  have e : decide (V.int i = V.int j) = decide (i = j) := by simp
  show Q (.bl (decide (V.int i = V.int j))) H
  rw [e]
  exact h⟩
theorem g_neI (h : Q (.bl (!decide (i = j))) H) : rEqU K true (.int i) (.int j) H Q := .inl ⟨rfl, by
  have e : decide (V.int i = V.int j) = decide (i = j) := by simp
  show Q (.bl (!decide (V.int i = V.int j))) H
  rw [e]
  exact h⟩
theorem g_eqS (h : Q (.bl (decide (z = z'))) H) : rEqU K false (.str z) (.str z') H Q := .inl ⟨rfl, by
  have e : decide (V.str z = V.str z') = decide (z = z') := by simp
  show Q (.bl (decide (V.str z = V.str z'))) H
  rw [e]
  exact h⟩
theorem g_neS (h : Q (.bl (!decide (z = z'))) H) : rEqU K true (.str z) (.str z') H Q := .inl ⟨rfl, by
  have e : decide (V.str z = V.str z') = decide (z = z') := by simp
  show Q (.bl (!decide (V.str z = V.str z'))) H
  rw [e]
  exact h⟩
theorem g_eqB (h : Q (.bl (decide (b = c))) H) : rEqU K false (.bl b) (.bl c) H Q := .inl ⟨rfl, by
  have e : decide (V.bl b = V.bl c) = decide (b = c) := by simp
  show Q (.bl (decide (V.bl b = V.bl c))) H
  rw [e]
  exact h⟩
theorem g_neB (h : Q (.bl (!decide (b = c))) H) : rEqU K true (.bl b) (.bl c) H Q := .inl ⟨rfl, by
  have e : decide (V.bl b = V.bl c) = decide (b = c) := by simp
  show Q (.bl (!decide (V.bl b = V.bl c))) H
  rw [e]
  exact h⟩
theorem g_eqD {d e : PyData} (h1 : Dp K H x d) (h2 : Dp K H y e) (s1 : SeqAt.shaped d = true) (s2 : SeqAt.shaped e = true) (h : Q (.bl (PyData.eqv d e)) H) : rEqU K false x y H Q := .inr ⟨d, e, h1, h2, s1, s2, h⟩
theorem g_neD {d e : PyData} (h1 : Dp K H x d) (h2 : Dp K H y e) (s1 : SeqAt.shaped d = true) (s2 : SeqAt.shaped e = true) (h : Q (.bl (!PyData.eqv d e)) H) : rEqU K true x y H Q := .inr ⟨d, e, h1, h2, s1, s2, h⟩
theorem g_test (h : te σ H fun x H' => ∃ k, x = .bl k ∧ QB k H') : tTest te σ H QB := h
theorem g_B (h : te σ H fun x H' => ∃ k, x = .bl k ∧ QB k H') : tB te σ H QB := h
theorem g_exb {R : Bool → Prop} (h : R b) : ∃ k, V.bl b = V.bl k ∧ R k := ⟨b, rfl, h⟩
theorem g_tru (h : te σ H fun x H' => ∃ k, TruV K x H' k ∧ QB k H') : tTru K te σ H QB := h
theorem g_truB {R : Bool → Prop} (h : R b) : ∃ k, TruV K (.bl b) H k ∧ R k := ⟨b, rfl, h⟩
theorem g_truI {R : Bool → Prop} (h : R (i != 0)) : ∃ k, TruV K (.int i) H k ∧ R k := ⟨_, rfl, h⟩
theorem g_truN {R : Bool → Prop} (h : R false) : ∃ k, TruV K .non H k ∧ R k := ⟨_, rfl, h⟩
theorem g_not (h : tt σ H fun c H1 => QB (!c) H1) : tNot tt σ H QB := h
theorem g_and (h : tt σ H fun c H1 => if c = true then tt' σ H1 QB else QB false H1) : tAnd tt tt' σ H QB := h
theorem g_or (h : tt σ H fun c H1 => if c = true then QB true H1 else tt' σ H1 QB) : tOr tt tt' σ H QB := h
theorem g_notV (h : ta σ H fun x H1 => ∃ c, x = .bl c ∧ Q (.bl (!c)) H1) : tNotV ta σ H Q := h
theorem g_andV (h : ta σ H fun x H1 => ∃ c, x = .bl c ∧ if c = true then tb σ H1 Q else Q (.bl false) H1) : tAndV ta tb σ H Q := h
theorem g_orV (h : ta σ H fun x H1 => ∃ c, x = .bl c ∧ if c = true then Q (.bl true) H1 else tb σ H1 Q) : tOrV ta tb σ H Q := h
theorem g_ifE (h : tt σ H fun c H1 => if c = true then ta σ H1 Q else tb σ H1 Q) : tIf tt ta tb σ H Q := h
theorem g_chain (h : ta σ H fun x H1 => tb σ H1 fun y H2 => r x y H2 fun z H3 => ∃ k, z = .bl k ∧ (if k = true then tc σ H3 fun w' H4 => r' y w' H4 Q else Q (.bl false) H3)) : tChain r r' ta tb tc σ H Q := h
theorem g_nilA (h : QA [] H) : tNil σ H QA := h
theorem g_consA (h : ta σ H fun x H1 => tA σ H1 fun xs H2 => QA (x :: xs) H2) : tCons ta tA σ H QA := h
theorem g_tup (h : tA σ H fun xs H1 => rTupN xs H1 Q) : tTup tA σ H Q := h
theorem g_lst (h : tA σ H fun xs H1 => rLstN xs H1 Q) : tLst tA σ H Q := h
theorem g_cb {r : List V → Hp → VK → Prop} (h : tA σ H fun vs H1 => r vs H1 Q) : tCB r tA σ H Q := h
theorem g_call (h : tA σ H fun vs H1 => sp (vs ++ dvs) H1 Q E) : tCall sp dvs E tA σ H Q := h
theorem g_bm {T : String} {r : V → List V → Hp → VK → Prop} (h : te σ H fun x H1 => tyV K T x H1 ∧ tA σ H1 fun xs H2 => r x xs H2 Q) : tBM K T r te tA σ H Q := h
theorem g_bm0 {T : String} {r : V → List V → Hp → VK → Prop} (h : te σ H fun x H1 => tyV K T x H1 ∧ r x [] H1 Q) : tBM0 K T r te σ H Q := h
theorem g_lenL (hl : SqL K H a xs) (h : Q (.int (xs.length : Nat)) H) : rLenU K [.ref a] H Q := .inl ⟨_, _, rfl, .inl ⟨_, hl, rfl⟩, h⟩
theorem g_lenT (hl : SqT K H a xs) (h : Q (.int (xs.length : Nat)) H) : rLenU K [.ref a] H Q := .inl ⟨_, _, rfl, .inr ⟨_, hl, rfl⟩, h⟩
theorem g_lenS (hl : z.length ≤ sizeLine) (h : Q (.int (z.length : Nat)) H) : rLenU K [.str z] H Q := .inl ⟨_, _, rfl, ⟨hl, rfl⟩, h⟩
theorem g_abs (h : Q (.int (if i < 0 then -i else i)) H) : rAbs [.int i] H Q := ⟨i, rfl, h⟩
theorem g_max2 (h : Q (.int (if j > i then j else i)) H) : rMax2 [.int i, .int j] H Q := ⟨i, j, rfl, h⟩
theorem g_min2 (h : Q (.int (if j < i then j else i)) H) : rMin2 [.int i, .int j] H Q := ⟨i, j, rfl, h⟩
theorem g_intI (h : Q (.int i) H) : rInt1 [.int i] H Q := .inl ⟨i, rfl, h⟩
theorem g_intB (h : Q (.int (if b then 1 else 0)) H) : rInt1 [.bl b] H Q := .inr ⟨b, rfl, h⟩
theorem g_ixL {n : Nat} (hl : SqL K H a xs) (e : i = (n : Int)) (hv : xs[n]? = some v) (h : Q v H) : rIxU K (.ref a) (.int i) H Q := .inl ⟨_, _, _, _, rfl, rfl, hl, by rw [e]; exact atI_nat hv, h⟩
theorem g_ixL' (hl : SqL K H a xs) (hv : atI xs i = some v) (h : Q v H) : rIxU K (.ref a) (.int i) H Q := .inl ⟨_, _, _, _, rfl, rfl, hl, hv, h⟩
theorem g_ixT {n : Nat} (hl : SqT K H a xs) (e : i = (n : Int)) (hv : xs[n]? = some v) (h : Q v H) : rIxU K (.ref a) (.int i) H Q := .inr (.inl ⟨_, _, _, _, rfl, rfl, hl, by rw [e]; exact atI_nat hv, h⟩)
theorem g_ixT' (hl : SqT K H a xs) (hv : atI xs i = some v) (h : Q v H) : rIxU K (.ref a) (.int i) H Q := .inr (.inl ⟨_, _, _, _, rfl, rfl, hl, hv, h⟩)
theorem g_ixD (g : DGet H a x (some v)) (h : Q v H) : rIxU K (.ref a) x H Q := .inr (.inr (.inr ⟨_, _, rfl, g, h⟩))
theorem g_isi {t u : Value} (hc : ClsV y u) (ht : TyX K H x t) (hk : PySem.W.kitOne K t u = some b) (h : Q (.bl b) H) : rIsi K [x, y] H Q := ⟨x, y, t, u, b, rfl, hc, ht, hk, h⟩
/-- branches -/
theorem g_if [Decidable p] (h1 : p → A) (h2 : ¬ p → B) : if decide p = true then A else B := by
  by_cases h : p
  · rw [if_pos (decide_eq_true h)]
    exact h1 h
  · rw [if_neg fun z => h (of_decide_eq_true z)]
    exact h2 h
theorem g_ifN [Decidable p] (h1 : ¬ p → A) (h2 : p → B) : if (!decide p) = true then A else B := by
  by_cases h : p
  · rw [decide_eq_true h]
    exact h2 h
  · rw [decide_eq_false h]
    exact h1 h
theorem g_ifB (h1 : b = true → A) (h2 : b = false → B) : if b = true then A else B := by
  cases b with
  | true => exact h1 rfl
  | false => exact h2 rfl
theorem g_ifBn (h1 : b = false → A) (h2 : b = true → B) : if (!b) = true then A else B := by
  cases b with
  | true => exact h2 rfl
  | false => exact h1 rfl
theorem g_ifT (h : A) : if true = true then A else B := h
theorem g_ifF (h : B) : if false = true then A else B := h
theorem g_ifNT (h : B) : if (!true) = true then A else B := h
theorem g_ifNF (h : A) : if (!false) = true then A else B := h
/-- a list grown -/
theorem g_append {L : List (Addr × HO)} (M : Has H L) (n : Nat) (h : L[n]? = some (a, .lst xs)) (hl : xs.length < sizeLine) (k : Has (upd H a (.lst (xs ++ [y]))) (L.set n (a, .lst (xs ++ [y]))) → Q .non (upd H a (.lst (xs ++ [y])))) : rAppend (.ref a) [y] H Q :=
  ⟨a, xs, y, rfl, rfl, M.get n h, hl, k (M.set n h)⟩
theorem g_setL {L : List (Addr × HO)} {R : Hp → Prop} {m : Nat} (M : Has H L) (n : Nat) (h : L[n]? = some (a, .lst xs)) (hi : ixN xs.length i = some m) (k : Has (upd H a (.lst (xs.set m y))) (L.set n (a, .lst (xs.set m y))) → R (upd H a (.lst (xs.set m y)))) : rSetL (.ref a) (.int i) y H R :=
  ⟨a, xs, i, m, rfl, rfl, M.get n h, hi, k (M.set n h)⟩
/-- a new object -/
theorem g_new {L : List (Addr × HO)} {o : HO} {R : Addr → Hp → Prop} (M : Has H L) (k : ∀ p, H p = none → Has (upd H p o) (L ++ [(p, o)]) → R p (upd H p o)) : ∀ p, H p = none → R p (upd H p o) := fun p hp => k p hp (M.new hp)
end
theorem mul_ok {i j : Int} (h : -18446744073709551616 < j) (h2 : j < 18446744073709551616) : CMul i j ∨ CMulW i j := .inl (.inr ⟨h, h2⟩)
theorem mul_ok' {i j : Int} (h : -18446744073709551616 < i) (h2 : i < 18446744073709551616) : CMul i j ∨ CMulW i j := .inl (.inl ⟨h, h2⟩)
theorem cdivW_of {i j : Int} (h : 0 < j) (h2 : j < 2 ^ 64) : CDivW i j := wide_div h (b := 64) (by omega) (by decide) (by decide)
theorem cpow_of {i j : Int} (h : 0 ≤ j) (h2 : j ≤ 1000000) (h3 : i.natAbs < 2 ^ 64) : CPow i j := ⟨h, h2, h3⟩

/-! ### loops -/
/-- what a for asks once its iterator has come -/
def ForW (g : TG) (tb : TS) (D : Ends) (σ : L2.St) : It → Hp → Prop := fun J H1 => ∃ W : Nat → Nat → L2.St → Hp → Prop, (∃ m, W 0 m σ H1) ∧ ∀ i m σ H, W i m σ H →
  (J.stop i H ∧ D.nx σ H) ∨ (J.go i H ∧ ∃ N : L2.St → Hp → Prop, (∀ σ' H', N σ' H' → ∃ m', m' < m ∧ W (i + 1) m' σ' H') ∧ ∀ x H', J.yld i H x H' → g x σ H' fun σ2 H2 => tb { D with nx := N, ct := N, bk := D.nx } σ2 H2)
def rR1 : List V → Hp → (It → Hp → Prop) → Prop := fun vs H R => ∃ j : Int, vs = [.int j] ∧ -(2 ^ 62) ≤ j ∧ j < 2 ^ 62 ∧ R (Itr 0 j.toNat) H
def rR2 : List V → Hp → (It → Hp → Prop) → Prop := fun vs H R => ∃ i j : Int, vs = [.int i, .int j] ∧ (-(2 ^ 62) ≤ i ∧ i < 2 ^ 62 ∧ -(2 ^ 62) ≤ j ∧ j < 2 ^ 62) ∧ R (Itr i (j - i).toNat) H
def iR (r : List V → Hp → (It → Hp → Prop) → Prop) (ta : TA) : TI := fun σ H R => ta σ H fun vs H1 => r vs H1 R
theorem pi_r1 {X : Cx} {tg a : Expr} {ta : TA} {p pos : Pos} (hg : Gl X "range") (hm : X.mg "range" = none) (ha : PA X [a] ta) (hs : starEach [a] X.env = [(false, eval a X.env)] := by rfl) : PI X tg (.Call (.Name "range" p) [a] [] pos) (iR rR1 ta) := pi_range1 hg hm ha hs
theorem pi_r2 {X : Cx} {tg a b : Expr} {ta : TA} {p pos : Pos} (hg : Gl X "range") (hm : X.mg "range" = none) (ha : PA X [a, b] ta) (hs : starEach [a, b] X.env = [(false, eval a X.env), (false, eval b X.env)] := by rfl) (hs2 : starEach [b] X.env = [(false, eval b X.env)] := by rfl) : PI X tg (.Call (.Name "range" p) [a, b] [] pos) (iR rR2 ta) := pi_range2 hg hm ha hs hs2
section
variable {K : PySem.W.Frag} {σ : L2.St} {H : Hp} {D : Ends} {wi : TI} {g : TG} {tb : TS} {ta : TA} {te : TE} {R : It → Hp → Prop} {r : List V → Hp → (It → Hp → Prop) → Prop} {i j : Int} {a : Addr} {xs : List V} {Q : VK} {n lo : Int}
theorem g_for (h : wi σ H (ForW g tb D σ)) : tFor wi g tb D σ H := h
theorem g_iR (h : ta σ H fun vs H1 => r vs H1 R) : iR r ta σ H R := h
theorem g_rR1 (h1 : -4611686018427387904 ≤ i) (h2 : i < 4611686018427387904) (h : R (Itr 0 i.toNat) H) : rR1 [.int i] H R := ⟨i, rfl, h1, h2, h⟩
theorem g_rR2 (h1 : -4611686018427387904 ≤ i ∧ i < 4611686018427387904 ∧ -4611686018427387904 ≤ j ∧ j < 4611686018427387904) (h : R (Itr i (j - i).toNat) H) : rR2 [.int i, .int j] H R := ⟨i, j, rfl, h1, h⟩
theorem g_iSeq (h : te σ H fun x H1 => (∃ a xs, x = .ref a ∧ SqL K H1 a xs ∧ R (Itl K a) H1) ∨ ∃ a xs, x = .ref a ∧ SqT K H1 a xs ∧ R (Itt K a) H1) : iSeq K te σ H R := h
theorem g_seqL (hl : SqL K H a xs) (h : R (Itl K a) H) : (∃ b ys, V.ref a = .ref b ∧ SqL K H b ys ∧ R (Itl K b) H) ∨ ∃ b ys, V.ref a = .ref b ∧ SqT K H b ys ∧ R (Itt K b) H := .inl ⟨a, xs, rfl, hl, h⟩
theorem g_seqT (hl : SqT K H a xs) (h : R (Itt K a) H) : (∃ b ys, V.ref a = .ref b ∧ SqL K H b ys ∧ R (Itl K b) H) ∨ ∃ b ys, V.ref a = .ref b ∧ SqT K H b ys ∧ R (Itt K b) H := .inr ⟨a, xs, rfl, hl, h⟩
theorem f_range {lo : Int} {n : Nat} (Pv : Nat → L2.St → Hp → Prop) (h0 : Pv 0 σ H)
    (hs : ∀ i σ H, i < n → Pv i σ H → g (.int (lo + i)) σ H fun σ2 H2 => tb { nx := Pv (i + 1), rt := D.rt, ct := Pv (i + 1), bk := D.nx } σ2 H2) (hd : ∀ σ H, Pv n σ H → D.nx σ H) : ForW g tb D σ (Itr lo n) H := for_range Pv h0 hs hd
theorem f_list (Pv : Nat → L2.St → Hp → Prop) (h0 : Pv 0 σ H) (hl : ∀ i σ H, i ≤ xs.length → Pv i σ H → SqL K H a xs)
    (hs : ∀ i x σ H, xs[i]? = some x → Pv i σ H → g x σ H fun σ2 H2 => tb { nx := Pv (i + 1), rt := D.rt, ct := Pv (i + 1), bk := D.nx } σ2 H2) (hd : ∀ σ H, Pv xs.length σ H → D.nx σ H) : ForW g tb D σ (Itl K a) H := for_list Pv h0 hl hs hd
theorem f_tup (Pv : Nat → L2.St → Hp → Prop) (h0 : Pv 0 σ H) (hl : ∀ i σ H, i ≤ xs.length → Pv i σ H → SqT K H a xs)
    (hs : ∀ i x σ H, xs[i]? = some x → Pv i σ H → g x σ H fun σ2 H2 => tb { nx := Pv (i + 1), rt := D.rt, ct := Pv (i + 1), bk := D.nx } σ2 H2) (hd : ∀ σ H, Pv xs.length σ H → D.nx σ H) : ForW g tb D σ (Itt K a) H := for_tup Pv h0 hl hs hd
/-- while: W by a measure and the state -/
def WhileW (c : TT) (tb : TS) (D : Ends) (W : Nat → L2.St → Hp → Prop) : Prop := ∀ m σ H, W m σ H →
  c σ H fun b H1 => if b = true then ∃ N : L2.St → Hp → Prop, (∀ σ' H', N σ' H' → ∃ m', m' < m ∧ W m' σ' H') ∧ tb { D with nx := N, ct := N, bk := D.nx } σ H1 else D.nx σ H1
theorem g_whileT {m : Nat} {W : Nat → L2.St → Hp → Prop} {A : (L2.St → Hp → Prop) → Prop} (h : A fun σ' H' => ∃ m', m' < m ∧ W m' σ' H') : ∃ N : L2.St → Hp → Prop, (∀ σ' H', N σ' H' → ∃ m', m' < m ∧ W m' σ' H') ∧ A N := ⟨_, fun _ _ h => h, h⟩
/-! ### isinstance of the scalars -/
theorem isi_of {x : V} {T T' : String} {b : Bool} (ht : TyX K H x (.type T)) (hk : kitB T T' = some b) (h : Q (.bl b) H) : rIsi K [x, .ty T'] H Q := ⟨x, .ty T', .type T, .type T', b, rfl, .ty T', ht, kit_ty hk, h⟩
theorem k_ii : kitB "int" "int" = some true := by decide +kernel
theorem k_ib : kitB "int" "bool" = some false := by decide +kernel
theorem k_bi : kitB "bool" "int" = some true := by decide +kernel
theorem k_bb : kitB "bool" "bool" = some true := by decide +kernel
theorem k_is_ : kitB "int" "str" = some false := by decide +kernel
theorem k_bs : kitB "bool" "str" = some false := by decide +kernel
theorem k_it : kitB "int" "tuple" = some false := by decide +kernel
theorem k_bt : kitB "bool" "tuple" = some false := by decide +kernel
theorem k_si : kitB "str" "int" = some false := by decide +kernel
theorem k_sb : kitB "str" "bool" = some false := by decide +kernel
theorem k_ss : kitB "str" "str" = some true := by decide +kernel
theorem k_st : kitB "str" "tuple" = some false := by decide +kernel
theorem k_ni : kitB "NoneType" "int" = some false := by decide +kernel
theorem k_nb : kitB "NoneType" "bool" = some false := by decide +kernel
theorem k_ns : kitB "NoneType" "str" = some false := by decide +kernel
theorem k_nt : kitB "NoneType" "tuple" = some false := by decide +kernel
theorem k_tt : kitB "tuple" "tuple" = some true := by decide +kernel
theorem k_ti : kitB "tuple" "int" = some false := by decide +kernel
theorem k_tb : kitB "tuple" "bool" = some false := by decide +kernel
theorem k_ts : kitB "tuple" "str" = some false := by decide +kernel
variable {z : Str} {b : Bool}
theorem g_isiIi (h : Q (.bl true) H) : rIsi K [.int i, .ty "int"] H Q := isi_of (.base (.int i)) k_ii h
theorem g_isiIb (h : Q (.bl false) H) : rIsi K [.int i, .ty "bool"] H Q := isi_of (.base (.int i)) k_ib h
theorem g_isiIs (h : Q (.bl false) H) : rIsi K [.int i, .ty "str"] H Q := isi_of (.base (.int i)) k_is_ h
theorem g_isiIt (h : Q (.bl false) H) : rIsi K [.int i, .ty "tuple"] H Q := isi_of (.base (.int i)) k_it h
theorem g_isiBi (h : Q (.bl true) H) : rIsi K [.bl b, .ty "int"] H Q := isi_of (.base (.bl b)) k_bi h
theorem g_isiBb (h : Q (.bl true) H) : rIsi K [.bl b, .ty "bool"] H Q := isi_of (.base (.bl b)) k_bb h
theorem g_isiBs (h : Q (.bl false) H) : rIsi K [.bl b, .ty "str"] H Q := isi_of (.base (.bl b)) k_bs h
theorem g_isiBt (h : Q (.bl false) H) : rIsi K [.bl b, .ty "tuple"] H Q := isi_of (.base (.bl b)) k_bt h
theorem g_isiSi (h : Q (.bl false) H) : rIsi K [.str z, .ty "int"] H Q := isi_of (.base (.str z)) k_si h
theorem g_isiSb (h : Q (.bl false) H) : rIsi K [.str z, .ty "bool"] H Q := isi_of (.base (.str z)) k_sb h
theorem g_isiSs (h : Q (.bl true) H) : rIsi K [.str z, .ty "str"] H Q := isi_of (.base (.str z)) k_ss h
theorem g_isiSt (h : Q (.bl false) H) : rIsi K [.str z, .ty "tuple"] H Q := isi_of (.base (.str z)) k_st h
theorem g_isiNi (h : Q (.bl false) H) : rIsi K [.non, .ty "int"] H Q := isi_of (.base .non) k_ni h
theorem g_isiNb (h : Q (.bl false) H) : rIsi K [.non, .ty "bool"] H Q := isi_of (.base .non) k_nb h
theorem g_isiNs (h : Q (.bl false) H) : rIsi K [.non, .ty "str"] H Q := isi_of (.base .non) k_ns h
theorem g_isiNt (h : Q (.bl false) H) : rIsi K [.non, .ty "tuple"] H Q := isi_of (.base .non) k_nt h
end
section
variable {H H1 : Hp} {a : Addr} {o : HO}
theorem Same.mut (x : Same H H1) (h : H a = none) : Same H (upd H1 a o) := fun b u e => by
  rw [upd_ne (ne_of_none e h)]
  exact x b u e
theorem Same.new' (x : Same H H1) (h : H1 a = none) : Same H (upd H1 a o) := fun b u e => keep_new (x b u e) h
end
theorem q_int {Q : VK} {x y : Int} {H : Hp} (e : x = y) (h : Q (.int x) H) : Q (.int y) H := e ▸ h
theorem q_bl {Q : VK} {x y : Bool} {H : Hp} (e : x = y) (h : Q (.bl x) H) : Q (.bl y) H := e ▸ h
theorem q_str {Q : VK} {x y : Str} {H : Hp} (e : x = y) (h : Q (.str x) H) : Q (.str y) H := e ▸ h
theorem g_disp {trs : List (TE × TE)} {σ : L2.St} {H : Hp} {Q : VK} (h : ∀ p, H p = none → tPairs trs σ (upd H p (.dK [])) fun ps H2 => H2 p = some (.dK []) ∧ ∃ kvs : List (Key × V), ps = kvs.map (fun kv => (kV kv.1, kv.2)) ∧ kvs.length ≤ 15 ∧ Q (.ref p) (upd H2 p (.dK (mergeK [] kvs)))) : tDisp trs σ H Q := h
theorem g_pairN {σ : L2.St} {H : Hp} {R : List (V × V) → Hp → Prop} (h : R [] H) : tPairs [] σ H R := h
theorem g_pairC {tk tv : TE} {r : List (TE × TE)} {σ : L2.St} {H : Hp} {R : List (V × V) → Hp → Prop} (h : tk σ H fun x H1 => tv σ H1 fun y H2 => tPairs r σ H2 fun ps H3 => R ((x, y) :: ps) H3) : tPairs ((tk, tv) :: r) σ H R := h
theorem g_dput {td ty tv : TE} {D : Ends} {σ : L2.St} {H : Hp} (h : tv σ H fun v H1 => td σ H1 fun x H2 => ty σ H2 fun y H3 => ∃ a H4, x = .ref a ∧ DPut H3 a y v H4 ∧ D.nx σ H4) : sDPut td ty tv D σ H := h

/-! ### the laws' draws: a dict with a row, a place and a seed -/
theorem ne_ra : ¬ (("row" : Str) = "at") := by decide +kernel
theorem ne_rs : ¬ (("row" : Str) = "seed") := by decide +kernel
theorem ne_as : ¬ (("at" : Str) = "seed") := by decide +kernel
theorem ne_sa : ¬ (("seed" : Str) = "at") := by decide +kernel
theorem ne_ar : ¬ (("at" : Str) = "row") := by decide +kernel
theorem ne_sr : ¬ (("seed" : Str) = "row") := by decide +kernel
def drK (r : Addr) (n sd : Int) : List (Key × V) := [(.inr "row", .ref r), (.inr "at", .int n), (.inr "seed", .int sd)]
structure RowOk (row : List Int) (sd : Int) : Prop where
  dig : ∀ x ∈ row, 0 ≤ x ∧ x < 1000
  len : row.length ≤ 1260
  s0 : 0 ≤ sd
  s1 : sd < 1000003
theorem dr_row (r : Addr) (n sd : Int) : valV (drK r n sd) (.inr "row") = some (.ref r) := by
  unfold drK
  exact valV_pos rfl
theorem dr_at (r : Addr) (n sd : Int) : valV (drK r n sd) (.inr "at") = some (.int n) := by
  unfold drK
  rw [valV_neg (fun e => ne_ra (Sum.inr.inj e))]
  exact valV_pos rfl
theorem dr_seed (r : Addr) (n sd : Int) : valV (drK r n sd) (.inr "seed") = some (.int sd) := by
  unfold drK
  rw [valV_neg (fun e => ne_rs (Sum.inr.inj e)), valV_neg (fun e => ne_as (Sum.inr.inj e))]
  exact valV_pos rfl
theorem dr_put (r : Addr) (n m sd : Int) : putK (drK r n sd) (.inr "at") (.int m) = drK r m sd := by
  unfold putK
  rw [valV_any, dr_at]
  simp only [Option.isSome_some, if_true]
  unfold drK
  simp only [List.map_cons, List.map_nil]
  rw [if_neg (fun e => ne_ra (Sum.inr.inj e)), if_pos trivial, if_neg (fun e => ne_sa (Sum.inr.inj e))]
theorem dr_made (r : Addr) (n sd : Int) : mergeK [] [(.inr "row", .ref r), (.inr "at", .int n), (.inr "seed", .int sd)] = drK r n sd := by
  have h1 : putK ([] : List (Key × V)) (.inr "row") (.ref r) = [(.inr "row", .ref r)] := putK_new _ rfl
  have h2 : putK ([(.inr "row", .ref r)] : List (Key × V)) (.inr "at") (.int n) = [(.inr "row", .ref r)] ++ [(.inr "at", .int n)] := putK_new _ (by rw [valV_neg (fun e => ne_ra (Sum.inr.inj e))]; rfl)
  have h3 : putK ([(.inr "row", .ref r), (.inr "at", .int n)] : List (Key × V)) (.inr "seed") (.int sd) = [(.inr "row", .ref r), (.inr "at", .int n)] ++ [(.inr "seed", .int sd)] := putK_new _ (by
    rw [valV_neg (fun e => ne_rs (Sum.inr.inj e)), valV_neg (fun e => ne_as (Sum.inr.inj e))]; rfl)
  unfold mergeK
  simp only [List.foldl_cons, List.foldl_nil]
  rw [h1, h2]
  exact h3
theorem dg_row {H : Hp} {d r : Addr} {n sd : Int} (h : H d = some (.dK (drK r n sd))) : DGet H d (.str "row") (some (.ref r)) := by
  rw [← dr_row r n sd]
  exact DGet.k (k := .inr "row") h
theorem dg_at {H : Hp} {d r : Addr} {n sd : Int} (h : H d = some (.dK (drK r n sd))) : DGet H d (.str "at") (some (.int n)) := by
  rw [← dr_at r n sd]
  exact DGet.k (k := .inr "at") h
theorem dg_seed {H : Hp} {d r : Addr} {n sd : Int} (h : H d = some (.dK (drK r n sd))) : DGet H d (.str "seed") (some (.int sd)) := by
  rw [← dr_seed r n sd]
  exact DGet.k (k := .inr "seed") h
theorem dp_at {H : Hp} {d r : Addr} {n sd : Int} (m : Int) (h : H d = some (.dK (drK r n sd))) : DPut H d (.str "at") (.int m) (upd H d (.dK (drK r m sd))) := by
  rw [← dr_put r n m sd]
  exact DPut.k (k := .inr "at") h (by show 3 < sizeLine; decide)
theorem szl {n : Nat} (h : n ≤ 100000) : n < sizeLine := Nat.lt_of_le_of_lt h (by decide)
theorem szle {n : Nat} (h : n ≤ 100000) : n ≤ sizeLine := Nat.le_trans h (by decide)

/-! ### //, %, shifts by name -/
def rMod : R2 := rI (fun _ j => 0 < j) fun i j => .int (i % j)
def rFdiv : R2 := rI CDivW fun i j => .int (i / j)
def rShl : R2 := rI CPow fun i j => .int (i * 2 ^ j.toNat)
def rPow : R2 := rI CPow fun i j => .int (i ^ j.toNat)
def rShr : R2 := rI (fun _ j => 0 ≤ j) fun i j => .int (i / 2 ^ j.toNat)
section
variable {X : Cx} {i j : Int} {H : Hp} {Q : VK}
theorem o_mod : OpR X (binaryOp .Mod) rMod := op_mod
theorem o_fdiv : OpR X (binaryOp .FloorDiv) rFdiv := op_fdivW
theorem o_shl : OpR X (binaryOp .LShift) rShl := op_shl
theorem o_pow : OpR X (binaryOp .Pow) rPow := op_pow
theorem o_shr : OpR X (binaryOp .RShift) rShr := op_shr
theorem io_fdiv : OpR X (inplaceOp .FloorDiv) rFdiv := iop_fdivW
theorem io_mod : OpR X (inplaceOp .Mod) rMod := iop_mod
theorem g_mod (h : 0 < j) (q : Q (.int (i % j)) H) : rMod (.int i) (.int j) H Q := ⟨i, j, rfl, rfl, h, q⟩
theorem g_fdiv (h : 0 < j) (h2 : j < 18446744073709551616) (q : Q (.int (i / j)) H) : rFdiv (.int i) (.int j) H Q := ⟨i, j, rfl, rfl, cdivW_of h h2, q⟩
theorem g_shl (h : 0 ≤ j) (h2 : j ≤ 1000000) (h3 : i.natAbs < 18446744073709551616) (q : Q (.int (i * 2 ^ j.toNat)) H) : rShl (.int i) (.int j) H Q := ⟨i, j, rfl, rfl, ⟨h, h2, h3⟩, q⟩
theorem g_pow (h : 0 ≤ j) (h2 : j ≤ 1000000) (h3 : i.natAbs < 18446744073709551616) (q : Q (.int (i ^ j.toNat)) H) : rPow (.int i) (.int j) H Q := ⟨i, j, rfl, rfl, ⟨h, h2, h3⟩, q⟩
theorem g_shr (h : 0 ≤ j) (q : Q (.int (i / 2 ^ j.toNat)) H) : rShr (.int i) (.int j) H Q := ⟨i, j, rfl, rfl, h, q⟩
end

/-! ### fields, methods, makes -/
def rFld (K : PySem.W.Frag) (f : Str) : V → Hp → VK → Prop := fun x H Q => ∃ a C dx fs v, x = .ref a ∧ H a = some (.ins C dx fs) ∧ Cls K C ∧ NoAttr K C f ∧ fs.lookup f = some v ∧ Q v H
def rSFld (K : PySem.W.Frag) (f : Str) : V → V → Hp → (Hp → Prop) → Prop := fun x y H R => ∃ a C dx fs, x = .ref a ∧ H a = some (.ins C dx fs) ∧ Cls K C ∧ NoAttr K C f ∧ fs.length < 1000 ∧ R (upd H a (.ins C dx (putF f y fs)))
def tSFld (K : PySem.W.Frag) (ta tv : TE) (f : Str) : TS := fun D σ H => tv σ H fun y H1 => ta σ H1 fun x H2 => rSFld K f x y H2 (D.nx σ)
/-- the receiver of a method's call -/
def rRcv (C : Addr) (m : Str) : V → Hp → (Hp → Prop) → Prop := fun x H R => ∃ a dx fs, x = .ref a ∧ H a = some (.ins C dx fs) ∧ fs.lookup m = none ∧ R H
section
variable {X : Cx} {o e value : Expr} {f : Str} {pos pos' : Pos} {ta tv : TE}
theorem pe_fldU {K : PySem.W.Frag} (hK : X.K = K) (he : PE X e ta) (hb : attributeBase e f X.env (eval e X.env) = eval e X.env) : PE X (.Attribute e f pos) (tUn (rFld K f) ta) := by
  subst hK
  exact pe_fld he hb
theorem ps_fldU {K : PySem.W.Frag} (hK : X.K = K) (ha : PE X o ta) (hv : PE X value tv) (hs : swapsWith value (some (.Attribute o f pos')) pos.line X.env = pure false) : PS X (.Assign [.Attribute o f pos'] value pos) (tSFld K ta tv f) := by
  subst hK
  exact ps_fld ha hv hs
end
section
variable {K : PySem.W.Frag} {σ : L2.St} {H : Hp} {D : Ends} {ta tv : TE} {t : TA} {Q : VK} {v y : V} {a C dx : Addr} {fs fs' : List (Str × V)} {f m : Str} {sp : Sp} {dvs : List V} {E : XK} {L : List (Addr × HO)} {R : Hp → Prop}
theorem g_fld (he : H a = some (.ins C dx fs)) (cl : Cls K C) (na : NoAttr K C f) (l : fs.lookup f = some v) (h : Q v H) : rFld K f (.ref a) H Q := ⟨a, C, dx, fs, v, rfl, he, cl, na, l, h⟩
theorem g_sfld (h : tv σ H fun y H1 => ta σ H1 fun x H2 => rSFld K f x y H2 (D.nx σ)) : tSFld K ta tv f D σ H := h
theorem g_setF (M : Has H L) (n : Nat) (he : L[n]? = some (a, .ins C dx fs)) (cl : Cls K C) (na : NoAttr K C f) (hl : fs.length < 1000) (e : putF f y fs = fs') (k : Has (upd H a (.ins C dx fs')) (L.set n (a, .ins C dx fs')) → R (upd H a (.ins C dx fs'))) : rSFld K f (.ref a) y H R :=
  ⟨a, C, dx, fs, rfl, M.get n he, cl, na, hl, by rw [e]; exact k (M.set n he)⟩
theorem g_meth (h : ta σ H fun x H1 => ∃ a dx fs, x = .ref a ∧ H1 a = some (.ins C dx fs) ∧ fs.lookup m = none ∧ t σ H1 fun vs H2 => sp (x :: (vs ++ dvs)) H2 Q E) : tMeth C m sp dvs E ta t σ H Q := h
theorem g_rcv {A : Prop} (he : H a = some (.ins C dx fs)) (l : fs.lookup m = none) (h : A) : ∃ b dx' fs', V.ref a = .ref b ∧ H b = some (.ins C dx' fs') ∧ fs'.lookup m = none ∧ A := ⟨a, dx, fs, rfl, he, l, h⟩
theorem g_make (h : t σ H fun vs H1 => ∀ x dx, H1 x = none → H1 dx = none → dx ≠ x → sp (.ref x :: (vs ++ dvs)) (upd (upd H1 dx (.own x)) x (.ins C dx [])) (fun v H2 => v = .non ∧ Q (.ref x) H2) E) : tMake C sp dvs E t σ H Q := h
end
section
variable {H : Hp} {x dx C : Addr}
/-- the heap in which an __init__ starts -/
def made (H : Hp) (x dx C : Addr) : Hp := upd (upd H dx (.own x)) x (.ins C dx [])
theorem made_same (hx : H x = none) (hd : H dx = none) : Same H (made H x dx C) := fun b o e => by
  unfold made
  rw [upd_ne (ne_of_none e hx), upd_ne (ne_of_none e hd)]
  exact e
theorem made_at : made H x dx C x = some (.ins C dx []) := upd_same
theorem made_none {p : Addr} (h : made H x dx C p = none) : H p = none ∧ p ≠ x ∧ p ≠ dx := by
  unfold made at h
  by_cases h1 : p = x
  · subst h1; rw [upd_same] at h; cases h
  · rw [upd_ne h1] at h
    by_cases h2 : p = dx
    · subst h2; rw [upd_same] at h; cases h
    · rw [upd_ne h2] at h
      exact ⟨h, h1, h2⟩
end

/-! ### stores by place, replicated lists, slices, all and any -/
def rSetU : V → V → V → Hp → (Hp → Prop) → Prop := fun o i v H Q => rSetL o i v H Q ∨ ∃ a H', o = .ref a ∧ DPut H a i v H' ∧ Q H'
section
variable {X : Cx}
theorem set_U (hu : X.A.units + 1 < cLine) : PSet X rSetU := by
  intro pins s σ H o i v ov iv u Q I ro ri rv h
  rcases h with h | ⟨a, H', rfl, g, q⟩
  · exact set_list pins s σ H o i v ov iv u Q I ro ri rv h
  · obtain rfl : ov = Value.ref a := ro
    exact d_setItem hu I g ri rv fun s1 I1 => ⟨H', I1, q⟩
end
section
variable {K : PySem.W.Frag} {σ : L2.St} {H : Hp} {R : Hp → Prop} {RS : L2.St → Hp → Prop} {te ti : TE} {t : TSet} {v y : V} {a : Addr} {xs : List V} {i : Int} {L : List (Addr × HO)} {m : Nat} {Q : VK}
theorem g_sub (h : te σ H fun o H1 => ti σ H1 fun i H2 => t o i v H2 fun H3 => RS σ H3) : gSub te ti t v σ H RS := h
theorem g_setU (M : Has H L) (n : Nat) (h : L[n]? = some (a, .lst xs)) (hi : i = (m : Int)) (hm : m < xs.length) (k : Has (upd H a (.lst (xs.set m y))) (L.set n (a, .lst (xs.set m y))) → R (upd H a (.lst (xs.set m y)))) : rSetU (.ref a) (.int i) y H R :=
  .inl ⟨a, xs, i, m, rfl, rfl, M.get n h, by
    unfold ixN
    rw [if_pos (by omega), if_pos (by omega)]
    congr 1
    omega, k (M.set n h)⟩
theorem rep_flat {x : V} : ∀ n : Nat, (List.replicate n [x]).flatten = List.replicate n x
  | 0 => rfl
  | n + 1 => by
    rw [List.replicate_succ, List.replicate_succ, List.flatten_cons, rep_flat n]
    rfl
theorem g_rep {x : V} {k : Int} (h : H a = some (.lst [x])) (h0 : -4611686018427387904 ≤ k) (h1 : k ≤ 100000) (q : ∀ p, H p = none → Q (.ref p) (upd H p (.lst (List.replicate k.toNat x)))) : rMulU (.ref a) (.int k) H Q := by
  refine .inl ⟨a, k, [x], rfl, rfl, h, by omega, by omega, szle (by simp; omega), fun p hp => ?_⟩
  rw [rep_flat]
  exact q p hp
theorem g_repI {x : Int} {k : Int} (h : H a = some (.lst [.int x])) (h0 : -4611686018427387904 ≤ k) (h1 : k ≤ 100000) (q : ∀ p, H p = none → Q (.ref p) (upd H p (.lst ((List.replicate k.toNat x).map V.int)))) : rMulU (.ref a) (.int k) H Q :=
  g_rep h h0 h1 fun p hp => by
    have z := q p hp
    rw [List.map_replicate] at z
    exact z
end
def rAllU (K : PySem.W.Frag) : List V → Hp → VK → Prop := fun vs H Q => ∃ (a : Addr) (bs : List Bool), vs = [V.ref a] ∧ SqL K H a (bs.map V.bl) ∧ Q (.bl (bs.all id)) H
def rAnyU (K : PySem.W.Frag) : List V → Hp → VK → Prop := fun vs H Q => ∃ (a : Addr) (bs : List Bool), vs = [V.ref a] ∧ SqL K H a (bs.map V.bl) ∧ Q (.bl (bs.any id)) H
section
variable {X : Cx} {K : PySem.W.Frag} {H : Hp} {Q : VK} {a : Addr} {bs : List Bool}
theorem c_all {K : PySem.W.Frag} (hK : X.K = K) (hc : X.calm = true) : CallR X (.builtin "all") (rAllU K) := by
  subst hK
  exact cr_all hc
theorem c_any {K : PySem.W.Frag} (hK : X.K = K) (hc : X.calm = true) : CallR X (.builtin "any") (rAnyU K) := by
  subst hK
  exact cr_any hc
theorem g_all (h : SqL K H a (bs.map V.bl)) (q : Q (.bl (bs.all id)) H) : rAllU K [.ref a] H Q := ⟨a, bs, rfl, h, q⟩
theorem g_any (h : SqL K H a (bs.map V.bl)) (q : Q (.bl (bs.any id)) H) : rAnyU K [.ref a] H Q := ⟨a, bs, rfl, h, q⟩
end
/-! slices -/
def rSlU (K : PySem.W.Frag) : V → Option Int → Option Int → Hp → VK → Prop := fun x lo hi H Q => rSlL K x lo hi H Q ∨ rSlA K x lo hi H Q ∨ ∃ z, x = .str z ∧ z.length ≤ sizeLine ∧ Q (.str (cutS z lo hi)) H
theorem sl_U {X : Cx} {K : PySem.W.Frag} (hK : X.K = K) : SlR X (rSlU K) := by
  subst hK
  exact sl_list.or (sl_tupA.or sl_str)
section
variable {K : PySem.W.Frag} {σ : L2.St} {H : Hp} {Q : VK} {te : TE} {tl th : TO} {QO : Option Int → Hp → Prop} {r : V → Option Int → Option Int → Hp → VK → Prop} {a : Addr} {xs : List V} {lo hi : Option Int} {i : Int} {z : Str}
theorem g_sl (h : te σ H fun x H1 => tl σ H1 fun l H2 => th σ H2 fun u H3 => r x l u H3 Q) : tSl r te tl th σ H Q := h
theorem g_part (h : te σ H fun x H1 => ∃ i, x = .int i ∧ QO (some i) H1) : tPart te σ H QO := h
theorem g_exi {A : Int → Prop} (h : A i) : ∃ j, V.int i = .int j ∧ A j := ⟨i, rfl, h⟩
theorem g_noPart (h : QO none H) : tNoPart σ H QO := h
theorem g_slL (h : SqL K H a xs) (q : ∀ p, H p = none → Q (.ref p) (upd H p (.lst (cutV xs lo hi)))) : rSlU K (.ref a) lo hi H Q := .inl ⟨a, xs, rfl, h, q⟩
theorem g_slS (hl : z.length ≤ sizeLine) (q : Q (.str (cutS z lo hi)) H) : rSlU K (.str z) lo hi H Q := .inr (.inr ⟨z, rfl, hl, q⟩)
end
theorem cutV_from {xs : List V} {n : Nat} : cutV xs (some (n : Int)) none = xs.drop n := by
  unfold cutV
  rw [HT.sIx_nat, HT.sIx_none]
  by_cases h : n ≤ xs.length
  · rw [Nat.min_eq_left h, List.take_of_length_le (by simp)]
  · rw [Nat.min_eq_right (by omega), List.drop_of_length_le (by omega), List.drop_of_length_le (by omega)]
    simp

/-! ### methods of built-in types, own methods: the written part named -/
section
variable {X : Cx} {K : PySem.W.Frag} {o e : Expr} {es : List Expr} {to : TE} {t : TA} {name : Str} {apos cpos pos : Pos} {T id : String} {r : V → List V → Hp → VK → Prop}
def rTyV (K : PySem.W.Frag) (T : String) : V → Hp → (Hp → Prop) → Prop := fun x H R => tyV K T x H ∧ R H
def tBMU (K : PySem.W.Frag) (T : String) (r : V → List V → Hp → VK → Prop) (to : TE) (t : TA) : TE := fun σ H Q => to σ H fun x H1 => rTyV K T x H1 fun H2 => t σ H2 fun xs H3 => r x xs H3 Q
end
theorem g_lenM {K : PySem.W.Frag} {H : Hp} {a : Addr} {Q : VK} {α : Type} {f : α → V} {ns : List α} (h : SqL K H a (ns.map f)) (q : Q (.int (ns.length : Nat)) H) : rLenU K [.ref a] H Q := g_lenL h (by rw [List.length_map]; exact q)
theorem g_ty_ {K : PySem.W.Frag} {T : String} {x : V} {H : Hp} {A : Prop} (h : tyV K T x H) (q : A) : tyV K T x H ∧ A := ⟨h, q⟩

/-! ### list comprehensions -/
def LcW (g : TG) (tt : TT) (te : TE) (vs : List Nat) (σ : L2.St) (Q : VK) : It → Hp → Prop := fun J H1 => ∀ D, H1 D = none → ∃ W : Nat → Nat → Hp → Prop, (∃ m, W 0 m (upd H1 D (.lst []))) ∧ ∀ i m H, W i m H →
  (J.stop i H ∧ Q (.ref D) H) ∨ (J.go i H ∧ ∃ Nx : Hp → Prop, (∀ H', Nx H' → ∃ m', m' < m ∧ W (i + 1) m' H') ∧ ∀ x H', J.yld i H x H' → g x (wipe σ vs) H' fun σ2 H2 => wipe σ2 vs = wipe σ vs ∧ tt σ2 H2 fun b H3 =>
    if b = true then te σ2 H3 fun y H4 => ∃ acc, H4 D = some (.lst acc) ∧ acc.length < sizeLine ∧ Nx (upd H4 D (.lst (acc ++ [y]))) else Nx H3)
section
variable {K : PySem.W.Frag} {σ : L2.St} {H : Hp} {g : TG} {tt : TT} {te : TE} {wi : TI} {vs : List Nat} {Q : VK} {lo : Int} {n : Nat} {a : Addr} {xs : List V} {QB : Bool → Hp → Prop}
theorem g_lc (h : wi σ H (LcW g tt te vs σ Q)) : tLc wi g tt te vs σ H Q := h
theorem g_yes (h : QB true H) : tYes σ H QB := h
theorem g_wipe {σ1 σ2 : L2.St} {A : Prop} (e : wipe σ1 vs = wipe σ2 vs) (h : A) : wipe σ1 vs = wipe σ2 vs ∧ A := ⟨e, h⟩
theorem l_range (Pv : Addr → Nat → Hp → Prop) (h0 : ∀ D, H D = none → Pv D 0 (upd H D (.lst [])))
    (hs : ∀ D, H D = none → ∀ i H', i < n → Pv D i H' → g (.int (lo + i)) (wipe σ vs) H' fun σ2 H2 => wipe σ2 vs = wipe σ vs ∧ tt σ2 H2 fun b H3 => if b = true then te σ2 H3 fun y H4 => ∃ acc, H4 D = some (.lst acc) ∧ acc.length < sizeLine ∧ Pv D (i + 1) (upd H4 D (.lst (acc ++ [y]))) else Pv D (i + 1) H3)
    (hd : ∀ D, H D = none → ∀ H', Pv D n H' → Q (.ref D) H') : LcW g tt te vs σ Q (Itr lo n) H := fun D hD => lc_range (Pv D) (h0 D hD) (hs D hD) (hd D hD)
theorem l_list (Pv : Addr → Nat → Hp → Prop) (h0 : ∀ D, H D = none → Pv D 0 (upd H D (.lst []))) (hl : ∀ D, H D = none → ∀ i H', i ≤ xs.length → Pv D i H' → SqL K H' a xs)
    (hs : ∀ D, H D = none → ∀ i x H', xs[i]? = some x → Pv D i H' → g x (wipe σ vs) H' fun σ2 H2 => wipe σ2 vs = wipe σ vs ∧ tt σ2 H2 fun b H3 => if b = true then te σ2 H3 fun y H4 => ∃ acc, H4 D = some (.lst acc) ∧ acc.length < sizeLine ∧ Pv D (i + 1) (upd H4 D (.lst (acc ++ [y]))) else Pv D (i + 1) H3)
    (hd : ∀ D, H D = none → ∀ H', Pv D xs.length H' → Q (.ref D) H') : LcW g tt te vs σ Q (Itl K a) H := fun D hD => lc_list (Pv D) (h0 D hD) (hl D hD) (hs D hD) (hd D hD)
theorem l_tup (Pv : Addr → Nat → Hp → Prop) (h0 : ∀ D, H D = none → Pv D 0 (upd H D (.lst []))) (hl : ∀ D, H D = none → ∀ i H', i ≤ xs.length → Pv D i H' → SqT K H' a xs)
    (hs : ∀ D, H D = none → ∀ i x H', xs[i]? = some x → Pv D i H' → g x (wipe σ vs) H' fun σ2 H2 => wipe σ2 vs = wipe σ vs ∧ tt σ2 H2 fun b H3 => if b = true then te σ2 H3 fun y H4 => ∃ acc, H4 D = some (.lst acc) ∧ acc.length < sizeLine ∧ Pv D (i + 1) (upd H4 D (.lst (acc ++ [y]))) else Pv D (i + 1) H3)
    (hd : ∀ D, H D = none → ∀ H', Pv D xs.length H' → Q (.ref D) H') : LcW g tt te vs σ Q (Itt K a) H := fun D hD => lc_tup (Pv D) (h0 D hD) (hl D hD) (hs D hD) (hd D hD)
end
section
variable {H H1 : Hp} {L : List (Addr × HO)} {a b : Addr} {o o' u u' : HO}
/-- two objects have changed -/
theorem Has.call2 (M : Has H L) (k : Keep [a, b] H H1) (i j : Nat) (hi : L[i]? = some (a, o)) (hj : L[j]? = some (b, u)) (hij : i ≠ j) (e1 : H1 a = some o') (e2 : H1 b = some u') : Has H1 ((L.set i (a, o')).set j (b, u')) := by
  have nab : a ≠ b := M.ne i j hi hj hij
  have k1 : Keep [a] H (upd H1 b u) := fun x w e n => by
    by_cases hx : x = b
    · subst hx
      rw [upd_same]
      exact (M.get j hj).symm.trans e
    · rw [upd_ne hx]
      refine k x w e ?_
      simp only [List.mem_cons, List.not_mem_nil, or_false, not_or]
      exact ⟨fun z => n (List.mem_singleton.mpr z), hx⟩
  have M1 : Has (upd H1 b u) (L.set i (a, o')) := M.call1 k1 i hi (by rw [upd_ne nab]; exact e1)
  have hj' : (L.set i (a, o'))[j]? = some (b, u) := by rw [List.getElem?_set_ne hij]; exact hj
  have M2 := M1.set (o' := u') j hj'
  have e : upd (upd H1 b u) b u' = H1 := by
    rw [upd_upd]
    funext x
    by_cases hx : x = b
    · subst hx
      rw [upd_same, e2]
    · rw [upd_ne hx]
  rw [e] at M2
  exact M2
end

/-! ### None asked -/
def rIsN (neg : Bool) : R2 := fun x y H Q => y = .non ∧ Q (.bl (if neg then !decide (x = .non) else decide (x = .non))) H
theorem o_isN {X : Cx} : OpR X (compareOp .Is) (rIsN false) := op_isN
theorem o_notN {X : Cx} : OpR X (compareOp .IsNot) (rIsN true) := op_notN
section
variable {H : Hp} {Q : VK} {i : Int} {z : Str} {b : Bool} {a : Addr}
theorem g_isNn (h : Q (.bl true) H) : rIsN false .non .non H Q := ⟨rfl, h⟩
theorem g_isNi (h : Q (.bl false) H) : rIsN false (.int i) .non H Q := ⟨rfl, h⟩
theorem g_isNs (h : Q (.bl false) H) : rIsN false (.str z) .non H Q := ⟨rfl, h⟩
theorem g_isNb (h : Q (.bl false) H) : rIsN false (.bl b) .non H Q := ⟨rfl, h⟩
theorem g_isNr (h : Q (.bl false) H) : rIsN false (.ref a) .non H Q := ⟨rfl, h⟩
theorem g_noNn (h : Q (.bl false) H) : rIsN true .non .non H Q := ⟨rfl, h⟩
theorem g_noNi (h : Q (.bl true) H) : rIsN true (.int i) .non H Q := ⟨rfl, h⟩
theorem g_noNs (h : Q (.bl true) H) : rIsN true (.str z) .non H Q := ⟨rfl, h⟩
theorem g_noNb (h : Q (.bl true) H) : rIsN true (.bl b) .non H Q := ⟨rfl, h⟩
theorem g_noNr (h : Q (.bl true) H) : rIsN true (.ref a) .non H Q := ⟨rfl, h⟩
end

/-! ### list.index, min and max of a list -/
def rIndexU (K : PySem.W.Frag) : V → List V → Hp → VK → Prop := rIndex K
theorem m_index {X : Cx} {K : PySem.W.Frag} (hK : X.K = K) : MtR X "list.index" (rIndexU K) := by
  subst hK
  exact mt_index
def rMin1 (K : PySem.W.Frag) : List V → Hp → VK → Prop := rMin K
def rMax1 (K : PySem.W.Frag) : List V → Hp → VK → Prop := rMax K
theorem c_min1 {X : Cx} {K : PySem.W.Frag} (hK : X.K = K) (hc : X.calm = true) : CallR X (.builtin "min") (rMin1 K) := by
  subst hK
  exact cr_min hc
theorem c_max1 {X : Cx} {K : PySem.W.Frag} (hK : X.K = K) (hc : X.calm = true) : CallR X (.builtin "max") (rMax1 K) := by
  subst hK
  exact cr_max hc
section
variable {K : PySem.W.Frag} {H : Hp} {Q : VK} {a : Addr} {ns : List Int} {ys : List V} {y z : V} {j : Nat}
theorem g_min1 (h : SqL K H a (ns.map V.int)) (h0 : 0 < ns.length) (q : ∀ m, m ∈ ns → (∀ y, y ∈ ns → m ≤ y) → Q (.int m) H) : rMin1 K [.ref a] H Q := ⟨a, ns, rfl, h, h0, q⟩
theorem g_max1 (h : SqL K H a (ns.map V.int)) (h0 : 0 < ns.length) (q : ∀ m, m ∈ ns → (∀ y, y ∈ ns → y ≤ m) → Q (.int m) H) : rMax1 K [.ref a] H Q := ⟨a, ns, rfl, h, h0, q⟩
theorem g_index (h : SqL K H a ys) (f1 : flatV y = true) (f2 : ys.all flatV = true) (hj : ys[j]? = some z) (e : eqV z y = true) (n : ∀ (m : Nat) (z' : V), m < j → ys[m]? = some z' → eqV z' y = false) (q : Q (.int (j : Nat)) H) : rIndexU K (.ref a) [y] H Q :=
  ⟨a, ys, y, j, z, rfl, rfl, h, f1, f2, hj, e, n, q⟩
end

/-! ### unpacking -/
section
variable {K : PySem.W.Frag} {σ : L2.St} {H : Hp} {R : L2.St → Hp → Prop} {t : TGs} {g : TG} {n : Nat} {a : Addr} {xs r : List V} {v : V}
theorem g_unp (h : SqT K H a xs) (hn : xs.length = n) (k : t xs σ H R) : gTup K n t (.ref a) σ H R := ⟨a, xs, rfl, h, hn, k⟩
theorem g_gc (k : g v σ H fun σ' H' => t r σ' H' R) : gCons g t (v :: r) σ H R := ⟨v, r, rfl, k⟩
theorem g_gn (k : R σ H) : gNil [] σ H R := ⟨rfl, k⟩
end
/-! e.f += x -/
def rFA (K : PySem.W.Frag) (tv : TE) (rd : V → V → Hp → VK → Prop) (f : Str) (σ : L2.St) : V → Hp → (Hp → Prop) → Prop := fun x H1 R => ∃ a C dx fs v, x = .ref a ∧ H1 a = some (.ins C dx fs) ∧ Cls K C ∧ NoAttr K C f ∧ fs.lookup f = some v ∧
  tv σ H1 fun y H2 => rd v y H2 fun z H3 => ∃ dx' fs', H3 a = some (.ins C dx' fs') ∧ fs'.length < 1000 ∧ R (upd H3 a (.ins C dx' (putF f z fs')))
section
variable {K : PySem.W.Frag} {σ : L2.St} {H : Hp} {D : Ends} {ta tv : TE} {a C dx : Addr} {fs fs' : List (Str × V)} {f : Str} {L : List (Addr × HO)} {R : Hp → Prop} {i j : Int} {rd : V → V → Hp → VK → Prop}
theorem g_fldaug (h : ta σ H fun x H1 => rFA K tv rd f σ x H1 (D.nx σ)) : sFldAug K ta tv rd f D σ H := h
theorem g_fa1 (M : Has H L) (n : Nat) (he : L[n]? = some (a, .ins C dx fs)) (cl : Cls K C) (na : NoAttr K C f) (l : fs.lookup f = some (.int i)) (hv : tv σ H fun y H2 => y = .int j ∧ H2 = H) (hl : fs.length < 1000) (e : putF f (.int (i + j)) fs = fs')
    (hm : ∀ {Q Q' : VK}, (∀ v H, Q v H → Q' v H) → tv σ H Q → tv σ H Q' := by intro Q Q' hh z; exact hh _ _ z) (k : Has (upd H a (.ins C dx fs')) (L.set n (a, .ins C dx fs')) → R (upd H a (.ins C dx fs'))) : rFA K tv rAdd f σ (.ref a) H R := by
  refine ⟨a, C, dx, fs, .int i, rfl, M.get n he, cl, na, l, hm (fun y H2 z => ?_) hv⟩
  obtain ⟨rfl, rfl⟩ := z
  exact ⟨i, j, rfl, rfl, dx, fs, M.get n he, hl, by rw [e]; exact k (M.set n he)⟩
end
theorem g_repT {H : Hp} {Q : VK} {a : Addr} {x : V} {k : Int} (h : H a = some (.tup [x])) (h0 : 1 ≤ k) (h1 : k ≤ 1000) (q : ∀ p H', Same H H' → H' p = some (.tup (List.replicate k.toNat x)) → Q (.ref p) H') : rMulU (.ref a) (.int k) H Q :=
  .inr ⟨a, k, [x], rfl, rfl, h, by simp, h0, h1, by simp, fun p H' sm hp => q p H' sm (by rw [rep_flat] at hp; exact hp)⟩
theorem g_isB {H : Hp} {Q : VK} {a b : Bool} (h : Q (.bl (decide (a = b))) H) : rIsB (.bl a) (.bl b) H Q := ⟨a, b, rfl, rfl, h⟩
theorem g_notB {H : Hp} {Q : VK} {a b : Bool} (h : Q (.bl (!decide (a = b))) H) : rNotB (.bl a) (.bl b) H Q := ⟨a, b, rfl, rfl, h⟩
/-! len(set(xs)) of ints, each once -/
def rLS (K : PySem.W.Frag) : V → Hp → VK → Prop := fun x H1 Q => ∃ (l : Addr) (ns : List Int), x = V.ref l ∧ SqL K H1 l (ns.map V.int) ∧ ns.length < 64 ∧ ns.Nodup ∧ Q (.int ns.length) H1
def tLS (K : PySem.W.Frag) (ta : TE) : TE := fun σ H Q => ta σ H fun x H1 => rLS K x H1 Q
theorem pe_lenSetU {X : Cx} {K : PySem.W.Frag} (hK : X.K = K) {a : Expr} {ta : TE} {p p2 q pos : Pos} (hc : X.calm = true) (hg : Gl X "len") (hm : X.mg "len" = none) (hg2 : Gl X "set") (hm2 : X.mg "set" = none) (ha : PE X a ta)
    (na : starEach [a] X.env = (false, eval a X.env) :: starEach [] X.env := by rfl) : PE X (.Call (.Name "len" p) [.Call (.Name "set" p2) [a] [] q] [] pos) (tLS K ta) := by
  subst hK
  exact pe_lenSetI hc hg hm hg2 hm2 ha na
section
variable {K : PySem.W.Frag} {σ : L2.St} {H : Hp} {ta : TE} {Q : VK} {l : Addr} {ns : List Int}
theorem g_lset (h : ta σ H fun x H1 => rLS K x H1 Q) : tLS K ta σ H Q := h
theorem g_ls (h : SqL K H l (ns.map V.int)) (hl : ns.length < 64) (hn : ns.Nodup) (q : Q (.int (ns.length : Nat)) H) : rLS K (.ref l) H Q := ⟨l, ns, rfl, h, hl, hn, q⟩
end
theorem _root_.G.Has.right {H : Hp} {X C : List (Addr × HO)} (M : Has H (X ++ C)) : Has H C := M.sub (List.sublist_append_right X C)
theorem _root_.G.Has.left {H : Hp} {X C : List (Addr × HO)} (M : Has H (X ++ C)) : Has H X := M.sub (List.sublist_append_left X C)
theorem _root_.G.Has.frameR {H H' : Hp} {X C C' : List (Addr × HO)} (M : Has H (X ++ C)) (k : Keep (C.map (·.1)) H H') (M' : Has H' C') (e : C'.map (·.1) = C.map (·.1)) : Has H' (X ++ C') := by
  have z := Has.frame (X := X) (L := C) (Y := []) (L' := C') (by rw [List.append_nil]; exact M) k M' e
  rw [List.append_nil] at z
  exact z
/-! texts that stand written: equal, not equal -/
section
variable {K : PySem.W.Frag} {H : Hp} {Q : VK} {z z' : Str}
theorem g_eqSS (h : Q (.bl true) H) : rEqU K false (.str z) (.str z) H Q := g_eqS (by rw [decide_eq_true (rfl : z = z)]; exact h)
theorem g_eqSx (e : ¬ z = z') (h : Q (.bl false) H) : rEqU K false (.str z) (.str z') H Q := g_eqS (by rw [decide_eq_false e]; exact h)
theorem g_neSS (h : Q (.bl false) H) : rEqU K true (.str z) (.str z) H Q := g_neS (by rw [decide_eq_true (rfl : z = z)]; exact h)
theorem g_neSx (e : ¬ z = z') (h : Q (.bl true) H) : rEqU K true (.str z) (.str z') H Q := g_neS (by rw [decide_eq_false e]; exact h)
end
end G

set_option Elab.async false
set_option linter.all false
set_option maxRecDepth 100000
set_option maxHeartbeats 4000000
/-! Data that never changes: None, bools, ints, texts, tuples of such. -/
namespace G
open PySem PySem.Spec PyProof.Rows L2

mutual
/-- the value v is the data d, by the heap H -/
inductive Im (H : Hp) : V → PyData → Prop
  | non : Im H .non .none
  | bl (b : Bool) : Im H (.bl b) (.bool b)
  | int (i : Int) : Im H (.int i) (.int i)
  | str (x : Str) : Im H (.str x) (.str x)
  | tup {a : Addr} {xs : List V} {ds : List PyData} : H a = some (.tup xs) → Ims H xs ds → Im H (.ref a) (.tuple ds)
inductive Ims (H : Hp) : List V → List PyData → Prop
  | nil : Ims H [] []
  | cons {v : V} {vs : List V} {d : PyData} {ds : List PyData} : Im H v d → Ims H vs ds → Ims H (v :: vs) (d :: ds)
end
section
variable {K : PySem.W.Frag} {H H' : Hp} {v x y : V} {d e : PyData} {vs xs : List V} {ds es : List PyData} {a b p : Addr} {ms : List Addr} {i : Int} {z : Str}
mutual
theorem Im.mono : ∀ {v : V} {d : PyData}, Im H v d → (∀ a xs, H a = some (.tup xs) → H' a = some (.tup xs)) → Im H' v d
  | _, _, .non, _ => .non
  | _, _, .bl b, _ => .bl b
  | _, _, .int i, _ => .int i
  | _, _, .str x, _ => .str x
  | _, _, .tup h hs, k => .tup (k _ _ h) (Ims.mono hs k)
theorem Ims.mono : ∀ {vs : List V} {ds : List PyData}, Ims H vs ds → (∀ a xs, H a = some (.tup xs) → H' a = some (.tup xs)) → Ims H' vs ds
  | _, _, .nil, _ => .nil
  | _, _, .cons h t, k => .cons (Im.mono h k) (Ims.mono t k)
end
theorem Im.same (h : Im H v d) (k : Same H H') : Im H' v d := h.mono fun a xs e => k a _ e
theorem Ims.same (h : Ims H vs ds) (k : Same H H') : Ims H' vs ds := h.mono fun a xs e => k a _ e
/-- no tuple stands at ms -/
def NoTup (H : Hp) (ms : List Addr) : Prop := ∀ m ∈ ms, ∀ xs, H m ≠ some (.tup xs)
theorem NoTup.nil : NoTup H [] := fun _ h => nomatch h
theorem NoTup.one {o : HO} (h : H a = some o) (n : ∀ xs, o ≠ .tup xs) : NoTup H [a] := fun m hm xs e => by
  rw [List.mem_singleton.mp hm, h] at e
  exact n xs (Option.some.inj e)
theorem NoTup.new (h : H a = none) : NoTup H [a] := fun m hm xs e => by
  rw [List.mem_singleton.mp hm, h] at e
  cases e
theorem NoTup.cons {o : HO} (h : H a = some o) (n : ∀ xs, o ≠ .tup xs) (t : NoTup H ms) : NoTup H (a :: ms) := fun m hm xs e => by
  rcases List.mem_cons.mp hm with z | z
  · rw [z, h] at e
    exact n xs (Option.some.inj e)
  · exact t m z xs e
theorem Im.keep (h : Im H v d) (k : Keep ms H H') (n : NoTup H ms) : Im H' v d := h.mono fun a xs e => k a _ e fun z => n a z xs e
theorem Ims.keep (h : Ims H vs ds) (k : Keep ms H H') (n : NoTup H ms) : Ims H' vs ds := h.mono fun a xs e => k a _ e fun z => n a z xs e
mutual
theorem Im.dp : ∀ {v : V} {d : PyData}, Im H v d → Dp K H v d
  | _, _, .non => .non
  | _, _, .bl b => .bl b
  | _, _, .int i => .int i
  | _, _, .str x => .str x
  | _, _, .tup h hs => .tup (SqT.of h) (Ims.dp hs)
theorem Ims.dp : ∀ {vs : List V} {ds : List PyData}, Ims H vs ds → DpAll K H vs ds
  | _, _, .nil => .nil
  | _, _, .cons h t => .cons (Im.dp h) (Ims.dp t)
end
theorem Ims.length : ∀ {vs : List V} {ds : List PyData}, Ims H vs ds → vs.length = ds.length
  | _, _, .nil => rfl
  | _, _, .cons _ t => by rw [List.length_cons, List.length_cons, t.length]
theorem Ims.get : ∀ {vs : List V} {ds : List PyData} {n : Nat} {d : PyData}, Ims H vs ds → ds[n]? = some d → ∃ v, vs[n]? = some v ∧ Im H v d
  | _, _, n, _, .nil, e => by simp at e
  | _, _, 0, _, .cons h t, e => by
    simp only [List.getElem?_cons_zero, Option.some.injEq] at e
    subst e
    exact ⟨_, rfl, h⟩
  | _, _, n + 1, _, .cons h t, e => by
    simp only [List.getElem?_cons_succ] at e
    obtain ⟨v, h1, h2⟩ := t.get e
    exact ⟨v, by simpa using h1, h2⟩
theorem Ims.append : ∀ {vs xs : List V} {ds es : List PyData}, Ims H vs ds → Ims H xs es → Ims H (vs ++ xs) (ds ++ es)
  | _, _, _, _, .nil, s => s
  | _, _, _, _, .cons h t, s => .cons h (t.append s)
theorem Ims.take : ∀ {vs : List V} {ds : List PyData} (n : Nat), Ims H vs ds → Ims H (vs.take n) (ds.take n)
  | _, _, 0, _ => .nil
  | _, _, _ + 1, .nil => .nil
  | _, _, n + 1, .cons h t => .cons h (t.take n)
theorem Ims.drop : ∀ {vs : List V} {ds : List PyData} (n : Nat), Ims H vs ds → Ims H (vs.drop n) (ds.drop n)
  | _, _, 0, h => h
  | _, _, _ + 1, .nil => .nil
  | _, _, n + 1, .cons _ t => t.drop n
theorem Ims.one (h : Im H v d) : Ims H [v] [d] := .cons h .nil
theorem Im.int_inv (h : Im H v (.int i)) : v = .int i := by cases h; rfl
theorem Im.bl_inv {b : Bool} (h : Im H v (.bool b)) : v = .bl b := by cases h; rfl
theorem Im.str_inv (h : Im H v (.str z)) : v = .str z := by cases h; rfl
theorem Im.non_inv (h : Im H v .none) : v = .non := by cases h; rfl
theorem Im.tup_inv (h : Im H v (.tuple ds)) : ∃ a xs, v = .ref a ∧ H a = some (.tup xs) ∧ Ims H xs ds := by
  cases h with
  | tup h hs => exact ⟨_, _, rfl, h, hs⟩
/-- the items of ds[lo:hi] -/
def cutD (ds : List PyData) (lo hi : Option Int) : List PyData := (ds.drop (HT.sIx ds.length 0 lo)).take (HT.sIx ds.length ds.length hi - HT.sIx ds.length 0 lo)
theorem Ims.cut {lo hi : Option Int} (h : Ims H vs ds) : Ims H (cutV vs lo hi) (cutD ds lo hi) := by
  unfold cutV cutD
  rw [h.length]
  exact (h.drop _).take _
theorem cutD_to {n : Nat} : cutD ds none (some (n : Int)) = ds.take n := by
  unfold cutD
  rw [HT.sIx_nat, HT.sIx_none, Nat.sub_zero, List.drop_zero]
  by_cases h : n ≤ ds.length
  · rw [Nat.min_eq_left h]
  · rw [Nat.min_eq_right (by omega), List.take_of_length_le (Nat.le_refl _), List.take_of_length_le (by omega)]
theorem cutD_from {n : Nat} : cutD ds (some (n : Int)) none = ds.drop n := by
  unfold cutD
  rw [HT.sIx_nat, HT.sIx_none]
  by_cases h : n ≤ ds.length
  · rw [Nat.min_eq_left h, List.take_of_length_le (by simp)]
  · rw [Nat.min_eq_right (by omega), List.drop_of_length_le (by omega), List.drop_of_length_le (by omega)]
    simp
theorem cutD_length (ds : List PyData) (lo hi : Option Int) : (cutD ds lo hi).length ≤ ds.length := by
  unfold cutD
  rw [List.length_take, List.length_drop]
  omega
end
/-! ### the steps over data -/
section
variable {K : PySem.W.Frag} {H : Hp} {Q : VK} {v x y : V} {d e : PyData} {vs xs : List V} {ds es : List PyData} {a b p : Addr} {i : Int} {z : Str} {n : Nat} {lo hi : Option Int} {R : It → Hp → Prop} {QB : Bool → Hp → Prop}
/-- a new tuple of data -/
theorem m_new (h : Ims H xs ds) (hl : ds.length ≤ 100000) (k : ∀ p H', Same H H' → H p = none → Im H' (.ref p) (.tuple ds) → Q (.ref p) H') : rTupN xs H Q :=
  ⟨szle (by rw [h.length]; exact hl), fun p hp => k p _ (Same.new hp) hp (.tup upd_same (h.same (Same.new hp)))⟩
theorem m_ix (h : Im H x (.tuple ds)) (e : i = (n : Int)) (hd : ds[n]? = some d) (k : ∀ v, Im H v d → Q v H) : rIxU K x (.int i) H Q := by
  obtain ⟨a, xs, rfl, h1, h2⟩ := h.tup_inv
  obtain ⟨v, hv, hm⟩ := h2.get hd
  exact g_ixT (SqT.of h1) e hv (k v hm)
theorem m_len (h : Im H x (.tuple ds)) (q : Q (.int (ds.length : Nat)) H) : rLenU K [x] H Q := by
  obtain ⟨a, xs, rfl, h1, h2⟩ := h.tup_inv
  refine g_lenT (SqT.of h1) ?_
  rw [h2.length]
  exact q
theorem m_eq (hx : Im H x d) (hy : Im H y e) (s1 : SeqAt.shaped d = true) (s2 : SeqAt.shaped e = true) (h : Q (.bl (PyData.eqv d e)) H) : rEqU K false x y H Q := g_eqD hx.dp hy.dp s1 s2 h
theorem m_ne (hx : Im H x d) (hy : Im H y e) (s1 : SeqAt.shaped d = true) (s2 : SeqAt.shaped e = true) (h : Q (.bl (!PyData.eqv d e)) H) : rEqU K true x y H Q := g_neD hx.dp hy.dp s1 s2 h
theorem m_cat (hx : Im H x (.tuple ds)) (hy : Im H y (.tuple es)) (hl : ds.length + es.length ≤ 100000) (k : ∀ p H', Same H H' → Im H' (.ref p) (.tuple (ds ++ es)) → Q (.ref p) H') : rAddU K x y H Q := by
  obtain ⟨a, xs, rfl, h1, h2⟩ := hx.tup_inv
  obtain ⟨b, ys, rfl, h3, h4⟩ := hy.tup_inv
  refine .inr ⟨a, b, xs, ys, rfl, rfl, SqT.of h1, SqT.of h3, szle (by rw [h2.length, h4.length]; exact hl), fun e => ?_, fun _ e => ?_, fun _ _ p hp => ?_⟩
  · subst e
    have : ds = [] := by cases h2; rfl
    subst this
    exact k b H (Same.refl H) hy
  · subst e
    have : es = [] := by cases h4; rfl
    subst this
    rw [List.append_nil] at k
    exact k a H (Same.refl H) hx
  · exact k p _ (Same.new hp) (.tup upd_same ((h2.append h4).same (Same.new hp)))
theorem m_sl (hx : Im H x (.tuple ds)) (k : ∀ p H', Same H H' → Im H' (.ref p) (.tuple (cutD ds lo hi)) → Q (.ref p) H') : rSlU K x lo hi H Q := by
  obtain ⟨a, xs, rfl, h1, h2⟩ := hx.tup_inv
  refine .inr (.inl ⟨a, xs, rfl, SqT.of h1, fun e => ?_, fun _ p hp => ?_⟩)
  · have z : cutD ds lo hi = ds := by
      unfold cutD
      rw [← h2.length, e.1, e.2, List.drop_zero, Nat.sub_zero, h2.length, List.take_length]
    rw [z] at k
    exact k a H (Same.refl H) hx
  · exact k p _ (Same.new hp) (.tup upd_same (h2.cut.same (Same.new hp)))
theorem m_isiT {T' : String} {b : Bool} (hx : Im H x (.tuple ds)) (hk : kitB "tuple" T' = some b) (h : Q (.bl b) H) : rIsi K [x, .ty T'] H Q := by
  obtain ⟨a, xs, rfl, h1, _⟩ := hx.tup_inv
  exact isi_of (.base (.tup h1)) hk h
theorem m_seq (hx : Im H x (.tuple ds)) (k : ∀ a xs, x = .ref a → H a = some (.tup xs) → Ims H xs ds → R (Itt K a) H) : (∃ b ys, x = .ref b ∧ SqL K H b ys ∧ R (Itl K b) H) ∨ ∃ b ys, x = .ref b ∧ SqT K H b ys ∧ R (Itt K b) H := by
  obtain ⟨a, xs, e, h1, h2⟩ := hx.tup_inv
  exact .inr ⟨a, xs, e, SqT.of h1, k a xs e h1 h2⟩
end
/-! tuple(..) -/
def rTupU (K : PySem.W.Frag) : List V → Hp → VK → Prop := fun vs H Q => ∃ x, vs = [x] ∧ kTup K x H Q
theorem c_tuple {X : Cx} {K : PySem.W.Frag} (hK : X.K = K) : CallR X (.type "tuple") (rTupU K) := by
  subst hK
  rintro pins s σ H _ us Q I r ⟨x, rfl, h⟩
  obtain ⟨u, rfl, ru⟩ := vals1 r
  exact rl_tuple pins s σ H x u Q I ru h
section
variable {K : PySem.W.Frag} {H : Hp} {Q : VK} {x : V} {a : Addr} {xs : List V} {ds : List PyData}
theorem m_tupleT (hx : Im H x (.tuple ds)) (q : Q x H) : rTupU K [x] H Q := by
  obtain ⟨a, xs, rfl, h1, _⟩ := hx.tup_inv
  exact ⟨_, rfl, .inr ⟨a, xs, rfl, SqT.of h1, q⟩⟩
theorem m_tupleL (h : SqL K H a xs) (hm : Ims H xs ds) (k : ∀ p H', Same H H' → H p = none → Im H' (.ref p) (.tuple ds) → Q (.ref p) H') : rTupU K [.ref a] H Q :=
  ⟨_, rfl, .inl ⟨a, xs, rfl, h, fun p hp => k p _ (Same.new hp) hp (.tup upd_same (hm.same (Same.new hp)))⟩⟩
end
/-! ### what == says -/
theorem shaped_of {d : PyData} (h : d.canLay0 = true) (h2 : d.depth ≤ 64) : SeqAt.shaped d = true := by
  unfold SeqAt.shaped
  rw [h, decide_eq_true h2]
  rfl
theorem layAll_mem : ∀ {ds : List PyData}, (∀ d ∈ ds, d.canLay0 = true) → PyData.canLayAll0 ds = true
  | [], _ => rfl
  | d :: ds, h => by
    rw [PyData.canLayAll0, h d List.mem_cons_self, layAll_mem fun x hx => h x (List.mem_cons_of_mem _ hx)]
    rfl
theorem depthAll_mem {k : Nat} : ∀ {ds : List PyData}, (∀ d ∈ ds, d.depth ≤ k) → PyData.depthAll ds ≤ k
  | [], _ => by rw [PyData.depthAll]; exact Nat.zero_le _
  | d :: ds, h => by
    rw [PyData.depthAll]
    exact Nat.max_le.mpr ⟨h d List.mem_cons_self, depthAll_mem fun x hx => h x (List.mem_cons_of_mem _ hx)⟩
/-- data of depth at most k -/
def Lay (k : Nat) (d : PyData) : Prop := d.canLay0 = true ∧ d.depth ≤ k
theorem Lay.shaped {k : Nat} {d : PyData} (h : Lay k d) (hk : k ≤ 64) : SeqAt.shaped d = true := shaped_of h.1 (Nat.le_trans h.2 hk)
theorem Lay.tup {k : Nat} {ds : List PyData} (h : ∀ d ∈ ds, Lay k d) : Lay (k + 1) (.tuple ds) :=
  ⟨by rw [PyData.canLay0]; exact layAll_mem fun d hd => (h d hd).1, by rw [PyData.depth]; exact Nat.succ_le_succ (depthAll_mem fun d hd => (h d hd).2)⟩
theorem Lay.int {k : Nat} {i : Int} : Lay k (.int i) := ⟨by rw [PyData.canLay0], by rw [PyData.depth]; exact Nat.zero_le _⟩
theorem Lay.bl {k : Nat} {b : Bool} : Lay k (.bool b) := ⟨by rw [PyData.canLay0], by rw [PyData.depth]; exact Nat.zero_le _⟩
theorem Lay.non {k : Nat} : Lay k .none := ⟨by rw [PyData.canLay0], by rw [PyData.depth]; exact Nat.zero_le _⟩
theorem Lay.str {k : Nat} {z : Str} (h : PyData.strOk z = true) : Lay k (.str z) := ⟨by rw [PyData.canLay0]; exact h, by rw [PyData.depth]; exact Nat.zero_le _⟩
theorem Lay.mono {k k' : Nat} {d : PyData} (h : Lay k d) (hk : k ≤ k') : Lay k' d := ⟨h.1, Nat.le_trans h.2 hk⟩
theorem Lay.refl {k : Nat} {d : PyData} (h : Lay k d) : PyData.eqv d d = true := SeqAt.eqv_refl d h.1
theorem inV_strs {k : Str} {ks : List Str} : inV (.str k) (ks.map V.str) = ks.contains k := by
  unfold inV
  induction ks with
  | nil => rfl
  | cons z ks ih =>
    rw [List.map_cons, List.any_cons, ih, List.contains_cons]
    congr 1
    have e : eqV (.str z) (.str k) = (z == k) := rfl
    rw [e]
    by_cases h : z = k
    · subst h; rfl
    · rw [beq_eq_false_iff_ne.mpr h, beq_eq_false_iff_ne.mpr (Ne.symm h)]
theorem flat_strs {ks : List Str} : (ks.map V.str).all flatV = true := by
  induction ks with
  | nil => rfl
  | cons z ks ih => rw [List.map_cons, List.all_cons, ih]; rfl
/-- a text within a new tuple, a new list of texts -/
theorem g_inTs {K : PySem.W.Frag} {H : Hp} {Q : VK} {k : Str} {p : Addr} {ks : List Str} (h : H p = some (.tup (ks.map V.str)) ∨ H p = some (.lst (ks.map V.str))) (q : Q (.bl (ks.contains k)) H) : rInU K false (.str k) (.ref p) H Q := by
  refine .inl ⟨p, ks.map V.str, rfl, ?_, rfl, flat_strs, ?_⟩
  · rcases h with h | h
    · exact .inr (SqT.of h)
    · exact .inl (SqL.of h)
  · rw [inV_strs]
    exact q
theorem g_niTs {K : PySem.W.Frag} {H : Hp} {Q : VK} {k : Str} {p : Addr} {ks : List Str} (h : H p = some (.tup (ks.map V.str)) ∨ H p = some (.lst (ks.map V.str))) (q : Q (.bl (!ks.contains k)) H) : rInU K true (.str k) (.ref p) H Q := by
  refine .inl ⟨p, ks.map V.str, rfl, ?_, rfl, flat_strs, ?_⟩
  · rcases h with h | h
    · exact .inr (SqT.of h)
    · exact .inl (SqL.of h)
  · rw [inV_strs]
    exact q
theorem map_take_succ {α β : Type} {f : α → β} {ds : List α} {i : Nat} {d : α} (h : ds[i]? = some d) : (ds.take (i + 1)).map f = (ds.take i).map f ++ [f d] := by
  rw [List.take_add_one, h, List.map_append]
  rfl
theorem filter_take_succ {α : Type} {f : α → Bool} {ds : List α} {i : Nat} {d : α} (h : ds[i]? = some d) : (ds.take (i + 1)).filter f = (ds.take i).filter f ++ (if f d then [d] else []) := by
  rw [List.take_add_one, h, List.filter_append]
  congr 1
  show [d].filter f = _
  rw [List.filter_cons]
  rfl
/-! ### data of any kind, looked at -/
def isI : PyData → Bool
  | .int _ => true
  | .bool _ => true
  | _ => false
def isB : PyData → Bool
  | .bool _ => true
  | _ => false
def isS : PyData → Bool
  | .str _ => true
  | _ => false
def isT : PyData → Bool
  | .tuple _ => true
  | _ => false
def strD (ks : List Str) : PyData → Bool
  | .str z => ks.contains z
  | _ => false
def numD (lo hi : Int) : PyData → Bool
  | .int i => decide (lo ≤ i) && decide (i ≤ hi)
  | _ => false
def lenI (n : Int) : PyData → Bool
  | .tuple ds => decide ((ds.length : Int) = n)
  | _ => false
section
variable {K : PySem.W.Frag} {H : Hp} {Q : VK} {x y : V} {d e : PyData} {vs xs : List V} {ds es : List PyData} {a b p : Addr} {i lo hi : Int} {z : Str} {n : Nat} {ks : List Str}
theorem m_isiI (hx : Im H x d) (q : Q (.bl (isI d)) H) : rIsi K [x, .ty "int"] H Q := by
  cases hx with
  | non => exact g_isiNi q
  | bl b => exact g_isiBi q
  | int i => exact g_isiIi q
  | str z => exact g_isiSi q
  | tup h hs => exact m_isiT (.tup h hs) k_ti q
theorem m_isiB (hx : Im H x d) (q : Q (.bl (isB d)) H) : rIsi K [x, .ty "bool"] H Q := by
  cases hx with
  | non => exact g_isiNb q
  | bl b => exact g_isiBb q
  | int i => exact g_isiIb q
  | str z => exact g_isiSb q
  | tup h hs => exact m_isiT (.tup h hs) k_tb q
theorem m_isiS (hx : Im H x d) (q : Q (.bl (isS d)) H) : rIsi K [x, .ty "str"] H Q := by
  cases hx with
  | non => exact g_isiNs q
  | bl b => exact g_isiBs q
  | int i => exact g_isiIs q
  | str z => exact g_isiSs q
  | tup h hs => exact m_isiT (.tup h hs) k_ts q
theorem m_isiU (hx : Im H x d) (q : Q (.bl (isT d)) H) : rIsi K [x, .ty "tuple"] H Q := by
  cases hx with
  | non => exact g_isiNt q
  | bl b => exact g_isiBt q
  | int i => exact g_isiIt q
  | str z => exact g_isiSt q
  | tup h hs => exact m_isiT (.tup h hs) k_tt q
theorem isT_inv (h : isT d = true) : ∃ ds, d = .tuple ds := by
  cases d <;> first | (cases h; done) | exact ⟨_, rfl⟩
theorem isS_inv (h : isS d = true) : ∃ z, d = .str z := by
  cases d <;> first | (cases h; done) | exact ⟨_, rfl⟩
theorem isB_inv (h : isB d = true) : ∃ b, d = .bool b := by
  cases d <;> first | (cases h; done) | exact ⟨_, rfl⟩
theorem num_inv (h : numD lo hi d = true) : ∃ i, d = .int i ∧ lo ≤ i ∧ i ≤ hi := by
  cases d <;> first | (cases h; done) | skip
  rename_i i
  replace h : (decide (lo ≤ i) && decide (i ≤ hi)) = true := h
  rw [Bool.and_eq_true, decide_eq_true_eq, decide_eq_true_eq] at h
  exact ⟨i, rfl, h.1, h.2⟩
theorem num_of (h1 : lo ≤ i) (h2 : i ≤ hi) : numD lo hi (.int i) = true := by
  show (decide (lo ≤ i) && decide (i ≤ hi)) = true
  rw [decide_eq_true h1, decide_eq_true h2]
  rfl
theorem str_inv (h : strD ks d = true) : ∃ z, d = .str z ∧ z ∈ ks := by
  cases d <;> first | (cases h; done) | skip
  rename_i z
  exact ⟨z, rfl, List.contains_iff_mem.mp h⟩
theorem len_inv (h : lenI (n : Int) d = true) : ∃ ds, d = .tuple ds ∧ ds.length = n := by
  cases d <;> first | (cases h; done) | skip
  rename_i ds
  replace h : decide ((ds.length : Int) = n) = true := h
  rw [decide_eq_true_eq] at h
  exact ⟨ds, rfl, by omega⟩
theorem len1 (h : lenI 1 d = true) : ∃ a, d = .tuple [a] := by
  obtain ⟨ds, rfl, hl⟩ := len_inv (n := 1) h
  match ds, hl with
  | [a], _ => exact ⟨a, rfl⟩
theorem len2 (h : lenI 2 d = true) : ∃ a b, d = .tuple [a, b] := by
  obtain ⟨ds, rfl, hl⟩ := len_inv (n := 2) h
  match ds, hl with
  | [a, b], _ => exact ⟨a, b, rfl⟩
theorem len3 (h : lenI 3 d = true) : ∃ a b c, d = .tuple [a, b, c] := by
  obtain ⟨ds, rfl, hl⟩ := len_inv (n := 3) h
  match ds, hl with
  | [a, b, c], _ => exact ⟨a, b, c, rfl⟩
theorem len4 (h : lenI 4 d = true) : ∃ a b c e, d = .tuple [a, b, c, e] := by
  obtain ⟨ds, rfl, hl⟩ := len_inv (n := 4) h
  match ds, hl with
  | [a, b, c, e], _ => exact ⟨a, b, c, e, rfl⟩
theorem len7 (h : lenI 7 d = true) : ∃ a b c e f g k, d = .tuple [a, b, c, e, f, g, k] := by
  obtain ⟨ds, rfl, hl⟩ := len_inv (n := 7) h
  match ds, hl with
  | [a, b, c, e, f, g, k], _ => exact ⟨a, b, c, e, f, g, k, rfl⟩
theorem Ims.cons_inv (h : Ims H vs (d :: ds)) : ∃ v ws, vs = v :: ws ∧ Im H v d ∧ Ims H ws ds := by
  cases h with
  | cons h t => exact ⟨_, _, rfl, h, t⟩
theorem Ims.nil_inv (h : Ims H vs []) : vs = [] := by
  cases h
  rfl
theorem Ims.mem : ∀ {vs : List V} {ds : List PyData} {v : V}, Ims H vs ds → v ∈ vs → ∃ d ∈ ds, Im H v d
  | _, _, _, .nil, h => by cases h
  | _, _, _, .cons h t, hv => by
    rcases List.mem_cons.mp hv with rfl | hv
    · exact ⟨_, List.mem_cons_self, h⟩
    · obtain ⟨d, hd, hi⟩ := t.mem hv
      exact ⟨d, List.mem_cons_of_mem _ hd, hi⟩
theorem ims_strs : ∀ (ks : List Str), Ims H (ks.map V.str) (ks.map PyData.str)
  | [] => .nil
  | z :: ks => .cons (.str z) (ims_strs ks)
theorem any_strs : ∀ (ks : List Str), ((ks.map PyData.str).any fun z => PyData.eqv z d) = strD ks d
  | [] => by cases d <;> rfl
  | z :: ks => by
    rw [List.map_cons, List.any_cons, any_strs ks]
    cases d <;> first | (unfold PyData.eqv strD; rfl) | skip
    rename_i y
    show (PyData.eqv (.str z) (.str y) || ks.contains y) = (z :: ks).contains y
    unfold PyData.eqv
    rw [List.contains_cons, Bool.beq_comm]
theorem lay_strs (h : ∀ k ∈ ks, PyData.strOk k = true) : PyData.canLayAll0 (ks.map PyData.str) = true := layAll_mem fun d hd => by
  obtain ⟨k, hk, rfl⟩ := List.mem_map.mp hd
  rw [PyData.canLay0]
  exact h k hk
/-- data within a tuple of texts -/
theorem m_inTs (h : H p = some (.tup (ks.map V.str))) (hx : Im H x d) (sd : SeqAt.shaped d = true) (hs : ∀ k ∈ ks, PyData.strOk k = true) (q : Q (.bl (strD ks d)) H) : rInU K false x (.ref p) H Q := by
  refine .inr (.inr (.inr ⟨d, ks.map PyData.str, hx.dp, .inl (Im.dp (.tup h (ims_strs ks))), sd, lay_strs hs, ?_⟩))
  rw [any_strs]
  exact q
theorem m_niTs (h : H p = some (.tup (ks.map V.str))) (hx : Im H x d) (sd : SeqAt.shaped d = true) (hs : ∀ k ∈ ks, PyData.strOk k = true) (q : Q (.bl (!strD ks d)) H) : rInU K true x (.ref p) H Q := by
  refine .inr (.inr (.inr ⟨d, ks.map PyData.str, hx.dp, .inl (Im.dp (.tup h (ims_strs ks))), sd, lay_strs hs, ?_⟩))
  rw [any_strs]
  exact q
theorem strD_eqv : PyData.eqv d (.str z) = strD [z] d := by
  cases d <;> first | (unfold PyData.eqv strD; rfl) | skip
  rename_i y
  show PyData.eqv (.str y) (.str z) = [z].contains y
  unfold PyData.eqv
  rw [List.contains_cons]
  simp
theorem m_eqS (hx : Im H x d) (sd : SeqAt.shaped d = true) (hz : PyData.strOk z = true) (q : Q (.bl (strD [z] d)) H) : rEqU K false x (.str z) H Q :=
  m_eq hx (.str z) sd ((Lay.str (k := 0) hz).shaped (by decide)) (by rw [strD_eqv]; exact q)
theorem m_neS (hx : Im H x d) (sd : SeqAt.shaped d = true) (hz : PyData.strOk z = true) (q : Q (.bl (!strD [z] d)) H) : rEqU K true x (.str z) H Q :=
  m_ne hx (.str z) sd ((Lay.str (k := 0) hz).shaped (by decide)) (by rw [strD_eqv]; exact q)
theorem im1 {d1 : PyData} (h : Im H x (.tuple [d1])) : ∃ a x1, x = .ref a ∧ H a = some (.tup [x1]) ∧ Im H x1 d1 := by
  obtain ⟨a, xs, rfl, h1, h2⟩ := h.tup_inv
  obtain ⟨x1, r, rfl, i1, h2⟩ := h2.cons_inv
  rw [h2.nil_inv] at h1
  exact ⟨a, x1, rfl, h1, i1⟩
theorem im2 {d1 d2 : PyData} (h : Im H x (.tuple [d1, d2])) : ∃ a x1 x2, x = .ref a ∧ H a = some (.tup [x1, x2]) ∧ Im H x1 d1 ∧ Im H x2 d2 := by
  obtain ⟨a, xs, rfl, h1, h2⟩ := h.tup_inv
  obtain ⟨x1, r, rfl, i1, h2⟩ := h2.cons_inv
  obtain ⟨x2, r, rfl, i2, h2⟩ := h2.cons_inv
  rw [h2.nil_inv] at h1
  exact ⟨a, x1, x2, rfl, h1, i1, i2⟩
theorem im3 {d1 d2 d3 : PyData} (h : Im H x (.tuple [d1, d2, d3])) : ∃ a x1 x2 x3, x = .ref a ∧ H a = some (.tup [x1, x2, x3]) ∧ Im H x1 d1 ∧ Im H x2 d2 ∧ Im H x3 d3 := by
  obtain ⟨a, xs, rfl, h1, h2⟩ := h.tup_inv
  obtain ⟨x1, r, rfl, i1, h2⟩ := h2.cons_inv
  obtain ⟨x2, r, rfl, i2, h2⟩ := h2.cons_inv
  obtain ⟨x3, r, rfl, i3, h2⟩ := h2.cons_inv
  rw [h2.nil_inv] at h1
  exact ⟨a, x1, x2, x3, rfl, h1, i1, i2, i3⟩
theorem im4 {d1 d2 d3 d4 : PyData} (h : Im H x (.tuple [d1, d2, d3, d4])) : ∃ a x1 x2 x3 x4, x = .ref a ∧ H a = some (.tup [x1, x2, x3, x4]) ∧ Im H x1 d1 ∧ Im H x2 d2 ∧ Im H x3 d3 ∧ Im H x4 d4 := by
  obtain ⟨a, xs, rfl, h1, h2⟩ := h.tup_inv
  obtain ⟨x1, r, rfl, i1, h2⟩ := h2.cons_inv
  obtain ⟨x2, r, rfl, i2, h2⟩ := h2.cons_inv
  obtain ⟨x3, r, rfl, i3, h2⟩ := h2.cons_inv
  obtain ⟨x4, r, rfl, i4, h2⟩ := h2.cons_inv
  rw [h2.nil_inv] at h1
  exact ⟨a, x1, x2, x3, x4, rfl, h1, i1, i2, i3, i4⟩
end
theorem layAll_inv : ∀ {ds : List PyData}, PyData.canLayAll0 ds = true → ∀ d ∈ ds, d.canLay0 = true
  | [], _, d, hd => by cases hd
  | e :: ds, h, d, hd => by
    rw [PyData.canLayAll0, Bool.and_eq_true] at h
    rcases List.mem_cons.mp hd with rfl | hd
    · exact h.1
    · exact layAll_inv h.2 d hd
theorem depthAll_inv {k : Nat} : ∀ {ds : List PyData}, PyData.depthAll ds ≤ k → ∀ d ∈ ds, d.depth ≤ k
  | [], _, d, hd => by cases hd
  | e :: ds, h, d, hd => by
    rw [PyData.depthAll] at h
    rcases List.mem_cons.mp hd with rfl | hd
    · omega
    · exact depthAll_inv (by omega) d hd
theorem Lay.items {k : Nat} {ds : List PyData} (h : Lay k (.tuple ds)) : ∀ d ∈ ds, Lay k d := fun d hd => by
  obtain ⟨h1, h2⟩ := h
  rw [PyData.canLay0] at h1
  rw [PyData.depth] at h2
  exact ⟨layAll_inv h1 d hd, depthAll_inv (by omega) d hd⟩
/-! how wide, how deep -/
def Wd (n : Nat) : Nat → PyData → Prop
  | 0, .none => True
  | 0, .bool _ => True
  | 0, .int _ => True
  | 0, .str z => PyData.strOk z = true
  | k + 1, .tuple ds => ds.length ≤ n ∧ ∀ x ∈ ds, Wd n k x
  | _ + 1, .none => True
  | _ + 1, .bool _ => True
  | _ + 1, .int _ => True
  | _ + 1, .str z => PyData.strOk z = true
  | _, _ => False
theorem Wd.lay {n : Nat} : ∀ {k : Nat} {d : PyData}, Wd n k d → Lay k d
  | 0, .none, _ => Lay.non
  | 0, .bool _, _ => Lay.bl
  | 0, .int _, _ => Lay.int
  | 0, .str _, h => Lay.str h
  | 0, .tuple _, h => h.elim
  | 0, .list _, h => h.elim
  | 0, .dict _, h => h.elim
  | _ + 1, .none, _ => Lay.non
  | _ + 1, .bool _, _ => Lay.bl
  | _ + 1, .int _, _ => Lay.int
  | _ + 1, .str _, h => Lay.str h
  | k + 1, .tuple ds, h => Lay.tup fun d hd => (h.2 d hd).lay
  | _ + 1, .list _, h => h.elim
  | _ + 1, .dict _, h => h.elim
theorem Wd.mono {n m : Nat} (hn : n ≤ m) : ∀ {k l : Nat} {d : PyData}, k ≤ l → Wd n k d → Wd m l d
  | 0, 0, .none, _, _ => trivial
  | 0, 0, .bool _, _, _ => trivial
  | 0, 0, .int _, _, _ => trivial
  | 0, 0, .str _, _, h => h
  | 0, l + 1, .none, _, _ => trivial
  | 0, l + 1, .bool _, _, _ => trivial
  | 0, l + 1, .int _, _, _ => trivial
  | 0, l + 1, .str _, _, h => h
  | 0, _, .tuple _, _, h => h.elim
  | 0, _, .list _, _, h => h.elim
  | 0, _, .dict _, _, h => h.elim
  | k + 1, 0, _, e, _ => absurd e (by omega)
  | k + 1, l + 1, .none, _, _ => trivial
  | k + 1, l + 1, .bool _, _, _ => trivial
  | k + 1, l + 1, .int _, _, _ => trivial
  | k + 1, l + 1, .str _, _, h => h
  | k + 1, l + 1, .tuple ds, e, h => ⟨Nat.le_trans h.1 hn, fun x hx => Wd.mono hn (by omega) (h.2 x hx)⟩
  | k + 1, _, .list _, _, h => h.elim
  | k + 1, _, .dict _, _, h => h.elim
theorem cutD_mem {ds : List PyData} {lo hi : Option Int} {d : PyData} (h : d ∈ cutD ds lo hi) : d ∈ ds := by
  unfold cutD at h
  exact List.mem_of_mem_drop (List.mem_of_mem_take h)
theorem Wd.cut {n k : Nat} {ds : List PyData} {lo hi : Option Int} (h : Wd n (k + 1) (.tuple ds)) : Wd n (k + 1) (.tuple (cutD ds lo hi)) := ⟨Nat.le_trans (cutD_length ds lo hi) h.1, fun x hx => h.2 x (cutD_mem hx)⟩
theorem Wd.cat {n m k : Nat} {ds es : List PyData} (h : Wd n (k + 1) (.tuple ds)) (g : Wd m (k + 1) (.tuple es)) : Wd (n + m) (k + 1) (.tuple (ds ++ es)) :=
  ⟨by rw [List.length_append]; exact Nat.add_le_add h.1 g.1, fun x hx => by
    rcases List.mem_append.mp hx with hx | hx
    · exact (h.2 x hx).mono (by omega) (Nat.le_refl _)
    · exact (g.2 x hx).mono (by omega) (Nat.le_refl _)⟩
end G

set_option Elab.async false
set_option linter.all false
set_option maxRecDepth 100000
set_option maxHeartbeats 4000000
namespace K26
open PySem PySem.Spec PyProof.Rows L2 G

local macro_rules | `(tactic| walk_at "sc") => `(tactic| first | (with_reducible assumption) | decide | omega | assumption | (simp only [List.length_cons, List.length_nil, List.length_append, List.length_map, List.length_replicate, List.length_set]; omega) | (show _ ≤ sizeLine; decide) | (show _ < sizeLine; decide))
local macro_rules | `(tactic| walk_at "sq") => `(tactic| first | assumption | exact SqL.of (by walk_at "hi") | exact SqT.of (by walk_at "hi"))
local macro_rules | `(tactic| walk_at "sd") => `(tactic| first | exact mul_ok (by first | omega | walk_at "sc") (by first | omega | walk_at "sc") | exact mul_ok' (by first | omega | walk_at "sc") (by first | omega | walk_at "sc"))
local macro_rules | `(tactic| walk_at "hi") => `(tactic| first | assumption | exact Has.get (by assumption) 0 rfl | exact Has.get (by assumption) 1 rfl | exact Has.get (by assumption) 2 rfl | exact Has.get (by assumption) 3 rfl | exact Has.get (by assumption) 4 rfl | exact Has.get (by assumption) 5 rfl | exact Has.get (by assumption) 6 rfl | exact Has.get (by assumption) 7 rfl | exact Has.get (by assumption) 8 rfl | exact Has.get (by assumption) 9 rfl)
local macro_rules | `(tactic| walk_at "s") => `(tactic| first
  | (with_reducible first
  | refine g_seq ?_ | refine g_asg ?_ | refine g_var rfl ?_ | refine g_c ?_ | refine g_op ?_ | refine g_name ?_ | refine g_consA ?_ | refine g_nilA ?_
  | refine g_test ?_ | refine g_exb ?_ | refine g_ifS ?_ | refine g_ret ?_ | refine g_call ?_ | refine g_cb ?_ | refine g_eqI ?_ | refine g_neI ?_
  | refine g_cmpI ?_ | refine g_I0 ?_ | refine g_addI ?_ | refine g_intI ?_ | refine g_abs ?_ | refine g_max2 ?_ | refine g_min2 ?_ | refine g_next ?_ | refine g_drop ?_ | refine g_aug rfl ?_ | refine g_ipI ?_
  | refine g_tru ?_ | refine g_truB ?_ | refine g_truI ?_ | refine g_truN ?_ | refine g_not ?_ | refine g_and ?_ | refine g_or ?_ | refine g_notV ?_ | refine g_andV ?_ | refine g_orV ?_ | refine g_ifE ?_ | refine g_chain ?_
  | refine g_un ?_ | refine g_rU ?_ | refine g_retN ?_ | refine g_brk ?_ | refine g_ct ?_ | refine g_B ?_ | refine g_eqB ?_ | refine g_neB ?_ | refine g_bm ?_ | refine g_bm0 ?_ | refine g_intB ?_
  | refine g_disp ?_ | refine g_pairN ?_ | refine g_pairC ?_ | refine g_dput ?_ | refine g_isNn ?_ | refine g_isNi ?_ | refine g_isNs ?_ | refine g_isNb ?_ | refine g_isNr ?_ | refine g_isB ?_ | refine g_lset ?_ | refine g_notB ?_ | refine g_noNn ?_ | refine g_noNi ?_ | refine g_noNs ?_ | refine g_noNb ?_ | refine g_noNr ?_ | refine g_gc ?_ | refine g_gn ?_ | refine g_lc ?_ | refine g_yes ?_ | refine g_sfld ?_ | refine g_meth ?_ | refine g_make ?_ | refine g_sub ?_ | refine g_sl ?_ | refine g_part ?_ | refine g_exi ?_ | refine g_noPart ?_ | refine g_for ?_ | refine g_iR ?_ | refine g_iSeq ?_ | refine g_isiIi ?_ | refine g_isiIb ?_ | refine g_isiIs ?_ | refine g_isiIt ?_ | refine g_isiBi ?_ | refine g_isiBb ?_ | refine g_isiBs ?_ | refine g_isiBt ?_ | refine g_isiSi ?_ | refine g_isiSb ?_ | refine g_isiSs ?_ | refine g_isiSt ?_ | refine g_isiNi ?_ | refine g_isiNb ?_ | refine g_isiNs ?_ | refine g_isiNt ?_
  | refine g_ifT ?_ | refine g_ifF ?_ | refine g_ifNT ?_ | refine g_ifNF ?_ | refine g_tup ?_ | refine g_lst ?_)
  | (with_reducible refine g_eqSS ?_) | (with_reducible refine g_neSS ?_) | ((with_reducible refine g_eqSx ?c ?_); (case c => decide +kernel)) | ((with_reducible refine g_neSx ?c ?_); (case c => decide +kernel)) | (with_reducible refine g_eqS ?_) | (with_reducible refine g_neS ?_)
  | ((with_reducible refine g_mod ?c ?_); (case c => walk_at "sc")) | ((with_reducible refine g_fdiv ?c ?d ?_); (case c => walk_at "sc"); (case d => walk_at "sc")) | ((with_reducible refine g_shr ?c ?_); (case c => walk_at "sc"))
  | ((with_reducible refine g_shl ?c ?d ?e ?_); (case c => walk_at "sc"); (case d => walk_at "sc"); (case e => walk_at "sc")) | ((with_reducible refine g_pow ?c ?d ?e ?_); (case c => walk_at "sc"); (case d => walk_at "sc"); (case e => walk_at "sc")) | ((with_reducible refine g_mulI ?c ?_); (case c => walk_at "sd"))
  | ((with_reducible refine' g_unp ?h ?n ?_); (case h => walk_at "sq"); (case n => rfl)) | ((with_reducible refine g_wipe ?e ?_); (case e => rfl)) | walk_at "fld" | ((with_reducible refine g_rR1 ?c1 ?c2 ?_); (case c1 => walk_at "sc"); (case c2 => walk_at "sc")) | ((with_reducible refine g_rR2 ?c1 ?_); (case c1 => exact ⟨by walk_at "sc", by walk_at "sc", by walk_at "sc", by walk_at "sc"⟩))
  | ((with_reducible refine' g_lenM ?c ?_); (case c => walk_at "sq")) | ((with_reducible refine' g_lenL ?c ?_); (case c => walk_at "sq")) | ((with_reducible refine' g_seqL ?c ?_); (case c => walk_at "sq"))
  | ((with_reducible refine' g_ty_ ?c ?_); (case c => exact .inl ⟨rfl, _, by walk_at "sq"⟩)))
local macro_rules | `(tactic| walk_at "go") => `(tactic| repeat walk_at "s")
local macro_rules | `(tactic| walk_at "len") => `(tactic| (intro vs H Q E h; first | (obtain ⟨e, _⟩ := h; rw [e]; rfl) | (obtain ⟨_, e, _⟩ := h; rw [e]; rfl) | (obtain ⟨_, _, e, _⟩ := h; rw [e]; rfl) | (obtain ⟨_, _, _, e, _⟩ := h; rw [e]; rfl) | (obtain ⟨_, _, _, _, e, _⟩ := h; rw [e]; rfl) | (obtain ⟨_, _, _, _, _, e, _⟩ := h; rw [e]; rfl) | (obtain ⟨_, _, _, _, _, _, e, _⟩ := h; rw [e]; rfl) | (obtain ⟨_, _, _, _, _, _, _, e, _⟩ := h; rw [e]; rfl) | (obtain ⟨_, _, _, _, _, _, _, _, e, _⟩ := h; rw [e]; rfl) | (obtain ⟨_, _, _, _, _, _, _, _, _, e, _⟩ := h; rw [e]; rfl) | (obtain ⟨_, _, _, _, _, _, _, _, _, _, e, _⟩ := h; rw [e]; rfl) | (obtain ⟨_, _, _, _, _, _, _, _, _, _, _, e, _⟩ := h; rw [e]; rfl) | (obtain ⟨_, _, _, _, _, _, _, _, _, _, _, _, e, _⟩ := h; rw [e]; rfl) | (obtain ⟨_, _, _, _, _, _, _, _, _, _, _, _, _, e, _⟩ := h; rw [e]; rfl) | (obtain ⟨_, _, _, _, _, _, _, _, _, _, _, _, _, _, e, _⟩ := h; rw [e]; rfl) | (obtain ⟨_, _, _, _, _, _, _, _, _, _, _, _, _, _, _, e, _⟩ := h; rw [e]; rfl) | (obtain ⟨_, _, _, _, _, _, _, _, _, _, _, _, _, _, _, _, e, _⟩ := h; rw [e]; rfl) | (obtain ⟨_, _, _, _, _, _, _, _, _, _, _, _, _, _, _, _, _, e, _⟩ := h; rw [e]; rfl) | (obtain ⟨_, _, _, _, _, _, _, _, _, _, _, _, _, _, _, _, _, _, e, _⟩ := h; rw [e]; rfl) | (obtain ⟨_, _, _, _, _, _, _, _, _, _, _, _, _, _, _, _, _, _, _, e, _⟩ := h; rw [e]; rfl) | (obtain ⟨_, _, _, _, _, _, _, _, _, _, _, _, _, _, _, _, _, _, _, _, e, _⟩ := h; rw [e]; rfl) | (obtain ⟨_, _, _, _, _, _, _, _, _, _, _, _, _, _, _, _, _, _, _, _, _, e, _⟩ := h; rw [e]; rfl) | (obtain ⟨_, _, _, _, _, _, _, _, _, _, _, _, _, _, _, _, _, _, _, _, _, _, e, _⟩ := h; rw [e]; rfl) | (obtain ⟨_, _, _, _, _, _, _, _, _, _, _, _, _, _, _, _, _, _, _, _, _, _, _, e, _⟩ := h; rw [e]; rfl)))

def topS (i : Nat) : Stmt := PySem.Challenge.pw_sameclock_k26_settings_and_what_is_none.main.body.getD i (.Pass ⟨0, 0, 0, 0⟩)
def dOf (x : Str) (i : Nat) : He.DefD := ⟨(x, none), x, x, defArgs (topS i), defBody (topS i), defScope (topS i), [], []⟩
def mOf (c m q : Str) (s : Stmt) : He.DefD := ⟨(c, some m), m, q, defArgs s, defBody s, defScope s, [], []⟩
def fn : List He.DefD := [dOf "is_number" 2, dOf "is_row_of" 3, dOf "is_power" 4, dOf "is_cache" 5, dOf "is_predictor" 6, dOf "is_preparation" 7, dOf "are_visits" 8, dOf "is_settings" 9, dOf "_law_draws" 11, dOf "_law_reader" 12, dOf "_law_next" 13, dOf "_law_cache" 14, dOf "_law_predictor" 15, dOf "_law_before" 16, dOf "_law_visits" 17, dOf "_law_settings" 18, dOf "_law_whole" 19, dOf "_law_among" 20, dOf "_law_long" 21, dOf "_law_power" 22, dOf "_law_good_cache" 23, dOf "_law_good_predictor" 24, dOf "_law_good_part" 25, dOf "_law_good_visits" 26, dOf "_law_good" 27, dOf "_law_odd" 28, dOf "_law_turned" 29, dOf "law" 30]
def fa : List He.Fa := [.glo "is_number", .glo "is_row_of", .glo "is_power", .glo "is_cache", .glo "is_predictor", .glo "is_preparation", .glo "are_visits", .glo "is_settings", .glo "_law_draws", .glo "_law_reader", .glo "_law_next", .glo "_law_cache", .glo "_law_predictor", .glo "_law_before", .glo "_law_visits", .glo "_law_settings", .glo "_law_whole", .glo "_law_among", .glo "_law_long", .glo "_law_power", .glo "_law_good_cache", .glo "_law_good_predictor", .glo "_law_good_part", .glo "_law_good_visits", .glo "_law_good", .glo "_law_odd", .glo "_law_turned", .glo "law", .free "abs", .free "all", .free "bool", .free "int", .free "isinstance", .free "len", .free "min", .free "range", .free "str", .free "tuple", .int "LARGEST" 1048576]
variable {P : Program} {w : World} {K : PySem.W.Frag} {mg : Str → Option Value} {base : Heap}
def sp_law_draws (K : PySem.W.Frag) : Sp := fun vs H Q _ => ∃ (a : Addr) (ns : List Int), vs = [.ref a] ∧ SqL K H a (ns.map V.int) ∧ ns.length ≤ 63 ∧
  ∀ H' p (row : List Int), Same H H' → H p = none → H' p = some (.lst (row.map V.int)) → (∀ x ∈ row, 0 ≤ x ∧ x < 1000) → row.length ≤ 1260 → Q (.ref p) H'
structure DrI (H : Hp) (a p : Addr) (b : Nat) (cell : Option V → Prop) (σ : L2.St) (H' : Hp) : Prop where
  ex : ∃ (row : List Int) (k c t m : Option V), σ = [some (.ref a), some (.ref p), k, c, t, m] ∧ cell c ∧ Same H H' ∧ Has H' [(p, .lst (row.map V.int))] ∧ (∀ x ∈ row, 0 ≤ x ∧ x < 1000) ∧ row.length ≤ b
theorem app_map {row : List Int} {x : Int} : row.map V.int ++ [V.int x] = (row ++ [x]).map V.int := by simp
theorem sc_law_draws : FnScope ["script", "draws", "k", "cell", "turn", "mixed"] ["script"] (defScope (topS 11)) := ⟨rfl, rfl, rfl, by decide +kernel, rfl, by decide +kernel, by decide +kernel⟩
theorem ok_law_draws (T : Txt fa fn K mg) : Dn P w K mg base CX0 1 "_law_draws" ["script"] (sp_law_draws K) := by
  refine mk_dn (d := dOf "_law_draws" 11) T 8 8 rfl rfl rfl rfl rfl sc_law_draws (by walk_at "len") (fun _ _ _ _ _ _ us hl => match us, hl with | [_], _ => rfl) (fun cdv A outer s H vs Q E hr h => ⟨_, (pss_cons (ps_set (i := 1) sc_law_draws.nd rfl (.inl rfl) (pe_lst pa_nil))
      (pss_cons (ps_for PassesOwn.never rfl (pi_r1 rfl (T.free 35 rfl) (pa_cons (pe_callB (c_min2 rfl) rfl (T.free 34 rfl) (by decide +kernel) (pa_cons (pe_callB (c_len (K := K) rfl) rfl (T.free 33 rfl) (by decide +kernel) (pa_cons (pv 0) pa_nil)) (pa_cons pe_int pa_nil))) pa_nil)) (pg_name (i := 2) sc_law_draws.nd rfl (.inl rfl)) (pss_cons (ps_set (i := 3) sc_law_draws.nd rfl (.inl rfl) (pe_callB c_abs rfl (T.free 28 rfl) (by decide +kernel) (pa_cons (pe_ixU (K := K) rfl (hu_of hr) (pv 0) (pv 2)) pa_nil)))
      (pss_one (ps_if (pt_cmpR o_ge (pv 3) (pe_op o_pow pe_int pe_int) (nomark _)) (pss_one (ps_for PassesOwn.never rfl (pi_r1 rfl (T.free 35 rfl) (pa_cons pe_int pa_nil)) (pg_name (i := 4) sc_law_draws.nd rfl (.inl rfl)) (pss_one (ps_if (pt_cmpR o_gt (pv 3) pe_int (nomark _)) (pss_cons (ps_expr (pe_bm PySem.F.plainAttrs_list PySem.F.slot_list_append PySem.F.type_list_append mt_append (pv 1) (pa_cons (pe_op o_mod (pv 3) pe_int) pa_nil)))
      (pss_one (ps_set (i := 3) sc_law_draws.nd rfl (.inl rfl) (pe_op o_fdiv (pv 3) pe_int)))) pss_nil)))) (pss_cons (ps_set (i := 5) sc_law_draws.nd rfl (.inl rfl) (pe_op o_mod (pe_callTy c_int rfl (T.free 31 rfl) (by decide +kernel) (pa_cons (pe_op (op_addU (K := K) rfl) (pe_op (op_addU (K := K) rfl) (pe_op op_mulU (pe_ixU (K := K) rfl (hu_of hr) (pv 0) (pv 2)) pe_int) (pe_op op_mulU (pv 2) pe_int)) pe_int) pa_nil)) pe_int))
      (pss_one (ps_for PassesOwn.never rfl (pi_r1 rfl (T.free 35 rfl) (pa_cons pe_int pa_nil)) (pg_name (i := 4) sc_law_draws.nd rfl (.inl rfl)) (pss_cons (ps_set (i := 5) sc_law_draws.nd rfl (.inl rfl) (pe_op o_mod (pe_callTy c_int rfl (T.free 31 rfl) (by decide +kernel) (pa_cons (pe_op (op_addU (K := K) rfl) (pe_op (op_addU (K := K) rfl) (pe_op op_mulU (pv 5) (pv 5)) (pe_op op_mulU (pv 4) pe_int)) pe_int) pa_nil)) pe_int))
      (pss_one (ps_expr (pe_bm PySem.F.plainAttrs_list PySem.F.slot_list_append PySem.F.type_list_append mt_append (pv 1) (pa_cons (pe_op o_mod (pv 5) pe_int) pa_nil))))))))))))
      (pss_one (ps_ret (pv 1))))), ?_⟩)
  obtain ⟨a, ns, rfl, hS, hlen, hQ⟩ := h
  walk_at "go"
  refine ⟨by decide, fun p hp => ?_⟩
  walk_at "go"
  have hS1 : SqL K (upd H p (.lst [])) a (ns.map V.int) := (Same.new hp).seq hS
  refine g_lenL hS1 ?_
  walk_at "go"
  have hn : (ns.map V.int).length = ns.length := List.length_map _
  rw [hn]
  have hj : (if (63 : Int) < (ns.length : Int) then (63 : Int) else (ns.length : Int)).toNat = ns.length := by split <;> omega
  rw [hj]
  have M0 : Has (upd H p (.lst [])) [(p, .lst (([] : List Int).map V.int))] := Has.one upd_same
  refine f_range (fun i σ H' => ∃ (row : List Int) (k c t m : Option V), σ = [some (.ref a), some (.ref p), k, c, t, m] ∧ Same H H' ∧ Has H' [(p, .lst (row.map V.int))] ∧ (∀ x ∈ row, 0 ≤ x ∧ x < 1000) ∧ row.length ≤ 20 * i)
    ⟨[], _, _, _, _, rfl, Same.new hp, M0, (fun _ h => nomatch h), Nat.le_refl _⟩ ?_ ?_
  · rintro i σ H' hi ⟨row, k, c, t, m, rfl, hs, M, hr1, hr2⟩
    walk_at "go"
    have hS2 := hs.seq hS
    obtain ⟨z, hz⟩ : ∃ z, ns[i]? = some z := ⟨_, List.getElem?_eq_getElem hi⟩
    have hz' : (ns.map V.int)[i]? = some (V.int z) := by rw [List.getElem?_map, hz]; rfl
    refine g_ixL hS2 (n := i) (by omega) hz' ?_
    walk_at "go"
    have hb : 0 ≤ (if z < 0 then -z else z) := by split <;> omega
    generalize (if z < 0 then -z else z) = cell at hb
    refine g_if (fun hc => ?_) (fun hc => ?_)
    · walk_at "go"
      refine f_range (fun j σ H' => ∃ (row : List Int) (cell : Int) (k t m : Option V), σ = [some (.ref a), some (.ref p), k, some (.int cell), t, m] ∧ 0 ≤ cell ∧ Same H H' ∧ Has H' [(p, .lst (row.map V.int))] ∧ (∀ x ∈ row, 0 ≤ x ∧ x < 1000) ∧ row.length ≤ 20 * i + j)
        ⟨row, cell, _, _, _, rfl, hb, hs, M, hr1, by omega⟩ ?_ ?_
      · rintro j σ H2 hj ⟨row, cell, k, t, m, rfl, hb, hs, M, hr1, hr2⟩
        walk_at "go"
        refine g_if (fun h0 => ?_) (fun h0 => ?_)
        · walk_at "go"
          refine g_append M 0 rfl (szl (by rw [List.length_map]; have hj' : j < 20 := hj; omega)) (fun M1 => ?_)
          walk_at "go"
          refine ⟨row ++ [cell % 1000], cell / 1000, _, _, _, rfl, by omega, Same.mut hs hp, by rw [← app_map]; exact M1, ?_, by rw [List.length_append]; simp; omega⟩
          intro x hx
          rcases List.mem_append.mp hx with hx | hx
          · exact hr1 x hx
          · rw [List.mem_singleton.mp hx]
            omega
        · walk_at "go"
          exact ⟨row, cell, _, _, _, rfl, hb, hs, M, hr1, by omega⟩
      · rintro σ H2 ⟨row, cell, k, t, m, rfl, hb, hs, M, hr1, hr2⟩
        walk_at "go"
        exact ⟨row, _, _, _, _, rfl, hs, M, hr1, by have h20 : (20 : Int).toNat = 20 := rfl; omega⟩
    · walk_at "go"
      have hz2 := hs.seq hS
      refine g_ixL hz2 (n := i) (by omega) hz' ?_
      walk_at "go"
      refine f_range (fun j σ H' => ∃ (row : List Int) (mixed : Int) (k c t : Option V), σ = [some (.ref a), some (.ref p), k, c, t, some (.int mixed)] ∧ 0 ≤ mixed ∧ mixed < 2147483647 ∧ Same H H' ∧ Has H' [(p, .lst (row.map V.int))] ∧ (∀ x ∈ row, 0 ≤ x ∧ x < 1000) ∧ row.length ≤ 20 * i + j)
        ⟨row, _, _, _, _, rfl, Int.emod_nonneg _ (by decide), Int.emod_lt_of_pos _ (by decide), hs, M, hr1, by omega⟩ ?_ ?_
      · rintro j σ H2 hj ⟨row, mixed, k, c, t, rfl, hm0, hm1, hs, M, hr1, hr2⟩
        walk_at "go"
        have hj' : j < 3 := hj
        refine g_append M 0 rfl (szl (by rw [List.length_map]; omega)) (fun M1 => ?_)
        walk_at "go"
        refine ⟨row ++ [_], _, _, _, _, rfl, Int.emod_nonneg _ (by decide), Int.lt_of_lt_of_le (Int.emod_lt_of_pos _ (by decide)) (by decide), Same.mut hs hp, by rw [← app_map]; exact M1, ?_, by rw [List.length_append]; simp; omega⟩
        intro x hx
        rcases List.mem_append.mp hx with hx | hx
        · exact hr1 x hx
        · rw [List.mem_singleton.mp hx]
          exact ⟨Int.emod_nonneg _ (by decide), Int.emod_lt_of_pos _ (by decide)⟩
      · rintro σ H2 ⟨row, mixed, k, c, t, rfl, hm0, hm1, hs, M, hr1, hr2⟩
        walk_at "go"
        exact ⟨row, _, _, _, _, rfl, hs, M, hr1, by have h20 : (3 : Int).toNat = 3 := rfl; omega⟩
  · rintro σ H' ⟨row, k, c, t, m, rfl, hs, M, hr1, hr2⟩
    walk_at "go"
    exact hQ H' p row hs hp (M.get 0 rfl) hr1 (by omega)

def sp_law_reader (K : PySem.W.Frag) : Sp := fun vs H Q _ => ∃ (a : Addr) (ns : List Int), vs = [.ref a] ∧ SqL K H a (ns.map V.int) ∧ ns.length ≤ 63 ∧
  ∀ H' d r (row : List Int) (sd : Int), Same H H' → H d = none → H r = none → Has H' [(d, .dK (drK r 0 sd)), (r, .lst (row.map V.int))] → RowOk row sd → Q (.ref d) H'
theorem sc_law_reader : FnScope ["script", "row", "seed"] ["script"] (defScope (topS 12)) := ⟨rfl, rfl, rfl, by decide +kernel, rfl, by decide +kernel, by decide +kernel⟩
theorem ok_law_reader (T : Txt fa fn K mg) : Dn P w K mg base CX0 2 "_law_reader" ["script"] (sp_law_reader K) := by
  refine mk_dn (d := dOf "_law_reader" 12) T 9 9 rfl rfl rfl rfl rfl sc_law_reader (by walk_at "len") (fun _ _ _ _ _ _ us hl => match us, hl with | [_], _ => rfl) (fun cdv A outer s H vs Q E hr h => ⟨_, (pss_cons (ps_set (i := 1) sc_law_reader.nd rfl (.inl rfl) (pe_callD (K := K) rfl (ok_law_draws T) (hr.mono (by decide)) rfl pass0 (pa_cons (pv 0) pa_nil)))
      (pss_cons (ps_set (i := 2) sc_law_reader.nd rfl (.inl rfl) pe_int)
      (pss_cons (ps_if (pt_cmpR o_gt (pe_callB (c_len (K := K) rfl) rfl (T.free 33 rfl) (by decide +kernel) (pa_cons (pv 0) pa_nil)) pe_int (nomark _)) (pss_one (ps_set (i := 2) sc_law_reader.nd rfl (.inl rfl) (pe_op o_mod (pe_callB c_abs rfl (T.free 28 rfl) (by decide +kernel) (pa_cons (pe_ixU (K := K) rfl (hu_of hr) (pv 0) (pe_un un_neg pe_int)) pa_nil)) pe_int))) pss_nil)
      (pss_one (ps_ret (pe_disp (pps_cons pe_str (pv 1) (pps_cons pe_str pe_int (pps_cons pe_str (pv 2) pps_nil))) (by rfl) (by rfl) (fun z => by cases z) (by decide))))))), ?_⟩)
  obtain ⟨a, ns, rfl, hS, hlen, hQ⟩ := h
  walk_at "go"
  refine ⟨a, ns, rfl, hS, hlen, fun H1 p row s1 hp hr hr1 hr2 => ?_⟩
  walk_at "go"
  have hS1 := s1.seq hS
  refine g_lenL hS1 ?_
  walk_at "go"
  have fin : ∀ (sd : Int), 0 ≤ sd → sd < 1000003 → ∀ d, H1 d = none → upd H1 d (.dK []) d = some (.dK []) ∧ ∃ kvs : List (Key × V), [(V.str "row", V.ref p), (V.str "at", V.int 0), (V.str "seed", V.int sd)] = kvs.map (fun kv => (kV kv.1, kv.2)) ∧ kvs.length ≤ 15 ∧ Q (.ref d) (upd (upd H1 d (.dK [])) d (.dK (mergeK [] kvs))) := by
    intro sd h0 h1 d hd
    refine ⟨upd_same, [(.inr "row", .ref p), (.inr "at", .int 0), (.inr "seed", .int sd)], rfl, (by show 3 ≤ 15; decide), ?_⟩
    rw [dr_made, upd_upd]
    refine hQ _ d p row sd (Same.new' s1 hd) (s1.free hd) hp ?_ ⟨hr1, hr2, h0, h1⟩
    have M : Has (upd H1 d (.dK (drK p 0 sd))) ([(p, .lst (row.map V.int))] ++ [(d, .dK (drK p 0 sd))]) := (Has.one hr).new hd
    exact M.perm (List.perm_append_comm (l₁ := [_]) (l₂ := [_]))
  refine g_if (fun h0 => ?_) (fun h0 => ?_)
  · walk_at "go"
    have hn : (ns.map V.int).length = ns.length := List.length_map _
    rw [hn] at h0
    obtain ⟨z, hz⟩ : ∃ z, ns[ns.length - 1]? = some z := ⟨_, List.getElem?_eq_getElem (by omega)⟩
    have hz' : (ns.map V.int)[ns.length - 1]? = some (V.int z) := by rw [List.getElem?_map, hz]; rfl
    refine g_ixL' hS1 (v := .int z) ?_ ?_
    · show (ixN _ (-1)).bind _ = _
      unfold ixN
      rw [if_neg (by decide), if_pos (by omega), hn]
      have e : ((-1 : Int) + (ns.length : Int)).toNat = ns.length - 1 := by omega
      show (ns.map V.int)[((-1 : Int) + (ns.length : Int)).toNat]? = _
      rw [e]
      exact hz'
    · walk_at "go"
      intro d hd
      walk_at "go"
      exact fin _ (Int.emod_nonneg _ (by decide)) (Int.emod_lt_of_pos _ (by decide)) d hd
  · walk_at "go"
    intro d hd
    walk_at "go"
    exact fin _ (by decide) (by decide) d hd
def sp_law_next (K : PySem.W.Frag) : Sp := fun vs H Q _ => ∃ (d r : Addr) (n sd m : Int) (row : List Int), vs = [.ref d, .int m] ∧ H d = some (.dK (drK r n sd)) ∧ H r = some (.lst (row.map V.int)) ∧ RowOk row sd ∧ 0 ≤ n ∧ 0 < m ∧
  ∀ H' v, Keep [d] H H' → H' d = some (.dK (drK r (n + 1) sd)) → 0 ≤ v → v < m → Q (.int v) H'
theorem sc_law_next : FnScope ["draws", "many", "at", "mixed"] ["draws", "many"] (defScope (topS 13)) := ⟨rfl, rfl, rfl, by decide +kernel, rfl, by decide +kernel, by decide +kernel⟩
theorem ok_law_next (T : Txt fa fn K mg) : Dn P w K mg base CX0 1 "_law_next" ["draws", "many"] (sp_law_next K) := by
  refine mk_dn (d := dOf "_law_next" 13) T 10 10 rfl rfl rfl rfl rfl sc_law_next (by walk_at "len") (fun _ _ _ _ _ _ us hl => match us, hl with | [_, _], _ => rfl) (fun cdv A outer s H vs Q E hr h => ⟨_, (pss_cons (ps_set (i := 2) sc_law_next.nd rfl (.inl rfl) (pe_ixU (K := K) rfl (hu_of hr) (pv 0) pe_str))
      (pss_cons (ps_dput (hu_of hr) (pv 0) pe_str (pe_op (op_addU (K := K) rfl) (pv 2) pe_int) rfl)
      (pss_cons (ps_if (pt_cmpR o_lt (pv 2) (pe_callB (c_len (K := K) rfl) rfl (T.free 33 rfl) (by decide +kernel) (pa_cons (pe_ixU (K := K) rfl (hu_of hr) (pv 0) pe_str) pa_nil)) (nomark _)) (pss_one (ps_ret (pe_op o_mod (pe_callTy c_int rfl (T.free 31 rfl) (by decide +kernel) (pa_cons (pe_ixU (K := K) rfl (hu_of hr) (pe_ixU (K := K) rfl (hu_of hr) (pv 0) pe_str) (pv 2)) pa_nil)) (pv 1)))) pss_nil)
      (pss_cons (ps_set (i := 3) sc_law_next.nd rfl (.inl rfl) (pe_op o_mod (pe_callTy c_int rfl (T.free 31 rfl) (by decide +kernel) (pa_cons (pe_op op_mulU (pe_op (op_addU (K := K) rfl) (pe_op (op_addU (K := K) rfl) (pe_ixU (K := K) rfl (hu_of hr) (pv 0) pe_str) (pe_op op_mulU pe_int (pv 2))) pe_int) pe_int) pa_nil)) pe_int))
      (pss_one (ps_ret (pe_op o_mod (pe_op o_fdiv (pe_op o_mod (pe_callTy c_int rfl (T.free 31 rfl) (by decide +kernel) (pa_cons (pe_op (op_addU (K := K) rfl) (pe_op op_mulU (pv 3) (pv 3)) (pv 2)) pa_nil)) pe_int) pe_int) (pv 1)))))))), ?_⟩)
  obtain ⟨d, r, n, sd, m, row, rfl, hd, hr, ok, hn, hm, hQ⟩ := h
  walk_at "go"
  refine g_ixD (dg_at hd) ?_
  walk_at "go"
  refine ⟨d, _, rfl, dp_at (n + 1) hd, ?_⟩
  have ne : r ≠ d := ne_of hr hd (by intro z; cases z)
  have hd1 : upd H d (.dK (drK r (n + 1) sd)) d = some (.dK (drK r (n + 1) sd)) := upd_same
  have hr1 : upd H d (.dK (drK r (n + 1) sd)) r = some (.lst (row.map V.int)) := by rw [upd_ne ne]; exact hr
  have hk : Keep [d] H (upd H d (.dK (drK r (n + 1) sd))) := Keep.set (List.mem_singleton.mpr rfl)
  walk_at "go"
  refine g_ixD (dg_row hd1) ?_
  walk_at "go"
  refine g_if (fun h0 => ?_) (fun h0 => ?_)
  · walk_at "go"
    refine g_ixD (dg_row hd1) ?_
    walk_at "go"
    obtain ⟨z, hz⟩ : ∃ z, row[n.toNat]? = some z := ⟨_, List.getElem?_eq_getElem (by omega)⟩
    refine g_ixL (SqL.of hr1) (n := n.toNat) (by omega) (by rw [List.getElem?_map, hz]; rfl) ?_
    walk_at "go"
    exact hQ _ _ hk hd1 (Int.emod_nonneg _ (by omega)) (Int.emod_lt_of_pos _ hm)
  · walk_at "go"
    refine g_ixD (dg_seed hd1) ?_
    walk_at "go"
    exact hQ _ _ hk hd1 (Int.emod_nonneg _ (by omega)) (Int.emod_lt_of_pos _ hm)
theorem use_next {H : Hp} {d r : Addr} {n sd m : Int} {row : List Int} {Q : VK} {E : XK} (hd : H d = some (.dK (drK r n sd))) (hr : H r = some (.lst (row.map V.int))) (ok : RowOk row sd) (hn : 0 ≤ n) (hm : 0 < m)
    (k : ∀ H' v, Keep [d] H H' → H' d = some (.dK (drK r (n + 1) sd)) → H' r = some (.lst (row.map V.int)) → 0 ≤ v → v < m → Q (.int v) H') : sp_law_next K ([.ref d, .int m] ++ []) H Q E :=
  ⟨d, r, n, sd, m, row, rfl, hd, hr, ok, hn, hm, fun H' v kp h1 h2 h3 => k H' v kp h1 (kp r _ hr (by
    have ne : r ≠ d := ne_of hr hd (by intro z; cases z)
    simpa using ne)) h2 h3⟩
theorem use_nextM {H : Hp} {L : List (Addr × HO)} {d r : Addr} {n sd m : Int} {row : List Int} {Q : VK} {E : XK} (M : Has H ((d, .dK (drK r n sd)) :: (r, .lst (row.map V.int)) :: L)) (ok : RowOk row sd) (hn : 0 ≤ n) (hm : 0 < m)
    (k : ∀ H' v, Keep [d] H H' → Has H' ((d, .dK (drK r (n + 1) sd)) :: (r, .lst (row.map V.int)) :: L) → 0 ≤ v → v < m → Q (.int v) H') : sp_law_next K ([.ref d, .int m] ++ []) H Q E :=
  ⟨d, r, n, sd, m, row, rfl, M.get 0 rfl, M.get 1 rfl, ok, hn, hm, fun H' v kp h1 h2 h3 => k H' v kp (M.call1 kp 0 rfl h1) h2 h3⟩

/-! ### draws, bundled -/
/-- the draws dict stands at d, beside the objects L -/
structure DrL (H : Hp) (d : Addr) (L : List (Addr × HO)) : Prop where
  ex : ∃ (r : Addr) (n sd : Int) (row : List Int), Has H ((d, .dK (drK r n sd)) :: (r, .lst (row.map V.int)) :: L) ∧ RowOk row sd ∧ 0 ≤ n
section
variable {H H' : Hp} {d p a : Addr} {L L' : List (Addr × HO)} {o o' : HO} {Q : VK} {E : XK} {m : Int} {v : V} {e : PyData} {xs : List V} {ds : List PyData} {σ : L2.St} {j : Nat}
theorem DrL.has (D : DrL H d L) : Has H L := by
  obtain ⟨r, n, sd, row, M, _⟩ := D.ex
  exact M.sub ((List.sublist_cons_self _ _).trans (List.sublist_cons_self _ _))
theorem DrL.get (D : DrL H d L) (i : Nat) (h : L[i]? = some (a, o)) : H a = some o := D.has.get i h
theorem DrL.new (D : DrL H d L) (hp : H p = none) : DrL (upd H p o) d (L ++ [(p, o)]) := by
  obtain ⟨r, n, sd, row, M, ok, hn⟩ := D.ex
  exact ⟨r, n, sd, row, M.new hp, ok, hn⟩
theorem DrL.same (D : DrL H d L) (k : Same H H') : DrL H' d L := by
  obtain ⟨r, n, sd, row, M, ok, hn⟩ := D.ex
  exact ⟨r, n, sd, row, M.keep k, ok, hn⟩
theorem DrL.sub (D : DrL H d L) (h : L'.Sublist L) : DrL H d L' := by
  obtain ⟨r, n, sd, row, M, ok, hn⟩ := D.ex
  exact ⟨r, n, sd, row, M.sub ((h.cons₂ _).cons₂ _), ok, hn⟩
theorem DrL.set (D : DrL H d L) (i : Nat) (h : L[i]? = some (a, o)) : DrL (upd H a o') d (L.set i (a, o')) := by
  obtain ⟨r, n, sd, row, M, ok, hn⟩ := D.ex
  exact ⟨r, n, sd, row, M.set (i + 2) h, ok, hn⟩
theorem DrL.noTup (D : DrL H d L) : NoTup H [d] := by
  obtain ⟨r, n, sd, row, M, ok, hn⟩ := D.ex
  exact NoTup.one (M.get 0 rfl) (fun xs e => nomatch e)
theorem DrL.im (D : DrL H d L) (k : Keep [d] H H') (h : Im H v e) : Im H' v e := h.keep k D.noTup
theorem DrL.ims (D : DrL H d L) (k : Keep [d] H H') (h : Ims H xs ds) : Ims H' xs ds := h.keep k D.noTup
theorem DrL.ne (D : DrL H d L) (hp : H p = none) : p ≠ d := by
  obtain ⟨r, n, sd, row, M, ok, hn⟩ := D.ex
  rintro rfl
  have := M.get 0 rfl
  rw [hp] at this
  cases this
theorem DrL.at_ (D : DrL H d L) (k : Keep [d] H H') (h : H a = some o) (n : ∀ kvs, o ≠ .dK kvs) : H' a = some o := by
  obtain ⟨r, q, sd, row, M, ok, hn⟩ := D.ex
  refine k a o h fun z => ?_
  rw [List.mem_singleton.mp z, M.get 0 rfl] at h
  exact n _ (Option.some.inj h).symm
theorem use_nx (D : DrL H d L) (hm : 0 < m) (k : ∀ H' v, Keep [d] H H' → DrL H' d L → 0 ≤ v → v < m → Q (.int v) H') : sp_law_next K ([.ref d, .int m] ++ []) H Q E := by
  obtain ⟨r, n, sd, row, M, ok, hn⟩ := D.ex
  exact use_nextM M ok hn hm fun H' v kp M' h0 h1 => k H' v kp ⟨r, _, sd, row, M', ok, by omega⟩ h0 h1
/-- one of a written list, by a draw -/
theorem use_pk (D : DrL H d L) (hj : σ[j]? = some (some (.ref d))) (hm : (xs.length : Int) = m) (h0 : 0 < xs.length) (hs : xs.length ≤ 1000) (k : ∀ H' v, Keep [d] H H' → DrL H' d L → v ∈ xs → Q v H') :
    rLstN xs H fun x H1 => tCall (sp_law_next K) [] E (tCons (tVar j) (tCons (tC (.int m)) tNil)) σ H1 fun y H2 => rIxU K x y H2 Q := by
  refine ⟨szle (by omega), fun p hp => ?_⟩
  refine g_call (g_consA (g_var hj (g_consA (g_c (g_nilA ?_)))))
  have D1 := D.same (Same.new (o := .lst xs) hp)
  refine use_nx D1 (by omega) fun H2 v k2 D2 h1 h2 => ?_
  have hv : v.toNat < xs.length := by omega
  have hx : xs[v.toNat]? = some xs[v.toNat] := List.getElem?_eq_getElem hv
  exact g_ixL (SqL.of (D1.at_ k2 upd_same (fun _ e => nomatch e))) (n := v.toNat) (by omega) hx (k H2 _ ((Keep.new hp).trans k2) D2 (List.getElem_mem hv))
theorem gD_append (D : DrL H d L) (n : Nat) (h : L[n]? = some (a, .lst xs)) (hl : xs.length < 100000) (k : DrL (upd H a (.lst (xs ++ [v]))) d (L.set n (a, .lst (xs ++ [v]))) → Q .non (upd H a (.lst (xs ++ [v])))) : rAppend (.ref a) [v] H Q :=
  ⟨a, xs, v, rfl, rfl, D.get n h, szl (by omega), k (D.set n h)⟩
theorem use_readerD {a : Addr} {ns : List Int} (hS : SqL K H a (ns.map V.int)) (hl : ns.length ≤ 63) (k : ∀ H' d, Same H H' → H d = none → DrL H' d [] → Q (.ref d) H') : sp_law_reader K ([.ref a] ++ []) H Q E :=
  ⟨a, ns, rfl, hS, hl, fun H' d r row sd sm h1 h2 M ok => k H' d sm h1 ⟨r, 0, sd, row, M, ok, by decide⟩⟩
end


/-! ### what the settings may be -/
def powD (hi : Int) : PyData → Bool
  | .int i => decide (1 ≤ i) && decide (i ≤ hi) && decide (Builtin.bitAnd i (i - 1) = 0)
  | _ => false
theorem pow_tab : ∀ n : Nat, n < 65 → 1 ≤ n → decide (Builtin.bitAnd (n : Int) ((n : Int) - 1) = 0) = inV (.int (n : Int)) [.int 1, .int 2, .int 4, .int 8, .int 16, .int 32, .int 64] := by decide +kernel
theorem pow_in {i : Int} (h1 : 1 ≤ i) (h2 : i ≤ 64) : decide (Builtin.bitAnd i (i - 1) = 0) = inV (.int i) [.int 1, .int 2, .int 4, .int 8, .int 16, .int 32, .int 64] := by
  have := pow_tab i.toNat (by omega) (by omega)
  rw [Int.toNat_of_nonneg (by omega)] at this
  exact this
theorem pow_not {hi : Int} {d : PyData} (h : numD 1 hi d = false) : powD hi d = false := by
  cases d <;> first | rfl | skip
  rename_i i
  replace h : (decide (1 ≤ i) && decide (i ≤ hi)) = false := h
  show (decide (1 ≤ i) && decide (i ≤ hi) && _) = false
  rw [h]
  rfl
theorem pow_yes {hi i : Int} (h1 : 1 ≤ i) (h2 : i ≤ hi) : powD hi (.int i) = decide (Builtin.bitAnd i (i - 1) = 0) := by
  show (decide (1 ≤ i) && decide (i ≤ hi) && _) = _
  rw [decide_eq_true h1, decide_eq_true h2]
  rfl
def POL : List Str := ["lru", "fifo", "plru"]
def cacheD : PyData → Bool
  | .tuple [a, b, c, p] => strD POL p && (powD 64 a && (powD 8 b && powD 16 c))
  | _ => false
def predD : PyData → Bool
  | .tuple [w] => strD ["taken"] w
  | .tuple [w, n] => if strD ["two"] w = true then powD 64 n else (strD ["history"] w && numD 1 6 n)
  | _ => false
def prepD : PyData → Bool
  | .tuple [w, n] => strD ["data", "fetch"] w && numD 0 1048576 n
  | .tuple [w, n, b] => strD ["branch"] w && (numD 0 1048576 n && isB b)
  | _ => false
def nD : PyData → Int
  | .int i => i
  | _ => 0
def visD (b : Int) : List PyData → Bool
  | [] => true
  | .tuple [n, w, a] :: vs => strD ["touch", "drop"] w && (numD 0 1048576 a && (numD b 1048576 n && visD (nD n) vs))
  | _ :: _ => false
def visitsD : PyData → Bool
  | .tuple vs => visD 0 vs
  | _ => false
def costsD : PyData → Bool
  | .tuple [x, y] => numD 0 100 x && numD 1 100 y
  | _ => false
def befD : PyData → Bool
  | .tuple bs => bs.all prepD
  | _ => false
def setD : PyData → Bool
  | .tuple [a, b, c, e, f, g, k] => cacheD a && (cacheD b && (predD c && (numD 0 64 e && (costsD f && (befD g && visitsD k)))))
  | _ => false
theorem cache_not {d : PyData} (h : lenI 4 d = false) : cacheD d = false := by
  unfold cacheD
  split
  · cases h
  · rfl
theorem set_not {d : PyData} (h : lenI 7 d = false) : setD d = false := by
  unfold setD
  split
  · cases h
  · rfl
theorem costs_not {d : PyData} (h : lenI 2 d = false) : costsD d = false := by
  unfold costsD
  split
  · cases h
  · rfl
theorem prep_not {d : PyData} (h2 : lenI 2 d = false) (h3 : lenI 3 d = false) : prepD d = false := by
  unfold prepD
  split
  · cases h2
  · cases h3
  · rfl
theorem pred_not {d : PyData} (h1 : lenI 1 d = false) (h2 : lenI 2 d = false) : predD d = false := by
  unfold predD
  split
  · cases h1
  · cases h2
  · rfl
theorem ok1 : ∀ k ∈ POL, PyData.strOk k = true := by decide +kernel
theorem ok2 : ∀ k ∈ (["data", "fetch"] : List Str), PyData.strOk k = true := by decide +kernel
theorem ok3 : ∀ k ∈ (["touch", "drop"] : List Str), PyData.strOk k = true := by decide +kernel
/-! ### the program's looks -/
def sp_is_number (K : PySem.W.Frag) : Sp := fun vs H Q _ => ∃ (x : V) (lo hi : Int) (d : PyData), vs = [x, .int lo, .int hi] ∧ Im H x d ∧ Q (.bl (numD lo hi d)) H
theorem sc_is_number : FnScope ["thing", "least", "most"] ["thing", "least", "most"] (defScope (topS 2)) := ⟨rfl, rfl, rfl, by decide +kernel, rfl, by decide +kernel, by decide +kernel⟩
theorem ok_is_number (T : Txt fa fn K mg) : Dn P w K mg base CX0 1 "is_number" ["thing", "least", "most"] (sp_is_number K) := by
  refine mk_dn (d := dOf "is_number" 2) T 0 0 rfl rfl rfl rfl rfl sc_is_number (by walk_at "len") (fun _ _ _ _ _ _ us hl => match us, hl with | [_, _, _], _ => rfl) (fun cdv A outer s H vs Q E hr h => ⟨_, (pss_one (ps_ret (pe_and (pe_callB (c_isi (K := K) rfl) rfl (T.free 32 rfl) (by decide +kernel) (pa_cons (pv 0) (pa_cons (pe_bltn (v := .ty "int") rfl (T.free 31 rfl) (by decide +kernel) rfl) pa_nil))) (pe_and (pe_not (pe_callB (c_isi (K := K) rfl) rfl (T.free 32 rfl) (by decide +kernel) (pa_cons (pv 0) (pa_cons (pe_bltn (v := .ty "bool") rfl (T.free 30 rfl) (by decide +kernel) rfl) pa_nil)))) (pe_one (pe_chain o_le o_le (pv 1) (pv 0) (pv 2))))))), ?_⟩)
  obtain ⟨x, lo, hi, d, rfl, him, hQ⟩ := h
  cases him with
  | non => walk_at "go"; exact hQ
  | bl b => walk_at "go"; exact hQ
  | str z => walk_at "go"; exact hQ
  | tup h hs =>
    walk_at "go"
    refine m_isiT (.tup h hs) k_ti ?_
    walk_at "go"
    exact hQ
  | int i =>
    walk_at "go"
    refine g_if (fun c => ?_) (fun c => ?_)
    · walk_at "go"
      refine q_bl ?_ hQ
      show (decide (lo ≤ i) && decide (i ≤ hi)) = _
      rw [decide_eq_true c]
      rfl
    · refine q_bl ?_ hQ
      show (decide (lo ≤ i) && decide (i ≤ hi)) = _
      rw [decide_eq_false c]
      rfl
def sp_is_row_of (K : PySem.W.Frag) : Sp := fun vs H Q _ => ∃ (x : V) (n : Int) (d : PyData), vs = [x, .int n] ∧ Im H x d ∧ Q (.bl (lenI n d)) H
theorem sc_is_row_of : FnScope ["thing", "many"] ["thing", "many"] (defScope (topS 3)) := ⟨rfl, rfl, rfl, by decide +kernel, rfl, by decide +kernel, by decide +kernel⟩
theorem ok_is_row_of (T : Txt fa fn K mg) : Dn P w K mg base CX0 1 "is_row_of" ["thing", "many"] (sp_is_row_of K) := by
  refine mk_dn (d := dOf "is_row_of" 3) T 1 1 rfl rfl rfl rfl rfl sc_is_row_of (by walk_at "len") (fun _ _ _ _ _ _ us hl => match us, hl with | [_, _], _ => rfl) (fun cdv A outer s H vs Q E hr h => ⟨_, (pss_one (ps_ret (pe_and (pe_callB (c_isi (K := K) rfl) rfl (T.free 32 rfl) (by decide +kernel) (pa_cons (pv 0) (pa_cons (pe_bltn (v := .ty "tuple") rfl (T.free 37 rfl) (by decide +kernel) rfl) pa_nil))) (pe_one (pe_cmpR (op_eqU (K := K) rfl hr.units) (pe_callB (c_len (K := K) rfl) rfl (T.free 33 rfl) (by decide +kernel) (pa_cons (pv 0) pa_nil)) (pv 1) (nomark _)))))), ?_⟩)
  obtain ⟨x, n, d, rfl, him, hQ⟩ := h
  cases him with
  | non => walk_at "go"; exact hQ
  | bl b => walk_at "go"; exact hQ
  | str z => walk_at "go"; exact hQ
  | int i => walk_at "go"; exact hQ
  | tup h hs =>
    walk_at "go"
    refine m_isiT (.tup h hs) k_tt ?_
    walk_at "go"
    refine m_len (.tup h hs) ?_
    walk_at "go"
    exact hQ
def sp_is_power (K : PySem.W.Frag) : Sp := fun vs H Q _ => ∃ (x : V) (hi : Int) (d : PyData), vs = [x, .int hi] ∧ Im H x d ∧ Q (.bl (powD hi d)) H
theorem sc_is_power : FnScope ["thing", "most"] ["thing", "most"] (defScope (topS 4)) := ⟨rfl, rfl, rfl, by decide +kernel, rfl, by decide +kernel, by decide +kernel⟩
theorem ok_is_power (T : Txt fa fn K mg) : Dn P w K mg base CX0 2 "is_power" ["thing", "most"] (sp_is_power K) := by
  refine mk_dn (d := dOf "is_power" 4) T 2 2 rfl rfl rfl rfl rfl sc_is_power (by walk_at "len") (fun _ _ _ _ _ _ us hl => match us, hl with | [_, _], _ => rfl) (fun cdv A outer s H vs Q E hr h => ⟨_, (pss_one (ps_ret (pe_and (pe_callD (K := K) rfl (ok_is_number T) (hr.mono (by decide)) rfl pass0 (pa_cons (pv 0) (pa_cons pe_int (pa_cons (pv 1) pa_nil)))) (pe_one (pe_cmpR (op_eqU (K := K) rfl hr.units) (pe_op op_and (pv 0) (pe_op op_sub (pv 0) pe_int)) pe_int (nomark _)))))), ?_⟩)
  obtain ⟨x, hi, d, rfl, him, hQ⟩ := h
  walk_at "go"
  refine ⟨x, 1, hi, d, rfl, him, ?_⟩
  walk_at "go"
  refine g_ifB (fun c => ?_) (fun c => ?_)
  · obtain ⟨i, rfl, h1, h2⟩ := num_inv c
    obtain rfl := him.int_inv
    walk_at "go"
    rw [← pow_yes h1 h2]
    exact hQ
  · rw [← pow_not c]
    exact hQ
def sp_is_cache (K : PySem.W.Frag) : Sp := fun vs H Q _ => ∃ (x : V) (d : PyData), vs = [x] ∧ Im H x d ∧ Lay 9 d ∧ ∀ H', Same H H' → Q (.bl (cacheD d)) H'
theorem sc_is_cache : FnScope ["thing", "sets", "ways", "line", "policy"] ["thing"] (defScope (topS 5)) := ⟨rfl, rfl, rfl, by decide +kernel, rfl, by decide +kernel, by decide +kernel⟩
theorem ok_is_cache (T : Txt fa fn K mg) : Dn P w K mg base CX0 3 "is_cache" ["thing"] (sp_is_cache K) := by
  refine mk_dn (d := dOf "is_cache" 5) T 3 3 rfl rfl rfl rfl rfl sc_is_cache (by walk_at "len") (fun _ _ _ _ _ _ us hl => match us, hl with | [_], _ => rfl) (fun cdv A outer s H vs Q E hr h => ⟨_, (pss_cons (ps_if (pt_not (pt_tru (K := K) rfl (pe_callD (K := K) rfl (ok_is_row_of T) (hr.mono (by decide)) rfl pass0 (pa_cons (pv 0) (pa_cons pe_int pa_nil))))) (pss_one (ps_ret pe_bl)) pss_nil)
      (pss_cons (ps_asg (pv 0) (pg_tup rfl (pgs_cons (pg_name (i := 1) sc_is_cache.nd rfl (.inl rfl)) (pgs_cons (pg_name (i := 2) sc_is_cache.nd rfl (.inl rfl)) (pgs_cons (pg_name (i := 3) sc_is_cache.nd rfl (.inl rfl)) (pgs_cons (pg_name (i := 4) sc_is_cache.nd rfl (.inl rfl)) pgs_nil))))))
      (pss_cons (ps_if (pt_cmpR (op_niU (K := K) rfl (hu65 hr)) (pv 4) (pe_tup (pa_cons pe_str (pa_cons pe_str (pa_cons pe_str pa_nil)))) (by rfl)) (pss_one (ps_ret pe_bl)) pss_nil)
      (pss_one (ps_ret (pe_and (pe_callD (K := K) rfl (ok_is_power T) (hr.mono (by decide)) rfl pass0 (pa_cons (pv 1) (pa_cons pe_int pa_nil))) (pe_and (pe_callD (K := K) rfl (ok_is_power T) (hr.mono (by decide)) rfl pass0 (pa_cons (pv 2) (pa_cons pe_int pa_nil))) (pe_one (pe_callD (K := K) rfl (ok_is_power T) (hr.mono (by decide)) rfl pass0 (pa_cons (pv 3) (pa_cons pe_int pa_nil))))))))))), ?_⟩)
  obtain ⟨x, d, rfl, him, ly, hQ⟩ := h
  walk_at "go"
  refine ⟨x, 4, d, rfl, him, ?_⟩
  walk_at "go"
  refine g_ifBn (fun c => ?_) (fun c => ?_)
  · walk_at "go"
    rw [← cache_not c]
    exact hQ _ (Same.refl H)
  · obtain ⟨d1, d2, d3, d4, rfl⟩ := len4 c
    obtain ⟨t, x1, x2, x3, x4, rfl, ht, i1, i2, i3, i4⟩ := im4 him
    walk_at "go"
    refine ⟨by decide, fun q hq => ?_⟩
    have sm : Same H _ := Same.new (o := .tup [.str "lru", .str "fifo", .str "plru"]) hq
    have l4 : Lay 9 d4 := ly.items _ (by simp)
    refine m_niTs (ks := POL) upd_same (i4.same sm) (l4.shaped (by decide)) ok1 ?_
    walk_at "go"
    refine g_ifBn (fun c4 => ?_) (fun c4 => ?_)
    · walk_at "go"
      refine q_bl ?_ (hQ _ sm)
      show (strD POL d4 && _) = false
      rw [c4]
      rfl
    · walk_at "go"
      refine ⟨x1, 64, d1, rfl, i1.same sm, ?_⟩
      walk_at "go"
      refine g_ifB (fun c1 => ?_) (fun c1 => ?_)
      · walk_at "go"
        refine ⟨x2, 8, d2, rfl, i2.same sm, ?_⟩
        walk_at "go"
        refine g_ifB (fun c2 => ?_) (fun c2 => ?_)
        · walk_at "go"
          refine ⟨x3, 16, d3, rfl, i3.same sm, ?_⟩
          refine q_bl ?_ (hQ _ sm)
          show (strD POL d4 && (powD 64 d1 && (powD 8 d2 && powD 16 d3))) = _
          rw [c4, c1, c2]
          rfl
        · refine q_bl ?_ (hQ _ sm)
          show (strD POL d4 && (powD 64 d1 && (powD 8 d2 && powD 16 d3))) = _
          rw [c4, c1, c2]
          rfl
      · refine q_bl ?_ (hQ _ sm)
        show (strD POL d4 && (powD 64 d1 && (powD 8 d2 && powD 16 d3))) = _
        rw [c4, c1]
        rfl
def takD (d : PyData) : Bool := lenI 1 d && predD d
theorem tak_eqv {d : PyData} : PyData.eqv d (.tuple [.str "taken"]) = takD d := by
  unfold takD
  cases d <;> first | (unfold PyData.eqv lenI; rfl) | skip
  rename_i ds
  unfold PyData.eqv
  match ds with
  | [] => unfold PyData.eqvAll lenI; rfl
  | [w] =>
    unfold PyData.eqvAll
    rw [strD_eqv]
    unfold PyData.eqvAll
    show (_ && true) = (true && strD ["taken"] w)
    rw [Bool.and_true, Bool.true_and]
  | w :: n :: r =>
    unfold PyData.eqvAll
    have e : lenI 1 (.tuple (w :: n :: r)) = false := decide_eq_false (p := (((w :: n :: r).length : Nat) : Int) = 1) (by simp only [List.length_cons]; omega)
    rw [e]
    show (_ && PyData.eqvAll (n :: r) []) = _
    unfold PyData.eqvAll
    rw [Bool.and_false, Bool.false_and]
theorem lay_tak : SeqAt.shaped (.tuple [.str "taken"]) = true := by decide +kernel
def sp_is_predictor (K : PySem.W.Frag) : Sp := fun vs H Q _ => ∃ (x : V) (d : PyData), vs = [x] ∧ Im H x d ∧ Lay 9 d ∧ ∀ H', Same H H' → Q (.bl (predD d)) H'
theorem sc_is_predictor : FnScope ["thing"] ["thing"] (defScope (topS 6)) := ⟨rfl, rfl, rfl, by decide +kernel, rfl, by decide +kernel, by decide +kernel⟩
theorem ok_is_predictor (T : Txt fa fn K mg) : Dn P w K mg base CX0 3 "is_predictor" ["thing"] (sp_is_predictor K) := by
  refine mk_dn (d := dOf "is_predictor" 6) T 4 4 rfl rfl rfl rfl rfl sc_is_predictor (by walk_at "len") (fun _ _ _ _ _ _ us hl => match us, hl with | [_], _ => rfl) (fun cdv A outer s H vs Q E hr h => ⟨_, (pss_cons (ps_if (pt_cmpR (op_eqU (K := K) rfl hr.units) (pv 0) (pe_tup (pa_cons pe_str pa_nil)) (nomark _)) (pss_one (ps_ret pe_bl)) pss_nil)
      (pss_cons (ps_if (pt_not (pt_tru (K := K) rfl (pe_callD (K := K) rfl (ok_is_row_of T) (hr.mono (by decide)) rfl pass0 (pa_cons (pv 0) (pa_cons pe_int pa_nil))))) (pss_one (ps_ret pe_bl)) pss_nil)
      (pss_cons (ps_if (pt_cmpR (op_eqU (K := K) rfl hr.units) (pe_ixU (K := K) rfl (hu_of hr) (pv 0) pe_int) pe_str (nomark _)) (pss_one (ps_ret (pe_callD (K := K) rfl (ok_is_power T) (hr.mono (by decide)) rfl pass0 (pa_cons (pe_ixU (K := K) rfl (hu_of hr) (pv 0) pe_int) (pa_cons pe_int pa_nil))))) pss_nil)
      (pss_one (ps_ret (pe_and (pe_cmpR (op_eqU (K := K) rfl hr.units) (pe_ixU (K := K) rfl (hu_of hr) (pv 0) pe_int) pe_str (nomark _)) (pe_one (pe_callD (K := K) rfl (ok_is_number T) (hr.mono (by decide)) rfl pass0 (pa_cons (pe_ixU (K := K) rfl (hu_of hr) (pv 0) pe_int) (pa_cons pe_int (pa_cons pe_int pa_nil))))))))))), ?_⟩)
  obtain ⟨x, d, rfl, him, ly, hQ⟩ := h
  walk_at "go"
  refine m_new (ds := [.str "taken"]) (.cons (.str _) .nil) (by decide) (fun q H1 sm hq hi => ?_)
  refine m_eq (him.same sm) hi (ly.shaped (by decide)) lay_tak ?_
  rw [tak_eqv]
  walk_at "go"
  refine g_ifB (fun c => ?_) (fun c => ?_)
  · unfold takD at c
    rw [Bool.and_eq_true] at c
    walk_at "go"
    rw [← c.2]
    exact hQ _ sm
  · walk_at "go"
    refine ⟨x, 2, d, rfl, him.same sm, ?_⟩
    walk_at "go"
    refine g_ifBn (fun c2 => ?_) (fun c2 => ?_)
    · walk_at "go"
      refine q_bl ?_ (hQ _ sm)
      cases c1 : lenI 1 d with
      | true =>
        unfold takD at c
        rw [c1, Bool.true_and] at c
        exact c
      | false => exact pred_not c1 c2
    · obtain ⟨d1, d2, rfl⟩ := len2 c2
      have him1 := him.same sm
      have l1 : Lay 9 d1 := ly.items _ (by simp)
      walk_at "go"
      refine m_ix him1 (n := 0) rfl rfl (fun v hv => ?_)
      walk_at "go"
      refine m_eqS hv (l1.shaped (by decide)) (by decide +kernel) ?_
      walk_at "go"
      refine g_ifB (fun c1 => ?_) (fun c1 => ?_)
      · walk_at "go"
        refine m_ix him1 (n := 1) rfl rfl (fun v2 hv2 => ?_)
        walk_at "go"
        refine ⟨v2, 64, d2, rfl, hv2, ?_⟩
        refine q_bl ?_ (hQ _ sm)
        show (if strD ["two"] d1 = true then powD 64 d2 else _) = _
        rw [if_pos c1]
      · have e : predD (.tuple [d1, d2]) = (strD ["history"] d1 && numD 1 6 d2) := by
          show (if strD ["two"] d1 = true then powD 64 d2 else _) = _
          rw [if_neg (by rw [c1]; exact Bool.false_ne_true)]
        walk_at "go"
        refine m_ix him1 (n := 0) rfl rfl (fun v hv => ?_)
        walk_at "go"
        refine m_eqS hv (l1.shaped (by decide)) (by decide +kernel) ?_
        walk_at "go"
        refine g_ifB (fun c3 => ?_) (fun c3 => ?_)
        · walk_at "go"
          refine m_ix him1 (n := 1) rfl rfl (fun v2 hv2 => ?_)
          walk_at "go"
          refine ⟨v2, 1, 6, d2, rfl, hv2, ?_⟩
          refine q_bl ?_ (hQ _ sm)
          rw [e, c3]
          rfl
        · refine q_bl ?_ (hQ _ sm)
          rw [e, c3]
          rfl
def sp_is_preparation (K : PySem.W.Frag) : Sp := fun vs H Q _ => ∃ (x : V) (d : PyData), vs = [x] ∧ Im H x d ∧ Lay 9 d ∧ ∀ H', Same H H' → Q (.bl (prepD d)) H'
theorem sc_is_preparation : FnScope ["thing"] ["thing"] (defScope (topS 7)) := ⟨rfl, rfl, rfl, by decide +kernel, rfl, by decide +kernel, by decide +kernel⟩
theorem ok_is_preparation (T : Txt fa fn K mg) : Dn P w K mg base CX0 2 "is_preparation" ["thing"] (sp_is_preparation K) := by
  refine mk_dn (d := dOf "is_preparation" 7) T 5 5 rfl rfl rfl rfl rfl sc_is_preparation (by walk_at "len") (fun _ _ _ _ _ _ us hl => match us, hl with | [_], _ => rfl) (fun cdv A outer s H vs Q E hr h => ⟨_, (pss_cons (ps_if (pt_tru (K := K) rfl (pe_callD (K := K) rfl (ok_is_row_of T) (hr.mono (by decide)) rfl pass0 (pa_cons (pv 0) (pa_cons pe_int pa_nil)))) (pss_one (ps_ret (pe_and (pe_cmpR (op_inU (K := K) rfl (hu65 hr)) (pe_ixU (K := K) rfl (hu_of hr) (pv 0) pe_int) (pe_tup (pa_cons pe_str (pa_cons pe_str pa_nil))) (by rfl)) (pe_one (pe_callD (K := K) rfl (ok_is_number T) (hr.mono (by decide)) rfl pass0 (pa_cons (pe_ixU (K := K) rfl (hu_of hr) (pv 0) pe_int) (pa_cons pe_int (pa_cons (pe_gint T rfl 38 rfl rfl) pa_nil)))))))) pss_nil)
      (pss_cons (ps_if (PW.pt (pw_or (pt_not (pt_tru (K := K) rfl (pe_callD (K := K) rfl (ok_is_row_of T) (hr.mono (by decide)) rfl pass0 (pa_cons (pv 0) (pa_cons pe_int pa_nil))))) (pw_or1 (pt_cmpR (op_neU (K := K) rfl hr.units) (pe_ixU (K := K) rfl (hu_of hr) (pv 0) pe_int) pe_str (nomark _))))) (pss_one (ps_ret pe_bl)) pss_nil)
      (pss_one (ps_ret (pe_and (pe_callD (K := K) rfl (ok_is_number T) (hr.mono (by decide)) rfl pass0 (pa_cons (pe_ixU (K := K) rfl (hu_of hr) (pv 0) pe_int) (pa_cons pe_int (pa_cons (pe_gint T rfl 38 rfl rfl) pa_nil)))) (pe_one (pe_callB (c_isi (K := K) rfl) rfl (T.free 32 rfl) (by decide +kernel) (pa_cons (pe_ixU (K := K) rfl (hu_of hr) (pv 0) pe_int) (pa_cons (pe_bltn (v := .ty "bool") rfl (T.free 30 rfl) (by decide +kernel) rfl) pa_nil))))))))), ?_⟩)
  obtain ⟨x, d, rfl, him, ly, hQ⟩ := h
  walk_at "go"
  refine ⟨x, 2, d, rfl, him, ?_⟩
  walk_at "go"
  refine g_ifB (fun c2 => ?_) (fun c2 => ?_)
  · obtain ⟨d1, d2, rfl⟩ := len2 c2
    have l1 : Lay 9 d1 := ly.items _ (by simp)
    walk_at "go"
    refine m_ix him (n := 0) rfl rfl (fun v hv => ?_)
    walk_at "go"
    refine ⟨by decide, fun q hq => ?_⟩
    have sm : Same H _ := Same.new (o := .tup [.str "data", .str "fetch"]) hq
    refine m_inTs (ks := ["data", "fetch"]) upd_same (hv.same sm) (l1.shaped (by decide)) ok2 ?_
    walk_at "go"
    refine g_ifB (fun c => ?_) (fun c => ?_)
    · walk_at "go"
      refine m_ix (him.same sm) (n := 1) rfl rfl (fun v2 hv2 => ?_)
      walk_at "go"
      refine ⟨v2, 0, 1048576, d2, rfl, hv2, ?_⟩
      refine q_bl ?_ (hQ _ sm)
      show (strD ["data", "fetch"] d1 && numD 0 1048576 d2) = _
      rw [c]
      rfl
    · refine q_bl ?_ (hQ _ sm)
      show (strD ["data", "fetch"] d1 && numD 0 1048576 d2) = _
      rw [c]
      rfl
  · walk_at "go"
    refine ⟨x, 3, d, rfl, him, ?_⟩
    walk_at "go"
    refine g_ifBn (fun c3 => ?_) (fun c3 => ?_)
    · walk_at "go"
      rw [← prep_not c2 c3]
      exact hQ _ (Same.refl H)
    · obtain ⟨d1, d2, d3, rfl⟩ := len3 c3
      have l1 : Lay 9 d1 := ly.items _ (by simp)
      walk_at "go"
      refine m_ix him (n := 0) rfl rfl (fun v hv => ?_)
      walk_at "go"
      refine m_neS hv (l1.shaped (by decide)) (by decide +kernel) ?_
      walk_at "go"
      refine g_ifBn (fun c => ?_) (fun c => ?_)
      · walk_at "go"
        refine q_bl ?_ (hQ _ (Same.refl H))
        show (strD ["branch"] d1 && (numD 0 1048576 d2 && isB d3)) = _
        rw [c]
        rfl
      · walk_at "go"
        refine m_ix him (n := 1) rfl rfl (fun v2 hv2 => ?_)
        walk_at "go"
        refine ⟨v2, 0, 1048576, d2, rfl, hv2, ?_⟩
        walk_at "go"
        refine g_ifB (fun c1 => ?_) (fun c1 => ?_)
        · walk_at "go"
          refine m_ix him (n := 2) rfl rfl (fun v3 hv3 => ?_)
          walk_at "go"
          refine m_isiB hv3 ?_
          refine q_bl ?_ (hQ _ (Same.refl H))
          show (strD ["branch"] d1 && (numD 0 1048576 d2 && isB d3)) = _
          rw [c, c1]
          rfl
        · refine q_bl ?_ (hQ _ (Same.refl H))
          show (strD ["branch"] d1 && (numD 0 1048576 d2 && isB d3)) = _
          rw [c, c1]
          rfl
theorem vis_cons {b : Int} {d1 d2 d3 : PyData} {vs : List PyData} : visD b (.tuple [d1, d2, d3] :: vs) = (strD ["touch", "drop"] d2 && (numD 0 1048576 d3 && (numD b 1048576 d1 && visD (nD d1) vs))) := rfl
theorem vis_not {b : Int} {d : PyData} {vs : List PyData} (h : lenI 3 d = false) : visD b (d :: vs) = false := by
  unfold visD
  split
  · rename_i e
    cases e
  · rename_i e
    cases e
    cases h
  · rfl
theorem vis_nil {b : Int} : visD b [] = true := rfl
def sp_are_visits (K : PySem.W.Frag) : Sp := fun vs H Q _ => ∃ (x : V) (d : PyData), vs = [x] ∧ Im H x d ∧ Lay 9 d ∧ ∀ H', Same H H' → Q (.bl (visitsD d)) H'
theorem sc_are_visits : FnScope ["thing", "before", "visit"] ["thing"] (defScope (topS 8)) := ⟨rfl, rfl, rfl, by decide +kernel, rfl, by decide +kernel, by decide +kernel⟩
theorem ok_are_visits (T : Txt fa fn K mg) : Dn P w K mg base CX0 2 "are_visits" ["thing"] (sp_are_visits K) := by
  refine mk_dn (d := dOf "are_visits" 8) T 6 6 rfl rfl rfl rfl rfl sc_are_visits (by walk_at "len") (fun _ _ _ _ _ _ us hl => match us, hl with | [_], _ => rfl) (fun cdv A outer s H vs Q E hr h => ⟨_, (pss_cons (ps_if (pt_not (pt_tru (K := K) rfl (pe_callB (c_isi (K := K) rfl) rfl (T.free 32 rfl) (by decide +kernel) (pa_cons (pv 0) (pa_cons (pe_bltn (v := .ty "tuple") rfl (T.free 37 rfl) (by decide +kernel) rfl) pa_nil))))) (pss_one (ps_ret pe_bl)) pss_nil)
      (pss_cons (ps_set (i := 1) sc_are_visits.nd rfl (.inl rfl) pe_int)
      (pss_cons (ps_for PassesOwn.never rfl (pi_seq (K := K) rfl (pv 0)) (pg_name (i := 2) sc_are_visits.nd rfl (.inl rfl)) (pss_cons (ps_if (PW.pt (pw_or (pt_not (pt_tru (K := K) rfl (pe_callD (K := K) rfl (ok_is_row_of T) (hr.mono (by decide)) rfl pass0 (pa_cons (pv 2) (pa_cons pe_int pa_nil))))) (pw_or1 (pt_cmpR (op_niU (K := K) rfl (hu65 hr)) (pe_ixU (K := K) rfl (hu_of hr) (pv 2) pe_int) (pe_tup (pa_cons pe_str (pa_cons pe_str pa_nil))) (by rfl))))) (pss_one (ps_ret pe_bl)) pss_nil)
      (pss_cons (ps_if (PW.pt (pw_or (pt_not (pt_tru (K := K) rfl (pe_callD (K := K) rfl (ok_is_number T) (hr.mono (by decide)) rfl pass0 (pa_cons (pe_ixU (K := K) rfl (hu_of hr) (pv 2) pe_int) (pa_cons pe_int (pa_cons (pe_gint T rfl 38 rfl rfl) pa_nil)))))) (pw_or1 (pt_not (pt_tru (K := K) rfl (pe_callD (K := K) rfl (ok_is_number T) (hr.mono (by decide)) rfl pass0 (pa_cons (pe_ixU (K := K) rfl (hu_of hr) (pv 2) pe_int) (pa_cons (pv 1) (pa_cons (pe_gint T rfl 38 rfl rfl) pa_nil))))))))) (pss_one (ps_ret pe_bl)) pss_nil)
      (pss_one (ps_set (i := 1) sc_are_visits.nd rfl (.inl rfl) (pe_ixU (K := K) rfl (hu_of hr) (pv 2) pe_int))))))
      (pss_one (ps_ret pe_bl))))), ?_⟩)
  obtain ⟨x, d, rfl, him, ly, hQ⟩ := h
  walk_at "go"
  refine m_isiU him ?_
  walk_at "go"
  refine g_ifBn (fun c => ?_) (fun c => ?_)
  · walk_at "go"
    refine q_bl ?_ (hQ _ (Same.refl H))
    unfold visitsD
    split
    · cases c
    · rfl
  · obtain ⟨ds, rfl⟩ := isT_inv c
    walk_at "go"
    refine m_seq him (fun a xs e ha hs => ?_)
    subst e
    have hl := hs.length
    refine f_tup (xs := xs) (fun i σ H' => ∃ (b : Int) (v : Option V), σ = [some (.ref a), some (.int b), v] ∧ 0 ≤ b ∧ Same H H' ∧ visD 0 ds = visD b (ds.drop i)) ⟨0, _, rfl, by decide, Same.refl H, by rw [List.drop_zero]⟩ ?_ ?_ ?_
    · rintro i σ H' hi ⟨b, v, rfl, hb, sm, e⟩
      exact SqT.of (sm _ _ ha)
    · rintro i y σ H' hi ⟨b, v, rfl, hb, sm, e⟩
      obtain ⟨hlt, hy⟩ := List.getElem?_eq_some_iff.mp hi
      have hd : ds[i]? = some (ds[i]'(by omega)) := List.getElem?_eq_getElem _
      generalize ds[i]'(by omega) = dv at hd
      have hdrop : ds.drop i = dv :: ds.drop (i + 1) := by
        rw [List.drop_eq_getElem_cons (by omega)]
        congr 1
        exact Option.some.inj ((List.getElem?_eq_getElem _).symm.trans hd)
      obtain ⟨y', hy', hiy⟩ := hs.get hd
      rw [hi] at hy'
      cases hy'
      have hiy1 := hiy.same sm
      have ld : Lay 9 dv := ly.items _ (List.mem_of_getElem? hd)
      rw [hdrop] at e
      walk_at "go"
      refine ⟨y, 3, dv, rfl, hiy1, ?_⟩
      walk_at "go"
      refine g_ifBn (fun c3 => ?_) (fun c3 => ?_)
      · walk_at "go"
        refine q_bl ?_ (hQ _ sm)
        show visD 0 ds = _
        rw [e, vis_not c3]
      · obtain ⟨d1, d2, d3, rfl⟩ := len3 c3
        rw [vis_cons] at e
        have l2 : Lay 9 d2 := ld.items _ (by simp)
        walk_at "go"
        refine m_ix hiy1 (n := 1) rfl rfl (fun v1 hv1 => ?_)
        walk_at "go"
        refine ⟨by decide, fun q hq => ?_⟩
        have sm1 : Same H' _ := Same.new (o := .tup [.str "touch", .str "drop"]) hq
        refine m_niTs (ks := ["touch", "drop"]) upd_same (hv1.same sm1) (l2.shaped (by decide)) ok3 ?_
        walk_at "go"
        have sm2 := sm.trans sm1
        have hiy2 := hiy1.same sm1
        refine g_ifBn (fun c4 => ?_) (fun c4 => ?_)
        · walk_at "go"
          refine q_bl ?_ (hQ _ sm2)
          show visD 0 ds = _
          rw [e, c4]
          rfl
        · walk_at "go"
          refine m_ix hiy2 (n := 2) rfl rfl (fun v2 hv2 => ?_)
          walk_at "go"
          refine ⟨v2, 0, 1048576, d3, rfl, hv2, ?_⟩
          walk_at "go"
          refine g_ifBn (fun c5 => ?_) (fun c5 => ?_)
          · walk_at "go"
            refine q_bl ?_ (hQ _ sm2)
            show visD 0 ds = _
            rw [e, c4, c5]
            rfl
          · walk_at "go"
            refine m_ix hiy2 (n := 0) rfl rfl (fun v3 hv3 => ?_)
            walk_at "go"
            refine ⟨v3, b, 1048576, d1, rfl, hv3, ?_⟩
            walk_at "go"
            refine g_ifBn (fun c6 => ?_) (fun c6 => ?_)
            · walk_at "go"
              refine q_bl ?_ (hQ _ sm2)
              show visD 0 ds = _
              rw [e, c4, c5, c6]
              rfl
            · walk_at "go"
              refine m_ix hiy2 (n := 0) rfl rfl (fun v4 hv4 => ?_)
              obtain ⟨n, rfl, h1, h2⟩ := num_inv c6
              obtain rfl := hv4.int_inv
              walk_at "go"
              refine ⟨n, _, rfl, by omega, sm2, ?_⟩
              rw [e, c4, c5, c6]
              rfl
    · rintro σ H' ⟨b, v, rfl, hb, sm, e⟩
      walk_at "go"
      refine q_bl ?_ (hQ _ sm)
      show visD 0 ds = _
      rw [e, hl, List.drop_length]
      rfl
theorem im7 {H : Hp} {x : V} {d1 d2 d3 d4 d5 d6 d7 : PyData} (h : Im H x (.tuple [d1, d2, d3, d4, d5, d6, d7])) : ∃ a x1 x2 x3 x4 x5 x6 x7, x = .ref a ∧ H a = some (.tup [x1, x2, x3, x4, x5, x6, x7]) ∧ Im H x1 d1 ∧ Im H x2 d2 ∧ Im H x3 d3 ∧ Im H x4 d4 ∧ Im H x5 d5 ∧ Im H x6 d6 ∧ Im H x7 d7 := by
  obtain ⟨a, xs, rfl, h1, h2⟩ := h.tup_inv
  obtain ⟨x1, r, rfl, i1, h2⟩ := h2.cons_inv
  obtain ⟨x2, r, rfl, i2, h2⟩ := h2.cons_inv
  obtain ⟨x3, r, rfl, i3, h2⟩ := h2.cons_inv
  obtain ⟨x4, r, rfl, i4, h2⟩ := h2.cons_inv
  obtain ⟨x5, r, rfl, i5, h2⟩ := h2.cons_inv
  obtain ⟨x6, r, rfl, i6, h2⟩ := h2.cons_inv
  obtain ⟨x7, r, rfl, i7, h2⟩ := h2.cons_inv
  rw [h2.nil_inv] at h1
  exact ⟨a, x1, x2, x3, x4, x5, x6, x7, rfl, h1, i1, i2, i3, i4, i5, i6, i7⟩
theorem set7 {d1 d2 d3 d4 d5 d6 d7 : PyData} : setD (.tuple [d1, d2, d3, d4, d5, d6, d7]) = (cacheD d1 && (cacheD d2 && (predD d3 && (numD 0 64 d4 && (costsD d5 && (befD d6 && visitsD d7)))))) := rfl
theorem costs2 {d1 d2 : PyData} : costsD (.tuple [d1, d2]) = (numD 0 100 d1 && numD 1 100 d2) := rfl
theorem bef_not {d : PyData} (h : isT d = false) : befD d = false := by
  unfold befD
  split
  · cases h
  · rfl
theorem vis_notT {d : PyData} (h : isT d = false) : visitsD d = false := by
  unfold visitsD
  split
  · cases h
  · rfl
theorem all_map_id {α : Type} (f : α → Bool) (l : List α) : (l.map f).all id = l.all f := by
  rw [List.all_map]
  rfl
/-- a comprehension that asks each item -/
theorem l_ask {K : PySem.W.Frag} {σ : L2.St} {H : Hp} {te : TE} {k : Nat} {vs : List Nat} {a : Addr} {xs : List V} {ds : List PyData} {f : PyData → Bool} {Q : VK} (ha : H a = some (.tup xs)) (hs : Ims H xs ds) (hl : ds.length ≤ 1000)
    (hwp : ∀ x : V, wipe ((wipe σ vs).set k (some x)) vs = wipe σ vs)
    (step : ∀ (i : Nat) (d : PyData) (y : V) (H' : Hp) (Q' : VK), ds[i]? = some d → xs[i]? = some y → Same H H' → Im H' y d → (∀ H2, Same H' H2 → Q' (.bl (f d)) H2) → te ((wipe σ vs).set k (some y)) H' Q')
    (q : ∀ D H', Same H H' → H' D = some (.lst ((ds.map f).map V.bl)) → Q (.ref D) H') : LcW (gName k) tYes te vs σ Q (Itt K a) H := by
  have hlen := hs.length
  refine l_tup (xs := xs) (fun D i H' => H' D = some (.lst (((ds.take i).map f).map V.bl)) ∧ Same H H') (fun D hD => ⟨upd_same, Same.new hD⟩) ?_ ?_ ?_
  · rintro D hD i H' hi ⟨hD', sm⟩
    exact SqT.of (sm _ _ ha)
  · rintro D hD i y H' hi ⟨hD', sm⟩
    obtain ⟨hlt, _⟩ := List.getElem?_eq_some_iff.mp hi
    have hd : ds[i]? = some (ds[i]'(by omega)) := List.getElem?_eq_getElem _
    generalize ds[i]'(by omega) = dv at hd
    obtain ⟨y', hy', hiy⟩ := hs.get hd
    rw [hi] at hy'
    cases hy'
    refine g_name (g_wipe (hwp _) (g_yes (g_ifT ?_)))
    refine step i dv y H' _ hd hi sm (hiy.same sm) (fun H2 sm2 => ⟨_, sm2 _ _ hD', by
      refine szl ?_
      rw [List.length_map, List.length_map, List.length_take]
      omega, ?_, Same.mut (sm.trans sm2) hD⟩)
    rw [upd_same, map_take_succ hd, List.map_append]
    rfl
  · rintro D hD H' ⟨hD', sm⟩
    refine q D H' sm ?_
    rw [hlen, List.take_length] at hD'
    exact hD'
def sp_is_settings (K : PySem.W.Frag) : Sp := fun vs H Q _ => ∃ (x : V) (d : PyData), vs = [x] ∧ Im H x d ∧ Wd 1000 4 d ∧ ∀ H', Same H H' → Q (.bl (setD d)) H'
theorem Wd.items {n k : Nat} {ds : List PyData} (h : Wd n (k + 1) (.tuple ds)) : ∀ d ∈ ds, Wd n k d := h.2
theorem sc_is_settings : FnScope ["thing", "data", "fetch", "guess", "depth", "costs", "before", "visits", "part"] ["thing"] (defScope (topS 9)) := ⟨rfl, rfl, rfl, by decide +kernel, rfl, by decide +kernel, by decide +kernel⟩
theorem ok_is_settings (T : Txt fa fn K mg) : Dn P w K mg base CX0 4 "is_settings" ["thing"] (sp_is_settings K) := by
  refine mk_dn (d := dOf "is_settings" 9) T 7 7 rfl rfl rfl rfl rfl sc_is_settings (by walk_at "len") (fun _ _ _ _ _ _ us hl => match us, hl with | [_], _ => rfl) (fun cdv A outer s H vs Q E hr h => ⟨_, (pss_cons (ps_if (pt_not (pt_tru (K := K) rfl (pe_callD (K := K) rfl (ok_is_row_of T) (hr.mono (by decide)) rfl pass0 (pa_cons (pv 0) (pa_cons pe_int pa_nil))))) (pss_one (ps_ret pe_bl)) pss_nil)
      (pss_cons (ps_asg (pv 0) (pg_tup rfl (pgs_cons (pg_name (i := 1) sc_is_settings.nd rfl (.inl rfl)) (pgs_cons (pg_name (i := 2) sc_is_settings.nd rfl (.inl rfl)) (pgs_cons (pg_name (i := 3) sc_is_settings.nd rfl (.inl rfl)) (pgs_cons (pg_name (i := 4) sc_is_settings.nd rfl (.inl rfl)) (pgs_cons (pg_name (i := 5) sc_is_settings.nd rfl (.inl rfl)) (pgs_cons (pg_name (i := 6) sc_is_settings.nd rfl (.inl rfl)) (pgs_cons (pg_name (i := 7) sc_is_settings.nd rfl (.inl rfl)) pgs_nil)))))))))
      (pss_cons (ps_if (PW.pt (pw_or (pt_not (pt_tru (K := K) rfl (pe_callD (K := K) rfl (ok_is_cache T) (hr.mono (by decide)) rfl pass0 (pa_cons (pv 1) pa_nil)))) (pw_or (pt_not (pt_tru (K := K) rfl (pe_callD (K := K) rfl (ok_is_cache T) (hr.mono (by decide)) rfl pass0 (pa_cons (pv 2) pa_nil)))) (pw_or1 (pt_not (pt_tru (K := K) rfl (pe_callD (K := K) rfl (ok_is_predictor T) (hr.mono (by decide)) rfl pass0 (pa_cons (pv 3) pa_nil)))))))) (pss_one (ps_ret pe_bl)) pss_nil)
      (pss_cons (ps_if (PW.pt (pw_or (pt_not (pt_tru (K := K) rfl (pe_callD (K := K) rfl (ok_is_number T) (hr.mono (by decide)) rfl pass0 (pa_cons (pv 4) (pa_cons pe_int (pa_cons pe_int pa_nil)))))) (pw_or1 (pt_not (pt_tru (K := K) rfl (pe_callD (K := K) rfl (ok_is_row_of T) (hr.mono (by decide)) rfl pass0 (pa_cons (pv 5) (pa_cons pe_int pa_nil)))))))) (pss_one (ps_ret pe_bl)) pss_nil)
      (pss_cons (ps_if (PW.pt (pw_or (pt_not (pt_tru (K := K) rfl (pe_callD (K := K) rfl (ok_is_number T) (hr.mono (by decide)) rfl pass0 (pa_cons (pe_ixU (K := K) rfl (hu_of hr) (pv 5) pe_int) (pa_cons pe_int (pa_cons pe_int pa_nil)))))) (pw_or1 (pt_not (pt_tru (K := K) rfl (pe_callD (K := K) rfl (ok_is_number T) (hr.mono (by decide)) rfl pass0 (pa_cons (pe_ixU (K := K) rfl (hu_of hr) (pv 5) pe_int) (pa_cons pe_int (pa_cons pe_int pa_nil))))))))) (pss_one (ps_ret pe_bl)) pss_nil)
      (pss_cons (ps_if (PW.pt (pw_or (pt_not (pt_tru (K := K) rfl (pe_callB (c_isi (K := K) rfl) rfl (T.free 32 rfl) (by decide +kernel) (pa_cons (pv 6) (pa_cons (pe_bltn (v := .ty "tuple") rfl (T.free 37 rfl) (by decide +kernel) rfl) pa_nil))))) (pw_or1 (pt_not (pt_tru (K := K) rfl (pe_callD (K := K) rfl (ok_are_visits T) (hr.mono (by decide)) rfl pass0 (pa_cons (pv 7) pa_nil))))))) (pss_one (ps_ret pe_bl)) pss_nil)
      (pss_one (ps_ret (pe_callB (c_all (K := K) rfl rfl) rfl (T.free 29 rfl) (by decide +kernel) (pa_cons (pe_lc rfl sc_is_settings.nd (pi_seq (K := K) rfl (pv 6)) (blkOk_by (own := [("part", 8)]) (N := ["thing", "data", "fetch", "guess", "depth", "costs", "before", "visits", "part"]) (sc := defScope (topS 9)) (by decide +kernel)) (fun _ _ _ _ _ => (pg_name (i := 8) sc_is_settings.nd rfl (.inl rfl))) (fun _ _ _ _ _ => pts_nil) (fun _ _ _ _ _ => (pe_callD (K := K) rfl (ok_is_preparation T) (hr.mono (by decide)) rfl pass0 (pa_cons (pv 8) pa_nil)))) pa_nil)))))))))), ?_⟩)
  obtain ⟨x, d, rfl, him, wd, hQ⟩ := h
  walk_at "go"
  refine ⟨x, 7, d, rfl, him, ?_⟩
  walk_at "go"
  refine g_ifBn (fun c => ?_) (fun c => ?_)
  · walk_at "go"
    rw [← set_not c]
    exact hQ _ (Same.refl H)
  obtain ⟨d1, d2, d3, d4, d5, d6, d7, rfl⟩ := len7 c
  obtain ⟨t, x1, x2, x3, x4, x5, x6, x7, rfl, ht, i1, i2, i3, i4, i5, i6, i7⟩ := im7 him
  rw [set7] at hQ
  have w1 : Wd 1000 3 d1 := wd.2 _ (by simp)
  have w2 : Wd 1000 3 d2 := wd.2 _ (by simp)
  have w3 : Wd 1000 3 d3 := wd.2 _ (by simp)
  have w6 : Wd 1000 3 d6 := wd.2 _ (by simp)
  have w7 : Wd 1000 3 d7 := wd.2 _ (by simp)
  walk_at "go"
  refine ⟨x1, d1, rfl, i1, w1.lay.mono (by decide), fun H1 s1 => ?_⟩
  walk_at "go"
  refine g_ifBn (fun c1 => ?_) (fun c1 => ?_)
  · walk_at "go"
    refine q_bl ?_ (hQ _ s1)
    rw [c1]
    rfl
  walk_at "go"
  refine ⟨x2, d2, rfl, i2.same s1, w2.lay.mono (by decide), fun H2 s2 => ?_⟩
  walk_at "go"
  have sm2 := s1.trans s2
  refine g_ifBn (fun c2 => ?_) (fun c2 => ?_)
  · walk_at "go"
    refine q_bl ?_ (hQ _ sm2)
    rw [c1, c2]
    rfl
  walk_at "go"
  refine ⟨x3, d3, rfl, i3.same sm2, w3.lay.mono (by decide), fun H3 s3 => ?_⟩
  walk_at "go"
  have sm3 := sm2.trans s3
  refine g_ifBn (fun c3 => ?_) (fun c3 => ?_)
  · walk_at "go"
    refine q_bl ?_ (hQ _ sm3)
    rw [c1, c2, c3]
    rfl
  walk_at "go"
  refine ⟨x4, 0, 64, d4, rfl, i4.same sm3, ?_⟩
  walk_at "go"
  refine g_ifBn (fun c4 => ?_) (fun c4 => ?_)
  · walk_at "go"
    refine q_bl ?_ (hQ _ sm3)
    rw [c1, c2, c3, c4]
    rfl
  walk_at "go"
  refine ⟨x5, 2, d5, rfl, i5.same sm3, ?_⟩
  walk_at "go"
  refine g_ifBn (fun c5 => ?_) (fun c5 => ?_)
  · walk_at "go"
    refine q_bl ?_ (hQ _ sm3)
    rw [c1, c2, c3, c4, costs_not c5]
    rfl
  obtain ⟨e1, e2, rfl⟩ := len2 c5
  rw [costs2] at hQ
  walk_at "go"
  refine m_ix (i5.same sm3) (n := 0) rfl rfl (fun v1 hv1 => ?_)
  walk_at "go"
  refine ⟨v1, 0, 100, e1, rfl, hv1, ?_⟩
  walk_at "go"
  refine g_ifBn (fun c6 => ?_) (fun c6 => ?_)
  · walk_at "go"
    refine q_bl ?_ (hQ _ sm3)
    rw [c1, c2, c3, c4, c6]
    rfl
  walk_at "go"
  refine m_ix (i5.same sm3) (n := 1) rfl rfl (fun v2 hv2 => ?_)
  walk_at "go"
  refine ⟨v2, 1, 100, e2, rfl, hv2, ?_⟩
  walk_at "go"
  refine g_ifBn (fun c7 => ?_) (fun c7 => ?_)
  · walk_at "go"
    refine q_bl ?_ (hQ _ sm3)
    rw [c1, c2, c3, c4, c6, c7]
    rfl
  walk_at "go"
  refine m_isiU (i6.same sm3) ?_
  walk_at "go"
  refine g_ifBn (fun c8 => ?_) (fun c8 => ?_)
  · walk_at "go"
    refine q_bl ?_ (hQ _ sm3)
    rw [c1, c2, c3, c4, c6, c7, bef_not c8]
    rfl
  walk_at "go"
  refine ⟨x7, d7, rfl, i7.same sm3, w7.lay.mono (by decide), fun H4 s4 => ?_⟩
  walk_at "go"
  have sm4 := sm3.trans s4
  refine g_ifBn (fun c9 => ?_) (fun c9 => ?_)
  · walk_at "go"
    refine q_bl ?_ (hQ _ sm4)
    rw [c1, c2, c3, c4, c6, c7, c9, Bool.and_false]
    rfl
  obtain ⟨es, rfl⟩ := isT_inv c8
  walk_at "go"
  refine m_seq (i6.same sm4) (fun a xs e ha hs => ?_)
  refine l_ask (f := prepD) ha hs w6.1 (fun _ => rfl) (fun i dv y H5 Q' hd hy s5 hiy hq => ?_) (fun D H5 s5 hD => ?_)
  · walk_at "go"
    refine ⟨y, dv, rfl, hiy, (w6.2 _ (List.mem_of_getElem? hd)).lay.mono (by decide), fun H6 s6 => hq H6 s6⟩
  · refine g_all (SqL.of hD) ?_
    refine q_bl ?_ (hQ _ (sm4.trans s5))
    rw [c1, c2, c3, c4, c6, c7, c9, all_map_id]
    show (true && (true && (true && (true && (true && (es.all prepD && true)))))) = _
    rw [Bool.and_true]
    rfl


/-! ### the law's looks -/
def sp_law_whole (K : PySem.W.Frag) : Sp := fun vs H Q _ => ∃ (x : V) (lo hi : Int) (d : PyData), vs = [x, .int lo, .int hi] ∧ Im H x d ∧ Q (.bl (numD lo hi d)) H
theorem sc_law_whole : FnScope ["thing", "least", "most"] ["thing", "least", "most"] (defScope (topS 19)) := ⟨rfl, rfl, rfl, by decide +kernel, rfl, by decide +kernel, by decide +kernel⟩
theorem ok_law_whole (T : Txt fa fn K mg) : Dn P w K mg base CX0 1 "_law_whole" ["thing", "least", "most"] (sp_law_whole K) := by
  refine mk_dn (d := dOf "_law_whole" 19) T 16 16 rfl rfl rfl rfl rfl sc_law_whole (by walk_at "len") (fun _ _ _ _ _ _ us hl => match us, hl with | [_, _, _], _ => rfl) (fun cdv A outer s H vs Q E hr h => ⟨_, (pss_one (ps_ret (pe_and (pe_callB (c_isi (K := K) rfl) rfl (T.free 32 rfl) (by decide +kernel) (pa_cons (pv 0) (pa_cons (pe_bltn (v := .ty "int") rfl (T.free 31 rfl) (by decide +kernel) rfl) pa_nil))) (pe_and (pe_not (pe_callB (c_isi (K := K) rfl) rfl (T.free 32 rfl) (by decide +kernel) (pa_cons (pv 0) (pa_cons (pe_bltn (v := .ty "bool") rfl (T.free 30 rfl) (by decide +kernel) rfl) pa_nil)))) (pe_one (pe_chain o_le o_le (pv 1) (pv 0) (pv 2))))))), ?_⟩)
  obtain ⟨x, lo, hi, d, rfl, him, hQ⟩ := h
  cases him with
  | non => walk_at "go"; exact hQ
  | bl b => walk_at "go"; exact hQ
  | str z => walk_at "go"; exact hQ
  | tup h hs =>
    walk_at "go"
    refine m_isiT (.tup h hs) k_ti ?_
    walk_at "go"
    exact hQ
  | int i =>
    walk_at "go"
    refine g_if (fun c => ?_) (fun c => ?_)
    · walk_at "go"
      refine q_bl ?_ hQ
      show (decide (lo ≤ i) && decide (i ≤ hi)) = _
      rw [decide_eq_true c]
      rfl
    · refine q_bl ?_ hQ
      show (decide (lo ≤ i) && decide (i ≤ hi)) = _
      rw [decide_eq_false c]
      rfl
def sp_law_among (K : PySem.W.Frag) : Sp := fun vs H Q _ => ∃ (x : V) (p : Addr) (ks : List Str) (d : PyData), vs = [x, .ref p] ∧ H p = some (.lst (ks.map V.str)) ∧ Im H x d ∧ Q (.bl (strD ks d)) H
theorem sc_law_among : FnScope ["thing", "words"] ["thing", "words"] (defScope (topS 20)) := ⟨rfl, rfl, rfl, by decide +kernel, rfl, by decide +kernel, by decide +kernel⟩
theorem ok_law_among (T : Txt fa fn K mg) : Dn P w K mg base CX0 1 "_law_among" ["thing", "words"] (sp_law_among K) := by
  refine mk_dn (d := dOf "_law_among" 20) T 17 17 rfl rfl rfl rfl rfl sc_law_among (by walk_at "len") (fun _ _ _ _ _ _ us hl => match us, hl with | [_, _], _ => rfl) (fun cdv A outer s H vs Q E hr h => ⟨_, (pss_one (ps_ret (pe_and (pe_callB (c_isi (K := K) rfl) rfl (T.free 32 rfl) (by decide +kernel) (pa_cons (pv 0) (pa_cons (pe_bltn (v := .ty "str") rfl (T.free 36 rfl) (by decide +kernel) rfl) pa_nil))) (pe_one (pe_cmpR (op_inU (K := K) rfl (hu65 hr)) (pv 0) (pv 1) (by rfl)))))), ?_⟩)
  obtain ⟨x, p, ks, d, rfl, hp, him, hQ⟩ := h
  walk_at "go"
  refine m_isiS him ?_
  walk_at "go"
  refine g_ifB (fun c => ?_) (fun c => ?_)
  · obtain ⟨z, rfl⟩ := isS_inv c
    obtain rfl := him.str_inv
    walk_at "go"
    exact g_inTs (.inr hp) hQ
  · refine q_bl ?_ hQ
    cases d <;> first | rfl | cases c
def sp_law_long (K : PySem.W.Frag) : Sp := fun vs H Q _ => ∃ (x : V) (n : Int) (d : PyData), vs = [x, .int n] ∧ Im H x d ∧ Q (.bl (lenI n d)) H
theorem sc_law_long : FnScope ["thing", "many"] ["thing", "many"] (defScope (topS 21)) := ⟨rfl, rfl, rfl, by decide +kernel, rfl, by decide +kernel, by decide +kernel⟩
theorem ok_law_long (T : Txt fa fn K mg) : Dn P w K mg base CX0 1 "_law_long" ["thing", "many"] (sp_law_long K) := by
  refine mk_dn (d := dOf "_law_long" 21) T 18 18 rfl rfl rfl rfl rfl sc_law_long (by walk_at "len") (fun _ _ _ _ _ _ us hl => match us, hl with | [_, _], _ => rfl) (fun cdv A outer s H vs Q E hr h => ⟨_, (pss_one (ps_ret (pe_and (pe_callB (c_isi (K := K) rfl) rfl (T.free 32 rfl) (by decide +kernel) (pa_cons (pv 0) (pa_cons (pe_bltn (v := .ty "tuple") rfl (T.free 37 rfl) (by decide +kernel) rfl) pa_nil))) (pe_one (pe_cmpR (op_eqU (K := K) rfl hr.units) (pe_callB (c_len (K := K) rfl) rfl (T.free 33 rfl) (by decide +kernel) (pa_cons (pv 0) pa_nil)) (pv 1) (nomark _)))))), ?_⟩)
  obtain ⟨x, n, d, rfl, him, hQ⟩ := h
  cases him with
  | non => walk_at "go"; exact hQ
  | bl b => walk_at "go"; exact hQ
  | str z => walk_at "go"; exact hQ
  | int i => walk_at "go"; exact hQ
  | tup h hs =>
    walk_at "go"
    refine m_isiT (.tup h hs) k_tt ?_
    walk_at "go"
    refine m_len (.tup h hs) ?_
    walk_at "go"
    exact hQ
def sp_law_power (K : PySem.W.Frag) : Sp := fun vs H Q _ => ∃ (x : V) (hi : Int) (d : PyData), vs = [x, .int hi] ∧ Im H x d ∧ hi ≤ 64 ∧ ∀ H', Same H H' → Q (.bl (powD hi d)) H'
theorem sc_law_power : FnScope ["thing", "most"] ["thing", "most"] (defScope (topS 22)) := ⟨rfl, rfl, rfl, by decide +kernel, rfl, by decide +kernel, by decide +kernel⟩
theorem ok_law_power (T : Txt fa fn K mg) : Dn P w K mg base CX0 2 "_law_power" ["thing", "most"] (sp_law_power K) := by
  refine mk_dn (d := dOf "_law_power" 22) T 19 19 rfl rfl rfl rfl rfl sc_law_power (by walk_at "len") (fun _ _ _ _ _ _ us hl => match us, hl with | [_, _], _ => rfl) (fun cdv A outer s H vs Q E hr h => ⟨_, (pss_one (ps_ret (pe_and (pe_callD (K := K) rfl (ok_law_whole T) (hr.mono (by decide)) rfl pass0 (pa_cons (pv 0) (pa_cons pe_int (pa_cons (pv 1) pa_nil)))) (pe_one (pe_cmpR (op_inU (K := K) rfl (hu65 hr)) (pv 0) (pe_lst (pa_cons pe_int (pa_cons pe_int (pa_cons pe_int (pa_cons pe_int (pa_cons pe_int (pa_cons pe_int (pa_cons pe_int pa_nil)))))))) (by rfl)))))), ?_⟩)
  obtain ⟨x, hi, d, rfl, him, hhi, hQ⟩ := h
  walk_at "go"
  refine ⟨x, 1, hi, d, rfl, him, ?_⟩
  walk_at "go"
  refine g_ifB (fun c => ?_) (fun c => ?_)
  · obtain ⟨i, rfl, h1, h2⟩ := num_inv c
    obtain rfl := him.int_inv
    walk_at "go"
    refine ⟨by decide, fun u hu => ?_⟩
    refine .inl ⟨u, _, rfl, .inl (SqL.of upd_same), rfl, rfl, ?_⟩
    refine q_bl ?_ (hQ _ (Same.new hu))
    rw [pow_yes h1 h2, pow_in h1 (by omega)]
    rfl
  · rw [← pow_not c]
    exact hQ _ (Same.refl H)
/-- a written list of texts, and an item asked -/
theorem use_am {H : Hp} {Q : VK} {E : XK} {x : V} {d : PyData} {ks : List Str} {p : Addr} (hp : H p = some (.lst (ks.map V.str))) (h : Im H x d) (q : Q (.bl (strD ks d)) H) : sp_law_among K ([x, .ref p] ++ []) H Q E := ⟨x, p, ks, d, rfl, hp, h, q⟩
def sp_law_good_cache (K : PySem.W.Frag) : Sp := fun vs H Q _ => ∃ (x : V) (d : PyData), vs = [x] ∧ Im H x d ∧ ∀ H', Same H H' → Q (.bl (cacheD d)) H'
theorem cache4 {d1 d2 d3 d4 : PyData} : cacheD (.tuple [d1, d2, d3, d4]) = (strD POL d4 && (powD 64 d1 && (powD 8 d2 && powD 16 d3))) := rfl
theorem sc_law_good_cache : FnScope ["thing"] ["thing"] (defScope (topS 23)) := ⟨rfl, rfl, rfl, by decide +kernel, rfl, by decide +kernel, by decide +kernel⟩
theorem ok_law_good_cache (T : Txt fa fn K mg) : Dn P w K mg base CX0 3 "_law_good_cache" ["thing"] (sp_law_good_cache K) := by
  refine mk_dn (d := dOf "_law_good_cache" 23) T 20 20 rfl rfl rfl rfl rfl sc_law_good_cache (by walk_at "len") (fun _ _ _ _ _ _ us hl => match us, hl with | [_], _ => rfl) (fun cdv A outer s H vs Q E hr h => ⟨_, (pss_cons (ps_if (PW.pt (pw_or (pt_not (pt_tru (K := K) rfl (pe_callD (K := K) rfl (ok_law_long T) (hr.mono (by decide)) rfl pass0 (pa_cons (pv 0) (pa_cons pe_int pa_nil))))) (pw_or1 (pt_not (pt_tru (K := K) rfl (pe_callD (K := K) rfl (ok_law_among T) (hr.mono (by decide)) rfl pass0 (pa_cons (pe_ixU (K := K) rfl (hu_of hr) (pv 0) pe_int) (pa_cons (pe_lst (pa_cons pe_str (pa_cons pe_str (pa_cons pe_str pa_nil)))) pa_nil)))))))) (pss_one (ps_ret pe_bl)) pss_nil)
      (pss_one (ps_ret (pe_and (pe_callD (K := K) rfl (ok_law_power T) (hr.mono (by decide)) rfl pass0 (pa_cons (pe_ixU (K := K) rfl (hu_of hr) (pv 0) pe_int) (pa_cons pe_int pa_nil))) (pe_and (pe_callD (K := K) rfl (ok_law_power T) (hr.mono (by decide)) rfl pass0 (pa_cons (pe_ixU (K := K) rfl (hu_of hr) (pv 0) pe_int) (pa_cons pe_int pa_nil))) (pe_one (pe_callD (K := K) rfl (ok_law_power T) (hr.mono (by decide)) rfl pass0 (pa_cons (pe_ixU (K := K) rfl (hu_of hr) (pv 0) pe_int) (pa_cons pe_int pa_nil))))))))), ?_⟩)
  obtain ⟨x, d, rfl, him, hQ⟩ := h
  walk_at "go"
  refine ⟨x, 4, d, rfl, him, ?_⟩
  walk_at "go"
  refine g_ifBn (fun c => ?_) (fun c => ?_)
  · walk_at "go"
    rw [← cache_not c]
    exact hQ _ (Same.refl H)
  obtain ⟨d1, d2, d3, d4, rfl⟩ := len4 c
  rw [cache4] at hQ
  walk_at "go"
  refine m_ix him (n := 3) rfl rfl (fun v4 hv4 => ?_)
  walk_at "go"
  refine ⟨by decide, fun u hu => ?_⟩
  have sm := Same.new (o := .lst [.str "lru", .str "fifo", .str "plru"]) hu
  walk_at "go"
  refine use_am (ks := POL) upd_same (hv4.same sm) ?_
  walk_at "go"
  have him1 := him.same sm
  refine g_ifBn (fun c4 => ?_) (fun c4 => ?_)
  · walk_at "go"
    refine q_bl ?_ (hQ _ sm)
    rw [c4]
    rfl
  walk_at "go"
  refine m_ix him1 (n := 0) rfl rfl (fun v1 hv1 => ?_)
  walk_at "go"
  refine ⟨v1, 64, d1, rfl, hv1, by decide, fun H1 s1 => ?_⟩
  walk_at "go"
  have sm1 := sm.trans s1
  refine g_ifB (fun c1 => ?_) (fun c1 => ?_)
  · walk_at "go"
    refine m_ix (him1.same s1) (n := 1) rfl rfl (fun v2 hv2 => ?_)
    walk_at "go"
    refine ⟨v2, 8, d2, rfl, hv2, by decide, fun H2 s2 => ?_⟩
    walk_at "go"
    have sm2 := sm1.trans s2
    refine g_ifB (fun c2 => ?_) (fun c2 => ?_)
    · walk_at "go"
      refine m_ix ((him1.same s1).same s2) (n := 2) rfl rfl (fun v3 hv3 => ?_)
      walk_at "go"
      refine ⟨v3, 16, d3, rfl, hv3, by decide, fun H3 s3 => ?_⟩
      refine q_bl ?_ (hQ _ (sm2.trans s3))
      rw [c4, c1, c2]
      rfl
    · refine q_bl ?_ (hQ _ sm2)
      rw [c4, c1, c2]
      rfl
  · refine q_bl ?_ (hQ _ sm1)
    rw [c4, c1]
    rfl
def sp_law_good_predictor (K : PySem.W.Frag) : Sp := fun vs H Q _ => ∃ (x : V) (d : PyData), vs = [x] ∧ Im H x d ∧ ∀ H', Same H H' → Q (.bl (predD d)) H'
theorem pred2 {d1 d2 : PyData} : predD (.tuple [d1, d2]) = if strD ["two"] d1 = true then powD 64 d2 else (strD ["history"] d1 && numD 1 6 d2) := rfl
theorem sc_law_good_predictor : FnScope ["thing"] ["thing"] (defScope (topS 24)) := ⟨rfl, rfl, rfl, by decide +kernel, rfl, by decide +kernel, by decide +kernel⟩
theorem ok_law_good_predictor (T : Txt fa fn K mg) : Dn P w K mg base CX0 3 "_law_good_predictor" ["thing"] (sp_law_good_predictor K) := by
  refine mk_dn (d := dOf "_law_good_predictor" 24) T 21 21 rfl rfl rfl rfl rfl sc_law_good_predictor (by walk_at "len") (fun _ _ _ _ _ _ us hl => match us, hl with | [_], _ => rfl) (fun cdv A outer s H vs Q E hr h => ⟨_, (pss_cons (ps_if (pt_tru (K := K) rfl (pe_callD (K := K) rfl (ok_law_long T) (hr.mono (by decide)) rfl pass0 (pa_cons (pv 0) (pa_cons pe_int pa_nil)))) (pss_one (ps_ret (pe_callD (K := K) rfl (ok_law_among T) (hr.mono (by decide)) rfl pass0 (pa_cons (pe_ixU (K := K) rfl (hu_of hr) (pv 0) pe_int) (pa_cons (pe_lst (pa_cons pe_str pa_nil)) pa_nil))))) pss_nil)
      (pss_cons (ps_if (pt_not (pt_tru (K := K) rfl (pe_callD (K := K) rfl (ok_law_long T) (hr.mono (by decide)) rfl pass0 (pa_cons (pv 0) (pa_cons pe_int pa_nil))))) (pss_one (ps_ret pe_bl)) pss_nil)
      (pss_cons (ps_if (pt_tru (K := K) rfl (pe_callD (K := K) rfl (ok_law_among T) (hr.mono (by decide)) rfl pass0 (pa_cons (pe_ixU (K := K) rfl (hu_of hr) (pv 0) pe_int) (pa_cons (pe_lst (pa_cons pe_str pa_nil)) pa_nil)))) (pss_one (ps_ret (pe_callD (K := K) rfl (ok_law_power T) (hr.mono (by decide)) rfl pass0 (pa_cons (pe_ixU (K := K) rfl (hu_of hr) (pv 0) pe_int) (pa_cons pe_int pa_nil))))) pss_nil)
      (pss_one (ps_ret (pe_and (pe_callD (K := K) rfl (ok_law_among T) (hr.mono (by decide)) rfl pass0 (pa_cons (pe_ixU (K := K) rfl (hu_of hr) (pv 0) pe_int) (pa_cons (pe_lst (pa_cons pe_str pa_nil)) pa_nil))) (pe_one (pe_callD (K := K) rfl (ok_law_whole T) (hr.mono (by decide)) rfl pass0 (pa_cons (pe_ixU (K := K) rfl (hu_of hr) (pv 0) pe_int) (pa_cons pe_int (pa_cons pe_int pa_nil))))))))))), ?_⟩)
  obtain ⟨x, d, rfl, him, hQ⟩ := h
  walk_at "go"
  refine ⟨x, 1, d, rfl, him, ?_⟩
  walk_at "go"
  refine g_ifB (fun c => ?_) (fun c => ?_)
  · obtain ⟨d1, rfl⟩ := len1 c
    walk_at "go"
    refine m_ix him (n := 0) rfl rfl (fun v1 hv1 => ?_)
    walk_at "go"
    refine ⟨by decide, fun u hu => ?_⟩
    have sm := Same.new (o := .lst [.str "taken"]) hu
    walk_at "go"
    exact use_am (ks := ["taken"]) upd_same (hv1.same sm) (hQ _ sm)
  walk_at "go"
  refine ⟨x, 2, d, rfl, him, ?_⟩
  walk_at "go"
  refine g_ifBn (fun c2 => ?_) (fun c2 => ?_)
  · walk_at "go"
    refine q_bl ?_ (hQ _ (Same.refl H))
    exact pred_not c c2
  obtain ⟨d1, d2, rfl⟩ := len2 c2
  rw [pred2] at hQ
  walk_at "go"
  refine m_ix him (n := 0) rfl rfl (fun v1 hv1 => ?_)
  walk_at "go"
  refine ⟨by decide, fun u hu => ?_⟩
  have sm := Same.new (o := .lst [.str "two"]) hu
  walk_at "go"
  refine use_am (ks := ["two"]) upd_same (hv1.same sm) ?_
  walk_at "go"
  have him1 := him.same sm
  refine g_ifB (fun c1 => ?_) (fun c1 => ?_)
  · walk_at "go"
    refine m_ix him1 (n := 1) rfl rfl (fun v2 hv2 => ?_)
    walk_at "go"
    refine ⟨v2, 64, d2, rfl, hv2, by decide, fun H1 s1 => ?_⟩
    refine q_bl ?_ (hQ _ (sm.trans s1))
    rw [if_pos c1]
  · rw [if_neg (by rw [c1]; exact Bool.false_ne_true)] at hQ
    walk_at "go"
    refine m_ix him1 (n := 0) rfl rfl (fun v1 hv1 => ?_)
    walk_at "go"
    refine ⟨by decide, fun u2 hu2 => ?_⟩
    have s2 := Same.new (o := .lst [.str "history"]) hu2
    walk_at "go"
    refine use_am (ks := ["history"]) upd_same (hv1.same s2) ?_
    walk_at "go"
    have sm2 := sm.trans s2
    refine g_ifB (fun c3 => ?_) (fun c3 => ?_)
    · walk_at "go"
      refine m_ix (him1.same s2) (n := 1) rfl rfl (fun v2 hv2 => ?_)
      walk_at "go"
      refine ⟨v2, 1, 6, d2, rfl, hv2, ?_⟩
      refine q_bl ?_ (hQ _ sm2)
      rw [c3]
      rfl
    · refine q_bl ?_ (hQ _ sm2)
      rw [c3]
      rfl
def sp_law_good_part (K : PySem.W.Frag) : Sp := fun vs H Q _ => ∃ (x : V) (d : PyData), vs = [x] ∧ Im H x d ∧ ∀ H', Same H H' → Q (.bl (prepD d)) H'
theorem prep2 {d1 d2 : PyData} : prepD (.tuple [d1, d2]) = (strD ["data", "fetch"] d1 && numD 0 1048576 d2) := rfl
theorem prep3 {d1 d2 d3 : PyData} : prepD (.tuple [d1, d2, d3]) = (strD ["branch"] d1 && (numD 0 1048576 d2 && isB d3)) := rfl
theorem sc_law_good_part : FnScope ["thing"] ["thing"] (defScope (topS 25)) := ⟨rfl, rfl, rfl, by decide +kernel, rfl, by decide +kernel, by decide +kernel⟩
theorem ok_law_good_part (T : Txt fa fn K mg) : Dn P w K mg base CX0 2 "_law_good_part" ["thing"] (sp_law_good_part K) := by
  refine mk_dn (d := dOf "_law_good_part" 25) T 22 22 rfl rfl rfl rfl rfl sc_law_good_part (by walk_at "len") (fun _ _ _ _ _ _ us hl => match us, hl with | [_], _ => rfl) (fun cdv A outer s H vs Q E hr h => ⟨_, (pss_cons (ps_if (pt_tru (K := K) rfl (pe_callD (K := K) rfl (ok_law_long T) (hr.mono (by decide)) rfl pass0 (pa_cons (pv 0) (pa_cons pe_int pa_nil)))) (pss_one (ps_ret (pe_and (pe_callD (K := K) rfl (ok_law_among T) (hr.mono (by decide)) rfl pass0 (pa_cons (pe_ixU (K := K) rfl (hu_of hr) (pv 0) pe_int) (pa_cons (pe_lst (pa_cons pe_str (pa_cons pe_str pa_nil))) pa_nil))) (pe_one (pe_callD (K := K) rfl (ok_law_whole T) (hr.mono (by decide)) rfl pass0 (pa_cons (pe_ixU (K := K) rfl (hu_of hr) (pv 0) pe_int) (pa_cons pe_int (pa_cons pe_int pa_nil)))))))) pss_nil)
      (pss_cons (ps_if (PW.pt (pw_or (pt_not (pt_tru (K := K) rfl (pe_callD (K := K) rfl (ok_law_long T) (hr.mono (by decide)) rfl pass0 (pa_cons (pv 0) (pa_cons pe_int pa_nil))))) (pw_or1 (pt_not (pt_tru (K := K) rfl (pe_callD (K := K) rfl (ok_law_among T) (hr.mono (by decide)) rfl pass0 (pa_cons (pe_ixU (K := K) rfl (hu_of hr) (pv 0) pe_int) (pa_cons (pe_lst (pa_cons pe_str pa_nil)) pa_nil)))))))) (pss_one (ps_ret pe_bl)) pss_nil)
      (pss_one (ps_ret (pe_and (pe_callD (K := K) rfl (ok_law_whole T) (hr.mono (by decide)) rfl pass0 (pa_cons (pe_ixU (K := K) rfl (hu_of hr) (pv 0) pe_int) (pa_cons pe_int (pa_cons pe_int pa_nil)))) (pe_one (pe_callB (c_isi (K := K) rfl) rfl (T.free 32 rfl) (by decide +kernel) (pa_cons (pe_ixU (K := K) rfl (hu_of hr) (pv 0) pe_int) (pa_cons (pe_bltn (v := .ty "bool") rfl (T.free 30 rfl) (by decide +kernel) rfl) pa_nil))))))))), ?_⟩)
  obtain ⟨x, d, rfl, him, hQ⟩ := h
  walk_at "go"
  refine ⟨x, 2, d, rfl, him, ?_⟩
  walk_at "go"
  refine g_ifB (fun c => ?_) (fun c => ?_)
  · obtain ⟨d1, d2, rfl⟩ := len2 c
    rw [prep2] at hQ
    walk_at "go"
    refine m_ix him (n := 0) rfl rfl (fun v1 hv1 => ?_)
    walk_at "go"
    refine ⟨by decide, fun u hu => ?_⟩
    have sm := Same.new (o := .lst [.str "data", .str "fetch"]) hu
    walk_at "go"
    refine use_am (ks := ["data", "fetch"]) upd_same (hv1.same sm) ?_
    walk_at "go"
    refine g_ifB (fun c1 => ?_) (fun c1 => ?_)
    · walk_at "go"
      refine m_ix (him.same sm) (n := 1) rfl rfl (fun v2 hv2 => ?_)
      walk_at "go"
      refine ⟨v2, 0, 1048576, d2, rfl, hv2, ?_⟩
      refine q_bl ?_ (hQ _ sm)
      rw [c1]
      rfl
    · refine q_bl ?_ (hQ _ sm)
      rw [c1]
      rfl
  walk_at "go"
  refine ⟨x, 3, d, rfl, him, ?_⟩
  walk_at "go"
  refine g_ifBn (fun c3 => ?_) (fun c3 => ?_)
  · walk_at "go"
    refine q_bl ?_ (hQ _ (Same.refl H))
    exact prep_not c c3
  obtain ⟨d1, d2, d3, rfl⟩ := len3 c3
  rw [prep3] at hQ
  walk_at "go"
  refine m_ix him (n := 0) rfl rfl (fun v1 hv1 => ?_)
  walk_at "go"
  refine ⟨by decide, fun u hu => ?_⟩
  have sm := Same.new (o := .lst [.str "branch"]) hu
  walk_at "go"
  refine use_am (ks := ["branch"]) upd_same (hv1.same sm) ?_
  walk_at "go"
  have him1 := him.same sm
  refine g_ifBn (fun c1 => ?_) (fun c1 => ?_)
  · walk_at "go"
    refine q_bl ?_ (hQ _ sm)
    rw [c1]
    rfl
  walk_at "go"
  refine m_ix him1 (n := 1) rfl rfl (fun v2 hv2 => ?_)
  walk_at "go"
  refine ⟨v2, 0, 1048576, d2, rfl, hv2, ?_⟩
  walk_at "go"
  refine g_ifB (fun c2 => ?_) (fun c2 => ?_)
  · walk_at "go"
    refine m_ix him1 (n := 2) rfl rfl (fun v3 hv3 => ?_)
    walk_at "go"
    refine m_isiB hv3 ?_
    refine q_bl ?_ (hQ _ sm)
    rw [c1, c2]
    rfl
  · refine q_bl ?_ (hQ _ sm)
    rw [c1, c2]
    rfl
/-! visits, once more -/
def vokD : PyData → Bool
  | .tuple [n, w, a] => strD ["touch", "drop"] w && (numD 0 1048576 n && numD 0 1048576 a)
  | _ => false
def kD : PyData → Int
  | .tuple (n :: _) => nD n
  | _ => 0
theorem vok_not {d : PyData} (h : lenI 3 d = false) : vokD d = false := by
  unfold vokD
  split
  · cases h
  · rfl
theorem vok3 {d1 d2 d3 : PyData} : vokD (.tuple [d1, d2, d3]) = (strD ["touch", "drop"] d2 && (numD 0 1048576 d1 && numD 0 1048576 d3)) := rfl
theorem vok_inv {d : PyData} (h : vokD d = true) : ∃ (n : Int) (w : PyData) (a : PyData), d = .tuple [.int n, w, a] ∧ strD ["touch", "drop"] w = true ∧ numD 0 1048576 a = true ∧ 0 ≤ n ∧ n ≤ 1048576 := by
  have c : lenI 3 d = true := by
    cases c : lenI 3 d with
    | true => rfl
    | false => rw [vok_not c] at h; cases h
  obtain ⟨d1, d2, d3, rfl⟩ := len3 c
  rw [vok3, Bool.and_eq_true, Bool.and_eq_true] at h
  obtain ⟨n, rfl, h1, h2⟩ := num_inv h.2.1
  exact ⟨n, d2, d3, rfl, h.1, h.2.2, h1, h2⟩
theorem vis_fwd : ∀ (ds : List PyData) (b : Int), 0 ≤ b → visD b ds = true → (∀ v ∈ ds, vokD v = true) ∧ (∀ k, k + 1 < ds.length → kD (ds.getD k .none) ≤ kD (ds.getD (k + 1) .none)) ∧ ∀ v r, ds = v :: r → b ≤ kD v
  | [], b, hb, h => ⟨fun v hv => (by cases hv), fun k hk => (by simp at hk), fun v r e => (by cases e)⟩
  | d :: vs, b, hb, h => by
    have c : lenI 3 d = true := by
      cases c : lenI 3 d with
      | true => rfl
      | false => rw [vis_not c] at h; cases h
    obtain ⟨d1, d2, d3, rfl⟩ := len3 c
    rw [vis_cons, Bool.and_eq_true, Bool.and_eq_true, Bool.and_eq_true] at h
    obtain ⟨h1, h2, h3, h4⟩ := h
    obtain ⟨n, rfl, h5, h6⟩ := num_inv h3
    obtain ⟨i1, i2, i3⟩ := vis_fwd vs n (by omega) h4
    refine ⟨?_, ?_, ?_⟩
    · intro v hv
      rcases List.mem_cons.mp hv with rfl | hv
      · rw [vok3, h1, h2, num_of (by omega) h6]
        rfl
      · exact i1 v hv
    · intro k hk
      cases k with
      | zero =>
        cases vs with
        | nil => simp at hk
        | cons v r => exact i3 v r rfl
      | succ k => exact i2 k (by simp only [List.length_cons] at hk; omega)
    · rintro v r e
      cases e
      exact h5
theorem vis_bwd : ∀ (ds : List PyData) (b : Int), (∀ v ∈ ds, vokD v = true) → (∀ k, k + 1 < ds.length → kD (ds.getD k .none) ≤ kD (ds.getD (k + 1) .none)) → (∀ v r, ds = v :: r → b ≤ kD v) → visD b ds = true
  | [], b, _, _, _ => rfl
  | d :: vs, b, h1, h2, h3 => by
    obtain ⟨n, w, a, rfl, e1, e2, e3, e4⟩ := vok_inv (h1 d List.mem_cons_self)
    have ih := vis_bwd vs n (fun v hv => h1 v (List.mem_cons_of_mem _ hv)) (fun k hk => h2 (k + 1) (by simp only [List.length_cons]; omega)) (fun v r e => by
      subst e
      exact h2 0 (by simp only [List.length_cons]; omega))
    have h3' : b ≤ n := h3 _ _ rfl
    rw [vis_cons, e1, e2, num_of h3' e4]
    exact ih
theorem vis_pairs {ds : List PyData} (h : ∀ v ∈ ds, vokD v = true) : visD 0 ds = ((List.range (ds.length - 1)).map fun k => decide (kD (ds.getD k .none) ≤ kD (ds.getD (k + 1) .none))).all id := by
  rw [Bool.eq_iff_iff, List.all_eq_true]
  constructor
  · intro hv x hx
    obtain ⟨k, hk, rfl⟩ := List.mem_map.mp hx
    exact decide_eq_true ((vis_fwd ds 0 (by decide) hv).2.1 k (by have := List.mem_range.mp hk; omega))
  · intro hv
    refine vis_bwd ds 0 h (fun k hk => ?_) (fun v r e => ?_)
    · exact of_decide_eq_true (hv _ (List.mem_map.mpr ⟨k, List.mem_range.mpr (by omega), rfl⟩))
    · subst e
      obtain ⟨n, w, a, rfl, _, _, e3, _⟩ := vok_inv (h v List.mem_cons_self)
      exact e3
def sp_law_good_visits (K : PySem.W.Frag) : Sp := fun vs H Q _ => ∃ (x : V) (d : PyData), vs = [x] ∧ Im H x d ∧ Wd 1000 3 d ∧ ∀ H', Same H H' → Q (.bl (visitsD d)) H'
theorem sc_law_good_visits : FnScope ["thing", "visit", "k"] ["thing"] (defScope (topS 26)) := ⟨rfl, rfl, rfl, by decide +kernel, rfl, by decide +kernel, by decide +kernel⟩
theorem ok_law_good_visits (T : Txt fa fn K mg) : Dn P w K mg base CX0 2 "_law_good_visits" ["thing"] (sp_law_good_visits K) := by
  refine mk_dn (d := dOf "_law_good_visits" 26) T 23 23 rfl rfl rfl rfl rfl sc_law_good_visits (by walk_at "len") (fun _ _ _ _ _ _ us hl => match us, hl with | [_], _ => rfl) (fun cdv A outer s H vs Q E hr h => ⟨_, (pss_cons (ps_if (pt_not (pt_tru (K := K) rfl (pe_callB (c_isi (K := K) rfl) rfl (T.free 32 rfl) (by decide +kernel) (pa_cons (pv 0) (pa_cons (pe_bltn (v := .ty "tuple") rfl (T.free 37 rfl) (by decide +kernel) rfl) pa_nil))))) (pss_one (ps_ret pe_bl)) pss_nil)
      (pss_cons (ps_for PassesOwn.never rfl (pi_seq (K := K) rfl (pv 0)) (pg_name (i := 1) sc_law_good_visits.nd rfl (.inl rfl)) (pss_cons (ps_if (PW.pt (pw_or (pt_not (pt_tru (K := K) rfl (pe_callD (K := K) rfl (ok_law_long T) (hr.mono (by decide)) rfl pass0 (pa_cons (pv 1) (pa_cons pe_int pa_nil))))) (pw_or1 (pt_not (pt_tru (K := K) rfl (pe_callD (K := K) rfl (ok_law_among T) (hr.mono (by decide)) rfl pass0 (pa_cons (pe_ixU (K := K) rfl (hu_of hr) (pv 1) pe_int) (pa_cons (pe_lst (pa_cons pe_str (pa_cons pe_str pa_nil))) pa_nil)))))))) (pss_one (ps_ret pe_bl)) pss_nil)
      (pss_one (ps_if (PW.pt (pw_or (pt_not (pt_tru (K := K) rfl (pe_callD (K := K) rfl (ok_law_whole T) (hr.mono (by decide)) rfl pass0 (pa_cons (pe_ixU (K := K) rfl (hu_of hr) (pv 1) pe_int) (pa_cons pe_int (pa_cons pe_int pa_nil)))))) (pw_or1 (pt_not (pt_tru (K := K) rfl (pe_callD (K := K) rfl (ok_law_whole T) (hr.mono (by decide)) rfl pass0 (pa_cons (pe_ixU (K := K) rfl (hu_of hr) (pv 1) pe_int) (pa_cons pe_int (pa_cons pe_int pa_nil))))))))) (pss_one (ps_ret pe_bl)) pss_nil))))
      (pss_one (ps_ret (pe_callB (c_all (K := K) rfl rfl) rfl (T.free 29 rfl) (by decide +kernel) (pa_cons (pe_lc rfl sc_law_good_visits.nd (pi_r1 rfl (T.free 35 rfl) (pa_cons (pe_op op_sub (pe_callB (c_len (K := K) rfl) rfl (T.free 33 rfl) (by decide +kernel) (pa_cons (pv 0) pa_nil)) pe_int) pa_nil)) (blkOk_by (own := [("k", 2)]) (N := ["thing", "visit", "k"]) (sc := defScope (topS 26)) (by decide +kernel)) (fun _ _ _ _ _ => (pg_name (i := 2) sc_law_good_visits.nd rfl (.inl rfl))) (fun _ _ _ _ _ => pts_nil) (fun _ _ _ _ _ => (pe_cmpR o_le (pe_ixU (K := K) rfl (hu_of hr) (pe_ixU (K := K) rfl (hu_of hr) (pv 0) (pv 2)) pe_int) (pe_ixU (K := K) rfl (hu_of hr) (pe_ixU (K := K) rfl (hu_of hr) (pv 0) (pe_op (op_addU (K := K) rfl) (pv 2) pe_int)) pe_int) (nomark _)))) pa_nil)))))), ?_⟩)
  obtain ⟨x, d, rfl, him, wd, hQ⟩ := h
  walk_at "go"
  refine m_isiU him ?_
  walk_at "go"
  refine g_ifBn (fun c => ?_) (fun c => ?_)
  · walk_at "go"
    rw [← vis_notT c]
    exact hQ _ (Same.refl H)
  obtain ⟨ds, rfl⟩ := isT_inv c
  have hQ : ∀ H', Same H H' → Q (.bl (visD 0 ds)) H' := hQ
  have hlen : ds.length ≤ 1000 := wd.1
  have bad : ∀ v ∈ ds, vokD v = false → false = visD 0 ds := fun v hv hf => by
    cases hb : visD 0 ds with
    | false => rfl
    | true =>
      have := (vis_fwd ds 0 (by decide) hb).1 v hv
      rw [hf] at this
      cases this
  walk_at "go"
  refine m_seq him (fun a xs e ha hs => ?_)
  subst e
  have hl := hs.length
  refine f_tup (xs := xs) (fun i σ H' => ∃ (v k : Option V), σ = [some (.ref a), v, k] ∧ Same H H' ∧ ∀ v ∈ ds.take i, vokD v = true) ⟨_, _, rfl, Same.refl H, by simp⟩ ?_ ?_ ?_
  · rintro i σ H' hi ⟨v, k, rfl, sm, e⟩
    exact SqT.of (sm _ _ ha)
  · rintro i y σ H' hi ⟨v, k, rfl, sm, e⟩
    obtain ⟨hlt, hy⟩ := List.getElem?_eq_some_iff.mp hi
    have hd : ds[i]? = some (ds[i]'(by omega)) := List.getElem?_eq_getElem _
    generalize ds[i]'(by omega) = dv at hd
    obtain ⟨y', hy', hiy⟩ := hs.get hd
    rw [hi] at hy'
    cases hy'
    have hiy1 := hiy.same sm
    have hm := List.mem_of_getElem? hd
    walk_at "go"
    refine ⟨y, 3, dv, rfl, hiy1, ?_⟩
    walk_at "go"
    refine g_ifBn (fun c3 => ?_) (fun c3 => ?_)
    · walk_at "go"
      rw [bad dv hm (vok_not c3)]
      exact hQ _ sm
    obtain ⟨d1, d2, d3, rfl⟩ := len3 c3
    walk_at "go"
    refine m_ix hiy1 (n := 1) rfl rfl (fun v1 hv1 => ?_)
    walk_at "go"
    refine ⟨by decide, fun u hu => ?_⟩
    have s1 := Same.new (o := .lst [.str "touch", .str "drop"]) hu
    walk_at "go"
    refine use_am (ks := ["touch", "drop"]) upd_same (hv1.same s1) ?_
    walk_at "go"
    have sm1 := sm.trans s1
    have hiy2 := hiy1.same s1
    refine g_ifBn (fun c4 => ?_) (fun c4 => ?_)
    · walk_at "go"
      rw [bad _ hm (by rw [vok3, c4]; rfl)]
      exact hQ _ sm1
    walk_at "go"
    refine m_ix hiy2 (n := 0) rfl rfl (fun v2 hv2 => ?_)
    walk_at "go"
    refine ⟨v2, 0, 1048576, d1, rfl, hv2, ?_⟩
    walk_at "go"
    refine g_ifBn (fun c5 => ?_) (fun c5 => ?_)
    · walk_at "go"
      rw [bad _ hm (by rw [vok3, c4, c5]; rfl)]
      exact hQ _ sm1
    walk_at "go"
    refine m_ix hiy2 (n := 2) rfl rfl (fun v3 hv3 => ?_)
    walk_at "go"
    refine ⟨v3, 0, 1048576, d3, rfl, hv3, ?_⟩
    walk_at "go"
    refine g_ifBn (fun c6 => ?_) (fun c6 => ?_)
    · walk_at "go"
      rw [bad _ hm (by rw [vok3, c4, c5, c6]; rfl)]
      exact hQ _ sm1
    walk_at "go"
    refine ⟨_, _, rfl, sm1, fun v hv => ?_⟩
    rw [List.take_add_one, hd] at hv
    rcases List.mem_append.mp hv with hv | hv
    · exact e v hv
    · rw [Option.toList_some, List.mem_singleton] at hv
      subst hv
      rw [vok3, c4, c5, c6]
      rfl
  · rintro σ H' ⟨v, k, rfl, sm, e⟩
    rw [hl, List.take_length] at e
    rw [vis_pairs e] at hQ
    have him' := him.same sm
    walk_at "go"
    refine m_len him' ?_
    walk_at "go"
    have hn : (((ds.length : Nat) : Int) - 1).toNat = ds.length - 1 := by omega
    rw [hn]
    refine l_range (fun D i H2 => H2 D = some (.lst (((List.range i).map fun k => decide (kD (ds.getD k .none) ≤ kD (ds.getD (k + 1) .none))).map V.bl)) ∧ Same H' H2) (fun D hD => ⟨upd_same, Same.new hD⟩) ?_ ?_
    · rintro D hD i H2 hi ⟨hD', sm2⟩
      have him2 := him'.same sm2
      have g1 : ds[i]? = some (ds.getD i .none) := by rw [List.getD_eq_getElem?_getD, List.getElem?_eq_getElem (by omega)]; rfl
      have g2 : ds[i + 1]? = some (ds.getD (i + 1) .none) := by rw [List.getD_eq_getElem?_getD, List.getElem?_eq_getElem (by omega)]; rfl
      obtain ⟨n1, w1, a1, e1, _⟩ := vok_inv (e _ (List.mem_of_getElem? g1))
      obtain ⟨n2, w2, a2, e2, _⟩ := vok_inv (e _ (List.mem_of_getElem? g2))
      rw [e1] at g1
      rw [e2] at g2
      walk_at "go"
      refine m_ix him2 (n := i) (by omega) g1 (fun v1 hv1 => ?_)
      walk_at "go"
      refine m_ix hv1 (n := 0) rfl rfl (fun v2 hv2 => ?_)
      obtain rfl := hv2.int_inv
      walk_at "go"
      refine m_ix him2 (n := i + 1) (by omega) g2 (fun v3 hv3 => ?_)
      walk_at "go"
      refine m_ix hv3 (n := 0) rfl rfl (fun v4 hv4 => ?_)
      obtain rfl := hv4.int_inv
      walk_at "go"
      refine ⟨_, hD', by refine szl ?_; rw [List.length_map, List.length_map, List.length_range]; omega, ?_, Same.mut sm2 hD⟩
      rw [upd_same, List.range_succ, List.map_append, List.map_append]
      simp only [List.map_cons, List.map_nil]
      rw [e1, e2]
      rfl
    · rintro D hD H2 ⟨hD', sm2⟩
      exact g_all (SqL.of hD') (hQ _ (sm.trans sm2))
def sp_law_good (K : PySem.W.Frag) : Sp := fun vs H Q _ => ∃ (x : V) (d : PyData), vs = [x] ∧ Im H x d ∧ Wd 1000 4 d ∧ ∀ H', Same H H' → Q (.bl (setD d)) H'
theorem sc_law_good : FnScope ["thing", "part"] ["thing"] (defScope (topS 27)) := ⟨rfl, rfl, rfl, by decide +kernel, rfl, by decide +kernel, by decide +kernel⟩
theorem ok_law_good (T : Txt fa fn K mg) : Dn P w K mg base CX0 4 "_law_good" ["thing"] (sp_law_good K) := by
  refine mk_dn (d := dOf "_law_good" 27) T 24 24 rfl rfl rfl rfl rfl sc_law_good (by walk_at "len") (fun _ _ _ _ _ _ us hl => match us, hl with | [_], _ => rfl) (fun cdv A outer s H vs Q E hr h => ⟨_, (pss_cons (ps_if (PW.pt (pw_or (pt_not (pt_tru (K := K) rfl (pe_callD (K := K) rfl (ok_law_long T) (hr.mono (by decide)) rfl pass0 (pa_cons (pv 0) (pa_cons pe_int pa_nil))))) (pw_or (pt_not (pt_tru (K := K) rfl (pe_callD (K := K) rfl (ok_law_long T) (hr.mono (by decide)) rfl pass0 (pa_cons (pe_ixU (K := K) rfl (hu_of hr) (pv 0) pe_int) (pa_cons pe_int pa_nil))))) (pw_or1 (pt_not (pt_tru (K := K) rfl (pe_callB (c_isi (K := K) rfl) rfl (T.free 32 rfl) (by decide +kernel) (pa_cons (pe_ixU (K := K) rfl (hu_of hr) (pv 0) pe_int) (pa_cons (pe_bltn (v := .ty "tuple") rfl (T.free 37 rfl) (by decide +kernel) rfl) pa_nil))))))))) (pss_one (ps_ret pe_bl)) pss_nil)
      (pss_cons (ps_if (PW.pt (pw_or (pt_not (pt_tru (K := K) rfl (pe_callD (K := K) rfl (ok_law_good_cache T) (hr.mono (by decide)) rfl pass0 (pa_cons (pe_ixU (K := K) rfl (hu_of hr) (pv 0) pe_int) pa_nil)))) (pw_or (pt_not (pt_tru (K := K) rfl (pe_callD (K := K) rfl (ok_law_good_cache T) (hr.mono (by decide)) rfl pass0 (pa_cons (pe_ixU (K := K) rfl (hu_of hr) (pv 0) pe_int) pa_nil)))) (pw_or1 (pt_not (pt_tru (K := K) rfl (pe_callD (K := K) rfl (ok_law_good_predictor T) (hr.mono (by decide)) rfl pass0 (pa_cons (pe_ixU (K := K) rfl (hu_of hr) (pv 0) pe_int) pa_nil)))))))) (pss_one (ps_ret pe_bl)) pss_nil)
      (pss_cons (ps_if (PW.pt (pw_or (pt_not (pt_tru (K := K) rfl (pe_callD (K := K) rfl (ok_law_whole T) (hr.mono (by decide)) rfl pass0 (pa_cons (pe_ixU (K := K) rfl (hu_of hr) (pv 0) pe_int) (pa_cons pe_int (pa_cons pe_int pa_nil)))))) (pw_or (pt_not (pt_tru (K := K) rfl (pe_callD (K := K) rfl (ok_law_whole T) (hr.mono (by decide)) rfl pass0 (pa_cons (pe_ixU (K := K) rfl (hu_of hr) (pe_ixU (K := K) rfl (hu_of hr) (pv 0) pe_int) pe_int) (pa_cons pe_int (pa_cons pe_int pa_nil)))))) (pw_or1 (pt_not (pt_tru (K := K) rfl (pe_callD (K := K) rfl (ok_law_whole T) (hr.mono (by decide)) rfl pass0 (pa_cons (pe_ixU (K := K) rfl (hu_of hr) (pe_ixU (K := K) rfl (hu_of hr) (pv 0) pe_int) pe_int) (pa_cons pe_int (pa_cons pe_int pa_nil)))))))))) (pss_one (ps_ret pe_bl)) pss_nil)
      (pss_one (ps_ret (pe_and (pe_callB (c_all (K := K) rfl rfl) rfl (T.free 29 rfl) (by decide +kernel) (pa_cons (pe_lc rfl sc_law_good.nd (pi_seq (K := K) rfl (pe_ixU (K := K) rfl (hu_of hr) (pv 0) pe_int)) (blkOk_by (own := [("part", 1)]) (N := ["thing", "part"]) (sc := defScope (topS 27)) (by decide +kernel)) (fun _ _ _ _ _ => (pg_name (i := 1) sc_law_good.nd rfl (.inl rfl))) (fun _ _ _ _ _ => pts_nil) (fun _ _ _ _ _ => (pe_callD (K := K) rfl (ok_law_good_part T) (hr.mono (by decide)) rfl pass0 (pa_cons (pv 1) pa_nil)))) pa_nil)) (pe_one (pe_callD (K := K) rfl (ok_law_good_visits T) (hr.mono (by decide)) rfl pass0 (pa_cons (pe_ixU (K := K) rfl (hu_of hr) (pv 0) pe_int) pa_nil))))))))), ?_⟩)
  obtain ⟨x, d, rfl, him, wd, hQ⟩ := h
  walk_at "go"
  refine ⟨x, 7, d, rfl, him, ?_⟩
  walk_at "go"
  refine g_ifBn (fun c => ?_) (fun c => ?_)
  · walk_at "go"
    rw [← set_not c]
    exact hQ _ (Same.refl H)
  obtain ⟨d1, d2, d3, d4, d5, d6, d7, rfl⟩ := len7 c
  rw [set7] at hQ
  have w6 : Wd 1000 3 d6 := wd.2 _ (by simp)
  have w7 : Wd 1000 3 d7 := wd.2 _ (by simp)
  walk_at "go"
  refine m_ix him (n := 4) rfl rfl (fun v5 hv5 => ?_)
  walk_at "go"
  refine ⟨v5, 2, d5, rfl, hv5, ?_⟩
  walk_at "go"
  refine g_ifBn (fun c5 => ?_) (fun c5 => ?_)
  · walk_at "go"
    refine q_bl ?_ (hQ _ (Same.refl H))
    rw [costs_not c5]
    simp
  obtain ⟨e1, e2, rfl⟩ := len2 c5
  rw [costs2] at hQ
  walk_at "go"
  refine m_ix him (n := 5) rfl rfl (fun v6 hv6 => ?_)
  walk_at "go"
  refine m_isiU hv6 ?_
  walk_at "go"
  refine g_ifBn (fun c6 => ?_) (fun c6 => ?_)
  · walk_at "go"
    refine q_bl ?_ (hQ _ (Same.refl H))
    rw [bef_not c6]
    simp
  obtain ⟨es, rfl⟩ := isT_inv c6
  walk_at "go"
  refine m_ix him (n := 0) rfl rfl (fun v1 hv1 => ?_)
  walk_at "go"
  refine ⟨v1, d1, rfl, hv1, fun H1 s1 => ?_⟩
  walk_at "go"
  refine g_ifBn (fun c1 => ?_) (fun c1 => ?_)
  · walk_at "go"
    refine q_bl ?_ (hQ _ s1)
    rw [c1]
    rfl
  have im1 := him.same s1
  walk_at "go"
  refine m_ix im1 (n := 1) rfl rfl (fun v2 hv2 => ?_)
  walk_at "go"
  refine ⟨v2, d2, rfl, hv2, fun H2 s2 => ?_⟩
  walk_at "go"
  have sm2 := s1.trans s2
  refine g_ifBn (fun c2 => ?_) (fun c2 => ?_)
  · walk_at "go"
    refine q_bl ?_ (hQ _ sm2)
    rw [c1, c2]
    rfl
  have im2 := him.same sm2
  walk_at "go"
  refine m_ix im2 (n := 2) rfl rfl (fun v3 hv3 => ?_)
  walk_at "go"
  refine ⟨v3, d3, rfl, hv3, fun H3 s3 => ?_⟩
  walk_at "go"
  have sm3 := sm2.trans s3
  refine g_ifBn (fun c3 => ?_) (fun c3 => ?_)
  · walk_at "go"
    refine q_bl ?_ (hQ _ sm3)
    rw [c1, c2, c3]
    rfl
  have im3 := him.same sm3
  walk_at "go"
  refine m_ix im3 (n := 3) rfl rfl (fun v4 hv4 => ?_)
  walk_at "go"
  refine ⟨v4, 0, 64, d4, rfl, hv4, ?_⟩
  walk_at "go"
  refine g_ifBn (fun c4 => ?_) (fun c4 => ?_)
  · walk_at "go"
    refine q_bl ?_ (hQ _ sm3)
    rw [c1, c2, c3, c4]
    rfl
  walk_at "go"
  refine m_ix im3 (n := 4) rfl rfl (fun v5 hv5 => ?_)
  walk_at "go"
  refine m_ix hv5 (n := 0) rfl rfl (fun w1 hw1 => ?_)
  walk_at "go"
  refine ⟨w1, 0, 100, e1, rfl, hw1, ?_⟩
  walk_at "go"
  refine g_ifBn (fun c7 => ?_) (fun c7 => ?_)
  · walk_at "go"
    refine q_bl ?_ (hQ _ sm3)
    rw [c1, c2, c3, c4, c7]
    rfl
  walk_at "go"
  refine m_ix im3 (n := 4) rfl rfl (fun v5 hv5 => ?_)
  walk_at "go"
  refine m_ix hv5 (n := 1) rfl rfl (fun w2 hw2 => ?_)
  walk_at "go"
  refine ⟨w2, 1, 100, e2, rfl, hw2, ?_⟩
  walk_at "go"
  refine g_ifBn (fun c8 => ?_) (fun c8 => ?_)
  · walk_at "go"
    refine q_bl ?_ (hQ _ sm3)
    rw [c1, c2, c3, c4, c7, c8]
    rfl
  have hQ : ∀ H', Same H H' → Q (.bl (es.all prepD && visitsD d7)) H' := fun H' s => by
    have z := hQ H' s
    rw [c1, c2, c3, c4, c7, c8] at z
    exact z
  walk_at "go"
  refine m_ix im3 (n := 5) rfl rfl (fun v6 hv6 => ?_)
  walk_at "go"
  refine m_seq hv6 (fun a xs e ha hs => ?_)
  refine l_ask (f := prepD) ha hs w6.1 (fun _ => rfl) (fun i dv y H5 Q' hd hy s5 hiy hq => ?_) (fun D H5 s5 hD => ?_)
  · walk_at "go"
    exact ⟨y, dv, rfl, hiy, fun H6 s6 => hq H6 s6⟩
  · walk_at "go"
    refine g_all (SqL.of hD) ?_
    rw [all_map_id]
    have sm5 := sm3.trans s5
    walk_at "go"
    refine g_ifB (fun c9 => ?_) (fun c9 => ?_)
    · walk_at "go"
      refine m_ix (him.same sm5) (n := 6) rfl rfl (fun v7 hv7 => ?_)
      walk_at "go"
      refine ⟨v7, d7, rfl, hv7, w7, fun H6 s6 => ?_⟩
      refine q_bl ?_ (hQ _ (sm5.trans s6))
      rw [c9]
      rfl
    · refine q_bl ?_ (hQ _ sm5)
      rw [c9]
      rfl


/-! ### the drawn settings -/
def sp_law_cache (K : PySem.W.Frag) : Sp := fun vs H Q _ => ∃ (d : Addr) (L : List (Addr × HO)), vs = [.ref d] ∧ DrL H d L ∧ ∀ H' v e, Keep [d] H H' → DrL H' d L → Im H' v e → cacheD e = true → Wd 12 1 e → Q v H'
theorem pw64 : ∀ k < 7, powD 64 (.int (1 * 2 ^ k)) = true := by decide +kernel
theorem pw8 : ∀ k < 4, powD 8 (.int (1 * 2 ^ k)) = true := by decide +kernel
theorem pw16 : ∀ k < 5, powD 16 (.int (1 * 2 ^ k)) = true := by decide +kernel
theorem sc_law_cache : FnScope ["draws", "policy"] ["draws"] (defScope (topS 14)) := ⟨rfl, rfl, rfl, by decide +kernel, rfl, by decide +kernel, by decide +kernel⟩
theorem ok_law_cache (T : Txt fa fn K mg) : Dn P w K mg base CX0 2 "_law_cache" ["draws"] (sp_law_cache K) := by
  refine mk_dn (d := dOf "_law_cache" 14) T 11 11 rfl rfl rfl rfl rfl sc_law_cache (by walk_at "len") (fun _ _ _ _ _ _ us hl => match us, hl with | [_], _ => rfl) (fun cdv A outer s H vs Q E hr h => ⟨_, (pss_cons (ps_set (i := 1) sc_law_cache.nd rfl (.inl rfl) (pe_ixU (K := K) rfl (hu_of hr) (pe_lst (pa_cons pe_str (pa_cons pe_str (pa_cons pe_str pa_nil)))) (pe_callD (K := K) rfl (ok_law_next T) (hr.mono (by decide)) rfl pass0 (pa_cons (pv 0) (pa_cons pe_int pa_nil)))))
      (pss_one (ps_ret (pe_tup (pa_cons (pe_op o_shl pe_int (pe_ixU (K := K) rfl (hu_of hr) (pe_lst (pa_cons pe_int (pa_cons pe_int (pa_cons pe_int (pa_cons pe_int (pa_cons pe_int (pa_cons pe_int (pa_cons pe_int pa_nil)))))))) (pe_callD (K := K) rfl (ok_law_next T) (hr.mono (by decide)) rfl pass0 (pa_cons (pv 0) (pa_cons pe_int pa_nil))))) (pa_cons (pe_op o_shl pe_int (pe_callD (K := K) rfl (ok_law_next T) (hr.mono (by decide)) rfl pass0 (pa_cons (pv 0) (pa_cons pe_int pa_nil)))) (pa_cons (pe_op o_shl pe_int (pe_callD (K := K) rfl (ok_law_next T) (hr.mono (by decide)) rfl pass0 (pa_cons (pv 0) (pa_cons pe_int pa_nil)))) (pa_cons (pv 1) pa_nil)))))))), ?_⟩)
  obtain ⟨d, L, rfl, D, hQ⟩ := h
  walk_at "go"
  refine use_pk D rfl rfl (by simp) (by simp) (fun H1 v k1 D1 hv => ?_)
  obtain ⟨P, rfl, hP, hP2⟩ : ∃ P : Str, v = .str P ∧ strD POL (.str P) = true ∧ PyData.strOk P = true := by
    simp only [List.mem_cons, List.not_mem_nil, or_false] at hv
    rcases hv with rfl | rfl | rfl
    · exact ⟨_, rfl, by decide +kernel, by decide +kernel⟩
    · exact ⟨_, rfl, by decide +kernel, by decide +kernel⟩
    · exact ⟨_, rfl, by decide +kernel, by decide +kernel⟩
  walk_at "go"
  refine use_pk D1 rfl rfl (by simp) (by simp) (fun H2 v k2 D2 hv => ?_)
  obtain ⟨k, rfl, hk⟩ : ∃ k : Nat, v = .int (k : Int) ∧ k < 7 := by
    simp only [List.mem_cons, List.not_mem_nil, or_false] at hv
    rcases hv with rfl | rfl | rfl | rfl | rfl | rfl | rfl
    · exact ⟨0, rfl, by decide⟩
    · exact ⟨0, rfl, by decide⟩
    · exact ⟨1, rfl, by decide⟩
    · exact ⟨1, rfl, by decide⟩
    · exact ⟨2, rfl, by decide⟩
    · exact ⟨3, rfl, by decide⟩
    · exact ⟨6, rfl, by decide⟩
  walk_at "go"
  refine use_nx D2 (by decide) (fun H3 v3 k3 D3 h30 h31 => ?_)
  walk_at "go"
  refine use_nx D3 (by decide) (fun H4 v4 k4 D4 h40 h41 => ?_)
  walk_at "go"
  refine m_new (.cons (.int _) (.cons (.int _) (.cons (.int _) (.cons (.str P) .nil)))) (by simp) (fun p H5 s5 hp im => ?_)
  have kk := (((k1.trans k2).trans k3).trans k4).trans (Keep.of s5)
  refine hQ _ _ _ kk (D4.same s5) im ?_ ⟨by simp, ?_⟩
  · show (strD POL (.str P) && (powD 64 _ && (powD 8 _ && powD 16 _))) = true
    rw [hP, Int.toNat_natCast, pw64 k hk, pw8 _ (by omega), pw16 _ (by omega)]
    rfl
  · intro x hx
    simp only [List.mem_cons, List.not_mem_nil, or_false] at hx
    rcases hx with rfl | rfl | rfl | rfl
    · trivial
    · trivial
    · trivial
    · exact hP2
def sp_law_predictor (K : PySem.W.Frag) : Sp := fun vs H Q _ => ∃ (d : Addr) (L : List (Addr × HO)), vs = [.ref d] ∧ DrL H d L ∧ ∀ H' v e, Keep [d] H H' → DrL H' d L → Im H' v e → predD e = true → Wd 12 1 e → Q v H'
theorem pred_tw {n : PyData} (h : powD 64 n = true) : predD (.tuple [.str "two", n]) = true := by
  have e : strD ["two"] (.str "two") = true := by decide +kernel
  rw [pred2, if_pos e]
  exact h
theorem pred_hi {n : PyData} (h : numD 1 6 n = true) : predD (.tuple [.str "history", n]) = true := by
  have e : strD ["two"] (.str "history") = false := by decide +kernel
  have e2 : strD ["history"] (.str "history") = true := by decide +kernel
  rw [pred2, if_neg (by rw [e]; exact Bool.false_ne_true), e2, h]
  rfl
theorem sc_law_predictor : FnScope ["draws", "pick"] ["draws"] (defScope (topS 15)) := ⟨rfl, rfl, rfl, by decide +kernel, rfl, by decide +kernel, by decide +kernel⟩
theorem ok_law_predictor (T : Txt fa fn K mg) : Dn P w K mg base CX0 2 "_law_predictor" ["draws"] (sp_law_predictor K) := by
  refine mk_dn (d := dOf "_law_predictor" 15) T 12 12 rfl rfl rfl rfl rfl sc_law_predictor (by walk_at "len") (fun _ _ _ _ _ _ us hl => match us, hl with | [_], _ => rfl) (fun cdv A outer s H vs Q E hr h => ⟨_, (pss_cons (ps_set (i := 1) sc_law_predictor.nd rfl (.inl rfl) (pe_callD (K := K) rfl (ok_law_next T) (hr.mono (by decide)) rfl pass0 (pa_cons (pv 0) (pa_cons pe_int pa_nil))))
      (pss_cons (ps_if (pt_cmpR (op_eqU (K := K) rfl hr.units) (pv 1) pe_int (nomark _)) (pss_one (ps_ret (pe_tup (pa_cons pe_str pa_nil)))) pss_nil)
      (pss_cons (ps_if (pt_cmpR o_lt (pv 1) pe_int (nomark _)) (pss_one (ps_ret (pe_tup (pa_cons pe_str (pa_cons (pe_op o_shl pe_int (pe_callD (K := K) rfl (ok_law_next T) (hr.mono (by decide)) rfl pass0 (pa_cons (pv 0) (pa_cons pe_int pa_nil)))) pa_nil))))) pss_nil)
      (pss_one (ps_ret (pe_tup (pa_cons pe_str (pa_cons (pe_op (op_addU (K := K) rfl) pe_int (pe_callD (K := K) rfl (ok_law_next T) (hr.mono (by decide)) rfl pass0 (pa_cons (pv 0) (pa_cons pe_int pa_nil)))) pa_nil)))))))), ?_⟩)
  obtain ⟨d, L, rfl, D, hQ⟩ := h
  walk_at "go"
  refine use_nx D (by decide) (fun H1 v1 k1 D1 h10 h11 => ?_)
  walk_at "go"
  refine g_if (fun c => ?_) (fun c => ?_)
  · walk_at "go"
    refine m_new (.cons (.str _) .nil) (by simp) (fun p H5 s5 hp im => ?_)
    refine hQ _ _ _ (k1.trans (Keep.of s5)) (D1.same s5) im (by decide +kernel) ⟨by simp, fun x hx => ?_⟩
    rw [List.mem_singleton.mp hx]
    show PyData.strOk _ = true
    decide +kernel
  · walk_at "go"
    refine g_if (fun c => ?_) (fun c => ?_)
    · walk_at "go"
      refine use_nx D1 (by decide) (fun H3 v3 k3 D3 h30 h31 => ?_)
      walk_at "go"
      refine m_new (.cons (.str _) (.cons (.int _) .nil)) (by simp) (fun p H5 s5 hp im => ?_)
      refine hQ _ _ _ ((k1.trans k3).trans (Keep.of s5)) (D3.same s5) im (pred_tw (pw64 _ (by omega))) ⟨by simp, fun x hx => ?_⟩
      simp only [List.mem_cons, List.not_mem_nil, or_false] at hx
      rcases hx with rfl | rfl
      · show PyData.strOk _ = true
        decide +kernel
      · trivial
    · walk_at "go"
      refine use_nx D1 (by decide) (fun H3 v3 k3 D3 h30 h31 => ?_)
      walk_at "go"
      refine m_new (.cons (.str _) (.cons (.int _) .nil)) (by simp) (fun p H5 s5 hp im => ?_)
      refine hQ _ _ _ ((k1.trans k3).trans (Keep.of s5)) (D3.same s5) im (pred_hi (num_of (by omega) (by omega))) ⟨by simp, fun x hx => ?_⟩
      simp only [List.mem_cons, List.not_mem_nil, or_false] at hx
      rcases hx with rfl | rfl
      · show PyData.strOk _ = true
        decide +kernel
      · trivial
def sp_law_before (K : PySem.W.Frag) : Sp := fun vs H Q _ => ∃ (d : Addr) (L : List (Addr × HO)) (rows end_ : Int), vs = [.ref d, .int rows, .int end_] ∧ DrL H d L ∧ 0 ≤ rows ∧ rows ≤ 1000 ∧ 0 ≤ end_ ∧ end_ ≤ 1000 ∧
  ∀ H' v es, Keep [d] H H' → DrL H' d L → Im H' v (.tuple es) → es.all prepD = true → Wd 12 2 (.tuple es) → Q v H'
theorem all_snoc {α : Type} {p : α → Prop} {l : List α} {y : α} (h : ∀ x ∈ l, p x) (hy : p y) : ∀ x ∈ l ++ [y], p x := fun x hx => by
  rcases List.mem_append.mp hx with hx | hx
  · exact h x hx
  · rw [List.mem_singleton.mp hx]
    exact hy
theorem wd_s {z : Str} {n k : Nat} (h : PyData.strOk z = true) : Wd n k (.str z) := by
  cases k <;> exact h
theorem wd_i {i : Int} {n k : Nat} : Wd n k (.int i) := by
  cases k <;> trivial
theorem wd_b {b : Bool} {n k : Nat} : Wd n k (.bool b) := by
  cases k <;> trivial
theorem wd_o {n k : Nat} : Wd n k .none := by
  cases k <;> trivial
theorem wd_t {n k : Nat} {ds : List PyData} (h : ds.length ≤ n) (g : ∀ x ∈ ds, Wd n k x) : Wd n (k + 1) (.tuple ds) := ⟨h, g⟩
theorem sub_last {L : List (Addr × HO)} {x : Addr × HO} : L.Sublist (L ++ [x]) := List.sublist_append_left L [x]
theorem get_last {L : List (Addr × HO)} {x : Addr × HO} : (L ++ [x])[L.length]? = some x := by simp
theorem set_last {L : List (Addr × HO)} {x y : Addr × HO} : (L ++ [x]).set L.length y = L ++ [y] := by simp
theorem sc_law_before : FnScope ["draws", "rows", "end", "parts", "k", "pick"] ["draws", "rows", "end"] (defScope (topS 16)) := ⟨rfl, rfl, rfl, by decide +kernel, rfl, by decide +kernel, by decide +kernel⟩
theorem ok_law_before (T : Txt fa fn K mg) : Dn P w K mg base CX0 2 "_law_before" ["draws", "rows", "end"] (sp_law_before K) := by
  refine mk_dn (d := dOf "_law_before" 16) T 13 13 rfl rfl rfl rfl rfl sc_law_before (by walk_at "len") (fun _ _ _ _ _ _ us hl => match us, hl with | [_, _, _], _ => rfl) (fun cdv A outer s H vs Q E hr h => ⟨_, (pss_cons (ps_set (i := 3) sc_law_before.nd rfl (.inl rfl) (pe_lst pa_nil))
      (pss_cons (ps_for PassesOwn.never rfl (pi_r1 rfl (T.free 35 rfl) (pa_cons (pe_ixU (K := K) rfl (hu_of hr) (pe_lst (pa_cons pe_int (pa_cons pe_int (pa_cons pe_int (pa_cons pe_int pa_nil))))) (pe_callD (K := K) rfl (ok_law_next T) (hr.mono (by decide)) rfl pass0 (pa_cons (pv 0) (pa_cons pe_int pa_nil)))) pa_nil)) (pg_name (i := 4) sc_law_before.nd rfl (.inl rfl)) (pss_cons (ps_set (i := 5) sc_law_before.nd rfl (.inl rfl) (pe_callD (K := K) rfl (ok_law_next T) (hr.mono (by decide)) rfl pass0 (pa_cons (pv 0) (pa_cons pe_int pa_nil))))
      (pss_one (ps_join (ps_if (pt_cmpR (op_eqU (K := K) rfl hr.units) (pv 5) pe_int (nomark _)) (pss_one (ps_expr (pe_bm PySem.F.plainAttrs_list PySem.F.slot_list_append PySem.F.type_list_append mt_append (pv 3) (pa_cons (pe_tup (pa_cons pe_str (pa_cons (pe_callD (K := K) rfl (ok_law_next T) (hr.mono (by decide)) rfl pass0 (pa_cons (pv 0) (pa_cons (pe_op (op_addU (K := K) rfl) (pv 2) pe_int) pa_nil))) pa_nil))) pa_nil)))) (pss_one (ps_if (pt_cmpR (op_eqU (K := K) rfl hr.units) (pv 5) pe_int (nomark _)) (pss_one (ps_expr (pe_bm PySem.F.plainAttrs_list PySem.F.slot_list_append PySem.F.type_list_append mt_append (pv 3) (pa_cons (pe_tup (pa_cons pe_str (pa_cons (pe_callD (K := K) rfl (ok_law_next T) (hr.mono (by decide)) rfl pass0 (pa_cons (pv 0) (pa_cons (pe_op (op_addU (K := K) rfl) (pv 1) pe_int) pa_nil))) pa_nil))) pa_nil)))) (pss_one (ps_expr (pe_bm PySem.F.plainAttrs_list PySem.F.slot_list_append PySem.F.type_list_append mt_append (pv 3) (pa_cons (pe_tup (pa_cons pe_str (pa_cons (pe_callD (K := K) rfl (ok_law_next T) (hr.mono (by decide)) rfl pass0 (pa_cons (pv 0) (pa_cons (pe_op (op_addU (K := K) rfl) (pv 1) pe_int) pa_nil))) (pa_cons (pe_cmpR (op_eqU (K := K) rfl hr.units) (pe_callD (K := K) rfl (ok_law_next T) (hr.mono (by decide)) rfl pass0 (pa_cons (pv 0) (pa_cons pe_int pa_nil))) pe_int (nomark _)) pa_nil)))) pa_nil)))))))))))
      (pss_one (ps_ret (pe_callTy (c_tuple (K := K) rfl) rfl (T.free 37 rfl) (by decide +kernel) (pa_cons (pv 3) pa_nil)))))), ?_⟩)
  obtain ⟨d, L, rows, end_, rfl, D, hr0, hr1, he0, he1, hQ⟩ := h
  walk_at "go"
  refine ⟨by decide, fun p hp => ?_⟩
  have D1 := D.new (o := .lst []) hp
  have kp : Keep [d] H _ := Keep.new (o := .lst []) hp
  walk_at "go"
  refine use_pk D1 rfl rfl (by simp) (by simp) (fun H2 v k2 D2 hv => ?_)
  obtain ⟨n, rfl, hn⟩ : ∃ n : Nat, v = .int (n : Int) ∧ n ≤ 12 := by
    simp only [List.mem_cons, List.not_mem_nil, or_false] at hv
    rcases hv with rfl | rfl | rfl | rfl
    · exact ⟨0, rfl, by decide⟩
    · exact ⟨0, rfl, by decide⟩
    · exact ⟨4, rfl, by decide⟩
    · exact ⟨12, rfl, by decide⟩
  walk_at "go"
  rw [Int.toNat_natCast]
  have kp2 := kp.trans k2
  refine f_range (fun i σ H' => ∃ (k pk : Option V) (xs : List V) (es : List PyData), σ = [some (.ref d), some (.int rows), some (.int end_), some (.ref p), k, pk] ∧ Keep [d] H H' ∧ DrL H' d (L ++ [(p, .lst xs)]) ∧ Ims H' xs es ∧ es.length = i ∧ (∀ e ∈ es, prepD e = true) ∧ ∀ e ∈ es, Wd 12 1 e)
    ⟨_, _, [], [], rfl, kp2, D2, .nil, rfl, by simp, by simp⟩ ?_ ?_
  · rintro i σ H3 hi ⟨k, pk, xs, es, rfl, k3, D3, ims, hl, a1, a2⟩
    have hxs := ims.length
    walk_at "go"
    refine use_nx D3 (by decide) (fun H4 v4 k4 D4 h40 h41 => ?_)
    have ims4 := D3.ims k4 ims
    have at4 : H4 p = some (.lst xs) := D4.get L.length get_last
    walk_at "go"
    have fin : ∀ (a : Addr) (e : PyData) (H5 H6 : Hp), Keep [d] H4 H5 → DrL H5 d (L ++ [(p, .lst xs)]) → Same H5 H6 → Im H6 (.ref a) e → prepD e = true → Wd 12 1 e →
        ∀ (Q' : VK), (∀ (H7 : Hp), (∃ (xs : List V) (es : List PyData), Keep [d] H H7 ∧ DrL H7 d (L ++ [(p, .lst xs)]) ∧ Ims H7 xs es ∧ es.length = i + 1 ∧ (∀ e ∈ es, prepD e = true) ∧ ∀ e ∈ es, Wd 12 1 e) → Q' .non H7) → rAppend (.ref p) [.ref a] H6 Q' := by
      intro a e H5 H6 k5 D5 s6 im pe we Q' hq
      have D6 := D5.same s6
      refine gD_append D6 L.length get_last (by omega) (fun D7 => hq _ ⟨xs ++ [.ref a], es ++ [e], ?_, ?_, ?_, ?_, ?_, ?_⟩)
      · exact ((((k3.trans k4).trans k5).trans (Keep.of s6))).mut hp
      · rw [set_last] at D7
        exact D7
      · have nt : NoTup H6 [p] := NoTup.one (D6.get L.length get_last) (fun _ e => nomatch e)
        exact (((D4.ims k5 ims4).same s6).append (Ims.one im)).keep (Keep.set (List.mem_singleton.mpr rfl)) nt
      · rw [List.length_append, hl]
        rfl
      · exact all_snoc a1 pe
      · exact all_snoc a2 we
    refine ⟨fun σ' H7 => ∃ (xs : List V) (es : List PyData) (pk : Option V), σ' = [some (.ref d), some (.int rows), some (.int end_), some (.ref p), some (.int (0 + i)), pk] ∧ Keep [d] H H7 ∧ DrL H7 d (L ++ [(p, .lst xs)]) ∧ Ims H7 xs es ∧ es.length = i + 1 ∧ (∀ e ∈ es, prepD e = true) ∧ ∀ e ∈ es, Wd 12 1 e, ?_, ?_⟩
    · walk_at "go"
      refine g_if (fun c => ?_) (fun c => ?_)
      · walk_at "go"
        refine use_nx D4 (by omega) (fun H5 v5 k5 D5 h50 h51 => ?_)
        walk_at "go"
        refine m_new (.cons (.str _) (.cons (.int _) .nil)) (by simp) (fun a H6 s6 ha im => ?_)
        walk_at "go"
        refine fin a _ H5 H6 k5 D5 s6 im ?_ (wd_t (by simp) ?_) _ (fun H7 ⟨xs, es, h7⟩ => ⟨xs, es, _, rfl, h7⟩)
        · rw [prep2, num_of h50 (by omega)]
          decide +kernel
        · intro x hx
          simp only [List.mem_cons, List.not_mem_nil, or_false] at hx
          rcases hx with rfl | rfl
          · exact wd_s (by decide +kernel)
          · exact wd_i
      · walk_at "go"
        refine g_if (fun c => ?_) (fun c => ?_)
        · walk_at "go"
          refine use_nx D4 (by omega) (fun H5 v5 k5 D5 h50 h51 => ?_)
          walk_at "go"
          refine m_new (.cons (.str _) (.cons (.int _) .nil)) (by simp) (fun a H6 s6 ha im => ?_)
          walk_at "go"
          refine fin a _ H5 H6 k5 D5 s6 im ?_ (wd_t (by simp) ?_) _ (fun H7 ⟨xs, es, h7⟩ => ⟨xs, es, _, rfl, h7⟩)
          · rw [prep2, num_of h50 (by omega)]
            decide +kernel
          · intro x hx
            simp only [List.mem_cons, List.not_mem_nil, or_false] at hx
            rcases hx with rfl | rfl
            · exact wd_s (by decide +kernel)
            · exact wd_i
        · walk_at "go"
          refine use_nx D4 (by omega) (fun H5 v5 k5 D5 h50 h51 => ?_)
          walk_at "go"
          refine use_nx D5 (by decide) (fun H6 v6 k6 D6 h60 h61 => ?_)
          walk_at "go"
          refine m_new (.cons (.str _) (.cons (.int _) (.cons (.bl _) .nil))) (by simp) (fun a H7 s7 ha im => ?_)
          walk_at "go"
          refine fin a _ H6 H7 (k5.trans k6) D6 s7 im ?_ (wd_t (by simp) ?_) _ (fun H8 ⟨xs, es, h7⟩ => ⟨xs, es, _, rfl, h7⟩)
          · have eb : strD ["branch"] (.str "branch") = true := by decide +kernel
            rw [prep3, num_of h50 (by omega), eb]
            rfl
          · intro x hx
            simp only [List.mem_cons, List.not_mem_nil, or_false] at hx
            rcases hx with rfl | rfl | rfl
            · exact wd_s (by decide +kernel)
            · exact wd_i
            · exact wd_b
    · rintro σ' H7 ⟨xs, es, pk, rfl, h7⟩
      exact ⟨_, _, xs, es, rfl, h7⟩
  · rintro σ H3 ⟨k, pk, xs, es, rfl, k3, D3, ims, hl, a1, a2⟩
    walk_at "go"
    refine m_tupleL (SqL.of (D3.get L.length get_last)) ims (fun q H4 s4 hq im => ?_)
    exact hQ _ _ es (k3.trans (Keep.of s4)) ((D3.sub sub_last).same s4) im (List.all_eq_true.mpr a1) (wd_t (by omega) a2)
def sp_law_visits (K : PySem.W.Frag) : Sp := fun vs H Q _ => ∃ (d : Addr) (L : List (Addr × HO)) (end_ : Int), vs = [.ref d, .int end_] ∧ DrL H d L ∧ 0 ≤ end_ ∧ end_ ≤ 1000 ∧
  ∀ H' v es, Keep [d] H H' → DrL H' d L → Im H' v (.tuple es) → visD 0 es = true → Wd 12 2 (.tuple es) → Q v H'
theorem vis_snoc {n : Int} {w a : PyData} (hw : strD ["touch", "drop"] w = true) (ha : numD 0 1048576 a = true) (hn : n ≤ 1048576) : ∀ (ds : List PyData) (b : Int), visD b ds = true → b ≤ n → (∀ v ∈ ds, kD v ≤ n) → visD b (ds ++ [.tuple [.int n, w, a]]) = true
  | [], b, _, hb, _ => by
    rw [List.nil_append, vis_cons, hw, ha, num_of hb hn]
    rfl
  | d :: vs, b, h, hb, hk => by
    have c : lenI 3 d = true := by
      cases c : lenI 3 d with
      | true => rfl
      | false => rw [vis_not c] at h; cases h
    obtain ⟨d1, d2, d3, rfl⟩ := len3 c
    rw [vis_cons, Bool.and_eq_true, Bool.and_eq_true, Bool.and_eq_true] at h
    obtain ⟨h1, h2, h3, h4⟩ := h
    rw [List.cons_append, vis_cons, h1, h2, h3, vis_snoc hw ha hn vs (nD d1) h4 (hk _ List.mem_cons_self) (fun v hv => hk v (List.mem_cons_of_mem _ hv))]
    rfl
theorem sc_law_visits : FnScope ["draws", "end", "visits", "n", "k"] ["draws", "end"] (defScope (topS 17)) := ⟨rfl, rfl, rfl, by decide +kernel, rfl, by decide +kernel, by decide +kernel⟩
theorem ok_law_visits (T : Txt fa fn K mg) : Dn P w K mg base CX0 2 "_law_visits" ["draws", "end"] (sp_law_visits K) := by
  refine mk_dn (d := dOf "_law_visits" 17) T 14 14 rfl rfl rfl rfl rfl sc_law_visits (by walk_at "len") (fun _ _ _ _ _ _ us hl => match us, hl with | [_, _], _ => rfl) (fun cdv A outer s H vs Q E hr h => ⟨_, (pss_cons (ps_set (i := 2) sc_law_visits.nd rfl (.inl rfl) (pe_lst pa_nil))
      (pss_cons (ps_set (i := 3) sc_law_visits.nd rfl (.inl rfl) pe_int)
      (pss_cons (ps_for PassesOwn.never rfl (pi_r1 rfl (T.free 35 rfl) (pa_cons (pe_ixU (K := K) rfl (hu_of hr) (pe_lst (pa_cons pe_int (pa_cons pe_int (pa_cons pe_int (pa_cons pe_int pa_nil))))) (pe_callD (K := K) rfl (ok_law_next T) (hr.mono (by decide)) rfl pass0 (pa_cons (pv 0) (pa_cons pe_int pa_nil)))) pa_nil)) (pg_name (i := 4) sc_law_visits.nd rfl (.inl rfl)) (pss_cons (ps_set (i := 3) sc_law_visits.nd rfl (.inl rfl) (pe_op (op_addU (K := K) rfl) (pv 3) (pe_callD (K := K) rfl (ok_law_next T) (hr.mono (by decide)) rfl pass0 (pa_cons (pv 0) (pa_cons pe_int pa_nil)))))
      (pss_one (ps_expr (pe_bm PySem.F.plainAttrs_list PySem.F.slot_list_append PySem.F.type_list_append mt_append (pv 2) (pa_cons (pe_tup (pa_cons (pv 3) (pa_cons (pe_ixU (K := K) rfl (hu_of hr) (pe_lst (pa_cons pe_str (pa_cons pe_str pa_nil))) (pe_callD (K := K) rfl (ok_law_next T) (hr.mono (by decide)) rfl pass0 (pa_cons (pv 0) (pa_cons pe_int pa_nil)))) (pa_cons (pe_callD (K := K) rfl (ok_law_next T) (hr.mono (by decide)) rfl pass0 (pa_cons (pv 0) (pa_cons (pe_op (op_addU (K := K) rfl) (pv 1) pe_int) pa_nil))) pa_nil)))) pa_nil))))))
      (pss_one (ps_ret (pe_callTy (c_tuple (K := K) rfl) rfl (T.free 37 rfl) (by decide +kernel) (pa_cons (pv 2) pa_nil))))))), ?_⟩)
  obtain ⟨d, L, end_, rfl, D, he0, he1, hQ⟩ := h
  walk_at "go"
  refine ⟨by decide, fun p hp => ?_⟩
  have D1 := D.new (o := .lst []) hp
  have kp : Keep [d] H _ := Keep.new (o := .lst []) hp
  walk_at "go"
  refine use_pk D1 rfl rfl (by simp) (by simp) (fun H2 v k2 D2 hv => ?_)
  obtain ⟨n, rfl, hn⟩ : ∃ n : Nat, v = .int (n : Int) ∧ n ≤ 12 := by
    simp only [List.mem_cons, List.not_mem_nil, or_false] at hv
    rcases hv with rfl | rfl | rfl | rfl
    · exact ⟨0, rfl, by decide⟩
    · exact ⟨0, rfl, by decide⟩
    · exact ⟨3, rfl, by decide⟩
    · exact ⟨10, rfl, by decide⟩
  walk_at "go"
  rw [Int.toNat_natCast]
  have kp2 := kp.trans k2
  refine f_range (fun i σ H' => ∃ (k : Option V) (n : Int) (xs : List V) (es : List PyData), σ = [some (.ref d), some (.int end_), some (.ref p), some (.int n), k] ∧ Keep [d] H H' ∧ DrL H' d (L ++ [(p, .lst xs)]) ∧ Ims H' xs es ∧ es.length = i ∧ 0 ≤ n ∧ n ≤ 7 * i ∧ visD 0 es = true ∧ (∀ e ∈ es, kD e ≤ n) ∧ ∀ e ∈ es, Wd 12 1 e)
    ⟨_, 0, [], [], rfl, kp2, D2, .nil, rfl, by decide, by decide, rfl, by simp, by simp⟩ ?_ ?_
  · rintro i σ H3 hi ⟨k, n0, xs, es, rfl, k3, D3, ims, hl, hn0, hn1, a0, a1, a2⟩
    have hxs := ims.length
    walk_at "go"
    refine use_nx D3 (by decide) (fun H4 v4 k4 D4 h40 h41 => ?_)
    have ims4 := D3.ims k4 ims
    have at4 : H4 p = some (.lst xs) := D4.get L.length get_last
    walk_at "go"
    refine use_pk D4 rfl rfl (by simp) (by simp) (fun H5 v k5 D5 hv => ?_)
    obtain ⟨z, rfl, hz, hz2⟩ : ∃ P : Str, v = .str P ∧ strD ["touch", "drop"] (.str P) = true ∧ PyData.strOk P = true := by
      simp only [List.mem_cons, List.not_mem_nil, or_false] at hv
      rcases hv with rfl | rfl
      · exact ⟨_, rfl, by decide +kernel, by decide +kernel⟩
      · exact ⟨_, rfl, by decide +kernel, by decide +kernel⟩
    walk_at "go"
    refine use_nx D5 (by omega) (fun H6 v6 k6 D6 h60 h61 => ?_)
    walk_at "go"
    refine m_new (.cons (.int _) (.cons (.str _) (.cons (.int _) .nil))) (by simp) (fun a H7 s7 ha im => ?_)
    walk_at "go"
    have D7 := D6.same s7
    have nt : NoTup H7 [p] := NoTup.one (D7.get L.length get_last) (fun _ e => nomatch e)
    have ims7 := ((D5.ims k6 (D4.ims k5 ims4)).same s7).append (Ims.one im)
    refine gD_append D7 L.length get_last (by omega) (fun D8 => ?_)
    walk_at "go"
    rw [set_last] at D8
    refine ⟨_, n0 + v4, xs ++ [.ref a], es ++ [.tuple [.int (n0 + v4), .str z, .int v6]], rfl, (((((k3.trans k4).trans k5).trans k6).trans (Keep.of s7))).mut hp, D8, ims7.keep (Keep.set (List.mem_singleton.mpr rfl)) nt, by rw [List.length_append, hl]; rfl, by omega, by omega, ?_, ?_, ?_⟩
    · exact vis_snoc hz (num_of h60 (by omega)) (by omega) es 0 a0 (by omega) (fun v hv => by have := a1 v hv; omega)
    · refine all_snoc (fun v hv => by have := a1 v hv; omega) ?_
      exact Int.le_refl _
    · refine all_snoc a2 (wd_t (by simp) ?_)
      intro x hx
      simp only [List.mem_cons, List.not_mem_nil, or_false] at hx
      rcases hx with rfl | rfl | rfl
      · exact wd_i
      · exact wd_s hz2
      · exact wd_i
  · rintro σ H3 ⟨k, n0, xs, es, rfl, k3, D3, ims, hl, hn0, hn1, a0, a1, a2⟩
    walk_at "go"
    refine m_tupleL (SqL.of (D3.get L.length get_last)) ims (fun q H4 s4 hq im => ?_)
    exact hQ _ _ es (k3.trans (Keep.of s4)) ((D3.sub sub_last).same s4) im a0 (wd_t (by omega) a2)
def sp_law_settings (K : PySem.W.Frag) : Sp := fun vs H Q _ => ∃ (d : Addr) (L : List (Addr × HO)) (rows end_ deep : Int), vs = [.ref d, .int rows, .int end_, .int deep] ∧ DrL H d L ∧ 0 ≤ rows ∧ rows ≤ 1000 ∧ 0 ≤ end_ ∧ end_ ≤ 1000 ∧ 0 ≤ deep ∧ deep ≤ 64 ∧
  ∀ H' v es, Keep [d] H H' → DrL H' d L → Im H' v (.tuple es) → es.length = 7 → setD (.tuple es) = true → Wd 12 3 (.tuple es) → Q v H'
theorem sc_law_settings : FnScope ["draws", "rows", "end", "deepest", "data", "fetch", "guess", "depth", "costs"] ["draws", "rows", "end", "deepest"] (defScope (topS 18)) := ⟨rfl, rfl, rfl, by decide +kernel, rfl, by decide +kernel, by decide +kernel⟩
theorem ok_law_settings (T : Txt fa fn K mg) : Dn P w K mg base CX0 3 "_law_settings" ["draws", "rows", "end", "deepest"] (sp_law_settings K) := by
  refine mk_dn (d := dOf "_law_settings" 18) T 15 15 rfl rfl rfl rfl rfl sc_law_settings (by walk_at "len") (fun _ _ _ _ _ _ us hl => match us, hl with | [_, _, _, _], _ => rfl) (fun cdv A outer s H vs Q E hr h => ⟨_, (pss_cons (ps_set (i := 4) sc_law_settings.nd rfl (.inl rfl) (pe_callD (K := K) rfl (ok_law_cache T) (hr.mono (by decide)) rfl pass0 (pa_cons (pv 0) pa_nil)))
      (pss_cons (ps_set (i := 5) sc_law_settings.nd rfl (.inl rfl) (pe_callD (K := K) rfl (ok_law_cache T) (hr.mono (by decide)) rfl pass0 (pa_cons (pv 0) pa_nil)))
      (pss_cons (ps_set (i := 6) sc_law_settings.nd rfl (.inl rfl) (pe_callD (K := K) rfl (ok_law_predictor T) (hr.mono (by decide)) rfl pass0 (pa_cons (pv 0) pa_nil)))
      (pss_cons (ps_set (i := 7) sc_law_settings.nd rfl (.inl rfl) (pe_ixU (K := K) rfl (hu_of hr) (pe_lst (pa_cons pe_int (pa_cons pe_int (pa_cons pe_int (pa_cons (pv 3) pa_nil))))) (pe_callD (K := K) rfl (ok_law_next T) (hr.mono (by decide)) rfl pass0 (pa_cons (pv 0) (pa_cons pe_int pa_nil)))))
      (pss_cons (ps_set (i := 8) sc_law_settings.nd rfl (.inl rfl) (pe_tup (pa_cons (pe_ixU (K := K) rfl (hu_of hr) (pe_lst (pa_cons pe_int (pa_cons pe_int (pa_cons pe_int (pa_cons pe_int (pa_cons pe_int pa_nil)))))) (pe_callD (K := K) rfl (ok_law_next T) (hr.mono (by decide)) rfl pass0 (pa_cons (pv 0) (pa_cons pe_int pa_nil)))) (pa_cons (pe_ixU (K := K) rfl (hu_of hr) (pe_lst (pa_cons pe_int (pa_cons pe_int (pa_cons pe_int (pa_cons pe_int (pa_cons pe_int pa_nil)))))) (pe_callD (K := K) rfl (ok_law_next T) (hr.mono (by decide)) rfl pass0 (pa_cons (pv 0) (pa_cons pe_int pa_nil)))) pa_nil))))
      (pss_one (ps_ret (pe_tup (pa_cons (pv 4) (pa_cons (pv 5) (pa_cons (pv 6) (pa_cons (pv 7) (pa_cons (pv 8) (pa_cons (pe_callD (K := K) rfl (ok_law_before T) (hr.mono (by decide)) rfl pass0 (pa_cons (pv 0) (pa_cons (pv 1) (pa_cons (pv 2) pa_nil)))) (pa_cons (pe_callD (K := K) rfl (ok_law_visits T) (hr.mono (by decide)) rfl pass0 (pa_cons (pv 0) (pa_cons (pv 2) pa_nil))) pa_nil))))))))))))))), ?_⟩)
  obtain ⟨d, L, rows, end_, deep, rfl, D, hr0, hr1, he0, he1, hd0, hd1, hQ⟩ := h
  walk_at "go"
  refine ⟨d, L, rfl, D, fun H1 v1 e1 k1 D1 i1 c1 w1 => ?_⟩
  walk_at "go"
  refine ⟨d, L, rfl, D1, fun H2 v2 e2 k2 D2 i2 c2 w2 => ?_⟩
  walk_at "go"
  refine ⟨d, L, rfl, D2, fun H3 v3 e3 k3 D3 i3 c3 w3 => ?_⟩
  walk_at "go"
  refine use_pk D3 rfl rfl (by simp) (by simp) (fun H4 v k4 D4 hv => ?_)
  obtain ⟨n4, rfl, h40, h41⟩ : ∃ n : Int, v = .int n ∧ 0 ≤ n ∧ n ≤ 64 := by
    simp only [List.mem_cons, List.not_mem_nil, or_false] at hv
    rcases hv with rfl | rfl | rfl | rfl
    · exact ⟨_, rfl, by decide, by decide⟩
    · exact ⟨_, rfl, by decide, by decide⟩
    · exact ⟨_, rfl, by decide, by decide⟩
    · exact ⟨_, rfl, hd0, hd1⟩
  walk_at "go"
  refine use_pk D4 rfl rfl (by simp) (by simp) (fun H5 v k5 D5 hv => ?_)
  obtain ⟨n5, rfl, h50, h51⟩ : ∃ n : Int, v = .int n ∧ 0 ≤ n ∧ n ≤ 100 := by
    simp only [List.mem_cons, List.not_mem_nil, or_false] at hv
    rcases hv with rfl | rfl | rfl | rfl | rfl <;> exact ⟨_, rfl, by decide, by decide⟩
  walk_at "go"
  refine use_pk D5 rfl rfl (by simp) (by simp) (fun H6 v k6 D6 hv => ?_)
  obtain ⟨n6, rfl, h60, h61⟩ : ∃ n : Int, v = .int n ∧ 1 ≤ n ∧ n ≤ 100 := by
    simp only [List.mem_cons, List.not_mem_nil, or_false] at hv
    rcases hv with rfl | rfl | rfl | rfl | rfl <;> exact ⟨_, rfl, by decide, by decide⟩
  walk_at "go"
  refine m_new (.cons (.int _) (.cons (.int _) .nil)) (by simp) (fun a H7 s7 ha i7 => ?_)
  have D7 := D6.same s7
  walk_at "go"
  refine ⟨d, L, rows, end_, rfl, D7, hr0, hr1, he0, he1, fun H8 v8 e8 k8 D8 i8 c8 w8 => ?_⟩
  walk_at "go"
  refine ⟨d, L, end_, rfl, D8, he0, he1, fun H9 v9 e9 k9 D9 i9 c9 w9 => ?_⟩
  have g1 := D8.im k9 (D7.im k8 ((D5.im k6 (D4.im k5 (D3.im k4 (D2.im k3 (D1.im k2 i1))))).same s7))
  have g2 := D8.im k9 (D7.im k8 ((D5.im k6 (D4.im k5 (D3.im k4 (D2.im k3 i2)))).same s7))
  have g3 := D8.im k9 (D7.im k8 ((D5.im k6 (D4.im k5 (D3.im k4 i3))).same s7))
  have g7 := D8.im k9 (D7.im k8 i7)
  have g8 := D8.im k9 i8
  refine m_new (.cons g1 (.cons g2 (.cons g3 (.cons (.int _) (.cons g7 (.cons g8 (.cons i9 .nil))))))) (by simp) (fun q H10 s10 hq im => ?_)
  have kk := ((((((((k1.trans k2).trans k3).trans k4).trans k5).trans k6).trans (Keep.of s7)).trans k8).trans k9).trans (Keep.of s10)
  refine hQ _ _ _ kk (D9.same s10) im rfl ?_ (wd_t (by simp) ?_)
  · rw [set7, c1, c2, c3, num_of h40 h41, costs2, num_of h50 h51, num_of h60 h61]
    show (true && (true && (true && (true && (true && (e8.all prepD && visD 0 e9)))))) = true
    rw [c8, c9]
    rfl
  · intro x hx
    simp only [List.mem_cons, List.not_mem_nil, or_false] at hx
    rcases hx with rfl | rfl | rfl | rfl | rfl | rfl | rfl
    · exact w1.mono (by decide) (by decide)
    · exact w2.mono (by decide) (by decide)
    · exact w3.mono (by decide) (by decide)
    · exact wd_i
    · refine wd_t (by simp) (fun x hx => ?_)
      simp only [List.mem_cons, List.not_mem_nil, or_false] at hx
      rcases hx with rfl | rfl <;> exact wd_i
    · exact w8
    · exact w9
def sp_law_odd (K : PySem.W.Frag) : Sp := fun vs H Q _ => ∃ (d : Addr) (L : List (Addr × HO)), vs = [.ref d] ∧ DrL H d L ∧ ∀ H' v e, Keep [d] H H' → DrL H' d L → Im H' v e → lenI 7 e = false → Wd 4 1 e → Q v H'
theorem sc_law_odd : FnScope ["draws", "pick"] ["draws"] (defScope (topS 28)) := ⟨rfl, rfl, rfl, by decide +kernel, rfl, by decide +kernel, by decide +kernel⟩
theorem ok_law_odd (T : Txt fa fn K mg) : Dn P w K mg base CX0 2 "_law_odd" ["draws"] (sp_law_odd K) := by
  refine mk_dn (d := dOf "_law_odd" 28) T 25 25 rfl rfl rfl rfl rfl sc_law_odd (by walk_at "len") (fun _ _ _ _ _ _ us hl => match us, hl with | [_], _ => rfl) (fun cdv A outer s H vs Q E hr h => ⟨_, (pss_cons (ps_set (i := 1) sc_law_odd.nd rfl (.inl rfl) (pe_callD (K := K) rfl (ok_law_next T) (hr.mono (by decide)) rfl pass0 (pa_cons (pv 0) (pa_cons pe_int pa_nil))))
      (pss_cons (ps_if (pt_cmpR (op_eqU (K := K) rfl hr.units) (pv 1) pe_int (nomark _)) (pss_one (ps_ret (pe_ixU (K := K) rfl (hu_of hr) (pe_lst (pa_cons pe_bl (pa_cons pe_bl pa_nil))) (pe_callD (K := K) rfl (ok_law_next T) (hr.mono (by decide)) rfl pass0 (pa_cons (pv 0) (pa_cons pe_int pa_nil)))))) pss_nil)
      (pss_cons (ps_if (pt_cmpR (op_eqU (K := K) rfl hr.units) (pv 1) pe_int (nomark _)) (pss_one (ps_ret pe_non)) pss_nil)
      (pss_cons (ps_if (pt_cmpR (op_eqU (K := K) rfl hr.units) (pv 1) pe_int (nomark _)) (pss_one (ps_ret (pe_ixU (K := K) rfl (hu_of hr) (pe_lst (pa_cons pe_str (pa_cons pe_str (pa_cons pe_str (pa_cons pe_str (pa_cons pe_str (pa_cons pe_str (pa_cons pe_str (pa_cons pe_str (pa_cons pe_str (pa_cons pe_str pa_nil))))))))))) (pe_callD (K := K) rfl (ok_law_next T) (hr.mono (by decide)) rfl pass0 (pa_cons (pv 0) (pa_cons pe_int pa_nil)))))) pss_nil)
      (pss_cons (ps_if (pt_cmpR (op_eqU (K := K) rfl hr.units) (pv 1) pe_int (nomark _)) (pss_one (ps_ret (pe_ixU (K := K) rfl (hu_of hr) (pe_lst (pa_cons (pe_tup pa_nil) (pa_cons (pe_tup (pa_cons pe_str pa_nil)) (pa_cons (pe_tup (pa_cons pe_str (pa_cons pe_int pa_nil))) (pa_cons (pe_tup (pa_cons pe_str (pa_cons pe_int pa_nil))) (pa_cons (pe_tup (pa_cons pe_int (pa_cons pe_int (pa_cons pe_int (pa_cons pe_str pa_nil))))) (pa_cons (pe_tup (pa_cons pe_int (pa_cons pe_int pa_nil))) pa_nil))))))) (pe_callD (K := K) rfl (ok_law_next T) (hr.mono (by decide)) rfl pass0 (pa_cons (pv 0) (pa_cons pe_int pa_nil)))))) pss_nil)
      (pss_cons (ps_if (pt_cmpR (op_eqU (K := K) rfl hr.units) (pv 1) pe_int (nomark _)) (pss_one (ps_ret (pe_ixU (K := K) rfl (hu_of hr) (pe_lst (pa_cons pe_int (pa_cons pe_int (pa_cons pe_int (pa_cons pe_int (pa_cons pe_int (pa_cons pe_int (pa_cons pe_int (pa_cons (pe_op op_sub pe_int pe_int) pa_nil))))))))) (pe_callD (K := K) rfl (ok_law_next T) (hr.mono (by decide)) rfl pass0 (pa_cons (pv 0) (pa_cons pe_int pa_nil)))))) pss_nil)
      (pss_one (ps_ret (pe_op op_sub (pe_callD (K := K) rfl (ok_law_next T) (hr.mono (by decide)) rfl pass0 (pa_cons (pv 0) (pa_cons pe_int pa_nil))) pe_int))))))))), ?_⟩)
  obtain ⟨d, L, rfl, D, hQ⟩ := h
  walk_at "go"
  refine use_nx D (by decide) (fun H1 v1 k1 D1 h10 h11 => ?_)
  walk_at "go"
  refine g_if (fun c => ?_) (fun c => ?_)
  · walk_at "go"
    refine use_pk D1 rfl rfl (by simp) (by simp) (fun H2 v k2 D2 hv => ?_)
    simp only [List.mem_cons, List.not_mem_nil, or_false] at hv
    rcases hv with rfl | rfl
    · exact hQ _ _ _ (k1.trans k2) D2 (.bl _) rfl wd_b
    · exact hQ _ _ _ (k1.trans k2) D2 (.bl _) rfl wd_b
  walk_at "go"
  refine g_if (fun c => ?_) (fun c => ?_)
  · walk_at "go"
    exact hQ _ _ _ k1 D1 .non rfl wd_o
  walk_at "go"
  refine g_if (fun c => ?_) (fun c => ?_)
  · walk_at "go"
    refine use_pk D1 rfl rfl (by simp) (by simp) (fun H2 v k2 D2 hv => ?_)
    simp only [List.mem_cons, List.not_mem_nil, or_false] at hv
    rcases hv with rfl | rfl | rfl | rfl | rfl | rfl | rfl | rfl | rfl | rfl <;> exact hQ _ _ _ (k1.trans k2) D2 (.str _) rfl (wd_s (by decide +kernel))
  walk_at "go"
  refine g_if (fun c => ?_) (fun c => ?_)
  · walk_at "go"
    refine m_new (ds := []) .nil (by simp) (fun p1 H2 s1 hp1 i1 => ?_)
    walk_at "go"
    refine m_new (.cons (.str _) .nil) (by simp) (fun p2 H3 s2 hp2 i2 => ?_)
    walk_at "go"
    refine m_new (.cons (.str _) (.cons (.int _) .nil)) (by simp) (fun p3 H4 s3 hp3 i3 => ?_)
    walk_at "go"
    refine m_new (.cons (.str _) (.cons (.int _) .nil)) (by simp) (fun p4 H5 s4 hp4 i4 => ?_)
    walk_at "go"
    refine m_new (.cons (.int _) (.cons (.int _) (.cons (.int _) (.cons (.str _) .nil)))) (by simp) (fun p5 H6 s5 hp5 i5 => ?_)
    walk_at "go"
    refine m_new (.cons (.int _) (.cons (.int _) .nil)) (by simp) (fun p6 H7 s6 hp6 i6 => ?_)
    have D7 := (((((D1.same s1).same s2).same s3).same s4).same s5).same s6
    have k7 := ((((((k1.trans (Keep.of s1)).trans (Keep.of s2)).trans (Keep.of s3)).trans (Keep.of s4)).trans (Keep.of s5)).trans (Keep.of s6))
    have ims := Ims.cons (i1.same ((((s2.trans s3).trans s4).trans s5).trans s6)) (.cons (i2.same (((s3.trans s4).trans s5).trans s6)) (.cons (i3.same ((s4.trans s5).trans s6)) (.cons (i4.same (s5.trans s6)) (.cons (i5.same s6) (.cons i6 .nil)))))
    walk_at "go"
    refine use_pk D7 rfl rfl (by simp) (by simp) (fun H8 v k8 D8 hv => ?_)
    obtain ⟨e, he, hi⟩ := (D7.ims k8 ims).mem hv
    refine hQ _ _ e (k7.trans k8) D8 hi ?_ ?_
    · simp only [List.mem_cons, List.not_mem_nil, or_false] at he
      rcases he with rfl | rfl | rfl | rfl | rfl | rfl <;> rfl
    · simp only [List.mem_cons, List.not_mem_nil, or_false] at he
      rcases he with rfl | rfl | rfl | rfl | rfl | rfl
      · exact wd_t (by simp) (fun x hx => by cases hx)
      all_goals
        refine wd_t (by simp) (fun x hx => ?_)
        simp only [List.mem_cons, List.not_mem_nil, or_false] at hx
        rcases hx with rfl | rfl | rfl | rfl <;> first | exact wd_i | exact wd_s (by decide +kernel)
  walk_at "go"
  refine g_if (fun c => ?_) (fun c => ?_)
  · walk_at "go"
    refine use_pk D1 rfl rfl (by simp) (by simp) (fun H2 v k2 D2 hv => ?_)
    simp only [List.mem_cons, List.not_mem_nil, or_false] at hv
    rcases hv with rfl | rfl | rfl | rfl | rfl | rfl | rfl | rfl <;> exact hQ _ _ _ (k1.trans k2) D2 (.int _) rfl wd_i
  walk_at "go"
  refine use_nx D1 (by decide) (fun H2 v2 k2 D2 h20 h21 => ?_)
  walk_at "go"
  exact hQ _ _ _ (k1.trans k2) D2 (.int _) rfl wd_i
def sp_law_turned (K : PySem.W.Frag) : Nat → Sp
  | 0 => fun _ _ _ _ => False
  | n + 1 => fun vs H Q _ => ∃ (d : Addr) (L : List (Addr × HO)) (x : V) (m : Int) (e : PyData) (W k : Nat), vs = [.ref d, x, .int m] ∧ DrL H d L ∧ Im H x e ∧ Wd W (k + 1) e ∧ m ≤ (n : Int) ∧ m ≤ (k : Int) ∧ 4 ≤ W ∧ W ≤ 1000 ∧
    ∀ H' v e', Keep [d] H H' → DrL H' d L → Im H' v e' → Wd (3 * W) (k + 1) e' → Q v H'
theorem wd_one {n k : Nat} {x : PyData} (h : Wd n k x) (hn : 1 ≤ n) : Wd n (k + 1) (.tuple [x]) := wd_t (by simpa using hn) fun y hy => by
  rw [List.mem_singleton.mp hy]
  exact h
theorem sc_law_turned : FnScope ["draws", "thing", "depth", "at", "pick"] ["draws", "thing", "depth"] (defScope (topS 29)) := ⟨rfl, rfl, rfl, by decide +kernel, rfl, by decide +kernel, by decide +kernel⟩
theorem ok_law_turned (T : Txt fa fn K mg) : ∀ n : Nat, Dn P w K mg base CX0 (3 + n) "_law_turned" ["draws", "thing", "depth"] (sp_law_turned K n)
| 0 => Dn.imp (mk_dn (k := 2) (d := dOf "_law_turned" 29) T 26 26 rfl rfl rfl rfl rfl sc_law_turned (sp := fun _ _ _ _ => False) (fun _ _ _ _ h => h.elim) (fun _ _ _ _ _ _ us hl => match us, hl with | [_, _, _], _ => rfl) (fun _ _ _ _ _ _ _ _ _ h => h.elim)) (fun _ _ _ _ h => (h : False))
| n + 1 => by
  refine mk_dn (k := 3 + n) (d := dOf "_law_turned" 29) T 26 26 rfl rfl rfl rfl rfl sc_law_turned (by walk_at "len") (fun _ _ _ _ _ _ us hl => match us, hl with | [_, _, _], _ => rfl) (fun cdv A outer s H vs Q E hr h => ⟨_, (pss_cons (ps_if (PW.pt (pw_or (pt_not (pt_tru (K := K) rfl (pe_callB (c_isi (K := K) rfl) rfl (T.free 32 rfl) (by decide +kernel) (pa_cons (pv 1) (pa_cons (pe_bltn (v := .ty "tuple") rfl (T.free 37 rfl) (by decide +kernel) rfl) pa_nil))))) (pw_or (pt_cmpR o_lt (pv 2) pe_int (nomark _)) (pw_or1 (pt_cmpR (op_eqU (K := K) rfl hr.units) (pe_callB (c_len (K := K) rfl) rfl (T.free 33 rfl) (by decide +kernel) (pa_cons (pv 1) pa_nil)) pe_int (nomark _)))))) (pss_one (ps_ret (pe_callD (K := K) rfl (ok_law_odd T) (hr.mono (by omega)) rfl pass0 (pa_cons (pv 0) pa_nil)))) pss_nil)
      (pss_cons (ps_set (i := 3) sc_law_turned.nd rfl (.inl rfl) (pe_callD (K := K) rfl (ok_law_next T) (hr.mono (by omega)) rfl pass0 (pa_cons (pv 0) (pa_cons (pe_callB (c_len (K := K) rfl) rfl (T.free 33 rfl) (by decide +kernel) (pa_cons (pv 1) pa_nil)) pa_nil))))
      (pss_cons (ps_set (i := 4) sc_law_turned.nd rfl (.inl rfl) (pe_callD (K := K) rfl (ok_law_next T) (hr.mono (by omega)) rfl pass0 (pa_cons (pv 0) (pa_cons pe_int pa_nil))))
      (pss_cons (ps_if (pt_cmpR (op_eqU (K := K) rfl hr.units) (pv 4) pe_int (nomark _)) (pss_one (ps_ret (pe_op (op_addU (K := K) rfl) (pe_slice (sl_U (K := K) rfl) (pv 1) po_none (po_some (pv 3))) (pe_slice (sl_U (K := K) rfl) (pv 1) (po_some (pe_op (op_addU (K := K) rfl) (pv 3) pe_int)) po_none)))) pss_nil)
      (pss_cons (ps_if (pt_cmpR (op_eqU (K := K) rfl hr.units) (pv 4) pe_int (nomark _)) (pss_one (ps_ret (pe_op (op_addU (K := K) rfl) (pe_op (op_addU (K := K) rfl) (pe_slice (sl_U (K := K) rfl) (pv 1) po_none (po_some (pv 3))) (pe_tup (pa_cons (pe_ixU (K := K) rfl (hu_of hr) (pv 1) (pv 3)) pa_nil))) (pe_slice (sl_U (K := K) rfl) (pv 1) (po_some (pv 3)) po_none)))) pss_nil)
      (pss_cons (ps_if (PW.pt (pw_and (pt_cmpR (op_eqU (K := K) rfl hr.units) (pv 4) pe_int (nomark _)) (pw_and1 (pt_cmpR o_gt (pv 3) pe_int (nomark _))))) (pss_one (ps_ret (pe_op (op_addU (K := K) rfl) (pe_op (op_addU (K := K) rfl) (pe_slice (sl_U (K := K) rfl) (pv 1) po_none (po_some (pe_op op_sub (pv 3) pe_int))) (pe_tup (pa_cons (pe_ixU (K := K) rfl (hu_of hr) (pv 1) (pv 3)) (pa_cons (pe_ixU (K := K) rfl (hu_of hr) (pv 1) (pe_op op_sub (pv 3) pe_int)) pa_nil)))) (pe_slice (sl_U (K := K) rfl) (pv 1) (po_some (pe_op (op_addU (K := K) rfl) (pv 3) pe_int)) po_none)))) pss_nil)
      (pss_one (ps_ret (pe_op (op_addU (K := K) rfl) (pe_op (op_addU (K := K) rfl) (pe_slice (sl_U (K := K) rfl) (pv 1) po_none (po_some (pv 3))) (pe_tup (pa_cons (pe_callD (K := K) rfl (ok_law_turned T n) (hr.mono (by omega)) rfl pass0 (pa_cons (pv 0) (pa_cons (pe_ixU (K := K) rfl (hu_of hr) (pv 1) (pv 3)) (pa_cons (pe_op op_sub (pv 2) pe_int) pa_nil)))) pa_nil))) (pe_slice (sl_U (K := K) rfl) (pv 1) (po_some (pe_op (op_addU (K := K) rfl) (pv 3) pe_int)) po_none)))))))))), ?_⟩)
  obtain ⟨d, L, x, m, e, W, k, rfl, D, him, wd, hmn, hmk, hW0, hW1, hQ⟩ := h
  have odd : ∀ (Q' : VK) (E' : XK), (∀ v H', Q v H' → Q' v H') → sp_law_odd K ([.ref d] ++ []) H Q' E' := fun Q' E' hq => ⟨d, L, rfl, D, fun H1 v e k1 D1 i1 _ w1 => hq _ _ (hQ H1 v e k1 D1 i1 (w1.mono (by omega) (by omega)))⟩
  walk_at "go"
  refine m_isiU him ?_
  walk_at "go"
  refine g_ifBn (fun c => ?_) (fun c => ?_)
  · walk_at "go"
    exact odd _ _ (fun _ _ h => h)
  obtain ⟨ds, rfl⟩ := isT_inv c
  walk_at "go"
  refine g_if (fun c1 => ?_) (fun c1 => ?_)
  · walk_at "go"
    exact odd _ _ (fun _ _ h => h)
  walk_at "go"
  refine m_len him ?_
  walk_at "go"
  refine g_if (fun c2 => ?_) (fun c2 => ?_)
  · walk_at "go"
    exact odd _ _ (fun _ _ h => h)
  walk_at "go"
  refine m_len him ?_
  walk_at "go"
  refine use_nx D (by omega) (fun H1 v1 k1 D1 h10 h11 => ?_)
  have im1 := D.im k1 him
  obtain ⟨t, rfl⟩ : ∃ t : Nat, v1 = (t : Int) := ⟨v1.toNat, by omega⟩
  have ht : t < ds.length := by omega
  have hd : ds[t]? = some ds[t] := List.getElem?_eq_getElem ht
  generalize ds[t] = dt at hd
  have wt : Wd W k dt := wd.2 _ (List.mem_of_getElem? hd)
  obtain ⟨k', rfl⟩ : ∃ k', k = k' + 1 := ⟨k - 1, by omega⟩
  have hlen := wd.1
  walk_at "go"
  refine use_nx D1 (by decide) (fun H2 v2 k2 D2 h20 h21 => ?_)
  have im2 := D1.im k2 im1
  have kk2 := k1.trans k2
  walk_at "go"
  refine g_if (fun c3 => ?_) (fun c3 => ?_)
  · walk_at "go"
    refine m_sl im2 (fun p3 H3 s3 i3 => ?_)
    walk_at "go"
    refine m_sl (im2.same s3) (fun p4 H4 s4 i4 => ?_)
    refine m_cat (i3.same s4) i4 ?_ (fun p5 H5 s5 i5 => ?_)
    · have a1 := cutD_length ds none (some (t : Int))
      have a2 := cutD_length ds (some ((t : Int) + 1)) none
      omega
    · refine hQ _ _ _ (kk2.trans (Keep.of ((s3.trans s4).trans s5))) (((D2.same s3).same s4).same s5) i5 ((wd.cut.cat wd.cut).mono (by omega) (by omega))
  walk_at "go"
  refine g_if (fun c4 => ?_) (fun c4 => ?_)
  · walk_at "go"
    refine m_sl im2 (fun p3 H3 s3 i3 => ?_)
    walk_at "go"
    refine m_ix (im2.same s3) (n := t) rfl hd (fun v hv => ?_)
    walk_at "go"
    refine m_new (.cons hv .nil) (by simp) (fun p4 H4 s4 hp4 i4 => ?_)
    refine m_cat (i3.same s4) i4 ?_ (fun p5 H5 s5 i5 => ?_)
    · have a1 := cutD_length ds none (some (t : Int))
      simp only [List.length_cons, List.length_nil]
      omega
    walk_at "go"
    have sm5 := (s3.trans s4).trans s5
    refine m_sl (im2.same sm5) (fun p6 H6 s6 i6 => ?_)
    refine m_cat (i5.same s6) i6 ?_ (fun p7 H7 s7 i7 => ?_)
    · have a1 := cutD_length ds none (some (t : Int))
      have a2 := cutD_length ds (some (t : Int)) none
      simp only [List.length_append, List.length_cons, List.length_nil]
      omega
    · refine hQ _ _ _ (kk2.trans (Keep.of ((sm5.trans s6).trans s7))) (((D2.same sm5).same s6).same s7) i7 (((wd.cut.cat (wd_one wt (by omega))).cat wd.cut).mono (by omega) (by omega))
  walk_at "go"
  refine g_if (fun c5 => ?_) (fun c5 => ?_)
  · walk_at "go"
    refine g_if (fun c6 => ?_) (fun c6 => ?_)
    · obtain ⟨u, rfl⟩ : ∃ u, t = u + 1 := ⟨t - 1, by omega⟩
      have hu : ds[u]? = some ds[u] := List.getElem?_eq_getElem (by omega)
      generalize ds[u] = du at hu
      have wu : Wd W (k' + 1) du := wd.2 _ (List.mem_of_getElem? hu)
      walk_at "go"
      refine m_sl im2 (fun p3 H3 s3 i3 => ?_)
      walk_at "go"
      refine m_ix (im2.same s3) (n := u + 1) rfl hd (fun v hv => ?_)
      walk_at "go"
      refine m_ix (im2.same s3) (n := u) (by omega) hu (fun v' hv' => ?_)
      walk_at "go"
      refine m_new (.cons hv (.cons hv' .nil)) (by simp) (fun p4 H4 s4 hp4 i4 => ?_)
      refine m_cat (i3.same s4) i4 ?_ (fun p5 H5 s5 i5 => ?_)
      · have a1 := cutD_length ds none (some (((u + 1 : Nat) : Int) - 1))
        simp only [List.length_cons, List.length_nil]
        omega
      walk_at "go"
      have sm5 := (s3.trans s4).trans s5
      refine m_sl (im2.same sm5) (fun p6 H6 s6 i6 => ?_)
      refine m_cat (i5.same s6) i6 ?_ (fun p7 H7 s7 i7 => ?_)
      · have a1 := cutD_length ds none (some (((u + 1 : Nat) : Int) - 1))
        have a2 := cutD_length ds (some (((u + 1 : Nat) : Int) + 1)) none
        simp only [List.length_append, List.length_cons, List.length_nil]
        omega
      · refine hQ _ _ _ (kk2.trans (Keep.of ((sm5.trans s6).trans s7))) (((D2.same sm5).same s6).same s7) i7 (((wd.cut.cat (wd_t (n := W) (by simp; omega) ?_)).cat wd.cut).mono (by omega) (by omega))
        intro y hy
        simp only [List.mem_cons, List.not_mem_nil, or_false] at hy
        rcases hy with rfl | rfl
        · exact wt
        · exact wu
    · walk_at "go"
      refine m_sl im2 (fun p3 H3 s3 i3 => ?_)
      walk_at "go"
      refine m_ix (im2.same s3) (n := t) rfl hd (fun v hv => ?_)
      walk_at "go"
      obtain ⟨n', rfl⟩ : ∃ n', n = n' + 1 := ⟨n - 1, by omega⟩
      refine ⟨d, L, v, m - 1, dt, W, k', rfl, D2.same s3, hv, wt, by omega, by omega, hW0, hW1, fun H4 v4 e4 k4 D4 i4 w4 => ?_⟩
      walk_at "go"
      refine m_new (.cons i4 .nil) (by simp) (fun p5 H5 s5 hp5 i5 => ?_)
      have i3' := (D2.same s3).im k4 i3
      refine m_cat (i3'.same s5) i5 ?_ (fun p6 H6 s6 i6 => ?_)
      · have a1 := cutD_length ds none (some (t : Int))
        simp only [List.length_cons, List.length_nil]
        omega
      walk_at "go"
      have im6 := (((D2.same s3).im k4 (im2.same s3)).same s5).same s6
      refine m_sl im6 (fun p7 H7 s7 i7 => ?_)
      refine m_cat (i6.same s7) i7 ?_ (fun p8 H8 s8 i8 => ?_)
      · have a1 := cutD_length ds none (some (t : Int))
        have a2 := cutD_length ds (some ((t : Int) + 1)) none
        simp only [List.length_append, List.length_cons, List.length_nil]
        omega
      · refine hQ _ _ _ (((kk2.trans (Keep.of s3)).trans k4).trans (Keep.of ((((s5.trans s6).trans s7).trans s8)))) ((((D4.same s5).same s6).same s7).same s8) i8 ?_
        refine ⟨?_, fun y hy => ?_⟩
        · have a1 := cutD_length ds none (some (t : Int))
          have a2 := cutD_length ds (some ((t : Int) + 1)) none
          simp only [List.length_append, List.length_cons, List.length_nil]
          omega
        · rcases List.mem_append.mp hy with hy | hy
          · rcases List.mem_append.mp hy with hy | hy
            · exact (wd.2 y (cutD_mem hy)).mono (by omega) (Nat.le_refl _)
            · rw [List.mem_singleton.mp hy]
              exact w4
          · exact (wd.2 y (cutD_mem hy)).mono (by omega) (Nat.le_refl _)
  · walk_at "go"
    refine m_sl im2 (fun p3 H3 s3 i3 => ?_)
    walk_at "go"
    refine m_ix (im2.same s3) (n := t) rfl hd (fun v hv => ?_)
    walk_at "go"
    obtain ⟨n', rfl⟩ : ∃ n', n = n' + 1 := ⟨n - 1, by omega⟩
    refine ⟨d, L, v, m - 1, dt, W, k', rfl, D2.same s3, hv, wt, by omega, by omega, hW0, hW1, fun H4 v4 e4 k4 D4 i4 w4 => ?_⟩
    walk_at "go"
    refine m_new (.cons i4 .nil) (by simp) (fun p5 H5 s5 hp5 i5 => ?_)
    have i3' := (D2.same s3).im k4 i3
    refine m_cat (i3'.same s5) i5 ?_ (fun p6 H6 s6 i6 => ?_)
    · have a1 := cutD_length ds none (some (t : Int))
      simp only [List.length_cons, List.length_nil]
      omega
    walk_at "go"
    have im6 := (((D2.same s3).im k4 (im2.same s3)).same s5).same s6
    refine m_sl im6 (fun p7 H7 s7 i7 => ?_)
    refine m_cat (i6.same s7) i7 ?_ (fun p8 H8 s8 i8 => ?_)
    · have a1 := cutD_length ds none (some (t : Int))
      have a2 := cutD_length ds (some ((t : Int) + 1)) none
      simp only [List.length_append, List.length_cons, List.length_nil]
      omega
    · refine hQ _ _ _ (((kk2.trans (Keep.of s3)).trans k4).trans (Keep.of ((((s5.trans s6).trans s7).trans s8)))) ((((D4.same s5).same s6).same s7).same s8) i8 ?_
      refine ⟨?_, fun y hy => ?_⟩
      · have a1 := cutD_length ds none (some (t : Int))
        have a2 := cutD_length ds (some ((t : Int) + 1)) none
        simp only [List.length_append, List.length_cons, List.length_nil]
        omega
      · rcases List.mem_append.mp hy with hy | hy
        · rcases List.mem_append.mp hy with hy | hy
          · exact (wd.2 y (cutD_mem hy)).mono (by omega) (Nat.le_refl _)
          · rw [List.mem_singleton.mp hy]
            exact w4
        · exact (wd.2 y (cutD_mem hy)).mono (by omega) (Nat.le_refl _)
def sp_law (K : PySem.W.Frag) : Sp := fun vs H Q _ => ∃ (a : Addr) (ns : List Int), vs = [.ref a] ∧ SqL K H a (ns.map V.int) ∧ ns.length ≤ 63 ∧ ∀ H', Q (.bl true) H'
theorem sc_law : FnScope ["script", "draws", "settings", "turn", "other", "cache", "guess"] ["script"] (defScope (topS 30)) := ⟨rfl, rfl, rfl, by decide +kernel, rfl, by decide +kernel, by decide +kernel⟩
theorem ok_law (T : Txt fa fn K mg) : Dn P w K mg base CX0 8 "law" ["script"] (sp_law K) := by
  refine mk_dn (d := dOf "law" 30) T 27 27 rfl rfl rfl rfl rfl sc_law (by walk_at "len") (fun _ _ _ _ _ _ us hl => match us, hl with | [_], _ => rfl) (fun cdv A outer s H vs Q E hr h => ⟨_, (pss_cons (ps_set (i := 1) sc_law.nd rfl (.inl rfl) (pe_callD (K := K) rfl (ok_law_reader T) (hr.mono (by decide)) rfl pass0 (pa_cons (pv 0) pa_nil)))
      (pss_cons (ps_set (i := 2) sc_law.nd rfl (.inl rfl) (pe_callD (K := K) rfl (ok_law_settings T) (hr.mono (by decide)) rfl pass0 (pa_cons (pv 1) (pa_cons pe_int (pa_cons (pe_op (op_addU (K := K) rfl) pe_int (pe_callD (K := K) rfl (ok_law_next T) (hr.mono (by decide)) rfl pass0 (pa_cons (pv 1) (pa_cons pe_int pa_nil)))) (pa_cons pe_int pa_nil))))))
      (pss_cons (ps_if (PW.pt (pw_or (pt_not (pt_tru (K := K) rfl (pe_callD (K := K) rfl (ok_law_good T) (hr.mono (by decide)) rfl pass0 (pa_cons (pv 2) pa_nil)))) (pw_or1 (pt_cmpR op_notBl (pe_callD (K := K) rfl (ok_is_settings T) (hr.mono (by decide)) rfl pass0 (pa_cons (pv 2) pa_nil)) pe_bl (nomark _))))) (pss_one (ps_ret pe_bl)) pss_nil)
      (pss_cons (ps_for PassesOwn.never rfl (pi_r1 rfl (T.free 35 rfl) (pa_cons pe_int pa_nil)) (pg_name (i := 3) sc_law.nd rfl (.inl rfl)) (pss_cons (ps_set (i := 4) sc_law.nd rfl (.inl rfl) (pe_callD (K := K) rfl (ok_law_turned T 4) (hr.mono (by decide)) rfl pass0 (pa_cons (pv 1) (pa_cons (pv 2) (pa_cons (pe_op (op_addU (K := K) rfl) pe_int (pe_callD (K := K) rfl (ok_law_next T) (hr.mono (by decide)) rfl pass0 (pa_cons (pv 1) (pa_cons pe_int pa_nil)))) pa_nil)))))
      (pss_cons (ps_join (ps_if (pt_cmpR (op_eqU (K := K) rfl hr.units) (pe_callD (K := K) rfl (ok_law_next T) (hr.mono (by decide)) rfl pass0 (pa_cons (pv 1) (pa_cons pe_int pa_nil))) pe_int (nomark _)) (pss_one (ps_set (i := 4) sc_law.nd rfl (.inl rfl) (pe_callD (K := K) rfl (ok_law_turned T 4) (hr.mono (by decide)) rfl pass0 (pa_cons (pv 1) (pa_cons (pv 4) (pa_cons (pe_op (op_addU (K := K) rfl) pe_int (pe_callD (K := K) rfl (ok_law_next T) (hr.mono (by decide)) rfl pass0 (pa_cons (pv 1) (pa_cons pe_int pa_nil)))) pa_nil)))))) pss_nil))
      (pss_cons (ps_if (pt_cmpR (op_neU (K := K) rfl hr.units) (pe_callD (K := K) rfl (ok_is_settings T) (hr.mono (by decide)) rfl pass0 (pa_cons (pv 4) pa_nil)) (pe_callD (K := K) rfl (ok_law_good T) (hr.mono (by decide)) rfl pass0 (pa_cons (pv 4) pa_nil)) (nomark _)) (pss_one (ps_ret pe_bl)) pss_nil)
      (pss_cons (ps_set (i := 5) sc_law.nd rfl (.inl rfl) (pe_callD (K := K) rfl (ok_law_turned T 4) (hr.mono (by decide)) rfl pass0 (pa_cons (pv 1) (pa_cons (pe_ixU (K := K) rfl (hu_of hr) (pv 2) (pe_callD (K := K) rfl (ok_law_next T) (hr.mono (by decide)) rfl pass0 (pa_cons (pv 1) (pa_cons pe_int pa_nil)))) (pa_cons pe_int pa_nil)))))
      (pss_cons (ps_if (pt_cmpR (op_neU (K := K) rfl hr.units) (pe_callD (K := K) rfl (ok_is_cache T) (hr.mono (by decide)) rfl pass0 (pa_cons (pv 5) pa_nil)) (pe_callD (K := K) rfl (ok_law_good_cache T) (hr.mono (by decide)) rfl pass0 (pa_cons (pv 5) pa_nil)) (nomark _)) (pss_one (ps_ret pe_bl)) pss_nil)
      (pss_cons (ps_set (i := 6) sc_law.nd rfl (.inl rfl) (pe_callD (K := K) rfl (ok_law_turned T 4) (hr.mono (by decide)) rfl pass0 (pa_cons (pv 1) (pa_cons (pe_ixU (K := K) rfl (hu_of hr) (pv 2) pe_int) (pa_cons pe_int pa_nil)))))
      (pss_one (ps_if (pt_cmpR (op_neU (K := K) rfl hr.units) (pe_callD (K := K) rfl (ok_is_predictor T) (hr.mono (by decide)) rfl pass0 (pa_cons (pv 6) pa_nil)) (pe_callD (K := K) rfl (ok_law_good_predictor T) (hr.mono (by decide)) rfl pass0 (pa_cons (pv 6) pa_nil)) (nomark _)) (pss_one (ps_ret pe_bl)) pss_nil)))))))))
      (pss_one (ps_ret (pe_cmpR op_isBl (pe_callD (K := K) rfl (ok_is_settings T) (hr.mono (by decide)) rfl pass0 (pa_cons (pe_callD (K := K) rfl (ok_law_odd T) (hr.mono (by decide)) rfl pass0 (pa_cons (pv 1) pa_nil)) pa_nil)) pe_bl (nomark _)))))))), ?_⟩)
  obtain ⟨a, ns, rfl, hS, hlen, hQ⟩ := h
  walk_at "go"
  refine use_readerD hS hlen (fun H1 d s1 hd D1 => ?_)
  walk_at "go"
  refine use_nx D1 (by decide) (fun H2 v2 k2 D2 h20 h21 => ?_)
  walk_at "go"
  refine ⟨d, [], 20, 1 + v2, 64, rfl, D2, by decide, by decide, by omega, by omega, by decide, by decide, fun H3 x es k3 D3 i3 hl c3 w3 => ?_⟩
  walk_at "go"
  refine ⟨x, _, rfl, i3, w3.mono (by decide) (by decide), fun H4 s4 => ?_⟩
  rw [c3]
  have D4 := D3.same s4
  have i4 := i3.same s4
  walk_at "go"
  refine ⟨x, _, rfl, i4, w3.mono (by decide) (by decide), fun H5 s5 => ?_⟩
  rw [c3]
  have D5 := D4.same s5
  have i5 := i4.same s5
  walk_at "go"
  refine g_ifN (fun h => absurd rfl h) (fun _ => ?_)
  walk_at "go"
  have at_ : ∀ n : Nat, n < 7 → ∃ e, es[n]? = some e ∧ Wd 12 2 e := fun n hn => by
    have h : es[n]? = some (es[n]'(by omega)) := List.getElem?_eq_getElem _
    exact ⟨_, h, w3.2 _ (List.mem_of_getElem? h)⟩
  refine f_range (fun i σ H' => ∃ (t o c g : Option V), σ = [some (.ref a), some (.ref d), some x, t, o, c, g] ∧ DrL H' d [] ∧ Im H' x (.tuple es)) ⟨_, _, _, _, rfl, D5, i5⟩ ?_ ?_
  · rintro i σ H6 hi ⟨t, o, c, g, rfl, D6, i6⟩
    walk_at "go"
    refine use_nx D6 (by decide) (fun H7 v7 k7 D7 h70 h71 => ?_)
    have i7 := D6.im k7 i6
    walk_at "go"
    refine ⟨d, [], x, 1 + v7, _, 12, 3, rfl, D7, i7, w3.mono (by decide) (by decide), (by show 1 + v7 ≤ (3 : Int); omega), (by show 1 + v7 ≤ (3 : Int); omega), by decide, by decide, fun H8 y e8 k8 D8 j8 w8 => ?_⟩
    have i8 := D7.im k8 i7
    walk_at "go"
    refine ⟨fun σ' H' => ∃ (y : V) (e : PyData) (c g : Option V), σ' = [some (.ref a), some (.ref d), some x, some (.int (0 + i)), some y, c, g] ∧ DrL H' d [] ∧ Im H' x (.tuple es) ∧ Im H' y e ∧ Wd 1000 4 e, ?_, ?_⟩
    · walk_at "go"
      refine use_nx D8 (by decide) (fun H9 v9 k9 D9 h90 h91 => ?_)
      have i9 := D8.im k9 i8
      have j9 := D8.im k9 j8
      walk_at "go"
      refine g_if (fun c0 => ?_) (fun c0 => ?_)
      · walk_at "go"
        refine use_nx D9 (by decide) (fun H10 v10 k10 D10 h100 h101 => ?_)
        walk_at "go"
        refine ⟨d, [], y, 1 + v10, _, 36, 3, rfl, D10, D9.im k10 j9, w8, (by show 1 + v10 ≤ (3 : Int); omega), (by show 1 + v10 ≤ (3 : Int); omega), by decide, by decide, fun H11 y' e11 k11 D11 j11 w11 => ?_⟩
        walk_at "go"
        exact ⟨y', e11, _, _, rfl, D11, D10.im k11 (D9.im k10 i9), j11, w11.mono (by decide) (by decide)⟩
      · walk_at "go"
        exact ⟨y, e8, _, _, rfl, D9, i9, j9, w8.mono (by decide) (by decide)⟩
    · rintro σ' H10 ⟨y, e, c, g, rfl, D10, i10, j10, w10⟩
      walk_at "go"
      refine ⟨y, e, rfl, j10, w10, fun H11 s11 => ?_⟩
      walk_at "go"
      refine ⟨y, e, rfl, j10.same s11, w10, fun H12 s12 => ?_⟩
      walk_at "go"
      have D12 := (D10.same s11).same s12
      have i12 := (i10.same s11).same s12
      rw [decide_eq_true (rfl : setD e = setD e)]
      walk_at "go"
      refine use_nx D12 (by decide) (fun H13 v13 k13 D13 h130 h131 => ?_)
      have i13 := D12.im k13 i12
      obtain ⟨e13, q13, z13⟩ := at_ v13.toNat (by omega)
      walk_at "go"
      refine m_ix i13 (n := v13.toNat) (by omega) q13 (fun y13 hy13 => ?_)
      walk_at "go"
      refine ⟨d, [], y13, 1, _, 12, 2, rfl, D13, hy13, z13.mono (by decide) (by decide), by decide, by decide, by decide, by decide, fun H14 y14 e14 k14 D14 j14 w14 => ?_⟩
      have i14 := D13.im k14 i13
      walk_at "go"
      refine ⟨y14, e14, rfl, j14, w14.lay.mono (by decide), fun H15 s15 => ?_⟩
      walk_at "go"
      refine ⟨y14, e14, rfl, j14.same s15, fun H16 s16 => ?_⟩
      walk_at "go"
      have D16 := (D14.same s15).same s16
      have i16 := (i14.same s15).same s16
      rw [decide_eq_true (rfl : cacheD e14 = cacheD e14)]
      walk_at "go"
      obtain ⟨e17, q17, z17⟩ := at_ 2 (by decide)
      refine m_ix i16 (n := 2) rfl q17 (fun y17 hy17 => ?_)
      walk_at "go"
      refine ⟨d, [], y17, 1, _, 12, 2, rfl, D16, hy17, z17.mono (by decide) (by decide), by decide, by decide, by decide, by decide, fun H18 y18 e18 k18 D18 j18 w18 => ?_⟩
      have i18 := D16.im k18 i16
      walk_at "go"
      refine ⟨y18, e18, rfl, j18, w18.lay.mono (by decide), fun H19 s19 => ?_⟩
      walk_at "go"
      refine ⟨y18, e18, rfl, j18.same s19, fun H20 s20 => ?_⟩
      walk_at "go"
      rw [decide_eq_true (rfl : predD e18 = predD e18)]
      walk_at "go"
      exact ⟨_, _, _, _, rfl, (D18.same s19).same s20, (i18.same s19).same s20⟩
  · rintro σ H6 ⟨t, o, c, g, rfl, D6, i6⟩
    walk_at "go"
    refine ⟨d, [], rfl, D6, fun H7 v7 e7 k7 D7 i7 c7 w7 => ?_⟩
    walk_at "go"
    refine ⟨v7, e7, rfl, i7, w7.mono (by decide) (by decide), fun H8 s8 => ?_⟩
    rw [set_not c7]
    walk_at "go"
    exact q_bl (by rfl) (hQ _)

/-! ### the head -/
abbrev R : PySem.W.OpenRow := PySem.W.OpenLaw.row PySem.Challenge.rw_sameclock_k26_settings_and_what_is_none
abbrev hk : PySem.W.Hook := He.hookD 5 fa fn
def ob (s : PySem.W.SharedT) : He.AlD := He.obsDG 5 fa fn (HandSHeadRun.getT s)
theorem ob_eq (s : PySem.W.SharedT) : ob s = hk.obs s.abs := He.obsDG_eq (HandSHeadRun.getT_eq s)
theorem run (w : World) : HandSHeadRun.RunEq R (PySem.W.view R.prog [30]) hk ob 3000 ["LARGEST", "is_number", "is_row_of", "is_power", "is_cache", "is_predictor", "is_preparation", "are_visits", "is_settings", "_law_draws", "_law_reader", "_law_next", "_law_cache", "_law_predictor", "_law_before", "_law_visits", "_law_settings", "_law_whole", "_law_among", "_law_long", "_law_power", "_law_good_cache", "_law_good_predictor", "_law_good_part", "_law_good_visits", "_law_good", "_law_odd", "_law_turned"] w := by
  intro os
  kernel_rfl
theorem facts {P : Program} {w : World} {K : PySem.W.Frag} {h : Heap} {mg : Str → Option Value} {f : Addr} (X : K.In h) (G : h.Ns mainGlobals mg) (hfa : mg ("law" : Str) = some (.ref f)) (c : He.SaysD fa fn K) :
    ∃ fd : FuncData, (∀ (s : Shared) (v : Value), BindsTo s fd ⟨[v], []⟩ [("script", v)]) ∧ ∀ base : Heap, K.In base → base.Ns mainGlobals mg → FnOk P w K mg base CX0 8 f fd ["script"] (sp_law K) :=
  law_facts (d := dOf "law" 30) X G hfa c 27 27 rfl rfl rfl rfl rfl (fun _ _ _ _ _ _ us hl => match us, hl with | [_], _ => rfl) fun _ T => ok_law T
end K26
open PySem PySem.W PySem.Calls PyProof.Rows
theorem PySem.Challenge.cw_sameclock_k26_settings_and_what_is_none_holds : PySem.Challenge.rw_sameclock_k26_settings_and_what_is_none.Holds := by
  w_on; o_law
  refine HandSHeadRun.head_any (r := OpenLaw.row PySem.Challenge.rw_sameclock_k26_settings_and_what_is_none) (q := view (OpenLaw.row PySem.Challenge.rw_sameclock_k26_settings_and_what_is_none).prog [30]) (H := K26.hk) (ob := K26.ob) (M := 3000) (loose := ["LARGEST", "is_number", "is_row_of", "is_power", "is_cache", "is_predictor", "is_preparation", "are_visits", "is_settings", "_law_draws", "_law_reader", "_law_next", "_law_cache", "_law_predictor", "_law_before", "_law_visits", "_law_settings", "_law_whole", "_law_among", "_law_long", "_law_power", "_law_good_cache", "_law_good_predictor", "_law_good_part", "_law_good_visits", "_law_good", "_law_odd", "_law_turned"]) (d := HandSHeadRun.topDef (OpenLaw.row PySem.Challenge.rw_sameclock_k26_settings_and_what_is_none).prog 30) (kwd := []) K26.ob_eq
    (by kernel_rfl) (fun s => by kernel_rfl) K26.run (by kernel_rfl) (by kernel_rfl) (by kernel_rfl) (by rfl) (by first | assumption | decide +kernel) (by decide +kernel) ⟨rfl, rfl, rfl, rfl, rfl, by decide +kernel⟩ ?hw ?hc
  case hw => w_witness2
  case hc =>
    refine L2.walk_ofE (l := PySem.Challenge.rw_sameclock_k26_settings_and_what_is_none) (n := 63) (k := 8) (x := "script") (CX := L2.CX0) rfl (by decide) (by kernel_rfl) ⟨rfl, by decide, by decide⟩ ?F (fun _ _ _ _ z => z)
    intro w mg fa h Y G hmg0
    obtain ⟨K, KX, c⟩ := Y
    have hmg : mg ("law" : PySem.Str) = some (.ref fa) := by
      have e : (HandSHeadRun.topDef (OpenLaw.row PySem.Challenge.rw_sameclock_k26_settings_and_what_is_none).prog 30).name = ("law" : PySem.Str) := by kernel_rfl
      rw [← e]
      exact hmg0
    obtain ⟨fd, hb, hF⟩ := K26.facts (P := (PySem.Challenge.rw_sameclock_k26_settings_and_what_is_none).prog) (w := w) KX G hmg c
    exact ⟨K, fd, K26.sp_law K, KX, hb, fun H a ns hl _ hS => ⟨a, ns, rfl, hS, hl, fun _ => rfl⟩, hF⟩
#print axioms PySem.Challenge.cw_sameclock_k26_settings_and_what_is_none_holds

