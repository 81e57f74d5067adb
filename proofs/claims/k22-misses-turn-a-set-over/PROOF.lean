import PyProof.Rows.All
import Wide.All
import OpenK.AllK
import Wide.FinOn
import HandS.ForMost
import HandS.Wide
import HandS.WideMore
import HandS.IsInst
import HandS.Defaults
import HandS.Flow
import HandS.TupAny
import HandS.Conv
import HandS.Exc
import HandS.TupMul
import HandS.Zip
import HandS.Dict
import HandS.TupSets
import HandS.Style
import HandS.Head0
import HandS.Head1
import HandS.Head2
import HandS.HeadEnd
import HandS.HeadHook1
import HandS.HeadHook2
import HandS.HeadHook3
import HandS.HeadHook4
import HandS.More
import PySem.Challenge.RW_sameclock_k22_misses_turn_a_set_over
set_option Elab.async false
set_option linter.all false
set_option maxRecDepth 100000
set_option maxHeartbeats 4000000
/-! Own base: a heap told by a list of its objects, frames of calls, joins of ways, whiles by a measure, calls by one structure. -/
namespace G
open PySem PySem.Spec PyProof.Rows L2

/-- the objects one speaks of, each once -/
structure Has (H : Hp) (L : List (Addr × HO)) : Prop where
  nd : (L.map (·.1)).Nodup
  is_ : ∀ p ∈ L, H p.1 = some p.2

section
variable {H H' : Hp} {L : List (Addr × HO)} {a p : Addr} {o o' : HO}
theorem Has.nil : Has H [] := ⟨List.nodup_nil, fun _ h => nomatch h⟩
theorem Has.get (M : Has H L) (i : Nat) (h : L[i]? = some (a, o)) : H a = some o := M.is_ _ (List.mem_of_getElem? h)
theorem Has.one (h : H a = some o) : Has H [(a, o)] := ⟨by simp, fun p hp => by
  rw [List.mem_singleton.mp hp]
  exact h⟩
theorem keep_new (h : H a = some o) (hp : H p = none) : upd H p o' a = some o := by
  rw [upd_ne (ne_of_none h hp)]
  exact h
theorem Has.fresh (M : Has H L) (hp : H p = none) : p ∉ L.map (·.1) := fun h => by
  obtain ⟨q, hq, e⟩ := List.mem_map.mp h
  have := M.is_ q hq
  rw [e, hp] at this
  cases this
theorem Has.new (M : Has H L) (hp : H p = none) : Has (upd H p o) (L ++ [(p, o)]) where
  nd := by
    rw [List.map_append, List.nodup_append]
    refine ⟨M.nd, by simp, fun x hx y hy e => ?_⟩
    simp only [List.map_cons, List.map_nil, List.mem_singleton] at hy
    subst hy
    subst e
    exact M.fresh hp hx
  is_ := fun q hq => by
    rcases List.mem_append.mp hq with h | h
    · exact keep_new (M.is_ q h) hp
    · rw [List.mem_singleton.mp h]
      exact upd_same
theorem nodup_fst {L : List (Addr × HO)} (nd : (L.map (·.1)).Nodup) {i j : Nat} {a : Addr} {x y : HO} (hi : L[i]? = some (a, x)) (hj : L[j]? = some (a, y)) : i = j := by
  have h1 : (L.map (·.1))[i]? = some a := by rw [List.getElem?_map, hi]; rfl
  have h2 : (L.map (·.1))[j]? = some a := by rw [List.getElem?_map, hj]; rfl
  exact nd_ix nd h1 h2
theorem map_fst_set : ∀ {L : List (Addr × HO)} {i : Nat} {o o' : HO} {a : Addr}, L[i]? = some (a, o) → (L.set i (a, o')).map (·.1) = L.map (·.1)
  | [], _, _, _, _, h => by simp at h
  | p :: L, 0, _, _, _, h => by
    simp only [List.getElem?_cons_zero, Option.some.injEq] at h
    subst h
    rfl
  | p :: L, i + 1, o, o', a, h => by
    simp only [List.getElem?_cons_succ] at h
    simp only [List.set_cons_succ, List.map_cons, List.cons.injEq, true_and]
    exact map_fst_set h
/-- the object at place i is another one in H', the others stand -/
theorem Has.put (M : Has H L) (i : Nat) (h : L[i]? = some (a, o)) (k : ∀ b u, H b = some u → b ≠ a → H' b = some u) (e : H' a = some o') : Has H' (L.set i (a, o')) where
  nd := by
    rw [map_fst_set h]
    exact M.nd
  is_ := fun q hq => by
    obtain ⟨j, hj, e2⟩ := List.mem_iff_getElem.mp hq
    have hj' : (L.set i (a, o'))[j]? = some q := by rw [List.getElem?_eq_getElem hj, e2]
    rw [List.getElem?_set] at hj'
    split at hj'
    · split at hj'
      · cases hj'
        exact e
      · cases hj'
    · rename_i hij
      have hm := M.is_ q (List.mem_of_getElem? hj')
      refine k _ _ hm fun ea => hij ?_
      obtain ⟨b, u⟩ := q
      subst ea
      exact nodup_fst M.nd h hj'
theorem Has.set (M : Has H L) (i : Nat) (h : L[i]? = some (a, o)) : Has (upd H a o') (L.set i (a, o')) :=
  M.put i h (fun b u e n => by rw [upd_ne n]; exact e) upd_same
theorem Has.keep (M : Has H L) (k : Same H H') : Has H' L := ⟨M.nd, fun p hp => k _ _ (M.is_ p hp)⟩
theorem Has.sub (M : Has H L) {L' : List (Addr × HO)} (h : L'.Sublist L) : Has H L' := ⟨M.nd.sublist (h.map _), fun p hp => M.is_ p (h.subset hp)⟩
theorem Has.perm (M : Has H L) {L' : List (Addr × HO)} (h : L.Perm L') : Has H L' := ⟨(h.map _).nodup_iff.mp M.nd, fun p hp => M.is_ p (h.mem_iff.mpr hp)⟩
theorem Has.ne (M : Has H L) {b : Addr} {u : HO} (i j : Nat) (hi : L[i]? = some (a, o)) (hj : L[j]? = some (b, u)) (hij : i ≠ j) : a ≠ b := fun e => by
  subst e
  exact hij (nodup_fst M.nd hi hj)
end

/-- all that was tracked stands, but what stands at ms -/
def Keep (ms : List Addr) (H H' : Hp) : Prop := ∀ b o, H b = some o → b ∉ ms → H' b = some o
section
variable {ms : List Addr} {H H1 H2 : Hp} {L : List (Addr × HO)} {a p : Addr} {o o' : HO}
theorem Keep.refl : Keep ms H H := fun _ _ h _ => h
theorem Keep.trans (x : Keep ms H H1) (y : Keep ms H1 H2) : Keep ms H H2 := fun b o h n => y b o (x b o h n) n
theorem Keep.of (x : Same H H1) : Keep ms H H1 := fun b o h _ => x b o h
theorem Keep.same (x : Keep [] H H1) : Same H H1 := fun b o h => x b o h (nomatch ·)
theorem Keep.mono {ns : List Addr} (x : Keep ms H H1) (h : ∀ b ∈ ms, b ∈ ns) : Keep ns H H1 := fun b o e n => x b o e fun z => n (h b z)
theorem Same.new (hp : H p = none) : Same H (upd H p o) := fun b u h => keep_new h hp
theorem Keep.new (hp : H p = none) : Keep ms H (upd H p o) := .of (Same.new hp)
theorem Keep.set (h : a ∈ ms) : Keep ms H (upd H a o) := fun b u e n => by
  rw [upd_ne fun z => n (by rw [z]; exact h)]
  exact e
/-- an object that H does not know is changed -/
theorem Keep.mut (x : Keep ms H H1) (h : H a = none) : Keep ms H (upd H1 a o) := fun b u e n => by
  rw [upd_ne (ne_of_none e h)]
  exact x b u e n
theorem Has.call1 (M : Has H L) (k : Keep [a] H H1) (i : Nat) (h : L[i]? = some (a, o)) (e : H1 a = some o') : Has H1 (L.set i (a, o')) :=
  M.put i h (fun b u q n => k b u q (by simpa using n)) e
theorem Same.back (k : Same H H1) (h : H1 p = none) : H p = none := k.free h
theorem Keep.back (k : Keep ms H H1) (h : H1 p = none) (hm : p ∉ ms) : H p = none := by
  cases e : H p with
  | none => rfl
  | some o =>
    rw [k p o e hm] at h
    cases h
end

/-! ### joins, whiles -/
section
variable {X : Cx} {st : Stmt} {sts : List Stmt} {t : TS}
/-- behind a statement N holds, from which one goes on -/
def tJoin (t : TS) : TS := fun D σ H => ∃ N : L2.St → Hp → Prop, t { D with nx := N } σ H ∧ ∀ σ' H', N σ' H' → D.nx σ' H'
theorem SP.nx {pins : List (Addr × Obj)} {D : Ends} {N : L2.St → Hp → Prop} (h : ∀ σ' H', N σ' H' → D.nx σ' H') {f : PySem.Flow} {s' : Shared} (z : SP X pins { D with nx := N } f s') : SP X pins D f s' := by
  cases f with
  | next =>
    obtain ⟨σ', H', I, q⟩ := z
    exact ⟨σ', H', I, h _ _ q⟩
  | brk => exact z
  | cont => exact z
  | ret u => exact z
theorem ps_join (h : PS X st t) : PS X st (tJoin t) := ⟨fun pins s σ H D I ⟨N, h1, h2⟩ => thn (h.run pins s σ H _ I h1) fun _ _ z => SP.nx h2 z⟩
theorem pss_join (h : PSs X sts t) : PSs X sts (tJoin t) := ⟨fun pins s σ H D I ⟨N, h1, h2⟩ => thn (h.run pins s σ H _ I h1) fun _ _ z => SP.nx h2 z⟩
end

/-! ### the text's facts, defs by name -/
structure Txt (fa : List He.Fa) (fn : List He.DefD) (K : PySem.W.Frag) (mg : Str → Option Value) (ex : Prop := True) : Prop where
  c : He.SaysD fa fn K
  h : ∃ h : Heap, K.In h ∧ h.Ns mainGlobals mg
  m : ex
/-- a def that calls may name -/
structure Dn (P : Program) (w : World) (K : PySem.W.Frag) (mg : Str → Option Value) (base : Heap) (CX : CXT) (k : Nat) (x : Str) (ps : List Str) (sp : Sp) : Prop where
  ex : ∃ (f : Addr) (fd : FuncData), FnOk P w K mg base CX k f fd ps sp ∧ mg x = some (.ref f) ∧ PySem.W.keepIn K (.ref f) = true ∧ Binds K fd ps [] ∧ ∃ oc od osl, K.lookup f = some ⟨oc, od, .func fd, osl⟩
section
variable {fa : List He.Fa} {fn : List He.DefD} {P : Program} {w : World} {K : PySem.W.Frag} {mg : Str → Option Value} {base : Heap} {ex : Prop}
theorem Txt.glo (T : Txt fa fn K mg ex) (j : Nat) {x : Str} (h : fa[j]? = some (.glo x)) : mg x = some (.ref (He.ga K x)) := by
  obtain ⟨_, X, G⟩ := T.h
  exact He.glo_ok X G (T.c.fact j h)
theorem Txt.free (T : Txt fa fn K mg ex) (j : Nat) {x : Str} (h : fa[j]? = some (.free x)) : mg x = none := by
  obtain ⟨_, X, G⟩ := T.h
  exact He.free_ok X G (T.c.fact j h)
theorem Txt.int (T : Txt fa fn K mg ex) (j : Nat) {x : Str} {i : Int} (h : fa[j]? = some (.int x i)) : ∃ t, mg x = some (.int i t) := by
  obtain ⟨_, X, G⟩ := T.h
  exact He.int_ok X G (T.c.fact j h)
theorem Txt.def_ (T : Txt fa fn K mg ex) (i j : Nat) {d : He.DefD} (hd : fn[i]? = some d) (hg : fa[j]? = some (.glo d.at_.1)) (hm : d.at_.2 = none) (h1 : d.dfl = []) (h2 : d.kwd = []) :
    (∃ fd, FunD K d.name d.qual d.params d.body d.scope [] [] (He.ga K d.at_.1) fd) ∧ mg d.at_.1 = some (.ref (He.ga K d.at_.1)) := by
  refine ⟨?_, T.glo j hg⟩
  obtain ⟨fd, F⟩ := T.c.def_ i hd
  have e : He.fAd K d.at_ = He.ga K d.at_.1 := by
    unfold He.fAd
    rw [hm]
  have e1 : d.dvs K = [] := by
    unfold He.DefD.dvs
    rw [h1]
    rfl
  have e2 : d.kws K = [] := by
    unfold He.DefD.kws
    rw [h2]
    rfl
  rw [e, e1, e2] at F
  exact ⟨fd, F⟩
theorem Txt.str (T : Txt fa fn K mg ex) (j : Nat) {x z : Str} (h : fa[j]? = some (.str x z)) : ∃ t, mg x = some (.str z t) := by
  obtain ⟨_, X, G⟩ := T.h
  exact He.str_ok X G (T.c.fact j h)
/-- a global number, a global text -/
theorem pe_gint {X : Cx} (T : Txt fa fn K mg ex) (e : X.mg = mg) {x : Str} {i : Int} {pos : Pos} (j : Nat) (h : fa[j]? = some (.int x i)) (hg : Gl X x) (hd : (x == ("__debug__" : Str)) = false := by decide) : PE X (.Name x pos) (tC (.int i)) := by
  obtain ⟨t, ht⟩ := T.int j h
  exact pe_glob hg (by rw [e]; exact ht) ⟨t, rfl⟩ hd
theorem pe_gstr {X : Cx} (T : Txt fa fn K mg ex) (e : X.mg = mg) {x z : Str} {pos : Pos} (j : Nat) (h : fa[j]? = some (.str x z)) (hg : Gl X x) (hd : (x == ("__debug__" : Str)) = false := by decide) : PE X (.Name x pos) (tC (.str z)) := by
  obtain ⟨t, ht⟩ := T.str j h
  exact pe_glob hg (by rw [e]; exact ht) ⟨t, rfl⟩ hd
/-- a def without defaults that lets nothing out -/
theorem mk_dn (T : Txt fa fn K mg ex) (i j : Nat) {d : He.DefD} {N ps : List Str} {k : Nat} {sp : Sp} (hd : fn[i]? = some d) (hg : fa[j]? = some (.glo d.at_.1)) (hm : d.at_.2 = none) (h1 : d.dfl = []) (h2 : d.kwd = [])
    (S : FnScope N ps d.scope) (len : ∀ vs H Q E, sp vs H Q E → vs.length = ps.length)
    (hb : ∀ (kV doc pm : Value) (an : Option Addr) (cdv ct : Value) (us : List Value), us.length = ps.length → bindArgs (PySem.W.fnOf d.name d.qual d.params d.body d.scope .none kV doc pm an cdv ct) ⟨us, []⟩ = pure (ps.zip us))
    (hbody : ∀ (cdv : Value) (A : Around) (outer : List Env) (s : Shared) (H : Hp) (vs : List V) (Q : VK) (E : XK), Room k (A.deeper (envOfC d.qual d.scope s.heap.objs.size (He.ga K d.at_.1) cdv)) → sp vs H Q E →
      ∃ t, PSs (cxOf CX0 P w K mg base N d.qual d.scope (He.ga K d.at_.1) cdv A outer s H E).nox d.body t ∧ t { nx := fun _ H' => Q .non H', rt := Q } (start N vs) H) : Dn P w K mg base CX0 (k + 1) d.at_.1 ps sp := by
  obtain ⟨⟨fd, F⟩, g⟩ := T.def_ i j hd hg hm h1 h2
  refine ⟨_, fd, F.ok S len fun cdv A outer s H vs Q E hr h => ?_, g, F.kp, F.bindsN hb, by
    obtain ⟨oc, od, dV, kV, doc, pm, an, cdv, ct, osl, e, lk, _⟩ := F.ex
    exact ⟨_, _, _, lk⟩⟩
  obtain ⟨t, p, q⟩ := hbody cdv A outer s H vs Q E hr h
  exact ⟨t, p.nox, q⟩
theorem Dn.imp {CX : CXT} {k : Nat} {x : Str} {ps : List Str} {sp sp' : Sp} (D : Dn P w K mg base CX k x ps sp) (h : ∀ vs H Q E, sp' vs H Q E → sp vs H Q E) : Dn P w K mg base CX k x ps sp' := by
  obtain ⟨f, fd, F, a, b, c⟩ := D.ex
  exact ⟨f, fd, F.imp h, a, b, c⟩
theorem Dn.mono {CX : CXT} {j k : Nat} {x : Str} {ps : List Str} {sp : Sp} (D : Dn P w K mg base CX j x ps sp) (h : j ≤ k) : Dn P w K mg base CX k x ps sp := by
  obtain ⟨f, fd, F, a, b, c⟩ := D.ex
  exact ⟨f, fd, F.mono h, a, b, c⟩
end
section
variable {X : Cx} {CX : CXT} {k : Nat} {ps : List Str} {sp : Sp} {E : XK} {x : Str} {p pos : Pos} {e : Expr} {es : List Expr} {t : TA}
theorem pe_callD {K : PySem.W.Frag} (hK : X.K = K) (D : Dn X.prog X.w K X.mg X.base CX k x ps sp) (hr : Room k X.A) (hg : Gl X x) (hx : Passes CX X E)
    (ha : PA X (e :: es) t) (hdb : (x == ("__debug__" : Str)) = false := by decide) (he : starEach (e :: es) X.env = (false, eval e X.env) :: starEach es X.env := by rfl) (hpl : (backTo pos (starEach es X.env)).any (·.1) = false := by rfl) :
    PE X (.Call (.Name x p) (e :: es) [] pos) (tCall sp [] E t) := by
  subst hK
  obtain ⟨f, fd, F, m, kp, b, _⟩ := D.ex
  exact pe_call F hr hg m kp b .nil hx ha hdb he hpl
theorem pe_callD0 {K : PySem.W.Frag} (hK : X.K = K) (D : Dn X.prog X.w K X.mg X.base CX k x ps sp) (hr : Room k X.A) (hg : Gl X x) (hx : Passes CX X E)
    (hdb : (x == ("__debug__" : Str)) = false := by decide) :
    PE X (.Call (.Name x p) [] [] pos) (tCall sp [] E tNil) := by
  subst hK
  obtain ⟨f, fd, F, m, kp, b, _⟩ := D.ex
  exact pe_call0 F hr hg m kp b .nil hx hdb
end

/-! ### the law's own end -/
theorem law_facts {ex : Prop} {fa : List He.Fa} {fn : List He.DefD} {P : Program} {w : World} {K : PySem.W.Frag} {h : Heap} {mg : Str → Option Value} {f : Addr} {d : He.DefD} {k : Nat} {sp : Sp} (X : K.In h) (G : h.Ns mainGlobals mg)
    (hfa : mg d.at_.1 = some (.ref f)) (c : He.SaysD fa fn K) (m : ex) (i j : Nat) (hd : fn[i]? = some d) (hg : fa[j]? = some (.glo d.at_.1)) (hm : d.at_.2 = none) (h1 : d.dfl = []) (h2 : d.kwd = [])
    (hb : ∀ (kV doc pm : Value) (an : Option Addr) (cdv ct : Value) (us : List Value), us.length = 1 → bindArgs (PySem.W.fnOf d.name d.qual d.params d.body d.scope .none kV doc pm an cdv ct) ⟨us, []⟩ = pure ((["script"] : List Str).zip us))
    (ok : ∀ base, Txt fa fn K mg ex → Dn P w K mg base CX0 k d.at_.1 ["script"] sp) :
    ∃ fd : FuncData, (∀ (s : Shared) (v : Value), BindsTo s fd ⟨[v], []⟩ [("script", v)]) ∧ ∀ base : Heap, K.In base → base.Ns mainGlobals mg → FnOk P w K mg base CX0 k f fd ["script"] sp := by
  have T : Txt fa fn K mg ex := ⟨c, ⟨h, X, G⟩, m⟩
  obtain ⟨⟨fd, F⟩, g⟩ := T.def_ i j hd hg hm h1 h2
  rw [hfa] at g
  cases g
  have b := FunD.bindsA (ps := ["script"]) F hb
  refine ⟨fd, fun s v => b s [v] rfl, fun base _ _ => ?_⟩
  obtain ⟨f2, fd2, F2, m, _, _, oc, od, osl, lk⟩ := (ok base T).ex
  rw [hfa] at m
  cases m
  obtain ⟨oc', od', dV, kV, doc, pm, an, cdv, ct, osl', e, lk', _⟩ := F.ex
  rw [lk] at lk'
  cases lk'
  exact F2

/-! ### classes -/
section
variable {fa : List He.Fa} {fn : List He.DefD} {P : Program} {w : World} {K : PySem.W.Frag} {mg : Str → Option Value} {base : Heap} {ex : Prop}
theorem Txt.cls (T : Txt fa fn K mg ex) (j : Nat) {x : Str} (h : fa[j]? = some (.cls x)) : Cls K (He.ga K x) := He.cls_ok (T.c.fact j h)
theorem Txt.noat (T : Txt fa fn K mg ex) (j : Nat) {x f : Str} (h : fa[j]? = some (.noat x f)) : NoAttr K (He.ga K x) f := He.noat_ok (T.c.fact j h)
theorem Txt.meth (T : Txt fa fn K mg ex) (j : Nat) {x m : Str} (h : fa[j]? = some (.meth x m)) : Meth K (He.ga K x) m (He.ma K (He.ga K x) m) := He.meth_ok (T.c.fact j h)
theorem Txt.mkr (T : Txt fa fn K mg ex) (j : Nat) {x : Str} (h : fa[j]? = some (.mkr x)) : Mk K (He.ga K x) (He.ma K (He.ga K x) "__init__") := He.mkr_ok (T.c.fact j h)
/-- a method by its class's name -/
structure Mt (P : Program) (w : World) (K : PySem.W.Frag) (mg : Str → Option Value) (base : Heap) (CX : CXT) (k : Nat) (c m : Str) (ps : List Str) (sp : Sp) : Prop where
  ex : ∃ (f : Addr) (fd : FuncData), FnOk P w K mg base CX k f fd ps sp ∧ f = He.ma K (He.ga K c) m ∧ Binds K fd ps []
theorem Txt.defm (T : Txt fa fn K mg ex) (i : Nat) {d : He.DefD} {c m : Str} (hd : fn[i]? = some d) (hm : d.at_ = (c, some m)) (h1 : d.dfl = []) (h2 : d.kwd = []) :
    ∃ fd, FunD K d.name d.qual d.params d.body d.scope [] [] (He.ma K (He.ga K c) m) fd := by
  obtain ⟨fd, F⟩ := T.c.def_ i hd
  have e : He.fAd K d.at_ = He.ma K (He.ga K c) m := by
    unfold He.fAd
    rw [hm]
  have e1 : d.dvs K = [] := by
    unfold He.DefD.dvs
    rw [h1]
    rfl
  have e2 : d.kws K = [] := by
    unfold He.DefD.kws
    rw [h2]
    rfl
  rw [e, e1, e2] at F
  exact ⟨fd, F⟩
/-- a method without defaults that lets nothing out -/
theorem mk_mt (T : Txt fa fn K mg ex) (i : Nat) {d : He.DefD} {c m : Str} {N ps : List Str} {k : Nat} {sp : Sp} (hd : fn[i]? = some d) (hm : d.at_ = (c, some m)) (h1 : d.dfl = []) (h2 : d.kwd = [])
    (S : FnScope N ps d.scope) (len : ∀ vs H Q E, sp vs H Q E → vs.length = ps.length)
    (hb : ∀ (kV doc pm : Value) (an : Option Addr) (cdv ct : Value) (us : List Value), us.length = ps.length → bindArgs (PySem.W.fnOf d.name d.qual d.params d.body d.scope .none kV doc pm an cdv ct) ⟨us, []⟩ = pure (ps.zip us))
    (hbody : ∀ (cdv : Value) (A : Around) (outer : List Env) (s : Shared) (H : Hp) (vs : List V) (Q : VK) (E : XK), Room k (A.deeper (envOfC d.qual d.scope s.heap.objs.size (He.ma K (He.ga K c) m) cdv)) → sp vs H Q E →
      ∃ t, PSs (cxOf CX0 P w K mg base N d.qual d.scope (He.ma K (He.ga K c) m) cdv A outer s H E).nox d.body t ∧ t { nx := fun _ H' => Q .non H', rt := Q } (start N vs) H) : Mt P w K mg base CX0 (k + 1) c m ps sp := by
  obtain ⟨fd, F⟩ := T.defm i hd hm h1 h2
  refine ⟨_, fd, F.ok S len fun cdv A outer s H vs Q E hr h => ?_, rfl, F.bindsN hb⟩
  obtain ⟨t, p, q⟩ := hbody cdv A outer s H vs Q E hr h
  exact ⟨t, p.nox, q⟩
theorem Mt.mono {CX : CXT} {j k : Nat} {c m : Str} {ps : List Str} {sp : Sp} (D : Mt P w K mg base CX j c m ps sp) (h : j ≤ k) : Mt P w K mg base CX k c m ps sp := by
  obtain ⟨f, fd, F, a, b⟩ := D.ex
  exact ⟨f, fd, F.mono h, a, b⟩
end
section
variable {X : Cx} {CX : CXT} {k : Nat} {ps : List Str} {sp : Sp} {E : XK} {c m : Str} {p pos apos : Pos} {e o : Expr} {es : List Expr} {ta : TE} {t : TA}
theorem pe_methD {K : PySem.W.Frag} (hK : X.K = K) {pl : Sem Bool} (D : Mt X.prog X.w K X.mg X.base CX k c m ps sp) (cl : Cls K (He.ga K c)) (hm : Meth K (He.ga K c) m (He.ma K (He.ga K c) m)) (hr : Room k X.A) (hx : Passes CX X E) (he : PE X o ta) (ha : PA X (e :: es) t)
    (hst : starEach (e :: es) X.env = (false, eval e X.env) :: starEach es X.env := by rfl) (hpl : (backTo pos (starEach es X.env)).any (·.1) = false := by rfl)
    (ht : eval (.Call (.Attribute o m apos) (e :: es) [] pos) X.env = (do let ov ← eval o X.env; standAt apos.atName; let (f, first) ← holding [ov] (getMethod ov m pl); callWith pos f first (backTo pos (starEach (e :: es) X.env)) (backToKw pos (keywordEach [] X.env))) := by rfl) :
    PE X (.Call (.Attribute o m apos) (e :: es) [] pos) (tMeth (He.ga K c) m sp [] E ta t) := by
  subst hK
  obtain ⟨f, fd, F, rfl, b⟩ := D.ex
  exact pe_meth he cl hm F hr b .nil hx ha hst hpl ht
theorem pe_methD0 {K : PySem.W.Frag} (hK : X.K = K) {pl : Sem Bool} (D : Mt X.prog X.w K X.mg X.base CX k c m ps sp) (cl : Cls K (He.ga K c)) (hm : Meth K (He.ga K c) m (He.ma K (He.ga K c) m)) (hr : Room k X.A) (hx : Passes CX X E) (he : PE X o ta)
    (ht : eval (.Call (.Attribute o m apos) [] [] pos) X.env = (do let ov ← eval o X.env; standAt apos.atName; let (f, first) ← holding [ov] (getMethod ov m pl); callWith pos f first (backTo pos (starEach [] X.env)) (backToKw pos (keywordEach [] X.env))) := by rfl) :
    PE X (.Call (.Attribute o m apos) [] [] pos) (tMeth (He.ga K c) m sp [] E ta tNil) := by
  subst hK
  obtain ⟨f, fd, F, rfl, b⟩ := D.ex
  exact pe_meth0 he cl hm F hr b .nil hx ht
theorem pe_makeD {K : PySem.W.Frag} (hK : X.K = K) (D : Mt X.prog X.w K X.mg X.base CX k c "__init__" ps sp) (M : Mk K (He.ga K c) (He.ma K (He.ga K c) "__init__")) (hr : Room (k + 1) X.A) (hg : Gl X c) (hm : X.mg c = some (.ref (He.ga K c))) (hx : Passes CX X E)
    (ha : PA X (e :: es) t) (hdb : (c == ("__debug__" : Str)) = false := by decide) (he : starEach (e :: es) X.env = (false, eval e X.env) :: starEach es X.env := by rfl) (hpl : (backTo pos (starEach es X.env)).any (·.1) = false := by rfl) :
    PE X (.Call (.Name c p) (e :: es) [] pos) (tMake (He.ga K c) sp [] E t) := by
  subst hK
  obtain ⟨f, fd, F, rfl, b⟩ := D.ex
  exact pe_make M F hr hg hm b .nil hx ha hdb he hpl
end
/-! ### fields by their places -/
section
variable {fs : List (Str × V)} {f : Str} {v y : V}
theorem lk_ix : ∀ {fs : List (Str × V)} (n : Nat), (fs.map (·.1)).Nodup → fs[n]? = some (f, v) → fs.lookup f = some v
  | [], _, _, h => by simp at h
  | p :: fs, 0, _, h => by
    simp only [List.getElem?_cons_zero, Option.some.injEq] at h
    subst h
    simp [List.lookup]
  | p :: fs, n + 1, nd, h => by
    simp only [List.getElem?_cons_succ] at h
    obtain ⟨g, x⟩ := p
    rw [List.map_cons, List.nodup_cons] at nd
    have hm : f ∈ fs.map (·.1) := List.mem_map.mpr ⟨(f, v), List.mem_of_getElem? h, rfl⟩
    have ne : (f == g) = false := beq_eq_false_iff_ne.mpr fun e => nd.1 (e ▸ hm)
    simp only [List.lookup, ne]
    exact lk_ix n nd.2 h
theorem lk_none : ∀ {fs : List (Str × V)}, f ∉ fs.map (·.1) → fs.lookup f = none
  | [], _ => rfl
  | (g, x) :: fs, h => by
    rw [List.map_cons, List.mem_cons, not_or] at h
    have ne : (f == g) = false := beq_eq_false_iff_ne.mpr h.1
    simp only [List.lookup, ne]
    exact lk_none h.2
theorem pt_ix : ∀ {fs : List (Str × V)} (n : Nat), (fs.map (·.1)).Nodup → fs[n]? = some (f, v) → putF f y fs = fs.set n (f, y)
  | [], _, _, h => by simp at h
  | p :: fs, 0, _, h => by
    simp only [List.getElem?_cons_zero, Option.some.injEq] at h
    subst h
    simp [putF]
  | p :: fs, n + 1, nd, h => by
    simp only [List.getElem?_cons_succ] at h
    obtain ⟨g, x⟩ := p
    rw [List.map_cons, List.nodup_cons] at nd
    have hm : f ∈ fs.map (·.1) := List.mem_map.mpr ⟨(f, v), List.mem_of_getElem? h, rfl⟩
    have ne : ¬ g = f := fun e => nd.1 (e ▸ hm)
    simp only [putF, if_neg ne, List.set_cons_succ]
    rw [pt_ix n nd.2 h]
theorem pt_new : ∀ {fs : List (Str × V)}, f ∉ fs.map (·.1) → putF f y fs = fs ++ [(f, y)]
  | [], _ => rfl
  | (g, x) :: fs, h => by
    rw [List.map_cons, List.mem_cons, not_or] at h
    have ne : ¬ g = f := fun e => h.1 e.symm
    simp only [putF, if_neg ne, List.cons_append]
    rw [pt_new h.2]
end

section
variable {H H' : Hp} {L : List (Addr × HO)} {a : Addr} {o : HO}
theorem Has.add (M : Has H L) (h : H a = some o) (n : a ∉ L.map (·.1)) : Has H (L ++ [(a, o)]) where
  nd := by
    rw [List.map_append, List.nodup_append]
    refine ⟨M.nd, by simp, fun x hx y hy e => ?_⟩
    rw [List.map_singleton, List.mem_singleton] at hy
    have e2 : x = a := e.trans hy
    exact n (e2 ▸ hx)
  is_ := fun q hq => by
    rcases List.mem_append.mp hq with z | z
    · exact M.is_ q z
    · rw [List.mem_singleton.mp z]
      exact h
end

theorem Keep.tup {ms : List Addr} {H H' : Hp} {t : Addr} {xs : List V} (k : Keep ms H H') (hm : ∀ m ∈ ms, ∃ o, H m = some o ∧ ∀ xs, o ≠ .tup xs) (h : H t = some (.tup xs)) : H' t = some (.tup xs) :=
  k t _ h fun z => by
    obtain ⟨o, e, n⟩ := hm t z
    rw [h] at e
    exact n xs (Option.some.inj e).symm

/-! ### parts of the heap's list, tables of lists -/
section
variable {H H' : Hp} {X Y L L' : List (Addr × HO)} {a : Addr} {o o' : HO}
theorem Has.mid (M : Has H (X ++ (L ++ Y))) : Has H L := M.sub ((List.sublist_append_left L Y).trans (List.sublist_append_right X _))
/-- a part has changed, the rest stands -/
theorem Has.frame (M : Has H (X ++ (L ++ Y))) (k : Keep (L.map (·.1)) H H') (M' : Has H' L') (e : L'.map (·.1) = L.map (·.1)) : Has H' (X ++ (L' ++ Y)) where
  nd := by
    have z := M.nd
    rw [List.map_append, List.map_append] at z ⊢
    rw [e]
    exact z
  is_ := fun q hq => by
    have z := M.nd
    rw [List.map_append, List.map_append, List.nodup_append] at z
    obtain ⟨_, z2, z3⟩ := z
    rw [List.nodup_append] at z2
    obtain ⟨_, _, z4⟩ := z2
    rcases List.mem_append.mp hq with h | h
    · refine k _ _ (M.is_ q (List.mem_append_left _ h)) fun hm => ?_
      exact z3 q.1 (List.mem_map_of_mem h) q.1 (List.mem_append_left _ hm) rfl
    · rcases List.mem_append.mp h with h | h
      · exact M'.is_ q h
      · refine k _ _ (M.is_ q (List.mem_append_right _ (List.mem_append_right _ h))) fun hm => ?_
        exact z4 q.1 hm q.1 (List.mem_map_of_mem h) rfl
/-- the lists at these addresses -/
def tab : List Addr → List (List V) → List (Addr × HO)
  | a :: as, r :: rs => (a, .lst r) :: tab as rs
  | _, _ => []
theorem tab_get : ∀ {as : List Addr} {rs : List (List V)} {i : Nat} {a : Addr} {r : List V}, as[i]? = some a → rs[i]? = some r → (tab as rs)[i]? = some (a, .lst r)
  | [], _, _, _, _, h, _ => by simp at h
  | _ :: _, [], _, _, _, _, h => by simp at h
  | a :: as, r :: rs, 0, _, _, h, h2 => by
    simp only [List.getElem?_cons_zero, Option.some.injEq] at h h2
    subst h
    subst h2
    rfl
  | a :: as, r :: rs, i + 1, _, _, h, h2 => by
    simp only [List.getElem?_cons_succ] at h h2
    exact tab_get (as := as) h h2
theorem tab_set : ∀ {as : List Addr} {rs : List (List V)} {i : Nat} {a : Addr} {r : List V}, as[i]? = some a → (tab as rs).set i (a, .lst r) = tab as (rs.set i r)
  | [], _, _, _, _, h => by simp at h
  | _ :: _, [], _, _, _, _ => rfl
  | a :: as, r :: rs, 0, _, _, h => by
    simp only [List.getElem?_cons_zero, Option.some.injEq] at h
    subst h
    rfl
  | a :: as, r :: rs, i + 1, _, _, h => by
    simp only [List.getElem?_cons_succ] at h
    show (a, HO.lst r) :: (tab as rs).set i _ = _
    rw [tab_set h]
    rfl
theorem tab_fst : ∀ {as : List Addr} {rs : List (List V)}, as.length = rs.length → (tab as rs).map (·.1) = as
  | [], [], _ => rfl
  | [], _ :: _, h => by simp at h
  | _ :: _, [], h => by simp at h
  | a :: as, r :: rs, h => by
    simp only [List.length_cons, Nat.add_right_cancel_iff] at h
    show a :: (tab as rs).map (·.1) = _
    rw [tab_fst h]
variable {as : List Addr} {rs : List (List V)} {i : Nat} {r r' : List V}
theorem Has.tabGet (M : Has H (X ++ (tab as rs ++ Y))) (ha : as[i]? = some a) (hr : rs[i]? = some r) : H a = some (.lst r) := M.mid.get i (tab_get ha hr)
theorem Has.tabSet (M : Has H (X ++ (tab as rs ++ Y))) (ha : as[i]? = some a) (hr : rs[i]? = some r) : Has (upd H a (.lst r')) (X ++ (tab as (rs.set i r') ++ Y)) := by
  have h := tab_get ha hr
  have hi := (List.getElem?_eq_some_iff.mp h).1
  have h2 : (X ++ (tab as rs ++ Y))[X.length + i]? = some (a, .lst r) := by
    rw [List.getElem?_append_right (Nat.le_add_right _ _), Nat.add_sub_cancel_left, List.getElem?_append_left hi]
    exact h
  have M2 := M.set (o' := .lst r') _ h2
  have e : (X ++ (tab as rs ++ Y)).set (X.length + i) (a, .lst r') = X ++ (tab as (rs.set i r') ++ Y) := by
    rw [List.set_append_right _ _ (Nat.le_add_right _ _), Nat.add_sub_cancel_left, List.set_append_left _ _ hi, tab_set ha]
  rw [e] at M2
  exact M2
/-- one more list at the end of a table -/
theorem tab_snoc : ∀ {as : List Addr} {rs : List (List V)}, as.length = rs.length → tab (as ++ [a]) (rs ++ [r]) = tab as rs ++ [(a, .lst r)]
  | [], [], _ => rfl
  | [], _ :: _, h => by simp at h
  | _ :: _, [], h => by simp at h
  | b :: as, r' :: rs, h => by
    simp only [List.length_cons, Nat.add_right_cancel_iff] at h
    show (b, HO.lst r') :: tab (as ++ [a]) (rs ++ [r]) = _
    rw [tab_snoc h]
    rfl
end
/-! ### constants of the module: tuples, dicts with text keys -/
inductive GD
  | dat (d : PyData)
  | dic (kvs : List (Str × PyData))
mutual
def gisB (K : PySem.W.Frag) : PyData → Value → Bool
  | .none, .none => true
  | .bool a, .bool b => a == b
  | .int i, .int j _ => decide (i = j)
  | .str x, .str y _ => decide (x = y)
  | .tuple ds, .ref a => (match K.lookup a with
    | some ⟨.type c, _, .seq its _, _⟩ => decide (c = "tuple") && (decide (its.size ≤ 1000) && gisAllB K ds its.toList)
    | _ => false)
  | _, _ => false
def gisAllB (K : PySem.W.Frag) : List PyData → List Value → Bool
  | [], [] => true
  | d :: ds, u :: us => gisB K d u && gisAllB K ds us
  | _, _ => false
end
section
variable {K : PySem.W.Frag}
theorem gis_tup {ds : List PyData} {u : Value} (h : gisB K (.tuple ds) u = true) : ∃ (a : Addr) (o : Obj) (its : Array Value) (n : Nat), u = .ref a ∧ K.lookup a = some o ∧ o.cls = .type "tuple" ∧ o.data = .seq its n ∧ its.size ≤ 1000 ∧ gisAllB K ds its.toList = true := by
  cases u <;> first | (unfold gisB at h; cases h; done) | skip
  rename_i a
  unfold gisB at h
  cases q : K.lookup a with
  | none =>
    rw [q] at h
    cases h
  | some o =>
    obtain ⟨oc, od, dt, osl⟩ := o
    rw [q] at h
    cases oc <;> cases dt <;> first | (cases h; done) | skip
    rename_i c its n
    replace h : (decide (c = "tuple") && (decide (its.size ≤ 1000) && gisAllB K ds its.toList)) = true := h
    obtain ⟨h1, h2⟩ := Bool.and_eq_true_iff.mp h
    obtain ⟨h3, h4⟩ := Bool.and_eq_true_iff.mp h2
    have e : c = "tuple" := of_decide_eq_true h1
    exact ⟨a, _, its, n, rfl, q, by rw [e], rfl, of_decide_eq_true h3, h4⟩
mutual
theorem gis_ok : ∀ (d : PyData) (u : Value), gisB K d u = true → ∃ v, RelV v u ∧ ∀ H, Dp K H v d
  | .none, u, h => by
    cases u <;> first | (unfold gisB at h; cases h; done) | skip
    exact ⟨.non, rfl, fun _ => .non⟩
  | .bool a, u, h => by
    cases u <;> first | (unfold gisB at h; cases h; done) | skip
    rename_i b
    unfold gisB at h
    obtain rfl := beq_iff_eq.mp h
    exact ⟨.bl a, rfl, fun _ => .bl a⟩
  | .int i, u, h => by
    cases u <;> first | (unfold gisB at h; cases h; done) | skip
    rename_i j t
    unfold gisB at h
    obtain rfl := of_decide_eq_true h
    exact ⟨.int i, ⟨t, rfl⟩, fun _ => .int i⟩
  | .str x, u, h => by
    cases u <;> first | (unfold gisB at h; cases h; done) | skip
    rename_i y t
    unfold gisB at h
    obtain rfl := of_decide_eq_true h
    exact ⟨.str x, ⟨t, rfl⟩, fun _ => .str x⟩
  | .tuple ds, u, h => by
    obtain ⟨a, o, its, n, rfl, h1, h2, h3, h4, h5⟩ := gis_tup h
    obtain ⟨vs, r, hd⟩ := gisAll_ok ds its.toList h5
    exact ⟨.ref a, rfl, fun H => .tup (.inr ⟨o, its, n, h1, h2, h3, Nat.le_trans h4 (by decide), r⟩) (hd H)⟩
  | .list _, u, h => by unfold gisB at h; cases h
  | .dict _, u, h => by unfold gisB at h; cases h
theorem gisAll_ok : ∀ (ds : List PyData) (us : List Value), gisAllB K ds us = true → ∃ vs, Vals vs us ∧ ∀ H, DpAll K H vs ds
  | [], us, h => by
    cases us with
    | nil => exact ⟨[], .nil, fun _ => .nil⟩
    | cons => unfold gisAllB at h; cases h
  | d :: ds, us, h => by
    cases us with
    | nil => unfold gisAllB at h; cases h
    | cons u us =>
      unfold gisAllB at h
      obtain ⟨h1, h2⟩ := Bool.and_eq_true_iff.mp h
      obtain ⟨v, r, hv⟩ := gis_ok d u h1
      obtain ⟨vs, rs, hvs⟩ := gisAll_ok ds us h2
      exact ⟨v :: vs, .cons r rs, fun H => .cons (hv H) (hvs H)⟩
end
end
def gokB (K : PySem.W.Frag) (x : Str) : GD → Bool
  | .dat d => (match PySem.W.nsIn K mainGlobals x with
    | some (some u) => gisB K d u
    | _ => false)
  | .dic kvs => kvs.all fun q => match PySem.W.nsIn K (He.ga K x) q.1 with
    | some (some u) => gisB K q.2 u
    | _ => false
def exB (cs : List (Str × GD)) (K : PySem.W.Frag) : Bool := cs.all fun q => gokB K q.1 q.2
def tabs : List (Str × GD) → List He.Tab
  | [] => []
  | (x, .dic kvs) :: cs => (fun K => He.ga K x, kvs.map (·.1)) :: tabs cs
  | (_, .dat _) :: cs => tabs cs
/-- the constants stand -/
structure CsOk (cs : List (Str × GD)) (K : PySem.W.Frag) (w : World) : Prop where
  e : exB cs K = true
  t : (tabs cs).map (fun t => He.dicW K (t.1 K)) = (tabs cs).map fun t => some (He.keysIn w.params t.2)
section
variable {fa : List He.Fa} {fn : List He.DefD} {cs : List (Str × GD)} {K : PySem.W.Frag} {w : World} {x k : Str} {d : PyData} {ds : List PyData} {kvs : List (Str × PyData)} {h : Heap}
theorem CsOk.of (c : He.SaysX fa fn (tabs cs) [] (exB cs) w h K) : CsOk cs K w := ⟨c.more, congrArg (fun z : He.AlT => z.2) c.t⟩
theorem tab_eq : ∀ {cs : List (Str × GD)}, (tabs cs).map (fun t => He.dicW K (t.1 K)) = (tabs cs).map (fun t => some (He.keysIn w.params t.2)) → (x, GD.dic kvs) ∈ cs → He.dicW K (He.ga K x) = some (He.keysIn w.params (kvs.map (·.1)))
  | [], _, h => by cases h
  | (y, .dic ks) :: cs, e, h => by
    have e1 : He.dicW K (He.ga K y) :: (tabs cs).map (fun t => He.dicW K (t.1 K)) = some (He.keysIn w.params (ks.map (·.1))) :: (tabs cs).map fun t => some (He.keysIn w.params t.2) := e
    injection e1 with e2 e3
    rcases List.mem_cons.mp h with z | z
    · injection z with z1 z2
      injection z2 with z2
      subst z1
      subst z2
      exact e2
    · exact tab_eq e3 z
  | (y, .dat _) :: cs, e, h => by
    rcases List.mem_cons.mp h with z | z
    · injection z with z1 z2
      cases z2
    · exact tab_eq (cs := cs) e z
theorem CsOk.dat (c : CsOk cs K w) (h : (x, GD.dat d) ∈ cs) : ∃ u, PySem.W.nsIn K mainGlobals x = some (some u) ∧ gisB K d u = true := by
  have h1 : gokB K x (.dat d) = true := List.all_eq_true.mp c.e _ h
  unfold gokB at h1
  cases q : PySem.W.nsIn K mainGlobals x with
  | none =>
    rw [q] at h1
    cases h1
  | some r =>
    rw [q] at h1
    cases r with
    | none => cases h1
    | some u => exact ⟨u, rfl, h1⟩
theorem CsOk.tup (c : CsOk cs K w) (h : (x, GD.dat (.tuple ds)) ∈ cs) (H : Hp) : Dp K H (.ref (He.ga K x)) (.tuple ds) := by
  obtain ⟨u, h1, h2⟩ := c.dat h
  obtain ⟨v, r, hv⟩ := gis_ok _ u h2
  obtain ⟨a, _, _, _, rfl, _⟩ := gis_tup h2
  have e : He.ga K x = a := by
    unfold He.ga
    rw [h1]
  obtain rfl : v = .ref a := RelV.inj r rfl
  rw [e]
  exact hv H
theorem CsOk.kd (c : CsOk cs K w) (h : (x, GD.dic kvs) ∈ cs) : ∃ es n, KDict K w (He.ga K x) es n := He.dicW_ok (tab_eq c.t h)
theorem CsOk.key (c : CsOk cs K w) (h : (x, GD.dic kvs) ∈ cs) (hk : (k, d) ∈ kvs) : ∃ u v, PySem.W.nsIn K (He.ga K x) k = some (some u) ∧ RelV v u ∧ ∀ H, Dp K H v d := by
  have h1 : gokB K x (.dic kvs) = true := List.all_eq_true.mp c.e _ h
  unfold gokB at h1
  have h2 := List.all_eq_true.mp h1 _ hk
  cases q : PySem.W.nsIn K (He.ga K x) k with
  | none =>
    rw [q] at h2
    cases h2
  | some r =>
    rw [q] at h2
    cases r with
    | none => cases h2
    | some u =>
      obtain ⟨v, hv⟩ := gis_ok d u h2
      exact ⟨u, v, rfl, hv⟩
theorem keyOf_of {e : DictEntry} {y : Str} {i : Int} (h : He.keyOf e = some (y, i)) : ∃ t, e.key = .str y t := by
  unfold He.keyOf at h
  split at h
  · rename_i z t q
    injection h with h
    injection h with h1 h2
    subst h1
    exact ⟨t, q⟩
  · cases h
theorem keys_no {P : Params} : ∀ {l : List DictEntry} {ks : List Str}, l.map He.keyOf = He.keysIn P ks → k ∉ ks → (l.find? (·.key.isStr k)) = none ∧ (l.any (·.refKey)) = false
  | [], _, _, _ => ⟨rfl, rfl⟩
  | e :: l, [], h, _ => by cases h
  | e :: l, y :: ks, h, hk => by
    have h1 : He.keyOf e :: l.map He.keyOf = some (y, PyData.keyHash P y) :: He.keysIn P ks := h
    injection h1 with h2 h3
    obtain ⟨t, q⟩ := keyOf_of h2
    obtain ⟨i1, i2⟩ := keys_no h3 (fun z => hk (List.mem_cons_of_mem _ z))
    have n : e.key.isStr k = false := by
      rw [q]
      have : (y == k) = false := beq_eq_false_iff_ne.mpr fun z => hk (by rw [z]; exact List.mem_cons_self)
      first | exact this | (unfold Value.isStr; exact this) | simp [Value.isStr, this]
    refine ⟨by rw [List.find?_cons, n]; exact i1, ?_⟩
    rw [List.any_cons, i2, Bool.or_false]
    unfold DictEntry.refKey
    rw [q]
theorem CsOk.nokey (c : CsOk cs K w) (h : (x, GD.dic kvs) ∈ cs) (hk : k ∉ kvs.map (·.1)) : PySem.W.nsIn K (He.ga K x) k = some none := by
  have e := tab_eq c.t h
  obtain ⟨es, n, D⟩ := He.dicW_ok e
  unfold He.dicW at e
  rw [D.at_] at e
  replace e : (match decide ("dict" = "dict") && ((#[] : Array (Option Value)).isEmpty && !(He.ga K x == sysModules)) with
    | true => some (es.toList.map He.keyOf)
    | false => none) = some (He.keysIn w.params (kvs.map (·.1))) := e
  rw [D.low] at e
  replace e : some (es.toList.map He.keyOf) = some (He.keysIn w.params (kvs.map (·.1))) := e
  obtain ⟨i1, i2⟩ := keys_no (Option.some.inj e) hk
  unfold PySem.W.nsIn
  rw [D.at_]
  show (match es.toList.find? (·.key.isStr k) with
      | some e => some (some e.val)
      | none => if es.toList.any (·.refKey) then none else some none) = some none
  rw [i1, i2]
  rfl
theorem dp_strs {H : Hp} {a : Addr} {ks : List Str} (h : Dp K H (.ref a) (.tuple (ks.map .str))) : SqT K H a (ks.map V.str) := by
  have go : ∀ {ks : List Str} {xs : List V}, DpAll K H xs (ks.map .str) → xs = ks.map V.str := by
    intro ks
    induction ks with
    | nil => intro xs h; cases h; rfl
    | cons z ks ih =>
      intro xs h
      cases h with
      | cons h t =>
        cases h
        rw [ih t]
        rfl
  cases h with
  | tup h t =>
    rw [← go t]
    exact h
theorem dp_ints {H : Hp} {a : Addr} {ks : List Int} (h : Dp K H (.ref a) (.tuple (ks.map .int))) : SqT K H a (ks.map V.int) := by
  have go : ∀ {ks : List Int} {xs : List V}, DpAll K H xs (ks.map .int) → xs = ks.map V.int := by
    intro ks
    induction ks with
    | nil => intro xs h; cases h; rfl
    | cons z ks ih =>
      intro xs h
      cases h with
      | cons h t =>
        cases h
        rw [ih t]
        rfl
  cases h with
  | tup h t =>
    rw [← go t]
    exact h
end
/-! d[key], key in d of such a dict -/
def rIxG (K : PySem.W.Frag) (d : Addr) : R2 := fun x y H Q => ∃ (z : Str) (u : Value) (v : V), x = .ref d ∧ y = .str z ∧ PySem.W.nsIn K d z = some (some u) ∧ RelV v u ∧ Q v H
def rInG (K : PySem.W.Frag) (d : Addr) (neg : Bool) : R2 := fun x y H Q => ∃ (z : Str) (r : Option Value), x = .str z ∧ y = .ref d ∧ PySem.W.nsIn K d z = some r ∧ Q (.bl (if neg then !r.isSome else r.isSome)) H
section
variable {X : Cx} {cs : List (Str × GD)} {x : Str} {kvs : List (Str × PyData)}
theorem ix_G {K : PySem.W.Frag} (hK : X.K = K) (c : CsOk cs K X.w) (h : (x, GD.dic kvs) ∈ cs) : IxR X (rIxG K (He.ga K x)) := by
  subst hK
  obtain ⟨es, n, D⟩ := c.kd h
  intro value slice pins s σ H x y v u Q I rx ry h hs
  obtain ⟨z, u0, v0, rfl, rfl, e, r, q⟩ := h
  have rx' := rx
  cases rx
  exact tail_any (kd_type D I) PySem.F.slot_dict_getitem.lookup (op_item_kd D pins s σ H _ _ _ u Q I rx' ry ⟨z, u0, v0, rfl, rfl, e, r, q⟩) hs
theorem op_inG {K : PySem.W.Frag} (hK : X.K = K) (c : CsOk cs K X.w) (h : (x, GD.dic kvs) ∈ cs) : OpR X (compareOp .In) (rInG K (He.ga K x) false) := by
  subst hK
  obtain ⟨es, n, D⟩ := c.kd h
  intro pins s σ H x y v u Q I rx ry h
  obtain ⟨z, r, rfl, rfl, e, q⟩ := h
  exact op_in_kd D pins s σ H _ _ v u Q I rx ry ⟨z, r, rfl, rfl, e, q⟩
theorem op_niG {K : PySem.W.Frag} (hK : X.K = K) (c : CsOk cs K X.w) (h : (x, GD.dic kvs) ∈ cs) : OpR X (compareOp .NotIn) (rInG K (He.ga K x) true) := by
  subst hK
  obtain ⟨es, n, D⟩ := c.kd h
  intro pins s σ H x y v u Q I rx ry h
  obtain ⟨z, r, rfl, rfl, e, q⟩ := h
  exact op_notIn_kd D pins s σ H _ _ v u Q I rx ry ⟨z, r, rfl, rfl, e, q⟩
end
end G

set_option Elab.async false
set_option linter.all false
set_option maxRecDepth 100000
set_option maxHeartbeats 4000000
/-! Rules that take any kind of value, and the walk of a reading step by step. -/
namespace G
open PySem PySem.Spec PyProof.Rows L2

/-! ### a tuple, repeated -/
theorem tuple_mul1 (l : Addr) (items : Array Value) (n : Nat) (dd : Option Addr) (sl : Array (Option Value)) (u : Tok) :
    Meets (Builtin.«tuple.__mul__» ⟨[.ref l, .int 1 u], []⟩) (fun _ R s => s.heap.get? l = some { cls := .type "tuple", dict := dd, data := .seq items n, slots := sl } ∧
      R (.ok (.ret (Value.ref l))) s) :=
  .of_wp fun prog w A R s h => by
    obtain ⟨hp, g, d, tk, os⟩ := s
    obtain ⟨hl, h⟩ := h
    have f1 := AutoSeq1.idx_int
    have c0 : (decide ((1 : Int) < -(2 ^ 63)) || decide ((1 : Int) ≥ 2 ^ 63)) = false := by decide
    have c1 : (items.isEmpty || (1 : Int) == 1) = true := by rw [Bool.or_eq_true]; exact .inr rfl
    wp_walk using wpAny_loadPart' hl
    repeat (first
      | (refine wpAny_ite_false (decide_eq_false (by rw [c0]; exact Bool.false_ne_true)) ?_; wp_walk using wpAny_loadPart' hl)
      | (refine wpAny_ite_true (decide_eq_true c1) ?_; wp_walk using wpAny_loadPart' hl))
    exact ⟨_, rfl, h⟩
def rRepT1 (K : PySem.W.Frag) : R2 := fun x y H Q => ∃ l xs, x = .ref l ∧ y = .int 1 ∧ SqT K H l xs ∧ Q x H
theorem op_repT1 {X : Cx} : OpR X (binaryOp .Mult) (rRepT1 X.K) := by
  intro pins s σ H x y v u Q I rx ry h
  obtain ⟨l, xs, rfl, rfl, hT, q⟩ := h
  cases rx
  obtain ⟨t, rfl⟩ := ry
  obtain ⟨its, r, ⟨⟨cls, dd, data, sl⟩, ho, hc, n, hd⟩, hs⟩ := I.tuple hT
  simp only at hc hd
  subst hc hd
  exact wpAny_binaryOp_repeat_ref (T := "tuple") (U := "int") (by decide) ⟨_, ho, rfl⟩ (fun s' => typeIs_int s' 1 t) noFill_tuple_mul F.fills_int_mul F.slot_int_rmul repeat_tuple F.slot_int_index.lookup
    (call_meets F.slot_int_rmul (typeIs_int s 1 t) F.entry_int_rmul (F.args_int_rmul_2 _ _) (int_rmul_tuple 1 t l its.toArray n dd sl)
      ⟨ho, rfl, ⟨_, ho, rfl⟩, call_meets F.slot_tuple_mul ⟨_, ho, rfl⟩ F.entry_tuple_mul (F.args_tuple_mul_2 _ _) (tuple_mul1 l its.toArray n dd sl t) ⟨ho, ⟨.ref l, H, I, rfl, q⟩⟩⟩)
/-- t * k of a tuple, 1 to 1000 times -/
def rRepTU : R2 := fun x y H Q => ∃ l k xs, x = .ref l ∧ y = .int k ∧ H l = some (.tup xs) ∧ xs ≠ [] ∧ 1 ≤ k ∧ k ≤ 1000 ∧ xs.length ≤ 1000 ∧ ∀ p H', Same H H' → H' p = some (.tup (List.replicate k.toNat xs).flatten) → Q (.ref p) H'
theorem op_repTU {X : Cx} : OpR X (binaryOp .Mult) rRepTU := by
  intro pins s σ H x y v u Q I rx ry h
  obtain ⟨l, k, xs, rfl, rfl, hT, hne, h1, h2, hl, q⟩ := h
  by_cases hk : k = 1
  · subst hk
    refine op_repT1 pins s σ H _ _ v u Q I rx ry ⟨l, xs, rfl, rfl, SqT.of hT, q l H (Same.refl H) ?_⟩
    rw [hT]
    simp
  · exact op_repT pins s σ H _ _ v u Q I rx ry ⟨l, k, xs, rfl, rfl, SqT.of hT, hne, by omega, h2, hl, fun p hp => q p _ (Same.new hp) upd_same⟩
/-! ### rules for any kind of value -/
def rAddU (K : PySem.W.Frag) : R2 := fun x y H Q => match x, y with
  | .int i, .int j => Q (.int (i + j)) H
  | .str a, .str b => a.length + b.length ≤ sizeLine ∧ Q (.str (a ++ b)) H
  | .ref a, .ref b => rCat (.ref a) (.ref b) H Q ∨ rCatA K (.ref a) (.ref b) H Q
  | _, _ => False
def rMulU : R2 := fun x y H Q => match x, y with
  | .int i, .int j => (CMul i j ∨ CMulW i j) ∧ Q (.int (i * j)) H
  | .ref a, .int j => rRep (.ref a) (.int j) H Q ∨ rRepTU (.ref a) (.int j) H Q
  | _, _ => False
def rEqU (K : PySem.W.Frag) (neg : Bool) : R2 := fun x y H Q => (scal x y = true ∧ Q (.bl (if neg then !decide (x = y) else decide (x = y))) H) ∨ (if neg then rNeD K x y H Q else rEqD K x y H Q)
/-- the heap's dict at a holds o at y -/
def rInDT (K : PySem.W.Frag) (neg : Bool) : R2 := fun x y H Q => ∃ d ds, Dp K H x d ∧ (Dp K H y (.tuple ds) ∨ Dp K H y (.list ds)) ∧ SeqAt.shaped d = true ∧ PyData.canLayAll0 ds = true ∧ Q (.bl (if neg then !(ds.any fun z => PyData.eqv z d) else ds.any fun z => PyData.eqv z d)) H
theorem hu65 {A : Around} {k : Nat} (hr : Room k A) : A.units + 65 < cLine := by have := hr.un; omega
theorem op_inDT {X : Cx} (hu : X.A.units + 65 < cLine) : OpR X (compareOp .In) (rInDT X.K false) := by
  intro pins s σ H x y v u Q I rx ry h
  obtain ⟨d, ds, hd, he, sd, se, q⟩ := h
  obtain ⟨as, r1⟩ := Dp.reads I d x v hd rx
  rcases he with he | he
  · obtain ⟨bs, r2⟩ := Dp.reads I (.tuple ds) y u he ry
    exact SeqAt.in_tuple_reads r2 r1 se (SeqAt.canLay_of_shaped sd) (room_in_shaped sd hu) ⟨.bl _, H, I, rfl, q⟩
  · obtain ⟨bs, r2⟩ := Dp.reads I (.list ds) y u he ry
    exact SeqAt.in_list_reads r2 r1 se (SeqAt.canLay_of_shaped sd) (room_in_shaped sd hu) ⟨.bl _, H, I, rfl, q⟩
theorem op_niDT {X : Cx} (hu : X.A.units + 65 < cLine) : OpR X (compareOp .NotIn) (rInDT X.K true) := by
  intro pins s σ H x y v u Q I rx ry h
  obtain ⟨d, ds, hd, he, sd, se, q⟩ := h
  obtain ⟨as, r1⟩ := Dp.reads I d x v hd rx
  rcases he with he | he
  · obtain ⟨bs, r2⟩ := Dp.reads I (.tuple ds) y u he ry
    exact SeqAt.notIn_tuple_reads r2 r1 se (SeqAt.canLay_of_shaped sd) (room_in_shaped sd hu) ⟨.bl _, H, I, rfl, q⟩
  · obtain ⟨bs, r2⟩ := Dp.reads I (.list ds) y u he ry
    exact SeqAt.notIn_list_reads r2 r1 se (SeqAt.canLay_of_shaped sd) (room_in_shaped sd hu) ⟨.bl _, H, I, rfl, q⟩
def rInU (K : PySem.W.Frag) (neg : Bool) : R2 := fun x y H Q => rIn K neg x y H Q ∨ (∃ a o, y = .ref a ∧ DGet H a x o ∧ Q (.bl (if neg then !o.isSome else o.isSome)) H) ∨
  (∃ c z, x = .str ⟨#[c]⟩ ∧ y = .str z ∧ Q (.bl (if neg then !decide (c ∈ z.cps.toList) else decide (c ∈ z.cps.toList))) H) ∨ rInDT K neg x y H Q
def rIxU (K : PySem.W.Frag) : R2 := fun x y H Q => rIxL K x y H Q ∨ rIxT K x y H Q ∨ rIxS x y H Q ∨ ∃ a v, x = .ref a ∧ DGet H a y (some v) ∧ Q v H
def rLenU (K : PySem.W.Frag) : List V → Hp → VK → Prop := fun xs H Q => (∃ x n, xs = [x] ∧ LenV K x H n ∧ Q (.int n) H) ∨ ∃ a kvs, xs = [.ref a] ∧ H a = some (.dK kvs) ∧ Q (.int (kvs.length : Nat)) H
def rAbs : List V → Hp → VK → Prop := fun xs H Q => ∃ i, xs = [.int i] ∧ Q (.int (if i < 0 then -i else i)) H
def rMax2 : List V → Hp → VK → Prop := fun xs H Q => ∃ i j, xs = [.int i, .int j] ∧ Q (.int (if j > i then j else i)) H
def rMin2 : List V → Hp → VK → Prop := fun xs H Q => ∃ i j, xs = [.int i, .int j] ∧ Q (.int (if j < i then j else i)) H
def rInt1 : List V → Hp → VK → Prop := fun xs H Q => (∃ i, xs = [.int i] ∧ Q (.int i) H) ∨ ∃ k, xs = [.bl k] ∧ Q (.int (if k then 1 else 0)) H
def rStrI : List V → Hp → VK → Prop := fun xs H Q => ∃ i, xs = [.int i] ∧ i.natAbs.log2 < 1920 ∧ Q (.str (toString i)) H
def rCmpI (p : Int → Int → Bool) : R2 := rI0 fun i j => .bl (p i j)

section
variable {X : Cx} {a b c : Expr} {ta tb tc : TE} {pos : Pos}
theorem op_addU {K : PySem.W.Frag} (hK : X.K = K) : OpR X (binaryOp .Add) (rAddU K) := by
  subst hK
  intro pins s σ H x y v u Q I rx ry h
  cases x <;> cases y <;> first | exact h.elim | skip
  · exact op_add pins s σ H _ _ v u Q I rx ry ⟨_, _, rfl, rfl, h⟩
  · exact op_add_str pins s σ H _ _ v u Q I rx ry ⟨_, _, rfl, rfl, h.1, h.2⟩
  · rcases h with h | h
    · exact op_cat pins s σ H _ _ v u Q I rx ry h
    · exact op_catA pins s σ H _ _ v u Q I rx ry h
theorem op_mulU : OpR X (binaryOp .Mult) rMulU := by
  intro pins s σ H x y v u Q I rx ry h
  cases x <;> cases y <;> first | exact h.elim | skip
  · rcases h with ⟨h | h, q⟩
    · exact op_mul pins s σ H _ _ v u Q I rx ry ⟨_, _, rfl, rfl, h, q⟩
    · exact op_mulW pins s σ H _ _ v u Q I rx ry ⟨_, _, rfl, rfl, h, q⟩
  · rcases h with h | h
    · exact op_rep pins s σ H _ _ v u Q I rx ry h
    · exact op_repTU pins s σ H _ _ v u Q I rx ry h
theorem op_eqU {K : PySem.W.Frag} (hK : X.K = K) (hu : X.A.units + 64 < cLine) : OpR X (compareOp .Eq) (rEqU K false) := by
  subst hK
  intro pins s σ H x y v u Q I rx ry h
  rcases h with ⟨hs, q⟩ | h
  · exact op_eq pins s σ H x y v u Q I rx ry ⟨hs, q⟩
  · exact op_eqD hu pins s σ H x y v u Q I rx ry h
theorem op_neU {K : PySem.W.Frag} (hK : X.K = K) (hu : X.A.units + 64 < cLine) : OpR X (compareOp .NotEq) (rEqU K true) := by
  subst hK
  intro pins s σ H x y v u Q I rx ry h
  rcases h with ⟨hs, q⟩ | h
  · exact op_ne pins s σ H x y v u Q I rx ry ⟨hs, q⟩
  · exact op_neD hu pins s σ H x y v u Q I rx ry h
theorem op_inU {K : PySem.W.Frag} (hK : X.K = K) (hu : X.A.units + 65 < cLine) : OpR X (compareOp .In) (rInU K false) := by
  subst hK
  intro pins s σ H x y v u Q I rx ry h
  rcases h with h | ⟨a, o, rfl, g, q⟩ | ⟨c, z, rfl, rfl, q⟩ | h
  · exact op_in_seq pins s σ H x y v u Q I rx ry h
  · obtain rfl : u = Value.ref a := ry
    exact d_in (by omega) I g rx fun s1 I1 => ⟨.bl _, H, I1, rfl, q⟩
  · exact op_in_sign pins s σ H _ _ v u Q I rx ry ⟨c, z, rfl, rfl, q⟩
  · exact op_inDT hu pins s σ H x y v u Q I rx ry h
theorem op_niU {K : PySem.W.Frag} (hK : X.K = K) (hu : X.A.units + 65 < cLine) : OpR X (compareOp .NotIn) (rInU K true) := by
  subst hK
  intro pins s σ H x y v u Q I rx ry h
  rcases h with h | ⟨a, o, rfl, g, q⟩ | ⟨c, z, rfl, rfl, q⟩ | h
  · exact op_notIn_seq pins s σ H x y v u Q I rx ry h
  · obtain rfl : u = Value.ref a := ry
    exact d_notIn (by omega) I g rx fun s1 I1 => ⟨.bl _, H, I1, rfl, q⟩
  · exact op_notIn_sign pins s σ H _ _ v u Q I rx ry ⟨c, z, rfl, rfl, q⟩
  · exact op_niDT hu pins s σ H x y v u Q I rx ry h
theorem ix_dict (hu : X.A.units + 1 < cLine) : IxR X (fun x y H Q => ∃ a v, x = .ref a ∧ DGet H a y (some v) ∧ Q v H) := by
  intro value slice pins s σ H x y v u Q I rx ry h hs
  obtain ⟨a, z, rfl, g, q⟩ := h
  obtain rfl : v = Value.ref a := rx
  exact tail_any (dict_typeIs I g) PySem.F.slot_dict_getitem.lookup (d_getItem hu I g ry fun w' s' I' rw' => ⟨z, H, I', rw', q⟩) hs
theorem ix_U {K : PySem.W.Frag} (hK : X.K = K) (hu : X.A.units + 1 < cLine) : IxR X (rIxU K) := by
  subst hK
  exact ix_list.or (ix_tup.or (ix_str.or (ix_dict hu)))
theorem pe_ixU {K : PySem.W.Frag} (hK : X.K = K) {a b : Expr} {ta tb : TE} {pos : Pos} (hu : X.A.units + 1 < cLine) (ha : PE X a ta) (hb : PE X b tb) (hs : PlainIx b := by exact fun _ _ => rfl) : PE X (.Subscript a b pos) (tOp (rIxU K) ta tb) := pe_ix (ix_U hK hu) ha hb hs
theorem c_len {K : PySem.W.Frag} (hK : X.K = K) : CallR X (.builtin "len") (rLenU K) := by
  subst hK
  intro pins s σ H xs us Q I r h
  rcases h with h | ⟨a, kvs, rfl, e, q⟩
  · exact call_len pins s σ H xs us Q I r h
  · rw [Vals.ref1 r]
    exact d_len I (.inl e) fun t s1 I1 => ⟨.int _, H, I1, ⟨_, rfl⟩, q⟩
theorem c_abs : CallR X (.builtin "abs") rAbs := call_abs
theorem c_max2 (hc : X.calm = true) : CallR X (.builtin "max") rMax2 := call_max2 hc
theorem c_min2 (hc : X.calm = true) : CallR X (.builtin "min") rMin2 := call_min2 hc
theorem c_int : CallR X (.type "int") rInt1 := call_int1
theorem c_str : CallR X (.type "str") rStrI := call_str_int
theorem c_isi {K : PySem.W.Frag} (hK : X.K = K) : CallR X (.builtin "isinstance") (rIsi K) := by
  subst hK
  exact call_isi
theorem o_lt : OpR X (compareOp .Lt) (rCmpI fun i j => decide (i < j)) := op_lt
theorem o_le : OpR X (compareOp .LtE) (rCmpI fun i j => decide (i ≤ j)) := op_le
theorem o_gt : OpR X (compareOp .Gt) (rCmpI fun i j => decide (j < i)) := op_gt
theorem o_ge : OpR X (compareOp .GtE) (rCmpI fun i j => decide (j ≤ i)) := op_ge
/-- what is walked: a list or a tuple -/
def iSeq (K : PySem.W.Frag) (tl : TE) : TI := fun σ H R => tl σ H fun x H1 => (∃ a xs, x = .ref a ∧ SqL K H1 a xs ∧ R (Itl K a) H1) ∨ ∃ a xs, x = .ref a ∧ SqT K H1 a xs ∧ R (Itt K a) H1
/-- an iterator that was just laid -/
theorem pie_new {pins : List (Addr × Obj)} {σ : L2.St} {H : Hp} {s : Shared} {R : It → Hp → Prop} {tg : Expr} {o : Obj} {J : It} {tn : Nat → Heap → Prop} (I : Inv X pins σ H s)
    (tu : Turn X.prog X.w X.K tg J [s.heap.objs.size] s.heap.objs.size tn) (h0 : tn 0 (s.heap.push o)) (q : R J H) : PIE X pins σ tg R (.ref s.heap.objs.size) { s with heap := s.heap.push o } := by
  have k := I.kept (t' := s.toks) (h' := s.heap.push o) (fun b u e => Heap.get?_push_of_some _ e)
  refine ⟨_, _, tn, J, H, rfl, k, tu, h0, ?_, q⟩
  intro b hb
  rw [List.mem_singleton.mp hb]
  exact I.fpOk (Nat.le_refl _) (I.hok.fresh (Nat.le_refl _))
theorem pi_seq {K : PySem.W.Frag} (hK : X.K = K) {tg l : Expr} {tl : TE} (hl : PE X l tl) : PI X tg l (iSeq K tl) := by
  subst hK
  refine ⟨fun pins s σ H R I h => thn (hl.run pins s σ H _ I h) ?_⟩
  rintro v s1 ⟨x, H1, I1, r1, ⟨a, xs, rfl, hq, q⟩ | ⟨a, xs, rfl, hq, q⟩⟩ <;> cases r1
  · obtain ⟨its, _, p, _⟩ := I1.list hq
    exact wpAny_pyIter_list p.isList (pie_new I1 (turn_list a _) ⟨_, Heap.get?_push_size _ rfl, rfl, rfl⟩ q)
  · obtain ⟨its, _, p, _⟩ := I1.tuple hq
    exact wpAny_pyIter_tuple (show s1.heap.IsTuple a its.toArray from p) (pie_new I1 (turn_tuple a _) ⟨_, Heap.get?_push_size _ rfl, rfl, rfl⟩ q)
/-- a value's truth as a test -/
def tTru (K : PySem.W.Frag) (ta : TE) : TT := fun σ H Q => ta σ H fun x H' => ∃ k, TruV K x H' k ∧ Q k H'
theorem pt_tru {K : PySem.W.Frag} (hK : X.K = K) (ha : PE X a ta) (he : ∀ whole, isTrue a X.env whole = (do let v ← whole; standAt a.pos; holding [v] (truthy v)) := by intro _; rfl) : PT X a (tTru K ta) := by
  subst hK
  exact pt_truth ha he
end

/-! ### the steps of a reading -/
/-- a new tuple, a new list, of these -/
def rTupN (xs : List V) : Hp → VK → Prop := fun H Q => xs.length ≤ sizeLine ∧ ∀ p, H p = none → Q (.ref p) (upd H p (.tup xs))
def rLstN (xs : List V) : Hp → VK → Prop := fun H Q => xs.length ≤ sizeLine ∧ ∀ p, H p = none → Q (.ref p) (upd H p (.lst xs))
section
variable {K : PySem.W.Frag} {σ : L2.St} {H : Hp} {D : Ends} {t u : TS} {te ta tb tc : TE} {tt tt' : TT} {Q : VK} {QB : Bool → Hp → Prop} {QA : List V → Hp → Prop} {QS : L2.St → Hp → Prop} {g : TG} {r r' : R2} {v x y : V} {i j : Int} {b c : Bool} {k : Nat} {tA tA' : TA} {A B : Prop} {p q : Prop} {sp : Sp} {E : XK} {dvs vs : List V} {xs ys : List V} {a d C dx : Addr} {fs : List (Str × V)} {f : Str} {z z' : Str}
theorem g_seq (h : t { nx := u D, rt := D.rt, bk := D.bk, ct := D.ct } σ H) : tSeq t u D σ H := h
theorem g_next (h : D.nx σ H) : tNext D σ H := h
theorem g_asg (h : te σ H fun x H1 => g x σ H1 D.nx) : tAsg te g D σ H := h
theorem g_drop (h : te σ H fun _ H1 => D.nx σ H1) : tDrop te D σ H := h
theorem g_ret (h : te σ H D.rt) : tRet te D σ H := h
theorem g_retN (h : D.rt .non H) : tRetN D σ H := h
theorem g_brk (h : D.bk σ H) : tBreak D σ H := h
theorem g_ct (h : D.ct σ H) : tCont D σ H := h
theorem g_ifS (h : tt σ H fun b H1 => if b = true then t D σ H1 else u D σ H1) : tIfS tt t u D σ H := h
theorem g_name (h : QS (σ.set k (some v)) H) : gName k v σ H QS := h
theorem g_aug {ti : TIp} (e : σ[k]? = some (some x)) (h : te σ H fun y H1 => ti x y H1 fun z H2 => D.nx (σ.set k (some z)) H2) : tAug k te ti D σ H := ⟨x, e, h⟩
theorem g_ipI {f : Int → Int → Int} (h : Q (.int (f i j)) H) : ipI f (.int i) (.int j) H Q := ⟨i, j, rfl, rfl, h⟩
theorem g_var (e : σ[k]? = some (some v)) (h : Q v H) : tVar k σ H Q := ⟨v, e, h⟩
theorem g_c (h : Q v H) : tC v σ H Q := h
theorem g_op (h : ta σ H fun x H1 => tb σ H1 fun y H2 => r x y H2 Q) : tOp r ta tb σ H Q := h
theorem g_un {r : V → Hp → VK → Prop} (h : ta σ H fun x H1 => r x H1 Q) : tUn r ta σ H Q := h
theorem g_rU {g : Int → V} (h : Q (g i) H) : rU g (.int i) H Q := ⟨i, rfl, h⟩
theorem g_I0 {g : Int → Int → V} (h : Q (g i j) H) : rI0 g (.int i) (.int j) H Q := ⟨i, j, rfl, rfl, h⟩
theorem g_I {C : Int → Int → Prop} {g : Int → Int → V} (hc : C i j) (h : Q (g i j) H) : rI C g (.int i) (.int j) H Q := ⟨i, j, rfl, rfl, hc, h⟩
theorem g_cmpI {p : Int → Int → Bool} (h : Q (.bl (p i j)) H) : rCmpI p (.int i) (.int j) H Q := ⟨i, j, rfl, rfl, h⟩
theorem g_addI (h : Q (.int (i + j)) H) : rAddU K (.int i) (.int j) H Q := h
theorem g_addS (hl : z.length + z'.length ≤ sizeLine) (h : Q (.str (z ++ z')) H) : rAddU K (.str z) (.str z') H Q := ⟨hl, h⟩
theorem g_mulI (hc : CMul i j ∨ CMulW i j) (h : Q (.int (i * j)) H) : rMulU (.int i) (.int j) H Q := ⟨hc, h⟩
theorem g_eqI (h : Q (.bl (decide (i = j))) H) : rEqU K false (.int i) (.int j) H Q := .inl ⟨rfl, by
  have e : decide (V.int i = V.int j) = decide (i = j) := by simp
  show Q (.bl (decide (V.int i = V.int j))) H
  rw [e]
  exact h⟩
theorem g_neI (h : Q (.bl (!decide (i = j))) H) : rEqU K true (.int i) (.int j) H Q := .inl ⟨rfl, by
  have e : decide (V.int i = V.int j) = decide (i = j) := by simp
  show Q (.bl (!decide (V.int i = V.int j))) H
  rw [e]
  exact h⟩
theorem g_eqS (h : Q (.bl (decide (z = z'))) H) : rEqU K false (.str z) (.str z') H Q := .inl ⟨rfl, by
  have e : decide (V.str z = V.str z') = decide (z = z') := by simp
  show Q (.bl (decide (V.str z = V.str z'))) H
  rw [e]
  exact h⟩
theorem g_neS (h : Q (.bl (!decide (z = z'))) H) : rEqU K true (.str z) (.str z') H Q := .inl ⟨rfl, by
  have e : decide (V.str z = V.str z') = decide (z = z') := by simp
  show Q (.bl (!decide (V.str z = V.str z'))) H
  rw [e]
  exact h⟩
theorem g_eqB (h : Q (.bl (decide (b = c))) H) : rEqU K false (.bl b) (.bl c) H Q := .inl ⟨rfl, by
  have e : decide (V.bl b = V.bl c) = decide (b = c) := by simp
  show Q (.bl (decide (V.bl b = V.bl c))) H
  rw [e]
  exact h⟩
theorem g_neB (h : Q (.bl (!decide (b = c))) H) : rEqU K true (.bl b) (.bl c) H Q := .inl ⟨rfl, by
  have e : decide (V.bl b = V.bl c) = decide (b = c) := by simp
  show Q (.bl (!decide (V.bl b = V.bl c))) H
  rw [e]
  exact h⟩
theorem g_eqD {d e : PyData} (h1 : Dp K H x d) (h2 : Dp K H y e) (s1 : SeqAt.shaped d = true) (s2 : SeqAt.shaped e = true) (h : Q (.bl (PyData.eqv d e)) H) : rEqU K false x y H Q := .inr ⟨d, e, h1, h2, s1, s2, h⟩
theorem g_neD {d e : PyData} (h1 : Dp K H x d) (h2 : Dp K H y e) (s1 : SeqAt.shaped d = true) (s2 : SeqAt.shaped e = true) (h : Q (.bl (!PyData.eqv d e)) H) : rEqU K true x y H Q := .inr ⟨d, e, h1, h2, s1, s2, h⟩
theorem g_test (h : te σ H fun x H' => ∃ k, x = .bl k ∧ QB k H') : tTest te σ H QB := h
theorem g_B (h : te σ H fun x H' => ∃ k, x = .bl k ∧ QB k H') : tB te σ H QB := h
theorem g_exb {R : Bool → Prop} (h : R b) : ∃ k, V.bl b = V.bl k ∧ R k := ⟨b, rfl, h⟩
theorem g_tru (h : te σ H fun x H' => ∃ k, TruV K x H' k ∧ QB k H') : tTru K te σ H QB := h
theorem g_truB {R : Bool → Prop} (h : R b) : ∃ k, TruV K (.bl b) H k ∧ R k := ⟨b, rfl, h⟩
theorem g_truI {R : Bool → Prop} (h : R (i != 0)) : ∃ k, TruV K (.int i) H k ∧ R k := ⟨_, rfl, h⟩
theorem g_truN {R : Bool → Prop} (h : R false) : ∃ k, TruV K .non H k ∧ R k := ⟨_, rfl, h⟩
theorem g_not (h : tt σ H fun c H1 => QB (!c) H1) : tNot tt σ H QB := h
theorem g_and (h : tt σ H fun c H1 => if c = true then tt' σ H1 QB else QB false H1) : tAnd tt tt' σ H QB := h
theorem g_or (h : tt σ H fun c H1 => if c = true then QB true H1 else tt' σ H1 QB) : tOr tt tt' σ H QB := h
theorem g_notV (h : ta σ H fun x H1 => ∃ c, x = .bl c ∧ Q (.bl (!c)) H1) : tNotV ta σ H Q := h
theorem g_andV (h : ta σ H fun x H1 => ∃ c, x = .bl c ∧ if c = true then tb σ H1 Q else Q (.bl false) H1) : tAndV ta tb σ H Q := h
theorem g_orV (h : ta σ H fun x H1 => ∃ c, x = .bl c ∧ if c = true then Q (.bl true) H1 else tb σ H1 Q) : tOrV ta tb σ H Q := h
theorem g_ifE (h : tt σ H fun c H1 => if c = true then ta σ H1 Q else tb σ H1 Q) : tIf tt ta tb σ H Q := h
theorem g_chain (h : ta σ H fun x H1 => tb σ H1 fun y H2 => r x y H2 fun z H3 => ∃ k, z = .bl k ∧ (if k = true then tc σ H3 fun w' H4 => r' y w' H4 Q else Q (.bl false) H3)) : tChain r r' ta tb tc σ H Q := h
theorem g_nilA (h : QA [] H) : tNil σ H QA := h
theorem g_consA (h : ta σ H fun x H1 => tA σ H1 fun xs H2 => QA (x :: xs) H2) : tCons ta tA σ H QA := h
theorem g_tup (h : tA σ H fun xs H1 => rTupN xs H1 Q) : tTup tA σ H Q := h
theorem g_lst (h : tA σ H fun xs H1 => rLstN xs H1 Q) : tLst tA σ H Q := h
theorem g_cb {r : List V → Hp → VK → Prop} (h : tA σ H fun vs H1 => r vs H1 Q) : tCB r tA σ H Q := h
theorem g_call (h : tA σ H fun vs H1 => sp (vs ++ dvs) H1 Q E) : tCall sp dvs E tA σ H Q := h
theorem g_bm {T : String} {r : V → List V → Hp → VK → Prop} (h : te σ H fun x H1 => tyV K T x H1 ∧ tA σ H1 fun xs H2 => r x xs H2 Q) : tBM K T r te tA σ H Q := h
theorem g_bm0 {T : String} {r : V → List V → Hp → VK → Prop} (h : te σ H fun x H1 => tyV K T x H1 ∧ r x [] H1 Q) : tBM0 K T r te σ H Q := h
theorem g_lenL (hl : SqL K H a xs) (h : Q (.int (xs.length : Nat)) H) : rLenU K [.ref a] H Q := .inl ⟨_, _, rfl, .inl ⟨_, hl, rfl⟩, h⟩
theorem g_lenT (hl : SqT K H a xs) (h : Q (.int (xs.length : Nat)) H) : rLenU K [.ref a] H Q := .inl ⟨_, _, rfl, .inr ⟨_, hl, rfl⟩, h⟩
theorem g_lenS (hl : z.length ≤ sizeLine) (h : Q (.int (z.length : Nat)) H) : rLenU K [.str z] H Q := .inl ⟨_, _, rfl, ⟨hl, rfl⟩, h⟩
theorem g_abs (h : Q (.int (if i < 0 then -i else i)) H) : rAbs [.int i] H Q := ⟨i, rfl, h⟩
theorem g_max2 (h : Q (.int (if j > i then j else i)) H) : rMax2 [.int i, .int j] H Q := ⟨i, j, rfl, h⟩
theorem g_min2 (h : Q (.int (if j < i then j else i)) H) : rMin2 [.int i, .int j] H Q := ⟨i, j, rfl, h⟩
theorem g_intI (h : Q (.int i) H) : rInt1 [.int i] H Q := .inl ⟨i, rfl, h⟩
theorem g_intB (h : Q (.int (if b then 1 else 0)) H) : rInt1 [.bl b] H Q := .inr ⟨b, rfl, h⟩
theorem g_ixL {n : Nat} (hl : SqL K H a xs) (e : i = (n : Int)) (hv : xs[n]? = some v) (h : Q v H) : rIxU K (.ref a) (.int i) H Q := .inl ⟨_, _, _, _, rfl, rfl, hl, by rw [e]; exact atI_nat hv, h⟩
theorem g_ixL' (hl : SqL K H a xs) (hv : atI xs i = some v) (h : Q v H) : rIxU K (.ref a) (.int i) H Q := .inl ⟨_, _, _, _, rfl, rfl, hl, hv, h⟩
theorem g_ixT {n : Nat} (hl : SqT K H a xs) (e : i = (n : Int)) (hv : xs[n]? = some v) (h : Q v H) : rIxU K (.ref a) (.int i) H Q := .inr (.inl ⟨_, _, _, _, rfl, rfl, hl, by rw [e]; exact atI_nat hv, h⟩)
theorem g_ixT' (hl : SqT K H a xs) (hv : atI xs i = some v) (h : Q v H) : rIxU K (.ref a) (.int i) H Q := .inr (.inl ⟨_, _, _, _, rfl, rfl, hl, hv, h⟩)
theorem g_ixD (g : DGet H a x (some v)) (h : Q v H) : rIxU K (.ref a) x H Q := .inr (.inr (.inr ⟨_, _, rfl, g, h⟩))
theorem g_isi {t u : Value} (hc : ClsV y u) (ht : TyX K H x t) (hk : PySem.W.kitOne K t u = some b) (h : Q (.bl b) H) : rIsi K [x, y] H Q := ⟨x, y, t, u, b, rfl, hc, ht, hk, h⟩
/-- branches -/
theorem g_if [Decidable p] (h1 : p → A) (h2 : ¬ p → B) : if decide p = true then A else B := by
  by_cases h : p
  · rw [if_pos (decide_eq_true h)]
    exact h1 h
  · rw [if_neg fun z => h (of_decide_eq_true z)]
    exact h2 h
theorem g_ifN [Decidable p] (h1 : ¬ p → A) (h2 : p → B) : if (!decide p) = true then A else B := by
  by_cases h : p
  · rw [decide_eq_true h]
    exact h2 h
  · rw [decide_eq_false h]
    exact h1 h
theorem g_ifB (h1 : b = true → A) (h2 : b = false → B) : if b = true then A else B := by
  cases b with
  | true => exact h1 rfl
  | false => exact h2 rfl
theorem g_ifBn (h1 : b = false → A) (h2 : b = true → B) : if (!b) = true then A else B := by
  cases b with
  | true => exact h2 rfl
  | false => exact h1 rfl
theorem g_ifT (h : A) : if true = true then A else B := h
theorem g_ifF (h : B) : if false = true then A else B := h
theorem g_ifNT (h : B) : if (!true) = true then A else B := h
theorem g_ifNF (h : A) : if (!false) = true then A else B := h
/-- a list grown -/
theorem g_append {L : List (Addr × HO)} (M : Has H L) (n : Nat) (h : L[n]? = some (a, .lst xs)) (hl : xs.length < sizeLine) (k : Has (upd H a (.lst (xs ++ [y]))) (L.set n (a, .lst (xs ++ [y]))) → Q .non (upd H a (.lst (xs ++ [y])))) : rAppend (.ref a) [y] H Q :=
  ⟨a, xs, y, rfl, rfl, M.get n h, hl, k (M.set n h)⟩
theorem g_setL {L : List (Addr × HO)} {R : Hp → Prop} {m : Nat} (M : Has H L) (n : Nat) (h : L[n]? = some (a, .lst xs)) (hi : ixN xs.length i = some m) (k : Has (upd H a (.lst (xs.set m y))) (L.set n (a, .lst (xs.set m y))) → R (upd H a (.lst (xs.set m y)))) : rSetL (.ref a) (.int i) y H R :=
  ⟨a, xs, i, m, rfl, rfl, M.get n h, hi, k (M.set n h)⟩
/-- a new object -/
theorem g_new {L : List (Addr × HO)} {o : HO} {R : Addr → Hp → Prop} (M : Has H L) (k : ∀ p, H p = none → Has (upd H p o) (L ++ [(p, o)]) → R p (upd H p o)) : ∀ p, H p = none → R p (upd H p o) := fun p hp => k p hp (M.new hp)
end
theorem mul_ok {i j : Int} (h : -18446744073709551616 < j) (h2 : j < 18446744073709551616) : CMul i j ∨ CMulW i j := .inl (.inr ⟨h, h2⟩)
theorem mul_ok' {i j : Int} (h : -18446744073709551616 < i) (h2 : i < 18446744073709551616) : CMul i j ∨ CMulW i j := .inl (.inl ⟨h, h2⟩)
theorem cdivW_of {i j : Int} (h : 0 < j) (h2 : j < 2 ^ 64) : CDivW i j := wide_div h (b := 64) (by omega) (by decide) (by decide)
theorem cpow_of {i j : Int} (h : 0 ≤ j) (h2 : j ≤ 1000000) (h3 : i.natAbs < 2 ^ 64) : CPow i j := ⟨h, h2, h3⟩

/-! ### loops -/
/-- what a for asks once its iterator has come -/
def ForW (g : TG) (tb : TS) (D : Ends) (σ : L2.St) : It → Hp → Prop := fun J H1 => ∃ W : Nat → Nat → L2.St → Hp → Prop, (∃ m, W 0 m σ H1) ∧ ∀ i m σ H, W i m σ H →
  (J.stop i H ∧ D.nx σ H) ∨ (J.go i H ∧ ∃ N : L2.St → Hp → Prop, (∀ σ' H', N σ' H' → ∃ m', m' < m ∧ W (i + 1) m' σ' H') ∧ ∀ x H', J.yld i H x H' → g x σ H' fun σ2 H2 => tb { D with nx := N, ct := N, bk := D.nx } σ2 H2)
def rR1 : List V → Hp → (It → Hp → Prop) → Prop := fun vs H R => ∃ j : Int, vs = [.int j] ∧ -(2 ^ 62) ≤ j ∧ j < 2 ^ 62 ∧ R (Itr 0 j.toNat) H
def rR2 : List V → Hp → (It → Hp → Prop) → Prop := fun vs H R => ∃ i j : Int, vs = [.int i, .int j] ∧ (-(2 ^ 62) ≤ i ∧ i < 2 ^ 62 ∧ -(2 ^ 62) ≤ j ∧ j < 2 ^ 62) ∧ R (Itr i (j - i).toNat) H
def iR (r : List V → Hp → (It → Hp → Prop) → Prop) (ta : TA) : TI := fun σ H R => ta σ H fun vs H1 => r vs H1 R
theorem pi_r1 {X : Cx} {tg a : Expr} {ta : TA} {p pos : Pos} (hg : Gl X "range") (hm : X.mg "range" = none) (ha : PA X [a] ta) (hs : starEach [a] X.env = [(false, eval a X.env)] := by rfl) : PI X tg (.Call (.Name "range" p) [a] [] pos) (iR rR1 ta) := pi_range1 hg hm ha hs
theorem pi_r2 {X : Cx} {tg a b : Expr} {ta : TA} {p pos : Pos} (hg : Gl X "range") (hm : X.mg "range" = none) (ha : PA X [a, b] ta) (hs : starEach [a, b] X.env = [(false, eval a X.env), (false, eval b X.env)] := by rfl) (hs2 : starEach [b] X.env = [(false, eval b X.env)] := by rfl) : PI X tg (.Call (.Name "range" p) [a, b] [] pos) (iR rR2 ta) := pi_range2 hg hm ha hs hs2
section
variable {K : PySem.W.Frag} {σ : L2.St} {H : Hp} {D : Ends} {wi : TI} {g : TG} {tb : TS} {ta : TA} {te : TE} {R : It → Hp → Prop} {r : List V → Hp → (It → Hp → Prop) → Prop} {i j : Int} {a : Addr} {xs : List V} {Q : VK} {n lo : Int}
theorem g_for (h : wi σ H (ForW g tb D σ)) : tFor wi g tb D σ H := h
theorem g_iR (h : ta σ H fun vs H1 => r vs H1 R) : iR r ta σ H R := h
theorem g_rR1 (h1 : -4611686018427387904 ≤ i) (h2 : i < 4611686018427387904) (h : R (Itr 0 i.toNat) H) : rR1 [.int i] H R := ⟨i, rfl, h1, h2, h⟩
theorem g_rR2 (h1 : -4611686018427387904 ≤ i ∧ i < 4611686018427387904 ∧ -4611686018427387904 ≤ j ∧ j < 4611686018427387904) (h : R (Itr i (j - i).toNat) H) : rR2 [.int i, .int j] H R := ⟨i, j, rfl, h1, h⟩
theorem g_iSeq (h : te σ H fun x H1 => (∃ a xs, x = .ref a ∧ SqL K H1 a xs ∧ R (Itl K a) H1) ∨ ∃ a xs, x = .ref a ∧ SqT K H1 a xs ∧ R (Itt K a) H1) : iSeq K te σ H R := h
theorem g_seqL (hl : SqL K H a xs) (h : R (Itl K a) H) : (∃ b ys, V.ref a = .ref b ∧ SqL K H b ys ∧ R (Itl K b) H) ∨ ∃ b ys, V.ref a = .ref b ∧ SqT K H b ys ∧ R (Itt K b) H := .inl ⟨a, xs, rfl, hl, h⟩
theorem g_seqT (hl : SqT K H a xs) (h : R (Itt K a) H) : (∃ b ys, V.ref a = .ref b ∧ SqL K H b ys ∧ R (Itl K b) H) ∨ ∃ b ys, V.ref a = .ref b ∧ SqT K H b ys ∧ R (Itt K b) H := .inr ⟨a, xs, rfl, hl, h⟩
theorem f_range {lo : Int} {n : Nat} (Pv : Nat → L2.St → Hp → Prop) (h0 : Pv 0 σ H)
    (hs : ∀ i σ H, i < n → Pv i σ H → g (.int (lo + i)) σ H fun σ2 H2 => tb { nx := Pv (i + 1), rt := D.rt, ct := Pv (i + 1), bk := D.nx } σ2 H2) (hd : ∀ σ H, Pv n σ H → D.nx σ H) : ForW g tb D σ (Itr lo n) H := for_range Pv h0 hs hd
theorem f_list (Pv : Nat → L2.St → Hp → Prop) (h0 : Pv 0 σ H) (hl : ∀ i σ H, i ≤ xs.length → Pv i σ H → SqL K H a xs)
    (hs : ∀ i x σ H, xs[i]? = some x → Pv i σ H → g x σ H fun σ2 H2 => tb { nx := Pv (i + 1), rt := D.rt, ct := Pv (i + 1), bk := D.nx } σ2 H2) (hd : ∀ σ H, Pv xs.length σ H → D.nx σ H) : ForW g tb D σ (Itl K a) H := for_list Pv h0 hl hs hd
theorem f_tup (Pv : Nat → L2.St → Hp → Prop) (h0 : Pv 0 σ H) (hl : ∀ i σ H, i ≤ xs.length → Pv i σ H → SqT K H a xs)
    (hs : ∀ i x σ H, xs[i]? = some x → Pv i σ H → g x σ H fun σ2 H2 => tb { nx := Pv (i + 1), rt := D.rt, ct := Pv (i + 1), bk := D.nx } σ2 H2) (hd : ∀ σ H, Pv xs.length σ H → D.nx σ H) : ForW g tb D σ (Itt K a) H := for_tup Pv h0 hl hs hd
/-- while: W by a measure and the state -/
def WhileW (c : TT) (tb : TS) (D : Ends) (W : Nat → L2.St → Hp → Prop) : Prop := ∀ m σ H, W m σ H →
  c σ H fun b H1 => if b = true then ∃ N : L2.St → Hp → Prop, (∀ σ' H', N σ' H' → ∃ m', m' < m ∧ W m' σ' H') ∧ tb { D with nx := N, ct := N, bk := D.nx } σ H1 else D.nx σ H1
theorem g_whileT {m : Nat} {W : Nat → L2.St → Hp → Prop} {A : (L2.St → Hp → Prop) → Prop} (h : A fun σ' H' => ∃ m', m' < m ∧ W m' σ' H') : ∃ N : L2.St → Hp → Prop, (∀ σ' H', N σ' H' → ∃ m', m' < m ∧ W m' σ' H') ∧ A N := ⟨_, fun _ _ h => h, h⟩
/-! ### isinstance of the scalars -/
theorem isi_of {x : V} {T T' : String} {b : Bool} (ht : TyX K H x (.type T)) (hk : kitB T T' = some b) (h : Q (.bl b) H) : rIsi K [x, .ty T'] H Q := ⟨x, .ty T', .type T, .type T', b, rfl, .ty T', ht, kit_ty hk, h⟩
theorem k_ii : kitB "int" "int" = some true := by decide +kernel
theorem k_ib : kitB "int" "bool" = some false := by decide +kernel
theorem k_bi : kitB "bool" "int" = some true := by decide +kernel
theorem k_bb : kitB "bool" "bool" = some true := by decide +kernel
theorem k_is_ : kitB "int" "str" = some false := by decide +kernel
theorem k_bs : kitB "bool" "str" = some false := by decide +kernel
theorem k_it : kitB "int" "tuple" = some false := by decide +kernel
theorem k_bt : kitB "bool" "tuple" = some false := by decide +kernel
theorem k_si : kitB "str" "int" = some false := by decide +kernel
theorem k_sb : kitB "str" "bool" = some false := by decide +kernel
theorem k_ss : kitB "str" "str" = some true := by decide +kernel
theorem k_st : kitB "str" "tuple" = some false := by decide +kernel
theorem k_ni : kitB "NoneType" "int" = some false := by decide +kernel
theorem k_nb : kitB "NoneType" "bool" = some false := by decide +kernel
theorem k_ns : kitB "NoneType" "str" = some false := by decide +kernel
theorem k_nt : kitB "NoneType" "tuple" = some false := by decide +kernel
theorem k_tt : kitB "tuple" "tuple" = some true := by decide +kernel
theorem k_ti : kitB "tuple" "int" = some false := by decide +kernel
theorem k_tb : kitB "tuple" "bool" = some false := by decide +kernel
theorem k_ts : kitB "tuple" "str" = some false := by decide +kernel
variable {z : Str} {b : Bool}
theorem g_isiIi (h : Q (.bl true) H) : rIsi K [.int i, .ty "int"] H Q := isi_of (.base (.int i)) k_ii h
theorem g_isiIb (h : Q (.bl false) H) : rIsi K [.int i, .ty "bool"] H Q := isi_of (.base (.int i)) k_ib h
theorem g_isiIs (h : Q (.bl false) H) : rIsi K [.int i, .ty "str"] H Q := isi_of (.base (.int i)) k_is_ h
theorem g_isiIt (h : Q (.bl false) H) : rIsi K [.int i, .ty "tuple"] H Q := isi_of (.base (.int i)) k_it h
theorem g_isiBi (h : Q (.bl true) H) : rIsi K [.bl b, .ty "int"] H Q := isi_of (.base (.bl b)) k_bi h
theorem g_isiBb (h : Q (.bl true) H) : rIsi K [.bl b, .ty "bool"] H Q := isi_of (.base (.bl b)) k_bb h
theorem g_isiBs (h : Q (.bl false) H) : rIsi K [.bl b, .ty "str"] H Q := isi_of (.base (.bl b)) k_bs h
theorem g_isiBt (h : Q (.bl false) H) : rIsi K [.bl b, .ty "tuple"] H Q := isi_of (.base (.bl b)) k_bt h
theorem g_isiSi (h : Q (.bl false) H) : rIsi K [.str z, .ty "int"] H Q := isi_of (.base (.str z)) k_si h
theorem g_isiSb (h : Q (.bl false) H) : rIsi K [.str z, .ty "bool"] H Q := isi_of (.base (.str z)) k_sb h
theorem g_isiSs (h : Q (.bl true) H) : rIsi K [.str z, .ty "str"] H Q := isi_of (.base (.str z)) k_ss h
theorem g_isiSt (h : Q (.bl false) H) : rIsi K [.str z, .ty "tuple"] H Q := isi_of (.base (.str z)) k_st h
theorem g_isiNi (h : Q (.bl false) H) : rIsi K [.non, .ty "int"] H Q := isi_of (.base .non) k_ni h
theorem g_isiNb (h : Q (.bl false) H) : rIsi K [.non, .ty "bool"] H Q := isi_of (.base .non) k_nb h
theorem g_isiNs (h : Q (.bl false) H) : rIsi K [.non, .ty "str"] H Q := isi_of (.base .non) k_ns h
theorem g_isiNt (h : Q (.bl false) H) : rIsi K [.non, .ty "tuple"] H Q := isi_of (.base .non) k_nt h
end
section
variable {H H1 : Hp} {a : Addr} {o : HO}
theorem Same.mut (x : Same H H1) (h : H a = none) : Same H (upd H1 a o) := fun b u e => by
  rw [upd_ne (ne_of_none e h)]
  exact x b u e
theorem Same.new' (x : Same H H1) (h : H1 a = none) : Same H (upd H1 a o) := fun b u e => keep_new (x b u e) h
end
theorem q_int {Q : VK} {x y : Int} {H : Hp} (e : x = y) (h : Q (.int x) H) : Q (.int y) H := e ▸ h
theorem q_bl {Q : VK} {x y : Bool} {H : Hp} (e : x = y) (h : Q (.bl x) H) : Q (.bl y) H := e ▸ h
theorem q_str {Q : VK} {x y : Str} {H : Hp} (e : x = y) (h : Q (.str x) H) : Q (.str y) H := e ▸ h
theorem g_disp {trs : List (TE × TE)} {σ : L2.St} {H : Hp} {Q : VK} (h : ∀ p, H p = none → tPairs trs σ (upd H p (.dK [])) fun ps H2 => H2 p = some (.dK []) ∧ ∃ kvs : List (Key × V), ps = kvs.map (fun kv => (kV kv.1, kv.2)) ∧ kvs.length ≤ 15 ∧ Q (.ref p) (upd H2 p (.dK (mergeK [] kvs)))) : tDisp trs σ H Q := h
theorem g_pairN {σ : L2.St} {H : Hp} {R : List (V × V) → Hp → Prop} (h : R [] H) : tPairs [] σ H R := h
theorem g_pairC {tk tv : TE} {r : List (TE × TE)} {σ : L2.St} {H : Hp} {R : List (V × V) → Hp → Prop} (h : tk σ H fun x H1 => tv σ H1 fun y H2 => tPairs r σ H2 fun ps H3 => R ((x, y) :: ps) H3) : tPairs ((tk, tv) :: r) σ H R := h
theorem g_dput {td ty tv : TE} {D : Ends} {σ : L2.St} {H : Hp} (h : tv σ H fun v H1 => td σ H1 fun x H2 => ty σ H2 fun y H3 => ∃ a H4, x = .ref a ∧ DPut H3 a y v H4 ∧ D.nx σ H4) : sDPut td ty tv D σ H := h

/-! ### the laws' draws: a dict with a row, a place and a seed -/
theorem ne_ra : ¬ (("row" : Str) = "at") := by decide +kernel
theorem ne_rs : ¬ (("row" : Str) = "seed") := by decide +kernel
theorem ne_as : ¬ (("at" : Str) = "seed") := by decide +kernel
theorem ne_sa : ¬ (("seed" : Str) = "at") := by decide +kernel
theorem ne_ar : ¬ (("at" : Str) = "row") := by decide +kernel
theorem ne_sr : ¬ (("seed" : Str) = "row") := by decide +kernel
def drK (r : Addr) (n sd : Int) : List (Key × V) := [(.inr "row", .ref r), (.inr "at", .int n), (.inr "seed", .int sd)]
structure RowOk (row : List Int) (sd : Int) : Prop where
  dig : ∀ x ∈ row, 0 ≤ x ∧ x < 1000
  len : row.length ≤ 1260
  s0 : 0 ≤ sd
  s1 : sd < 1000003
theorem dr_row (r : Addr) (n sd : Int) : valV (drK r n sd) (.inr "row") = some (.ref r) := by
  unfold drK
  exact valV_pos rfl
theorem dr_at (r : Addr) (n sd : Int) : valV (drK r n sd) (.inr "at") = some (.int n) := by
  unfold drK
  rw [valV_neg (fun e => ne_ra (Sum.inr.inj e))]
  exact valV_pos rfl
theorem dr_seed (r : Addr) (n sd : Int) : valV (drK r n sd) (.inr "seed") = some (.int sd) := by
  unfold drK
  rw [valV_neg (fun e => ne_rs (Sum.inr.inj e)), valV_neg (fun e => ne_as (Sum.inr.inj e))]
  exact valV_pos rfl
theorem dr_put (r : Addr) (n m sd : Int) : putK (drK r n sd) (.inr "at") (.int m) = drK r m sd := by
  unfold putK
  rw [valV_any, dr_at]
  simp only [Option.isSome_some, if_true]
  unfold drK
  simp only [List.map_cons, List.map_nil]
  rw [if_neg (fun e => ne_ra (Sum.inr.inj e)), if_pos trivial, if_neg (fun e => ne_sa (Sum.inr.inj e))]
theorem dr_made (r : Addr) (n sd : Int) : mergeK [] [(.inr "row", .ref r), (.inr "at", .int n), (.inr "seed", .int sd)] = drK r n sd := by
  have h1 : putK ([] : List (Key × V)) (.inr "row") (.ref r) = [(.inr "row", .ref r)] := putK_new _ rfl
  have h2 : putK ([(.inr "row", .ref r)] : List (Key × V)) (.inr "at") (.int n) = [(.inr "row", .ref r)] ++ [(.inr "at", .int n)] := putK_new _ (by rw [valV_neg (fun e => ne_ra (Sum.inr.inj e))]; rfl)
  have h3 : putK ([(.inr "row", .ref r), (.inr "at", .int n)] : List (Key × V)) (.inr "seed") (.int sd) = [(.inr "row", .ref r), (.inr "at", .int n)] ++ [(.inr "seed", .int sd)] := putK_new _ (by
    rw [valV_neg (fun e => ne_rs (Sum.inr.inj e)), valV_neg (fun e => ne_as (Sum.inr.inj e))]; rfl)
  unfold mergeK
  simp only [List.foldl_cons, List.foldl_nil]
  rw [h1, h2]
  exact h3
theorem dg_row {H : Hp} {d r : Addr} {n sd : Int} (h : H d = some (.dK (drK r n sd))) : DGet H d (.str "row") (some (.ref r)) := by
  rw [← dr_row r n sd]
  exact DGet.k (k := .inr "row") h
theorem dg_at {H : Hp} {d r : Addr} {n sd : Int} (h : H d = some (.dK (drK r n sd))) : DGet H d (.str "at") (some (.int n)) := by
  rw [← dr_at r n sd]
  exact DGet.k (k := .inr "at") h
theorem dg_seed {H : Hp} {d r : Addr} {n sd : Int} (h : H d = some (.dK (drK r n sd))) : DGet H d (.str "seed") (some (.int sd)) := by
  rw [← dr_seed r n sd]
  exact DGet.k (k := .inr "seed") h
theorem dp_at {H : Hp} {d r : Addr} {n sd : Int} (m : Int) (h : H d = some (.dK (drK r n sd))) : DPut H d (.str "at") (.int m) (upd H d (.dK (drK r m sd))) := by
  rw [← dr_put r n m sd]
  exact DPut.k (k := .inr "at") h (by show 3 < sizeLine; decide)
theorem szl {n : Nat} (h : n ≤ 100000) : n < sizeLine := Nat.lt_of_le_of_lt h (by decide)
theorem szle {n : Nat} (h : n ≤ 100000) : n ≤ sizeLine := Nat.le_trans h (by decide)

/-! ### //, %, shifts by name -/
def rMod : R2 := rI (fun _ j => 0 < j) fun i j => .int (i % j)
def rFdiv : R2 := rI CDivW fun i j => .int (i / j)
def rShl : R2 := rI CPow fun i j => .int (i * 2 ^ j.toNat)
def rPow : R2 := rI CPow fun i j => .int (i ^ j.toNat)
def rShr : R2 := rI (fun _ j => 0 ≤ j) fun i j => .int (i / 2 ^ j.toNat)
section
variable {X : Cx} {i j : Int} {H : Hp} {Q : VK}
theorem o_mod : OpR X (binaryOp .Mod) rMod := op_mod
theorem o_fdiv : OpR X (binaryOp .FloorDiv) rFdiv := op_fdivW
theorem o_shl : OpR X (binaryOp .LShift) rShl := op_shl
theorem o_pow : OpR X (binaryOp .Pow) rPow := op_pow
theorem o_shr : OpR X (binaryOp .RShift) rShr := op_shr
theorem io_fdiv : OpR X (inplaceOp .FloorDiv) rFdiv := iop_fdivW
theorem io_mod : OpR X (inplaceOp .Mod) rMod := iop_mod
theorem g_mod (h : 0 < j) (q : Q (.int (i % j)) H) : rMod (.int i) (.int j) H Q := ⟨i, j, rfl, rfl, h, q⟩
theorem g_fdiv (h : 0 < j) (h2 : j < 18446744073709551616) (q : Q (.int (i / j)) H) : rFdiv (.int i) (.int j) H Q := ⟨i, j, rfl, rfl, cdivW_of h h2, q⟩
theorem g_shl (h : 0 ≤ j) (h2 : j ≤ 1000000) (h3 : i.natAbs < 18446744073709551616) (q : Q (.int (i * 2 ^ j.toNat)) H) : rShl (.int i) (.int j) H Q := ⟨i, j, rfl, rfl, ⟨h, h2, h3⟩, q⟩
theorem g_pow (h : 0 ≤ j) (h2 : j ≤ 1000000) (h3 : i.natAbs < 18446744073709551616) (q : Q (.int (i ^ j.toNat)) H) : rPow (.int i) (.int j) H Q := ⟨i, j, rfl, rfl, ⟨h, h2, h3⟩, q⟩
theorem g_shr (h : 0 ≤ j) (q : Q (.int (i / 2 ^ j.toNat)) H) : rShr (.int i) (.int j) H Q := ⟨i, j, rfl, rfl, h, q⟩
end

/-! ### fields, methods, makes -/
def rFld (K : PySem.W.Frag) (f : Str) : V → Hp → VK → Prop := fun x H Q => ∃ a C dx fs v, x = .ref a ∧ H a = some (.ins C dx fs) ∧ Cls K C ∧ NoAttr K C f ∧ fs.lookup f = some v ∧ Q v H
def rSFld (K : PySem.W.Frag) (f : Str) : V → V → Hp → (Hp → Prop) → Prop := fun x y H R => ∃ a C dx fs, x = .ref a ∧ H a = some (.ins C dx fs) ∧ Cls K C ∧ NoAttr K C f ∧ fs.length < 1000 ∧ R (upd H a (.ins C dx (putF f y fs)))
def tSFld (K : PySem.W.Frag) (ta tv : TE) (f : Str) : TS := fun D σ H => tv σ H fun y H1 => ta σ H1 fun x H2 => rSFld K f x y H2 (D.nx σ)
/-- the receiver of a method's call -/
def rRcv (C : Addr) (m : Str) : V → Hp → (Hp → Prop) → Prop := fun x H R => ∃ a dx fs, x = .ref a ∧ H a = some (.ins C dx fs) ∧ fs.lookup m = none ∧ R H
section
variable {X : Cx} {o e value : Expr} {f : Str} {pos pos' : Pos} {ta tv : TE}
theorem pe_fldU {K : PySem.W.Frag} (hK : X.K = K) (he : PE X e ta) (hb : attributeBase e f X.env (eval e X.env) = eval e X.env) : PE X (.Attribute e f pos) (tUn (rFld K f) ta) := by
  subst hK
  exact pe_fld he hb
theorem ps_fldU {K : PySem.W.Frag} (hK : X.K = K) (ha : PE X o ta) (hv : PE X value tv) (hs : swapsWith value (some (.Attribute o f pos')) pos.line X.env = pure false) : PS X (.Assign [.Attribute o f pos'] value pos) (tSFld K ta tv f) := by
  subst hK
  exact ps_fld ha hv hs
end
section
variable {K : PySem.W.Frag} {σ : L2.St} {H : Hp} {D : Ends} {ta tv : TE} {t : TA} {Q : VK} {v y : V} {a C dx : Addr} {fs fs' : List (Str × V)} {f m : Str} {sp : Sp} {dvs : List V} {E : XK} {L : List (Addr × HO)} {R : Hp → Prop}
theorem g_fld (he : H a = some (.ins C dx fs)) (cl : Cls K C) (na : NoAttr K C f) (l : fs.lookup f = some v) (h : Q v H) : rFld K f (.ref a) H Q := ⟨a, C, dx, fs, v, rfl, he, cl, na, l, h⟩
theorem g_sfld (h : tv σ H fun y H1 => ta σ H1 fun x H2 => rSFld K f x y H2 (D.nx σ)) : tSFld K ta tv f D σ H := h
theorem g_setF (M : Has H L) (n : Nat) (he : L[n]? = some (a, .ins C dx fs)) (cl : Cls K C) (na : NoAttr K C f) (hl : fs.length < 1000) (e : putF f y fs = fs') (k : Has (upd H a (.ins C dx fs')) (L.set n (a, .ins C dx fs')) → R (upd H a (.ins C dx fs'))) : rSFld K f (.ref a) y H R :=
  ⟨a, C, dx, fs, rfl, M.get n he, cl, na, hl, by rw [e]; exact k (M.set n he)⟩
theorem g_meth (h : ta σ H fun x H1 => ∃ a dx fs, x = .ref a ∧ H1 a = some (.ins C dx fs) ∧ fs.lookup m = none ∧ t σ H1 fun vs H2 => sp (x :: (vs ++ dvs)) H2 Q E) : tMeth C m sp dvs E ta t σ H Q := h
theorem g_rcv {A : Prop} (he : H a = some (.ins C dx fs)) (l : fs.lookup m = none) (h : A) : ∃ b dx' fs', V.ref a = .ref b ∧ H b = some (.ins C dx' fs') ∧ fs'.lookup m = none ∧ A := ⟨a, dx, fs, rfl, he, l, h⟩
theorem g_make (h : t σ H fun vs H1 => ∀ x dx, H1 x = none → H1 dx = none → dx ≠ x → sp (.ref x :: (vs ++ dvs)) (upd (upd H1 dx (.own x)) x (.ins C dx [])) (fun v H2 => v = .non ∧ Q (.ref x) H2) E) : tMake C sp dvs E t σ H Q := h
end
section
variable {H : Hp} {x dx C : Addr}
/-- the heap in which an __init__ starts -/
def made (H : Hp) (x dx C : Addr) : Hp := upd (upd H dx (.own x)) x (.ins C dx [])
theorem made_same (hx : H x = none) (hd : H dx = none) : Same H (made H x dx C) := fun b o e => by
  unfold made
  rw [upd_ne (ne_of_none e hx), upd_ne (ne_of_none e hd)]
  exact e
theorem made_at : made H x dx C x = some (.ins C dx []) := upd_same
theorem made_none {p : Addr} (h : made H x dx C p = none) : H p = none ∧ p ≠ x ∧ p ≠ dx := by
  unfold made at h
  by_cases h1 : p = x
  · subst h1; rw [upd_same] at h; cases h
  · rw [upd_ne h1] at h
    by_cases h2 : p = dx
    · subst h2; rw [upd_same] at h; cases h
    · rw [upd_ne h2] at h
      exact ⟨h, h1, h2⟩
end

/-! ### stores by place, replicated lists, slices, all and any -/
def rSetU : V → V → V → Hp → (Hp → Prop) → Prop := fun o i v H Q => rSetL o i v H Q ∨ ∃ a H', o = .ref a ∧ DPut H a i v H' ∧ Q H'
section
variable {X : Cx}
theorem set_U (hu : X.A.units + 1 < cLine) : PSet X rSetU := by
  intro pins s σ H o i v ov iv u Q I ro ri rv h
  rcases h with h | ⟨a, H', rfl, g, q⟩
  · exact set_list pins s σ H o i v ov iv u Q I ro ri rv h
  · obtain rfl : ov = Value.ref a := ro
    exact d_setItem hu I g ri rv fun s1 I1 => ⟨H', I1, q⟩
end
section
variable {K : PySem.W.Frag} {σ : L2.St} {H : Hp} {R : Hp → Prop} {RS : L2.St → Hp → Prop} {te ti : TE} {t : TSet} {v y : V} {a : Addr} {xs : List V} {i : Int} {L : List (Addr × HO)} {m : Nat} {Q : VK}
theorem g_sub (h : te σ H fun o H1 => ti σ H1 fun i H2 => t o i v H2 fun H3 => RS σ H3) : gSub te ti t v σ H RS := h
theorem g_setU (M : Has H L) (n : Nat) (h : L[n]? = some (a, .lst xs)) (hi : i = (m : Int)) (hm : m < xs.length) (k : Has (upd H a (.lst (xs.set m y))) (L.set n (a, .lst (xs.set m y))) → R (upd H a (.lst (xs.set m y)))) : rSetU (.ref a) (.int i) y H R :=
  .inl ⟨a, xs, i, m, rfl, rfl, M.get n h, by
    unfold ixN
    rw [if_pos (by omega), if_pos (by omega)]
    congr 1
    omega, k (M.set n h)⟩
theorem rep_flat {x : V} : ∀ n : Nat, (List.replicate n [x]).flatten = List.replicate n x
  | 0 => rfl
  | n + 1 => by
    rw [List.replicate_succ, List.replicate_succ, List.flatten_cons, rep_flat n]
    rfl
theorem g_rep {x : V} {k : Int} (h : H a = some (.lst [x])) (h0 : -4611686018427387904 ≤ k) (h1 : k ≤ 100000) (q : ∀ p, H p = none → Q (.ref p) (upd H p (.lst (List.replicate k.toNat x)))) : rMulU (.ref a) (.int k) H Q := by
  refine .inl ⟨a, k, [x], rfl, rfl, h, by omega, by omega, szle (by simp; omega), fun p hp => ?_⟩
  rw [rep_flat]
  exact q p hp
theorem g_repI {x : Int} {k : Int} (h : H a = some (.lst [.int x])) (h0 : -4611686018427387904 ≤ k) (h1 : k ≤ 100000) (q : ∀ p, H p = none → Q (.ref p) (upd H p (.lst ((List.replicate k.toNat x).map V.int)))) : rMulU (.ref a) (.int k) H Q :=
  g_rep h h0 h1 fun p hp => by
    have z := q p hp
    rw [List.map_replicate] at z
    exact z
end
def rAllU (K : PySem.W.Frag) : List V → Hp → VK → Prop := fun vs H Q => ∃ (a : Addr) (bs : List Bool), vs = [V.ref a] ∧ SqL K H a (bs.map V.bl) ∧ Q (.bl (bs.all id)) H
def rAnyU (K : PySem.W.Frag) : List V → Hp → VK → Prop := fun vs H Q => ∃ (a : Addr) (bs : List Bool), vs = [V.ref a] ∧ SqL K H a (bs.map V.bl) ∧ Q (.bl (bs.any id)) H
section
variable {X : Cx} {K : PySem.W.Frag} {H : Hp} {Q : VK} {a : Addr} {bs : List Bool}
theorem c_all {K : PySem.W.Frag} (hK : X.K = K) (hc : X.calm = true) : CallR X (.builtin "all") (rAllU K) := by
  subst hK
  exact cr_all hc
theorem c_any {K : PySem.W.Frag} (hK : X.K = K) (hc : X.calm = true) : CallR X (.builtin "any") (rAnyU K) := by
  subst hK
  exact cr_any hc
theorem g_all (h : SqL K H a (bs.map V.bl)) (q : Q (.bl (bs.all id)) H) : rAllU K [.ref a] H Q := ⟨a, bs, rfl, h, q⟩
theorem g_any (h : SqL K H a (bs.map V.bl)) (q : Q (.bl (bs.any id)) H) : rAnyU K [.ref a] H Q := ⟨a, bs, rfl, h, q⟩
end
/-! slices -/
def rSlU (K : PySem.W.Frag) : V → Option Int → Option Int → Hp → VK → Prop := fun x lo hi H Q => rSlL K x lo hi H Q ∨ rSlA K x lo hi H Q ∨ ∃ z, x = .str z ∧ z.length ≤ sizeLine ∧ Q (.str (cutS z lo hi)) H
theorem sl_U {X : Cx} {K : PySem.W.Frag} (hK : X.K = K) : SlR X (rSlU K) := by
  subst hK
  exact sl_list.or (sl_tupA.or sl_str)
section
variable {K : PySem.W.Frag} {σ : L2.St} {H : Hp} {Q : VK} {te : TE} {tl th : TO} {QO : Option Int → Hp → Prop} {r : V → Option Int → Option Int → Hp → VK → Prop} {a : Addr} {xs : List V} {lo hi : Option Int} {i : Int} {z : Str}
theorem g_sl (h : te σ H fun x H1 => tl σ H1 fun l H2 => th σ H2 fun u H3 => r x l u H3 Q) : tSl r te tl th σ H Q := h
theorem g_part (h : te σ H fun x H1 => ∃ i, x = .int i ∧ QO (some i) H1) : tPart te σ H QO := h
theorem g_exi {A : Int → Prop} (h : A i) : ∃ j, V.int i = .int j ∧ A j := ⟨i, rfl, h⟩
theorem g_noPart (h : QO none H) : tNoPart σ H QO := h
theorem g_slL (h : SqL K H a xs) (q : ∀ p, H p = none → Q (.ref p) (upd H p (.lst (cutV xs lo hi)))) : rSlU K (.ref a) lo hi H Q := .inl ⟨a, xs, rfl, h, q⟩
theorem g_slS (hl : z.length ≤ sizeLine) (q : Q (.str (cutS z lo hi)) H) : rSlU K (.str z) lo hi H Q := .inr (.inr ⟨z, rfl, hl, q⟩)
end
theorem cutV_from {xs : List V} {n : Nat} : cutV xs (some (n : Int)) none = xs.drop n := by
  unfold cutV
  rw [HT.sIx_nat, HT.sIx_none]
  by_cases h : n ≤ xs.length
  · rw [Nat.min_eq_left h, List.take_of_length_le (by simp)]
  · rw [Nat.min_eq_right (by omega), List.drop_of_length_le (by omega), List.drop_of_length_le (by omega)]
    simp

/-! ### methods of built-in types, own methods: the written part named -/
section
variable {X : Cx} {K : PySem.W.Frag} {o e : Expr} {es : List Expr} {to : TE} {t : TA} {name : Str} {apos cpos pos : Pos} {T id : String} {r : V → List V → Hp → VK → Prop}
def rTyV (K : PySem.W.Frag) (T : String) : V → Hp → (Hp → Prop) → Prop := fun x H R => tyV K T x H ∧ R H
def tBMU (K : PySem.W.Frag) (T : String) (r : V → List V → Hp → VK → Prop) (to : TE) (t : TA) : TE := fun σ H Q => to σ H fun x H1 => rTyV K T x H1 fun H2 => t σ H2 fun xs H3 => r x xs H3 Q
end
theorem g_lenM {K : PySem.W.Frag} {H : Hp} {a : Addr} {Q : VK} {α : Type} {f : α → V} {ns : List α} (h : SqL K H a (ns.map f)) (q : Q (.int (ns.length : Nat)) H) : rLenU K [.ref a] H Q := g_lenL h (by rw [List.length_map]; exact q)
theorem g_ty_ {K : PySem.W.Frag} {T : String} {x : V} {H : Hp} {A : Prop} (h : tyV K T x H) (q : A) : tyV K T x H ∧ A := ⟨h, q⟩

/-! ### list comprehensions -/
def LcW (g : TG) (tt : TT) (te : TE) (vs : List Nat) (σ : L2.St) (Q : VK) : It → Hp → Prop := fun J H1 => ∀ D, H1 D = none → ∃ W : Nat → Nat → Hp → Prop, (∃ m, W 0 m (upd H1 D (.lst []))) ∧ ∀ i m H, W i m H →
  (J.stop i H ∧ Q (.ref D) H) ∨ (J.go i H ∧ ∃ Nx : Hp → Prop, (∀ H', Nx H' → ∃ m', m' < m ∧ W (i + 1) m' H') ∧ ∀ x H', J.yld i H x H' → g x (wipe σ vs) H' fun σ2 H2 => wipe σ2 vs = wipe σ vs ∧ tt σ2 H2 fun b H3 =>
    if b = true then te σ2 H3 fun y H4 => ∃ acc, H4 D = some (.lst acc) ∧ acc.length < sizeLine ∧ Nx (upd H4 D (.lst (acc ++ [y]))) else Nx H3)
section
variable {K : PySem.W.Frag} {σ : L2.St} {H : Hp} {g : TG} {tt : TT} {te : TE} {wi : TI} {vs : List Nat} {Q : VK} {lo : Int} {n : Nat} {a : Addr} {xs : List V} {QB : Bool → Hp → Prop}
theorem g_lc (h : wi σ H (LcW g tt te vs σ Q)) : tLc wi g tt te vs σ H Q := h
theorem g_yes (h : QB true H) : tYes σ H QB := h
theorem g_wipe {σ1 σ2 : L2.St} {A : Prop} (e : wipe σ1 vs = wipe σ2 vs) (h : A) : wipe σ1 vs = wipe σ2 vs ∧ A := ⟨e, h⟩
theorem l_range (Pv : Addr → Nat → Hp → Prop) (h0 : ∀ D, H D = none → Pv D 0 (upd H D (.lst [])))
    (hs : ∀ D, H D = none → ∀ i H', i < n → Pv D i H' → g (.int (lo + i)) (wipe σ vs) H' fun σ2 H2 => wipe σ2 vs = wipe σ vs ∧ tt σ2 H2 fun b H3 => if b = true then te σ2 H3 fun y H4 => ∃ acc, H4 D = some (.lst acc) ∧ acc.length < sizeLine ∧ Pv D (i + 1) (upd H4 D (.lst (acc ++ [y]))) else Pv D (i + 1) H3)
    (hd : ∀ D, H D = none → ∀ H', Pv D n H' → Q (.ref D) H') : LcW g tt te vs σ Q (Itr lo n) H := fun D hD => lc_range (Pv D) (h0 D hD) (hs D hD) (hd D hD)
theorem l_list (Pv : Addr → Nat → Hp → Prop) (h0 : ∀ D, H D = none → Pv D 0 (upd H D (.lst []))) (hl : ∀ D, H D = none → ∀ i H', i ≤ xs.length → Pv D i H' → SqL K H' a xs)
    (hs : ∀ D, H D = none → ∀ i x H', xs[i]? = some x → Pv D i H' → g x (wipe σ vs) H' fun σ2 H2 => wipe σ2 vs = wipe σ vs ∧ tt σ2 H2 fun b H3 => if b = true then te σ2 H3 fun y H4 => ∃ acc, H4 D = some (.lst acc) ∧ acc.length < sizeLine ∧ Pv D (i + 1) (upd H4 D (.lst (acc ++ [y]))) else Pv D (i + 1) H3)
    (hd : ∀ D, H D = none → ∀ H', Pv D xs.length H' → Q (.ref D) H') : LcW g tt te vs σ Q (Itl K a) H := fun D hD => lc_list (Pv D) (h0 D hD) (hl D hD) (hs D hD) (hd D hD)
theorem l_tup (Pv : Addr → Nat → Hp → Prop) (h0 : ∀ D, H D = none → Pv D 0 (upd H D (.lst []))) (hl : ∀ D, H D = none → ∀ i H', i ≤ xs.length → Pv D i H' → SqT K H' a xs)
    (hs : ∀ D, H D = none → ∀ i x H', xs[i]? = some x → Pv D i H' → g x (wipe σ vs) H' fun σ2 H2 => wipe σ2 vs = wipe σ vs ∧ tt σ2 H2 fun b H3 => if b = true then te σ2 H3 fun y H4 => ∃ acc, H4 D = some (.lst acc) ∧ acc.length < sizeLine ∧ Pv D (i + 1) (upd H4 D (.lst (acc ++ [y]))) else Pv D (i + 1) H3)
    (hd : ∀ D, H D = none → ∀ H', Pv D xs.length H' → Q (.ref D) H') : LcW g tt te vs σ Q (Itt K a) H := fun D hD => lc_tup (Pv D) (h0 D hD) (hl D hD) (hs D hD) (hd D hD)
end
section
variable {H H1 : Hp} {L : List (Addr × HO)} {a b : Addr} {o o' u u' : HO}
/-- two objects have changed -/
theorem Has.call2 (M : Has H L) (k : Keep [a, b] H H1) (i j : Nat) (hi : L[i]? = some (a, o)) (hj : L[j]? = some (b, u)) (hij : i ≠ j) (e1 : H1 a = some o') (e2 : H1 b = some u') : Has H1 ((L.set i (a, o')).set j (b, u')) := by
  have nab : a ≠ b := M.ne i j hi hj hij
  have k1 : Keep [a] H (upd H1 b u) := fun x w e n => by
    by_cases hx : x = b
    · subst hx
      rw [upd_same]
      exact (M.get j hj).symm.trans e
    · rw [upd_ne hx]
      refine k x w e ?_
      simp only [List.mem_cons, List.not_mem_nil, or_false, not_or]
      exact ⟨fun z => n (List.mem_singleton.mpr z), hx⟩
  have M1 : Has (upd H1 b u) (L.set i (a, o')) := M.call1 k1 i hi (by rw [upd_ne nab]; exact e1)
  have hj' : (L.set i (a, o'))[j]? = some (b, u) := by rw [List.getElem?_set_ne hij]; exact hj
  have M2 := M1.set (o' := u') j hj'
  have e : upd (upd H1 b u) b u' = H1 := by
    rw [upd_upd]
    funext x
    by_cases hx : x = b
    · subst hx
      rw [upd_same, e2]
    · rw [upd_ne hx]
  rw [e] at M2
  exact M2
end

/-! ### None asked -/
def rIsN (neg : Bool) : R2 := fun x y H Q => y = .non ∧ Q (.bl (if neg then !decide (x = .non) else decide (x = .non))) H
theorem o_isN {X : Cx} : OpR X (compareOp .Is) (rIsN false) := op_isN
theorem o_notN {X : Cx} : OpR X (compareOp .IsNot) (rIsN true) := op_notN
section
variable {H : Hp} {Q : VK} {i : Int} {z : Str} {b : Bool} {a : Addr}
theorem g_isNn (h : Q (.bl true) H) : rIsN false .non .non H Q := ⟨rfl, h⟩
theorem g_isNi (h : Q (.bl false) H) : rIsN false (.int i) .non H Q := ⟨rfl, h⟩
theorem g_isNs (h : Q (.bl false) H) : rIsN false (.str z) .non H Q := ⟨rfl, h⟩
theorem g_isNb (h : Q (.bl false) H) : rIsN false (.bl b) .non H Q := ⟨rfl, h⟩
theorem g_isNr (h : Q (.bl false) H) : rIsN false (.ref a) .non H Q := ⟨rfl, h⟩
theorem g_noNn (h : Q (.bl false) H) : rIsN true .non .non H Q := ⟨rfl, h⟩
theorem g_noNi (h : Q (.bl true) H) : rIsN true (.int i) .non H Q := ⟨rfl, h⟩
theorem g_noNs (h : Q (.bl true) H) : rIsN true (.str z) .non H Q := ⟨rfl, h⟩
theorem g_noNb (h : Q (.bl true) H) : rIsN true (.bl b) .non H Q := ⟨rfl, h⟩
theorem g_noNr (h : Q (.bl true) H) : rIsN true (.ref a) .non H Q := ⟨rfl, h⟩
end

/-! ### list.index, min and max of a list -/
def rIndexU (K : PySem.W.Frag) : V → List V → Hp → VK → Prop := rIndex K
theorem m_index {X : Cx} {K : PySem.W.Frag} (hK : X.K = K) : MtR X "list.index" (rIndexU K) := by
  subst hK
  exact mt_index
def rMin1 (K : PySem.W.Frag) : List V → Hp → VK → Prop := rMin K
def rMax1 (K : PySem.W.Frag) : List V → Hp → VK → Prop := rMax K
theorem c_min1 {X : Cx} {K : PySem.W.Frag} (hK : X.K = K) (hc : X.calm = true) : CallR X (.builtin "min") (rMin1 K) := by
  subst hK
  exact cr_min hc
theorem c_max1 {X : Cx} {K : PySem.W.Frag} (hK : X.K = K) (hc : X.calm = true) : CallR X (.builtin "max") (rMax1 K) := by
  subst hK
  exact cr_max hc
section
variable {K : PySem.W.Frag} {H : Hp} {Q : VK} {a : Addr} {ns : List Int} {ys : List V} {y z : V} {j : Nat}
theorem g_min1 (h : SqL K H a (ns.map V.int)) (h0 : 0 < ns.length) (q : ∀ m, m ∈ ns → (∀ y, y ∈ ns → m ≤ y) → Q (.int m) H) : rMin1 K [.ref a] H Q := ⟨a, ns, rfl, h, h0, q⟩
theorem g_max1 (h : SqL K H a (ns.map V.int)) (h0 : 0 < ns.length) (q : ∀ m, m ∈ ns → (∀ y, y ∈ ns → y ≤ m) → Q (.int m) H) : rMax1 K [.ref a] H Q := ⟨a, ns, rfl, h, h0, q⟩
theorem g_index (h : SqL K H a ys) (f1 : flatV y = true) (f2 : ys.all flatV = true) (hj : ys[j]? = some z) (e : eqV z y = true) (n : ∀ (m : Nat) (z' : V), m < j → ys[m]? = some z' → eqV z' y = false) (q : Q (.int (j : Nat)) H) : rIndexU K (.ref a) [y] H Q :=
  ⟨a, ys, y, j, z, rfl, rfl, h, f1, f2, hj, e, n, q⟩
end

/-! ### unpacking -/
section
variable {K : PySem.W.Frag} {σ : L2.St} {H : Hp} {R : L2.St → Hp → Prop} {t : TGs} {g : TG} {n : Nat} {a : Addr} {xs r : List V} {v : V}
theorem g_unp (h : SqT K H a xs) (hn : xs.length = n) (k : t xs σ H R) : gTup K n t (.ref a) σ H R := ⟨a, xs, rfl, h, hn, k⟩
theorem g_gc (k : g v σ H fun σ' H' => t r σ' H' R) : gCons g t (v :: r) σ H R := ⟨v, r, rfl, k⟩
theorem g_gn (k : R σ H) : gNil [] σ H R := ⟨rfl, k⟩
end
/-! e.f += x -/
def rFA (K : PySem.W.Frag) (tv : TE) (rd : V → V → Hp → VK → Prop) (f : Str) (σ : L2.St) : V → Hp → (Hp → Prop) → Prop := fun x H1 R => ∃ a C dx fs v, x = .ref a ∧ H1 a = some (.ins C dx fs) ∧ Cls K C ∧ NoAttr K C f ∧ fs.lookup f = some v ∧
  tv σ H1 fun y H2 => rd v y H2 fun z H3 => ∃ dx' fs', H3 a = some (.ins C dx' fs') ∧ fs'.length < 1000 ∧ R (upd H3 a (.ins C dx' (putF f z fs')))
section
variable {K : PySem.W.Frag} {σ : L2.St} {H : Hp} {D : Ends} {ta tv : TE} {a C dx : Addr} {fs fs' : List (Str × V)} {f : Str} {L : List (Addr × HO)} {R : Hp → Prop} {i j : Int} {rd : V → V → Hp → VK → Prop}
theorem g_fldaug (h : ta σ H fun x H1 => rFA K tv rd f σ x H1 (D.nx σ)) : sFldAug K ta tv rd f D σ H := h
theorem g_fa1 (M : Has H L) (n : Nat) (he : L[n]? = some (a, .ins C dx fs)) (cl : Cls K C) (na : NoAttr K C f) (l : fs.lookup f = some (.int i)) (hv : tv σ H fun y H2 => y = .int j ∧ H2 = H) (hl : fs.length < 1000) (e : putF f (.int (i + j)) fs = fs')
    (hm : ∀ {Q Q' : VK}, (∀ v H, Q v H → Q' v H) → tv σ H Q → tv σ H Q' := by intro Q Q' hh z; exact hh _ _ z) (k : Has (upd H a (.ins C dx fs')) (L.set n (a, .ins C dx fs')) → R (upd H a (.ins C dx fs'))) : rFA K tv rAdd f σ (.ref a) H R := by
  refine ⟨a, C, dx, fs, .int i, rfl, M.get n he, cl, na, l, hm (fun y H2 z => ?_) hv⟩
  obtain ⟨rfl, rfl⟩ := z
  exact ⟨i, j, rfl, rfl, dx, fs, M.get n he, hl, by rw [e]; exact k (M.set n he)⟩
end
theorem g_repT {H : Hp} {Q : VK} {a : Addr} {x : V} {k : Int} (h : H a = some (.tup [x])) (h0 : 1 ≤ k) (h1 : k ≤ 1000) (q : ∀ p H', Same H H' → H' p = some (.tup (List.replicate k.toNat x)) → Q (.ref p) H') : rMulU (.ref a) (.int k) H Q :=
  .inr ⟨a, k, [x], rfl, rfl, h, by simp, h0, h1, by simp, fun p H' sm hp => q p H' sm (by rw [rep_flat] at hp; exact hp)⟩
theorem g_isB {H : Hp} {Q : VK} {a b : Bool} (h : Q (.bl (decide (a = b))) H) : rIsB (.bl a) (.bl b) H Q := ⟨a, b, rfl, rfl, h⟩
theorem g_notB {H : Hp} {Q : VK} {a b : Bool} (h : Q (.bl (!decide (a = b))) H) : rNotB (.bl a) (.bl b) H Q := ⟨a, b, rfl, rfl, h⟩
/-! len(set(xs)) of ints, each once -/
def rLS (K : PySem.W.Frag) : V → Hp → VK → Prop := fun x H1 Q => ∃ (l : Addr) (ns : List Int), x = V.ref l ∧ SqL K H1 l (ns.map V.int) ∧ ns.length < 64 ∧ ns.Nodup ∧ Q (.int ns.length) H1
def tLS (K : PySem.W.Frag) (ta : TE) : TE := fun σ H Q => ta σ H fun x H1 => rLS K x H1 Q
theorem pe_lenSetU {X : Cx} {K : PySem.W.Frag} (hK : X.K = K) {a : Expr} {ta : TE} {p p2 q pos : Pos} (hc : X.calm = true) (hg : Gl X "len") (hm : X.mg "len" = none) (hg2 : Gl X "set") (hm2 : X.mg "set" = none) (ha : PE X a ta)
    (na : starEach [a] X.env = (false, eval a X.env) :: starEach [] X.env := by rfl) : PE X (.Call (.Name "len" p) [.Call (.Name "set" p2) [a] [] q] [] pos) (tLS K ta) := by
  subst hK
  exact pe_lenSetI hc hg hm hg2 hm2 ha na
section
variable {K : PySem.W.Frag} {σ : L2.St} {H : Hp} {ta : TE} {Q : VK} {l : Addr} {ns : List Int}
theorem g_lset (h : ta σ H fun x H1 => rLS K x H1 Q) : tLS K ta σ H Q := h
theorem g_ls (h : SqL K H l (ns.map V.int)) (hl : ns.length < 64) (hn : ns.Nodup) (q : Q (.int (ns.length : Nat)) H) : rLS K (.ref l) H Q := ⟨l, ns, rfl, h, hl, hn, q⟩
end
theorem _root_.G.Has.right {H : Hp} {X C : List (Addr × HO)} (M : Has H (X ++ C)) : Has H C := M.sub (List.sublist_append_right X C)
theorem _root_.G.Has.left {H : Hp} {X C : List (Addr × HO)} (M : Has H (X ++ C)) : Has H X := M.sub (List.sublist_append_left X C)
theorem _root_.G.Has.frameR {H H' : Hp} {X C C' : List (Addr × HO)} (M : Has H (X ++ C)) (k : Keep (C.map (·.1)) H H') (M' : Has H' C') (e : C'.map (·.1) = C.map (·.1)) : Has H' (X ++ C') := by
  have z := Has.frame (X := X) (L := C) (Y := []) (L' := C') (by rw [List.append_nil]; exact M) k M' e
  rw [List.append_nil] at z
  exact z
/-! texts that stand written: equal, not equal -/
section
variable {K : PySem.W.Frag} {H : Hp} {Q : VK} {z z' : Str}
theorem g_eqSS (h : Q (.bl true) H) : rEqU K false (.str z) (.str z) H Q := g_eqS (by rw [decide_eq_true (rfl : z = z)]; exact h)
theorem g_eqSx (e : ¬ z = z') (h : Q (.bl false) H) : rEqU K false (.str z) (.str z') H Q := g_eqS (by rw [decide_eq_false e]; exact h)
theorem g_neSS (h : Q (.bl false) H) : rEqU K true (.str z) (.str z) H Q := g_neS (by rw [decide_eq_true (rfl : z = z)]; exact h)
theorem g_neSx (e : ¬ z = z') (h : Q (.bl true) H) : rEqU K true (.str z) (.str z') H Q := g_neS (by rw [decide_eq_false e]; exact h)
end
theorem pg_tupU {X : Cx} {K : PySem.W.Frag} (hK : X.K = K) {es : List Expr} {k : Nat} {t : TGs} {n : Nat} {pos : Pos} (hc : X.calm = true) (h : PGs X es t)
    (hn : (assignEach es X.env).length = n := by rfl) (hst : (assignEach es X.env).findIdx? (·.1) = none := by rfl) : PG X (.Tuple es k pos) (gTup K n t) := by
  subst hK
  exact pg_tup hc h hn hst
/-! zip of two lists, of two tuples; a tuple's item by a written place -/
def rZipU (K : PySem.W.Frag) : List V → Hp → (It → Hp → Prop) → Prop := fun vs H1 R => ∃ a b xs ys, vs = [.ref a, .ref b] ∧ ((SqL K H1 a xs ∧ SqL K H1 b ys ∧ R (Itz K a b) H1) ∨ (SqT K H1 a xs ∧ SqT K H1 b ys ∧ R (RZ.ItzT K a b) H1))
theorem pi_zipU {X : Cx} {K : PySem.W.Frag} (hK : X.K = K) {e e2 : Expr} {ta : TA} {p pos tpos : Pos} {elts : List Expr} {kk : Nat} (hg : Gl X "zip") (hm : X.mg "zip" = none) (ha : PA X [e, e2] ta)
    (hs : starEach [e, e2] X.env = (false, eval e X.env) :: starEach [e2] X.env := by rfl) (hpl : (backTo pos (starEach [e2] X.env)).any (·.1) = false := by rfl) :
    PI X (.Tuple elts kk tpos) (.Call (.Name "zip" p) [e, e2] [] pos) (iR (rZipU K) ta) := by
  subst hK
  exact RZ.pi_zipA hg hm ha hs hpl
section
variable {K : PySem.W.Frag} {H : Hp} {Q : VK} {a b : Addr} {xs ys : List V} {i : Int} {v : V} {R : It → Hp → Prop} {td ty tx : TE} {σ : L2.St} {g : TG} {tb : TS} {D : Ends}
theorem g_ixA (h : H a = some (.tup xs)) (h0 : 0 ≤ i) (hv : xs[i.toNat]? = some v) (q : Q v H) : rIxU K (.ref a) (.int i) H Q := g_ixT (SqT.of h) (n := i.toNat) (Int.toNat_of_nonneg h0).symm hv q
theorem g_zipT (h1 : SqT K H a xs) (h2 : SqT K H b ys) (h : R (RZ.ItzT K a b) H) : rZipU K [.ref a, .ref b] H R := ⟨a, b, xs, ys, rfl, .inr ⟨h1, h2, h⟩⟩
theorem f_zipT (hl : xs.length = ys.length) (Pv : Nat → L2.St → Hp → Prop) (h0 : Pv 0 σ H) (hq : ∀ i σ H, Pv i σ H → SqT K H a xs ∧ SqT K H b ys)
    (hs : ∀ (i : Nat) (x y : V) (T : Addr) (σ : L2.St) (H : Hp), xs[i]? = some x → ys[i]? = some y → Pv i σ H → H T = none → g (.ref T) σ (upd H T (.tup [x, y])) fun σ2 H2 => tb { D with nx := Pv (i + 1), ct := Pv (i + 1), bk := D.nx } σ2 H2) (hd : ∀ σ H, Pv xs.length σ H → D.nx σ H) : ForW g tb D σ (RZ.ItzT K a b) H := RZ.for_zipT hl Pv h0 hq hs hd
theorem g_dget2 (h : td σ H fun x H1 => ∃ a, x = .ref a ∧ IsD H1 a ∧ ty σ H1 fun y H2 => tx σ H2 fun z H3 => ∃ o, DGet H3 a y o ∧ Q (o.getD z) H3) : tDGet2 td ty tx σ H Q := h
theorem g_isD {kvs : List (Key × V)} {A : Addr → Prop} (h : H a = some (.dK kvs)) (q : A a) : ∃ b, V.ref a = .ref b ∧ IsD H b ∧ A b := ⟨a, rfl, .inl ⟨kvs, .inl h⟩, q⟩
end
end G

set_option Elab.async false
set_option linter.all false
set_option maxRecDepth 100000
set_option maxHeartbeats 4000000
/-! Data that never changes: None, bools, ints, texts, tuples of such. -/
namespace G
open PySem PySem.Spec PyProof.Rows L2

mutual
/-- the value v is the data d, by the heap H -/
inductive Im (H : Hp) : V → PyData → Prop
  | non : Im H .non .none
  | bl (b : Bool) : Im H (.bl b) (.bool b)
  | int (i : Int) : Im H (.int i) (.int i)
  | str (x : Str) : Im H (.str x) (.str x)
  | tup {a : Addr} {xs : List V} {ds : List PyData} : H a = some (.tup xs) → Ims H xs ds → Im H (.ref a) (.tuple ds)
inductive Ims (H : Hp) : List V → List PyData → Prop
  | nil : Ims H [] []
  | cons {v : V} {vs : List V} {d : PyData} {ds : List PyData} : Im H v d → Ims H vs ds → Ims H (v :: vs) (d :: ds)
end
section
variable {K : PySem.W.Frag} {H H' : Hp} {v x y : V} {d e : PyData} {vs xs : List V} {ds es : List PyData} {a b p : Addr} {ms : List Addr} {i : Int} {z : Str}
mutual
theorem Im.mono : ∀ {v : V} {d : PyData}, Im H v d → (∀ a xs, H a = some (.tup xs) → H' a = some (.tup xs)) → Im H' v d
  | _, _, .non, _ => .non
  | _, _, .bl b, _ => .bl b
  | _, _, .int i, _ => .int i
  | _, _, .str x, _ => .str x
  | _, _, .tup h hs, k => .tup (k _ _ h) (Ims.mono hs k)
theorem Ims.mono : ∀ {vs : List V} {ds : List PyData}, Ims H vs ds → (∀ a xs, H a = some (.tup xs) → H' a = some (.tup xs)) → Ims H' vs ds
  | _, _, .nil, _ => .nil
  | _, _, .cons h t, k => .cons (Im.mono h k) (Ims.mono t k)
end
theorem Im.same (h : Im H v d) (k : Same H H') : Im H' v d := h.mono fun a xs e => k a _ e
theorem Ims.same (h : Ims H vs ds) (k : Same H H') : Ims H' vs ds := h.mono fun a xs e => k a _ e
/-- no tuple stands at ms -/
def NoTup (H : Hp) (ms : List Addr) : Prop := ∀ m ∈ ms, ∀ xs, H m ≠ some (.tup xs)
theorem NoTup.nil : NoTup H [] := fun _ h => nomatch h
theorem NoTup.one {o : HO} (h : H a = some o) (n : ∀ xs, o ≠ .tup xs) : NoTup H [a] := fun m hm xs e => by
  rw [List.mem_singleton.mp hm, h] at e
  exact n xs (Option.some.inj e)
theorem NoTup.new (h : H a = none) : NoTup H [a] := fun m hm xs e => by
  rw [List.mem_singleton.mp hm, h] at e
  cases e
theorem NoTup.cons {o : HO} (h : H a = some o) (n : ∀ xs, o ≠ .tup xs) (t : NoTup H ms) : NoTup H (a :: ms) := fun m hm xs e => by
  rcases List.mem_cons.mp hm with z | z
  · rw [z, h] at e
    exact n xs (Option.some.inj e)
  · exact t m z xs e
theorem Im.keep (h : Im H v d) (k : Keep ms H H') (n : NoTup H ms) : Im H' v d := h.mono fun a xs e => k a _ e fun z => n a z xs e
theorem Ims.keep (h : Ims H vs ds) (k : Keep ms H H') (n : NoTup H ms) : Ims H' vs ds := h.mono fun a xs e => k a _ e fun z => n a z xs e
mutual
theorem Im.dp : ∀ {v : V} {d : PyData}, Im H v d → Dp K H v d
  | _, _, .non => .non
  | _, _, .bl b => .bl b
  | _, _, .int i => .int i
  | _, _, .str x => .str x
  | _, _, .tup h hs => .tup (SqT.of h) (Ims.dp hs)
theorem Ims.dp : ∀ {vs : List V} {ds : List PyData}, Ims H vs ds → DpAll K H vs ds
  | _, _, .nil => .nil
  | _, _, .cons h t => .cons (Im.dp h) (Ims.dp t)
end
theorem Ims.length : ∀ {vs : List V} {ds : List PyData}, Ims H vs ds → vs.length = ds.length
  | _, _, .nil => rfl
  | _, _, .cons _ t => by rw [List.length_cons, List.length_cons, t.length]
theorem Ims.get : ∀ {vs : List V} {ds : List PyData} {n : Nat} {d : PyData}, Ims H vs ds → ds[n]? = some d → ∃ v, vs[n]? = some v ∧ Im H v d
  | _, _, n, _, .nil, e => by simp at e
  | _, _, 0, _, .cons h t, e => by
    simp only [List.getElem?_cons_zero, Option.some.injEq] at e
    subst e
    exact ⟨_, rfl, h⟩
  | _, _, n + 1, _, .cons h t, e => by
    simp only [List.getElem?_cons_succ] at e
    obtain ⟨v, h1, h2⟩ := t.get e
    exact ⟨v, by simpa using h1, h2⟩
theorem Ims.append : ∀ {vs xs : List V} {ds es : List PyData}, Ims H vs ds → Ims H xs es → Ims H (vs ++ xs) (ds ++ es)
  | _, _, _, _, .nil, s => s
  | _, _, _, _, .cons h t, s => .cons h (t.append s)
theorem Ims.take : ∀ {vs : List V} {ds : List PyData} (n : Nat), Ims H vs ds → Ims H (vs.take n) (ds.take n)
  | _, _, 0, _ => .nil
  | _, _, _ + 1, .nil => .nil
  | _, _, n + 1, .cons h t => .cons h (t.take n)
theorem Ims.drop : ∀ {vs : List V} {ds : List PyData} (n : Nat), Ims H vs ds → Ims H (vs.drop n) (ds.drop n)
  | _, _, 0, h => h
  | _, _, _ + 1, .nil => .nil
  | _, _, n + 1, .cons _ t => t.drop n
theorem Ims.one (h : Im H v d) : Ims H [v] [d] := .cons h .nil
theorem Im.int_inv (h : Im H v (.int i)) : v = .int i := by cases h; rfl
theorem Im.bl_inv {b : Bool} (h : Im H v (.bool b)) : v = .bl b := by cases h; rfl
theorem Im.str_inv (h : Im H v (.str z)) : v = .str z := by cases h; rfl
theorem Im.non_inv (h : Im H v .none) : v = .non := by cases h; rfl
theorem Im.tup_inv (h : Im H v (.tuple ds)) : ∃ a xs, v = .ref a ∧ H a = some (.tup xs) ∧ Ims H xs ds := by
  cases h with
  | tup h hs => exact ⟨_, _, rfl, h, hs⟩
/-- the items of ds[lo:hi] -/
def cutD (ds : List PyData) (lo hi : Option Int) : List PyData := (ds.drop (HT.sIx ds.length 0 lo)).take (HT.sIx ds.length ds.length hi - HT.sIx ds.length 0 lo)
theorem Ims.cut {lo hi : Option Int} (h : Ims H vs ds) : Ims H (cutV vs lo hi) (cutD ds lo hi) := by
  unfold cutV cutD
  rw [h.length]
  exact (h.drop _).take _
theorem cutD_to {n : Nat} : cutD ds none (some (n : Int)) = ds.take n := by
  unfold cutD
  rw [HT.sIx_nat, HT.sIx_none, Nat.sub_zero, List.drop_zero]
  by_cases h : n ≤ ds.length
  · rw [Nat.min_eq_left h]
  · rw [Nat.min_eq_right (by omega), List.take_of_length_le (Nat.le_refl _), List.take_of_length_le (by omega)]
theorem cutD_from {n : Nat} : cutD ds (some (n : Int)) none = ds.drop n := by
  unfold cutD
  rw [HT.sIx_nat, HT.sIx_none]
  by_cases h : n ≤ ds.length
  · rw [Nat.min_eq_left h, List.take_of_length_le (by simp)]
  · rw [Nat.min_eq_right (by omega), List.drop_of_length_le (by omega), List.drop_of_length_le (by omega)]
    simp
theorem cutD_length (ds : List PyData) (lo hi : Option Int) : (cutD ds lo hi).length ≤ ds.length := by
  unfold cutD
  rw [List.length_take, List.length_drop]
  omega
end
/-! ### the steps over data -/
section
variable {K : PySem.W.Frag} {H : Hp} {Q : VK} {v x y : V} {d e : PyData} {vs xs : List V} {ds es : List PyData} {a b p : Addr} {i : Int} {z : Str} {n : Nat} {lo hi : Option Int} {R : It → Hp → Prop} {QB : Bool → Hp → Prop}
/-- a new tuple of data -/
theorem m_new (h : Ims H xs ds) (hl : ds.length ≤ 100000) (k : ∀ p H', Same H H' → H p = none → Im H' (.ref p) (.tuple ds) → Q (.ref p) H') : rTupN xs H Q :=
  ⟨szle (by rw [h.length]; exact hl), fun p hp => k p _ (Same.new hp) hp (.tup upd_same (h.same (Same.new hp)))⟩
theorem m_ix (h : Im H x (.tuple ds)) (e : i = (n : Int)) (hd : ds[n]? = some d) (k : ∀ v, Im H v d → Q v H) : rIxU K x (.int i) H Q := by
  obtain ⟨a, xs, rfl, h1, h2⟩ := h.tup_inv
  obtain ⟨v, hv, hm⟩ := h2.get hd
  exact g_ixT (SqT.of h1) e hv (k v hm)
theorem m_len (h : Im H x (.tuple ds)) (q : Q (.int (ds.length : Nat)) H) : rLenU K [x] H Q := by
  obtain ⟨a, xs, rfl, h1, h2⟩ := h.tup_inv
  refine g_lenT (SqT.of h1) ?_
  rw [h2.length]
  exact q
theorem m_eq (hx : Im H x d) (hy : Im H y e) (s1 : SeqAt.shaped d = true) (s2 : SeqAt.shaped e = true) (h : Q (.bl (PyData.eqv d e)) H) : rEqU K false x y H Q := g_eqD hx.dp hy.dp s1 s2 h
theorem m_ne (hx : Im H x d) (hy : Im H y e) (s1 : SeqAt.shaped d = true) (s2 : SeqAt.shaped e = true) (h : Q (.bl (!PyData.eqv d e)) H) : rEqU K true x y H Q := g_neD hx.dp hy.dp s1 s2 h
theorem m_cat (hx : Im H x (.tuple ds)) (hy : Im H y (.tuple es)) (hl : ds.length + es.length ≤ 100000) (k : ∀ p H', Same H H' → Im H' (.ref p) (.tuple (ds ++ es)) → Q (.ref p) H') : rAddU K x y H Q := by
  obtain ⟨a, xs, rfl, h1, h2⟩ := hx.tup_inv
  obtain ⟨b, ys, rfl, h3, h4⟩ := hy.tup_inv
  refine .inr ⟨a, b, xs, ys, rfl, rfl, SqT.of h1, SqT.of h3, szle (by rw [h2.length, h4.length]; exact hl), fun e => ?_, fun _ e => ?_, fun _ _ p hp => ?_⟩
  · subst e
    have : ds = [] := by cases h2; rfl
    subst this
    exact k b H (Same.refl H) hy
  · subst e
    have : es = [] := by cases h4; rfl
    subst this
    rw [List.append_nil] at k
    exact k a H (Same.refl H) hx
  · exact k p _ (Same.new hp) (.tup upd_same ((h2.append h4).same (Same.new hp)))
theorem m_sl (hx : Im H x (.tuple ds)) (k : ∀ p H', Same H H' → Im H' (.ref p) (.tuple (cutD ds lo hi)) → Q (.ref p) H') : rSlU K x lo hi H Q := by
  obtain ⟨a, xs, rfl, h1, h2⟩ := hx.tup_inv
  refine .inr (.inl ⟨a, xs, rfl, SqT.of h1, fun e => ?_, fun _ p hp => ?_⟩)
  · have z : cutD ds lo hi = ds := by
      unfold cutD
      rw [← h2.length, e.1, e.2, List.drop_zero, Nat.sub_zero, h2.length, List.take_length]
    rw [z] at k
    exact k a H (Same.refl H) hx
  · exact k p _ (Same.new hp) (.tup upd_same (h2.cut.same (Same.new hp)))
theorem m_isiT {T' : String} {b : Bool} (hx : Im H x (.tuple ds)) (hk : kitB "tuple" T' = some b) (h : Q (.bl b) H) : rIsi K [x, .ty T'] H Q := by
  obtain ⟨a, xs, rfl, h1, _⟩ := hx.tup_inv
  exact isi_of (.base (.tup h1)) hk h
theorem m_seq (hx : Im H x (.tuple ds)) (k : ∀ a xs, x = .ref a → H a = some (.tup xs) → Ims H xs ds → R (Itt K a) H) : (∃ b ys, x = .ref b ∧ SqL K H b ys ∧ R (Itl K b) H) ∨ ∃ b ys, x = .ref b ∧ SqT K H b ys ∧ R (Itt K b) H := by
  obtain ⟨a, xs, e, h1, h2⟩ := hx.tup_inv
  exact .inr ⟨a, xs, e, SqT.of h1, k a xs e h1 h2⟩
end
/-! tuple(..) -/
def rTupU (K : PySem.W.Frag) : List V → Hp → VK → Prop := fun vs H Q => ∃ x, vs = [x] ∧ kTup K x H Q
theorem c_tuple {X : Cx} {K : PySem.W.Frag} (hK : X.K = K) : CallR X (.type "tuple") (rTupU K) := by
  subst hK
  rintro pins s σ H _ us Q I r ⟨x, rfl, h⟩
  obtain ⟨u, rfl, ru⟩ := vals1 r
  exact rl_tuple pins s σ H x u Q I ru h
section
variable {K : PySem.W.Frag} {H : Hp} {Q : VK} {x : V} {a : Addr} {xs : List V} {ds : List PyData}
theorem m_tupleT (hx : Im H x (.tuple ds)) (q : Q x H) : rTupU K [x] H Q := by
  obtain ⟨a, xs, rfl, h1, _⟩ := hx.tup_inv
  exact ⟨_, rfl, .inr ⟨a, xs, rfl, SqT.of h1, q⟩⟩
theorem m_tupleL (h : SqL K H a xs) (hm : Ims H xs ds) (k : ∀ p H', Same H H' → H p = none → Im H' (.ref p) (.tuple ds) → Q (.ref p) H') : rTupU K [.ref a] H Q :=
  ⟨_, rfl, .inl ⟨a, xs, rfl, h, fun p hp => k p _ (Same.new hp) hp (.tup upd_same (hm.same (Same.new hp)))⟩⟩
end
/-! ### what == says -/
theorem shaped_of {d : PyData} (h : d.canLay0 = true) (h2 : d.depth ≤ 64) : SeqAt.shaped d = true := by
  unfold SeqAt.shaped
  rw [h, decide_eq_true h2]
  rfl
theorem layAll_mem : ∀ {ds : List PyData}, (∀ d ∈ ds, d.canLay0 = true) → PyData.canLayAll0 ds = true
  | [], _ => rfl
  | d :: ds, h => by
    rw [PyData.canLayAll0, h d List.mem_cons_self, layAll_mem fun x hx => h x (List.mem_cons_of_mem _ hx)]
    rfl
theorem depthAll_mem {k : Nat} : ∀ {ds : List PyData}, (∀ d ∈ ds, d.depth ≤ k) → PyData.depthAll ds ≤ k
  | [], _ => by rw [PyData.depthAll]; exact Nat.zero_le _
  | d :: ds, h => by
    rw [PyData.depthAll]
    exact Nat.max_le.mpr ⟨h d List.mem_cons_self, depthAll_mem fun x hx => h x (List.mem_cons_of_mem _ hx)⟩
/-- data of depth at most k -/
def Lay (k : Nat) (d : PyData) : Prop := d.canLay0 = true ∧ d.depth ≤ k
theorem Lay.shaped {k : Nat} {d : PyData} (h : Lay k d) (hk : k ≤ 64) : SeqAt.shaped d = true := shaped_of h.1 (Nat.le_trans h.2 hk)
theorem Lay.tup {k : Nat} {ds : List PyData} (h : ∀ d ∈ ds, Lay k d) : Lay (k + 1) (.tuple ds) :=
  ⟨by rw [PyData.canLay0]; exact layAll_mem fun d hd => (h d hd).1, by rw [PyData.depth]; exact Nat.succ_le_succ (depthAll_mem fun d hd => (h d hd).2)⟩
theorem Lay.int {k : Nat} {i : Int} : Lay k (.int i) := ⟨by rw [PyData.canLay0], by rw [PyData.depth]; exact Nat.zero_le _⟩
theorem Lay.bl {k : Nat} {b : Bool} : Lay k (.bool b) := ⟨by rw [PyData.canLay0], by rw [PyData.depth]; exact Nat.zero_le _⟩
theorem Lay.non {k : Nat} : Lay k .none := ⟨by rw [PyData.canLay0], by rw [PyData.depth]; exact Nat.zero_le _⟩
theorem Lay.str {k : Nat} {z : Str} (h : PyData.strOk z = true) : Lay k (.str z) := ⟨by rw [PyData.canLay0]; exact h, by rw [PyData.depth]; exact Nat.zero_le _⟩
theorem Lay.mono {k k' : Nat} {d : PyData} (h : Lay k d) (hk : k ≤ k') : Lay k' d := ⟨h.1, Nat.le_trans h.2 hk⟩
theorem Lay.refl {k : Nat} {d : PyData} (h : Lay k d) : PyData.eqv d d = true := SeqAt.eqv_refl d h.1
theorem inV_strs {k : Str} {ks : List Str} : inV (.str k) (ks.map V.str) = ks.contains k := by
  unfold inV
  induction ks with
  | nil => rfl
  | cons z ks ih =>
    rw [List.map_cons, List.any_cons, ih, List.contains_cons]
    congr 1
    have e : eqV (.str z) (.str k) = (z == k) := rfl
    rw [e]
    by_cases h : z = k
    · subst h; rfl
    · rw [beq_eq_false_iff_ne.mpr h, beq_eq_false_iff_ne.mpr (Ne.symm h)]
theorem flat_strs {ks : List Str} : (ks.map V.str).all flatV = true := by
  induction ks with
  | nil => rfl
  | cons z ks ih => rw [List.map_cons, List.all_cons, ih]; rfl
/-- a text within a new tuple, a new list of texts -/
theorem g_inTs {K : PySem.W.Frag} {H : Hp} {Q : VK} {k : Str} {p : Addr} {ks : List Str} (h : H p = some (.tup (ks.map V.str)) ∨ H p = some (.lst (ks.map V.str))) (q : Q (.bl (ks.contains k)) H) : rInU K false (.str k) (.ref p) H Q := by
  refine .inl ⟨p, ks.map V.str, rfl, ?_, rfl, flat_strs, ?_⟩
  · rcases h with h | h
    · exact .inr (SqT.of h)
    · exact .inl (SqL.of h)
  · rw [inV_strs]
    exact q
theorem g_niTs {K : PySem.W.Frag} {H : Hp} {Q : VK} {k : Str} {p : Addr} {ks : List Str} (h : H p = some (.tup (ks.map V.str)) ∨ H p = some (.lst (ks.map V.str))) (q : Q (.bl (!ks.contains k)) H) : rInU K true (.str k) (.ref p) H Q := by
  refine .inl ⟨p, ks.map V.str, rfl, ?_, rfl, flat_strs, ?_⟩
  · rcases h with h | h
    · exact .inr (SqT.of h)
    · exact .inl (SqL.of h)
  · rw [inV_strs]
    exact q
theorem map_take_succ {α β : Type} {f : α → β} {ds : List α} {i : Nat} {d : α} (h : ds[i]? = some d) : (ds.take (i + 1)).map f = (ds.take i).map f ++ [f d] := by
  rw [List.take_add_one, h, List.map_append]
  rfl
theorem filter_take_succ {α : Type} {f : α → Bool} {ds : List α} {i : Nat} {d : α} (h : ds[i]? = some d) : (ds.take (i + 1)).filter f = (ds.take i).filter f ++ (if f d then [d] else []) := by
  rw [List.take_add_one, h, List.filter_append]
  congr 1
  show [d].filter f = _
  rw [List.filter_cons]
  rfl
/-! ### data of any kind, looked at -/
def isI : PyData → Bool
  | .int _ => true
  | .bool _ => true
  | _ => false
def isB : PyData → Bool
  | .bool _ => true
  | _ => false
def isS : PyData → Bool
  | .str _ => true
  | _ => false
def isT : PyData → Bool
  | .tuple _ => true
  | _ => false
def strD (ks : List Str) : PyData → Bool
  | .str z => ks.contains z
  | _ => false
def numD (lo hi : Int) : PyData → Bool
  | .int i => decide (lo ≤ i) && decide (i ≤ hi)
  | _ => false
def lenI (n : Int) : PyData → Bool
  | .tuple ds => decide ((ds.length : Int) = n)
  | _ => false
section
variable {K : PySem.W.Frag} {H : Hp} {Q : VK} {x y : V} {d e : PyData} {vs xs : List V} {ds es : List PyData} {a b p : Addr} {i lo hi : Int} {z : Str} {n : Nat} {ks : List Str}
theorem m_isiI (hx : Im H x d) (q : Q (.bl (isI d)) H) : rIsi K [x, .ty "int"] H Q := by
  cases hx with
  | non => exact g_isiNi q
  | bl b => exact g_isiBi q
  | int i => exact g_isiIi q
  | str z => exact g_isiSi q
  | tup h hs => exact m_isiT (.tup h hs) k_ti q
theorem m_isiB (hx : Im H x d) (q : Q (.bl (isB d)) H) : rIsi K [x, .ty "bool"] H Q := by
  cases hx with
  | non => exact g_isiNb q
  | bl b => exact g_isiBb q
  | int i => exact g_isiIb q
  | str z => exact g_isiSb q
  | tup h hs => exact m_isiT (.tup h hs) k_tb q
theorem m_isiS (hx : Im H x d) (q : Q (.bl (isS d)) H) : rIsi K [x, .ty "str"] H Q := by
  cases hx with
  | non => exact g_isiNs q
  | bl b => exact g_isiBs q
  | int i => exact g_isiIs q
  | str z => exact g_isiSs q
  | tup h hs => exact m_isiT (.tup h hs) k_ts q
theorem m_isiU (hx : Im H x d) (q : Q (.bl (isT d)) H) : rIsi K [x, .ty "tuple"] H Q := by
  cases hx with
  | non => exact g_isiNt q
  | bl b => exact g_isiBt q
  | int i => exact g_isiIt q
  | str z => exact g_isiSt q
  | tup h hs => exact m_isiT (.tup h hs) k_tt q
theorem isT_inv (h : isT d = true) : ∃ ds, d = .tuple ds := by
  cases d <;> first | (cases h; done) | exact ⟨_, rfl⟩
theorem isS_inv (h : isS d = true) : ∃ z, d = .str z := by
  cases d <;> first | (cases h; done) | exact ⟨_, rfl⟩
theorem isB_inv (h : isB d = true) : ∃ b, d = .bool b := by
  cases d <;> first | (cases h; done) | exact ⟨_, rfl⟩
theorem num_inv (h : numD lo hi d = true) : ∃ i, d = .int i ∧ lo ≤ i ∧ i ≤ hi := by
  cases d <;> first | (cases h; done) | skip
  rename_i i
  replace h : (decide (lo ≤ i) && decide (i ≤ hi)) = true := h
  rw [Bool.and_eq_true, decide_eq_true_eq, decide_eq_true_eq] at h
  exact ⟨i, rfl, h.1, h.2⟩
theorem num_of (h1 : lo ≤ i) (h2 : i ≤ hi) : numD lo hi (.int i) = true := by
  show (decide (lo ≤ i) && decide (i ≤ hi)) = true
  rw [decide_eq_true h1, decide_eq_true h2]
  rfl
theorem str_inv (h : strD ks d = true) : ∃ z, d = .str z ∧ z ∈ ks := by
  cases d <;> first | (cases h; done) | skip
  rename_i z
  exact ⟨z, rfl, List.contains_iff_mem.mp h⟩
theorem len_inv (h : lenI (n : Int) d = true) : ∃ ds, d = .tuple ds ∧ ds.length = n := by
  cases d <;> first | (cases h; done) | skip
  rename_i ds
  replace h : decide ((ds.length : Int) = n) = true := h
  rw [decide_eq_true_eq] at h
  exact ⟨ds, rfl, by omega⟩
theorem len1 (h : lenI 1 d = true) : ∃ a, d = .tuple [a] := by
  obtain ⟨ds, rfl, hl⟩ := len_inv (n := 1) h
  match ds, hl with
  | [a], _ => exact ⟨a, rfl⟩
theorem len2 (h : lenI 2 d = true) : ∃ a b, d = .tuple [a, b] := by
  obtain ⟨ds, rfl, hl⟩ := len_inv (n := 2) h
  match ds, hl with
  | [a, b], _ => exact ⟨a, b, rfl⟩
theorem len3 (h : lenI 3 d = true) : ∃ a b c, d = .tuple [a, b, c] := by
  obtain ⟨ds, rfl, hl⟩ := len_inv (n := 3) h
  match ds, hl with
  | [a, b, c], _ => exact ⟨a, b, c, rfl⟩
theorem len4 (h : lenI 4 d = true) : ∃ a b c e, d = .tuple [a, b, c, e] := by
  obtain ⟨ds, rfl, hl⟩ := len_inv (n := 4) h
  match ds, hl with
  | [a, b, c, e], _ => exact ⟨a, b, c, e, rfl⟩
theorem len7 (h : lenI 7 d = true) : ∃ a b c e f g k, d = .tuple [a, b, c, e, f, g, k] := by
  obtain ⟨ds, rfl, hl⟩ := len_inv (n := 7) h
  match ds, hl with
  | [a, b, c, e, f, g, k], _ => exact ⟨a, b, c, e, f, g, k, rfl⟩
theorem Ims.cons_inv (h : Ims H vs (d :: ds)) : ∃ v ws, vs = v :: ws ∧ Im H v d ∧ Ims H ws ds := by
  cases h with
  | cons h t => exact ⟨_, _, rfl, h, t⟩
theorem Ims.nil_inv (h : Ims H vs []) : vs = [] := by
  cases h
  rfl
theorem Ims.mem : ∀ {vs : List V} {ds : List PyData} {v : V}, Ims H vs ds → v ∈ vs → ∃ d ∈ ds, Im H v d
  | _, _, _, .nil, h => by cases h
  | _, _, _, .cons h t, hv => by
    rcases List.mem_cons.mp hv with rfl | hv
    · exact ⟨_, List.mem_cons_self, h⟩
    · obtain ⟨d, hd, hi⟩ := t.mem hv
      exact ⟨d, List.mem_cons_of_mem _ hd, hi⟩
theorem ims_strs : ∀ (ks : List Str), Ims H (ks.map V.str) (ks.map PyData.str)
  | [] => .nil
  | z :: ks => .cons (.str z) (ims_strs ks)
theorem any_strs : ∀ (ks : List Str), ((ks.map PyData.str).any fun z => PyData.eqv z d) = strD ks d
  | [] => by cases d <;> rfl
  | z :: ks => by
    rw [List.map_cons, List.any_cons, any_strs ks]
    cases d <;> first | (unfold PyData.eqv strD; rfl) | skip
    rename_i y
    show (PyData.eqv (.str z) (.str y) || ks.contains y) = (z :: ks).contains y
    unfold PyData.eqv
    rw [List.contains_cons, Bool.beq_comm]
theorem lay_strs (h : ∀ k ∈ ks, PyData.strOk k = true) : PyData.canLayAll0 (ks.map PyData.str) = true := layAll_mem fun d hd => by
  obtain ⟨k, hk, rfl⟩ := List.mem_map.mp hd
  rw [PyData.canLay0]
  exact h k hk
/-- data within a tuple of texts -/
theorem m_inTs (h : H p = some (.tup (ks.map V.str))) (hx : Im H x d) (sd : SeqAt.shaped d = true) (hs : ∀ k ∈ ks, PyData.strOk k = true) (q : Q (.bl (strD ks d)) H) : rInU K false x (.ref p) H Q := by
  refine .inr (.inr (.inr ⟨d, ks.map PyData.str, hx.dp, .inl (Im.dp (.tup h (ims_strs ks))), sd, lay_strs hs, ?_⟩))
  rw [any_strs]
  exact q
theorem m_niTs (h : H p = some (.tup (ks.map V.str))) (hx : Im H x d) (sd : SeqAt.shaped d = true) (hs : ∀ k ∈ ks, PyData.strOk k = true) (q : Q (.bl (!strD ks d)) H) : rInU K true x (.ref p) H Q := by
  refine .inr (.inr (.inr ⟨d, ks.map PyData.str, hx.dp, .inl (Im.dp (.tup h (ims_strs ks))), sd, lay_strs hs, ?_⟩))
  rw [any_strs]
  exact q
theorem strD_eqv : PyData.eqv d (.str z) = strD [z] d := by
  cases d <;> first | (unfold PyData.eqv strD; rfl) | skip
  rename_i y
  show PyData.eqv (.str y) (.str z) = [z].contains y
  unfold PyData.eqv
  rw [List.contains_cons]
  simp
theorem m_eqS (hx : Im H x d) (sd : SeqAt.shaped d = true) (hz : PyData.strOk z = true) (q : Q (.bl (strD [z] d)) H) : rEqU K false x (.str z) H Q :=
  m_eq hx (.str z) sd ((Lay.str (k := 0) hz).shaped (by decide)) (by rw [strD_eqv]; exact q)
theorem m_neS (hx : Im H x d) (sd : SeqAt.shaped d = true) (hz : PyData.strOk z = true) (q : Q (.bl (!strD [z] d)) H) : rEqU K true x (.str z) H Q :=
  m_ne hx (.str z) sd ((Lay.str (k := 0) hz).shaped (by decide)) (by rw [strD_eqv]; exact q)
theorem im1 {d1 : PyData} (h : Im H x (.tuple [d1])) : ∃ a x1, x = .ref a ∧ H a = some (.tup [x1]) ∧ Im H x1 d1 := by
  obtain ⟨a, xs, rfl, h1, h2⟩ := h.tup_inv
  obtain ⟨x1, r, rfl, i1, h2⟩ := h2.cons_inv
  rw [h2.nil_inv] at h1
  exact ⟨a, x1, rfl, h1, i1⟩
theorem im2 {d1 d2 : PyData} (h : Im H x (.tuple [d1, d2])) : ∃ a x1 x2, x = .ref a ∧ H a = some (.tup [x1, x2]) ∧ Im H x1 d1 ∧ Im H x2 d2 := by
  obtain ⟨a, xs, rfl, h1, h2⟩ := h.tup_inv
  obtain ⟨x1, r, rfl, i1, h2⟩ := h2.cons_inv
  obtain ⟨x2, r, rfl, i2, h2⟩ := h2.cons_inv
  rw [h2.nil_inv] at h1
  exact ⟨a, x1, x2, rfl, h1, i1, i2⟩
theorem im3 {d1 d2 d3 : PyData} (h : Im H x (.tuple [d1, d2, d3])) : ∃ a x1 x2 x3, x = .ref a ∧ H a = some (.tup [x1, x2, x3]) ∧ Im H x1 d1 ∧ Im H x2 d2 ∧ Im H x3 d3 := by
  obtain ⟨a, xs, rfl, h1, h2⟩ := h.tup_inv
  obtain ⟨x1, r, rfl, i1, h2⟩ := h2.cons_inv
  obtain ⟨x2, r, rfl, i2, h2⟩ := h2.cons_inv
  obtain ⟨x3, r, rfl, i3, h2⟩ := h2.cons_inv
  rw [h2.nil_inv] at h1
  exact ⟨a, x1, x2, x3, rfl, h1, i1, i2, i3⟩
theorem im4 {d1 d2 d3 d4 : PyData} (h : Im H x (.tuple [d1, d2, d3, d4])) : ∃ a x1 x2 x3 x4, x = .ref a ∧ H a = some (.tup [x1, x2, x3, x4]) ∧ Im H x1 d1 ∧ Im H x2 d2 ∧ Im H x3 d3 ∧ Im H x4 d4 := by
  obtain ⟨a, xs, rfl, h1, h2⟩ := h.tup_inv
  obtain ⟨x1, r, rfl, i1, h2⟩ := h2.cons_inv
  obtain ⟨x2, r, rfl, i2, h2⟩ := h2.cons_inv
  obtain ⟨x3, r, rfl, i3, h2⟩ := h2.cons_inv
  obtain ⟨x4, r, rfl, i4, h2⟩ := h2.cons_inv
  rw [h2.nil_inv] at h1
  exact ⟨a, x1, x2, x3, x4, rfl, h1, i1, i2, i3, i4⟩
end
theorem layAll_inv : ∀ {ds : List PyData}, PyData.canLayAll0 ds = true → ∀ d ∈ ds, d.canLay0 = true
  | [], _, d, hd => by cases hd
  | e :: ds, h, d, hd => by
    rw [PyData.canLayAll0, Bool.and_eq_true] at h
    rcases List.mem_cons.mp hd with rfl | hd
    · exact h.1
    · exact layAll_inv h.2 d hd
theorem depthAll_inv {k : Nat} : ∀ {ds : List PyData}, PyData.depthAll ds ≤ k → ∀ d ∈ ds, d.depth ≤ k
  | [], _, d, hd => by cases hd
  | e :: ds, h, d, hd => by
    rw [PyData.depthAll] at h
    rcases List.mem_cons.mp hd with rfl | hd
    · omega
    · exact depthAll_inv (by omega) d hd
theorem Lay.items {k : Nat} {ds : List PyData} (h : Lay k (.tuple ds)) : ∀ d ∈ ds, Lay k d := fun d hd => by
  obtain ⟨h1, h2⟩ := h
  rw [PyData.canLay0] at h1
  rw [PyData.depth] at h2
  exact ⟨layAll_inv h1 d hd, depthAll_inv (by omega) d hd⟩
/-! how wide, how deep -/
def Wd (n : Nat) : Nat → PyData → Prop
  | 0, .none => True
  | 0, .bool _ => True
  | 0, .int _ => True
  | 0, .str z => PyData.strOk z = true
  | k + 1, .tuple ds => ds.length ≤ n ∧ ∀ x ∈ ds, Wd n k x
  | _ + 1, .none => True
  | _ + 1, .bool _ => True
  | _ + 1, .int _ => True
  | _ + 1, .str z => PyData.strOk z = true
  | _, _ => False
theorem Wd.lay {n : Nat} : ∀ {k : Nat} {d : PyData}, Wd n k d → Lay k d
  | 0, .none, _ => Lay.non
  | 0, .bool _, _ => Lay.bl
  | 0, .int _, _ => Lay.int
  | 0, .str _, h => Lay.str h
  | 0, .tuple _, h => h.elim
  | 0, .list _, h => h.elim
  | 0, .dict _, h => h.elim
  | _ + 1, .none, _ => Lay.non
  | _ + 1, .bool _, _ => Lay.bl
  | _ + 1, .int _, _ => Lay.int
  | _ + 1, .str _, h => Lay.str h
  | k + 1, .tuple ds, h => Lay.tup fun d hd => (h.2 d hd).lay
  | _ + 1, .list _, h => h.elim
  | _ + 1, .dict _, h => h.elim
theorem Wd.mono {n m : Nat} (hn : n ≤ m) : ∀ {k l : Nat} {d : PyData}, k ≤ l → Wd n k d → Wd m l d
  | 0, 0, .none, _, _ => trivial
  | 0, 0, .bool _, _, _ => trivial
  | 0, 0, .int _, _, _ => trivial
  | 0, 0, .str _, _, h => h
  | 0, l + 1, .none, _, _ => trivial
  | 0, l + 1, .bool _, _, _ => trivial
  | 0, l + 1, .int _, _, _ => trivial
  | 0, l + 1, .str _, _, h => h
  | 0, _, .tuple _, _, h => h.elim
  | 0, _, .list _, _, h => h.elim
  | 0, _, .dict _, _, h => h.elim
  | k + 1, 0, _, e, _ => absurd e (by omega)
  | k + 1, l + 1, .none, _, _ => trivial
  | k + 1, l + 1, .bool _, _, _ => trivial
  | k + 1, l + 1, .int _, _, _ => trivial
  | k + 1, l + 1, .str _, _, h => h
  | k + 1, l + 1, .tuple ds, e, h => ⟨Nat.le_trans h.1 hn, fun x hx => Wd.mono hn (by omega) (h.2 x hx)⟩
  | k + 1, _, .list _, _, h => h.elim
  | k + 1, _, .dict _, _, h => h.elim
theorem cutD_mem {ds : List PyData} {lo hi : Option Int} {d : PyData} (h : d ∈ cutD ds lo hi) : d ∈ ds := by
  unfold cutD at h
  exact List.mem_of_mem_drop (List.mem_of_mem_take h)
theorem Wd.cut {n k : Nat} {ds : List PyData} {lo hi : Option Int} (h : Wd n (k + 1) (.tuple ds)) : Wd n (k + 1) (.tuple (cutD ds lo hi)) := ⟨Nat.le_trans (cutD_length ds lo hi) h.1, fun x hx => h.2 x (cutD_mem hx)⟩
theorem Wd.cat {n m k : Nat} {ds es : List PyData} (h : Wd n (k + 1) (.tuple ds)) (g : Wd m (k + 1) (.tuple es)) : Wd (n + m) (k + 1) (.tuple (ds ++ es)) :=
  ⟨by rw [List.length_append]; exact Nat.add_le_add h.1 g.1, fun x hx => by
    rcases List.mem_append.mp hx with hx | hx
    · exact (h.2 x hx).mono (by omega) (Nat.le_refl _)
    · exact (g.2 x hx).mono (by omega) (Nat.le_refl _)⟩
end G

set_option Elab.async false
set_option linter.all false
set_option maxRecDepth 100000
set_option maxHeartbeats 4000000
namespace K22
open PySem PySem.Spec PyProof.Rows L2 G
local macro_rules | `(tactic| walk_at "sc") => `(tactic| first | (with_reducible assumption) | decide | omega | assumption | (simp only [List.length_cons, List.length_nil, List.length_append, List.length_map, List.length_replicate, List.length_set]; omega) | (show _ ≤ sizeLine; decide) | (show _ < sizeLine; decide))
local macro_rules | `(tactic| walk_at "sq") => `(tactic| first | assumption | exact SqL.of (by walk_at "hi") | exact SqT.of (by walk_at "hi"))
local macro_rules | `(tactic| walk_at "sd") => `(tactic| first | exact mul_ok (by first | omega | walk_at "sc") (by first | omega | walk_at "sc") | exact mul_ok' (by first | omega | walk_at "sc") (by first | omega | walk_at "sc"))
local macro_rules | `(tactic| walk_at "hi") => `(tactic| first | assumption | exact Has.get (by assumption) 0 rfl | exact Has.get (by assumption) 1 rfl | exact Has.get (by assumption) 2 rfl | exact Has.get (by assumption) 3 rfl | exact Has.get (by assumption) 4 rfl | exact Has.get (by assumption) 5 rfl | exact Has.get (by assumption) 6 rfl | exact Has.get (by assumption) 7 rfl | exact Has.get (by assumption) 8 rfl | exact Has.get (by assumption) 9 rfl)
local macro_rules | `(tactic| walk_at "s") => `(tactic| first
  | (with_reducible first
  | refine g_seq ?_ | refine g_asg ?_ | refine g_var rfl ?_ | refine g_c ?_ | refine g_op ?_ | refine g_name ?_ | refine g_consA ?_ | refine g_nilA ?_
  | refine g_test ?_ | refine g_exb ?_ | refine g_ifS ?_ | refine g_ret ?_ | refine g_call ?_ | refine g_cb ?_ | refine g_eqI ?_ | refine g_neI ?_
  | refine g_cmpI ?_ | refine g_I0 ?_ | refine g_addI ?_ | refine g_intI ?_ | refine g_abs ?_ | refine g_max2 ?_ | refine g_min2 ?_ | refine g_next ?_ | refine g_drop ?_ | refine g_aug rfl ?_ | refine g_ipI ?_
  | refine g_tru ?_ | refine g_truB ?_ | refine g_truI ?_ | refine g_truN ?_ | refine g_not ?_ | refine g_and ?_ | refine g_or ?_ | refine g_notV ?_ | refine g_andV ?_ | refine g_orV ?_ | refine g_ifE ?_ | refine g_chain ?_
  | refine g_un ?_ | refine g_rU ?_ | refine g_retN ?_ | refine g_brk ?_ | refine g_ct ?_ | refine g_B ?_ | refine g_eqB ?_ | refine g_neB ?_ | refine g_bm ?_ | refine g_bm0 ?_ | refine g_intB ?_
  | refine g_disp ?_ | refine g_dget2 ?_ | refine g_pairN ?_ | refine g_pairC ?_ | refine g_dput ?_ | refine g_isNn ?_ | refine g_isNi ?_ | refine g_isNs ?_ | refine g_isNb ?_ | refine g_isNr ?_ | refine g_isB ?_ | refine g_lset ?_ | refine g_notB ?_ | refine g_noNn ?_ | refine g_noNi ?_ | refine g_noNs ?_ | refine g_noNb ?_ | refine g_noNr ?_ | refine g_gc ?_ | refine g_gn ?_ | refine g_lc ?_ | refine g_yes ?_ | refine g_sfld ?_ | refine g_meth ?_ | refine g_make ?_ | refine g_sub ?_ | refine g_sl ?_ | refine g_part ?_ | refine g_exi ?_ | refine g_noPart ?_ | refine g_for ?_ | refine g_iR ?_ | refine g_iSeq ?_ | refine g_isiIi ?_ | refine g_isiIb ?_ | refine g_isiIs ?_ | refine g_isiIt ?_ | refine g_isiBi ?_ | refine g_isiBb ?_ | refine g_isiBs ?_ | refine g_isiBt ?_ | refine g_isiSi ?_ | refine g_isiSb ?_ | refine g_isiSs ?_ | refine g_isiSt ?_ | refine g_isiNi ?_ | refine g_isiNb ?_ | refine g_isiNs ?_ | refine g_isiNt ?_
  | refine g_ifT ?_ | refine g_ifF ?_ | refine g_ifNT ?_ | refine g_ifNF ?_ | refine g_tup ?_ | refine g_lst ?_)
  | (with_reducible refine g_eqSS ?_) | (with_reducible refine g_neSS ?_) | ((with_reducible refine g_eqSx ?c ?_); (case c => decide +kernel)) | ((with_reducible refine g_neSx ?c ?_); (case c => decide +kernel)) | (with_reducible refine g_eqS ?_) | (with_reducible refine g_neS ?_)
  | ((with_reducible refine g_mod ?c ?_); (case c => walk_at "sc")) | ((with_reducible refine g_fdiv ?c ?d ?_); (case c => walk_at "sc"); (case d => walk_at "sc")) | ((with_reducible refine g_shr ?c ?_); (case c => walk_at "sc"))
  | ((with_reducible refine g_shl ?c ?d ?e ?_); (case c => walk_at "sc"); (case d => walk_at "sc"); (case e => walk_at "sc")) | ((with_reducible refine g_pow ?c ?d ?e ?_); (case c => walk_at "sc"); (case d => walk_at "sc"); (case e => walk_at "sc")) | ((with_reducible refine g_mulI ?c ?_); (case c => walk_at "sd"))
  | ((with_reducible refine' g_unp ?h ?n ?_); (case h => walk_at "sq"); (case n => rfl)) | ((with_reducible refine g_wipe ?e ?_); (case e => rfl)) | walk_at "fld" | ((with_reducible refine g_rR1 ?c1 ?c2 ?_); (case c1 => walk_at "sc"); (case c2 => walk_at "sc")) | ((with_reducible refine g_rR2 ?c1 ?_); (case c1 => exact ⟨by walk_at "sc", by walk_at "sc", by walk_at "sc", by walk_at "sc"⟩))
  | ((with_reducible refine' g_ixA ?h ?z ?v ?_); (case h => assumption); (case z => decide); (case v => rfl)) | ((with_reducible refine' g_isD ?h ?_); (case h => walk_at "hi")) | ((with_reducible refine' g_lenM ?c ?_); (case c => walk_at "sq")) | ((with_reducible refine' g_lenL ?c ?_); (case c => walk_at "sq")) | ((with_reducible refine' g_seqL ?c ?_); (case c => walk_at "sq"))
  | ((with_reducible refine' g_ty_ ?c ?_); (case c => exact .inl ⟨rfl, _, by walk_at "sq"⟩)))
local macro_rules | `(tactic| walk_at "go") => `(tactic| repeat walk_at "s")
local macro_rules | `(tactic| walk_at "len") => `(tactic| (intro vs H Q E h; first | (obtain ⟨e, _⟩ := h; rw [e]; rfl) | (obtain ⟨_, e, _⟩ := h; rw [e]; rfl) | (obtain ⟨_, _, e, _⟩ := h; rw [e]; rfl) | (obtain ⟨_, _, _, e, _⟩ := h; rw [e]; rfl) | (obtain ⟨_, _, _, _, e, _⟩ := h; rw [e]; rfl) | (obtain ⟨_, _, _, _, _, e, _⟩ := h; rw [e]; rfl) | (obtain ⟨_, _, _, _, _, _, e, _⟩ := h; rw [e]; rfl) | (obtain ⟨_, _, _, _, _, _, _, e, _⟩ := h; rw [e]; rfl) | (obtain ⟨_, _, _, _, _, _, _, _, e, _⟩ := h; rw [e]; rfl) | (obtain ⟨_, _, _, _, _, _, _, _, _, e, _⟩ := h; rw [e]; rfl) | (obtain ⟨_, _, _, _, _, _, _, _, _, _, e, _⟩ := h; rw [e]; rfl) | (obtain ⟨_, _, _, _, _, _, _, _, _, _, _, e, _⟩ := h; rw [e]; rfl) | (obtain ⟨_, _, _, _, _, _, _, _, _, _, _, _, e, _⟩ := h; rw [e]; rfl) | (obtain ⟨_, _, _, _, _, _, _, _, _, _, _, _, _, e, _⟩ := h; rw [e]; rfl) | (obtain ⟨_, _, _, _, _, _, _, _, _, _, _, _, _, _, e, _⟩ := h; rw [e]; rfl) | (obtain ⟨_, _, _, _, _, _, _, _, _, _, _, _, _, _, _, e, _⟩ := h; rw [e]; rfl) | (obtain ⟨_, _, _, _, _, _, _, _, _, _, _, _, _, _, _, _, e, _⟩ := h; rw [e]; rfl) | (obtain ⟨_, _, _, _, _, _, _, _, _, _, _, _, _, _, _, _, _, e, _⟩ := h; rw [e]; rfl) | (obtain ⟨_, _, _, _, _, _, _, _, _, _, _, _, _, _, _, _, _, _, e, _⟩ := h; rw [e]; rfl) | (obtain ⟨_, _, _, _, _, _, _, _, _, _, _, _, _, _, _, _, _, _, _, e, _⟩ := h; rw [e]; rfl) | (obtain ⟨_, _, _, _, _, _, _, _, _, _, _, _, _, _, _, _, _, _, _, _, e, _⟩ := h; rw [e]; rfl) | (obtain ⟨_, _, _, _, _, _, _, _, _, _, _, _, _, _, _, _, _, _, _, _, _, e, _⟩ := h; rw [e]; rfl) | (obtain ⟨_, _, _, _, _, _, _, _, _, _, _, _, _, _, _, _, _, _, _, _, _, _, e, _⟩ := h; rw [e]; rfl) | (obtain ⟨_, _, _, _, _, _, _, _, _, _, _, _, _, _, _, _, _, _, _, _, _, _, _, e, _⟩ := h; rw [e]; rfl)))

def topS (i : Nat) : Stmt := PySem.Challenge.pw_sameclock_k22_misses_turn_a_set_over.main.body.getD i (.Pass ⟨0, 0, 0, 0⟩)
def dOf (x : Str) (i : Nat) : He.DefD := ⟨(x, none), x, x, defArgs (topS i), defBody (topS i), defScope (topS i), [], []⟩
def mOf (c m q : Str) (s : Stmt) : He.DefD := ⟨(c, some m), m, q, defArgs s, defBody s, defScope s, [], []⟩
def fn : List He.DefD := [dOf "_wall" 0, dOf "_law_draws" 4, dOf "_law_reader" 5, dOf "_law_next" 6, dOf "_law_cache" 7, dOf "_law_changed" 8, dOf "_law_begun" 9, dOf "law" 10, mOf "Cache" "__init__" "Cache.__init__" (inClass (topS 2) 0), mOf "Cache" "line_of" "Cache.line_of" (inClass (topS 2) 1), mOf "Cache" "places" "Cache.places" (inClass (topS 2) 2), mOf "Cache" "touch" "Cache.touch" (inClass (topS 2) 3), mOf "Cache" "free_place" "Cache.free_place" (inClass (topS 2) 4), mOf "Cache" "pointed_place" "Cache.pointed_place" (inClass (topS 2) 5), mOf "Cache" "turn_away" "Cache.turn_away" (inClass (topS 2) 6), mOf "Cache" "drop" "Cache.drop" (inClass (topS 2) 7)]
def fa : List He.Fa := [.glo "_wall", .glo "_law_draws", .glo "_law_reader", .glo "_law_next", .glo "_law_cache", .glo "_law_changed", .glo "_law_begun", .glo "law", .glo "Cache", .cls "Cache", .mkr "Cache", .meth "Cache" "line_of", .meth "Cache" "places", .meth "Cache" "touch", .meth "Cache" "free_place", .meth "Cache" "pointed_place", .meth "Cache" "turn_away", .meth "Cache" "drop", .noat "Cache" "_sets", .noat "Cache" "_ways", .noat "Cache" "_line", .noat "Cache" "_policy", .noat "Cache" "_places", .noat "Cache" "_times", .noat "Cache" "_pointers", .noat "Cache" "_time", .free "abs", .free "int", .free "len", .free "list", .free "min", .free "range", .free "sorted", .free "tuple"]
variable {P : Program} {w : World} {K : PySem.W.Frag} {mg : Str → Option Value} {base : Heap}
theorem nd_Cache : (["_sets", "_ways", "_line", "_policy", "_places", "_times", "_pointers", "_time"] : List Str).Nodup := by decide +kernel
abbrev fs_Cache (v0 v1 v2 v3 v4 v5 v6 v7 : V) : List (Str × V) := [("_sets", v0), ("_ways", v1), ("_line", v2), ("_policy", v3), ("_places", v4), ("_times", v5), ("_pointers", v6), ("_time", v7)]
theorem cl_Cache (T : Txt fa fn K mg) : Cls K (He.ga K "Cache") := T.cls 9 rfl
theorem na_Cache__sets (T : Txt fa fn K mg) : NoAttr K (He.ga K "Cache") "_sets" := T.noat 18 rfl
theorem nf_Cache__sets : ("_sets" : Str) ∉ ([] : List Str) := by decide +kernel
theorem na_Cache__ways (T : Txt fa fn K mg) : NoAttr K (He.ga K "Cache") "_ways" := T.noat 19 rfl
theorem nf_Cache__ways : ("_ways" : Str) ∉ (["_sets"] : List Str) := by decide +kernel
theorem na_Cache__line (T : Txt fa fn K mg) : NoAttr K (He.ga K "Cache") "_line" := T.noat 20 rfl
theorem nf_Cache__line : ("_line" : Str) ∉ (["_sets", "_ways"] : List Str) := by decide +kernel
theorem na_Cache__policy (T : Txt fa fn K mg) : NoAttr K (He.ga K "Cache") "_policy" := T.noat 21 rfl
theorem nf_Cache__policy : ("_policy" : Str) ∉ (["_sets", "_ways", "_line"] : List Str) := by decide +kernel
theorem na_Cache__places (T : Txt fa fn K mg) : NoAttr K (He.ga K "Cache") "_places" := T.noat 22 rfl
theorem nf_Cache__places : ("_places" : Str) ∉ (["_sets", "_ways", "_line", "_policy"] : List Str) := by decide +kernel
theorem na_Cache__times (T : Txt fa fn K mg) : NoAttr K (He.ga K "Cache") "_times" := T.noat 23 rfl
theorem nf_Cache__times : ("_times" : Str) ∉ (["_sets", "_ways", "_line", "_policy", "_places"] : List Str) := by decide +kernel
theorem na_Cache__pointers (T : Txt fa fn K mg) : NoAttr K (He.ga K "Cache") "_pointers" := T.noat 24 rfl
theorem nf_Cache__pointers : ("_pointers" : Str) ∉ (["_sets", "_ways", "_line", "_policy", "_places", "_times"] : List Str) := by decide +kernel
theorem na_Cache__time (T : Txt fa fn K mg) : NoAttr K (He.ga K "Cache") "_time" := T.noat 25 rfl
theorem nf_Cache__time : ("_time" : Str) ∉ (["_sets", "_ways", "_line", "_policy", "_places", "_times", "_pointers"] : List Str) := by decide +kernel
theorem nm_Cache_line_of : ("line_of" : Str) ∉ (["_sets", "_ways", "_line", "_policy", "_places", "_times", "_pointers", "_time"] : List Str) := by decide +kernel
theorem nm_Cache_places : ("places" : Str) ∉ (["_sets", "_ways", "_line", "_policy", "_places", "_times", "_pointers", "_time"] : List Str) := by decide +kernel
theorem nm_Cache_touch : ("touch" : Str) ∉ (["_sets", "_ways", "_line", "_policy", "_places", "_times", "_pointers", "_time"] : List Str) := by decide +kernel
theorem nm_Cache_free_place : ("free_place" : Str) ∉ (["_sets", "_ways", "_line", "_policy", "_places", "_times", "_pointers", "_time"] : List Str) := by decide +kernel
theorem nm_Cache_pointed_place : ("pointed_place" : Str) ∉ (["_sets", "_ways", "_line", "_policy", "_places", "_times", "_pointers", "_time"] : List Str) := by decide +kernel
theorem nm_Cache_turn_away : ("turn_away" : Str) ∉ (["_sets", "_ways", "_line", "_policy", "_places", "_times", "_pointers", "_time"] : List Str) := by decide +kernel
theorem nm_Cache_drop : ("drop" : Str) ∉ (["_sets", "_ways", "_line", "_policy", "_places", "_times", "_pointers", "_time"] : List Str) := by decide +kernel
local macro_rules | `(tactic| walk_at "fld") => `(tactic| first | ((with_reducible refine' g_fld (f := "_sets") ?h ?c ?n ?l ?_); (case h => walk_at "hi"); (case c => exact cl_Cache (by assumption)); (case n => exact na_Cache__sets (by assumption)); (case l => exact lk_ix 0 nd_Cache rfl)) | ((with_reducible refine' g_fld (f := "_ways") ?h ?c ?n ?l ?_); (case h => walk_at "hi"); (case c => exact cl_Cache (by assumption)); (case n => exact na_Cache__ways (by assumption)); (case l => exact lk_ix 1 nd_Cache rfl)) | ((with_reducible refine' g_fld (f := "_line") ?h ?c ?n ?l ?_); (case h => walk_at "hi"); (case c => exact cl_Cache (by assumption)); (case n => exact na_Cache__line (by assumption)); (case l => exact lk_ix 2 nd_Cache rfl)) | ((with_reducible refine' g_fld (f := "_policy") ?h ?c ?n ?l ?_); (case h => walk_at "hi"); (case c => exact cl_Cache (by assumption)); (case n => exact na_Cache__policy (by assumption)); (case l => exact lk_ix 3 nd_Cache rfl)) | ((with_reducible refine' g_fld (f := "_places") ?h ?c ?n ?l ?_); (case h => walk_at "hi"); (case c => exact cl_Cache (by assumption)); (case n => exact na_Cache__places (by assumption)); (case l => exact lk_ix 4 nd_Cache rfl)) | ((with_reducible refine' g_fld (f := "_times") ?h ?c ?n ?l ?_); (case h => walk_at "hi"); (case c => exact cl_Cache (by assumption)); (case n => exact na_Cache__times (by assumption)); (case l => exact lk_ix 5 nd_Cache rfl)) | ((with_reducible refine' g_fld (f := "_pointers") ?h ?c ?n ?l ?_); (case h => walk_at "hi"); (case c => exact cl_Cache (by assumption)); (case n => exact na_Cache__pointers (by assumption)); (case l => exact lk_ix 6 nd_Cache rfl)) | ((with_reducible refine' g_fld (f := "_time") ?h ?c ?n ?l ?_); (case h => walk_at "hi"); (case c => exact cl_Cache (by assumption)); (case n => exact na_Cache__time (by assumption)); (case l => exact lk_ix 7 nd_Cache rfl)) | ((with_reducible refine' g_rcv (m := "line_of") ?h ?l ?_); (case h => walk_at "hi"); (case l => exact lk_none nm_Cache_line_of)) | ((with_reducible refine' g_rcv (m := "places") ?h ?l ?_); (case h => walk_at "hi"); (case l => exact lk_none nm_Cache_places)) | ((with_reducible refine' g_rcv (m := "touch") ?h ?l ?_); (case h => walk_at "hi"); (case l => exact lk_none nm_Cache_touch)) | ((with_reducible refine' g_rcv (m := "free_place") ?h ?l ?_); (case h => walk_at "hi"); (case l => exact lk_none nm_Cache_free_place)) | ((with_reducible refine' g_rcv (m := "pointed_place") ?h ?l ?_); (case h => walk_at "hi"); (case l => exact lk_none nm_Cache_pointed_place)) | ((with_reducible refine' g_rcv (m := "turn_away") ?h ?l ?_); (case h => walk_at "hi"); (case l => exact lk_none nm_Cache_turn_away)) | ((with_reducible refine' g_rcv (m := "drop") ?h ?l ?_); (case h => walk_at "hi"); (case l => exact lk_none nm_Cache_drop)))
/-! ### the cache -/
structure CSt where
  S : Nat
  W : Nat
  Z : Nat
  P : Str
  pl : List (List (Option Int))
  tm : List (List Int)
  pt : List (List Int)
  t : Int
def ovV : Option Int → V
  | none => .non
  | some i => .int i
abbrev plR (c : CSt) : List (List V) := c.pl.map (·.map ovV)
abbrev tmR (c : CSt) : List (List V) := c.tm.map (·.map V.int)
abbrev ptR (c : CSt) : List (List V) := c.pt.map (·.map V.int)
/-- where a cache's objects stand -/
structure CAd where
  p : Addr
  dx : Addr
  A : Addr
  B : Addr
  G : Addr
  as : List Addr
  bs : List Addr
  gs : List Addr
abbrev caO (K : PySem.W.Frag) (d : CAd) (c : CSt) : HO := .ins (He.ga K "Cache") d.dx (fs_Cache (.int c.S) (.int c.W) (.int c.Z) (.str c.P) (.ref d.A) (.ref d.B) (.ref d.G) (.int c.t))
abbrev caF (K : PySem.W.Frag) (d : CAd) (c : CSt) : List (Addr × HO) := [(d.p, caO K d c), (d.A, .lst (d.as.map V.ref)), (d.B, .lst (d.bs.map V.ref)), (d.G, .lst (d.gs.map V.ref))]
abbrev CaL (K : PySem.W.Frag) (d : CAd) (c : CSt) : List (Addr × HO) := caF K d c ++ (tab d.as (plR c) ++ (tab d.bs (tmR c) ++ (tab d.gs (ptR c) ++ [])))
structure CWf (d : CAd) (c : CSt) : Prop where
  s0 : 0 < c.S
  s1 : c.S ≤ 1000
  w0 : 0 < c.W
  w1 : c.W ≤ 1000
  z0 : 0 < c.Z
  z1 : c.Z ≤ 1000000
  la : d.as.length = c.S
  lb : d.bs.length = c.S
  lg : d.gs.length = c.S
  lp : c.pl.length = c.S
  lt : c.tm.length = c.S
  lq : c.pt.length = c.S
  rp : ∀ r ∈ c.pl, r.length = c.W
  rt : ∀ r ∈ c.tm, r.length = c.W
  rq : ∀ r ∈ c.pt, r.length = c.W ∧ ∀ x ∈ r, x = 0 ∨ x = 1
section
variable {K : PySem.W.Frag} {H : Hp} {d : CAd} {c : CSt} {i : Nat} {a : Addr}
theorem ca_pl {r : List (Option Int)} (M : Has H (CaL K d c)) (ha : d.as[i]? = some a) (hr : c.pl[i]? = some r) : H a = some (.lst (r.map ovV)) :=
  M.tabGet ha (by rw [List.getElem?_map, hr]; rfl)
theorem ca_pl_set {r r' : List (Option Int)} (M : Has H (CaL K d c)) (ha : d.as[i]? = some a) (hr : c.pl[i]? = some r) : Has (upd H a (.lst (r'.map ovV))) (CaL K d { c with pl := c.pl.set i r' }) := by
  have z := M.tabSet (r' := r'.map ovV) ha (by rw [List.getElem?_map, hr]; rfl)
  rw [← List.map_set (f := fun x => List.map ovV x)] at z
  exact z
theorem ca_tm {r : List Int} (M : Has H (CaL K d c)) (ha : d.bs[i]? = some a) (hr : c.tm[i]? = some r) : H a = some (.lst (r.map V.int)) := by
  have M' : Has H ((caF K d c ++ tab d.as (plR c)) ++ (tab d.bs (tmR c) ++ (tab d.gs (ptR c) ++ []))) := by
    rw [List.append_assoc]
    exact M
  exact M'.tabGet ha (by rw [List.getElem?_map, hr]; rfl)
theorem ca_tm_set {r r' : List Int} (M : Has H (CaL K d c)) (ha : d.bs[i]? = some a) (hr : c.tm[i]? = some r) : Has (upd H a (.lst (r'.map V.int))) (CaL K d { c with tm := c.tm.set i r' }) := by
  have M' : Has H ((caF K d c ++ tab d.as (plR c)) ++ (tab d.bs (tmR c) ++ (tab d.gs (ptR c) ++ []))) := by
    rw [List.append_assoc]
    exact M
  have z := M'.tabSet (r' := r'.map V.int) ha (by rw [List.getElem?_map, hr]; rfl)
  rw [← List.map_set (f := fun x => List.map V.int x), List.append_assoc] at z
  exact z
theorem ca_pt {r : List Int} (M : Has H (CaL K d c)) (ha : d.gs[i]? = some a) (hr : c.pt[i]? = some r) : H a = some (.lst (r.map V.int)) := by
  have M' : Has H (((caF K d c ++ tab d.as (plR c)) ++ tab d.bs (tmR c)) ++ (tab d.gs (ptR c) ++ [])) := by
    rw [List.append_assoc, List.append_assoc]
    exact M
  exact M'.tabGet ha (by rw [List.getElem?_map, hr]; rfl)
theorem ca_pt_set {r r' : List Int} (M : Has H (CaL K d c)) (ha : d.gs[i]? = some a) (hr : c.pt[i]? = some r) : Has (upd H a (.lst (r'.map V.int))) (CaL K d { c with pt := c.pt.set i r' }) := by
  have M' : Has H (((caF K d c ++ tab d.as (plR c)) ++ tab d.bs (tmR c)) ++ (tab d.gs (ptR c) ++ [])) := by
    rw [List.append_assoc, List.append_assoc]
    exact M
  have z := M'.tabSet (r' := r'.map V.int) ha (by rw [List.getElem?_map, hr]; rfl)
  rw [← List.map_set (f := fun x => List.map V.int x), List.append_assoc, List.append_assoc] at z
  exact z
end

/-! rows of places -/
theorem eqV_ov {y x : Option Int} : eqV (ovV y) (ovV x) = decide (y = x) := by
  cases y <;> cases x
  · rfl
  · rfl
  · rfl
  · rename_i a b
    show (a == b) = _
    by_cases h : a = b
    · subst h; simp
    · rw [beq_eq_false_iff_ne.mpr h]; simp [h]
theorem flat_ov {r : List (Option Int)} : (r.map ovV).all flatV = true := by
  rw [List.all_eq_true]
  intro v hv
  obtain ⟨o, _, rfl⟩ := List.mem_map.mp hv
  cases o <;> rfl
theorem inV_ov {x : Option Int} {r : List (Option Int)} : inV (ovV x) (r.map ovV) = decide (x ∈ r) := by
  unfold inV
  induction r with
  | nil => simp
  | cons y r ih =>
    rw [List.map_cons, List.any_cons, ih, eqV_ov]
    by_cases h : y = x
    · subst h; simp
    · have h' : ¬ x = y := fun e => h e.symm
      simp [h, h']
/-- the first place of x -/
def ixo (x : Option Int) (r : List (Option Int)) : Nat := r.findIdx fun y => decide (y = x)
theorem ixo_lt {x : Option Int} {r : List (Option Int)} (h : x ∈ r) : ixo x r < r.length := List.findIdx_lt_length_of_exists ⟨x, h, by simp⟩
theorem ixo_at {x : Option Int} {r : List (Option Int)} (h : x ∈ r) : r[ixo x r]? = some x := by
  have z := List.findIdx_getElem (w := ixo_lt h)
  rw [List.getElem?_eq_getElem (ixo_lt h)]
  rw [decide_eq_true_eq] at z
  exact congrArg some z
theorem ixo_no {x y : Option Int} {r : List (Option Int)} {m : Nat} (h : m < ixo x r) (e : r[m]? = some y) : y ≠ x := by
  have hm : m < r.length := (List.getElem?_eq_some_iff.mp e).1
  have z := List.not_of_lt_findIdx h
  rw [List.getElem?_eq_getElem hm] at e
  cases e
  simpa using z
theorem g_inO {K : PySem.W.Frag} {H : Hp} {Q : VK} {neg : Bool} {x : Option Int} {v : V} {p : Addr} {r : List (Option Int)} (hv : v = ovV x) (h : H p = some (.lst (r.map ovV))) (q : Q (.bl (if neg then !decide (x ∈ r) else decide (x ∈ r))) H) : rInU K neg v (.ref p) H Q := by
  subst hv
  refine .inl ⟨p, r.map ovV, rfl, .inl (SqL.of h), by cases x <;> rfl, flat_ov, ?_⟩
  rw [inV_ov]
  exact q
theorem g_indexO {K : PySem.W.Frag} {H : Hp} {Q : VK} {x : Option Int} {v : V} {p : Addr} {r : List (Option Int)} (hv : v = ovV x) (h : H p = some (.lst (r.map ovV))) (hm : x ∈ r) (q : Q (.int (ixo x r : Nat)) H) : rIndexU K (.ref p) [v] H Q := by
  subst hv
  refine g_index (SqL.of h) (by cases x <;> rfl) flat_ov (j := ixo x r) (z := ovV x) (by rw [List.getElem?_map, ixo_at hm]; rfl) (by rw [eqV_ov]; simp) (fun m z' hm' hz => ?_) q
  rw [List.getElem?_map] at hz
  cases e : r[m]? with
  | none => rw [e] at hz; cases hz
  | some y =>
    rw [e] at hz
    cases hz
    rw [eqV_ov]
    exact decide_eq_false (ixo_no hm' e)
/-- the first place of the least -/
def mnI (r : List Int) : Nat := r.findIdx fun y => r.all fun z => decide (y ≤ z)
theorem mnI_eq {r : List Int} {m : Int} (h1 : m ∈ r) (h2 : ∀ y ∈ r, m ≤ y) : mnI r = r.findIdx fun y => decide (y = m) := by
  unfold mnI
  have : ∀ (l : List Int), (∀ y ∈ l, y ∈ r) → l.findIdx (fun y => r.all fun z => decide (y ≤ z)) = l.findIdx fun y => decide (y = m) := by
    intro l
    induction l with
    | nil => intro _; rfl
    | cons y l ih =>
      intro hl
      have e : (r.all fun z => decide (y ≤ z)) = decide (y = m) := by
        by_cases hy : y = m
        · subst hy
          rw [decide_eq_true (rfl : y = y), List.all_eq_true]
          exact fun z hz => decide_eq_true (h2 z hz)
        · rw [decide_eq_false hy]
          rw [Bool.eq_false_iff]
          intro ha
          rw [List.all_eq_true] at ha
          have z1 := of_decide_eq_true (ha m h1)
          have z2 := h2 y (hl y (by simp))
          exact hy (by omega)
      rw [List.findIdx_cons, List.findIdx_cons, e, ih fun z hz => hl z (by simp [hz])]
  exact this r fun _ h => h
theorem ixi_lt {x : Int} {r : List Int} (h : x ∈ r) : r.findIdx (fun y => decide (y = x)) < r.length := List.findIdx_lt_length_of_exists ⟨x, h, by simp⟩
theorem g_indexI {K : PySem.W.Frag} {H : Hp} {Q : VK} {x : Int} {p : Addr} {r : List Int} (h : SqL K H p (r.map V.int)) (hm : x ∈ r) (q : Q (.int (r.findIdx (fun y => decide (y = x)) : Nat)) H) : rIndexU K (.ref p) [.int x] H Q := by
  have fl : (r.map V.int).all flatV = true := by
    rw [List.all_eq_true]
    intro v hv
    obtain ⟨o, _, rfl⟩ := List.mem_map.mp hv
    rfl
  have ev : ∀ y : Int, eqV (.int y) (.int x) = decide (y = x) := fun y => by
    show (y == x) = _
    by_cases h : y = x
    · subst h; simp
    · rw [beq_eq_false_iff_ne.mpr h]; simp [h]
  have hlt := ixi_lt hm
  have z := List.findIdx_getElem (w := hlt)
  rw [decide_eq_true_eq] at z
  refine g_index h rfl fl (z := .int x) (by rw [List.getElem?_map, List.getElem?_eq_getElem hlt, z]; rfl) (by rw [ev]; simp) (fun m z' hm' hz => ?_) q
  rw [List.getElem?_map] at hz
  have hl : m < r.length := by omega
  rw [List.getElem?_eq_getElem hl] at hz
  cases hz
  rw [ev]
  have w := List.not_of_lt_findIdx hm'
  simpa using w

/-! what a cache does -/
def tmv (c : CSt) (n : Nat) : List Int := c.tm.getD n []
def ptv (c : CSt) (n : Nat) : List Int := c.pt.getD n []
def row (c : CSt) (n : Nat) : List (Option Int) := c.pl.getD n []
def ptGo (r : List Int) (W : Nat) : Nat → Nat → Nat
  | 0, node => node
  | f + 1, node => if node < W then ptGo r W f (2 * node + (r.getD node 0).toNat) else node
def tnGo : Nat → Nat → List Int → List Int
  | 0, _, r => r
  | f + 1, node, r => if 1 < node then tnGo f (node / 2) (r.set (node / 2) (1 - (node : Int) % 2)) else r
abbrev ptV (r : List Int) (W : Nat) : Nat := ptGo r W W 1 - W
abbrev tnV (r : List Int) (W place : Nat) : List Int := tnGo (place + W) (place + W) r
def fpV (c : CSt) (n : Nat) : Nat := if none ∈ row c n then ixo none (row c n) else if c.P = "plru" then ptV (ptv c n) c.W else mnI (tmv c n)
def lnO (c : CSt) (x : Int) : Int := x / (c.Z : Int)
def nmO (c : CSt) (x : Int) : Nat := (lnO c x % (c.S : Int)).toNat
abbrev hitV (c : CSt) (x : Int) : Prop := some (lnO c x) ∈ row c (nmO c x)
def plO (c : CSt) (x : Int) : Nat := if hitV c x then ixo (some (lnO c x)) (row c (nmO c x)) else fpV c (nmO c x)
/-- the state behind a touch -/
def tcV (c : CSt) (x : Int) : CSt := { c with
  t := c.t + 1
  pl := if hitV c x then c.pl else c.pl.set (nmO c x) ((row c (nmO c x)).set (plO c x) (some (lnO c x)))
  tm := if ¬ hitV c x ∨ c.P = "lru" then c.tm.set (nmO c x) ((tmv c (nmO c x)).set (plO c x) (c.t + 1)) else c.tm
  pt := if c.P = "plru" then c.pt.set (nmO c x) (tnV (ptv c (nmO c x)) c.W (plO c x)) else c.pt }
/-- the state behind a drop -/
def dpV (c : CSt) (x : Int) : CSt := { c with
  pl := if hitV c x then c.pl.set (nmO c x) ((row c (nmO c x)).set (ixo (some (lnO c x)) (row c (nmO c x))) none) else c.pl }
theorem getD_some {α : Type} {l : List α} {n : Nat} {d : α} (h : n < l.length) : l[n]? = some (l.getD n d) := by
  rw [List.getD_eq_getElem?_getD, List.getElem?_eq_getElem h]
  rfl
theorem getD_mem {α : Type} {l : List α} {n : Nat} {d : α} (h : n < l.length) : l.getD n d ∈ l := List.mem_of_getElem? (getD_some h)
theorem ref_at {as : List Addr} {n : Nat} (h : n < as.length) : ∃ a, as[n]? = some a ∧ (as.map V.ref)[n]? = some (.ref a) := ⟨_, List.getElem?_eq_getElem h, by rw [List.getElem?_map, List.getElem?_eq_getElem h]; rfl⟩
section
variable {d : CAd} {c : CSt} {n : Nat} {x : Int}
theorem CWf.rowL (wf : CWf d c) (h : n < c.S) : (row c n).length = c.W := wf.rp _ (getD_mem (by rw [wf.lp]; exact h))
theorem CWf.tmL (wf : CWf d c) (h : n < c.S) : (tmv c n).length = c.W := wf.rt _ (getD_mem (by rw [wf.lt]; exact h))
theorem CWf.ptL (wf : CWf d c) (h : n < c.S) : (ptv c n).length = c.W := (wf.rq _ (getD_mem (by rw [wf.lq]; exact h))).1
theorem CWf.pt01 (wf : CWf d c) (h : n < c.S) : ∀ x ∈ ptv c n, x = 0 ∨ x = 1 := (wf.rq _ (getD_mem (by rw [wf.lq]; exact h))).2
theorem CWf.nm (wf : CWf d c) (x : Int) : nmO c x < c.S ∧ lnO c x % (c.S : Int) = (nmO c x : Int) := by
  have h0 := wf.s0
  have h1 := Int.emod_nonneg (lnO c x) (b := (c.S : Int)) (by omega)
  have h2 := Int.emod_lt_of_pos (lnO c x) (b := (c.S : Int)) (by omega)
  unfold nmO
  omega
theorem pt_at (r : List Int) (h : ∀ x ∈ r, x = 0 ∨ x = 1) {m : Nat} (hm : m < r.length) : r[m]? = some (((r.getD m 0).toNat : Nat) : Int) ∧ (r.getD m 0).toNat ≤ 1 := by
  have e := getD_some (d := (0 : Int)) hm
  rcases h _ (getD_mem (d := (0 : Int)) hm) with z | z <;> (rw [z] at e ⊢; exact ⟨e, by decide⟩)
theorem ptGo_b {r : List Int} {W : Nat} (h : ∀ x ∈ r, x = 0 ∨ x = 1) (hr : r.length = W) : ∀ f node, 1 ≤ node → node < 2 * W → W ≤ node + f → W ≤ ptGo r W f node ∧ ptGo r W f node < 2 * W
  | 0, node, _, h2, h3 => ⟨by simpa [ptGo] using h3, by simpa [ptGo] using h2⟩
  | f + 1, node, h1, h2, h3 => by
    unfold ptGo
    split
    · rename_i hl
      have := (pt_at r h (m := node) (by omega)).2
      exact ptGo_b h hr f _ (by omega) (by omega) (by omega)
    · omega
theorem ptGo_mono {r : List Int} {W : Nat} : ∀ f g node, 1 ≤ node → W ≤ node + f → f ≤ g → ptGo r W g node = ptGo r W f node
  | 0, 0, _, _, _, _ => rfl
  | 0, g + 1, node, _, h, _ => by unfold ptGo; rw [if_neg (by omega)]
  | f + 1, 0, _, _, _, h => by omega
  | f + 1, g + 1, node, h1, h, hg => by
    unfold ptGo
    split
    · exact ptGo_mono f g _ (by omega) (by omega) (by omega)
    · rfl
theorem ptGo_step {r : List Int} {W node : Nat} (h1 : 1 ≤ node) (h : node < W) : ptGo r W W node = ptGo r W W (2 * node + (r.getD node 0).toNat) := by
  have e : ptGo r W (W + 1) node = ptGo r W W node := ptGo_mono W (W + 1) node h1 (by omega) (by omega)
  rw [← e]
  rw [show ptGo r W (W + 1) node = if node < W then ptGo r W W (2 * node + (r.getD node 0).toNat) else node from rfl, if_pos h]
theorem ptGo_end {r : List Int} {W f node : Nat} (h : W ≤ node) : ptGo r W f node = node := by
  cases f with
  | zero => rfl
  | succ f => unfold ptGo; rw [if_neg (by omega)]
theorem tnGo_mono : ∀ f g node r, node ≤ f → f ≤ g → tnGo g node r = tnGo f node r
  | 0, 0, _, _, _, _ => rfl
  | 0, g + 1, node, r, h, _ => by unfold tnGo; rw [if_neg (by omega)]
  | f + 1, 0, _, _, _, h => by omega
  | f + 1, g + 1, node, r, h, hg => by
    unfold tnGo
    split
    · exact tnGo_mono f g _ _ (by omega) (by omega)
    · rfl
theorem tnGo_step {f node : Nat} {r : List Int} (h : 1 < node) (hf : node ≤ f) : tnGo f node r = tnGo f (node / 2) (r.set (node / 2) (1 - (node : Int) % 2)) := by
  have e : tnGo (f + 1) node r = tnGo f node r := tnGo_mono f (f + 1) node r hf (by omega)
  rw [← e]
  rw [show tnGo (f + 1) node r = if 1 < node then tnGo f (node / 2) (r.set (node / 2) (1 - (node : Int) % 2)) else r from rfl, if_pos h]
theorem tnGo_end {f node : Nat} {r : List Int} (h : node ≤ 1) : tnGo f node r = r := by
  cases f with
  | zero => rfl
  | succ f => unfold tnGo; rw [if_neg (by omega)]
theorem tnGo_len : ∀ {f node : Nat} {r : List Int}, (tnGo f node r).length = r.length
  | 0, _, _ => rfl
  | f + 1, node, r => by
    unfold tnGo
    split
    · rw [tnGo_len, List.length_set]
    · rfl
theorem tnGo_01 : ∀ {f node : Nat} {r : List Int}, (∀ x ∈ r, x = 0 ∨ x = 1) → ∀ x ∈ tnGo f node r, x = 0 ∨ x = 1
  | 0, _, _, h => h
  | f + 1, node, r, h => by
    unfold tnGo
    split
    · refine tnGo_01 fun x hx => ?_
      rcases List.mem_or_eq_of_mem_set hx with hx | hx
      · exact h x hx
      · omega
    · exact h
theorem mnI_lt {r : List Int} (h : 0 < r.length) : mnI r < r.length := by
  have : ∀ l : List Int, l ≠ [] → ∃ m ∈ l, ∀ z ∈ l, m ≤ z := by
    intro l
    induction l with
    | nil => intro h; exact (h rfl).elim
    | cons x l ih =>
      intro _
      by_cases hl : l = []
      · subst hl
        exact ⟨x, by simp, by simp⟩
      · obtain ⟨m, hm, hz⟩ := ih hl
        by_cases hx : x ≤ m
        · refine ⟨x, by simp, fun z hz' => ?_⟩
          rcases List.mem_cons.mp hz' with e | e
          · omega
          · have := hz z e; omega
        · refine ⟨m, by simp [hm], fun z hz' => ?_⟩
          rcases List.mem_cons.mp hz' with e | e
          · omega
          · exact hz z e
  obtain ⟨m, hm, hz⟩ := this r (by intro e; subst e; simp at h)
  rw [mnI_eq hm hz]
  exact ixi_lt hm
theorem CWf.fp (wf : CWf d c) (h : n < c.S) : fpV c n < c.W := by
  have h0 := wf.w0
  unfold fpV
  split
  · rename_i hm
    have := ixo_lt hm
    rw [wf.rowL h] at this
    exact this
  · split
    · have := ptGo_b (wf.pt01 h) (wf.ptL h) c.W 1 (by omega) (by omega) (by omega)
      unfold ptV
      omega
    · have := mnI_lt (r := tmv c n) (by rw [wf.tmL h]; exact h0)
      rw [wf.tmL h] at this
      exact this
theorem CWf.pl_ (wf : CWf d c) : plO c x < c.W := by
  have h := (wf.nm x).1
  unfold plO
  split
  · rename_i hm
    have := ixo_lt hm
    rw [wf.rowL h] at this
    exact this
  · exact wf.fp h
theorem CWf.tc (wf : CWf d c) : CWf d (tcV c x) := by
  have h := (wf.nm x).1
  refine ⟨wf.s0, wf.s1, wf.w0, wf.w1, wf.z0, wf.z1, wf.la, wf.lb, wf.lg, ?_, ?_, ?_, ?_, ?_, ?_⟩
  · show (if _ then _ else _ : List (List (Option Int))).length = c.S
    split
    · exact wf.lp
    · rw [List.length_set]; exact wf.lp
  · show (if _ then _ else _ : List (List Int)).length = c.S
    split
    · rw [List.length_set]; exact wf.lt
    · exact wf.lt
  · show (if _ then _ else _ : List (List Int)).length = c.S
    split
    · rw [List.length_set]; exact wf.lq
    · exact wf.lq
  · intro r hr
    have hr' : r ∈ (if hitV c x then c.pl else c.pl.set (nmO c x) ((row c (nmO c x)).set (plO c x) (some (lnO c x)))) := hr
    split at hr'
    · exact wf.rp r hr'
    · rcases List.mem_or_eq_of_mem_set hr' with e | e
      · exact wf.rp r e
      · rw [e, List.length_set]; exact wf.rowL h
  · intro r hr
    have hr' : r ∈ (if ¬ hitV c x ∨ c.P = "lru" then c.tm.set (nmO c x) ((tmv c (nmO c x)).set (plO c x) (c.t + 1)) else c.tm) := hr
    split at hr'
    · rcases List.mem_or_eq_of_mem_set hr' with e | e
      · exact wf.rt r e
      · rw [e, List.length_set]; exact wf.tmL h
    · exact wf.rt r hr'
  · intro r hr
    have hr' : r ∈ (if c.P = "plru" then c.pt.set (nmO c x) (tnV (ptv c (nmO c x)) c.W (plO c x)) else c.pt) := hr
    split at hr'
    · rcases List.mem_or_eq_of_mem_set hr' with e | e
      · exact wf.rq r e
      · rw [e]
        exact ⟨tnGo_len.trans (wf.ptL h), tnGo_01 (wf.pt01 h)⟩
    · exact wf.rq r hr'
theorem CWf.dp (wf : CWf d c) : CWf d (dpV c x) := by
  have h := (wf.nm x).1
  refine ⟨wf.s0, wf.s1, wf.w0, wf.w1, wf.z0, wf.z1, wf.la, wf.lb, wf.lg, ?_, wf.lt, wf.lq, ?_, wf.rt, wf.rq⟩
  · show (if _ then _ else _ : List (List (Option Int))).length = c.S
    split
    · rw [List.length_set]; exact wf.lp
    · exact wf.lp
  · intro r hr
    have hr' : r ∈ (if hitV c x then c.pl.set (nmO c x) ((row c (nmO c x)).set (ixo (some (lnO c x)) (row c (nmO c x))) none) else c.pl) := hr
    split at hr'
    · rcases List.mem_or_eq_of_mem_set hr' with e | e
      · exact wf.rp r e
      · rw [e, List.length_set]; exact wf.rowL h
    · exact wf.rp r hr'
end
/-! where a cache's objects stand -/
def CaA (d : CAd) : List Addr := [d.p, d.A, d.B, d.G] ++ (d.as ++ (d.bs ++ (d.gs ++ [])))
theorem ca_fst {K : PySem.W.Frag} {d : CAd} {c : CSt} (wf : CWf d c) : (CaL K d c).map (·.1) = CaA d := by
  unfold CaL CaA caF
  rw [List.map_append, List.map_append, List.map_append, List.map_append, tab_fst (by rw [wf.la, List.length_map, wf.lp]), tab_fst (by rw [wf.lb, List.length_map, wf.lt]), tab_fst (by rw [wf.lg, List.length_map, wf.lq])]
  rfl
theorem caA_p {d : CAd} : d.p ∈ CaA d := by simp [CaA]
theorem caA_a {d : CAd} {n : Nat} {a : Addr} (h : d.as[n]? = some a) : a ∈ CaA d := by have := List.mem_of_getElem? h; simp [CaA, this]
theorem caA_b {d : CAd} {n : Nat} {a : Addr} (h : d.bs[n]? = some a) : a ∈ CaA d := by have := List.mem_of_getElem? h; simp [CaA, this]
theorem caA_g {d : CAd} {n : Nat} {a : Addr} (h : d.gs[n]? = some a) : a ∈ CaA d := by have := List.mem_of_getElem? h; simp [CaA, this]
def sp_Cache_places (K : PySem.W.Frag) : Sp := fun vs H Q _ => ∃ (d : CAd) (c : CSt) (n : Nat), vs = [.ref d.p, .int n] ∧ Has H (CaL K d c) ∧ CWf d c ∧ n < c.S ∧ ∀ p H', Same H H' → H' p = some (.tup ((row c n).map ovV)) → Q (.ref p) H'
theorem sc_Cache_places : FnScope ["self", "number"] ["self", "number"] (defScope (inClass (topS 2) 2)) := ⟨rfl, rfl, rfl, by decide +kernel, rfl, by decide +kernel, by decide +kernel⟩
theorem mt_Cache_places (T : Txt fa fn K mg) : Mt P w K mg base CX0 1 "Cache" "places" ["self", "number"] (sp_Cache_places K) := by
  refine mk_mt (d := mOf "Cache" "places" "Cache.places" (inClass (topS 2) 2)) T 10 rfl rfl rfl rfl sc_Cache_places (by walk_at "len") (fun _ _ _ _ _ _ us hl => match us, hl with | [_, _], _ => rfl) (fun cdv A outer s H vs Q E hr h => ⟨_, (pss_one (ps_ret (pe_callTy (c_tuple (K := K) rfl) rfl (T.free 33 rfl) (by decide +kernel) (pa_cons (pe_ixU (K := K) rfl (hu_of hr) (pe_fldU (K := K) rfl (pv 0) rfl) (pv 1)) pa_nil)))), ?_⟩)
  obtain ⟨d, c, n, rfl, M, wf, hn, hQ⟩ := h
  obtain ⟨a, ha, ha2⟩ := ref_at (as := d.as) (n := n) (by rw [wf.la]; exact hn)
  have hr := ca_pl M ha (getD_some (d := []) (by rw [wf.lp]; exact hn))
  walk_at "go"
  refine g_ixL (SqL.of (M.get 1 rfl)) rfl ha2 ?_
  walk_at "go"
  exact ⟨_, rfl, .inl ⟨a, _, rfl, SqL.of hr, fun p hp => hQ p _ (Same.new hp) upd_same⟩⟩

def sp_Cache_pointed_place (K : PySem.W.Frag) : Sp := fun vs H Q _ => ∃ (d : CAd) (c : CSt) (n : Nat), vs = [.ref d.p, .int n] ∧ Has H (CaL K d c) ∧ CWf d c ∧ n < c.S ∧ Q (.int (ptV (ptv c n) c.W : Nat)) H
theorem sc_Cache_pointed_place : FnScope ["self", "number", "pointers", "node"] ["self", "number"] (defScope (inClass (topS 2) 5)) := ⟨rfl, rfl, rfl, by decide +kernel, rfl, by decide +kernel, by decide +kernel⟩
theorem mt_Cache_pointed_place (T : Txt fa fn K mg) : Mt P w K mg base CX0 1 "Cache" "pointed_place" ["self", "number"] (sp_Cache_pointed_place K) := by
  refine mk_mt (d := mOf "Cache" "pointed_place" "Cache.pointed_place" (inClass (topS 2) 5)) T 13 rfl rfl rfl rfl sc_Cache_pointed_place (by walk_at "len") (fun _ _ _ _ _ _ us hl => match us, hl with | [_, _], _ => rfl) (fun cdv A outer s H vs Q E hr h => ⟨_, (pss_cons (ps_set (i := 2) sc_Cache_pointed_place.nd rfl (.inl rfl) (pe_ixU (K := K) rfl (hu_of hr) (pe_fldU (K := K) rfl (pv 0) rfl) (pv 1)))
      (pss_cons (ps_set (i := 3) sc_Cache_pointed_place.nd rfl (.inl rfl) pe_int)
      (pss_cons (ps_while PassesOwn.never (pt_cmpR o_lt (pv 3) (pe_fldU (K := K) rfl (pv 0) rfl) (nomark _)) (pss_one (ps_set (i := 3) sc_Cache_pointed_place.nd rfl (.inl rfl) (pe_op (op_addU (K := K) rfl) (pe_op op_mulU pe_int (pv 3)) (pe_ixU (K := K) rfl (hu_of hr) (pv 2) (pv 3))))))
      (pss_one (ps_ret (pe_op op_sub (pv 3) (pe_fldU (K := K) rfl (pv 0) rfl))))))), ?_⟩)
  obtain ⟨d, c, n, rfl, M, wf, hn, hQ⟩ := h
  obtain ⟨a, ha, ha2⟩ := ref_at (as := d.gs) (n := n) (by rw [wf.lg]; exact hn)
  have hr := ca_pt M ha (getD_some (d := []) (by rw [wf.lq]; exact hn))
  have hw := wf.w0
  have hw1 := wf.w1
  walk_at "go"
  refine g_ixL (SqL.of (M.get 3 rfl)) rfl ha2 ?_
  walk_at "go"
  refine ⟨fun m σ H' => ∃ node : Nat, σ = [some (.ref d.p), some (.int n), some (.ref a), some (.int node)] ∧ H' = H ∧ m = c.W - node ∧ 1 ≤ node ∧ node < 2 * c.W ∧ ptGo (ptv c n) c.W c.W node = ptGo (ptv c n) c.W c.W 1, ⟨_, 1, rfl, rfl, rfl, by omega, by omega, rfl⟩, ?_⟩
  rintro m σ H' ⟨node, rfl, rfl, rfl, h1, h2, h3⟩
  walk_at "go"
  refine g_if (fun h => ?_) (fun h => ?_)
  · refine g_whileT ?_
    have hl : node < c.W := by omega
    have z := pt_at (ptv c n) (wf.pt01 hn) (m := node) (by rw [wf.ptL hn]; exact hl)
    walk_at "go"
    refine g_ixL (SqL.of hr) rfl (v := .int (((ptv c n).getD node 0).toNat : Nat)) (by rw [List.getElem?_map]; exact congrArg _ z.1) ?_
    walk_at "go"
    refine ⟨_, ?_, 2 * node + ((ptv c n).getD node 0).toNat, ?_, rfl, rfl, by omega, by have := z.2; omega, ?_⟩
    · have := z.2; omega
    · rw [show (2 : Int) * (node : Int) + (((ptv c n).getD node 0).toNat : Int) = ((2 * node + ((ptv c n).getD node 0).toNat : Nat) : Int) by omega]
      rfl
    · rw [← ptGo_step h1 hl]
      exact h3
  · walk_at "go"
    have e : ptGo (ptv c n) c.W c.W 1 = node := by rw [← h3, ptGo_end (by omega)]
    have : ((node : Int) - (c.W : Int)) = ((ptV (ptv c n) c.W : Nat) : Int) := by unfold ptV; rw [e]; omega
    rw [this]
    exact hQ

def sp_Cache_turn_away (K : PySem.W.Frag) : Sp := fun vs H Q _ => ∃ (d : CAd) (c : CSt) (n place : Nat), vs = [.ref d.p, .int n, .int place] ∧ Has H (CaL K d c) ∧ CWf d c ∧ n < c.S ∧ place < c.W ∧
  ∀ H', Keep (CaA d) H H' → Has H' (CaL K d { c with pt := c.pt.set n (tnV (ptv c n) c.W place) }) → Q .non H'
theorem sc_Cache_turn_away : FnScope ["self", "number", "place", "pointers", "node"] ["self", "number", "place"] (defScope (inClass (topS 2) 6)) := ⟨rfl, rfl, rfl, by decide +kernel, rfl, by decide +kernel, by decide +kernel⟩
theorem mt_Cache_turn_away (T : Txt fa fn K mg) : Mt P w K mg base CX0 1 "Cache" "turn_away" ["self", "number", "place"] (sp_Cache_turn_away K) := by
  refine mk_mt (d := mOf "Cache" "turn_away" "Cache.turn_away" (inClass (topS 2) 6)) T 14 rfl rfl rfl rfl sc_Cache_turn_away (by walk_at "len") (fun _ _ _ _ _ _ us hl => match us, hl with | [_, _, _], _ => rfl) (fun cdv A outer s H vs Q E hr h => ⟨_, (pss_cons (ps_set (i := 3) sc_Cache_turn_away.nd rfl (.inl rfl) (pe_ixU (K := K) rfl (hu_of hr) (pe_fldU (K := K) rfl (pv 0) rfl) (pv 1)))
      (pss_cons (ps_set (i := 4) sc_Cache_turn_away.nd rfl (.inl rfl) (pe_op (op_addU (K := K) rfl) (pv 2) (pe_fldU (K := K) rfl (pv 0) rfl)))
      (pss_one (ps_while PassesOwn.never (pt_cmpR o_gt (pv 4) pe_int (nomark _)) (pss_cons (ps_asg (pe_op op_sub pe_int (pe_op o_mod (pv 4) pe_int)) (pg_sub (pv 3) (pe_op o_fdiv (pv 4) pe_int) (set_U (hu_of hr))))
      (pss_one (ps_aug (i := 4) sc_Cache_turn_away.nd rfl (.inl rfl) pe_int io_fdiv))))))), ?_⟩)
  obtain ⟨d, c, n, place, rfl, M, wf, hn, hpl, hQ⟩ := h
  obtain ⟨a, ha, ha2⟩ := ref_at (as := d.gs) (n := n) (by rw [wf.lg]; exact hn)
  have hw := wf.w0
  have hw1 := wf.w1
  have hq : n < c.pt.length := by rw [wf.lq]; exact hn
  walk_at "go"
  refine g_ixL (SqL.of (M.get 3 rfl)) rfl ha2 ?_
  walk_at "go"
  refine ⟨fun m σ H' => ∃ (node : Nat) (r : List Int), σ = [some (.ref d.p), some (.int n), some (.int place), some (.ref a), some (.int node)] ∧ Keep (CaA d) H H' ∧ Has H' (CaL K d { c with pt := c.pt.set n r }) ∧ r.length = c.W ∧ m = node ∧ node ≤ place + c.W ∧ node < 2 * c.W ∧ tnGo (place + c.W) node r = tnV (ptv c n) c.W place,
    ⟨_, place + c.W, ptv c n, rfl, Keep.refl, ?_, wf.ptL hn, rfl, Nat.le_refl _, by omega, rfl⟩, ?_⟩
  · have e : c.pt.set n (ptv c n) = c.pt := by
      apply List.ext_getElem?
      intro j
      rw [List.getElem?_set]
      split
      · rename_i e; subst e
        exact (getD_some hq).symm
      · rfl
    rw [e]
    exact M
  rintro m σ H' ⟨node, r, rfl, kp, M', hr, hm, h1, h2, h3⟩
  walk_at "go"
  refine g_if (fun h => ?_) (fun h => ?_)
  · refine g_whileT ?_
    have hl : 1 < node := by omega
    walk_at "go"
    have hrow := ca_pt M' ha (r := r) (by
      show (c.pt.set n r)[n]? = some r
      rw [List.getElem?_set, if_pos rfl, if_pos hq])
    refine .inl ⟨a, r.map V.int, _, node / 2, rfl, rfl, hrow, ?_, ?_⟩
    · unfold ixN
      rw [List.length_map, if_pos (by omega), if_pos (by omega)]
      congr 1
    have M2 := ca_pt_set (r' := r.set (node / 2) (1 - (node : Int) % 2)) M' ha (r := r) (by
      show (c.pt.set n r)[n]? = some r
      rw [List.getElem?_set, if_pos rfl, if_pos hq])
    rw [List.map_set] at M2
    have e2 : ({ { c with pt := c.pt.set n r } with pt := ({ c with pt := c.pt.set n r } : CSt).pt.set n (r.set (node / 2) (1 - (node : Int) % 2)) } : CSt) = { c with pt := c.pt.set n (r.set (node / 2) (1 - (node : Int) % 2)) } := by
      simp [List.set_set]
    rw [e2] at M2
    walk_at "go"
    refine ⟨node / 2, by omega, node / 2, r.set (node / 2) (1 - (node : Int) % 2), rfl, kp.trans (Keep.set (caA_g ha)), M2, by rw [List.length_set]; exact hr, rfl, by omega, by omega, ?_⟩
    rw [← tnGo_step hl h1]
    exact h3
  · walk_at "go"
    have e : r = tnV (ptv c n) c.W place := by rw [← h3, tnGo_end (by omega)]
    rw [← e] at hQ
    exact hQ H' kp M'

def sp_Cache_free_place (K : PySem.W.Frag) : Sp := fun vs H Q _ => ∃ (d : CAd) (c : CSt) (n : Nat), vs = [.ref d.p, .int n] ∧ Has H (CaL K d c) ∧ CWf d c ∧ n < c.S ∧ Q (.int (fpV c n : Nat)) H
theorem sc_Cache_free_place : FnScope ["self", "number", "row", "times"] ["self", "number"] (defScope (inClass (topS 2) 4)) := ⟨rfl, rfl, rfl, by decide +kernel, rfl, by decide +kernel, by decide +kernel⟩
theorem mt_Cache_free_place (T : Txt fa fn K mg) : Mt P w K mg base CX0 2 "Cache" "free_place" ["self", "number"] (sp_Cache_free_place K) := by
  refine mk_mt (d := mOf "Cache" "free_place" "Cache.free_place" (inClass (topS 2) 4)) T 12 rfl rfl rfl rfl sc_Cache_free_place (by walk_at "len") (fun _ _ _ _ _ _ us hl => match us, hl with | [_, _], _ => rfl) (fun cdv A outer s H vs Q E hr h => ⟨_, (pss_cons (ps_set (i := 2) sc_Cache_free_place.nd rfl (.inl rfl) (pe_ixU (K := K) rfl (hu_of hr) (pe_fldU (K := K) rfl (pv 0) rfl) (pv 1)))
      (pss_cons (ps_if (pt_cmpR (op_inU (K := K) rfl (hu65 hr)) pe_non (pv 2) (by rfl)) (pss_one (ps_ret (pe_bm PySem.F.plainAttrs_list PySem.F.slot_list_index PySem.F.type_list_index (m_index (K := K) rfl) (pv 2) (pa_cons pe_non pa_nil)))) pss_nil)
      (pss_cons (ps_if (pt_cmpR (op_eqU (K := K) rfl hr.units) (pe_fldU (K := K) rfl (pv 0) rfl) pe_str (nomark _)) (pss_one (ps_ret (pe_methD (K := K) rfl (mt_Cache_pointed_place T) (cl_Cache T) (T.meth 15 rfl) (hr.mono (by decide)) pass0 (pv 0) (pa_cons (pv 1) pa_nil)))) pss_nil)
      (pss_cons (ps_set (i := 3) sc_Cache_free_place.nd rfl (.inl rfl) (pe_ixU (K := K) rfl (hu_of hr) (pe_fldU (K := K) rfl (pv 0) rfl) (pv 1)))
      (pss_one (ps_ret (pe_bm PySem.F.plainAttrs_list PySem.F.slot_list_index PySem.F.type_list_index (m_index (K := K) rfl) (pv 3) (pa_cons (pe_callB (c_min1 (K := K) rfl rfl) rfl (T.free 30 rfl) (by decide +kernel) (pa_cons (pv 3) pa_nil)) pa_nil)))))))), ?_⟩)
  obtain ⟨d, c, n, rfl, M, wf, hn, hQ⟩ := h
  obtain ⟨a, ha, ha2⟩ := ref_at (as := d.as) (n := n) (by rw [wf.la]; exact hn)
  have hr := ca_pl M ha (getD_some (d := []) (by rw [wf.lp]; exact hn))
  obtain ⟨b, hb, hb2⟩ := ref_at (as := d.bs) (n := n) (by rw [wf.lb]; exact hn)
  have ht := ca_tm M hb (getD_some (d := []) (by rw [wf.lt]; exact hn))
  unfold fpV at hQ
  walk_at "go"
  refine g_ixL (SqL.of (M.get 1 rfl)) rfl ha2 ?_
  walk_at "go"
  refine g_inO (x := none) rfl hr ?_
  walk_at "go"
  refine g_if (fun h => ?_) (fun h => ?_)
  · have h' : none ∈ row c n := h
    rw [if_pos h'] at hQ
    walk_at "go"
    exact g_indexO (x := none) rfl hr h hQ
  · have h' : ¬ none ∈ row c n := h
    rw [if_neg h'] at hQ
    walk_at "go"
    refine g_if (fun h2 => ?_) (fun h2 => ?_)
    · rw [if_pos h2] at hQ
      walk_at "go"
      exact ⟨d, c, n, rfl, M, wf, hn, hQ⟩
    · rw [if_neg h2] at hQ
      walk_at "go"
      refine g_ixL (SqL.of (M.get 2 rfl)) rfl hb2 ?_
      walk_at "go"
      refine g_min1 (SqL.of ht) (by have := wf.tmL hn; have := wf.w0; show 0 < (tmv c n).length; omega) fun m hm hle => ?_
      walk_at "go"
      refine g_indexI (SqL.of ht) hm ?_
      have e := mnI_eq hm hle
      rw [← e]
      exact hQ

def sp_Cache_touch (K : PySem.W.Frag) : Sp := fun vs H Q _ => ∃ (d : CAd) (c : CSt) (x : Int), vs = [.ref d.p, .int x] ∧ Has H (CaL K d c) ∧ CWf d c ∧
  ∀ H', Keep (CaA d) H H' → Has H' (CaL K d (tcV c x)) → Q (.bl (decide (hitV c x))) H'
def sp_Cache_drop (K : PySem.W.Frag) : Sp := fun vs H Q _ => ∃ (d : CAd) (c : CSt) (x : Int), vs = [.ref d.p, .int x] ∧ Has H (CaL K d c) ∧ CWf d c ∧
  ∀ H', Keep (CaA d) H H' → Has H' (CaL K d (dpV c x)) → Q (.bl (decide (hitV c x))) H'
theorem sc_Cache_drop : FnScope ["self", "address", "line", "row"] ["self", "address"] (defScope (inClass (topS 2) 7)) := ⟨rfl, rfl, rfl, by decide +kernel, rfl, by decide +kernel, by decide +kernel⟩
theorem mt_Cache_drop (T : Txt fa fn K mg) : Mt P w K mg base CX0 1 "Cache" "drop" ["self", "address"] (sp_Cache_drop K) := by
  refine mk_mt (d := mOf "Cache" "drop" "Cache.drop" (inClass (topS 2) 7)) T 15 rfl rfl rfl rfl sc_Cache_drop (by walk_at "len") (fun _ _ _ _ _ _ us hl => match us, hl with | [_, _], _ => rfl) (fun cdv A outer s H vs Q E hr h => ⟨_, (pss_cons (ps_set (i := 2) sc_Cache_drop.nd rfl (.inl rfl) (pe_op o_fdiv (pv 1) (pe_fldU (K := K) rfl (pv 0) rfl)))
      (pss_cons (ps_set (i := 3) sc_Cache_drop.nd rfl (.inl rfl) (pe_ixU (K := K) rfl (hu_of hr) (pe_fldU (K := K) rfl (pv 0) rfl) (pe_op o_mod (pv 2) (pe_fldU (K := K) rfl (pv 0) rfl))))
      (pss_cons (ps_if (pt_cmpR (op_niU (K := K) rfl (hu65 hr)) (pv 2) (pv 3) (by rfl)) (pss_one (ps_ret pe_bl)) pss_nil)
      (pss_cons (ps_asg pe_non (pg_sub (pv 3) (pe_bm PySem.F.plainAttrs_list PySem.F.slot_list_index PySem.F.type_list_index (m_index (K := K) rfl) (pv 3) (pa_cons (pv 2) pa_nil)) (set_U (hu_of hr))))
      (pss_one (ps_ret pe_bl)))))), ?_⟩)
  obtain ⟨d, c, x, rfl, M, wf, hQ⟩ := h
  obtain ⟨hn, hne⟩ := wf.nm x
  obtain ⟨a, ha, ha2⟩ := ref_at (as := d.as) (n := nmO c x) (by rw [wf.la]; exact hn)
  have hp := getD_some (l := c.pl) (n := nmO c x) (d := []) (by rw [wf.lp]; exact hn)
  have hr := ca_pl M ha hp
  have z0 := wf.z0
  have z1 := wf.z1
  have s0 := wf.s0
  have s1 := wf.s1
  walk_at "go"
  refine g_ixL (SqL.of (M.get 1 rfl)) (n := nmO c x) hne ha2 ?_
  walk_at "go"
  refine g_inO (x := some (lnO c x)) rfl hr ?_
  walk_at "go"
  refine g_ifN (fun h => ?_) (fun h => ?_)
  · walk_at "go"
    have h' : ¬ hitV c x := h
    have e : dpV c x = c := by unfold dpV; rw [if_neg h']
    rw [decide_eq_false h', e] at hQ
    exact hQ H Keep.refl M
  · have h' : hitV c x := h
    walk_at "go"
    refine g_indexO (x := some (lnO c x)) rfl hr h ?_
    walk_at "go"
    refine .inl ⟨a, _, _, ixo (some (lnO c x)) (row c (nmO c x)), rfl, rfl, hr, ?_, ?_⟩
    · unfold ixN
      have : ixo (some (lnO c x)) (c.pl.getD (nmO c x) []) < (c.pl.getD (nmO c x) []).length := ixo_lt h'
      rw [List.length_map, if_pos (by omega), if_pos (by omega)]
      rfl
    · have M2 := ca_pl_set (r' := (row c (nmO c x)).set (ixo (some (lnO c x)) (row c (nmO c x))) none) M ha hp
      rw [List.map_set] at M2
      walk_at "go"
      have e : dpV c x = { c with pl := c.pl.set (nmO c x) ((row c (nmO c x)).set (ixo (some (lnO c x)) (row c (nmO c x))) none) } := by unfold dpV; rw [if_pos h']
      rw [decide_eq_true h', e] at hQ
      exact hQ _ (Keep.set (caA_a ha)) M2

theorem sc_Cache_touch : FnScope ["self", "address", "line", "number", "row", "hit", "place"] ["self", "address"] (defScope (inClass (topS 2) 3)) := ⟨rfl, rfl, rfl, by decide +kernel, rfl, by decide +kernel, by decide +kernel⟩
theorem mt_Cache_touch (T : Txt fa fn K mg) : Mt P w K mg base CX0 3 "Cache" "touch" ["self", "address"] (sp_Cache_touch K) := by
  refine mk_mt (d := mOf "Cache" "touch" "Cache.touch" (inClass (topS 2) 3)) T 11 rfl rfl rfl rfl sc_Cache_touch (by walk_at "len") (fun _ _ _ _ _ _ us hl => match us, hl with | [_, _], _ => rfl) (fun cdv A outer s H vs Q E hr h => ⟨_, (pss_cons (ps_set (i := 2) sc_Cache_touch.nd rfl (.inl rfl) (pe_op o_fdiv (pv 1) (pe_fldU (K := K) rfl (pv 0) rfl)))
      (pss_cons (ps_set (i := 3) sc_Cache_touch.nd rfl (.inl rfl) (pe_op o_mod (pv 2) (pe_fldU (K := K) rfl (pv 0) rfl)))
      (pss_cons (ps_set (i := 4) sc_Cache_touch.nd rfl (.inl rfl) (pe_ixU (K := K) rfl (hu_of hr) (pe_fldU (K := K) rfl (pv 0) rfl) (pv 3)))
      (pss_cons (ps_fldaug (pv 0) pe_int in_add)
      (pss_cons (ps_set (i := 5) sc_Cache_touch.nd rfl (.inl rfl) (pe_cmpR (op_inU (K := K) rfl (hu65 hr)) (pv 2) (pv 4) (by rfl)))
      (pss_cons (ps_join (ps_if (pt_tru (K := K) rfl (pv 5)) (pss_one (ps_set (i := 6) sc_Cache_touch.nd rfl (.inl rfl) (pe_bm PySem.F.plainAttrs_list PySem.F.slot_list_index PySem.F.type_list_index (m_index (K := K) rfl) (pv 4) (pa_cons (pv 2) pa_nil)))) (pss_cons (ps_set (i := 6) sc_Cache_touch.nd rfl (.inl rfl) (pe_methD (K := K) rfl (mt_Cache_free_place T) (cl_Cache T) (T.meth 14 rfl) (hr.mono (by decide)) pass0 (pv 0) (pa_cons (pv 3) pa_nil)))
      (pss_one (ps_asg (pv 2) (pg_sub (pv 4) (pv 6) (set_U (hu_of hr))))))))
      (pss_cons (ps_join (ps_if (PW.pt (pw_or (pt_not (pt_tru (K := K) rfl (pv 5))) (pw_or1 (pt_cmpR (op_eqU (K := K) rfl hr.units) (pe_fldU (K := K) rfl (pv 0) rfl) pe_str (nomark _))))) (pss_one (ps_asg (pe_fldU (K := K) rfl (pv 0) rfl) (pg_sub (pe_ixU (K := K) rfl (hu_of hr) (pe_fldU (K := K) rfl (pv 0) rfl) (pv 3)) (pv 6) (set_U (hu_of hr))))) pss_nil))
      (pss_cons (ps_if (pt_cmpR (op_eqU (K := K) rfl hr.units) (pe_fldU (K := K) rfl (pv 0) rfl) pe_str (nomark _)) (pss_one (ps_expr (pe_methD (K := K) rfl (mt_Cache_turn_away T) (cl_Cache T) (T.meth 16 rfl) (hr.mono (by decide)) pass0 (pv 0) (pa_cons (pv 3) (pa_cons (pv 6) pa_nil))))) pss_nil)
      (pss_one (ps_ret (pv 5))))))))))), ?_⟩)
  obtain ⟨d, c, x, rfl, M, wf, hQ⟩ := h
  obtain ⟨hn, hne⟩ := wf.nm x
  obtain ⟨a, ha, ha2⟩ := ref_at (as := d.as) (n := nmO c x) (by rw [wf.la]; exact hn)
  obtain ⟨b, hb, hb2⟩ := ref_at (as := d.bs) (n := nmO c x) (by rw [wf.lb]; exact hn)
  have hp := getD_some (l := c.pl) (n := nmO c x) (d := []) (by rw [wf.lp]; exact hn)
  have htm := getD_some (l := c.tm) (n := nmO c x) (d := []) (by rw [wf.lt]; exact hn)
  have z0 := wf.z0
  have z1 := wf.z1
  have s0 := wf.s0
  have s1 := wf.s1
  walk_at "go"
  refine g_ixL (SqL.of (M.get 1 rfl)) (n := nmO c x) hne ha2 ?_
  walk_at "go"
  refine g_fldaug ?_
  walk_at "go"
  refine g_fa1 (j := 1) M 0 rfl (cl_Cache T) (na_Cache__time T) (lk_ix 7 nd_Cache rfl) ⟨rfl, rfl⟩ (by show 8 < 1000; decide) (pt_ix 7 nd_Cache rfl) (k := fun M1 => ?_)
  have M1 : Has _ (CaL K d { c with t := c.t + 1 }) := M1
  have wf1 : CWf d { c with t := c.t + 1 } := ⟨wf.s0, wf.s1, wf.w0, wf.w1, wf.z0, wf.z1, wf.la, wf.lb, wf.lg, wf.lp, wf.lt, wf.lq, wf.rp, wf.rt, wf.rq⟩
  have k1 : Keep (CaA d) H (upd H d.p (caO K d { c with t := c.t + 1 })) := Keep.set caA_p
  have hr := ca_pl M1 ha hp
  walk_at "go"
  refine g_inO (x := some (lnO c x)) rfl hr ?_
  walk_at "go"
  have hpl := wf.pl_ (x := x)
  refine ⟨fun σ' H' => σ' = [some (.ref d.p), some (.int x), some (.int (lnO c x)), some (.int (nmO c x)), some (.ref a), some (.bl (decide (hitV c x))), some (.int (plO c x : Nat))] ∧ Keep (CaA d) H H' ∧ Has H' (CaL K d { c with t := c.t + 1, pl := (tcV c x).pl }), ?_, ?_⟩
  · walk_at "go"
    refine g_if (fun h => ?_) (fun h => ?_)
    · have h' : hitV c x := h
      walk_at "go"
      refine g_indexO (x := some (lnO c x)) rfl hr h ?_
      walk_at "go"
      refine ⟨?_, k1, ?_⟩
      · unfold plO
        rw [if_pos h', ← hne]
        rfl
      · unfold tcV
        rw [if_pos h']
        exact M1
    · have h' : ¬ hitV c x := h
      walk_at "go"
      refine ⟨d, { c with t := c.t + 1 }, nmO c x, by rw [← hne]; rfl, M1, wf1, hn, ?_⟩
      walk_at "go"
      have e : plO c x = fpV c (nmO c x) := by unfold plO; rw [if_neg h']
      refine .inl ⟨a, _, _, plO c x, rfl, rfl, hr, ?_, ?_⟩
      · have hl : (c.pl.getD (nmO c x) []).length = c.W := wf.rowL hn
        have e2 : fpV { c with t := c.t + 1 } (nmO c x) = plO c x := by rw [e]; rfl
        unfold ixN
        rw [e2, List.length_map, if_pos (by omega), if_pos (by omega)]
        rfl
      · have M2 := ca_pl_set (r' := (row c (nmO c x)).set (plO c x) (some (lnO c x))) M1 ha hp
        rw [List.map_set] at M2
        walk_at "go"
        refine ⟨?_, k1.trans (Keep.set (caA_a ha)), ?_⟩
        · rw [e, ← hne]
          rfl
        · unfold tcV
          rw [if_neg h']
          exact M2
  rintro σ' H' ⟨rfl, k2, M2⟩
  walk_at "go"
  refine ⟨fun σ' H' => σ' = [some (.ref d.p), some (.int x), some (.int (lnO c x)), some (.int (nmO c x)), some (.ref a), some (.bl (decide (hitV c x))), some (.int (plO c x : Nat))] ∧ Keep (CaA d) H H' ∧ Has H' (CaL K d { c with t := c.t + 1, pl := (tcV c x).pl, tm := (tcV c x).tm }), ?_, ?_⟩
  · have yes : (¬ hitV c x ∨ c.P = "lru") → ∀ R : Hp → Prop, (∀ H'', Keep (CaA d) H H'' → Has H'' (CaL K d { c with t := c.t + 1, pl := (tcV c x).pl, tm := (tcV c x).tm }) → R H'') → rSetU (.ref b) (.int (plO c x : Nat)) (.int (c.t + 1)) H' R := by
      intro hy R hR
      have ht := ca_tm M2 hb htm
      refine .inl ⟨b, _, _, plO c x, rfl, rfl, ht, ?_, ?_⟩
      · have hl : (c.tm.getD (nmO c x) []).length = c.W := wf.tmL hn
        unfold ixN
        rw [List.length_map, if_pos (by omega), if_pos (by omega)]
        rfl
      · have M3 := ca_tm_set (r' := (tmv c (nmO c x)).set (plO c x) (c.t + 1)) M2 hb htm
        rw [List.map_set] at M3
        refine hR _ (k2.trans (Keep.set (caA_b hb))) ?_
        have e : (tcV c x).tm = c.tm.set (nmO c x) ((tmv c (nmO c x)).set (plO c x) (c.t + 1)) := by unfold tcV; exact if_pos hy
        rw [e]
        exact M3
    have no : ¬ (¬ hitV c x ∨ c.P = "lru") → Has H' (CaL K d { c with t := c.t + 1, pl := (tcV c x).pl, tm := (tcV c x).tm }) := by
      intro hy
      have e : (tcV c x).tm = c.tm := by unfold tcV; exact if_neg hy
      rw [e]
      exact M2
    walk_at "go"
    refine g_ifN (fun h => ?_) (fun h => ?_)
    · walk_at "go"
      refine g_ixL (SqL.of (M2.get 2 rfl)) (n := nmO c x) rfl hb2 ?_
      walk_at "go"
      refine yes (.inl h) _ fun H3 k3 M3 => ?_
      walk_at "go"
      exact ⟨rfl, k3, M3⟩
    · walk_at "go"
      refine g_if (fun h2 => ?_) (fun h2 => ?_)
      · walk_at "go"
        refine g_ixL (SqL.of (M2.get 2 rfl)) (n := nmO c x) rfl hb2 ?_
        walk_at "go"
        refine yes (.inr h2) _ fun H3 k3 M3 => ?_
        walk_at "go"
        exact ⟨rfl, k3, M3⟩
      · walk_at "go"
        exact ⟨rfl, k2, no (by rintro (h3 | h3); exact h3 h; exact h2 h3)⟩
  rintro σ' H' ⟨rfl, k3, M3⟩
  walk_at "go"
  have wf3 : CWf d { c with t := c.t + 1, pl := (tcV c x).pl, tm := (tcV c x).tm } := by
    have w := wf.tc (x := x)
    exact ⟨wf.s0, wf.s1, wf.w0, wf.w1, wf.z0, wf.z1, wf.la, wf.lb, wf.lg, w.lp, w.lt, wf.lq, w.rp, w.rt, wf.rq⟩
  refine g_if (fun h => ?_) (fun h => ?_)
  · walk_at "go"
    refine ⟨d, _, nmO c x, plO c x, rfl, M3, wf3, hn, hpl, fun H4 k4 M4 => ?_⟩
    walk_at "go"
    refine hQ H4 (k3.trans k4) ?_
    have e : (tcV c x).pt = c.pt.set (nmO c x) (tnV (ptv c (nmO c x)) c.W (plO c x)) := by unfold tcV; exact if_pos h
    have e2 : tcV c x = { c with t := c.t + 1, pl := (tcV c x).pl, tm := (tcV c x).tm, pt := (tcV c x).pt } := rfl
    rw [e2, e]
    exact M4
  · walk_at "go"
    refine hQ H' k3 ?_
    have e : (tcV c x).pt = c.pt := by unfold tcV; exact if_neg h
    have e2 : tcV c x = { c with t := c.t + 1, pl := (tcV c x).pl, tm := (tcV c x).tm, pt := (tcV c x).pt } := rfl
    rw [e2, e]
    exact M3
/-! a new cache -/
abbrev c0V (S W Z : Nat) (P : Str) : CSt := ⟨S, W, Z, P, List.replicate S (List.replicate W none), List.replicate S (List.replicate W 0), List.replicate S (List.replicate W 0), 0⟩
/-- a table in the making -/
abbrev mkL (L : List (Addr × HO)) (D : Addr) (as : List Addr) (r : List V) : List (Addr × HO) := L ++ ((D, .lst (as.map V.ref)) :: tab as (List.replicate as.length r))
theorem mk_snoc {H : Hp} {L : List (Addr × HO)} {D q : Addr} {as : List Addr} {r : List V} (M : Has H (mkL L D as r)) (hq : H q = none) : Has (upd (upd H q (.lst r)) D (.lst (as.map V.ref ++ [.ref q]))) (mkL L D (as ++ [q]) r) := by
  have M1 := M.new (o := .lst r) hq
  have e : mkL L D as r ++ [(q, .lst r)] = L ++ ((D, .lst (as.map V.ref)) :: tab (as ++ [q]) (List.replicate (as ++ [q]).length r)) := by
    rw [List.length_append, List.length_singleton, List.replicate_succ', tab_snoc (by simp)]
    simp [mkL]
  rw [e] at M1
  have h : (L ++ ((D, .lst (as.map V.ref)) :: tab (as ++ [q]) (List.replicate (as ++ [q]).length r)))[L.length]? = some (D, .lst (as.map V.ref)) := by
    rw [List.getElem?_append_right (Nat.le_refl _), Nat.sub_self]
    rfl
  have M2 := M1.set (o' := .lst (as.map V.ref ++ [.ref q])) L.length h
  rw [List.set_append_right _ _ (Nat.le_refl _), Nat.sub_self] at M2
  have e3 : (as ++ [q]).map V.ref = as.map V.ref ++ [.ref q] := by simp
  unfold mkL
  rw [e3]
  exact M2
theorem mk_at {H : Hp} {L : List (Addr × HO)} {D : Addr} {as : List Addr} {r : List V} (M : Has H (mkL L D as r)) : H D = some (.lst (as.map V.ref)) := M.get L.length (by
  rw [List.getElem?_append_right (Nat.le_refl _), Nat.sub_self]
  rfl)
theorem l_rows {σ : L2.St} {H : Hp} {L : List (Addr × HO)} {lo : Int} {n k j w : Nat} {v : V} {vs : List Nat} {Q : VK} (M : Has H L) (hn : n ≤ 1000) (hw : w ≤ 1000) (hσ : ∀ x : V, ((wipe σ vs).set k (some x))[j]? = some (some (.int w))) (hwp : ∀ x : V, wipe ((wipe σ vs).set k (some x)) vs = wipe σ vs)
    (q : ∀ D as H', H D = none → as.length = n → Same H H' → (∀ a ∈ as, H a = none) → Has H' (mkL L D as (List.replicate w v)) → Q (.ref D) H') : LcW (gName k) tYes (tOp rMulU (tLst (tCons (tC v) tNil)) (tVar j)) vs σ Q (Itr lo n) H := by
  refine l_range (fun D i H' => ∃ as, as.length = i ∧ Same H H' ∧ (∀ a ∈ as, H a = none) ∧ Has H' (mkL L D as (List.replicate w v))) (fun D hD => ⟨[], rfl, Same.new hD, (fun _ h => nomatch h), M.new hD⟩) ?_ ?_
  · rintro D hD i H' hi ⟨as, rfl, sm, hf, M'⟩
    refine g_name (g_wipe (hwp _) (g_yes (g_ifT (g_op (g_lst (g_consA (g_c (g_nilA ?_))))))))
    refine ⟨by show 1 ≤ sizeLine; decide, fun u hu => ?_⟩
    refine g_var (hσ _) ?_
    refine g_rep upd_same (by omega) (by omega) (fun p hp => ?_)
    rw [Int.toNat_natCast]
    have M1 : Has (upd H' u (.lst [v])) (mkL L D as (List.replicate w v)) := M'.keep (Same.new hu)
    have sm1 : Same H (upd H' u (.lst [v])) := Same.new' sm hu
    have hD1 := mk_at (M1.keep (Same.new (o := .lst (List.replicate w v)) hp))
    refine ⟨as.map V.ref, hD1, szl (by rw [List.length_map]; omega), as ++ [p], by simp, Same.mut (Same.new' sm1 hp) hD, fun a ha => ?_, mk_snoc M1 hp⟩
    rcases List.mem_append.mp ha with h | h
    · exact hf a h
    · rw [List.mem_singleton.mp h]
      exact sm1.free hp
  · rintro D hD H' ⟨as, ha, sm, hf, M'⟩
    exact q D as H' hD ha sm hf M'
theorem has_ca {K : PySem.W.Frag} {H : Hp} {c : CSt} {d : CAd} {r1 r2 r3 : List V} (M : Has H (mkL (mkL (mkL [(d.p, caO K d c)] d.A d.as r1) d.B d.bs r2) d.G d.gs r3)) (h1 : tab d.as (List.replicate d.as.length r1) = tab d.as (plR c)) (h2 : tab d.bs (List.replicate d.bs.length r2) = tab d.bs (tmR c)) (h3 : tab d.gs (List.replicate d.gs.length r3) = tab d.gs (ptR c)) : Has H (CaL K d c) := by
  unfold mkL at M
  rw [h1, h2, h3] at M
  refine M.perm ?_
  unfold CaL caF
  generalize tab d.as (plR c) = A
  generalize tab d.bs (tmR c) = B
  generalize tab d.gs (ptR c) = C
  rw [List.append_nil]
  simp only [List.cons_append, List.nil_append, List.append_assoc]
  refine .cons _ (.cons _ (List.perm_middle.trans (.cons _ ?_)))
  rw [← List.append_assoc]
  refine List.perm_middle.trans (.cons _ ?_)
  rw [List.append_assoc]
theorem nn {H : Hp} {a : Addr} {o : HO} (h : H a = some o) : H a ≠ none := fun z => by rw [z] at h; cases h
def sp_Cache___init__ (K : PySem.W.Frag) : Sp := fun vs H Q _ => ∃ (x dx s : Addr) (S W Z : Nat) (P : Str), vs = [.ref x, .ref s] ∧ H x = some (.ins (He.ga K "Cache") dx []) ∧ H s = some (.tup [.int S, .int W, .int Z, .str P]) ∧ 0 < S ∧ S ≤ 1000 ∧ 0 < W ∧ W ≤ 1000 ∧ 0 < Z ∧ Z ≤ 1000000 ∧
  ∀ H' d, d.p = x → d.dx = dx → Keep [x] H H' → (∀ a ∈ CaA d, a ≠ x → H a = none) → Has H' (CaL K d (c0V S W Z P)) → CWf d (c0V S W Z P) → Q .non H'
theorem sc_Cache___init__ : FnScope ["self", "settings", "sets", "ways", "line", "policy", "number"] ["self", "settings"] (defScope (inClass (topS 2) 0)) := ⟨rfl, rfl, rfl, by decide +kernel, rfl, by decide +kernel, by decide +kernel⟩
theorem mt_Cache___init__ (T : Txt fa fn K mg) : Mt P w K mg base CX0 1 "Cache" "__init__" ["self", "settings"] (sp_Cache___init__ K) := by
  refine mk_mt (d := mOf "Cache" "__init__" "Cache.__init__" (inClass (topS 2) 0)) T 8 rfl rfl rfl rfl sc_Cache___init__ (by walk_at "len") (fun _ _ _ _ _ _ us hl => match us, hl with | [_, _], _ => rfl) (fun cdv A outer s H vs Q E hr h => ⟨_, (pss_cons (ps_asg (pv 1) (pg_tup rfl (pgs_cons (pg_name (i := 2) sc_Cache___init__.nd rfl (.inl rfl)) (pgs_cons (pg_name (i := 3) sc_Cache___init__.nd rfl (.inr rfl)) (pgs_cons (pg_name (i := 4) sc_Cache___init__.nd rfl (.inl rfl)) (pgs_cons (pg_name (i := 5) sc_Cache___init__.nd rfl (.inl rfl)) pgs_nil))))))
      (pss_cons (ps_fldU (K := K) rfl (pv 0) (pv 2) rfl)
      (pss_cons (ps_fldU (K := K) rfl (pv 0) (pv 3) rfl)
      (pss_cons (ps_fldU (K := K) rfl (pv 0) (pv 4) rfl)
      (pss_cons (ps_fldU (K := K) rfl (pv 0) (pv 5) rfl)
      (pss_cons (ps_fldU (K := K) rfl (pv 0) (pe_lc rfl sc_Cache___init__.nd (pi_r1 rfl (T.free 31 rfl) (pa_cons (pv 2) pa_nil)) (blkOk_by (own := [("number", 6)]) (N := ["self", "settings", "sets", "ways", "line", "policy", "number"]) (sc := defScope (inClass (topS 2) 0)) (by decide +kernel)) (fun _ _ _ _ _ => (pg_name (i := 6) sc_Cache___init__.nd rfl (.inl rfl))) (fun _ _ _ _ _ => pts_nil) (fun _ _ _ _ _ => (pe_op op_mulU (pe_lst (pa_cons pe_non pa_nil)) (pv 3)))) rfl)
      (pss_cons (ps_fldU (K := K) rfl (pv 0) (pe_lc rfl sc_Cache___init__.nd (pi_r1 rfl (T.free 31 rfl) (pa_cons (pv 2) pa_nil)) (blkOk_by (own := [("number", 6)]) (N := ["self", "settings", "sets", "ways", "line", "policy", "number"]) (sc := defScope (inClass (topS 2) 0)) (by decide +kernel)) (fun _ _ _ _ _ => (pg_name (i := 6) sc_Cache___init__.nd rfl (.inl rfl))) (fun _ _ _ _ _ => pts_nil) (fun _ _ _ _ _ => (pe_op op_mulU (pe_lst (pa_cons pe_int pa_nil)) (pv 3)))) rfl)
      (pss_cons (ps_fldU (K := K) rfl (pv 0) (pe_lc rfl sc_Cache___init__.nd (pi_r1 rfl (T.free 31 rfl) (pa_cons (pv 2) pa_nil)) (blkOk_by (own := [("number", 6)]) (N := ["self", "settings", "sets", "ways", "line", "policy", "number"]) (sc := defScope (inClass (topS 2) 0)) (by decide +kernel)) (fun _ _ _ _ _ => (pg_name (i := 6) sc_Cache___init__.nd rfl (.inl rfl))) (fun _ _ _ _ _ => pts_nil) (fun _ _ _ _ _ => (pe_op op_mulU (pe_lst (pa_cons pe_int pa_nil)) (pv 3)))) rfl)
      (pss_one (ps_fldU (K := K) rfl (pv 0) pe_int rfl)))))))))), ?_⟩)
  obtain ⟨x, dx, s, S, W, Z, P, rfl, hx, hs, s0, s1, w0, w1, z0, z1, hQ⟩ := h
  have M := Has.one hx
  walk_at "go"

  refine g_setF M 0 rfl (cl_Cache T) (na_Cache__sets T) (by show 0 < 1000; decide) (pt_new nf_Cache__sets) (fun M1 => ?_)
  walk_at "go"
  refine g_setF M1 0 rfl (cl_Cache T) (na_Cache__ways T) (by show 1 < 1000; decide) (pt_new nf_Cache__ways) (fun M2 => ?_)
  walk_at "go"
  refine g_setF M2 0 rfl (cl_Cache T) (na_Cache__line T) (by show 2 < 1000; decide) (pt_new nf_Cache__line) (fun M3 => ?_)
  walk_at "go"
  refine g_setF M3 0 rfl (cl_Cache T) (na_Cache__policy T) (by show 3 < 1000; decide) (pt_new nf_Cache__policy) (fun M4 => ?_)
  walk_at "go"
  have k4 : Keep [x] H (upd (upd (upd (upd H x (.ins (He.ga K "Cache") dx [("_sets", .int S)])) x (.ins (He.ga K "Cache") dx [("_sets", .int S), ("_ways", .int W)])) x (.ins (He.ga K "Cache") dx [("_sets", .int S), ("_ways", .int W), ("_line", .int Z)])) x (.ins (He.ga K "Cache") dx [("_sets", .int S), ("_ways", .int W), ("_line", .int Z), ("_policy", .str P)])) := (((Keep.set (by simp)).trans (Keep.set (by simp))).trans (Keep.set (by simp))).trans (Keep.set (by simp))
  have bk : ∀ {H' : Hp} {a : Addr}, Keep [x] H H' → H' x ≠ none → H' a = none → H a = none := by
    intro H' a k h1 h2
    refine k.back h2 ?_
    rw [List.mem_singleton]
    intro e
    subst e
    exact h1 h2
  have x4 := M4.get 0 rfl
  refine l_rows (w := W) M4 (by omega) w1 (fun _ => rfl) (fun _ => rfl) (fun DA as H5 hDA las sm5 fa5 M5 => ?_)
  have hDA' := bk k4 (nn x4) hDA
  have fa5' : ∀ a ∈ as, H a = none := fun a h => bk k4 (nn x4) (fa5 a h)
  have k5 := k4.trans (Keep.of sm5)
  walk_at "go"
  refine g_setF M5 0 rfl (cl_Cache T) (na_Cache__places T) (by show 4 < 1000; decide) (pt_new nf_Cache__places) (fun M6 => ?_)
  have k6 := k5.trans (Keep.set (a := x) (o := .ins (He.ga K "Cache") dx [("_sets", .int S), ("_ways", .int W), ("_line", .int Z), ("_policy", .str P), ("_places", .ref DA)]) (by simp))
  have x6 := M6.get 0 rfl
  walk_at "go"
  refine l_rows (w := W) M6 (by omega) w1 (fun _ => rfl) (fun _ => rfl) (fun DB bs H7 hDB lbs sm7 fa7 M7 => ?_)
  have hDB' := bk k6 (nn x6) hDB
  have fa7' : ∀ a ∈ bs, H a = none := fun a h => bk k6 (nn x6) (fa7 a h)
  have k7 := k6.trans (Keep.of sm7)
  walk_at "go"
  refine g_setF M7 0 rfl (cl_Cache T) (na_Cache__times T) (by show 5 < 1000; decide) (pt_new nf_Cache__times) (fun M8 => ?_)
  have k8 := k7.trans (Keep.set (a := x) (o := .ins (He.ga K "Cache") dx [("_sets", .int S), ("_ways", .int W), ("_line", .int Z), ("_policy", .str P), ("_places", .ref DA), ("_times", .ref DB)]) (by simp))
  have x8 := M8.get 0 rfl
  walk_at "go"
  refine l_rows (w := W) M8 (by omega) w1 (fun _ => rfl) (fun _ => rfl) (fun DG gs H9 hDG lgs sm9 fa9 M9 => ?_)
  have hDG' := bk k8 (nn x8) hDG
  have fa9' : ∀ a ∈ gs, H a = none := fun a h => bk k8 (nn x8) (fa9 a h)
  have k9 := k8.trans (Keep.of sm9)
  walk_at "go"
  refine g_setF M9 0 rfl (cl_Cache T) (na_Cache__pointers T) (by show 6 < 1000; decide) (pt_new nf_Cache__pointers) (fun M10 => ?_)
  have k10 := k9.trans (Keep.set (a := x) (o := .ins (He.ga K "Cache") dx [("_sets", .int S), ("_ways", .int W), ("_line", .int Z), ("_policy", .str P), ("_places", .ref DA), ("_times", .ref DB), ("_pointers", .ref DG)]) (by simp))
  walk_at "go"
  refine g_setF M10 0 rfl (cl_Cache T) (na_Cache__time T) (by show 7 < 1000; decide) (pt_new nf_Cache__time) (fun M11 => ?_)
  have k11 := k10.trans (Keep.set (a := x) (o := .ins (He.ga K "Cache") dx [("_sets", .int S), ("_ways", .int W), ("_line", .int Z), ("_policy", .str P), ("_places", .ref DA), ("_times", .ref DB), ("_pointers", .ref DG), ("_time", .int 0)]) (by simp))
  walk_at "go"
  rw [Int.toNat_natCast] at las lbs lgs
  refine hQ _ ⟨x, dx, DA, DB, DG, as, bs, gs⟩ rfl rfl k11 ?_ (has_ca (r1 := List.replicate W .non) (r2 := List.replicate W (.int 0)) (r3 := List.replicate W (.int 0)) M11 ?_ ?_ ?_) ?_
  · intro a ha hne
    simp only [CaA, List.mem_append, List.mem_cons, List.not_mem_nil, or_false] at ha
    rcases ha with (rfl | rfl | rfl | rfl) | h | h | h
    · exact (hne rfl).elim
    · exact hDA'
    · exact hDB'
    · exact hDG'
    · exact fa5' a h
    · exact fa7' a h
    · exact fa9' a h
  · show tab as (List.replicate as.length _) = tab as ((List.replicate S (List.replicate W none)).map (·.map ovV))
    rw [las, List.map_replicate, List.map_replicate]
    rfl
  · show tab bs (List.replicate bs.length _) = tab bs ((List.replicate S (List.replicate W 0)).map (·.map V.int))
    rw [lbs, List.map_replicate, List.map_replicate]
  · show tab gs (List.replicate gs.length _) = tab gs ((List.replicate S (List.replicate W 0)).map (·.map V.int))
    rw [lgs, List.map_replicate, List.map_replicate]
  · refine ⟨s0, s1, w0, w1, z0, z1, las, lbs, lgs, List.length_replicate, List.length_replicate, List.length_replicate, ?_, ?_, ?_⟩
    · intro r hr
      rw [List.eq_of_mem_replicate hr, List.length_replicate]
    · intro r hr
      rw [List.eq_of_mem_replicate hr, List.length_replicate]
    · intro r hr
      rw [List.eq_of_mem_replicate hr, List.length_replicate]
      exact ⟨rfl, fun y hy => .inl (List.eq_of_mem_replicate hy)⟩
/-! for the callers -/
section
variable {K : PySem.W.Frag} {H : Hp} {X Y : List (Addr × HO)} {d : CAd} {c : CSt} {x : Int} {Q : VK} {E : XK}
theorem use_touch (M : Has H (X ++ (CaL K d c ++ Y))) (wf : CWf d c) (k : ∀ H', Keep (CaA d) H H' → Has H' (X ++ (CaL K d (tcV c x) ++ Y)) → Q (.bl (decide (hitV c x))) H') : sp_Cache_touch K (.ref d.p :: ([.int x] ++ [])) H Q E :=
  ⟨d, c, x, rfl, M.mid, wf, fun H' kp M' => k H' kp (M.frame (by rw [ca_fst wf]; exact kp) M' (by rw [ca_fst wf, ca_fst wf.tc]))⟩
theorem use_drop (M : Has H (X ++ (CaL K d c ++ Y))) (wf : CWf d c) (k : ∀ H', Keep (CaA d) H H' → Has H' (X ++ (CaL K d (dpV c x) ++ Y)) → Q (.bl (decide (hitV c x))) H') : sp_Cache_drop K (.ref d.p :: ([.int x] ++ [])) H Q E :=
  ⟨d, c, x, rfl, M.mid, wf, fun H' kp M' => k H' kp (M.frame (by rw [ca_fst wf]; exact kp) M' (by rw [ca_fst wf, ca_fst wf.dp]))⟩
theorem has_join {H : Hp} {L L' : List (Addr × HO)} (M : Has H L) (M' : Has H L') (h : ∀ a ∈ L'.map (·.1), a ∉ L.map (·.1)) : Has H (L ++ L') where
  nd := by
    rw [List.map_append, List.nodup_append]
    exact ⟨M.nd, M'.nd, fun a ha b hb e => h b hb (e ▸ ha)⟩
  is_ := fun p hp => by
    rcases List.mem_append.mp hp with h | h
    · exact M.is_ p h
    · exact M'.is_ p h
theorem use_cache {L : List (Addr × HO)} {p dx s : Addr} {S W Z : Nat} {P : Str} {R : Hp → Prop} (M : Has H L) (hx : H p = none) (hd : H dx = none) (hs : H s = some (.tup [.int S, .int W, .int Z, .str P])) (s0 : 0 < S) (s1 : S ≤ 1000) (w0 : 0 < W) (w1 : W ≤ 1000) (z0 : 0 < Z) (z1 : Z ≤ 1000000)
    (k : ∀ H' d, d.p = p → Same H H' → Has H' (L ++ CaL K d (c0V S W Z P)) → CWf d (c0V S W Z P) → R H') :
    sp_Cache___init__ K (.ref p :: ([.ref s] ++ [])) (upd (upd H dx (.own p)) p (.ins (He.ga K "Cache") dx [])) (fun v H2 => v = .non ∧ R H2) E := by
  refine ⟨p, dx, s, S, W, Z, P, rfl, upd_same, made_same hx hd _ _ hs, s0, s1, w0, w1, z0, z1, fun H' d e1 e2 kp fr M' wf => ⟨rfl, ?_⟩⟩
  have sm : Same H H' := fun b o e => kp b o (made_same hx hd _ _ e) (fun z => by
    rw [List.mem_singleton] at z
    subst z
    rw [hx] at e
    cases e)
  refine k H' d e1 sm (has_join (M.keep sm) M' ?_) wf
  intro a ha
  rw [ca_fst wf] at ha
  by_cases h : a = p
  · subst h
    exact M.fresh hx
  · exact M.fresh (made_none (fr a ha h)).1
end

def sp_law_draws (K : PySem.W.Frag) : Sp := fun vs H Q _ => ∃ (a : Addr) (ns : List Int), vs = [.ref a] ∧ SqL K H a (ns.map V.int) ∧ ns.length ≤ 63 ∧
  ∀ H' p (row : List Int), Same H H' → H p = none → H' p = some (.lst (row.map V.int)) → (∀ x ∈ row, 0 ≤ x ∧ x < 1000) → row.length ≤ 1260 → Q (.ref p) H'
structure DrI (H : Hp) (a p : Addr) (b : Nat) (cell : Option V → Prop) (σ : L2.St) (H' : Hp) : Prop where
  ex : ∃ (row : List Int) (k c t m : Option V), σ = [some (.ref a), some (.ref p), k, c, t, m] ∧ cell c ∧ Same H H' ∧ Has H' [(p, .lst (row.map V.int))] ∧ (∀ x ∈ row, 0 ≤ x ∧ x < 1000) ∧ row.length ≤ b
theorem app_map {row : List Int} {x : Int} : row.map V.int ++ [V.int x] = (row ++ [x]).map V.int := by simp
theorem sc_law_draws : FnScope ["script", "draws", "k", "cell", "turn", "mixed"] ["script"] (defScope (topS 4)) := ⟨rfl, rfl, rfl, by decide +kernel, rfl, by decide +kernel, by decide +kernel⟩
theorem ok_law_draws (T : Txt fa fn K mg) : Dn P w K mg base CX0 1 "_law_draws" ["script"] (sp_law_draws K) := by
  refine mk_dn (d := dOf "_law_draws" 4) T 1 1 rfl rfl rfl rfl rfl sc_law_draws (by walk_at "len") (fun _ _ _ _ _ _ us hl => match us, hl with | [_], _ => rfl) (fun cdv A outer s H vs Q E hr h => ⟨_, (pss_cons (ps_set (i := 1) sc_law_draws.nd rfl (.inl rfl) (pe_lst pa_nil))
      (pss_cons (ps_for PassesOwn.never rfl (pi_r1 rfl (T.free 31 rfl) (pa_cons (pe_callB (c_min2 rfl) rfl (T.free 30 rfl) (by decide +kernel) (pa_cons (pe_callB (c_len (K := K) rfl) rfl (T.free 28 rfl) (by decide +kernel) (pa_cons (pv 0) pa_nil)) (pa_cons pe_int pa_nil))) pa_nil)) (pg_name (i := 2) sc_law_draws.nd rfl (.inl rfl)) (pss_cons (ps_set (i := 3) sc_law_draws.nd rfl (.inl rfl) (pe_callB c_abs rfl (T.free 26 rfl) (by decide +kernel) (pa_cons (pe_ixU (K := K) rfl (hu_of hr) (pv 0) (pv 2)) pa_nil)))
      (pss_one (ps_if (pt_cmpR o_ge (pv 3) (pe_op o_pow pe_int pe_int) (nomark _)) (pss_one (ps_for PassesOwn.never rfl (pi_r1 rfl (T.free 31 rfl) (pa_cons pe_int pa_nil)) (pg_name (i := 4) sc_law_draws.nd rfl (.inl rfl)) (pss_one (ps_if (pt_cmpR o_gt (pv 3) pe_int (nomark _)) (pss_cons (ps_expr (pe_bm PySem.F.plainAttrs_list PySem.F.slot_list_append PySem.F.type_list_append mt_append (pv 1) (pa_cons (pe_op o_mod (pv 3) pe_int) pa_nil)))
      (pss_one (ps_set (i := 3) sc_law_draws.nd rfl (.inl rfl) (pe_op o_fdiv (pv 3) pe_int)))) pss_nil)))) (pss_cons (ps_set (i := 5) sc_law_draws.nd rfl (.inl rfl) (pe_op o_mod (pe_callTy c_int rfl (T.free 27 rfl) (by decide +kernel) (pa_cons (pe_op (op_addU (K := K) rfl) (pe_op (op_addU (K := K) rfl) (pe_op op_mulU (pe_ixU (K := K) rfl (hu_of hr) (pv 0) (pv 2)) pe_int) (pe_op op_mulU (pv 2) pe_int)) pe_int) pa_nil)) pe_int))
      (pss_one (ps_for PassesOwn.never rfl (pi_r1 rfl (T.free 31 rfl) (pa_cons pe_int pa_nil)) (pg_name (i := 4) sc_law_draws.nd rfl (.inl rfl)) (pss_cons (ps_set (i := 5) sc_law_draws.nd rfl (.inl rfl) (pe_op o_mod (pe_callTy c_int rfl (T.free 27 rfl) (by decide +kernel) (pa_cons (pe_op (op_addU (K := K) rfl) (pe_op (op_addU (K := K) rfl) (pe_op op_mulU (pv 5) (pv 5)) (pe_op op_mulU (pv 4) pe_int)) pe_int) pa_nil)) pe_int))
      (pss_one (ps_expr (pe_bm PySem.F.plainAttrs_list PySem.F.slot_list_append PySem.F.type_list_append mt_append (pv 1) (pa_cons (pe_op o_mod (pv 5) pe_int) pa_nil))))))))))))
      (pss_one (ps_ret (pv 1))))), ?_⟩)
  obtain ⟨a, ns, rfl, hS, hlen, hQ⟩ := h
  walk_at "go"
  refine ⟨by decide, fun p hp => ?_⟩
  walk_at "go"
  have hS1 : SqL K (upd H p (.lst [])) a (ns.map V.int) := (Same.new hp).seq hS
  refine g_lenL hS1 ?_
  walk_at "go"
  have hn : (ns.map V.int).length = ns.length := List.length_map _
  rw [hn]
  have hj : (if (63 : Int) < (ns.length : Int) then (63 : Int) else (ns.length : Int)).toNat = ns.length := by split <;> omega
  rw [hj]
  have M0 : Has (upd H p (.lst [])) [(p, .lst (([] : List Int).map V.int))] := Has.one upd_same
  refine f_range (fun i σ H' => ∃ (row : List Int) (k c t m : Option V), σ = [some (.ref a), some (.ref p), k, c, t, m] ∧ Same H H' ∧ Has H' [(p, .lst (row.map V.int))] ∧ (∀ x ∈ row, 0 ≤ x ∧ x < 1000) ∧ row.length ≤ 20 * i)
    ⟨[], _, _, _, _, rfl, Same.new hp, M0, (fun _ h => nomatch h), Nat.le_refl _⟩ ?_ ?_
  · rintro i σ H' hi ⟨row, k, c, t, m, rfl, hs, M, hr1, hr2⟩
    walk_at "go"
    have hS2 := hs.seq hS
    obtain ⟨z, hz⟩ : ∃ z, ns[i]? = some z := ⟨_, List.getElem?_eq_getElem hi⟩
    have hz' : (ns.map V.int)[i]? = some (V.int z) := by rw [List.getElem?_map, hz]; rfl
    refine g_ixL hS2 (n := i) (by omega) hz' ?_
    walk_at "go"
    have hb : 0 ≤ (if z < 0 then -z else z) := by split <;> omega
    generalize (if z < 0 then -z else z) = cell at hb
    refine g_if (fun hc => ?_) (fun hc => ?_)
    · walk_at "go"
      refine f_range (fun j σ H' => ∃ (row : List Int) (cell : Int) (k t m : Option V), σ = [some (.ref a), some (.ref p), k, some (.int cell), t, m] ∧ 0 ≤ cell ∧ Same H H' ∧ Has H' [(p, .lst (row.map V.int))] ∧ (∀ x ∈ row, 0 ≤ x ∧ x < 1000) ∧ row.length ≤ 20 * i + j)
        ⟨row, cell, _, _, _, rfl, hb, hs, M, hr1, by omega⟩ ?_ ?_
      · rintro j σ H2 hj ⟨row, cell, k, t, m, rfl, hb, hs, M, hr1, hr2⟩
        walk_at "go"
        refine g_if (fun h0 => ?_) (fun h0 => ?_)
        · walk_at "go"
          refine g_append M 0 rfl (szl (by rw [List.length_map]; have hj' : j < 20 := hj; omega)) (fun M1 => ?_)
          walk_at "go"
          refine ⟨row ++ [cell % 1000], cell / 1000, _, _, _, rfl, by omega, Same.mut hs hp, by rw [← app_map]; exact M1, ?_, by rw [List.length_append]; simp; omega⟩
          intro x hx
          rcases List.mem_append.mp hx with hx | hx
          · exact hr1 x hx
          · rw [List.mem_singleton.mp hx]
            omega
        · walk_at "go"
          exact ⟨row, cell, _, _, _, rfl, hb, hs, M, hr1, by omega⟩
      · rintro σ H2 ⟨row, cell, k, t, m, rfl, hb, hs, M, hr1, hr2⟩
        walk_at "go"
        exact ⟨row, _, _, _, _, rfl, hs, M, hr1, by have h20 : (20 : Int).toNat = 20 := rfl; omega⟩
    · walk_at "go"
      have hz2 := hs.seq hS
      refine g_ixL hz2 (n := i) (by omega) hz' ?_
      walk_at "go"
      refine f_range (fun j σ H' => ∃ (row : List Int) (mixed : Int) (k c t : Option V), σ = [some (.ref a), some (.ref p), k, c, t, some (.int mixed)] ∧ 0 ≤ mixed ∧ mixed < 2147483647 ∧ Same H H' ∧ Has H' [(p, .lst (row.map V.int))] ∧ (∀ x ∈ row, 0 ≤ x ∧ x < 1000) ∧ row.length ≤ 20 * i + j)
        ⟨row, _, _, _, _, rfl, Int.emod_nonneg _ (by decide), Int.emod_lt_of_pos _ (by decide), hs, M, hr1, by omega⟩ ?_ ?_
      · rintro j σ H2 hj ⟨row, mixed, k, c, t, rfl, hm0, hm1, hs, M, hr1, hr2⟩
        walk_at "go"
        have hj' : j < 3 := hj
        refine g_append M 0 rfl (szl (by rw [List.length_map]; omega)) (fun M1 => ?_)
        walk_at "go"
        refine ⟨row ++ [_], _, _, _, _, rfl, Int.emod_nonneg _ (by decide), Int.lt_of_lt_of_le (Int.emod_lt_of_pos _ (by decide)) (by decide), Same.mut hs hp, by rw [← app_map]; exact M1, ?_, by rw [List.length_append]; simp; omega⟩
        intro x hx
        rcases List.mem_append.mp hx with hx | hx
        · exact hr1 x hx
        · rw [List.mem_singleton.mp hx]
          exact ⟨Int.emod_nonneg _ (by decide), Int.emod_lt_of_pos _ (by decide)⟩
      · rintro σ H2 ⟨row, mixed, k, c, t, rfl, hm0, hm1, hs, M, hr1, hr2⟩
        walk_at "go"
        exact ⟨row, _, _, _, _, rfl, hs, M, hr1, by have h20 : (3 : Int).toNat = 3 := rfl; omega⟩
  · rintro σ H' ⟨row, k, c, t, m, rfl, hs, M, hr1, hr2⟩
    walk_at "go"
    exact hQ H' p row hs hp (M.get 0 rfl) hr1 (by omega)

def sp_law_reader (K : PySem.W.Frag) : Sp := fun vs H Q _ => ∃ (a : Addr) (ns : List Int), vs = [.ref a] ∧ SqL K H a (ns.map V.int) ∧ ns.length ≤ 63 ∧
  ∀ H' d r (row : List Int) (sd : Int), Same H H' → H d = none → H r = none → Has H' [(d, .dK (drK r 0 sd)), (r, .lst (row.map V.int))] → RowOk row sd → Q (.ref d) H'
theorem sc_law_reader : FnScope ["script", "row", "seed"] ["script"] (defScope (topS 5)) := ⟨rfl, rfl, rfl, by decide +kernel, rfl, by decide +kernel, by decide +kernel⟩
theorem ok_law_reader (T : Txt fa fn K mg) : Dn P w K mg base CX0 2 "_law_reader" ["script"] (sp_law_reader K) := by
  refine mk_dn (d := dOf "_law_reader" 5) T 2 2 rfl rfl rfl rfl rfl sc_law_reader (by walk_at "len") (fun _ _ _ _ _ _ us hl => match us, hl with | [_], _ => rfl) (fun cdv A outer s H vs Q E hr h => ⟨_, (pss_cons (ps_set (i := 1) sc_law_reader.nd rfl (.inl rfl) (pe_callD (K := K) rfl (ok_law_draws T) (hr.mono (by decide)) rfl pass0 (pa_cons (pv 0) pa_nil)))
      (pss_cons (ps_set (i := 2) sc_law_reader.nd rfl (.inl rfl) pe_int)
      (pss_cons (ps_if (pt_cmpR o_gt (pe_callB (c_len (K := K) rfl) rfl (T.free 28 rfl) (by decide +kernel) (pa_cons (pv 0) pa_nil)) pe_int (nomark _)) (pss_one (ps_set (i := 2) sc_law_reader.nd rfl (.inl rfl) (pe_op o_mod (pe_callB c_abs rfl (T.free 26 rfl) (by decide +kernel) (pa_cons (pe_ixU (K := K) rfl (hu_of hr) (pv 0) (pe_un un_neg pe_int)) pa_nil)) pe_int))) pss_nil)
      (pss_one (ps_ret (pe_disp (pps_cons pe_str (pv 1) (pps_cons pe_str pe_int (pps_cons pe_str (pv 2) pps_nil))) (by rfl) (by rfl) (fun z => by cases z) (by decide))))))), ?_⟩)
  obtain ⟨a, ns, rfl, hS, hlen, hQ⟩ := h
  walk_at "go"
  refine ⟨a, ns, rfl, hS, hlen, fun H1 p row s1 hp hr hr1 hr2 => ?_⟩
  walk_at "go"
  have hS1 := s1.seq hS
  refine g_lenL hS1 ?_
  walk_at "go"
  have fin : ∀ (sd : Int), 0 ≤ sd → sd < 1000003 → ∀ d, H1 d = none → upd H1 d (.dK []) d = some (.dK []) ∧ ∃ kvs : List (Key × V), [(V.str "row", V.ref p), (V.str "at", V.int 0), (V.str "seed", V.int sd)] = kvs.map (fun kv => (kV kv.1, kv.2)) ∧ kvs.length ≤ 15 ∧ Q (.ref d) (upd (upd H1 d (.dK [])) d (.dK (mergeK [] kvs))) := by
    intro sd h0 h1 d hd
    refine ⟨upd_same, [(.inr "row", .ref p), (.inr "at", .int 0), (.inr "seed", .int sd)], rfl, (by show 3 ≤ 15; decide), ?_⟩
    rw [dr_made, upd_upd]
    refine hQ _ d p row sd (Same.new' s1 hd) (s1.free hd) hp ?_ ⟨hr1, hr2, h0, h1⟩
    have M : Has (upd H1 d (.dK (drK p 0 sd))) ([(p, .lst (row.map V.int))] ++ [(d, .dK (drK p 0 sd))]) := (Has.one hr).new hd
    exact M.perm (List.perm_append_comm (l₁ := [_]) (l₂ := [_]))
  refine g_if (fun h0 => ?_) (fun h0 => ?_)
  · walk_at "go"
    have hn : (ns.map V.int).length = ns.length := List.length_map _
    rw [hn] at h0
    obtain ⟨z, hz⟩ : ∃ z, ns[ns.length - 1]? = some z := ⟨_, List.getElem?_eq_getElem (by omega)⟩
    have hz' : (ns.map V.int)[ns.length - 1]? = some (V.int z) := by rw [List.getElem?_map, hz]; rfl
    refine g_ixL' hS1 (v := .int z) ?_ ?_
    · show (ixN _ (-1)).bind _ = _
      unfold ixN
      rw [if_neg (by decide), if_pos (by omega), hn]
      have e : ((-1 : Int) + (ns.length : Int)).toNat = ns.length - 1 := by omega
      show (ns.map V.int)[((-1 : Int) + (ns.length : Int)).toNat]? = _
      rw [e]
      exact hz'
    · walk_at "go"
      intro d hd
      walk_at "go"
      exact fin _ (Int.emod_nonneg _ (by decide)) (Int.emod_lt_of_pos _ (by decide)) d hd
  · walk_at "go"
    intro d hd
    walk_at "go"
    exact fin _ (by decide) (by decide) d hd
def sp_law_next (K : PySem.W.Frag) : Sp := fun vs H Q _ => ∃ (d r : Addr) (n sd m : Int) (row : List Int), vs = [.ref d, .int m] ∧ H d = some (.dK (drK r n sd)) ∧ H r = some (.lst (row.map V.int)) ∧ RowOk row sd ∧ 0 ≤ n ∧ 0 < m ∧
  ∀ H' v, Keep [d] H H' → H' d = some (.dK (drK r (n + 1) sd)) → 0 ≤ v → v < m → Q (.int v) H'
theorem sc_law_next : FnScope ["draws", "many", "at", "mixed"] ["draws", "many"] (defScope (topS 6)) := ⟨rfl, rfl, rfl, by decide +kernel, rfl, by decide +kernel, by decide +kernel⟩
theorem ok_law_next (T : Txt fa fn K mg) : Dn P w K mg base CX0 1 "_law_next" ["draws", "many"] (sp_law_next K) := by
  refine mk_dn (d := dOf "_law_next" 6) T 3 3 rfl rfl rfl rfl rfl sc_law_next (by walk_at "len") (fun _ _ _ _ _ _ us hl => match us, hl with | [_, _], _ => rfl) (fun cdv A outer s H vs Q E hr h => ⟨_, (pss_cons (ps_set (i := 2) sc_law_next.nd rfl (.inl rfl) (pe_ixU (K := K) rfl (hu_of hr) (pv 0) pe_str))
      (pss_cons (ps_dput (hu_of hr) (pv 0) pe_str (pe_op (op_addU (K := K) rfl) (pv 2) pe_int) rfl)
      (pss_cons (ps_if (pt_cmpR o_lt (pv 2) (pe_callB (c_len (K := K) rfl) rfl (T.free 28 rfl) (by decide +kernel) (pa_cons (pe_ixU (K := K) rfl (hu_of hr) (pv 0) pe_str) pa_nil)) (nomark _)) (pss_one (ps_ret (pe_op o_mod (pe_callTy c_int rfl (T.free 27 rfl) (by decide +kernel) (pa_cons (pe_ixU (K := K) rfl (hu_of hr) (pe_ixU (K := K) rfl (hu_of hr) (pv 0) pe_str) (pv 2)) pa_nil)) (pv 1)))) pss_nil)
      (pss_cons (ps_set (i := 3) sc_law_next.nd rfl (.inl rfl) (pe_op o_mod (pe_callTy c_int rfl (T.free 27 rfl) (by decide +kernel) (pa_cons (pe_op op_mulU (pe_op (op_addU (K := K) rfl) (pe_op (op_addU (K := K) rfl) (pe_ixU (K := K) rfl (hu_of hr) (pv 0) pe_str) (pe_op op_mulU pe_int (pv 2))) pe_int) pe_int) pa_nil)) pe_int))
      (pss_one (ps_ret (pe_op o_mod (pe_op o_fdiv (pe_op o_mod (pe_callTy c_int rfl (T.free 27 rfl) (by decide +kernel) (pa_cons (pe_op (op_addU (K := K) rfl) (pe_op op_mulU (pv 3) (pv 3)) (pv 2)) pa_nil)) pe_int) pe_int) (pv 1)))))))), ?_⟩)
  obtain ⟨d, r, n, sd, m, row, rfl, hd, hr, ok, hn, hm, hQ⟩ := h
  walk_at "go"
  refine g_ixD (dg_at hd) ?_
  walk_at "go"
  refine ⟨d, _, rfl, dp_at (n + 1) hd, ?_⟩
  have ne : r ≠ d := ne_of hr hd (by intro z; cases z)
  have hd1 : upd H d (.dK (drK r (n + 1) sd)) d = some (.dK (drK r (n + 1) sd)) := upd_same
  have hr1 : upd H d (.dK (drK r (n + 1) sd)) r = some (.lst (row.map V.int)) := by rw [upd_ne ne]; exact hr
  have hk : Keep [d] H (upd H d (.dK (drK r (n + 1) sd))) := Keep.set (List.mem_singleton.mpr rfl)
  walk_at "go"
  refine g_ixD (dg_row hd1) ?_
  walk_at "go"
  refine g_if (fun h0 => ?_) (fun h0 => ?_)
  · walk_at "go"
    refine g_ixD (dg_row hd1) ?_
    walk_at "go"
    obtain ⟨z, hz⟩ : ∃ z, row[n.toNat]? = some z := ⟨_, List.getElem?_eq_getElem (by omega)⟩
    refine g_ixL (SqL.of hr1) (n := n.toNat) (by omega) (by rw [List.getElem?_map, hz]; rfl) ?_
    walk_at "go"
    exact hQ _ _ hk hd1 (Int.emod_nonneg _ (by omega)) (Int.emod_lt_of_pos _ hm)
  · walk_at "go"
    refine g_ixD (dg_seed hd1) ?_
    walk_at "go"
    exact hQ _ _ hk hd1 (Int.emod_nonneg _ (by omega)) (Int.emod_lt_of_pos _ hm)
theorem use_next {H : Hp} {d r : Addr} {n sd m : Int} {row : List Int} {Q : VK} {E : XK} (hd : H d = some (.dK (drK r n sd))) (hr : H r = some (.lst (row.map V.int))) (ok : RowOk row sd) (hn : 0 ≤ n) (hm : 0 < m)
    (k : ∀ H' v, Keep [d] H H' → H' d = some (.dK (drK r (n + 1) sd)) → H' r = some (.lst (row.map V.int)) → 0 ≤ v → v < m → Q (.int v) H') : sp_law_next K ([.ref d, .int m] ++ []) H Q E :=
  ⟨d, r, n, sd, m, row, rfl, hd, hr, ok, hn, hm, fun H' v kp h1 h2 h3 => k H' v kp h1 (kp r _ hr (by
    have ne : r ≠ d := ne_of hr hd (by intro z; cases z)
    simpa using ne)) h2 h3⟩
theorem use_nextM {H : Hp} {L : List (Addr × HO)} {d r : Addr} {n sd m : Int} {row : List Int} {Q : VK} {E : XK} (M : Has H ((d, .dK (drK r n sd)) :: (r, .lst (row.map V.int)) :: L)) (ok : RowOk row sd) (hn : 0 ≤ n) (hm : 0 < m)
    (k : ∀ H' v, Keep [d] H H' → Has H' ((d, .dK (drK r (n + 1) sd)) :: (r, .lst (row.map V.int)) :: L) → 0 ≤ v → v < m → Q (.int v) H') : sp_law_next K ([.ref d, .int m] ++ []) H Q E :=
  ⟨d, r, n, sd, m, row, rfl, M.get 0 rfl, M.get 1 rfl, ok, hn, hm, fun H' v kp h1 h2 h3 => k H' v kp (M.call1 kp 0 rfl h1) h2 h3⟩

/-! ### draws, bundled -/
/-- the draws dict stands at d, beside the objects L -/
structure DrL (H : Hp) (d : Addr) (L : List (Addr × HO)) : Prop where
  ex : ∃ (r : Addr) (n sd : Int) (row : List Int), Has H ((d, .dK (drK r n sd)) :: (r, .lst (row.map V.int)) :: L) ∧ RowOk row sd ∧ 0 ≤ n
section
variable {H H' : Hp} {d p a : Addr} {L L' : List (Addr × HO)} {o o' : HO} {Q : VK} {E : XK} {m : Int} {v : V} {e : PyData} {xs : List V} {ds : List PyData} {σ : L2.St} {j : Nat}
theorem DrL.has (D : DrL H d L) : Has H L := by
  obtain ⟨r, n, sd, row, M, _⟩ := D.ex
  exact M.sub ((List.sublist_cons_self _ _).trans (List.sublist_cons_self _ _))
theorem DrL.get (D : DrL H d L) (i : Nat) (h : L[i]? = some (a, o)) : H a = some o := D.has.get i h
theorem DrL.new (D : DrL H d L) (hp : H p = none) : DrL (upd H p o) d (L ++ [(p, o)]) := by
  obtain ⟨r, n, sd, row, M, ok, hn⟩ := D.ex
  exact ⟨r, n, sd, row, M.new hp, ok, hn⟩
theorem DrL.same (D : DrL H d L) (k : Same H H') : DrL H' d L := by
  obtain ⟨r, n, sd, row, M, ok, hn⟩ := D.ex
  exact ⟨r, n, sd, row, M.keep k, ok, hn⟩
theorem DrL.sub (D : DrL H d L) (h : L'.Sublist L) : DrL H d L' := by
  obtain ⟨r, n, sd, row, M, ok, hn⟩ := D.ex
  exact ⟨r, n, sd, row, M.sub ((h.cons₂ _).cons₂ _), ok, hn⟩
theorem DrL.set (D : DrL H d L) (i : Nat) (h : L[i]? = some (a, o)) : DrL (upd H a o') d (L.set i (a, o')) := by
  obtain ⟨r, n, sd, row, M, ok, hn⟩ := D.ex
  exact ⟨r, n, sd, row, M.set (i + 2) h, ok, hn⟩
theorem DrL.noTup (D : DrL H d L) : NoTup H [d] := by
  obtain ⟨r, n, sd, row, M, ok, hn⟩ := D.ex
  exact NoTup.one (M.get 0 rfl) (fun xs e => nomatch e)
theorem DrL.im (D : DrL H d L) (k : Keep [d] H H') (h : Im H v e) : Im H' v e := h.keep k D.noTup
theorem DrL.ims (D : DrL H d L) (k : Keep [d] H H') (h : Ims H xs ds) : Ims H' xs ds := h.keep k D.noTup
theorem DrL.ne (D : DrL H d L) (hp : H p = none) : p ≠ d := by
  obtain ⟨r, n, sd, row, M, ok, hn⟩ := D.ex
  rintro rfl
  have := M.get 0 rfl
  rw [hp] at this
  cases this
theorem DrL.at_ (D : DrL H d L) (k : Keep [d] H H') (h : H a = some o) (n : ∀ kvs, o ≠ .dK kvs) : H' a = some o := by
  obtain ⟨r, q, sd, row, M, ok, hn⟩ := D.ex
  refine k a o h fun z => ?_
  rw [List.mem_singleton.mp z, M.get 0 rfl] at h
  exact n _ (Option.some.inj h).symm
theorem use_nx (D : DrL H d L) (hm : 0 < m) (k : ∀ H' v, Keep [d] H H' → DrL H' d L → 0 ≤ v → v < m → Q (.int v) H') : sp_law_next K ([.ref d, .int m] ++ []) H Q E := by
  obtain ⟨r, n, sd, row, M, ok, hn⟩ := D.ex
  exact use_nextM M ok hn hm fun H' v kp M' h0 h1 => k H' v kp ⟨r, _, sd, row, M', ok, by omega⟩ h0 h1
/-- one of a written list, by a draw -/
theorem use_pk (D : DrL H d L) (hj : σ[j]? = some (some (.ref d))) (hm : (xs.length : Int) = m) (h0 : 0 < xs.length) (hs : xs.length ≤ 1000) (k : ∀ H' v, Keep [d] H H' → DrL H' d L → v ∈ xs → Q v H') :
    rLstN xs H fun x H1 => tCall (sp_law_next K) [] E (tCons (tVar j) (tCons (tC (.int m)) tNil)) σ H1 fun y H2 => rIxU K x y H2 Q := by
  refine ⟨szle (by omega), fun p hp => ?_⟩
  refine g_call (g_consA (g_var hj (g_consA (g_c (g_nilA ?_)))))
  have D1 := D.same (Same.new (o := .lst xs) hp)
  refine use_nx D1 (by omega) fun H2 v k2 D2 h1 h2 => ?_
  have hv : v.toNat < xs.length := by omega
  have hx : xs[v.toNat]? = some xs[v.toNat] := List.getElem?_eq_getElem hv
  exact g_ixL (SqL.of (D1.at_ k2 upd_same (fun _ e => nomatch e))) (n := v.toNat) (by omega) hx (k H2 _ ((Keep.new hp).trans k2) D2 (List.getElem_mem hv))
theorem gD_append (D : DrL H d L) (n : Nat) (h : L[n]? = some (a, .lst xs)) (hl : xs.length < 100000) (k : DrL (upd H a (.lst (xs ++ [v]))) d (L.set n (a, .lst (xs ++ [v]))) → Q .non (upd H a (.lst (xs ++ [v])))) : rAppend (.ref a) [v] H Q :=
  ⟨a, xs, v, rfl, rfl, D.get n h, szl (by omega), k (D.set n h)⟩
theorem use_readerD {a : Addr} {ns : List Int} (hS : SqL K H a (ns.map V.int)) (hl : ns.length ≤ 63) (k : ∀ H' d, Same H H' → H d = none → DrL H' d [] → Q (.ref d) H') : sp_law_reader K ([.ref a] ++ []) H Q E :=
  ⟨a, ns, rfl, hS, hl, fun H' d r row sd sm h1 h2 M ok => k H' d sm h1 ⟨r, 0, sd, row, M, ok, by decide⟩⟩
end


/-! ### two caches by lru: the greater one holds what the smaller one holds -/
def rv (c : CSt) (n p : Nat) : Option Int := (row c n).getD p none
def tv (c : CSt) (n p : Nat) : Int := (tmv c n).getD p 0
theorem getD_setO {α : Type} {l : List α} {p q : Nat} {x d : α} (h : p < l.length) : (l.set p x).getD q d = if p = q then x else l.getD q d := by
  rw [List.getD_eq_getElem?_getD, List.getD_eq_getElem?_getD, List.getElem?_set]
  split
  · rename_i e
    subst e
    first | rfl | (rw [if_pos h]; rfl)
  · rfl
section
variable {d : CAd} {c : CSt} {x : Int} {n p : Nat}
theorem tv_touch (wf : CWf d c) (hP : c.P = "lru") : tv (tcV c x) n p = if nmO c x = n ∧ plO c x = p then c.t + 1 else tv c n p := by
  have h := (wf.nm x).1
  have hp := wf.pl_ (x := x)
  unfold tv tmv
  show ((if ¬ hitV c x ∨ c.P = "lru" then c.tm.set (nmO c x) ((tmv c (nmO c x)).set (plO c x) (c.t + 1)) else c.tm).getD n []).getD p 0 = _
  rw [if_pos (.inr hP), getD_setO (by rw [wf.lt]; exact h)]
  by_cases e : nmO c x = n
  · subst e
    rw [if_pos rfl, getD_setO (by rw [wf.tmL h]; exact hp)]
    by_cases e2 : plO c x = p
    · rw [if_pos e2, if_pos ⟨rfl, e2⟩]
    · rw [if_neg e2, if_neg (fun z => e2 z.2)]
      rfl
  · rw [if_neg e, if_neg (fun z => e z.1)]
theorem rv_touch (wf : CWf d c) : rv (tcV c x) n p = if nmO c x = n ∧ plO c x = p then some (lnO c x) else rv c n p := by
  have h := (wf.nm x).1
  have hp := wf.pl_ (x := x)
  unfold rv row
  show ((if hitV c x then c.pl else c.pl.set (nmO c x) ((row c (nmO c x)).set (plO c x) (some (lnO c x)))).getD n []).getD p none = _
  by_cases hh : hitV c x
  · rw [if_pos hh]
    by_cases e : nmO c x = n ∧ plO c x = p
    · rw [if_pos e]
      obtain ⟨rfl, rfl⟩ := e
      have z := ixo_at hh
      have ep : plO c x = ixo (some (lnO c x)) (row c (nmO c x)) := if_pos hh
      rw [ep, List.getD_eq_getElem?_getD]
      show ((row c (nmO c x))[ixo (some (lnO c x)) (row c (nmO c x))]?).getD none = _
      rw [z]
      rfl
    · rw [if_neg e]
  · rw [if_neg hh, getD_setO (by rw [wf.lp]; exact h)]
    by_cases e : nmO c x = n
    · subst e
      rw [if_pos rfl, getD_setO (by rw [wf.rowL h]; exact hp)]
      by_cases e2 : plO c x = p
      · rw [if_pos e2, if_pos ⟨rfl, e2⟩]
      · rw [if_neg e2, if_neg (fun z => e2 z.2)]
        rfl
    · rw [if_neg e, if_neg (fun z => e z.1)]
theorem rv_drop (wf : CWf d c) : rv (dpV c x) n p = if hitV c x ∧ nmO c x = n ∧ ixo (some (lnO c x)) (row c (nmO c x)) = p then none else rv c n p := by
  have h := (wf.nm x).1
  unfold rv row
  show ((if hitV c x then c.pl.set (nmO c x) ((row c (nmO c x)).set (ixo (some (lnO c x)) (row c (nmO c x))) none) else c.pl).getD n []).getD p none = _
  by_cases hh : hitV c x
  · rw [if_pos hh, getD_setO (by rw [wf.lp]; exact h)]
    by_cases e : nmO c x = n
    · subst e
      rw [if_pos rfl, getD_setO (ixo_lt hh)]
      by_cases e2 : ixo (some (lnO c x)) (row c (nmO c x)) = p
      · rw [if_pos e2, if_pos ⟨hh, rfl, e2⟩]
      · rw [if_neg e2, if_neg (fun z => e2 z.2.2)]
        rfl
    · rw [if_neg e, if_neg (fun z => e z.2.1)]
  · rw [if_neg hh, if_neg (fun z => hh z.1)]
theorem mem_rv (wf : CWf d c) (hn : n < c.S) {o : Option Int} : o ∈ row c n ↔ ∃ p, p < c.W ∧ rv c n p = o := by
  have hl := wf.rowL hn
  constructor
  · intro h
    obtain ⟨p, hp, e⟩ := List.mem_iff_getElem.mp h
    refine ⟨p, by omega, ?_⟩
    unfold rv
    rw [List.getD_eq_getElem?_getD, List.getElem?_eq_getElem hp, e]
    rfl
  · rintro ⟨p, hp, rfl⟩
    exact getD_mem (by omega)
/-- each line once, in its set; times -/
structure One (c : CSt) : Prop where
  inn : ∀ n, n < c.S → ∀ p, p < c.W → ∀ y, rv c n p = some y → y % (c.S : Int) = n
  once : ∀ n, n < c.S → ∀ p, p < c.W → ∀ q, q < c.W → ∀ y, rv c n p = some y → rv c n q = some y → p = q
  late : ∀ n, n < c.S → ∀ p, p < c.W → tv c n p ≤ c.t
  dis : ∀ n, n < c.S → ∀ p, p < c.W → ∀ q, q < c.W → ∀ y z, rv c n p = some y → rv c n q = some z → tv c n p = tv c n q → p = q
/-- the line that is touched stands at no other place -/
theorem One.else (o : One c) (wf : CWf d c) (hp : p < c.W) (e : rv c (nmO c x) p = some (lnO c x)) : p = plO c x := by
  have hn := (wf.nm x).1
  have hh : hitV c x := (mem_rv wf hn).mpr ⟨p, hp, e⟩
  have ep : plO c x = ixo (some (lnO c x)) (row c (nmO c x)) := if_pos hh
  have hl := wf.rowL hn
  have hi := ixo_lt hh
  refine o.once _ hn p hp _ (wf.pl_) _ e ?_
  unfold rv
  rw [ep, List.getD_eq_getElem?_getD, ixo_at hh]
  rfl
theorem One.touch (o : One c) (wf : CWf d c) (hP : c.P = "lru") : One (tcV c x) := by
  have hn := (wf.nm x).1
  have hpl := wf.pl_ (x := x)
  refine ⟨?_, ?_, ?_, ?_⟩
  · intro n hn' p hp y e
    rw [rv_touch wf] at e
    split at e
    · rename_i h
      cases e
      rw [← h.1]
      exact (wf.nm x).2
    · exact o.inn n hn' p hp y e
  · intro n hn' p hp q hq y e1 e2
    rw [rv_touch wf] at e1 e2
    split at e1 <;> split at e2
    · rename_i h1 h2
      omega
    · rename_i h1 h2
      cases e1
      rw [← h1.1] at e2
      exact absurd ⟨h1.1, (o.else wf hq e2).symm⟩ h2
    · rename_i h1 h2
      cases e2
      rw [← h2.1] at e1
      exact absurd ⟨h2.1, (o.else wf hp e1).symm⟩ h1
    · exact o.once n hn' p hp q hq y e1 e2
  · intro n hn' p hp
    rw [tv_touch wf hP]
    show _ ≤ c.t + 1
    have := o.late n hn' p hp
    split <;> omega
  · intro n hn' p hp q hq y z e1 e2 e3
    rw [rv_touch wf] at e1 e2
    rw [tv_touch wf hP, tv_touch wf hP] at e3
    have l1 := o.late n hn' p hp
    have l2 := o.late n hn' q hq
    split at e1 <;> split at e2
    · rename_i h1 h2
      omega
    · rename_i h1 h2
      rw [if_pos h1, if_neg h2] at e3
      omega
    · rename_i h1 h2
      rw [if_neg h1, if_pos h2] at e3
      omega
    · rename_i h1 h2
      rw [if_neg h1, if_neg h2] at e3
      exact o.dis n hn' p hp q hq y z e1 e2 e3
theorem One.drop (o : One c) (wf : CWf d c) : One (dpV c x) := by
  have old : ∀ {n p : Nat} {y : Int}, rv (dpV c x) n p = some y → rv c n p = some y := by
    intro n p y e
    rw [rv_drop wf] at e
    split at e
    · cases e
    · exact e
  exact ⟨fun n hn p hp y e => o.inn n hn p hp y (old e), fun n hn p hp q hq y e1 e2 => o.once n hn p hp q hq y (old e1) (old e2), o.late, fun n hn p hp q hq y z e1 e2 e3 => o.dis n hn p hp q hq y z (old e1) (old e2) e3⟩
/-- the dropped line is gone -/
theorem One.gone (o : One c) (wf : CWf d c) (hp : p < c.W) : rv (dpV c x) (nmO c x) p ≠ some (lnO c x) := by
  intro e
  have hn := (wf.nm x).1
  rw [rv_drop wf] at e
  split at e
  · cases e
  · rename_i h
    have hh : hitV c x := (mem_rv wf hn).mpr ⟨p, hp, e⟩
    have := o.else wf hp e
    have ep : plO c x = ixo (some (lnO c x)) (row c (nmO c x)) := if_pos hh
    exact h ⟨hh, rfl, by rw [← ep]; exact this.symm⟩
end
/-- no more pigeons than holes -/
theorem pigeon : ∀ (k m : Nat) (f : Nat → Nat), (∀ q, q < m → f q < k) → (∀ q, q < m → ∀ q', q' < m → f q = f q' → q = q') → m ≤ k
  | 0, m, f, h, _ => by
    rcases Nat.eq_zero_or_pos m with e | e
    · omega
    · have := h 0 e
      omega
  | k + 1, m, f, h, inj => by
    by_cases hk : ∃ q, q < m ∧ f q = k
    · obtain ⟨q0, hq0, e0⟩ := hk
      have := pigeon k (m - 1) (fun q => if q < q0 then f q else f (q + 1)) ?_ ?_
      · omega
      · intro q hq
        show (if q < q0 then f q else f (q + 1)) < k
        split
        · have h1 := h q (by omega)
          have h2 : f q ≠ k := fun z => by
            have := inj q (by omega) q0 hq0 (by omega)
            omega
          omega
        · have h1 := h (q + 1) (by omega)
          have h2 : f (q + 1) ≠ k := fun z => by
            have := inj (q + 1) (by omega) q0 hq0 (by omega)
            omega
          omega
      · intro q hq q' hq' e
        have e : (if q < q0 then f q else f (q + 1)) = if q' < q0 then f q' else f (q' + 1) := e
        split at e <;> split at e
        · exact inj q (by omega) q' (by omega) e
        · have := inj q (by omega) (q' + 1) (by omega) e
          omega
        · have := inj (q + 1) (by omega) q' (by omega) e
          omega
        · have := inj (q + 1) (by omega) (q' + 1) (by omega) e
          omega
    · have := pigeon k m f (fun q hq => by
        have h1 := h q hq
        have h2 : f q ≠ k := fun z => hk ⟨q, hq, z⟩
        omega) inj
      omega
structure Inc (a b : CSt) : Prop where
  s : a.S = b.S
  z : a.Z = b.Z
  t : a.t = b.t
  w : a.W < b.W
  inc : ∀ n, n < a.S → ∀ p, p < a.W → ∀ y, rv a n p = some y → ∃ q, q < b.W ∧ rv b n q = some y ∧ tv b n q = tv a n p
  old : ∀ n, n < a.S → ∀ q, q < b.W → ∀ x, rv b n q = some x → (∀ p, p < a.W → rv a n p ≠ some x) → ∀ p, p < a.W → ∀ y, rv a n p = some y → tv b n q < tv a n p
/-- the victim's time is the least -/
theorem mnI_le {r : List Int} {p : Nat} (hp : p < r.length) : r.getD (mnI r) 0 ≤ r.getD p 0 := by
  have hl := mnI_lt (r := r) (by omega)
  have z := List.findIdx_getElem (w := hl)
  have e : r.getD (mnI r) 0 = r[mnI r] := by rw [List.getD_eq_getElem?_getD, List.getElem?_eq_getElem hl]; rfl
  rw [e]
  rw [List.all_eq_true] at z
  exact of_decide_eq_true (z _ (getD_mem hp))
section
variable {da db : CAd} {a b : CSt} {x : Int}
/-- what a miss in a full set takes -/
theorem full_or {d : CAd} {c : CSt} (wf : CWf d c) (hP : c.P = "lru") (hm : ¬ hitV c x) : rv c (nmO c x) (plO c x) = none ∨ ((∀ p, p < c.W → ∃ y, rv c (nmO c x) p = some y) ∧ ∀ p, p < c.W → tv c (nmO c x) (plO c x) ≤ tv c (nmO c x) p) := by
  have hn := (wf.nm x).1
  have e : plO c x = fpV c (nmO c x) := if_neg hm
  have np : ¬ c.P = "plru" := by rw [hP]; decide +kernel
  unfold fpV at e
  by_cases h : none ∈ row c (nmO c x)
  · rw [if_pos h] at e
    refine .inl ?_
    unfold rv
    rw [e, List.getD_eq_getElem?_getD, ixo_at h]
    rfl
  · rw [if_neg h, if_neg np] at e
    refine .inr ⟨fun p hp => ?_, fun p hp => ?_⟩
    · cases er : rv c (nmO c x) p with
      | none => exact absurd ((mem_rv wf hn).mpr ⟨p, hp, er⟩) h
      | some y => exact ⟨y, rfl⟩
    · unfold tv
      rw [e]
      exact mnI_le (by rw [wf.tmL hn]; exact hp)
end
section
variable {da db : CAd} {a b : CSt} {x : Int}
theorem nm_ab (h : Inc a b) : nmO b x = nmO a x ∧ lnO b x = lnO a x := by
  unfold nmO lnO
  rw [h.s, h.z]
  exact ⟨rfl, rfl⟩
theorem Inc.hit (h : Inc a b) (wa : CWf da a) (wb : CWf db b) (hh : hitV a x) : hitV b x := by
  have hn := (wa.nm x).1
  obtain ⟨p, hp, e⟩ := (mem_rv wa hn).mp hh
  obtain ⟨q, hq, e2, _⟩ := h.inc _ hn p hp _ e
  show some (lnO b x) ∈ row b (nmO b x)
  rw [(nm_ab h).1, (nm_ab h).2]
  exact (mem_rv wb (by rw [← h.s]; exact hn)).mpr ⟨q, hq, e2⟩
/-- in a miss of both the greater cache does not take a line of the smaller one -/
theorem Inc.spare (h : Inc a b) (wa : CWf da a) (wb : CWf db b) (ob : One b) (pb : b.P = "lru") (hm : ¬ hitV b x) : ∀ y, rv b (nmO a x) (plO b x) = some y → ∀ p, p < a.W → rv a (nmO a x) p ≠ some y := by
  intro y ey p hp ep
  have hn := (wa.nm x).1
  have hnb : nmO a x < b.S := by rw [← h.s]; exact hn
  have hpl := wb.pl_ (x := x)
  rcases full_or wb pb hm with z | ⟨z1, z2⟩
  · rw [(nm_ab h).1, ey] at z
    cases z
  · rw [(nm_ab h).1] at z1 z2
    -- a line of the greater one that the smaller one has not
    have : ∃ q, q < b.W ∧ ∀ x0, rv b (nmO a x) q = some x0 → ∀ p, p < a.W → rv a (nmO a x) p ≠ some x0 := by
      apply Classical.byContradiction
      intro no
      have all : ∀ q, q < b.W → ∃ p, p < a.W ∧ rv a (nmO a x) p = rv b (nmO a x) q := fun q hq => by
        apply Classical.byContradiction
        intro no2
        refine no ⟨q, hq, fun x0 e0 p hp e1 => no2 ⟨p, hp, by rw [e1, e0]⟩⟩
      have ch : ∀ q, ∃ p, q < b.W → p < a.W ∧ rv a (nmO a x) p = rv b (nmO a x) q := fun q => by
        by_cases hq : q < b.W
        · obtain ⟨p, h1, h2⟩ := all q hq
          exact ⟨p, fun _ => ⟨h1, h2⟩⟩
        · exact ⟨0, fun z => absurd z hq⟩
      have := pigeon a.W b.W (fun q => Classical.choose (ch q)) (fun q hq => (Classical.choose_spec (ch q) hq).1) (fun q hq q' hq' e => by
        have e1 := (Classical.choose_spec (ch q) hq).2
        have e2 := (Classical.choose_spec (ch q') hq').2
        have e : Classical.choose (ch q) = Classical.choose (ch q') := e
        rw [← e, e1] at e2
        obtain ⟨y1, hy1⟩ := z1 q hq
        rw [hy1] at e2
        exact ob.once _ hnb q hq q' hq' y1 hy1 e2.symm)
      have := h.w
      omega
    obtain ⟨q0, hq0, hno⟩ := this
    obtain ⟨x0, e0⟩ := z1 q0 hq0
    have l1 := h.old _ hn q0 hq0 x0 e0 (hno x0 e0) p hp y ep
    obtain ⟨q, hq, e2, e3⟩ := h.inc _ hn p hp y ep
    have : q = plO b x := ob.once _ hnb q hq _ hpl y e2 ey
    rw [this] at e3
    have l2 := z2 q0 hq0
    omega
theorem Inc.touch (h : Inc a b) (wa : CWf da a) (wb : CWf db b) (oa : One a) (ob : One b) (pa : a.P = "lru") (pb : b.P = "lru") : Inc (tcV a x) (tcV b x) := by
  obtain ⟨en, el⟩ := nm_ab (x := x) h
  have hn := (wa.nm x).1
  have hnb : nmO a x < b.S := by rw [← h.s]; exact hn
  have hpa := wa.pl_ (x := x)
  have hpb := wb.pl_ (x := x)
  refine ⟨h.s, h.z, ?_, h.w, ?_, ?_⟩
  · show a.t + 1 = b.t + 1
    rw [h.t]
  · intro n hn' p hp y e
    rw [rv_touch wa] at e
    rw [tv_touch wa pa]
    by_cases c1 : nmO a x = n ∧ plO a x = p
    · rw [if_pos c1] at e
      rw [if_pos c1]
      cases e
      refine ⟨plO b x, hpb, ?_, ?_⟩
      · rw [rv_touch wb, if_pos ⟨en.trans c1.1, rfl⟩, el]
      · rw [tv_touch wb pb, if_pos ⟨en.trans c1.1, rfl⟩, h.t]
    · rw [if_neg c1] at e
      rw [if_neg c1]
      obtain ⟨q, hq, e2, e3⟩ := h.inc n hn' p hp y e
      refine ⟨q, hq, ?_, ?_⟩
      · rw [rv_touch wb, if_neg]
        · exact e2
        · rintro ⟨f1, rfl⟩
          have f2 : nmO a x = n := en.symm.trans f1
          subst f2
          by_cases hb : hitV b x
          · have := ob.else wb (x := x) (p := plO b x) hpb (by
              obtain ⟨q', hq', e'⟩ := (mem_rv wb (wb.nm x).1).mp hb
              have := ob.else wb hq' e'
              rw [← this]
              exact e')
            obtain ⟨q', hq', e'⟩ := (mem_rv wb (wb.nm x).1).mp hb
            have f3 := ob.else wb hq' e'
            subst f3
            rw [en, e2, el] at e'
            cases e'
            exact c1 ⟨rfl, (oa.else wa hp e).symm⟩
          · exact h.spare wa wb ob pb hb y e2 p hp e
      · rw [tv_touch wb pb, if_neg]
        · exact e3
        · rintro ⟨f1, rfl⟩
          have f2 : nmO a x = n := en.symm.trans f1
          subst f2
          by_cases hb : hitV b x
          · obtain ⟨q', hq', e'⟩ := (mem_rv wb (wb.nm x).1).mp hb
            have f3 := ob.else wb hq' e'
            subst f3
            rw [en, e2, el] at e'
            cases e'
            exact c1 ⟨rfl, (oa.else wa hp e).symm⟩
          · exact h.spare wa wb ob pb hb y e2 p hp e
  · intro n hn' q hq x1 e1 no p hp y e2
    have hnb' : n < b.S := by rw [← h.s]; exact hn'
    have hp' : p < a.W := hp
    rw [rv_touch wb] at e1
    rw [tv_touch wb pb, tv_touch wa pa]
    by_cases c1 : nmO b x = n ∧ plO b x = q
    · rw [if_pos c1] at e1
      cases e1
      refine absurd ?_ (no (plO a x) hpa)
      rw [rv_touch wa, if_pos ⟨en.symm.trans c1.1, rfl⟩, el]
    · rw [if_neg c1] at e1
      rw [if_neg c1]
      have late := ob.late n hnb' q hq
      have ht := h.t
      by_cases c2 : nmO a x = n ∧ plO a x = p
      · rw [if_pos c2]
        omega
      · rw [if_neg c2]
        rw [rv_touch wa, if_neg c2] at e2
        by_cases ins : ∀ p', p' < a.W → rv a n p' ≠ some x1
        · exact h.old n hn' q hq x1 e1 ins p hp y e2
        · -- x1 was thrown out of the smaller one
          obtain ⟨p1, hp1, e3⟩ : ∃ p', p' < a.W ∧ rv a n p' = some x1 := by
            apply Classical.byContradiction
            intro z
            exact ins fun p' hp' e' => z ⟨p', hp', e'⟩
          have c3 : nmO a x = n ∧ plO a x = p1 := by
            apply Classical.byContradiction
            intro c3
            have := no p1 hp1
            rw [rv_touch wa, if_neg c3] at this
            exact this e3
          obtain ⟨f1, f2⟩ := c3
          subst f1
          subst f2
          obtain ⟨q', hq', e4, e5⟩ := h.inc _ hn _ hp1 x1 e3
          have f3 : q' = q := ob.once _ hnb q' hq' q hq x1 e4 e1
          subst f3
          rw [e5]
          by_cases ha : hitV a x
          · obtain ⟨q'', hq'', e'⟩ := (mem_rv wa hn).mp ha
            have f4 := oa.else wa hq'' e'
            subst f4
            rw [e3] at e'
            cases e'
            exfalso
            have hbq : rv b (nmO b x) q' = some (lnO b x) := by rw [en, el]; exact e4
            exact c1 ⟨en, (ob.else wb hq hbq).symm⟩
          · rcases full_or wa pa ha with z | ⟨_, z2⟩
            · rw [e3] at z
              cases z
            · have l1 := z2 p hp'
              have l2 : tv a (nmO a x) (plO a x) ≠ tv a (nmO a x) p := fun z => c2 ⟨rfl, oa.dis _ hn _ hp1 p hp' x1 y e3 e2 z⟩
              omega
theorem Inc.drop (h : Inc a b) (wa : CWf da a) (wb : CWf db b) (oa : One a) (ob : One b) : Inc (dpV a x) (dpV b x) := by
  obtain ⟨en, el⟩ := nm_ab (x := x) h
  have keep : ∀ {d : CAd} {c : CSt} {n p : Nat} {y : Int}, CWf d c → rv c n p = some y → ¬ (nmO c x = n ∧ y = lnO c x) → rv (dpV c x) n p = some y := by
    intro d c n p y wf e hne
    rw [rv_drop wf, if_neg]
    · exact e
    · rintro ⟨hh, f1, f2⟩
      subst f1
      subst f2
      refine hne ⟨rfl, ?_⟩
      unfold rv at e
      rw [List.getD_eq_getElem?_getD, ixo_at hh] at e
      exact (Option.some.inj e).symm
  have old : ∀ {d : CAd} {c : CSt} {n p : Nat} {y : Int}, CWf d c → rv (dpV c x) n p = some y → rv c n p = some y := by
    intro d c n p y wf e
    rw [rv_drop wf] at e
    split at e
    · cases e
    · exact e
  refine ⟨h.s, h.z, h.t, h.w, ?_, ?_⟩
  · intro n hn' p hp y e
    obtain ⟨q, hq, e2, e3⟩ := h.inc n hn' p hp y (old wa e)
    refine ⟨q, hq, keep wb e2 ?_, e3⟩
    rintro ⟨f1, rfl⟩
    have f2 : nmO a x = n := en.symm.trans f1
    subst f2
    rw [el] at e
    exact oa.gone wa hp e
  · intro n hn' q hq x1 e1 no p hp y e2
    refine h.old n hn' q hq x1 (old wb e1) (fun p1 hp1 e3 => ?_) p hp y (old wa e2)
    by_cases c : nmO a x = n ∧ x1 = lnO a x
    · obtain ⟨f1, rfl⟩ := c
      subst f1
      rw [← en, ← el] at e1
      exact ob.gone wb hq e1
    · exact no p1 hp1 (keep wa e3 c)
end


/-! ### a full set turns over -/
def bits : Nat → List (List Int)
  | 0 => [[]]
  | n + 1 => (bits n).flatMap fun l => [0 :: l, 1 :: l]
theorem mem_bits : ∀ {l : List Int} {n : Nat}, l.length = n → (∀ x ∈ l, x = 0 ∨ x = 1) → l ∈ bits n
  | [], 0, _, _ => by simp [bits]
  | x :: l, n + 1, hl, h => by
    have ih := mem_bits (l := l) (n := n) (Nat.succ.inj hl) fun y hy => h y (List.mem_cons_of_mem _ hy)
    unfold bits
    rw [List.mem_flatMap]
    refine ⟨l, ih, ?_⟩
    rcases h x List.mem_cons_self with rfl | rfl <;> simp
  | [], n + 1, hl, _ => by cases hl
/-- the next victims by pointers -/
def vics (W : Nat) : Nat → List Int → List Nat
  | 0, _ => []
  | k + 1, r => ptV r W :: vics W k (tnV r W (ptV r W))
def chk (W : Nat) (r : List Int) : Bool := decide ((vics W W r).Nodup) && ((vics W W r).all (fun p => decide (p < W)) && (decide ((vics W W r).length = W) && decide (vics W W (tnV r W (ptV r W)) = (vics W W r).tail ++ [ptV r W])))
theorem chk_1 : ∀ r ∈ bits 1, chk 1 r = true := by decide +kernel
theorem chk_2 : ∀ r ∈ bits 2, chk 2 r = true := by decide +kernel
theorem chk_4 : ∀ r ∈ bits 4, chk 4 r = true := by decide +kernel
theorem chk_8 : ∀ r ∈ bits 8, chk 8 r = true := by decide +kernel
def Pw (W : Nat) : Prop := W = 1 ∨ W = 2 ∨ W = 4 ∨ W = 8
structure Chk (W : Nat) (r : List Int) : Prop where
  nd : (vics W W r).Nodup
  lt : ∀ p ∈ vics W W r, p < W
  len : (vics W W r).length = W
  rot : vics W W (tnV r W (ptV r W)) = (vics W W r).tail ++ [ptV r W]
theorem chk_of {W : Nat} {r : List Int} (hW : Pw W) (hl : r.length = W) (h : ∀ x ∈ r, x = 0 ∨ x = 1) : Chk W r := by
  have hm := mem_bits hl h
  have c : chk W r = true := by
    rcases hW with rfl | rfl | rfl | rfl
    · exact chk_1 r hm
    · exact chk_2 r hm
    · exact chk_4 r hm
    · exact chk_8 r hm
  unfold chk at c
  rw [Bool.and_eq_true, Bool.and_eq_true, Bool.and_eq_true, decide_eq_true_eq, decide_eq_true_eq, decide_eq_true_eq, List.all_eq_true] at c
  exact ⟨c.1, fun p hp => of_decide_eq_true (c.2.1 p hp), c.2.2.1, c.2.2.2⟩
theorem vics_head {W : Nat} {r : List Int} (hW : Pw W) : (vics W W r).head? = some (ptV r W) := by
  rcases hW with rfl | rfl | rfl | rfl <;> rfl
/-- all places of a list of places without doubles -/
theorem cover {l : List Nat} {W : Nat} (nd : l.Nodup) (lt : ∀ p ∈ l, p < W) (len : l.length = W) {p : Nat} (hp : p < W) : p ∈ l := by
  by_cases h : p ∈ l
  · exact h
  · exfalso
    have hn : (p :: l).Nodup := List.nodup_cons.mpr ⟨h, nd⟩
    have hlt : ∀ q ∈ p :: l, q < W := fun q hq => by
      rcases List.mem_cons.mp hq with rfl | hq
      · exact hp
      · exact lt q hq
    have z := pigeon W (W + 1) (fun i => (p :: l).getD i 0) (fun q hq => by
      refine hlt _ ?_
      rw [List.getD_eq_getElem?_getD, List.getElem?_eq_getElem (by rw [List.length_cons]; omega)]
      exact List.getElem_mem _) (fun q hq q' hq' e => by
      have h1 : q < (p :: l).length := by rw [List.length_cons]; omega
      have h2 : q' < (p :: l).length := by rw [List.length_cons]; omega
      rw [List.getD_eq_getElem?_getD, List.getD_eq_getElem?_getD, List.getElem?_eq_getElem h1, List.getElem?_eq_getElem h2] at e
      exact nd_ix hn (List.getElem?_eq_getElem h1) ((List.getElem?_eq_getElem h2).trans (congrArg some (show (p :: l)[q'] = (p :: l)[q] from e.symm))))
    omega
section
variable {d : CAd} {c : CSt} {x : Int} {n p : Nat} {vl : List Nat}
theorem tv_any (wf : CWf d c) : tv (tcV c x) n p = if (nmO c x = n ∧ plO c x = p) ∧ (¬ hitV c x ∨ c.P = "lru") then c.t + 1 else tv c n p := by
  have h := (wf.nm x).1
  have hp := wf.pl_ (x := x)
  unfold tv tmv
  show ((if ¬ hitV c x ∨ c.P = "lru" then c.tm.set (nmO c x) ((tmv c (nmO c x)).set (plO c x) (c.t + 1)) else c.tm).getD n []).getD p 0 = _
  by_cases hc : ¬ hitV c x ∨ c.P = "lru"
  · rw [if_pos hc, getD_setO (by rw [wf.lt]; exact h)]
    by_cases e : nmO c x = n
    · subst e
      rw [if_pos rfl, getD_setO (by rw [wf.tmL h]; exact hp)]
      by_cases e2 : plO c x = p
      · rw [if_pos e2, if_pos ⟨⟨rfl, e2⟩, hc⟩]
      · rw [if_neg e2, if_neg (fun z => e2 z.1.2)]
        rfl
    · rw [if_neg e, if_neg (fun z => e z.1.1)]
  · rw [if_neg hc, if_neg (fun z => hc z.2)]
theorem One.any (o : One c) (wf : CWf d c) : One (tcV c x) := by
  have hn := (wf.nm x).1
  have hpl := wf.pl_ (x := x)
  have late : ∀ n, n < c.S → ∀ p, p < c.W → tv (tcV c x) n p ≤ c.t + 1 := by
    intro n hn' p hp
    rw [tv_any wf]
    split
    · exact Int.le_refl _
    · have := o.late n hn' p hp
      omega
  refine ⟨?_, ?_, late, ?_⟩
  · intro n hn' p hp y e
    rw [rv_touch wf] at e
    split at e
    · rename_i h
      cases e
      rw [← h.1]
      exact (wf.nm x).2
    · exact o.inn n hn' p hp y e
  · intro n hn' p hp q hq y e1 e2
    rw [rv_touch wf] at e1 e2
    split at e1
    · rename_i h1
      split at e2
      · rename_i h2
        rw [← h1.2, ← h2.2]
      · rename_i h2
        cases e1
        obtain ⟨rfl, rfl⟩ := h1
        exact (o.else wf hq e2).symm
    · rename_i h1
      split at e2
      · rename_i h2
        cases e2
        obtain ⟨rfl, rfl⟩ := h2
        exact o.else wf hp e1
      · exact o.once n hn' p hp q hq y e1 e2
  · intro n hn' p hp q hq y z e1 e2 et
    rw [tv_any wf, tv_any wf] at et
    have old : ∀ {p : Nat} {y : Int}, p < c.W → rv (tcV c x) n p = some y → ¬ ((nmO c x = n ∧ plO c x = p) ∧ (¬ hitV c x ∨ c.P = "lru")) → ∃ y', rv c n p = some y' := by
      intro p y hp e h
      rw [rv_touch wf] at e
      split at e
      · rename_i h1
        have hh : hitV c x := by
          by_cases hh : hitV c x
          · exact hh
          · exact absurd ⟨h1, .inl hh⟩ h
        obtain ⟨rfl, rfl⟩ := h1
        obtain ⟨p', hp', e'⟩ := (mem_rv wf hn').mp hh
        have := o.else wf hp' e'
        rw [← this]
        exact ⟨_, e'⟩
      · exact ⟨_, e⟩
    split at et
    · rename_i h1
      split at et
      · rename_i h2
        rw [← h1.1.2, ← h2.1.2]
      · have := o.late n hn' q hq
        omega
    · rename_i h1
      split at et
      · have := o.late n hn' p hp
        omega
      · rename_i h2
        obtain ⟨y', e1'⟩ := old hp e1 h1
        obtain ⟨z', e2'⟩ := old hq e2 h2
        exact o.dis n hn' p hp q hq y' z' e1' e2' et
/-- the places of a full set, in the order in which misses take them -/
structure Nx (c : CSt) (n : Nat) (vl : List Nat) : Prop where
  len : vl.length = c.W
  nd : vl.Nodup
  lt : ∀ p ∈ vl, p < c.W
  full : ∀ p, p < c.W → ∃ y, rv c n p = some y
  seq : (c.P = "plru" ∧ vl = vics c.W c.W (ptv c n)) ∨ (¬ c.P = "plru" ∧ vl.Pairwise fun p q => tv c n p < tv c n q)
theorem Nx.noNone (h : Nx c n vl) (wf : CWf d c) (hn : n < c.S) : ¬ none ∈ row c n := fun z => by
  obtain ⟨p, hp, e⟩ := (mem_rv wf hn).mp z
  obtain ⟨y, e2⟩ := h.full p hp
  rw [e] at e2
  cases e2
theorem Nx.fp (h : Nx c n vl) (wf : CWf d c) (hW : Pw c.W) (hn : n < c.S) : vl.head? = some (fpV c n) := by
  unfold fpV
  rw [if_neg (h.noNone wf hn)]
  rcases h.seq with ⟨hp, e⟩ | ⟨hp, e⟩
  · rw [if_pos hp, e]
    exact vics_head hW
  · rw [if_neg hp]
    have wl := wf.tmL hn
    have w0 := wf.w0
    match vl, h, e with
    | [], h, _ => exact absurd h.len (by simp; omega)
    | v :: r, h, e =>
      rw [List.head?_cons]
      congr 1
      have hv := h.lt v List.mem_cons_self
      have hpw := List.pairwise_cons.mp e
      have lt : ∀ q, q < c.W → q ≠ v → tv c n v < tv c n q := fun q hq hne => by
        rcases List.mem_cons.mp (cover h.nd h.lt h.len hq) with z | z
        · exact absurd z hne
        · exact hpw.1 q z
      have m1 : tv c n v ∈ tmv c n := getD_mem (by omega)
      have m2 : ∀ y ∈ tmv c n, tv c n v ≤ y := fun y hy => by
        obtain ⟨q, hq, eq⟩ := List.mem_iff_getElem.mp hy
        have ey : tv c n q = y := by
          unfold tv
          rw [List.getD_eq_getElem?_getD, List.getElem?_eq_getElem hq, eq]
          rfl
        by_cases z : q = v
        · rw [← ey, z]
          exact Int.le_refl _
        · have := lt q (by omega) z
          omega
      have hm := mnI_eq m1 m2
      have hi := ixi_lt m1
      have hg := List.findIdx_getElem (w := hi)
      rw [decide_eq_true_eq] at hg
      rw [← hm] at hi
      have eg : tv c n (mnI (tmv c n)) = tv c n v := by
        unfold tv
        rw [List.getD_eq_getElem?_getD, List.getElem?_eq_getElem hi]
        show (tmv c n)[mnI (tmv c n)] = _
        simp only [hm]
        exact hg
      by_cases z : mnI (tmv c n) = v
      · exact z.symm
      · have := lt _ (by omega) z
        omega
theorem pair_snoc {α : Type} {R : α → α → Prop} {l : List α} {a : α} (h : l.Pairwise R) (ha : ∀ x ∈ l, R x a) : (l ++ [a]).Pairwise R :=
  List.pairwise_append.mpr ⟨h, List.pairwise_singleton _ _, fun x hx y hy => by
    rw [List.mem_singleton.mp hy]
    exact ha x hx⟩
theorem ptv_touch (wf : CWf d c) (hP : c.P = "plru") : ptv (tcV c x) (nmO c x) = tnV (ptv c (nmO c x)) c.W (plO c x) := by
  have h := (wf.nm x).1
  unfold ptv
  show ((if c.P = "plru" then c.pt.set (nmO c x) (tnV (ptv c (nmO c x)) c.W (plO c x)) else c.pt).getD (nmO c x) []) = _
  rw [if_pos hP, getD_setO (by rw [wf.lq]; exact h), if_pos rfl]
  rfl
theorem Nx.keeps (h : Nx c (nmO c x) vl) (wf : CWf d c) : ∀ p, p < c.W → ∃ y, rv (tcV c x) (nmO c x) p = some y := fun p hp => by
  rw [rv_touch wf]
  split
  · exact ⟨_, rfl⟩
  · exact h.full p hp
/-- a miss takes the first one, which is the last one then -/
theorem Nx.miss (h : Nx c (nmO c x) vl) (wf : CWf d c) (o : One c) (hW : Pw c.W) (hm : ¬ hitV c x) : ∃ v r, vl = v :: r ∧ plO c x = v ∧ Nx (tcV c x) (nmO c x) (r ++ [v]) := by
  have hn := (wf.nm x).1
  have hf := h.fp wf hW hn
  have ep : plO c x = fpV c (nmO c x) := if_neg hm
  have ful := h.keeps wf
  match vl, h, hf with
  | [], h, hf => cases hf
  | v :: r, h, hf =>
    rw [List.head?_cons] at hf
    have ev : plO c x = v := by rw [ep]; exact (Option.some.inj hf).symm
    have nd := List.nodup_cons.mp h.nd
    refine ⟨v, r, rfl, ev, ⟨?_, ?_, ?_, ful, ?_⟩⟩
    · have := h.len
      rw [List.length_cons] at this
      rw [List.length_append]
      exact this
    · exact List.nodup_append.mpr ⟨nd.2, by simp, fun a ha b hb e => by
        rw [List.mem_singleton.mp hb] at e
        rw [e] at ha
        exact nd.1 ha⟩
    · intro p hp
      refine h.lt p ?_
      rcases List.mem_append.mp hp with z | z
      · exact List.mem_cons_of_mem _ z
      · rw [List.mem_singleton.mp z]
        exact List.mem_cons_self
    · rcases h.seq with ⟨hp, e⟩ | ⟨hp, e⟩
      · refine .inl ⟨hp, ?_⟩
        show _ = vics c.W c.W (ptv (tcV c x) (nmO c x))
        have ck := chk_of hW (wf.ptL hn) (wf.pt01 hn)
        have hv : v = ptV (ptv c (nmO c x)) c.W := by
          have := vics_head (r := ptv c (nmO c x)) hW
          rw [← e, List.head?_cons] at this
          exact Option.some.inj this
        rw [ptv_touch wf hp, ev, hv, ck.rot, ← e]
        rfl
      · refine .inr ⟨hp, ?_⟩
        have pw := List.pairwise_cons.mp e
        have old : ∀ q ∈ r, tv (tcV c x) (nmO c x) q = tv c (nmO c x) q := fun q hq => by
          rw [tv_any wf, if_neg]
          rintro ⟨⟨_, z⟩, _⟩
          rw [ev] at z
          rw [z] at nd
          exact nd.1 hq
        have new : tv (tcV c x) (nmO c x) v = c.t + 1 := by
          rw [tv_any wf, if_pos ⟨⟨rfl, ev⟩, .inl hm⟩]
        refine pair_snoc (pw.2.imp_of_mem fun ha hb hab => ?_) fun q hq => ?_
        · rw [old _ ha, old _ hb]
          exact hab
        · rw [old q hq, new]
          have := o.late _ hn q (h.lt q (List.mem_cons_of_mem _ hq))
          omega
/-- there is such an order -/
theorem Nx.ex (wf : CWf d c) (o : One c) (hW : Pw c.W) (hn : n < c.S) (full : ∀ p, p < c.W → ∃ y, rv c n p = some y) : ∃ vl, Nx c n vl := by
  by_cases hP : c.P = "plru"
  · have ck := chk_of hW (wf.ptL hn) (wf.pt01 hn)
    exact ⟨_, ck.len, ck.nd, ck.lt, full, .inl ⟨hP, rfl⟩⟩
  · have pm := List.mergeSort_perm (List.range c.W) fun a b => decide (tv c n a ≤ tv c n b)
    have st := List.pairwise_mergeSort (le := fun a b => decide (tv c n a ≤ tv c n b)) (fun a b e h1 h2 => decide_eq_true (Int.le_trans (of_decide_eq_true h1) (of_decide_eq_true h2))) (fun a b => by
      rcases Int.le_total (tv c n a) (tv c n b) with z | z
      · rw [decide_eq_true z]; rfl
      · rw [decide_eq_true z, Bool.or_true]) (List.range c.W)
    have nd : ((List.range c.W).mergeSort fun a b => decide (tv c n a ≤ tv c n b)).Nodup := pm.nodup_iff.mpr List.nodup_range
    have lt : ∀ p ∈ (List.range c.W).mergeSort fun a b => decide (tv c n a ≤ tv c n b), p < c.W := fun p hp => List.mem_range.mp (pm.mem_iff.mp hp)
    refine ⟨_, by rw [pm.length_eq, List.length_range], nd, lt, full, .inr ⟨hP, ?_⟩⟩
    have both := st.and nd
    refine both.imp_of_mem fun {a b} ha hb h => ?_
    have h1 := of_decide_eq_true h.1
    obtain ⟨y, ey⟩ := full a (lt a ha)
    obtain ⟨z, ez⟩ := full b (lt b hb)
    by_cases e : tv c n a = tv c n b
    · exact absurd (o.dis n hn a (lt a ha) b (lt b hb) y z ey ez e) h.2
    · omega
/-- a hit -/
theorem Nx.hit (h : Nx c (nmO c x) vl) (wf : CWf d c) (o : One c) (hW : Pw c.W) (hh : hitV c x) : ∃ vl', Nx (tcV c x) (nmO c x) vl' ∧ (c.P = "lru" → vl' = vl.filter (fun p => decide (p ≠ plO c x)) ++ [plO c x]) ∧ (c.P = "fifo" → vl' = vl) := by
  have hn := (wf.nm x).1
  have hpl := wf.pl_ (x := x)
  have ful := h.keeps wf
  by_cases hP : c.P = "plru"
  · obtain ⟨vl', h'⟩ := Nx.ex (n := nmO c x) (wf.tc (x := x)) (o.any wf (x := x)) hW hn ful
    refine ⟨vl', h', fun e => ?_, fun e => ?_⟩
    · rw [hP] at e
      exact absurd e (by decide +kernel)
    · rw [hP] at e
      exact absurd e (by decide +kernel)
  · have seq : vl.Pairwise fun p q => tv c (nmO c x) p < tv c (nmO c x) q := by
      rcases h.seq with ⟨z, _⟩ | ⟨_, z⟩
      · exact absurd z hP
      · exact z
    by_cases hl : c.P = "lru"
    · have mem : plO c x ∈ vl := cover h.nd h.lt h.len hpl
      have ndf : (vl.filter (fun p => decide (p ≠ plO c x))).Nodup := h.nd.filter _
      have nin : ∀ a ∈ vl.filter (fun p => decide (p ≠ plO c x)), a ≠ plO c x := fun a ha => of_decide_eq_true (List.mem_filter.mp ha).2
      have nd' : (vl.filter (fun p => decide (p ≠ plO c x)) ++ [plO c x]).Nodup := List.nodup_append.mpr ⟨ndf, by simp, fun a ha b hb e => by
        rw [List.mem_singleton.mp hb] at e
        exact nin a ha e⟩
      have pm : (vl.filter (fun p => decide (p ≠ plO c x)) ++ [plO c x]).Perm vl := by
        refine (List.perm_ext_iff_of_nodup nd' h.nd).mpr fun a => ?_
        constructor
        · intro ha
          rcases List.mem_append.mp ha with z | z
          · exact (List.mem_filter.mp z).1
          · rw [List.mem_singleton.mp z]
            exact mem
        · intro ha
          by_cases e : a = plO c x
          · subst e
            simp
          · exact List.mem_append_left _ (List.mem_filter.mpr ⟨ha, decide_eq_true e⟩)
      refine ⟨_, ⟨by rw [pm.length_eq]; exact h.len, nd', fun p hp => h.lt p (pm.mem_iff.mp hp), ful, .inr ⟨hP, ?_⟩⟩, fun _ => rfl, fun e => ?_⟩
      · have old : ∀ q ∈ vl.filter (fun p => decide (p ≠ plO c x)), tv (tcV c x) (nmO c x) q = tv c (nmO c x) q := fun q hq => by
          rw [tv_any wf, if_neg]
          rintro ⟨⟨_, z⟩, _⟩
          exact nin q hq z.symm
        refine pair_snoc ((seq.filter _).imp_of_mem fun ha hb hab => ?_) fun q hq => ?_
        · rw [old _ ha, old _ hb]
          exact hab
        · rw [old q hq, tv_any wf, if_pos ⟨⟨rfl, rfl⟩, .inr hl⟩]
          have := o.late _ hn q (h.lt q (List.mem_filter.mp hq).1)
          omega
      · rw [hl] at e
        exact absurd e (by decide +kernel)
    · refine ⟨vl, ⟨h.len, h.nd, h.lt, ful, .inr ⟨hP, ?_⟩⟩, fun e => absurd e hl, fun _ => rfl⟩
      have same : ∀ q, tv (tcV c x) (nmO c x) q = tv c (nmO c x) q := fun q => by
        rw [tv_any wf, if_neg]
        rintro ⟨_, z | z⟩
        · exact z hh
        · exact hl z
      refine seq.imp fun {a b} hab => ?_
      rw [same, same]
      exact hab
end


/-! ### sorted of a tuple of ints, of a list of ints; list(range()) -/
section
open PyProof.Rows
variable {prog : Program} {w0 : World} {A0 : Around} {E0' : Value → Shared → Prop} {st : Shared}
theorem gather_tup {q : Addr} {us : List Value} {R : List Value → Shared → Prop} (ht : st.heap.IsTuple q us.toArray)
    (hR : R us { st with heap := (st.heap.push (seqObj "list" #[] 0)).update st.heap.objs.size (Obj.mapSeq (· ++ us.toArray)) }) (hz : us.length ≤ sizeLine) :
    wpAny (model prog w0) A0 (collect (.ref q)) R E0' st := by
  obtain ⟨ob, hob, hcl, k, hdt⟩ := id ht
  unfold collect
  refine wpAny_bind (wpAny_runValue (codeAny_builtin entry_proto_collect' (R := _) ?_))
  show wpAny _ _ (do again (.builtin "list.__iadd__" ⟨[← newList [], .ref q], []⟩)) _ _ st
  refine wpAny_bind (wpAny_newList (wpAny_pure ⟨Code.quiet_builtin _ (by decide +kernel), codeAny_builtin entry_list_iadd' (R := _) ?_⟩))
  show wpAny _ _ (Builtin.List.listExtendWith (.ref st.heap.objs.size) (.ref q) (.ref st.heap.objs.size)) _ _ { st with heap := st.heap.push (seqObj "list" #[] 0) }
  unfold Builtin.List.listExtendWith
  have hob' : (st.heap.push (seqObj "list" #[] 0)).get? q = some ob := Heap.get?_push_of_some _ hob
  refine wpAny_bind (wpAny_typeOf (T := "tuple") ⟨ob, hob', hcl⟩ ?_)
  have h1 : (Value.type "tuple" == Value.type "tuple") = true := by rfl
  rw [if_pos (by rw [h1]; simp)]
  refine wpAny_bind (listItems_at hob' hdt ?_)
  refine wpAny_bind (listItems_at (xs := #[]) (n := 0) (Heap.get?_push_size _ (rfl : _ = _)) rfl ?_)
  rw [if_neg (by simp)]
  refine wpAny_bind (listUpdate_at (xs := #[]) (n := 0) (Heap.get?_push_size _ rfl) rfl ?_ (Nat.zero_le _) (by show (#[] ++ us.toArray).size ≤ sizeLine + 1; simp only [Array.size_append, List.size_toArray, List.length_nil]; omega))
  refine wpAny_pure ?_
  show wpAny (model prog w0) A0 (do
      let o ← load st.heap.objs.size
      match o.data with
      | .seq xs _ => pure xs.toList
      | _ => unsupported "internal:collect") R E0' { st with heap := (st.heap.push (seqObj "list" #[] 0)).update st.heap.objs.size (Obj.mapSeq (· ++ us.toArray)) }
  refine wpAny_bind (wpAny_load (get?_update_seq (Heap.get?_push_size _ (rfl : _ = _)) _) ?_)
  show wpAny _ _ (pure ((#[] : Array Value) ++ us.toArray).toList) R E0' _
  rw [show ((#[] : Array Value) ++ us.toArray).toList = us by simp]
  exact wpAny_pure hR
theorem sorted_tup {q : Addr} {us : List Value} {ms : List Int} {R : Value → Shared → Prop} (ht : st.heap.IsTuple q us.toArray) (hi : IntsAre us ms) (hz : us.length < 64)
    (hR : ∀ (out : Array Value) (ms' : List Int), IntsAre out.toList ms' → ms'.Perm ms → ms'.Pairwise (· ≤ ·) → R (.ref (st.heap.objs.size + 1)) { st with heap := sortedAll st.heap us out }) :
    wpAny (model prog w0) A0 (call (.builtin "sorted") [.ref q]) R E0' st := by
  have line : us.length ≤ sizeLine := by rw [sizeLine_eq]; omega
  refine Calls.call_function_entry kind_sorted plain_sorted entry_sorted (args_sorted1 (.ref q)) ?_
  unfold Builtin.«sorted»
  refine wpAny_bind (m := checkCount "sorted" 1 1 _) (wpAny_pure (wpAny_bind (gather_tup ht ?_ line)))
  have e1 : ((st.heap.push (seqObj "list" #[] 0)).update st.heap.objs.size (Obj.mapSeq (· ++ us.toArray))).objs.size = st.heap.objs.size + 1 := by rw [Heap.size_update, size_push']
  have e2 : (((st.heap.push (seqObj "list" #[] 0)).update st.heap.objs.size (Obj.mapSeq (· ++ us.toArray))).push (seqObj "list" us.toArray 0)).get? (st.heap.objs.size + 1) = some (seqObj "list" us.toArray 0) := by rw [← e1]; exact Heap.get?_push_size _ rfl
  refine wpAny_bind (wpAny_newList ?_ line)
  show wpAny _ _ _ _ _ { st with heap := ((st.heap.push (seqObj "list" #[] 0)).update st.heap.objs.size (Obj.mapSeq (· ++ us.toArray))).push (seqObj "list" us.toArray 0) }
  rw [e1]
  refine wpAny_bind (wpAny_holding (wpAny_call_entry slot_list_sort ⟨_, e2, rfl⟩ entry_list_sort (list_sort_tree e2 hi hz fun out ms' a1 a2 a3 => ⟨_, rfl, ?_⟩) (args_list_sort _)))
  exact wpAny_pure ⟨_, rfl, hR out ms' a1 a2 a3⟩
end
def rSortU (K : PySem.W.Frag) : List V → Hp → VK → Prop := fun vs H Q => ∃ (a : Addr) (ns : List Int), vs = [V.ref a] ∧ (SqL K H a (ns.map V.int) ∨ SqT K H a (ns.map V.int)) ∧ ns.length < 64 ∧
  ∀ (ns' : List Int) (p : Addr), ns'.Perm ns → ns'.Pairwise (· ≤ ·) → H p = none → Q (.ref p) (upd H p (.lst (ns'.map V.int)))
theorem c_sortU {X : Cx} {K : PySem.W.Frag} (hK : X.K = K) : CallR X (.builtin "sorted") (rSortU K) := by
  subst hK
  intro pins s σ H vs us Q I r h
  obtain ⟨a, ns, rfl, hq, h64, q⟩ := h
  rcases hq with hq | hq
  · exact cr_sorted pins s σ H _ us Q I r ⟨a, ns, rfl, hq, h64, q⟩
  · obtain ⟨its, rv, ht, _⟩ := I.tuple hq
    rw [Vals.ref1 r]
    have hi := rv.ints
    refine sorted_tup (show s.heap.IsTuple a its.toArray from ht) hi (by rw [hi.length]; exact h64) fun out ns' h1 h2 h3 => ?_
    obtain ⟨ep, he'⟩ := PyProof.Rows.sortedAll_at s.heap its out
    have hlen : (ns'.map V.int).length ≤ sizeLine := by rw [List.length_map, h2.length_eq]; exact small64 h64
    exact ⟨.ref _, upd H (s.heap.objs.size + 1) (.lst (ns'.map V.int)), I.laid (t' := s.toks) (fun _ _ => PyProof.Rows.sortedAll_old) (Nat.le_succ _) (show ObjOk X.prog X.w _ _ _ (.lst (ns'.map V.int)) from ⟨hlen, out.toList, ep, vals_of_ints h1, he'⟩), rfl, q ns' _ h2 h3 (I.hok.fresh (Nat.le_succ _))⟩
/-- two sorted lists of the same ints are the same -/
theorem sorted_eq : ∀ {l m : List Int}, l.Perm m → l.Pairwise (· ≤ ·) → m.Pairwise (· ≤ ·) → l = m
  | [], m, p, _, _ => (List.nil_perm.mp p).symm
  | a :: l, [], p, _, _ => absurd p.length_eq (by simp)
  | a :: l, b :: m, p, h1, h2 => by
    obtain ⟨a1, l1⟩ := List.pairwise_cons.mp h1
    obtain ⟨b1, m1⟩ := List.pairwise_cons.mp h2
    have hab : a = b := by
      have ha : a ∈ b :: m := p.mem_iff.mp List.mem_cons_self
      have hb : b ∈ a :: l := p.mem_iff.mpr List.mem_cons_self
      rcases List.mem_cons.mp ha with z | z
      · exact z
      · rcases List.mem_cons.mp hb with y | y
        · exact y.symm
        · have := a1 b y
          have := b1 a z
          omega
    subst hab
    rw [sorted_eq (List.perm_cons a |>.mp p) l1 m1]


/-! ### a set is filled, then hit -/
/-- the line of an address -/
theorem ln_mul {c : CSt} {y r : Int} (hz : 0 < c.Z) (h0 : 0 ≤ r) (h1 : r < (c.Z : Int)) : lnO c (y * (c.Z : Int) + r) = y := by
  unfold lnO
  rw [Int.add_comm, Int.add_mul_ediv_right _ _ (by omega), Int.ediv_eq_zero_of_lt h0 h1, Int.zero_add]
theorem nm_of {c : CSt} {x : Int} {n : Nat} (h : lnO c x % (c.S : Int) = (n : Int)) : nmO c x = n := by
  unfold nmO
  rw [h]
  exact Int.toNat_natCast n
/-- the k-th new line -/
def nl (n S W : Nat) (k : Nat) : Int := (n : Int) + (S : Int) * (2 * (W : Int) + (k : Int))
theorem nl_mod {n S W k : Nat} (h : n < S) : nl n S W k % (S : Int) = (n : Int) := by
  unfold nl
  rw [Int.add_mul_emod_self_left]
  exact Int.emod_eq_of_lt (by omega) (by omega)
theorem nl_inj {n S W i j : Nat} (hS : 0 < S) (h : nl n S W i = nl n S W j) : i = j := by
  unfold nl at h
  have h1 : (S : Int) * (2 * (W : Int) + (i : Int)) = (S : Int) * (2 * (W : Int) + (j : Int)) := by omega
  have h2 := Int.eq_of_mul_eq_mul_left (by omega : (S : Int) ≠ 0) h1
  omega
theorem nl_big {n S W k : Nat} : (S : Int) * (2 * (W : Int)) ≤ nl n S W k := by
  unfold nl
  rw [Int.mul_add]
  have h1 : (0 : Int) ≤ (S : Int) * (k : Int) := Int.mul_nonneg (by omega) (by omega)
  omega
abbrev nls (n S W j : Nat) : List Int := (List.range j).map (nl n S W)
theorem nls_succ {n S W j : Nat} : nls n S W (j + 1) = nls n S W j ++ [nl n S W j] := by
  unfold nls
  rw [List.range_succ, List.map_append]
  rfl
theorem nls_len {n S W j : Nat} : (nls n S W j).length = j := by
  unfold nls
  rw [List.length_map, List.length_range]
theorem nls_nodup {n S W j : Nat} (hS : 0 < S) : (nls n S W j).Nodup := by
  unfold nls
  have : (List.range j).Pairwise fun a b => nl n S W a ≠ nl n S W b := List.nodup_range.imp fun h e => h (nl_inj hS e)
  exact List.pairwise_map.mpr this
/-- behind j new lines -/
structure Fill (c : CSt) (n j : Nat) : Prop where
  ln : ∀ p, p < c.W → ∀ y, rv c n p = some y → y < (c.S : Int) * (2 * (c.W : Int)) ∨ ∃ i, i < j ∧ y = nl n c.S c.W i
  up : ∀ p, p < c.W → p < j → ∃ y, rv c n p = some y
  nx : c.W ≤ j → ∃ vl, Nx c n vl ∧ (vl.drop (c.W - min (j - c.W) c.W)).map (rv c n) = ((nls n c.S c.W j).drop (j - min (j - c.W) c.W)).map some
section
variable {d : CAd} {c : CSt} {x : Int} {n j : Nat}
theorem Fill.miss (f : Fill c n j) (wf : CWf d c) (hn : n < c.S) (hl : lnO c x = nl n c.S c.W j) : ¬ hitV c x := fun hh => by
  have e : nmO c x = n := nm_of (by rw [hl]; exact nl_mod hn)
  have s0 := wf.s0
  unfold hitV at hh
  rw [e] at hh
  obtain ⟨p, hp, ep⟩ := (mem_rv wf hn).mp hh
  rw [hl] at ep
  rcases f.ln p hp _ ep with z | ⟨i, hi, z⟩
  · have := nl_big (n := n) (S := c.S) (W := c.W) (k := j)
    omega
  · have := nl_inj s0 z
    omega
theorem Fill.step (f : Fill c n j) (wf : CWf d c) (o : One c) (hW : Pw c.W) (hn : n < c.S) (hl : lnO c x = nl n c.S c.W j) : Fill (tcV c x) n (j + 1) := by
  have e : nmO c x = n := nm_of (by rw [hl]; exact nl_mod hn)
  have hm := f.miss wf hn hl
  have hpl := wf.pl_ (x := x)
  have s0 := wf.s0
  have up : ∀ p, p < c.W → p < j + 1 → ∃ y, rv (tcV c x) n p = some y := by
    intro p hp hpj
    rw [rv_touch wf, e]
    split
    · exact ⟨_, rfl⟩
    · rename_i hne
      by_cases h : p < j
      · exact f.up p hp h
      · cases hr : rv c n p with
        | some y => exact ⟨y, rfl⟩
        | none =>
          exfalso
          have mem : none ∈ row c n := (mem_rv wf hn).mpr ⟨p, hp, hr⟩
          have ep : plO c x = ixo none (row c n) := by
            unfold plO
            rw [if_neg hm, e]
            unfold fpV
            rw [if_pos mem]
          have hlt := ixo_lt mem
          have hat := ixo_at mem
          have hrow := wf.rowL hn
          have hrv : rv c n (ixo none (row c n)) = none := by
            unfold rv
            rw [List.getD_eq_getElem?_getD, hat]
            rfl
          have ge : ¬ ixo none (row c n) < j := fun z => by
            obtain ⟨y, hy⟩ := f.up _ (by omega) z
            rw [hrv] at hy
            cases hy
          have le : ¬ p < ixo none (row c n) := fun z => by
            have := ixo_no z (getD_some (d := none) (by omega) : (row c n)[p]? = some ((row c n).getD p none))
            exact this hr
          exact hne ⟨rfl, by rw [ep]; omega⟩
  refine ⟨?_, up, ?_⟩
  · intro p hp y ey
    rw [rv_touch wf] at ey
    split at ey
    · cases ey
      exact .inr ⟨j, by omega, hl⟩
    · rcases f.ln p hp y ey with z | ⟨i, hi, z⟩
      · exact .inl z
      · exact .inr ⟨i, by omega, z⟩
  · intro hj
    have hj : c.W ≤ j + 1 := hj
    by_cases hjw : c.W ≤ j
    · obtain ⟨vl, hx, hlines⟩ := f.nx hjw
      subst e
      obtain ⟨v, r, rfl, ev, hx'⟩ := hx.miss wf o hW hm
      have hlen : r.length + 1 = c.W := hx.len
      have nd := List.nodup_cons.mp hx.nd
      have oldr : ∀ q ∈ r, rv (tcV c x) (nmO c x) q = rv c (nmO c x) q := fun q hq => by
        rw [rv_touch wf, if_neg]
        rintro ⟨_, z⟩
        rw [ev] at z
        rw [← z] at hq
        exact nd.1 hq
      have newv : rv (tcV c x) (nmO c x) v = some (nl (nmO c x) c.S c.W j) := by
        rw [rv_touch wf, if_pos ⟨rfl, ev⟩, hl]
      refine ⟨r ++ [v], hx', ?_⟩
      show ((r ++ [v]).drop (c.W - min (j + 1 - c.W) c.W)).map (rv (tcV c x) (nmO c x)) = ((nls (nmO c x) c.S c.W (j + 1)).drop (j + 1 - min (j + 1 - c.W) c.W)).map some
      rw [nls_succ, List.drop_append_of_le_length (by omega), List.drop_append_of_le_length (by rw [nls_len]; omega), List.map_append, List.map_append]
      have e2 : [v].map (rv (tcV c x) (nmO c x)) = [nl (nmO c x) c.S c.W j].map some := by
        simp only [List.map_cons, List.map_nil, newv]
      rw [e2]
      congr 1
      have e3 : (r.drop (c.W - min (j + 1 - c.W) c.W)).map (rv (tcV c x) (nmO c x)) = (r.drop (c.W - min (j + 1 - c.W) c.W)).map (rv c (nmO c x)) := List.map_congr_left fun q hq => oldr q (List.mem_of_mem_drop hq)
      rw [e3]
      by_cases hfull : j - c.W < c.W
      · have a1 : c.W - min (j - c.W) c.W = (c.W - min (j + 1 - c.W) c.W) + 1 := by omega
        have a2 : j - min (j - c.W) c.W = j + 1 - min (j + 1 - c.W) c.W := by omega
        rw [a1, a2, List.drop_succ_cons] at hlines
        exact hlines
      · have a1 : c.W - min (j - c.W) c.W = 0 := by omega
        have a2 : c.W - min (j + 1 - c.W) c.W = 0 := by omega
        have a3 : j + 1 - min (j + 1 - c.W) c.W = (j - min (j - c.W) c.W) + 1 := by omega
        rw [a1, List.drop_zero, List.map_cons] at hlines
        rw [a2, a3, List.drop_zero]
        have hd := congrArg List.tail hlines
        rw [List.tail_cons] at hd
        rw [hd, ← List.map_tail, List.tail_drop]
    · have hj' : j + 1 = c.W := by omega
      have full : ∀ p, p < (tcV c x).W → ∃ y, rv (tcV c x) n p = some y := fun p hp => up p hp (by show p < j + 1; rw [hj']; exact hp)
      obtain ⟨vl, hx⟩ := Nx.ex (n := n) (wf.tc (x := x)) (o.any wf (x := x)) hW hn full
      refine ⟨vl, hx, ?_⟩
      have hlen : vl.length = c.W := hx.len
      have a1 : (tcV c x).W - min (j + 1 - (tcV c x).W) (tcV c x).W = c.W := by
        show c.W - min (j + 1 - c.W) c.W = c.W
        omega
      have a2 : j + 1 - min (j + 1 - (tcV c x).W) (tcV c x).W = j + 1 := by
        show j + 1 - min (j + 1 - c.W) c.W = j + 1
        omega
      rw [a1, a2, List.drop_of_length_le (by omega), List.drop_of_length_le (by rw [nls_len]; omega)]
      rfl
end
/-- the lines in the order of the places vl -/
def lnsV (c : CSt) (n : Nat) (vl : List Nat) : List Int := vl.map fun p => (rv c n p).getD 0
theorem lns_some {c : CSt} {n : Nat} {vl : List Nat} (h : Nx c n vl) : (lnsV c n vl).map some = vl.map (rv c n) := by
  unfold lnsV
  rw [List.map_map]
  refine List.map_congr_left fun p hp => ?_
  obtain ⟨y, e⟩ := h.full p (h.lt p hp)
  show some ((rv c n p).getD 0) = rv c n p
  rw [e]
  rfl


/-! ### the walk -/
def rLstU (K : PySem.W.Frag) : List V → Hp → VK → Prop := fun xs H Q => ∃ p ys, xs = [.ref p] ∧ (SqL K H p ys ∨ SqT K H p ys) ∧ ∀ l, H l = none → Q (.ref l) (upd H l (.lst ys))
theorem c_list {X : Cx} {K : PySem.W.Frag} (hK : X.K = K) : CallR X (.type "list") (rLstU K) := by
  subst hK
  exact call_list_of
theorem _root_.G.DrL_perm {H : Hp} {d : Addr} {L L' : List (Addr × HO)} (D : DrL H d L) (h : L.Perm L') : DrL H d L' := by
  obtain ⟨r, n, sd, row, M, ok, hn⟩ := D.ex
  exact ⟨r, n, sd, row, M.perm ((h.cons _).cons _), ok, hn⟩
section
variable {K : PySem.W.Frag} {H H' : Hp} {d p : Addr} {X Y : List (Addr × HO)} {cd : CAd} {c : CSt} {x : Int} {Q : VK} {E : XK} {o : HO}
theorem DrL.front {L : List (Addr × HO)} (D : DrL H d L) (hp : H p = none) : DrL (upd H p o) d ((p, o) :: L) := DrL_perm (D.new hp) (List.perm_append_singleton _ _)
theorem use_tc (D : DrL H d (X ++ (CaL K cd c ++ Y))) (wf : CWf cd c) (k : ∀ H', Keep (CaA cd) H H' → DrL H' d (X ++ (CaL K cd (tcV c x) ++ Y)) → Q (.bl (decide (hitV c x))) H') : sp_Cache_touch K (.ref cd.p :: ([.int x] ++ [])) H Q E := by
  obtain ⟨r, n, sd, row, M, ok, hn⟩ := D.ex
  exact use_touch (X := (d, .dK (drK r n sd)) :: (r, .lst (row.map V.int)) :: X) (Y := Y) M wf (fun H' kp M' => k H' kp ⟨r, n, sd, row, M', ok, hn⟩)
theorem use_dp (D : DrL H d (X ++ (CaL K cd c ++ Y))) (wf : CWf cd c) (k : ∀ H', Keep (CaA cd) H H' → DrL H' d (X ++ (CaL K cd (dpV c x) ++ Y)) → Q (.bl (decide (hitV c x))) H') : sp_Cache_drop K (.ref cd.p :: ([.int x] ++ [])) H Q E := by
  obtain ⟨r, n, sd, row, M, ok, hn⟩ := D.ex
  exact use_drop (X := (d, .dK (drK r n sd)) :: (r, .lst (row.map V.int)) :: X) (Y := Y) M wf (fun H' kp M' => k H' kp ⟨r, n, sd, row, M', ok, hn⟩)
theorem DrL.ca (D : DrL H d (X ++ (CaL K cd c ++ []))) : Has H (CaL K cd c) := by
  have := D.has.right
  rw [List.append_nil] at this
  exact this
theorem DrL.rcv (D : DrL H d (X ++ (CaL K cd c ++ []))) : H cd.p = some (caO K cd c) := D.ca.get 0 rfl
/-- a comprehension that takes some ints of a list -/
theorem l_filt {σ : L2.St} {te : TE} {tt : TT} {k : Nat} {vs : List Nat} {a : Addr} {ns : List Int} {f : Int → Bool} (ha : H a = some (.lst (ns.map V.int))) (hl : ns.length ≤ 1000)
    (hwp : ∀ x : V, wipe ((wipe σ vs).set k (some x)) vs = wipe σ vs)
    (step : ∀ (y : Int) (H' : Hp) (QB : Bool → Hp → Prop), y ∈ ns → Same H H' → QB (f y) H' → tt ((wipe σ vs).set k (some (.int y))) H' QB)
    (el : ∀ (y : Int) (H' : Hp) (R : VK), R (.int y) H' → te ((wipe σ vs).set k (some (.int y))) H' R)
    (q : ∀ D H', H D = none → Same H H' → H' D = some (.lst ((ns.filter f).map V.int)) → Q (.ref D) H') : LcW (gName k) tt te vs σ Q (Itl K a) H := by
  refine l_list (xs := ns.map V.int) (fun D i H' => H' D = some (.lst (((ns.take i).filter f).map V.int)) ∧ Same H H') (fun D hD => ⟨upd_same, Same.new hD⟩) ?_ ?_ ?_
  · rintro D hD i H' hi ⟨hD', sm⟩
    exact SqL.of (sm _ _ ha)
  · rintro D hD i y H' hi ⟨hD', sm⟩
    rw [List.getElem?_map] at hi
    obtain ⟨z, hz, rfl⟩ := Option.map_eq_some_iff.mp hi
    refine g_name (g_wipe (hwp _) ?_)
    have len : (((ns.take i).filter f).map V.int).length < sizeLine := by
      rw [List.length_map]
      refine szl (Nat.le_trans (List.length_filter_le _ _) ?_)
      rw [List.length_take]
      omega
    refine step z H' _ (List.mem_of_getElem? hz) sm ?_
    cases hf : f z with
    | true =>
      refine g_ifT (el z H' _ ⟨_, hD', len, ?_, Same.mut sm hD⟩)
      rw [upd_same, filter_take_succ hz, hf, List.map_append]
      rfl
    | false =>
      refine g_ifF ⟨?_, sm⟩
      rw [filter_take_succ hz, hf, hD']
      simp
  · rintro D hD H' ⟨hD', sm⟩
    rw [List.length_map, List.take_length] at hD'
    exact q D H' hD sm hD'
end
def sp_law_cache (K : PySem.W.Frag) : Sp := fun vs H Q _ => ∃ (d : Addr) (L : List (Addr × HO)), vs = [.ref d] ∧ DrL H d L ∧
  ∀ H' s (S W Z : Nat) (P : Str), DrL H' d ((s, .tup [.int S, .int W, .int Z, .str P]) :: L) → 0 < S → S ≤ 64 → Pw W → 0 < Z → Z ≤ 16 → (P = "lru" ∨ P = "fifo" ∨ P = "plru") → Q (.ref s) H'
theorem pw1 (n : Nat) : (1 : Int) * 2 ^ n = ((2 ^ n : Nat) : Int) := by simp
theorem pwS : ∀ k < 7, 0 < 2 ^ k ∧ 2 ^ k ≤ 64 := by decide
theorem pwW : ∀ k < 4, 2 ^ k = 1 ∨ 2 ^ k = 2 ∨ 2 ^ k = 4 ∨ 2 ^ k = 8 := by decide
theorem pwZ : ∀ k < 5, 0 < 2 ^ k ∧ 2 ^ k ≤ 16 := by decide
theorem sc_law_cache : FnScope ["draws", "policy"] ["draws"] (defScope (topS 7)) := ⟨rfl, rfl, rfl, by decide +kernel, rfl, by decide +kernel, by decide +kernel⟩
theorem ok_law_cache (T : Txt fa fn K mg) : Dn P w K mg base CX0 2 "_law_cache" ["draws"] (sp_law_cache K) := by
  refine mk_dn (d := dOf "_law_cache" 7) T 4 4 rfl rfl rfl rfl rfl sc_law_cache (by walk_at "len") (fun _ _ _ _ _ _ us hl => match us, hl with | [_], _ => rfl) (fun cdv A outer s H vs Q E hr h => ⟨_, (pss_cons (ps_set (i := 1) sc_law_cache.nd rfl (.inl rfl) (pe_ixU (K := K) rfl (hu_of hr) (pe_lst (pa_cons pe_str (pa_cons pe_str (pa_cons pe_str pa_nil)))) (pe_callD (K := K) rfl (ok_law_next T) (hr.mono (by decide)) rfl pass0 (pa_cons (pv 0) (pa_cons pe_int pa_nil)))))
      (pss_one (ps_ret (pe_tup (pa_cons (pe_op o_shl pe_int (pe_ixU (K := K) rfl (hu_of hr) (pe_lst (pa_cons pe_int (pa_cons pe_int (pa_cons pe_int (pa_cons pe_int (pa_cons pe_int (pa_cons pe_int (pa_cons pe_int pa_nil)))))))) (pe_callD (K := K) rfl (ok_law_next T) (hr.mono (by decide)) rfl pass0 (pa_cons (pv 0) (pa_cons pe_int pa_nil))))) (pa_cons (pe_op o_shl pe_int (pe_callD (K := K) rfl (ok_law_next T) (hr.mono (by decide)) rfl pass0 (pa_cons (pv 0) (pa_cons pe_int pa_nil)))) (pa_cons (pe_op o_shl pe_int (pe_callD (K := K) rfl (ok_law_next T) (hr.mono (by decide)) rfl pass0 (pa_cons (pv 0) (pa_cons pe_int pa_nil)))) (pa_cons (pv 1) pa_nil)))))))), ?_⟩)
  obtain ⟨d, L, rfl, D, hQ⟩ := h
  walk_at "go"
  refine use_pk D rfl rfl (by simp) (by simp) (fun H1 v k1 D1 hv => ?_)
  obtain ⟨P, rfl, hP⟩ : ∃ P : Str, v = .str P ∧ (P = "lru" ∨ P = "fifo" ∨ P = "plru") := by
    simp only [List.mem_cons, List.not_mem_nil, or_false] at hv
    rcases hv with rfl | rfl | rfl
    · exact ⟨_, rfl, .inl rfl⟩
    · exact ⟨_, rfl, .inr (.inl rfl)⟩
    · exact ⟨_, rfl, .inr (.inr rfl)⟩
  walk_at "go"
  refine use_pk D1 rfl rfl (by simp) (by simp) (fun H2 v k2 D2 hv => ?_)
  obtain ⟨k, rfl, hk⟩ : ∃ k : Nat, v = .int (k : Int) ∧ k < 7 := by
    simp only [List.mem_cons, List.not_mem_nil, or_false] at hv
    rcases hv with rfl | rfl | rfl | rfl | rfl | rfl | rfl
    · exact ⟨0, rfl, by decide⟩
    · exact ⟨0, rfl, by decide⟩
    · exact ⟨1, rfl, by decide⟩
    · exact ⟨1, rfl, by decide⟩
    · exact ⟨2, rfl, by decide⟩
    · exact ⟨3, rfl, by decide⟩
    · exact ⟨6, rfl, by decide⟩
  walk_at "go"
  refine use_nx D2 (by decide) (fun H3 v3 k3 D3 h30 h31 => ?_)
  walk_at "go"
  refine use_nx D3 (by decide) (fun H4 v4 k4 D4 h40 h41 => ?_)
  walk_at "go"
  rw [Int.toNat_natCast, pw1, pw1, pw1]
  refine ⟨by show 4 ≤ sizeLine; decide, fun s hs => ?_⟩
  exact hQ _ s _ _ _ P (D4.front hs) (pwS k hk).1 (pwS k hk).2 (pwW _ (by omega)) (pwZ _ (by omega)).1 (pwZ _ (by omega)).2 hP
def sp_law_changed (K : PySem.W.Frag) : Sp := fun vs H Q _ => ∃ (b a : Addr) (xs ys : List Int) (v : Nat), vs = [.ref b, .ref a] ∧ H b = some (.tup (xs.map V.int)) ∧ H a = some (.tup (ys.map V.int)) ∧ xs.length = ys.length ∧ xs.length ≤ 100 ∧ v < xs.length ∧ (∀ k, k < xs.length → (xs.getD k 0 = ys.getD k 0 ↔ k ≠ v)) ∧
  ∀ H' p, Same H H' → H' p = some (.lst [.int (v : Int)]) → Q (.ref p) H'
theorem sc_law_changed : FnScope ["before", "after", "k"] ["before", "after"] (defScope (topS 8)) := ⟨rfl, rfl, rfl, by decide +kernel, rfl, by decide +kernel, by decide +kernel⟩
theorem ok_law_changed (T : Txt fa fn K mg) : Dn P w K mg base CX0 1 "_law_changed" ["before", "after"] (sp_law_changed K) := by
  refine mk_dn (d := dOf "_law_changed" 8) T 5 5 rfl rfl rfl rfl rfl sc_law_changed (by walk_at "len") (fun _ _ _ _ _ _ us hl => match us, hl with | [_, _], _ => rfl) (fun cdv A outer s H vs Q E hr h => ⟨_, (pss_one (ps_ret (pe_lc rfl sc_law_changed.nd (pi_r1 rfl (T.free 31 rfl) (pa_cons (pe_callB (c_len (K := K) rfl) rfl (T.free 28 rfl) (by decide +kernel) (pa_cons (pv 0) pa_nil)) pa_nil)) (blkOk_by (own := [("k", 2)]) (N := ["before", "after", "k"]) (sc := defScope (topS 8)) (by decide +kernel)) (fun _ _ _ _ _ => (pg_name (i := 2) sc_law_changed.nd rfl (.inl rfl))) (fun _ _ _ _ _ => (pts_one (pt_cmpR (op_neU (K := K) rfl hr.units) (pe_ixU (K := K) rfl (hu_of hr) (pv 0) (pv 2)) (pe_ixU (K := K) rfl (hu_of hr) (pv 1) (pv 2)) (nomark _)))) (fun _ _ _ _ _ => (pv 2))))), ?_⟩)
  obtain ⟨b, a, xs, ys, v, rfl, hb, ha, hl, hx, hv, hd, hQ⟩ := h
  walk_at "go"
  refine g_lenT (SqT.of hb) ?_
  rw [List.length_map]
  walk_at "go"
  rw [Int.toNat_natCast]
  refine l_range (fun D i H' => H' D = some (.lst (if v < i then [.int (v : Int)] else [])) ∧ Same H H') (fun D hD => ⟨upd_same, Same.new hD⟩) ?_ ?_
  · rintro D hD i H' hi ⟨hD', sm⟩
    have g1 : xs[i]? = some (xs.getD i 0) := getD_some hi
    have g2 : ys[i]? = some (ys.getD i 0) := getD_some (by omega)
    walk_at "go"
    have e0 : (0 : Int) + (i : Int) = (i : Int) := by omega
    rw [e0]
    refine g_ixT (SqT.of (sm _ _ hb)) (n := i) rfl (by rw [List.getElem?_map, g1]; rfl) ?_
    walk_at "go"
    refine g_ixT (SqT.of (sm _ _ ha)) (n := i) rfl (by rw [List.getElem?_map, g2]; rfl) ?_
    walk_at "go"
    refine g_ifN (fun c => ?_) (fun c => ?_)
    · have ev : i = v := by
        by_cases z : i = v
        · exact z
        · exact absurd ((hd i hi).mpr z) c
      subst ev
      walk_at "go"
      rw [if_neg (by omega)] at hD'
      refine ⟨[], hD', by decide, ?_, Same.mut sm hD⟩
      rw [upd_same, if_pos (by omega)]
      rfl
    · have ev := (hd i hi).mp c
      refine ⟨?_, sm⟩
      rw [hD']
      by_cases z : v < i
      · rw [if_pos z, if_pos (by omega)]
      · rw [if_neg z, if_neg (by omega)]
  · rintro D hD H' ⟨hD', sm⟩
    rw [if_pos hv] at hD'
    exact hQ H' D sm hD'


/-! ### hits in a full set -/
section
variable {d : CAd} {c : CSt} {x : Int} {n : Nat} {vl : List Nat} {y : Int}
theorem lns_at (h : Nx c n vl) {p : Nat} (hp : p < c.W) : rv c n p = some ((rv c n p).getD 0) := by
  obtain ⟨y, e⟩ := h.full p hp
  rw [e]
  rfl
theorem lns_mem (h : Nx c n vl) (wf : CWf d c) (hn : n < c.S) : y ∈ lnsV c n vl ↔ some y ∈ row c n := by
  constructor
  · intro hy
    obtain ⟨p, hp, rfl⟩ := List.mem_map.mp hy
    exact (mem_rv wf hn).mpr ⟨p, h.lt p hp, lns_at h (h.lt p hp)⟩
  · intro hy
    obtain ⟨p, hp, e⟩ := (mem_rv wf hn).mp hy
    refine List.mem_map.mpr ⟨p, cover h.nd h.lt h.len hp, ?_⟩
    show (rv c n p).getD 0 = y
    rw [e]
    rfl
theorem lns_inj (h : Nx c n vl) (o : One c) (hn : n < c.S) {p q : Nat} (hp : p < c.W) (hq : q < c.W) (e : (rv c n p).getD 0 = (rv c n q).getD 0) : p = q := by
  have e1 := lns_at h hp
  have e2 := lns_at h hq
  rw [e] at e1
  exact o.once n hn p hp q hq _ e1 e2
theorem lns_nodup (h : Nx c n vl) (o : One c) (hn : n < c.S) : (lnsV c n vl).Nodup := by
  unfold lnsV
  refine List.pairwise_map.mpr (h.nd.imp_of_mem fun {a b} ha hb hab e => hab (lns_inj h o hn (h.lt a ha) (h.lt b hb) e))
end
abbrev isIn (r : List (Option Int)) (y : Int) : Bool := decide (some y ∈ r)
structure Hits (c : CSt) (n : Nat) (vl : List Nat) (r : List (Option Int)) (put touched : List Int) : Prop where
  nx : Nx c n vl
  rw_ : row c n = r
  nd : touched.Nodup
  mem : ∀ y, some y ∈ r → y ∈ touched
  lru : c.P = "lru" → touched.filter (isIn r) = lnsV c n vl
  fifo : c.P = "fifo" → put.filter (isIn r) = lnsV c n vl
theorem filter_tail {α : Type} {p : α → Bool} {l : List α} {k : Nat} (h1 : ∀ x ∈ l.take k, p x = false) (h2 : ∀ x ∈ l.drop k, p x = true) : l.filter p = l.drop k := by
  have e : (l.take k ++ l.drop k).filter p = l.drop k := by
    rw [List.filter_append, List.filter_eq_nil_iff.mpr fun x hx => by rw [h1 x hx]; exact Bool.false_ne_true, List.nil_append, List.filter_eq_self.mpr h2]
  rw [List.take_append_drop] at e
  exact e
theorem map_some_inj {l m : List Int} (h : l.map some = m.map some) : l = m := by
  have z := congrArg (List.map fun o : Option Int => o.getD 0) h
  rw [List.map_map, List.map_map] at z
  have e : ((fun o : Option Int => o.getD 0) ∘ some) = id := rfl
  rw [e, List.map_id, List.map_id] at z
  exact z
section
variable {d : CAd} {c : CSt} {x : Int} {n : Nat} {vl : List Nat} {y : Int} {r : List (Option Int)} {put touched : List Int}
theorem Fill.end_ (f : Fill c n (3 * c.W)) (wf : CWf d c) (hn : n < c.S) : ∃ vl, Hits c n vl (row c n) (nls n c.S c.W (3 * c.W)) (nls n c.S c.W (3 * c.W)) ∧ ∀ y, some y ∈ row c n → y < (c.S : Int) * (5 * (c.W : Int)) := by
  have w0 := wf.w0
  have s0 := wf.s0
  obtain ⟨vl, hx, hl⟩ := f.nx (by omega)
  have a1 : c.W - min (3 * c.W - c.W) c.W = 0 := by omega
  have a2 : 3 * c.W - min (3 * c.W - c.W) c.W = 2 * c.W := by omega
  rw [a1, a2, List.drop_zero, ← lns_some hx] at hl
  have hl := map_some_inj hl
  have hf : (nls n c.S c.W (3 * c.W)).filter (isIn (row c n)) = lnsV c n vl := by
    rw [hl]
    refine filter_tail (fun x hx' => ?_) (fun x hx' => ?_)
    · refine decide_eq_false fun hm => ?_
      have hm := (lns_mem hx wf hn).mpr hm
      rw [hl] at hm
      have nd := nls_nodup (n := n) (W := c.W) (j := 3 * c.W) s0
      rw [← List.take_append_drop (2 * c.W) (nls n c.S c.W (3 * c.W))] at nd
      exact (List.nodup_append.mp nd).2.2 x hx' x hm rfl
    · rw [← hl] at hx'
      exact decide_eq_true ((lns_mem hx wf hn).mp hx')
  refine ⟨vl, ⟨hx, rfl, nls_nodup s0, fun y hy => ?_, fun _ => hf, fun _ => hf⟩, fun y hy => ?_⟩
  · have := (lns_mem hx wf hn).mpr hy
    rw [hl] at this
    exact List.mem_of_mem_drop this
  · have := (lns_mem hx wf hn).mpr hy
    rw [hl] at this
    obtain ⟨k, hk, rfl⟩ := List.mem_map.mp (List.mem_of_mem_drop this)
    have hk := List.mem_range.mp hk
    unfold nl
    have h1 : (c.S : Int) * (2 * (c.W : Int) + (k : Int)) ≤ (c.S : Int) * (5 * (c.W : Int) - 1) := Int.mul_le_mul_of_nonneg_left (by omega) (by omega)
    rw [Int.mul_sub, Int.mul_one] at h1
    omega
theorem hit_row (hh : hitV c x) : row (tcV c x) n = row c n := by
  unfold row
  show (if hitV c x then c.pl else _).getD n [] = _
  rw [if_pos hh]
theorem hit_lns (hh : hitV c x) : lnsV (tcV c x) n vl = lnsV c n vl := by
  unfold lnsV rv
  rw [hit_row hh]
theorem Hits.step (h : Hits c n vl r put touched) (wf : CWf d c) (o : One c) (hW : Pw c.W) (hn : n < c.S) (e : nmO c x = n) (hy : lnO c x = y) (hm : some y ∈ r) :
    hitV c x ∧ ∃ vl', Hits (tcV c x) n vl' r put (touched.filter (fun z => decide (z ≠ y)) ++ [y]) := by
  subst e
  subst hy
  have hr := h.rw_
  have hh : hitV c x := by
    unfold hitV
    rw [hr]
    exact hm
  refine ⟨hh, ?_⟩
  obtain ⟨vl', hx', hl, hf⟩ := h.nx.hit wf o hW hh
  have hpl := wf.pl_ (x := x)
  have epl : (rv c (nmO c x) (plO c x)).getD 0 = lnO c x := by
    have ep : plO c x = ixo (some (lnO c x)) (row c (nmO c x)) := if_pos hh
    unfold rv
    rw [ep, List.getD_eq_getElem?_getD, ixo_at hh]
    rfl
  refine ⟨vl', ⟨hx', by rw [hit_row hh]; exact hr, ?_, ?_, fun hp => ?_, fun hp => ?_⟩⟩
  · exact List.nodup_append.mpr ⟨h.nd.filter _, by simp, fun a ha b hb e => by
      rw [List.mem_singleton.mp hb] at e
      exact of_decide_eq_true (List.mem_filter.mp ha).2 e⟩
  · intro z hz
    by_cases ez : z = lnO c x
    · rw [ez]
      simp
    · exact List.mem_append_left _ (List.mem_filter.mpr ⟨h.mem z hz, decide_eq_true ez⟩)
  · have hp : c.P = "lru" := hp
    rw [hit_lns hh, hl hp, List.filter_append, List.filter_filter]
    have e1 : [lnO c x].filter (isIn r) = [lnO c x] := List.filter_eq_self.mpr fun z hz => by
      rw [List.mem_singleton.mp hz]
      exact decide_eq_true hm
    rw [e1]
    have e2 : touched.filter (fun a => isIn r a && decide (a ≠ lnO c x)) = (touched.filter (isIn r)).filter (fun a => decide (a ≠ lnO c x)) := by
      rw [List.filter_filter]
      refine List.filter_congr fun a _ => ?_
      rw [Bool.and_comm]
    rw [e2, h.lru hp]
    unfold lnsV
    rw [List.map_append, List.filter_map]
    congr 1
    · congr 1
      refine List.filter_congr fun a ha => ?_
      have iff : ((rv c (nmO c x) a).getD 0 ≠ lnO c x) ↔ (a ≠ plO c x) := by
        constructor
        · intro z e
          rw [e] at z
          exact z epl
        · intro z e
          rw [← epl] at e
          exact z (lns_inj h.nx o hn (h.nx.lt a ha) hpl e)
      show decide ((rv c (nmO c x) a).getD 0 ≠ lnO c x) = decide (a ≠ plO c x)
      simp only [iff]
    · simp only [List.map_cons, List.map_nil, epl]
  · have hp : c.P = "fifo" := hp
    rw [hit_lns hh, hf hp]
    exact h.fifo hp
theorem Hits.perm (h : Hits c n vl r put touched) (wf : CWf d c) (o : One c) (hn : n < c.S) : (touched.filter (isIn r)).Perm (lnsV c n vl) := by
  refine (List.perm_ext_iff_of_nodup (h.nd.filter _) (lns_nodup h.nx o hn)).mpr fun a => ?_
  rw [lns_mem h.nx wf hn, h.rw_, List.mem_filter]
  exact ⟨fun z => of_decide_eq_true z.2, fun z => ⟨h.mem a z, decide_eq_true z⟩⟩
end
/-- lines below a bound, in all sets -/
def Old (c : CSt) (b : Int) : Prop := ∀ m, m < c.S → ∀ p, p < c.W → ∀ y, rv c m p = some y → y < b
structure Cfg (c : CSt) (S W Z : Nat) (P : Str) : Prop where
  s : c.S = S
  w : c.W = W
  z : c.Z = Z
  p : c.P = P
theorem Cfg.tc {c : CSt} {S W Z : Nat} {P : Str} {x : Int} (h : Cfg c S W Z P) : Cfg (tcV c x) S W Z P := ⟨h.s, h.w, h.z, h.p⟩
theorem Cfg.dp {c : CSt} {S W Z : Nat} {P : Str} {x : Int} (h : Cfg c S W Z P) : Cfg (dpV c x) S W Z P := ⟨h.s, h.w, h.z, h.p⟩
theorem Old.tc {d : CAd} {c : CSt} {b x : Int} (h : Old c b) (wf : CWf d c) (hx : lnO c x < b) : Old (tcV c x) b := fun m hm p hp y e => by
  rw [rv_touch wf] at e
  split at e
  · cases e
    exact hx
  · exact h m hm p hp y e
theorem Old.dp {d : CAd} {c : CSt} {b x : Int} (h : Old c b) (wf : CWf d c) : Old (dpV c x) b := fun m hm p hp y e => by
  rw [rv_drop wf] at e
  split at e
  · cases e
  · exact h m hm p hp y e
theorem rv_start {S W Z : Nat} {P : Str} {n p : Nat} : rv (c0V S W Z P) n p = none := by
  unfold rv row
  show ((List.replicate S (List.replicate W none)).getD n []).getD p none = none
  rw [List.getD_eq_getElem?_getD, List.getD_eq_getElem?_getD, List.getElem?_replicate]
  split
  · show ((List.replicate W (none : Option Int))[p]?).getD none = none
    rw [List.getElem?_replicate]
    split <;> rfl
  · rfl
theorem tv_start {S W Z : Nat} {P : Str} {n p : Nat} : tv (c0V S W Z P) n p = 0 := by
  unfold tv tmv
  show ((List.replicate S (List.replicate W (0 : Int))).getD n []).getD p 0 = 0
  rw [List.getD_eq_getElem?_getD, List.getD_eq_getElem?_getD, List.getElem?_replicate]
  split
  · show ((List.replicate W (0 : Int))[p]?).getD 0 = 0
    rw [List.getElem?_replicate]
    split <;> rfl
  · rfl
theorem One.start {S W Z : Nat} {P : Str} : One (c0V S W Z P) := by
  refine ⟨?_, ?_, ?_, ?_⟩
  · intro n _ p _ y e
    rw [rv_start] at e
    cases e
  · intro n _ p _ q _ y e
    rw [rv_start] at e
    cases e
  · intro n _ p _
    rw [tv_start]
    exact Int.le_refl _
  · intro n _ p _ q _ y z e
    rw [rv_start] at e
    cases e
theorem Old.start {S W Z : Nat} {P : Str} {b : Int} : Old (c0V S W Z P) b := fun m _ p _ y e => by rw [rv_start] at e; cases e
theorem g_inR {K : PySem.W.Frag} {H : Hp} {Q : VK} {y : Int} {p : Addr} {r : List (Option Int)} (h : H p = some (.tup (r.map ovV))) (q : Q (.bl (isIn r y)) H) : rInU K false (.int y) (.ref p) H Q := by
  refine .inl ⟨p, r.map ovV, rfl, .inr (SqT.of h), rfl, flat_ov, ?_⟩
  rw [show (V.int y) = ovV (some y) from rfl, inV_ov]
  exact q


theorem g_is {α : Prop} {β : Prop} {b : Bool} (h : b = true) (q : α) : if b = true then α else β := by rw [if_pos h]; exact q
theorem g_isnt {α : Prop} {β : Prop} {b : Bool} (h : b = false) (q : β) : if b = true then α else β := by rw [if_neg (by rw [h]; exact Bool.false_ne_true)]; exact q
theorem DrL.plus {H H' : Hp} {d p : Addr} {L : List (Addr × HO)} {o : HO} (D : DrL H d L) (sm : Same H H') (hn : H p = none) (hp : H' p = some o) : DrL H' d ((p, o) :: L) := by
  obtain ⟨r, n, sd, row, M, ok, h0⟩ := (D.front (o := o) hn).ex
  refine ⟨r, n, sd, row, ⟨M.nd, fun q hq => ?_⟩, ok, h0⟩
  by_cases e : q.1 = p
  · have z := M.is_ q hq
    rw [e, upd_same] at z
    rw [e, hp]
    exact z
  · have z := M.is_ q hq
    rw [upd_ne e] at z
    exact sm _ _ z
theorem tab_lst : ∀ {as : List Addr} {rs : List (List V)}, ∀ p ∈ tab as rs, ∃ r, p.2 = .lst r
  | [], _, p, h => by cases h
  | _ :: _, [], p, h => by cases h
  | a :: as, r :: rs, p, h => by
    rcases List.mem_cons.mp h with e | e
    · exact ⟨r, by rw [e]⟩
    · exact tab_lst p e
theorem _root_.G.Has.noTup {H : Hp} {L : List (Addr × HO)} (M : Has H L) (h : ∀ p ∈ L, ∀ xs, p.2 ≠ .tup xs) : NoTup H (L.map (·.1)) := fun m hm xs e => by
  obtain ⟨p, hp, rfl⟩ := List.mem_map.mp hm
  have := M.is_ p hp
  rw [e] at this
  exact h p hp xs (Option.some.inj this).symm
theorem ca_noTup {K : PySem.W.Frag} {H : Hp} {d : CAd} {c : CSt} (M : Has H (CaL K d c)) (wf : CWf d c) : NoTup H (CaA d) := by
  rw [← ca_fst (K := K) wf]
  refine Has.noTup M fun p hp xs => ?_
  unfold CaL caF at hp
  simp only [List.mem_append, List.mem_cons, List.not_mem_nil, or_false] at hp
  rcases hp with (rfl | rfl | rfl | rfl) | hp | hp | hp
  · exact fun z => nomatch z
  · exact fun z => nomatch z
  · exact fun z => nomatch z
  · exact fun z => nomatch z
  all_goals
    obtain ⟨r, e⟩ := tab_lst p hp
    rw [e]
    exact fun z => nomatch z
theorem ca_tup {K : PySem.W.Frag} {H H' : Hp} {d : CAd} {c : CSt} {a : Addr} {xs : List V} (M : Has H (CaL K d c)) (wf : CWf d c) (k : Keep (CaA d) H H') (h : H a = some (.tup xs)) : H' a = some (.tup xs) := k a _ h fun z => ca_noTup M wf a z xs h
theorem filter_ne {l : List Int} {y : Int} : l.filter (fun z => !decide (z = y)) = l.filter (fun z => decide (z ≠ y)) := List.filter_congr fun z _ => by simp
/-! ### the walk of what was begun -/
abbrev setO (S W Z : Nat) (P : Str) : HO := .tup [.int (S : Int), .int (W : Int), .int (Z : Int), .str P]
structure SWZ (S W Z : Nat) : Prop where
  s0 : 0 < S
  s1 : S ≤ 64
  w : Pw W
  w0 : 0 < W
  w1 : W ≤ 8
  z0 : 0 < Z
  z1 : Z ≤ 16
theorem SWZ.pos {S W Z : Nat} (h : SWZ S W Z) : 0 < (S : Int) * (Z : Int) * (W : Int) * 2 := by
  have := h.s0
  have := h.w0
  have := h.z0
  exact Int.mul_pos (Int.mul_pos (Int.mul_pos (by omega) (by omega)) (by omega)) (by decide)
theorem ln_old {c : CSt} {S W Z : Nat} {P : Str} {v : Int} (g : Cfg c S W Z P) (h : SWZ S W Z) (hv : v < (S : Int) * (Z : Int) * (W : Int) * 2) : lnO c v < (S : Int) * (2 * (W : Int)) := by
  have := h.z0
  unfold lnO
  rw [g.z]
  refine Int.ediv_lt_of_lt_mul (by omega) ?_
  have e : (S : Int) * (Z : Int) * (W : Int) * 2 = (S : Int) * (2 * (W : Int)) * (Z : Int) := by simp only [Int.mul_comm, Int.mul_left_comm, Int.mul_assoc]
  omega
def sp_law_begun (K : PySem.W.Frag) : Sp := fun vs H Q _ => ∃ (d s : Addr) (cd : CAd) (S W Z n : Nat) (P : Str), vs = [.ref d, .ref cd.p, .ref s, .int (n : Int)] ∧ DrL H d ([(s, setO S W Z P)] ++ (CaL K cd (c0V S W Z P) ++ [])) ∧ CWf cd (c0V S W Z P) ∧ SWZ S W Z ∧ n < S ∧ (P = "lru" ∨ P = "fifo" ∨ P = "plru") ∧
  ∀ H' (c : CSt) (vl : List Nat) (p : Addr) (order : List Int), DrL H' d ([(p, .lst (order.map V.int)), (s, setO S W Z P)] ++ (CaL K cd c ++ [])) → CWf cd c → One c → Cfg c S W Z P → Nx c n vl → order.Perm (lnsV c n vl) → (¬ P = "plru" → order = lnsV c n vl) → (∀ y, some y ∈ row c n → y < (S : Int) * (5 * (W : Int))) → Q (.ref p) H'
theorem sc_law_begun : FnScope ["draws", "cache", "settings", "number", "sets", "ways", "size", "policy", "k", "put", "held", "touched", "address", "line", "one"] ["draws", "cache", "settings", "number"] (defScope (topS 9)) := ⟨rfl, rfl, rfl, by decide +kernel, rfl, by decide +kernel, by decide +kernel⟩
theorem ok_law_begun (T : Txt fa fn K mg) : Dn P w K mg base CX0 4 "_law_begun" ["draws", "cache", "settings", "number"] (sp_law_begun K) := by
  refine mk_dn (d := dOf "_law_begun" 9) T 6 6 rfl rfl rfl rfl rfl sc_law_begun (by walk_at "len") (fun _ _ _ _ _ _ us hl => match us, hl with | [_, _, _, _], _ => rfl) (fun cdv A outer s H vs Q E hr h => ⟨_, (pss_cons (ps_asg (pv 2) (pg_tup rfl (pgs_cons (pg_name (i := 4) sc_law_begun.nd rfl (.inl rfl)) (pgs_cons (pg_name (i := 5) sc_law_begun.nd rfl (.inl rfl)) (pgs_cons (pg_name (i := 6) sc_law_begun.nd rfl (.inl rfl)) (pgs_cons (pg_name (i := 7) sc_law_begun.nd rfl (.inl rfl)) pgs_nil))))))
      (pss_cons (ps_for PassesOwn.never rfl (pi_r1 rfl (T.free 31 rfl) (pa_cons (pe_callD (K := K) rfl (ok_law_next T) (hr.mono (by decide)) rfl pass0 (pa_cons (pv 0) (pa_cons pe_int pa_nil))) pa_nil)) (pg_name (i := 8) sc_law_begun.nd rfl (.inl rfl)) (pss_cons (ps_set (i := 12) sc_law_begun.nd rfl (.inl rfl) (pe_callD (K := K) rfl (ok_law_next T) (hr.mono (by decide)) rfl pass0 (pa_cons (pv 0) (pa_cons (pe_op op_mulU (pe_op op_mulU (pe_op op_mulU (pv 4) (pv 6)) (pv 5)) pe_int) pa_nil))))
      (pss_one (ps_join (ps_if (pt_cmpR (op_eqU (K := K) rfl hr.units) (pe_callD (K := K) rfl (ok_law_next T) (hr.mono (by decide)) rfl pass0 (pa_cons (pv 0) (pa_cons pe_int pa_nil))) pe_int (nomark _)) (pss_one (ps_expr (pe_methD (K := K) rfl (mt_Cache_drop T) (cl_Cache T) (T.meth 17 rfl) (hr.mono (by decide)) pass0 (pv 1) (pa_cons (pv 12) pa_nil)))) (pss_one (ps_expr (pe_methD (K := K) rfl (mt_Cache_touch T) (cl_Cache T) (T.meth 13 rfl) (hr.mono (by decide)) pass0 (pv 1) (pa_cons (pv 12) pa_nil)))))))))
      (pss_cons (ps_set (i := 9) sc_law_begun.nd rfl (.inl rfl) (pe_lst pa_nil))
      (pss_cons (ps_for PassesOwn.never rfl (pi_r1 rfl (T.free 31 rfl) (pa_cons (pe_op op_mulU pe_int (pv 5)) pa_nil)) (pg_name (i := 8) sc_law_begun.nd rfl (.inl rfl)) (pss_cons (ps_set (i := 13) sc_law_begun.nd rfl (.inr rfl) (pe_op (op_addU (K := K) rfl) (pv 3) (pe_op op_mulU (pv 4) (pe_op (op_addU (K := K) rfl) (pe_op op_mulU pe_int (pv 5)) (pv 8)))))
      (pss_one (ps_if (pt_not (pt_tru (K := K) rfl (pe_methD (K := K) rfl (mt_Cache_touch T) (cl_Cache T) (T.meth 13 rfl) (hr.mono (by decide)) pass0 (pv 1) (pa_cons (pe_op op_mulU (pv 13) (pv 6)) pa_nil)))) (pss_one (ps_expr (pe_bm PySem.F.plainAttrs_list PySem.F.slot_list_append PySem.F.type_list_append mt_append (pv 9) (pa_cons (pv 13) pa_nil)))) pss_nil))))
      (pss_cons (ps_set (i := 10) sc_law_begun.nd rfl (.inr rfl) (pe_methD (K := K) rfl (mt_Cache_places T) (cl_Cache T) (T.meth 12 rfl) (hr.mono (by decide)) pass0 (pv 1) (pa_cons (pv 3) pa_nil)))
      (pss_cons (ps_set (i := 11) sc_law_begun.nd rfl (.inl rfl) (pe_callTy (c_list (K := K) rfl) rfl (T.free 29 rfl) (by decide +kernel) (pa_cons (pv 9) pa_nil)))
      (pss_cons (ps_for PassesOwn.never rfl (pi_r1 rfl (T.free 31 rfl) (pa_cons (pe_callD (K := K) rfl (ok_law_next T) (hr.mono (by decide)) rfl pass0 (pa_cons (pv 0) (pa_cons (pe_op (op_addU (K := K) rfl) (pe_op op_mulU pe_int (pv 5)) pe_int) pa_nil))) pa_nil)) (pg_name (i := 8) sc_law_begun.nd rfl (.inl rfl)) (pss_cons (ps_set (i := 13) sc_law_begun.nd rfl (.inr rfl) (pe_ixU (K := K) rfl (hu_of hr) (pv 10) (pe_callD (K := K) rfl (ok_law_next T) (hr.mono (by decide)) rfl pass0 (pa_cons (pv 0) (pa_cons (pv 5) pa_nil)))))
      (pss_cons (ps_if (pt_not (pt_tru (K := K) rfl (pe_methD (K := K) rfl (mt_Cache_touch T) (cl_Cache T) (T.meth 13 rfl) (hr.mono (by decide)) pass0 (pv 1) (pa_cons (pe_op (op_addU (K := K) rfl) (pe_op op_mulU (pv 13) (pv 6)) (pe_callD (K := K) rfl (ok_law_next T) (hr.mono (by decide)) rfl pass0 (pa_cons (pv 0) (pa_cons (pv 6) pa_nil)))) pa_nil)))) (pss_one (ps_ret pe_non)) pss_nil)
      (pss_one (ps_set (i := 11) sc_law_begun.nd rfl (.inl rfl) (pe_op (op_addU (K := K) rfl) (pe_lc rfl sc_law_begun.nd (pi_seq (K := K) rfl (pv 11)) (blkOk_by (own := [("one", 14)]) (N := ["draws", "cache", "settings", "number", "sets", "ways", "size", "policy", "k", "put", "held", "touched", "address", "line", "one"]) (sc := defScope (topS 9)) (by decide +kernel)) (fun _ _ _ _ _ => (pg_name (i := 14) sc_law_begun.nd rfl (.inl rfl))) (fun _ _ _ _ _ => (pts_one (pt_cmpR (op_neU (K := K) rfl hr.units) (pv 14) (pv 13) (nomark _)))) (fun _ _ _ _ _ => (pv 14))) (pe_lst (pa_cons (pv 13) pa_nil))))))))
      (pss_cons (ps_if (pt_cmpR (op_eqU (K := K) rfl hr.units) (pv 7) pe_str (nomark _)) (pss_one (ps_ret (pe_lc rfl sc_law_begun.nd (pi_seq (K := K) rfl (pv 9)) (blkOk_by (own := [("one", 14)]) (N := ["draws", "cache", "settings", "number", "sets", "ways", "size", "policy", "k", "put", "held", "touched", "address", "line", "one"]) (sc := defScope (topS 9)) (by decide +kernel)) (fun _ _ _ _ _ => (pg_name (i := 14) sc_law_begun.nd rfl (.inl rfl))) (fun _ _ _ _ _ => (pts_one (pt_cmpR (op_inU (K := K) rfl (hu65 hr)) (pv 14) (pv 10) (by rfl)))) (fun _ _ _ _ _ => (pv 14))))) pss_nil)
      (pss_one (ps_ret (pe_lc rfl sc_law_begun.nd (pi_seq (K := K) rfl (pv 11)) (blkOk_by (own := [("one", 14)]) (N := ["draws", "cache", "settings", "number", "sets", "ways", "size", "policy", "k", "put", "held", "touched", "address", "line", "one"]) (sc := defScope (topS 9)) (by decide +kernel)) (fun _ _ _ _ _ => (pg_name (i := 14) sc_law_begun.nd rfl (.inl rfl))) (fun _ _ _ _ _ => (pts_one (pt_cmpR (op_inU (K := K) rfl (hu65 hr)) (pv 14) (pv 10) (by rfl)))) (fun _ _ _ _ _ => (pv 14))))))))))))), ?_⟩)
  obtain ⟨d, s, cd, S, W, Z, n, P, rfl, D, wf, sz, hn, hP, hQ⟩ := h
  have s0 := sz.s0
  have s1 := sz.s1
  have w0 := sz.w0
  have w1 := sz.w1
  have z0 := sz.z0
  have z1 := sz.z1
  have hpos := sz.pos
  have hs := D.get 0 rfl
  walk_at "go"
  refine use_nx D (by decide) (fun H1 v1 k1 D1 h10 h11 => ?_)
  walk_at "go"
  refine f_range (fun i σ H' => ∃ (k pu he to_ ad li on : Option V) (c : CSt), σ = [some (.ref d), some (.ref cd.p), some (.ref s), some (.int (n : Int)), some (.int (S : Int)), some (.int (W : Int)), some (.int (Z : Int)), some (.str P), k, pu, he, to_, ad, li, on] ∧ DrL H' d ([(s, setO S W Z P)] ++ (CaL K cd c ++ [])) ∧ CWf cd c ∧ One c ∧ Cfg c S W Z P ∧ Old c ((S : Int) * (2 * (W : Int))))
    ⟨_, _, _, _, _, _, _, _, rfl, D1, wf, One.start, ⟨rfl, rfl, rfl, rfl⟩, Old.start⟩ ?_ ?_
  · rintro i σ H2 hi ⟨k, pu, he, to_, ad, li, on, c, rfl, D2, wf2, o2, g2, old2⟩
    walk_at "go"
    refine use_nx D2 hpos (fun H3 v3 k3 D3 h30 h31 => ?_)
    have hl := ln_old g2 sz h31
    walk_at "go"
    refine ⟨fun σ' H' => ∃ (c : CSt), σ' = [some (.ref d), some (.ref cd.p), some (.ref s), some (.int (n : Int)), some (.int (S : Int)), some (.int (W : Int)), some (.int (Z : Int)), some (.str P), some (.int (0 + i)), pu, he, to_, some (.int v3), li, on] ∧ DrL H' d ([(s, setO S W Z P)] ++ (CaL K cd c ++ [])) ∧ CWf cd c ∧ One c ∧ Cfg c S W Z P ∧ Old c ((S : Int) * (2 * (W : Int))), ?_, ?_⟩
    · walk_at "go"
      refine use_nx D3 (by decide) (fun H4 v4 k4 D4 h40 h41 => ?_)
      have hc := D4.rcv
      walk_at "go"
      refine g_if (fun c0 => ?_) (fun c0 => ?_)
      · walk_at "go"
        refine use_dp (X := [(s, setO S W Z P)]) (Y := []) D4 wf2 (fun H5 k5 D5 => ?_)
        walk_at "go"
        exact ⟨_, rfl, D5, wf2.dp, o2.drop wf2, g2.dp, old2.dp wf2⟩
      · walk_at "go"
        refine use_tc (X := [(s, setO S W Z P)]) (Y := []) D4 wf2 (fun H5 k5 D5 => ?_)
        walk_at "go"
        exact ⟨_, rfl, D5, wf2.tc, o2.any wf2, g2.tc, old2.tc wf2 hl⟩
    · rintro σ' H4 ⟨c, rfl, D4, wf4, o4, g4, old4⟩
      exact ⟨_, _, _, _, _, _, _, c, rfl, D4, wf4, o4, g4, old4⟩
  · rintro σ H2 ⟨k, pu, he, to_, ad, li, on, c, rfl, D2, wf2, o2, g2, old2⟩
    walk_at "go"
    refine ⟨by decide, fun pp hpp => ?_⟩
    have D3 := D2.front (o := .lst []) hpp
    walk_at "go"
    have e3 : ((3 : Int) * (W : Int)).toNat = 3 * W := by omega
    rw [e3]
    have fill0 : Fill c n 0 := ⟨fun p hp y e => .inl (by rw [g2.s, g2.w]; exact old2 n (by rw [g2.s]; exact hn) p hp y e), fun p _ h => absurd h (by omega), fun h => absurd h (by have := wf2.w0; omega)⟩
    refine f_range (fun i σ H' => ∃ (k he to_ ad li on : Option V) (c : CSt), σ = [some (.ref d), some (.ref cd.p), some (.ref s), some (.int (n : Int)), some (.int (S : Int)), some (.int (W : Int)), some (.int (Z : Int)), some (.str P), k, some (.ref pp), he, to_, ad, li, on] ∧ DrL H' d ([(pp, .lst ((nls n S W i).map V.int)), (s, setO S W Z P)] ++ (CaL K cd c ++ [])) ∧ CWf cd c ∧ One c ∧ Cfg c S W Z P ∧ Fill c n i)
      ⟨_, _, _, _, _, _, _, rfl, D3, wf2, o2, g2, fill0⟩ ?_ ?_
    · rintro i σ H4 hi ⟨k, he, to_, ad, li, on, c, rfl, D4, wf4, o4, g4, f4⟩
      have hc := D4.rcv
      have hp4 : H4 pp = some (.lst ((nls n S W i).map V.int)) := D4.get 0 rfl
      walk_at "go"
      have e0 : (0 : Int) + (i : Int) = (i : Int) := by omega
      rw [e0]
      have el : lnO c (nl n S W i * (Z : Int)) = nl n c.S c.W i := by
        have z := ln_mul (c := c) (y := nl n S W i) (r := 0) (by rw [g4.z]; exact z0) (Int.le_refl _) (by rw [g4.z]; omega)
        rw [Int.add_zero, g4.z] at z
        rw [z, g4.s, g4.w]
      have hnS : n < c.S := by rw [g4.s]; exact hn
      have hWc : Pw c.W := by rw [g4.w]; exact sz.w
      refine use_tc (X := [(pp, .lst ((nls n S W i).map V.int)), (s, setO S W Z P)]) (Y := []) (x := nl n S W i * (Z : Int)) D4 wf4 (fun H5 k5 D5 => ?_)
      have hm := f4.miss wf4 hnS el
      rw [decide_eq_false hm]
      have hp5 : H5 pp = some (.lst ((nls n S W i).map V.int)) := D5.get 0 rfl
      walk_at "go"
      refine gD_append D5 0 rfl (by rw [List.length_map, nls_len]; omega) (fun D6 => ?_)
      walk_at "go"
      refine ⟨_, _, _, _, _, _, tcV c (nl n S W i * (Z : Int)), rfl, ?_, wf4.tc, o4.any wf4, g4.tc, f4.step wf4 o4 hWc hnS el⟩
      rw [nls_succ, List.map_append]
      exact D6
    · rintro σ H4 ⟨k, he, to_, ad, li, on, c, rfl, D4, wf4, o4, g4, f4⟩
      have hc := D4.rcv
      have hnS : n < c.S := by rw [g4.s]; exact hn
      have hWc : Pw c.W := by rw [g4.w]; exact sz.w
      have f4' : Fill c n (3 * c.W) := by rw [g4.w]; exact f4
      obtain ⟨vl, hits, bnd⟩ := f4'.end_ wf4 hnS
      rw [g4.s, g4.w] at hits bnd
      walk_at "go"
      refine ⟨cd, c, n, rfl, D4.ca, wf4, hnS, fun hp H5 s5 hh5 => ?_⟩
      have D5 := D4.same s5
      have hp5 : H5 pp = some (.lst ((nls n S W (3 * W)).map V.int)) := D5.get 0 rfl
      walk_at "go"
      refine ⟨pp, _, rfl, .inl (SqL.of hp5), fun tp htp => ?_⟩
      have s6 := Same.new (o := .lst ((nls n S W (3 * W)).map V.int)) htp
      have D6 := D5.front (o := .lst ((nls n S W (3 * W)).map V.int)) htp
      have hh6 := s6 _ _ hh5
      walk_at "go"
      refine use_nx D6 (by omega) (fun H7 v7 k7 D7 h70 h71 => ?_)
      have hh7 : H7 hp = some (.tup ((row c n).map ovV)) := D6.at_ k7 hh6 (fun _ e => nomatch e)
      walk_at "go"
      generalize hr : row c n = r at hits bnd hh7
      have rl : r.length = W := by rw [← hr, wf4.rowL hnS, g4.w]
      have rful : ∀ q, q < W → ∃ y, r[q]? = some (some y) := fun q hq => by
        obtain ⟨y, ey⟩ := hits.nx.full q (by rw [g4.w]; exact hq)
        have z := getD_some (d := none) (l := r) (n := q) (by omega)
        rw [← hr] at z ⊢
        have e2 : (row c n).getD q none = some y := ey
        rw [e2] at z
        exact ⟨y, z⟩
      have len3 : (nls n S W (3 * W)).length = 3 * W := nls_len
      generalize nls n S W (3 * W) = put at hits D7 len3
      refine f_range (fun i σ H' => ∃ (k ad li on : Option V) (c : CSt) (vl : List Nat) (touched : List Int) (tp : Addr), σ = [some (.ref d), some (.ref cd.p), some (.ref s), some (.int (n : Int)), some (.int (S : Int)), some (.int (W : Int)), some (.int (Z : Int)), some (.str P), k, some (.ref pp), some (.ref hp), some (.ref tp), ad, li, on] ∧ DrL H' d ([(tp, .lst (touched.map V.int)), (pp, .lst (put.map V.int)), (s, setO S W Z P)] ++ (CaL K cd c ++ [])) ∧ CWf cd c ∧ One c ∧ Cfg c S W Z P ∧ H' hp = some (.tup (r.map ovV)) ∧ Hits c n vl r put touched ∧ touched.length ≤ 3 * W + i)
        ⟨_, _, _, _, c, vl, put, tp, rfl, D7, wf4, o4, g4, hh7, hits, by omega⟩ ?_ ?_
      · rintro i σ H8 hi ⟨k, ad, li, on, c8, vl8, touched, tp, rfl, D8, wf8, o8, g8, hh8, hits8, len8⟩
        have hi40 : i < 40 := by omega
        walk_at "go"
        refine use_nx D8 (by omega) (fun H9 v9 k9 D9 h90 h91 => ?_)
        have hh9 : H9 hp = some (.tup (r.map ovV)) := D8.at_ k9 hh8 (fun _ e => nomatch e)
        obtain ⟨y, hy⟩ := rful v9.toNat (by omega)
        have hym : some y ∈ r := List.mem_of_getElem? hy
        walk_at "go"
        refine g_ixT (SqT.of hh9) (n := v9.toNat) (by omega) (v := .int y) (by rw [List.getElem?_map, hy]; rfl) ?_
        have hc9 := D9.rcv
        walk_at "go"
        refine use_nx D9 (by omega) (fun H10 v10 k10 D10 h100 h101 => ?_)
        have hh10 : H10 hp = some (.tup (r.map ovV)) := D9.at_ k10 hh9 (fun _ e => nomatch e)
        have hnS8 : n < c8.S := by rw [g8.s]; exact hn
        have hWc8 : Pw c8.W := by rw [g8.w]; exact sz.w
        have el : lnO c8 (y * (Z : Int) + v10) = y := by
          have z := ln_mul (c := c8) (y := y) (r := v10) (by rw [g8.z]; exact z0) h100 (by rw [g8.z]; exact h101)
          rw [g8.z] at z
          exact z
        have en : nmO c8 (y * (Z : Int) + v10) = n := nm_of (by
          rw [el]
          rw [← hits8.rw_] at hym
          obtain ⟨q, hq, eq⟩ := (mem_rv wf8 hnS8).mp hym
          exact o8.inn n hnS8 q hq y eq)
        obtain ⟨hh, vl', hits'⟩ := hits8.step wf8 o8 hWc8 hnS8 en el hym
        walk_at "go"
        refine use_tc (X := [(tp, .lst (touched.map V.int)), (pp, .lst (put.map V.int)), (s, setO S W Z P)]) (Y := []) (x := y * (Z : Int) + v10) D10 wf8 (fun H11 k11 D11 => ?_)
        have hh11 := ca_tup D10.ca wf8 k11 hh10
        rw [decide_eq_true hh]
        walk_at "go"
        have ht11 : H11 tp = some (.lst (touched.map V.int)) := D11.get 0 rfl
        refine g_seqL (SqL.of ht11) ?_
        refine l_filt (f := fun z => !decide (z = y)) ht11 (by omega) (fun _ => rfl) (fun z H' QB hz sm q => ?_) (fun z H' R q => ?_) (fun Dl H12 hDl s12 hD12 => ?_)
        · walk_at "go"
          exact q
        · walk_at "go"
          exact q
        · walk_at "go"
          refine ⟨by show 1 ≤ sizeLine; decide, fun u hu => ?_⟩
          walk_at "go"
          have s13 := Same.new (o := .lst [.int y]) hu
          have hD13 := s13 _ _ hD12
          have lenf := List.length_filter_le (fun z => !decide (z = y)) touched
          refine .inl ⟨Dl, u, _, _, rfl, rfl, hD13, upd_same, szle (by rw [List.length_map]; simp only [List.length_cons, List.length_nil]; omega), fun q hq => ?_⟩
          walk_at "go"
          have D12 := (D11.same s12).same s13
          have D14 := (D12.sub (List.sublist_cons_self _ _)).front (o := .lst ((touched.filter fun z => !decide (z = y)).map V.int ++ [.int y])) hq
          have s14 := Same.new (o := .lst ((touched.filter fun z => !decide (z = y)).map V.int ++ [.int y])) hq
          refine ⟨_, _, _, _, _, vl', touched.filter (fun z => decide (z ≠ y)) ++ [y], q, rfl, ?_, wf8.tc, o8.any wf8, g8.tc, s14 _ _ (s13 _ _ (s12 _ _ hh11)), hits', ?_⟩
          · have e : (touched.filter (fun z => decide (z ≠ y)) ++ [y]).map V.int = (touched.filter fun z => !decide (z = y)).map V.int ++ [.int y] := by rw [List.map_append, filter_ne]; rfl
            rw [e]
            exact D14
          · rw [List.length_append, ← filter_ne]
            simp only [List.length_cons, List.length_nil]
            omega
      · rintro σ H8 ⟨k, ad, li, on, c8, vl8, touched, tp, rfl, D8, wf8, o8, g8, hh8, hits8, len8⟩
        have hnS8 : n < c8.S := by rw [g8.s]; exact hn
        have hpp : H8 pp = some (.lst (put.map V.int)) := D8.get 1 rfl
        have htp8 : H8 tp = some (.lst (touched.map V.int)) := D8.get 0 rfl
        have bnd8 : ∀ y, some y ∈ row c8 n → y < (S : Int) * (5 * (W : Int)) := fun y hy => bnd y (by rw [hits8.rw_] at hy; exact hy)
        have fin : ∀ (H9 : Hp) (p : Addr) (order : List Int), H8 p = none → Same H8 H9 → H9 p = some (.lst (order.map V.int)) → order.Perm (lnsV c8 n vl8) → (¬ P = "plru" → order = lnsV c8 n vl8) → Q (.ref p) H9 := fun H9 p order hn sm hp pm eq => hQ H9 c8 vl8 p order (DrL.plus (D8.sub ((List.sublist_cons_self _ _).trans (List.sublist_cons_self _ _))) sm hn hp) wf8 o8 g8 hits8.nx pm eq bnd8
        have hpl : touched.length ≤ 1000 := by omega
        walk_at "go"
        rcases hP with rfl | rfl | rfl
        · refine g_isnt (by decide +kernel) ?_
          walk_at "go"
          refine l_filt (f := isIn r) htp8 (by omega) (fun _ => rfl) (fun z H' QB hz sm q => ?_) (fun z H' R q => ?_) (fun Dl H9 hDl s9 hD9 => ?_)
          · walk_at "go"
            refine g_inR (sm _ _ hh8) ?_
            walk_at "go"
            exact q
          · walk_at "go"
            exact q
          · walk_at "go"
            exact fin H9 Dl _ hDl s9 hD9 (hits8.perm wf8 o8 hnS8) (fun _ => hits8.lru g8.p)
        · refine g_is (by decide +kernel) ?_
          walk_at "go"
          refine l_filt (f := isIn r) hpp (by omega) (fun _ => rfl) (fun z H' QB hz sm q => ?_) (fun z H' R q => ?_) (fun Dl H9 hDl s9 hD9 => ?_)
          · walk_at "go"
            refine g_inR (sm _ _ hh8) ?_
            walk_at "go"
            exact q
          · walk_at "go"
            exact q
          · walk_at "go"
            exact fin H9 Dl _ hDl s9 hD9 (by rw [hits8.fifo g8.p]) (fun _ => hits8.fifo g8.p)
        · refine g_isnt (by decide +kernel) ?_
          walk_at "go"
          refine l_filt (f := isIn r) htp8 (by omega) (fun _ => rfl) (fun z H' QB hz sm q => ?_) (fun z H' R q => ?_) (fun Dl H9 hDl s9 hD9 => ?_)
          · walk_at "go"
            refine g_inR (sm _ _ hh8) ?_
            walk_at "go"
            exact q
          · walk_at "go"
            exact q
          · walk_at "go"
            exact fin H9 Dl _ hDl s9 hD9 (hits8.perm wf8 o8 hnS8) (fun e => absurd rfl e)


/-! ### the law -/
def tkn (ks : List Nat) : List Int := ks.map fun (p : Nat) => (p : Int)
theorem tkn_perm {vl : List Nat} {W : Nat} (nd : vl.Nodup) (lt : ∀ p ∈ vl, p < W) (len : vl.length = W) : (tkn vl).Perm (tkn (List.range W)) := by
  refine List.Perm.map _ ((List.perm_ext_iff_of_nodup nd List.nodup_range).mpr fun a => ?_)
  rw [List.mem_range]
  exact ⟨fun h => lt a h, fun h => cover nd lt len h⟩
theorem tkn_asc (W : Nat) : (tkn (List.range W)).Pairwise (· ≤ ·) := by
  unfold tkn
  exact List.pairwise_map.mpr (List.pairwise_lt_range.imp fun h => by omega)
theorem rg_tkn (W : Nat) : rgV 0 (W : Int) = (tkn (List.range W)).map V.int := by
  unfold rgV tkn
  rw [List.map_map, Int.sub_zero, Int.toNat_natCast]
  refine List.map_congr_left fun i _ => ?_
  show V.int (0 + (i : Int)) = V.int (i : Int)
  rw [Int.zero_add]
/-- the lines of a full set, by place -/
def rowI (c : CSt) (n : Nat) : List Int := (row c n).map fun o => o.getD 0
theorem rowI_eq {d : CAd} {c : CSt} {n : Nat} {vl : List Nat} (h : Nx c n vl) (wf : CWf d c) (hn : n < c.S) : (row c n).map ovV = (rowI c n).map V.int := by
  unfold rowI
  rw [List.map_map]
  refine List.map_congr_left fun o ho => ?_
  obtain ⟨p, hp, e⟩ := (mem_rv wf hn).mp ho
  obtain ⟨y, e2⟩ := h.full p hp
  rw [e] at e2
  subst e2
  rfl
theorem rowI_len {d : CAd} {c : CSt} {n : Nat} (wf : CWf d c) (hn : n < c.S) : (rowI c n).length = c.W := by
  unfold rowI
  rw [List.length_map, wf.rowL hn]
theorem rowI_at {c : CSt} {n p : Nat} : (rowI c n).getD p 0 = (rv c n p).getD 0 := by
  unfold rowI rv
  rw [List.getD_eq_getElem?_getD, List.getElem?_map, List.getD_eq_getElem?_getD]
  cases (row c n)[p]? with
  | none => rfl
  | some o => rfl
theorem rowI_perm {d : CAd} {c : CSt} {n : Nat} {vl : List Nat} (h : Nx c n vl) (wf : CWf d c) (hn : n < c.S) : (lnsV c n vl).Perm (rowI c n) := by
  have pm : vl.Perm (List.range c.W) := (List.perm_ext_iff_of_nodup h.nd List.nodup_range).mpr fun a => by
    rw [List.mem_range]
    exact ⟨fun z => h.lt a z, fun z => cover h.nd h.lt h.len z⟩
  have e : rowI c n = (List.range c.W).map fun p => (rv c n p).getD 0 := by
    refine List.ext_getElem (by rw [rowI_len wf hn, List.length_map, List.length_range]) fun i h1 h2 => ?_
    rw [List.getElem_map, List.getElem_range, ← rowI_at, List.getD_eq_getElem?_getD, List.getElem?_eq_getElem h1]
    rfl
  rw [e]
  exact pm.map _
/-- the new lines of the second part: at most k of them are held -/
def SecOk (c : CSt) (n S W k : Nat) : Prop := ∀ y, some y ∈ row c n → y < (S : Int) * (5 * (W : Int)) ∨ ∃ j b : Nat, j < k ∧ y = (n : Int) + (S : Int) * (9 * (W : Int) + (j : Int) + (b : Int) * 100)
theorem shaped_ints {ns : List Int} : SeqAt.shaped (.list (ns.map .int)) = true := shaped_of (by
    rw [PyData.canLay0]
    refine layAll_mem fun d hd => ?_
    obtain ⟨x, _, rfl⟩ := List.mem_map.mp hd
    rw [PyData.canLay0]) (by
    rw [PyData.depth]
    have : PyData.depthAll (ns.map .int) ≤ 0 := depthAll_mem fun d hd => by
      obtain ⟨x, _, rfl⟩ := List.mem_map.mp hd
      rw [PyData.depth]
      exact Nat.le_refl _
    omega)
theorem dp_list {K : PySem.W.Frag} {H : Hp} {a : Addr} {ns : List Int} (h : H a = some (.lst (ns.map V.int))) : Dp K H (.ref a) (.list (ns.map .int)) := by
  refine .lst (SqL.of h) ?_
  induction ns with
  | nil => exact .nil
  | cons n ns ih =>
    have go : ∀ ms : List Int, DpAll K H (ms.map V.int) (ms.map .int) := fun ms => by
      induction ms with
      | nil => exact .nil
      | cons m ms ih => exact .cons (.int m) ih
    exact go (n :: ns)
theorem eqv_ints {ns : List Int} : PyData.eqv (.list (ns.map .int)) (.list (ns.map .int)) = true := SeqAt.eqv_refl _ (SeqAt.canLay_of_shaped shaped_ints)
abbrev newL (n S W i b : Nat) : Int := (n : Int) + (S : Int) * (9 * (W : Int) + (i : Int) + (b : Int) * 100)
theorem newL_no {c : CSt} {n S W i b : Nat} (h : SecOk c n S W i) (hS : 0 < S) (hi : i < 100) : ¬ some (newL n S W i b) ∈ row c n := fun hm => by
  rcases h _ hm with z | ⟨j, b', hj, z⟩
  · have h1 : (S : Int) * (5 * (W : Int)) ≤ (S : Int) * (9 * (W : Int) + (i : Int) + (b : Int) * 100) := Int.mul_le_mul_of_nonneg_left (by omega) (by omega)
    unfold newL at z
    omega
  · unfold newL at z
    have e := Int.eq_of_mul_eq_mul_left (by omega : (S : Int) ≠ 0) (by omega : (S : Int) * (9 * (W : Int) + (i : Int) + (b : Int) * 100) = (S : Int) * (9 * (W : Int) + (j : Int) + (b' : Int) * 100))
    omega
theorem newL_mod {n S W i b : Nat} (h : n < S) : newL n S W i b % (S : Int) = (n : Int) := by
  unfold newL
  rw [Int.add_mul_emod_self_left]
  exact Int.emod_eq_of_lt (by omega) (by omega)
def sp_law (K : PySem.W.Frag) : Sp := fun vs H Q _ => ∃ (a : Addr) (ns : List Int), vs = [.ref a] ∧ SqL K H a (ns.map V.int) ∧ ns.length ≤ 63 ∧ ∀ H', Q (.bl true) H'
theorem sc_law : FnScope ["script", "draws", "settings", "sets", "ways", "size", "policy", "cache", "number", "order", "taken", "k", "before", "line", "changed"] ["script"] (defScope (topS 10)) := ⟨rfl, rfl, rfl, by decide +kernel, rfl, by decide +kernel, by decide +kernel⟩
theorem ok_law (T : Txt fa fn K mg) : Dn P w K mg base CX0 5 "law" ["script"] (sp_law K) := by
  refine mk_dn (d := dOf "law" 10) T 7 7 rfl rfl rfl rfl rfl sc_law (by walk_at "len") (fun _ _ _ _ _ _ us hl => match us, hl with | [_], _ => rfl) (fun cdv A outer s H vs Q E hr h => ⟨_, (pss_cons (ps_set (i := 1) sc_law.nd rfl (.inl rfl) (pe_callD (K := K) rfl (ok_law_reader T) (hr.mono (by decide)) rfl pass0 (pa_cons (pv 0) pa_nil)))
      (pss_cons (ps_set (i := 2) sc_law.nd rfl (.inl rfl) (pe_callD (K := K) rfl (ok_law_cache T) (hr.mono (by decide)) rfl pass0 (pa_cons (pv 1) pa_nil)))
      (pss_cons (ps_asg (pv 2) (pg_tup rfl (pgs_cons (pg_name (i := 3) sc_law.nd rfl (.inl rfl)) (pgs_cons (pg_name (i := 4) sc_law.nd rfl (.inl rfl)) (pgs_cons (pg_name (i := 5) sc_law.nd rfl (.inl rfl)) (pgs_cons (pg_name (i := 6) sc_law.nd rfl (.inl rfl)) pgs_nil))))))
      (pss_cons (ps_set (i := 7) sc_law.nd rfl (.inl rfl) (pe_makeD (K := K) rfl (mt_Cache___init__ T) (T.mkr 10 rfl) (hr.mono (by decide)) rfl (T.glo 8 rfl) pass0 (pa_cons (pv 2) pa_nil)))
      (pss_cons (ps_set (i := 8) sc_law.nd rfl (.inl rfl) (pe_callD (K := K) rfl (ok_law_next T) (hr.mono (by decide)) rfl pass0 (pa_cons (pv 1) (pa_cons (pv 3) pa_nil))))
      (pss_cons (ps_set (i := 9) sc_law.nd rfl (.inl rfl) (pe_callD (K := K) rfl (ok_law_begun T) (hr.mono (by decide)) rfl pass0 (pa_cons (pv 1) (pa_cons (pv 7) (pa_cons (pv 2) (pa_cons (pv 8) pa_nil))))))
      (pss_cons (ps_if (PW.pt (pw_or (pt_cmpR o_isN (pv 9) pe_non (nomark _)) (pw_or1 (pt_cmpR (op_neU (K := K) rfl hr.units) (pe_callB (c_sortU (K := K) rfl) rfl (T.free 32 rfl) (by decide +kernel) (pa_cons (pv 9) pa_nil)) (pe_callB (c_sortU (K := K) rfl) rfl (T.free 32 rfl) (by decide +kernel) (pa_cons (pe_methD (K := K) rfl (mt_Cache_places T) (cl_Cache T) (T.meth 12 rfl) (hr.mono (by decide)) pass0 (pv 7) (pa_cons (pv 8) pa_nil)) pa_nil)) (nomark _))))) (pss_one (ps_ret pe_bl)) pss_nil)
      (pss_cons (ps_set (i := 10) sc_law.nd rfl (.inl rfl) (pe_lst pa_nil))
      (pss_cons (ps_for PassesOwn.never rfl (pi_r1 rfl (T.free 31 rfl) (pa_cons (pv 4) pa_nil)) (pg_name (i := 11) sc_law.nd rfl (.inl rfl)) (pss_cons (ps_set (i := 12) sc_law.nd rfl (.inl rfl) (pe_methD (K := K) rfl (mt_Cache_places T) (cl_Cache T) (T.meth 12 rfl) (hr.mono (by decide)) pass0 (pv 7) (pa_cons (pv 8) pa_nil)))
      (pss_cons (ps_set (i := 13) sc_law.nd rfl (.inl rfl) (pe_op (op_addU (K := K) rfl) (pv 8) (pe_op op_mulU (pv 3) (pe_op (op_addU (K := K) rfl) (pe_op (op_addU (K := K) rfl) (pe_op op_mulU pe_int (pv 4)) (pv 11)) (pe_op op_mulU (pe_callD (K := K) rfl (ok_law_next T) (hr.mono (by decide)) rfl pass0 (pa_cons (pv 1) (pa_cons pe_int pa_nil))) pe_int)))))
      (pss_cons (ps_if (pt_tru (K := K) rfl (pe_methD (K := K) rfl (mt_Cache_touch T) (cl_Cache T) (T.meth 13 rfl) (hr.mono (by decide)) pass0 (pv 7) (pa_cons (pe_op (op_addU (K := K) rfl) (pe_op op_mulU (pv 13) (pv 5)) (pe_callD (K := K) rfl (ok_law_next T) (hr.mono (by decide)) rfl pass0 (pa_cons (pv 1) (pa_cons (pv 5) pa_nil)))) pa_nil))) (pss_one (ps_ret pe_bl)) pss_nil)
      (pss_cons (ps_set (i := 14) sc_law.nd rfl (.inl rfl) (pe_callD (K := K) rfl (ok_law_changed T) (hr.mono (by decide)) rfl pass0 (pa_cons (pv 12) (pa_cons (pe_methD (K := K) rfl (mt_Cache_places T) (cl_Cache T) (T.meth 12 rfl) (hr.mono (by decide)) pass0 (pv 7) (pa_cons (pv 8) pa_nil)) pa_nil))))
      (pss_cons (ps_if (PW.pt (pw_or (pt_cmpR (op_neU (K := K) rfl hr.units) (pe_callB (c_len (K := K) rfl) rfl (T.free 28 rfl) (by decide +kernel) (pa_cons (pv 14) pa_nil)) pe_int (nomark _)) (pw_or1 (pt_cmpR (op_neU (K := K) rfl hr.units) (pe_ixU (K := K) rfl (hu_of hr) (pe_methD (K := K) rfl (mt_Cache_places T) (cl_Cache T) (T.meth 12 rfl) (hr.mono (by decide)) pass0 (pv 7) (pa_cons (pv 8) pa_nil)) (pe_ixU (K := K) rfl (hu_of hr) (pv 14) pe_int)) (pv 13) (nomark _))))) (pss_one (ps_ret pe_bl)) pss_nil)
      (pss_cons (ps_if (PW.pt (pw_and (pt_cmpR (op_neU (K := K) rfl hr.units) (pv 6) pe_str (nomark _)) (pw_and1 (pt_cmpR (op_neU (K := K) rfl hr.units) (pe_ixU (K := K) rfl (hu_of hr) (pv 12) (pe_ixU (K := K) rfl (hu_of hr) (pv 14) pe_int)) (pe_ixU (K := K) rfl (hu_of hr) (pv 9) (pv 11)) (nomark _))))) (pss_one (ps_ret pe_bl)) pss_nil)
      (pss_one (ps_expr (pe_bm PySem.F.plainAttrs_list PySem.F.slot_list_append PySem.F.type_list_append mt_append (pv 10) (pa_cons (pe_ixU (K := K) rfl (hu_of hr) (pv 14) pe_int) pa_nil)))))))))))
      (pss_one (ps_ret (pe_cmpR (op_eqU (K := K) rfl hr.units) (pe_callB (c_sortU (K := K) rfl) rfl (T.free 32 rfl) (by decide +kernel) (pa_cons (pv 10) pa_nil)) (pe_listRg rfl rfl (T.free 29 rfl) (prg_1 rfl (T.free 31 rfl) (pv 4))) (nomark _))))))))))))), ?_⟩)
  obtain ⟨a, ns, rfl, hS, hlen, hQ⟩ := h
  walk_at "go"
  refine use_readerD hS hlen (fun H1 d s1 hd D1 => ?_)
  walk_at "go"
  refine ⟨d, [], rfl, D1, fun H2 s S W Z P D2 s0 s1' hW z0 z1 hP => ?_⟩
  have w0 : 0 < W := by rcases hW with rfl | rfl | rfl | rfl <;> decide
  have w1 : W ≤ 8 := by rcases hW with rfl | rfl | rfl | rfl <;> decide
  have hs2 := D2.get 0 rfl
  walk_at "go"
  intro x dx hx hdx hne
  obtain ⟨r, n0, sd, rw_, M2, ok2, hn0⟩ := D2.ex
  refine use_cache M2 hx hdx (M2.get 2 rfl) s0 (by omega) w0 (by omega) z0 (by omega) (fun H3 cd ecd s3 M3 wf3 => ?_)
  subst ecd
  have D3 : DrL H3 d ([(s, setO S W Z P)] ++ (CaL K cd (c0V S W Z P) ++ [])) := ⟨r, n0, sd, rw_, by rw [List.append_nil]; exact M3, ok2, hn0⟩
  walk_at "go"
  refine use_nx D3 (by omega) (fun H4 v4 k4 D4 h40 h41 => ?_)
  obtain ⟨n, rfl, hn⟩ : ∃ n : Nat, v4 = (n : Int) ∧ n < S := ⟨v4.toNat, by omega, by omega⟩
  walk_at "go"
  refine ⟨d, s, cd, S, W, Z, n, P, rfl, D4, wf3, ⟨s0, s1', hW, w0, w1, z0, z1⟩, hn, hP, fun H5 cb vl p order D5 wf5 o5 g5 nx5 pm5 eq5 bnd5 => ?_⟩
  have hnS : n < cb.S := by rw [g5.s]; exact hn
  have vll : vl.length = W := by rw [nx5.len, g5.w]
  have ol : order.length = W := by rw [pm5.length_eq]; unfold lnsV; rw [List.length_map, vll]
  have hp5 : H5 p = some (.lst (order.map V.int)) := D5.get 0 rfl
  have hc5 := D5.rcv
  walk_at "go"
  refine ⟨p, order, rfl, .inl (SqL.of hp5), by omega, fun ns1 q1 pm1 pw1' hq1 => ?_⟩
  have s6 := Same.new (o := .lst (ns1.map V.int)) hq1
  have D6 := D5.same s6
  have hc6 := D6.rcv
  walk_at "go"
  refine ⟨cd, cb, n, rfl, D6.ca, wf5, hnS, fun pp H7 s7 hpp => ?_⟩
  rw [rowI_eq nx5 wf5 hnS] at hpp
  walk_at "go"
  refine ⟨pp, rowI cb n, rfl, .inr (SqT.of hpp), by rw [rowI_len wf5 hnS, g5.w]; omega, fun ns2 q2 pm2 pw2 hq2 => ?_⟩
  have s8 := Same.new (o := .lst (ns2.map V.int)) hq2
  have e12 : ns1 = ns2 := sorted_eq (((pm1.trans pm5).trans (rowI_perm nx5 wf5 hnS)).trans pm2.symm) pw1' pw2
  subst e12
  refine g_neD (dp_list (ns := ns1) (s8 _ _ (s7 _ _ upd_same))) (dp_list (ns := ns1) upd_same) shaped_ints shaped_ints ?_
  rw [eqv_ints]
  have D8 := (D6.same s7).same s8
  walk_at "go"
  refine ⟨by decide, fun tk htk => ?_⟩
  have D9 := D8.front (o := .lst []) htk
  walk_at "go"
  rw [Int.toNat_natCast]
  refine f_range (fun i σ H' => ∃ (k bf li ch : Option V) (c : CSt), σ = [some (.ref a), some (.ref d), some (.ref s), some (.int (S : Int)), some (.int (W : Int)), some (.int (Z : Int)), some (.str P), some (.ref cd.p), some (.int (n : Int)), some (.ref p), some (.ref tk), k, bf, li, ch] ∧
      DrL H' d ([(tk, .lst ((tkn (vl.take i)).map V.int)), (p, .lst (order.map V.int)), (s, setO S W Z P)] ++ (CaL K cd c ++ [])) ∧ CWf cd c ∧ One c ∧ Cfg c S W Z P ∧ Nx c n (vl.drop i ++ vl.take i) ∧ (∀ q ∈ vl.drop i, rv c n q = rv cb n q) ∧ SecOk c n S W i)
    ⟨_, _, _, _, cb, rfl, D9, wf5, o5, g5, by rw [List.take_zero, List.append_nil, List.drop_zero]; exact nx5, fun q _ => rfl, fun y hy => .inl (bnd5 y hy)⟩ ?_ ?_
  · rintro i σ H10 hi ⟨k, bf, li, ch, c, rfl, D10, wf, o, g, nx, rvs, sec⟩
    have hnS : n < c.S := by rw [g.s]; exact hn
    have hWc : Pw c.W := by rw [g.w]; exact hW
    have hc := D10.rcv
    walk_at "go"
    refine ⟨cd, c, n, rfl, D10.ca, wf, hnS, fun bp H11 s11 hbp => ?_⟩
    rw [rowI_eq nx wf hnS] at hbp
    have D11 := D10.same s11
    walk_at "go"
    refine use_nx D11 (by decide) (fun H12 v12 k12 D12 h120 h121 => ?_)
    obtain ⟨b, rfl, hb⟩ : ∃ b : Nat, v12 = (b : Int) ∧ b < 2 := ⟨v12.toNat, by omega, by omega⟩
    have hbp12 : H12 bp = some (.tup ((rowI c n).map V.int)) := D11.at_ k12 hbp (fun _ e => nomatch e)
    have hc12 := D12.rcv
    walk_at "go"
    have e0 : (0 : Int) + (i : Int) = (i : Int) := by omega
    rw [e0]
    refine use_nx D12 (by omega) (fun H13 v13 k13 D13 h130 h131 => ?_)
    have hbp13 : H13 bp = some (.tup ((rowI c n).map V.int)) := D12.at_ k13 hbp12 (fun _ e => nomatch e)
    walk_at "go"
    have el : lnO c (newL n S W i b * (Z : Int) + v13) = newL n S W i b := by
      have z := ln_mul (c := c) (y := newL n S W i b) (r := v13) (by rw [g.z]; exact z0) h130 (by rw [g.z]; exact h131)
      rw [g.z] at z
      exact z
    have en : nmO c (newL n S W i b * (Z : Int) + v13) = n := nm_of (by rw [el, g.s]; exact newL_mod hn)
    have hm : ¬ hitV c (newL n S W i b * (Z : Int) + v13) := by
      unfold hitV
      rw [el, en]
      exact newL_no sec s0 (by omega)
    refine use_tc (X := [(tk, .lst ((tkn (vl.take i)).map V.int)), (p, .lst (order.map V.int)), (s, setO S W Z P)]) (Y := []) (x := newL n S W i b * (Z : Int) + v13) D13 wf (fun H14 k14 D14 => ?_)
    have hbp14 := ca_tup D13.ca wf k14 hbp13
    rw [decide_eq_false hm]
    have hiv : vl[i]? = some (vl[i]'(by omega)) := List.getElem?_eq_getElem _
    generalize vl[i]'(by omega) = v at hiv
    have hdrop : vl.drop i = v :: vl.drop (i + 1) := by
      rw [List.drop_eq_getElem_cons (by omega)]
      congr 1
      exact Option.some.inj ((List.getElem?_eq_getElem _).symm.trans hiv)
    have htake : vl.take (i + 1) = vl.take i ++ [v] := by rw [List.take_add_one, hiv]; rfl
    have miss := Nx.miss (c := c) (x := newL n S W i b * (Z : Int) + v13) (vl := vl.drop i ++ vl.take i) (by rw [en]; exact nx) wf o hWc hm
    obtain ⟨v', r', ev, epl, nx'⟩ := miss
    rw [hdrop, List.cons_append] at ev
    injection ev with ev1 ev2
    subst ev1
    rw [en, ← ev2, List.append_assoc, ← htake] at nx'
    have hvW : v < c.W := nx.lt v (by rw [hdrop]; simp)
    have wf' : CWf cd (tcV c (newL n S W i b * (Z : Int) + v13)) := wf.tc
    have o' : One (tcV c (newL n S W i b * (Z : Int) + v13)) := o.any wf
    have g' : Cfg (tcV c (newL n S W i b * (Z : Int) + v13)) S W Z P := g.tc
    have rt : ∀ q, rv (tcV c (newL n S W i b * (Z : Int) + v13)) n q = if q = v then some (newL n S W i b) else rv c n q := fun q => by
      rw [rv_touch wf, en, epl, el]
      by_cases z : q = v
      · rw [if_pos ⟨rfl, z.symm⟩, if_pos z]
      · rw [if_neg (fun y => z y.2.symm), if_neg z]
    generalize tcV c (newL n S W i b * (Z : Int) + v13) = c' at D14 nx' wf' o' g' rt
    have hnS' : n < c'.S := by rw [g'.s]; exact hn
    have old : ¬ (rv c n v).getD 0 = newL n S W i b := fun z => newL_no sec s0 (by omega) ((mem_rv wf hnS).mpr ⟨v, hvW, by rw [lns_at nx hvW, z]⟩)
    have hc14 := D14.rcv
    walk_at "go"
    refine ⟨cd, c', n, rfl, D14.ca, wf', hnS', fun ap H15 s15 hap => ?_⟩
    rw [rowI_eq nx' wf' hnS'] at hap
    have D15 := D14.same s15
    have len1 := rowI_len wf hnS
    have len2 := rowI_len wf' hnS'
    have cw := g.w
    have cw' := g'.w
    walk_at "go"
    refine ⟨bp, ap, rowI c n, rowI c' n, v, rfl, s15 _ _ hbp14, hap, by omega, by omega, by omega, fun q hq => ?_, fun H16 cp s16 hcp => ?_⟩
    · rw [rowI_at, rowI_at, rt q]
      by_cases z : q = v
      · subst z
        rw [if_pos rfl]
        exact ⟨fun e => absurd e old, fun e => absurd rfl e⟩
      · rw [if_neg z]
        exact ⟨fun _ => z, fun _ => rfl⟩
    have D16 := D15.same s16
    have hc16 := D16.rcv
    have hbp16 := s16 _ _ (s15 _ _ hbp14)
    walk_at "go"
    refine g_ifN (fun z => absurd rfl z) (fun _ => ?_)
    walk_at "go"
    refine ⟨cd, c', n, rfl, D16.ca, wf', hnS', fun tp2 H17 s17 htp2 => ?_⟩
    rw [rowI_eq nx' wf' hnS'] at htp2
    have D17 := D16.same s17
    have hcp17 : H17 cp = some (.lst [.int (v : Int)]) := s17 _ _ hcp
    walk_at "go"
    refine g_ixL (SqL.of hcp17) (n := 0) rfl rfl ?_
    refine g_ixT (SqT.of htp2) (n := v) rfl (v := .int (newL n S W i b)) (by
      rw [List.getElem?_map, getD_some (l := rowI c' n) (n := v) (d := 0) (by omega), rowI_at, rt v, if_pos rfl]
      rfl) ?_
    walk_at "go"
    refine g_ifN (fun z => absurd rfl z) (fun _ => ?_)
    walk_at "go"
    have fin : ∀ (R : VK), (∀ H18, DrL H18 d ([(tk, .lst ((tkn (vl.take (i + 1))).map V.int)), (p, .lst (order.map V.int)), (s, setO S W Z P)] ++ (CaL K cd c' ++ [])) → R .non H18) → rAppend (.ref tk) [.int (v : Int)] H17 R := fun R hR => by
      have tl : (tkn (vl.take i)).length ≤ 8 := by
        unfold tkn
        rw [List.length_map, List.length_take]
        omega
      refine gD_append D17 0 rfl (by rw [List.length_map]; omega) (fun D18 => hR _ ?_)
      have e : (tkn (vl.take (i + 1))).map V.int = (tkn (vl.take i)).map V.int ++ [.int (v : Int)] := by
        unfold tkn
        rw [htake, List.map_append, List.map_append]
        rfl
      rw [e]
      exact D18
    have sec' : SecOk c' n S W (i + 1) := fun y hy => by
      obtain ⟨q, hq, e⟩ := (mem_rv wf' hnS').mp hy
      rw [rt q] at e
      split at e
      · cases e
        exact .inr ⟨i, b, by omega, rfl⟩
      · rcases sec y ((mem_rv wf hnS).mpr ⟨q, by omega, e⟩) with z | ⟨j, b', hj, z⟩
        · exact .inl z
        · exact .inr ⟨j, b', by omega, z⟩
    have rvs' : ∀ q ∈ vl.drop (i + 1), rv c' n q = rv cb n q := fun q hq => by
      have ne : q ≠ v := fun e => by
        have nd := nx5.nd
        rw [← List.take_append_drop i vl, hdrop] at nd
        have z := (List.nodup_cons.mp (List.nodup_append.mp nd).2.1).1
        rw [e] at hq
        exact z hq
      rw [rt q, if_neg ne]
      exact rvs q (by rw [hdrop]; exact List.mem_cons_of_mem _ hq)
    have hbp17 := s17 _ _ hbp16
    have htk17 : H17 tk = some (.lst ((tkn (vl.take i)).map V.int)) := D17.get 0 rfl
    have hp17 : H17 p = some (.lst (order.map V.int)) := D17.get 1 rfl
    refine g_ifN (fun hp => ?_) (fun hp => ?_)
    · have eo := eq5 hp
      have oi : order[i]? = some ((rv cb n v).getD 0) := by
        rw [eo]
        unfold lnsV
        rw [List.getElem?_map, hiv]
        rfl
      walk_at "go"
      refine g_ixL (SqL.of hcp17) (n := 0) rfl rfl ?_
      refine g_ixT (SqT.of hbp17) (n := v) rfl (v := .int ((rv cb n v).getD 0)) (by
        rw [List.getElem?_map, getD_some (l := rowI c n) (n := v) (d := 0) (by omega), rowI_at, rvs v (by rw [hdrop]; simp)]
        rfl) ?_
      walk_at "go"
      refine g_ixL (SqL.of hp17) (n := i) (by omega) (by rw [List.getElem?_map, oi]; rfl) ?_
      walk_at "go"
      refine g_ifN (fun z => absurd rfl z) (fun _ => ?_)
      walk_at "go"
      refine g_ixL (SqL.of hcp17) (n := 0) rfl rfl ?_
      walk_at "go"
      refine fin _ (fun H18 D18 => ?_)
      walk_at "go"
      exact ⟨_, _, _, _, c', rfl, D18, wf', o', g', nx', rvs', sec'⟩
    · walk_at "go"
      refine g_ixL (SqL.of hcp17) (n := 0) rfl rfl ?_
      walk_at "go"
      refine fin _ (fun H18 D18 => ?_)
      walk_at "go"
      exact ⟨_, _, _, _, c', rfl, D18, wf', o', g', nx', rvs', sec'⟩
  · rintro σ H10 ⟨k, bf, li, ch, c, rfl, D10, wf, o, g, nx, rvs, sec⟩
    have htk10 : H10 tk = some (.lst ((tkn (vl.take W)).map V.int)) := D10.get 0 rfl
    rw [List.take_of_length_le (by omega)] at htk10
    have tl : (tkn vl).length = W := by
      unfold tkn
      rw [List.length_map]
      exact vll
    walk_at "go"
    refine ⟨tk, tkn vl, rfl, .inl (SqL.of htk10), by omega, fun ns3 q3 pm3 pw3 hq3 => ?_⟩
    walk_at "go"
    refine ⟨_, rfl, (W : Int), rfl, RgOk.of_le (by decide) (by omega) (by decide) (by omega), fun q4 hq4 => ?_⟩
    rw [rg_tkn]
    have e34 : ns3 = tkn (List.range W) := sorted_eq (pm3.trans (tkn_perm nx5.nd (fun q hq => by have := nx5.lt q hq; rw [g5.w] at this; exact this) vll)) pw3 (tkn_asc W)
    subst e34
    have s12 := Same.new (o := .lst ((tkn (List.range W)).map V.int)) hq4
    refine g_eqD (dp_list (ns := tkn (List.range W)) (s12 _ _ upd_same)) (dp_list (ns := tkn (List.range W)) upd_same) shaped_ints shaped_ints ?_
    rw [eqv_ints]
    exact hQ _

/-! ### the head -/
abbrev R : PySem.W.OpenRow := PySem.W.OpenLaw.row PySem.Challenge.rw_sameclock_k22_misses_turn_a_set_over
abbrev hk : PySem.W.Hook := He.hookD 5 fa fn
def ob (s : PySem.W.SharedT) : He.AlD := He.obsDG 5 fa fn (HandSHeadRun.getT s)
theorem ob_eq (s : PySem.W.SharedT) : ob s = hk.obs s.abs := He.obsDG_eq (HandSHeadRun.getT_eq s)
theorem run (w : World) : HandSHeadRun.RunEq R (PySem.W.view R.prog [10]) hk ob 3000 ["_wall", "Cache", "_law_draws", "_law_reader", "_law_next", "_law_cache", "_law_changed", "_law_begun"] w := by
  intro os
  kernel_rfl
theorem facts {P : Program} {w : World} {K : PySem.W.Frag} {h : Heap} {mg : Str → Option Value} {f : Addr} (X : K.In h) (G : h.Ns mainGlobals mg) (hfa : mg ("law" : Str) = some (.ref f)) (c : He.SaysD fa fn K) :
    ∃ fd : FuncData, (∀ (s : Shared) (v : Value), BindsTo s fd ⟨[v], []⟩ [("script", v)]) ∧ ∀ base : Heap, K.In base → base.Ns mainGlobals mg → FnOk P w K mg base CX0 5 f fd ["script"] (sp_law K) :=
  law_facts (d := dOf "law" 10) X G hfa c trivial 7 7 rfl rfl rfl rfl rfl (fun _ _ _ _ _ _ us hl => match us, hl with | [_], _ => rfl) fun _ T => ok_law T
end K22
open PySem PySem.W PySem.Calls PyProof.Rows
theorem PySem.Challenge.cw_sameclock_k22_misses_turn_a_set_over_holds : PySem.Challenge.rw_sameclock_k22_misses_turn_a_set_over.Holds := by
  w_on; o_law
  refine HandSHeadRun.head_any (r := OpenLaw.row PySem.Challenge.rw_sameclock_k22_misses_turn_a_set_over) (q := view (OpenLaw.row PySem.Challenge.rw_sameclock_k22_misses_turn_a_set_over).prog [10]) (H := K22.hk) (ob := K22.ob) (M := 3000) (loose := ["_wall", "Cache", "_law_draws", "_law_reader", "_law_next", "_law_cache", "_law_changed", "_law_begun"]) (d := HandSHeadRun.topDef (OpenLaw.row PySem.Challenge.rw_sameclock_k22_misses_turn_a_set_over).prog 10) (kwd := []) K22.ob_eq
    (by kernel_rfl) (fun s => by kernel_rfl) K22.run (by kernel_rfl) (by kernel_rfl) (by kernel_rfl) (by rfl) (by first | assumption | decide +kernel) (by decide +kernel) ⟨rfl, rfl, rfl, rfl, rfl, by decide +kernel⟩ ?hw ?hc
  case hw => w_witness2
  case hc =>
    refine L2.walk_ofE (l := PySem.Challenge.rw_sameclock_k22_misses_turn_a_set_over) (n := 63) (k := 5) (x := "script") (CX := L2.CX0) rfl (by decide) (by kernel_rfl) ⟨rfl, by decide, by decide⟩ ?F (fun _ _ _ _ z => z)
    intro w mg fa h Y G hmg0
    obtain ⟨K, KX, c⟩ := Y
    have hmg : mg ("law" : PySem.Str) = some (.ref fa) := by
      have e : (HandSHeadRun.topDef (OpenLaw.row PySem.Challenge.rw_sameclock_k22_misses_turn_a_set_over).prog 10).name = ("law" : PySem.Str) := by kernel_rfl
      rw [← e]
      exact hmg0
    obtain ⟨fd, hb, hF⟩ := K22.facts (P := (PySem.Challenge.rw_sameclock_k22_misses_turn_a_set_over).prog) (w := w) KX G hmg c
    exact ⟨K, fd, K22.sp_law K, KX, hb, fun H a ns hl _ hS => ⟨a, ns, rfl, hS, hl, fun _ => rfl⟩, hF⟩
#print axioms PySem.Challenge.cw_sameclock_k22_misses_turn_a_set_over_holds

