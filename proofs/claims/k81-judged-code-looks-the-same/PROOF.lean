import PyProof.Rows.All
import Wide.All
import OpenK.AllK
import Wide.FinOn
import HandS.ForMost
import HandS.Wide
import HandS.WideMore
import HandS.IsInst
import HandS.Defaults
import HandS.Flow
import HandS.TupAny
import HandS.Conv
import HandS.Exc
import HandS.TupMul
import HandS.Zip
import HandS.SetFor
import HandS.Strs
import HandS.Dict
import HandS.TupSets
import HandS.Style
import HandS.Head0
import HandS.Head1
import HandS.Head2
import HandS.HeadEnd
import HandS.HeadHook1
import HandS.HeadHook2
import HandS.HeadHook3
import HandS.HeadHook4
import HandS.More
import HandS.ExcOwn
import HandS.ExcInit
import HandS.ExcField
import HandS.TryOnly
import HandS.HeadNt
import HandS.Text
import PySem.Challenge.RW_sameclock_k81_whole_judged_code_looks_th
import HandS.Deep
set_option Elab.async false
set_option linter.all false
set_option maxRecDepth 100000
set_option maxHeartbeats 4000000
/-! Own base: a heap told by a list of its objects, frames of calls, joins of ways, whiles by a measure, calls by one structure. -/
namespace G
open PySem PySem.Spec PyProof.Rows L2

/-- the objects one speaks of, each once -/
structure Has (H : Hp) (L : List (Addr × HO)) : Prop where
  nd : (L.map (·.1)).Nodup
  is_ : ∀ p ∈ L, H p.1 = some p.2

section
variable {H H' : Hp} {L : List (Addr × HO)} {a p : Addr} {o o' : HO}
theorem Has.nil : Has H [] := ⟨List.nodup_nil, fun _ h => nomatch h⟩
theorem Has.get (M : Has H L) (i : Nat) (h : L[i]? = some (a, o)) : H a = some o := M.is_ _ (List.mem_of_getElem? h)
theorem Has.one (h : H a = some o) : Has H [(a, o)] := ⟨by simp, fun p hp => by
  rw [List.mem_singleton.mp hp]
  exact h⟩
theorem keep_new (h : H a = some o) (hp : H p = none) : upd H p o' a = some o := by
  rw [upd_ne (ne_of_none h hp)]
  exact h
theorem Has.fresh (M : Has H L) (hp : H p = none) : p ∉ L.map (·.1) := fun h => by
  obtain ⟨q, hq, e⟩ := List.mem_map.mp h
  have := M.is_ q hq
  rw [e, hp] at this
  cases this
theorem Has.new (M : Has H L) (hp : H p = none) : Has (upd H p o) (L ++ [(p, o)]) where
  nd := by
    rw [List.map_append, List.nodup_append]
    refine ⟨M.nd, by simp, fun x hx y hy e => ?_⟩
    simp only [List.map_cons, List.map_nil, List.mem_singleton] at hy
    subst hy
    subst e
    exact M.fresh hp hx
  is_ := fun q hq => by
    rcases List.mem_append.mp hq with h | h
    · exact keep_new (M.is_ q h) hp
    · rw [List.mem_singleton.mp h]
      exact upd_same
theorem nodup_fst {L : List (Addr × HO)} (nd : (L.map (·.1)).Nodup) {i j : Nat} {a : Addr} {x y : HO} (hi : L[i]? = some (a, x)) (hj : L[j]? = some (a, y)) : i = j := by
  have h1 : (L.map (·.1))[i]? = some a := by rw [List.getElem?_map, hi]; rfl
  have h2 : (L.map (·.1))[j]? = some a := by rw [List.getElem?_map, hj]; rfl
  exact nd_ix nd h1 h2
theorem map_fst_set : ∀ {L : List (Addr × HO)} {i : Nat} {o o' : HO} {a : Addr}, L[i]? = some (a, o) → (L.set i (a, o')).map (·.1) = L.map (·.1)
  | [], _, _, _, _, h => by simp at h
  | p :: L, 0, _, _, _, h => by
    simp only [List.getElem?_cons_zero, Option.some.injEq] at h
    subst h
    rfl
  | p :: L, i + 1, o, o', a, h => by
    simp only [List.getElem?_cons_succ] at h
    simp only [List.set_cons_succ, List.map_cons, List.cons.injEq, true_and]
    exact map_fst_set h
/-- the object at place i is another one in H', the others stand -/
theorem Has.put (M : Has H L) (i : Nat) (h : L[i]? = some (a, o)) (k : ∀ b u, H b = some u → b ≠ a → H' b = some u) (e : H' a = some o') : Has H' (L.set i (a, o')) where
  nd := by
    rw [map_fst_set h]
    exact M.nd
  is_ := fun q hq => by
    obtain ⟨j, hj, e2⟩ := List.mem_iff_getElem.mp hq
    have hj' : (L.set i (a, o'))[j]? = some q := by rw [List.getElem?_eq_getElem hj, e2]
    rw [List.getElem?_set] at hj'
    split at hj'
    · split at hj'
      · cases hj'
        exact e
      · cases hj'
    · rename_i hij
      have hm := M.is_ q (List.mem_of_getElem? hj')
      refine k _ _ hm fun ea => hij ?_
      obtain ⟨b, u⟩ := q
      subst ea
      exact nodup_fst M.nd h hj'
theorem Has.set (M : Has H L) (i : Nat) (h : L[i]? = some (a, o)) : Has (upd H a o') (L.set i (a, o')) :=
  M.put i h (fun b u e n => by rw [upd_ne n]; exact e) upd_same
theorem Has.keep (M : Has H L) (k : Same H H') : Has H' L := ⟨M.nd, fun p hp => k _ _ (M.is_ p hp)⟩
theorem Has.sub (M : Has H L) {L' : List (Addr × HO)} (h : L'.Sublist L) : Has H L' := ⟨M.nd.sublist (h.map _), fun p hp => M.is_ p (h.subset hp)⟩
theorem Has.perm (M : Has H L) {L' : List (Addr × HO)} (h : L.Perm L') : Has H L' := ⟨(h.map _).nodup_iff.mp M.nd, fun p hp => M.is_ p (h.mem_iff.mpr hp)⟩
theorem Has.ne (M : Has H L) {b : Addr} {u : HO} (i j : Nat) (hi : L[i]? = some (a, o)) (hj : L[j]? = some (b, u)) (hij : i ≠ j) : a ≠ b := fun e => by
  subst e
  exact hij (nodup_fst M.nd hi hj)
end

/-- all that was tracked stands, but what stands at ms -/
def Keep (ms : List Addr) (H H' : Hp) : Prop := ∀ b o, H b = some o → b ∉ ms → H' b = some o
section
variable {ms : List Addr} {H H1 H2 : Hp} {L : List (Addr × HO)} {a p : Addr} {o o' : HO}
theorem Keep.refl : Keep ms H H := fun _ _ h _ => h
theorem Keep.trans (x : Keep ms H H1) (y : Keep ms H1 H2) : Keep ms H H2 := fun b o h n => y b o (x b o h n) n
theorem Keep.of (x : Same H H1) : Keep ms H H1 := fun b o h _ => x b o h
theorem Keep.same (x : Keep [] H H1) : Same H H1 := fun b o h => x b o h (nomatch ·)
theorem Keep.mono {ns : List Addr} (x : Keep ms H H1) (h : ∀ b ∈ ms, b ∈ ns) : Keep ns H H1 := fun b o e n => x b o e fun z => n (h b z)
theorem Same.new (hp : H p = none) : Same H (upd H p o) := fun b u h => keep_new h hp
theorem Keep.new (hp : H p = none) : Keep ms H (upd H p o) := .of (Same.new hp)
theorem Keep.set (h : a ∈ ms) : Keep ms H (upd H a o) := fun b u e n => by
  rw [upd_ne fun z => n (by rw [z]; exact h)]
  exact e
/-- an object that H does not know is changed -/
theorem Keep.mut (x : Keep ms H H1) (h : H a = none) : Keep ms H (upd H1 a o) := fun b u e n => by
  rw [upd_ne (ne_of_none e h)]
  exact x b u e n
theorem Has.call1 (M : Has H L) (k : Keep [a] H H1) (i : Nat) (h : L[i]? = some (a, o)) (e : H1 a = some o') : Has H1 (L.set i (a, o')) :=
  M.put i h (fun b u q n => k b u q (by simpa using n)) e
theorem Same.back (k : Same H H1) (h : H1 p = none) : H p = none := k.free h
theorem Keep.back (k : Keep ms H H1) (h : H1 p = none) (hm : p ∉ ms) : H p = none := by
  cases e : H p with
  | none => rfl
  | some o =>
    rw [k p o e hm] at h
    cases h
end

/-! ### joins, whiles -/
section
variable {X : Cx} {st : Stmt} {sts : List Stmt} {t : TS}
/-- behind a statement N holds, from which one goes on -/
def tJoin (t : TS) : TS := fun D σ H => ∃ N : L2.St → Hp → Prop, t { D with nx := N } σ H ∧ ∀ σ' H', N σ' H' → D.nx σ' H'
theorem SP.nx {pins : List (Addr × Obj)} {D : Ends} {N : L2.St → Hp → Prop} (h : ∀ σ' H', N σ' H' → D.nx σ' H') {f : PySem.Flow} {s' : Shared} (z : SP X pins { D with nx := N } f s') : SP X pins D f s' := by
  cases f with
  | next =>
    obtain ⟨σ', H', I, q⟩ := z
    exact ⟨σ', H', I, h _ _ q⟩
  | brk => exact z
  | cont => exact z
  | ret u => exact z
theorem ps_join (h : PS X st t) : PS X st (tJoin t) := ⟨fun pins s σ H D I ⟨N, h1, h2⟩ => thn (h.run pins s σ H _ I h1) fun _ _ z => SP.nx h2 z⟩
theorem pss_join (h : PSs X sts t) : PSs X sts (tJoin t) := ⟨fun pins s σ H D I ⟨N, h1, h2⟩ => thn (h.run pins s σ H _ I h1) fun _ _ z => SP.nx h2 z⟩
end

/-! ### the text's facts, defs by name -/
structure Txt (fa : List He.Fa) (fn : List He.DefD) (K : PySem.W.Frag) (mg : Str → Option Value) (ex : Prop := True) : Prop where
  c : He.SaysD fa fn K
  h : ∃ h : Heap, K.In h ∧ h.Ns mainGlobals mg
  m : ex
/-- a def that calls may name -/
structure Dn (P : Program) (w : World) (K : PySem.W.Frag) (mg : Str → Option Value) (base : Heap) (CX : CXT) (k : Nat) (x : Str) (ps : List Str) (sp : Sp) : Prop where
  ex : ∃ (f : Addr) (fd : FuncData), FnOk P w K mg base CX k f fd ps sp ∧ mg x = some (.ref f) ∧ PySem.W.keepIn K (.ref f) = true ∧ Binds K fd ps [] ∧ ∃ oc od osl, K.lookup f = some ⟨oc, od, .func fd, osl⟩
section
variable {fa : List He.Fa} {fn : List He.DefD} {P : Program} {w : World} {K : PySem.W.Frag} {mg : Str → Option Value} {base : Heap} {ex : Prop}
theorem Txt.glo (T : Txt fa fn K mg ex) (j : Nat) {x : Str} (h : fa[j]? = some (.glo x)) : mg x = some (.ref (He.ga K x)) := by
  obtain ⟨_, X, G⟩ := T.h
  exact He.glo_ok X G (T.c.fact j h)
theorem Txt.free (T : Txt fa fn K mg ex) (j : Nat) {x : Str} (h : fa[j]? = some (.free x)) : mg x = none := by
  obtain ⟨_, X, G⟩ := T.h
  exact He.free_ok X G (T.c.fact j h)
theorem Txt.int (T : Txt fa fn K mg ex) (j : Nat) {x : Str} {i : Int} (h : fa[j]? = some (.int x i)) : ∃ t, mg x = some (.int i t) := by
  obtain ⟨_, X, G⟩ := T.h
  exact He.int_ok X G (T.c.fact j h)
theorem Txt.def_ (T : Txt fa fn K mg ex) (i j : Nat) {d : He.DefD} (hd : fn[i]? = some d) (hg : fa[j]? = some (.glo d.at_.1)) (hm : d.at_.2 = none) (h1 : d.dfl = []) (h2 : d.kwd = []) :
    (∃ fd, FunD K d.name d.qual d.params d.body d.scope [] [] (He.ga K d.at_.1) fd) ∧ mg d.at_.1 = some (.ref (He.ga K d.at_.1)) := by
  refine ⟨?_, T.glo j hg⟩
  obtain ⟨fd, F⟩ := T.c.def_ i hd
  have e : He.fAd K d.at_ = He.ga K d.at_.1 := by
    unfold He.fAd
    rw [hm]
  have e1 : d.dvs K = [] := by
    unfold He.DefD.dvs
    rw [h1]
    rfl
  have e2 : d.kws K = [] := by
    unfold He.DefD.kws
    rw [h2]
    rfl
  rw [e, e1, e2] at F
  exact ⟨fd, F⟩
theorem Txt.str (T : Txt fa fn K mg ex) (j : Nat) {x z : Str} (h : fa[j]? = some (.str x z)) : ∃ t, mg x = some (.str z t) := by
  obtain ⟨_, X, G⟩ := T.h
  exact He.str_ok X G (T.c.fact j h)
/-- a global number, a global text -/
theorem pe_gint {X : Cx} (T : Txt fa fn K mg ex) (e : X.mg = mg) {x : Str} {i : Int} {pos : Pos} (j : Nat) (h : fa[j]? = some (.int x i)) (hg : Gl X x) (hd : (x == ("__debug__" : Str)) = false := by decide) : PE X (.Name x pos) (tC (.int i)) := by
  obtain ⟨t, ht⟩ := T.int j h
  exact pe_glob hg (by rw [e]; exact ht) ⟨t, rfl⟩ hd
theorem pe_gstr {X : Cx} (T : Txt fa fn K mg ex) (e : X.mg = mg) {x z : Str} {pos : Pos} (j : Nat) (h : fa[j]? = some (.str x z)) (hg : Gl X x) (hd : (x == ("__debug__" : Str)) = false := by decide) : PE X (.Name x pos) (tC (.str z)) := by
  obtain ⟨t, ht⟩ := T.str j h
  exact pe_glob hg (by rw [e]; exact ht) ⟨t, rfl⟩ hd
/-- a def without defaults that lets nothing out -/
theorem mk_dn (T : Txt fa fn K mg ex) (i j : Nat) {d : He.DefD} {N ps : List Str} {k : Nat} {sp : Sp} (hd : fn[i]? = some d) (hg : fa[j]? = some (.glo d.at_.1)) (hm : d.at_.2 = none) (h1 : d.dfl = []) (h2 : d.kwd = [])
    (S : FnScope N ps d.scope) (len : ∀ vs H Q E, sp vs H Q E → vs.length = ps.length)
    (hb : ∀ (kV doc pm : Value) (an : Option Addr) (cdv ct : Value) (us : List Value), us.length = ps.length → bindArgs (PySem.W.fnOf d.name d.qual d.params d.body d.scope .none kV doc pm an cdv ct) ⟨us, []⟩ = pure (ps.zip us))
    (hbody : ∀ (cdv : Value) (A : Around) (outer : List Env) (s : Shared) (H : Hp) (vs : List V) (Q : VK) (E : XK), Room k (A.deeper (envOfC d.qual d.scope s.heap.objs.size (He.ga K d.at_.1) cdv)) → sp vs H Q E →
      ∃ t, PSs (cxOf CX0 P w K mg base N d.qual d.scope (He.ga K d.at_.1) cdv A outer s H E).nox d.body t ∧ t { nx := fun _ H' => Q .non H', rt := Q } (start N vs) H) : Dn P w K mg base CX0 (k + 1) d.at_.1 ps sp := by
  obtain ⟨⟨fd, F⟩, g⟩ := T.def_ i j hd hg hm h1 h2
  refine ⟨_, fd, F.ok S len fun cdv A outer s H vs Q E hr h => ?_, g, F.kp, F.bindsN hb, by
    obtain ⟨oc, od, dV, kV, doc, pm, an, cdv, ct, osl, e, lk, _⟩ := F.ex
    exact ⟨_, _, _, lk⟩⟩
  obtain ⟨t, p, q⟩ := hbody cdv A outer s H vs Q E hr h
  exact ⟨t, p.nox, q⟩
theorem Dn.imp {CX : CXT} {k : Nat} {x : Str} {ps : List Str} {sp sp' : Sp} (D : Dn P w K mg base CX k x ps sp) (h : ∀ vs H Q E, sp' vs H Q E → sp vs H Q E) : Dn P w K mg base CX k x ps sp' := by
  obtain ⟨f, fd, F, a, b, c⟩ := D.ex
  exact ⟨f, fd, F.imp h, a, b, c⟩
theorem Dn.mono {CX : CXT} {j k : Nat} {x : Str} {ps : List Str} {sp : Sp} (D : Dn P w K mg base CX j x ps sp) (h : j ≤ k) : Dn P w K mg base CX k x ps sp := by
  obtain ⟨f, fd, F, a, b, c⟩ := D.ex
  exact ⟨f, fd, F.mono h, a, b, c⟩
end
section
variable {X : Cx} {CX : CXT} {k : Nat} {ps : List Str} {sp : Sp} {E : XK} {x : Str} {p pos : Pos} {e : Expr} {es : List Expr} {t : TA}
theorem pe_callD {K : PySem.W.Frag} (hK : X.K = K) (D : Dn X.prog X.w K X.mg X.base CX k x ps sp) (hr : Room k X.A) (hg : Gl X x) (hx : Passes CX X E)
    (ha : PA X (e :: es) t) (hdb : (x == ("__debug__" : Str)) = false := by decide) (he : starEach (e :: es) X.env = (false, eval e X.env) :: starEach es X.env := by rfl) (hpl : (backTo pos (starEach es X.env)).any (·.1) = false := by rfl) :
    PE X (.Call (.Name x p) (e :: es) [] pos) (tCall sp [] E t) := by
  subst hK
  obtain ⟨f, fd, F, m, kp, b, _⟩ := D.ex
  exact pe_call F hr hg m kp b .nil hx ha hdb he hpl
theorem pe_callD0 {K : PySem.W.Frag} (hK : X.K = K) (D : Dn X.prog X.w K X.mg X.base CX k x ps sp) (hr : Room k X.A) (hg : Gl X x) (hx : Passes CX X E)
    (hdb : (x == ("__debug__" : Str)) = false := by decide) :
    PE X (.Call (.Name x p) [] [] pos) (tCall sp [] E tNil) := by
  subst hK
  obtain ⟨f, fd, F, m, kp, b, _⟩ := D.ex
  exact pe_call0 F hr hg m kp b .nil hx hdb
end

/-! ### the law's own end -/
theorem law_facts {ex : Prop} {fa : List He.Fa} {fn : List He.DefD} {P : Program} {w : World} {K : PySem.W.Frag} {h : Heap} {mg : Str → Option Value} {f : Addr} {d : He.DefD} {k : Nat} {sp : Sp} (X : K.In h) (G : h.Ns mainGlobals mg)
    (hfa : mg d.at_.1 = some (.ref f)) (c : He.SaysD fa fn K) (m : ex) (i j : Nat) (hd : fn[i]? = some d) (hg : fa[j]? = some (.glo d.at_.1)) (hm : d.at_.2 = none) (h1 : d.dfl = []) (h2 : d.kwd = [])
    (hb : ∀ (kV doc pm : Value) (an : Option Addr) (cdv ct : Value) (us : List Value), us.length = 1 → bindArgs (PySem.W.fnOf d.name d.qual d.params d.body d.scope .none kV doc pm an cdv ct) ⟨us, []⟩ = pure ((["script"] : List Str).zip us))
    (ok : ∀ base, Txt fa fn K mg ex → Dn P w K mg base CX0 k d.at_.1 ["script"] sp) :
    ∃ fd : FuncData, (∀ (s : Shared) (v : Value), BindsTo s fd ⟨[v], []⟩ [("script", v)]) ∧ ∀ base : Heap, K.In base → base.Ns mainGlobals mg → FnOk P w K mg base CX0 k f fd ["script"] sp := by
  have T : Txt fa fn K mg ex := ⟨c, ⟨h, X, G⟩, m⟩
  obtain ⟨⟨fd, F⟩, g⟩ := T.def_ i j hd hg hm h1 h2
  rw [hfa] at g
  cases g
  have b := FunD.bindsA (ps := ["script"]) F hb
  refine ⟨fd, fun s v => b s [v] rfl, fun base _ _ => ?_⟩
  obtain ⟨f2, fd2, F2, m, _, _, oc, od, osl, lk⟩ := (ok base T).ex
  rw [hfa] at m
  cases m
  obtain ⟨oc', od', dV, kV, doc, pm, an, cdv, ct, osl', e, lk', _⟩ := F.ex
  rw [lk] at lk'
  cases lk'
  exact F2

/-! ### classes -/
section
variable {fa : List He.Fa} {fn : List He.DefD} {P : Program} {w : World} {K : PySem.W.Frag} {mg : Str → Option Value} {base : Heap} {ex : Prop}
theorem Txt.cls (T : Txt fa fn K mg ex) (j : Nat) {x : Str} (h : fa[j]? = some (.cls x)) : Cls K (He.ga K x) := He.cls_ok (T.c.fact j h)
theorem Txt.noat (T : Txt fa fn K mg ex) (j : Nat) {x f : Str} (h : fa[j]? = some (.noat x f)) : NoAttr K (He.ga K x) f := He.noat_ok (T.c.fact j h)
theorem Txt.meth (T : Txt fa fn K mg ex) (j : Nat) {x m : Str} (h : fa[j]? = some (.meth x m)) : Meth K (He.ga K x) m (He.ma K (He.ga K x) m) := He.meth_ok (T.c.fact j h)
theorem Txt.mkr (T : Txt fa fn K mg ex) (j : Nat) {x : Str} (h : fa[j]? = some (.mkr x)) : Mk K (He.ga K x) (He.ma K (He.ga K x) "__init__") := He.mkr_ok (T.c.fact j h)
/-- a method by its class's name -/
structure Mt (P : Program) (w : World) (K : PySem.W.Frag) (mg : Str → Option Value) (base : Heap) (CX : CXT) (k : Nat) (c m : Str) (ps : List Str) (sp : Sp) : Prop where
  ex : ∃ (f : Addr) (fd : FuncData), FnOk P w K mg base CX k f fd ps sp ∧ f = He.ma K (He.ga K c) m ∧ Binds K fd ps []
theorem Txt.defm (T : Txt fa fn K mg ex) (i : Nat) {d : He.DefD} {c m : Str} (hd : fn[i]? = some d) (hm : d.at_ = (c, some m)) (h1 : d.dfl = []) (h2 : d.kwd = []) :
    ∃ fd, FunD K d.name d.qual d.params d.body d.scope [] [] (He.ma K (He.ga K c) m) fd := by
  obtain ⟨fd, F⟩ := T.c.def_ i hd
  have e : He.fAd K d.at_ = He.ma K (He.ga K c) m := by
    unfold He.fAd
    rw [hm]
  have e1 : d.dvs K = [] := by
    unfold He.DefD.dvs
    rw [h1]
    rfl
  have e2 : d.kws K = [] := by
    unfold He.DefD.kws
    rw [h2]
    rfl
  rw [e, e1, e2] at F
  exact ⟨fd, F⟩
/-- a method without defaults that lets nothing out -/
theorem mk_mt (T : Txt fa fn K mg ex) (i : Nat) {d : He.DefD} {c m : Str} {N ps : List Str} {k : Nat} {sp : Sp} (hd : fn[i]? = some d) (hm : d.at_ = (c, some m)) (h1 : d.dfl = []) (h2 : d.kwd = [])
    (S : FnScope N ps d.scope) (len : ∀ vs H Q E, sp vs H Q E → vs.length = ps.length)
    (hb : ∀ (kV doc pm : Value) (an : Option Addr) (cdv ct : Value) (us : List Value), us.length = ps.length → bindArgs (PySem.W.fnOf d.name d.qual d.params d.body d.scope .none kV doc pm an cdv ct) ⟨us, []⟩ = pure (ps.zip us))
    (hbody : ∀ (cdv : Value) (A : Around) (outer : List Env) (s : Shared) (H : Hp) (vs : List V) (Q : VK) (E : XK), Room k (A.deeper (envOfC d.qual d.scope s.heap.objs.size (He.ma K (He.ga K c) m) cdv)) → sp vs H Q E →
      ∃ t, PSs (cxOf CX0 P w K mg base N d.qual d.scope (He.ma K (He.ga K c) m) cdv A outer s H E).nox d.body t ∧ t { nx := fun _ H' => Q .non H', rt := Q } (start N vs) H) : Mt P w K mg base CX0 (k + 1) c m ps sp := by
  obtain ⟨fd, F⟩ := T.defm i hd hm h1 h2
  refine ⟨_, fd, F.ok S len fun cdv A outer s H vs Q E hr h => ?_, rfl, F.bindsN hb⟩
  obtain ⟨t, p, q⟩ := hbody cdv A outer s H vs Q E hr h
  exact ⟨t, p.nox, q⟩
theorem Mt.mono {CX : CXT} {j k : Nat} {c m : Str} {ps : List Str} {sp : Sp} (D : Mt P w K mg base CX j c m ps sp) (h : j ≤ k) : Mt P w K mg base CX k c m ps sp := by
  obtain ⟨f, fd, F, a, b⟩ := D.ex
  exact ⟨f, fd, F.mono h, a, b⟩
end
section
variable {X : Cx} {CX : CXT} {k : Nat} {ps : List Str} {sp : Sp} {E : XK} {c m : Str} {p pos apos : Pos} {e o : Expr} {es : List Expr} {ta : TE} {t : TA}
theorem pe_methD {K : PySem.W.Frag} (hK : X.K = K) {pl : Sem Bool} (D : Mt X.prog X.w K X.mg X.base CX k c m ps sp) (cl : Cls K (He.ga K c)) (hm : Meth K (He.ga K c) m (He.ma K (He.ga K c) m)) (hr : Room k X.A) (hx : Passes CX X E) (he : PE X o ta) (ha : PA X (e :: es) t)
    (hst : starEach (e :: es) X.env = (false, eval e X.env) :: starEach es X.env := by rfl) (hpl : (backTo pos (starEach es X.env)).any (·.1) = false := by rfl)
    (ht : eval (.Call (.Attribute o m apos) (e :: es) [] pos) X.env = (do let ov ← eval o X.env; standAt apos.atName; let (f, first) ← holding [ov] (getMethod ov m pl); callWith pos f first (backTo pos (starEach (e :: es) X.env)) (backToKw pos (keywordEach [] X.env))) := by rfl) :
    PE X (.Call (.Attribute o m apos) (e :: es) [] pos) (tMeth (He.ga K c) m sp [] E ta t) := by
  subst hK
  obtain ⟨f, fd, F, rfl, b⟩ := D.ex
  exact pe_meth he cl hm F hr b .nil hx ha hst hpl ht
theorem pe_methD0 {K : PySem.W.Frag} (hK : X.K = K) {pl : Sem Bool} (D : Mt X.prog X.w K X.mg X.base CX k c m ps sp) (cl : Cls K (He.ga K c)) (hm : Meth K (He.ga K c) m (He.ma K (He.ga K c) m)) (hr : Room k X.A) (hx : Passes CX X E) (he : PE X o ta)
    (ht : eval (.Call (.Attribute o m apos) [] [] pos) X.env = (do let ov ← eval o X.env; standAt apos.atName; let (f, first) ← holding [ov] (getMethod ov m pl); callWith pos f first (backTo pos (starEach [] X.env)) (backToKw pos (keywordEach [] X.env))) := by rfl) :
    PE X (.Call (.Attribute o m apos) [] [] pos) (tMeth (He.ga K c) m sp [] E ta tNil) := by
  subst hK
  obtain ⟨f, fd, F, rfl, b⟩ := D.ex
  exact pe_meth0 he cl hm F hr b .nil hx ht
theorem pe_makeD {K : PySem.W.Frag} (hK : X.K = K) (D : Mt X.prog X.w K X.mg X.base CX k c "__init__" ps sp) (M : Mk K (He.ga K c) (He.ma K (He.ga K c) "__init__")) (hr : Room (k + 1) X.A) (hg : Gl X c) (hm : X.mg c = some (.ref (He.ga K c))) (hx : Passes CX X E)
    (ha : PA X (e :: es) t) (hdb : (c == ("__debug__" : Str)) = false := by decide) (he : starEach (e :: es) X.env = (false, eval e X.env) :: starEach es X.env := by rfl) (hpl : (backTo pos (starEach es X.env)).any (·.1) = false := by rfl) :
    PE X (.Call (.Name c p) (e :: es) [] pos) (tMake (He.ga K c) sp [] E t) := by
  subst hK
  obtain ⟨f, fd, F, rfl, b⟩ := D.ex
  exact pe_make M F hr hg hm b .nil hx ha hdb he hpl
end
/-! ### fields by their places -/
section
variable {fs : List (Str × V)} {f : Str} {v y : V}
theorem lk_ix : ∀ {fs : List (Str × V)} (n : Nat), (fs.map (·.1)).Nodup → fs[n]? = some (f, v) → fs.lookup f = some v
  | [], _, _, h => by simp at h
  | p :: fs, 0, _, h => by
    simp only [List.getElem?_cons_zero, Option.some.injEq] at h
    subst h
    simp [List.lookup]
  | p :: fs, n + 1, nd, h => by
    simp only [List.getElem?_cons_succ] at h
    obtain ⟨g, x⟩ := p
    rw [List.map_cons, List.nodup_cons] at nd
    have hm : f ∈ fs.map (·.1) := List.mem_map.mpr ⟨(f, v), List.mem_of_getElem? h, rfl⟩
    have ne : (f == g) = false := beq_eq_false_iff_ne.mpr fun e => nd.1 (e ▸ hm)
    simp only [List.lookup, ne]
    exact lk_ix n nd.2 h
theorem lk_none : ∀ {fs : List (Str × V)}, f ∉ fs.map (·.1) → fs.lookup f = none
  | [], _ => rfl
  | (g, x) :: fs, h => by
    rw [List.map_cons, List.mem_cons, not_or] at h
    have ne : (f == g) = false := beq_eq_false_iff_ne.mpr h.1
    simp only [List.lookup, ne]
    exact lk_none h.2
theorem pt_ix : ∀ {fs : List (Str × V)} (n : Nat), (fs.map (·.1)).Nodup → fs[n]? = some (f, v) → putF f y fs = fs.set n (f, y)
  | [], _, _, h => by simp at h
  | p :: fs, 0, _, h => by
    simp only [List.getElem?_cons_zero, Option.some.injEq] at h
    subst h
    simp [putF]
  | p :: fs, n + 1, nd, h => by
    simp only [List.getElem?_cons_succ] at h
    obtain ⟨g, x⟩ := p
    rw [List.map_cons, List.nodup_cons] at nd
    have hm : f ∈ fs.map (·.1) := List.mem_map.mpr ⟨(f, v), List.mem_of_getElem? h, rfl⟩
    have ne : ¬ g = f := fun e => nd.1 (e ▸ hm)
    simp only [putF, if_neg ne, List.set_cons_succ]
    rw [pt_ix n nd.2 h]
theorem pt_new : ∀ {fs : List (Str × V)}, f ∉ fs.map (·.1) → putF f y fs = fs ++ [(f, y)]
  | [], _ => rfl
  | (g, x) :: fs, h => by
    rw [List.map_cons, List.mem_cons, not_or] at h
    have ne : ¬ g = f := fun e => h.1 e.symm
    simp only [putF, if_neg ne, List.cons_append]
    rw [pt_new h.2]
end

section
variable {H H' : Hp} {L : List (Addr × HO)} {a : Addr} {o : HO}
theorem Has.add (M : Has H L) (h : H a = some o) (n : a ∉ L.map (·.1)) : Has H (L ++ [(a, o)]) where
  nd := by
    rw [List.map_append, List.nodup_append]
    refine ⟨M.nd, by simp, fun x hx y hy e => ?_⟩
    rw [List.map_singleton, List.mem_singleton] at hy
    have e2 : x = a := e.trans hy
    exact n (e2 ▸ hx)
  is_ := fun q hq => by
    rcases List.mem_append.mp hq with z | z
    · exact M.is_ q z
    · rw [List.mem_singleton.mp z]
      exact h
end

theorem Keep.tup {ms : List Addr} {H H' : Hp} {t : Addr} {xs : List V} (k : Keep ms H H') (hm : ∀ m ∈ ms, ∃ o, H m = some o ∧ ∀ xs, o ≠ .tup xs) (h : H t = some (.tup xs)) : H' t = some (.tup xs) :=
  k t _ h fun z => by
    obtain ⟨o, e, n⟩ := hm t z
    rw [h] at e
    exact n xs (Option.some.inj e).symm

/-! ### parts of the heap's list, tables of lists -/
section
variable {H H' : Hp} {X Y L L' : List (Addr × HO)} {a : Addr} {o o' : HO}
theorem Has.mid (M : Has H (X ++ (L ++ Y))) : Has H L := M.sub ((List.sublist_append_left L Y).trans (List.sublist_append_right X _))
/-- a part has changed, the rest stands -/
theorem Has.frame (M : Has H (X ++ (L ++ Y))) (k : Keep (L.map (·.1)) H H') (M' : Has H' L') (e : L'.map (·.1) = L.map (·.1)) : Has H' (X ++ (L' ++ Y)) where
  nd := by
    have z := M.nd
    rw [List.map_append, List.map_append] at z ⊢
    rw [e]
    exact z
  is_ := fun q hq => by
    have z := M.nd
    rw [List.map_append, List.map_append, List.nodup_append] at z
    obtain ⟨_, z2, z3⟩ := z
    rw [List.nodup_append] at z2
    obtain ⟨_, _, z4⟩ := z2
    rcases List.mem_append.mp hq with h | h
    · refine k _ _ (M.is_ q (List.mem_append_left _ h)) fun hm => ?_
      exact z3 q.1 (List.mem_map_of_mem h) q.1 (List.mem_append_left _ hm) rfl
    · rcases List.mem_append.mp h with h | h
      · exact M'.is_ q h
      · refine k _ _ (M.is_ q (List.mem_append_right _ (List.mem_append_right _ h))) fun hm => ?_
        exact z4 q.1 hm q.1 (List.mem_map_of_mem h) rfl
/-- the lists at these addresses -/
def tab : List Addr → List (List V) → List (Addr × HO)
  | a :: as, r :: rs => (a, .lst r) :: tab as rs
  | _, _ => []
theorem tab_get : ∀ {as : List Addr} {rs : List (List V)} {i : Nat} {a : Addr} {r : List V}, as[i]? = some a → rs[i]? = some r → (tab as rs)[i]? = some (a, .lst r)
  | [], _, _, _, _, h, _ => by simp at h
  | _ :: _, [], _, _, _, _, h => by simp at h
  | a :: as, r :: rs, 0, _, _, h, h2 => by
    simp only [List.getElem?_cons_zero, Option.some.injEq] at h h2
    subst h
    subst h2
    rfl
  | a :: as, r :: rs, i + 1, _, _, h, h2 => by
    simp only [List.getElem?_cons_succ] at h h2
    exact tab_get (as := as) h h2
theorem tab_set : ∀ {as : List Addr} {rs : List (List V)} {i : Nat} {a : Addr} {r : List V}, as[i]? = some a → (tab as rs).set i (a, .lst r) = tab as (rs.set i r)
  | [], _, _, _, _, h => by simp at h
  | _ :: _, [], _, _, _, _ => rfl
  | a :: as, r :: rs, 0, _, _, h => by
    simp only [List.getElem?_cons_zero, Option.some.injEq] at h
    subst h
    rfl
  | a :: as, r :: rs, i + 1, _, _, h => by
    simp only [List.getElem?_cons_succ] at h
    show (a, HO.lst r) :: (tab as rs).set i _ = _
    rw [tab_set h]
    rfl
theorem tab_fst : ∀ {as : List Addr} {rs : List (List V)}, as.length = rs.length → (tab as rs).map (·.1) = as
  | [], [], _ => rfl
  | [], _ :: _, h => by simp at h
  | _ :: _, [], h => by simp at h
  | a :: as, r :: rs, h => by
    simp only [List.length_cons, Nat.add_right_cancel_iff] at h
    show a :: (tab as rs).map (·.1) = _
    rw [tab_fst h]
variable {as : List Addr} {rs : List (List V)} {i : Nat} {r r' : List V}
theorem Has.tabGet (M : Has H (X ++ (tab as rs ++ Y))) (ha : as[i]? = some a) (hr : rs[i]? = some r) : H a = some (.lst r) := M.mid.get i (tab_get ha hr)
theorem Has.tabSet (M : Has H (X ++ (tab as rs ++ Y))) (ha : as[i]? = some a) (hr : rs[i]? = some r) : Has (upd H a (.lst r')) (X ++ (tab as (rs.set i r') ++ Y)) := by
  have h := tab_get ha hr
  have hi := (List.getElem?_eq_some_iff.mp h).1
  have h2 : (X ++ (tab as rs ++ Y))[X.length + i]? = some (a, .lst r) := by
    rw [List.getElem?_append_right (Nat.le_add_right _ _), Nat.add_sub_cancel_left, List.getElem?_append_left hi]
    exact h
  have M2 := M.set (o' := .lst r') _ h2
  have e : (X ++ (tab as rs ++ Y)).set (X.length + i) (a, .lst r') = X ++ (tab as (rs.set i r') ++ Y) := by
    rw [List.set_append_right _ _ (Nat.le_add_right _ _), Nat.add_sub_cancel_left, List.set_append_left _ _ hi, tab_set ha]
  rw [e] at M2
  exact M2
/-- one more list at the end of a table -/
theorem tab_snoc : ∀ {as : List Addr} {rs : List (List V)}, as.length = rs.length → tab (as ++ [a]) (rs ++ [r]) = tab as rs ++ [(a, .lst r)]
  | [], [], _ => rfl
  | [], _ :: _, h => by simp at h
  | _ :: _, [], h => by simp at h
  | b :: as, r' :: rs, h => by
    simp only [List.length_cons, Nat.add_right_cancel_iff] at h
    show (b, HO.lst r') :: tab (as ++ [a]) (rs ++ [r]) = _
    rw [tab_snoc h]
    rfl
end
/-! ### constants of the module: tuples, dicts with text keys -/
inductive GD
  | dat (d : PyData)
  | dic (kvs : List (Str × PyData))
mutual
def gisB (K : PySem.W.Frag) : PyData → Value → Bool
  | .none, .none => true
  | .bool a, .bool b => a == b
  | .int i, .int j _ => decide (i = j)
  | .str x, .str y _ => decide (x = y)
  | .tuple ds, .ref a => (match K.lookup a with
    | some ⟨.type c, _, .seq its _, _⟩ => decide (c = "tuple") && (decide (its.size ≤ 1000) && gisAllB K ds its.toList)
    | _ => false)
  | _, _ => false
def gisAllB (K : PySem.W.Frag) : List PyData → List Value → Bool
  | [], [] => true
  | d :: ds, u :: us => gisB K d u && gisAllB K ds us
  | _, _ => false
end
section
variable {K : PySem.W.Frag}
theorem gis_tup {ds : List PyData} {u : Value} (h : gisB K (.tuple ds) u = true) : ∃ (a : Addr) (o : Obj) (its : Array Value) (n : Nat), u = .ref a ∧ K.lookup a = some o ∧ o.cls = .type "tuple" ∧ o.data = .seq its n ∧ its.size ≤ 1000 ∧ gisAllB K ds its.toList = true := by
  cases u <;> first | (unfold gisB at h; cases h; done) | skip
  rename_i a
  unfold gisB at h
  cases q : K.lookup a with
  | none =>
    rw [q] at h
    cases h
  | some o =>
    obtain ⟨oc, od, dt, osl⟩ := o
    rw [q] at h
    cases oc <;> cases dt <;> first | (cases h; done) | skip
    rename_i c its n
    replace h : (decide (c = "tuple") && (decide (its.size ≤ 1000) && gisAllB K ds its.toList)) = true := h
    obtain ⟨h1, h2⟩ := Bool.and_eq_true_iff.mp h
    obtain ⟨h3, h4⟩ := Bool.and_eq_true_iff.mp h2
    have e : c = "tuple" := of_decide_eq_true h1
    exact ⟨a, _, its, n, rfl, q, by rw [e], rfl, of_decide_eq_true h3, h4⟩
mutual
theorem gis_ok : ∀ (d : PyData) (u : Value), gisB K d u = true → ∃ v, RelV v u ∧ ∀ H, Dp K H v d
  | .none, u, h => by
    cases u <;> first | (unfold gisB at h; cases h; done) | skip
    exact ⟨.non, rfl, fun _ => .non⟩
  | .bool a, u, h => by
    cases u <;> first | (unfold gisB at h; cases h; done) | skip
    rename_i b
    unfold gisB at h
    obtain rfl := beq_iff_eq.mp h
    exact ⟨.bl a, rfl, fun _ => .bl a⟩
  | .int i, u, h => by
    cases u <;> first | (unfold gisB at h; cases h; done) | skip
    rename_i j t
    unfold gisB at h
    obtain rfl := of_decide_eq_true h
    exact ⟨.int i, ⟨t, rfl⟩, fun _ => .int i⟩
  | .str x, u, h => by
    cases u <;> first | (unfold gisB at h; cases h; done) | skip
    rename_i y t
    unfold gisB at h
    obtain rfl := of_decide_eq_true h
    exact ⟨.str x, ⟨t, rfl⟩, fun _ => .str x⟩
  | .tuple ds, u, h => by
    obtain ⟨a, o, its, n, rfl, h1, h2, h3, h4, h5⟩ := gis_tup h
    obtain ⟨vs, r, hd⟩ := gisAll_ok ds its.toList h5
    exact ⟨.ref a, rfl, fun H => .tup (.inr ⟨o, its, n, h1, h2, h3, Nat.le_trans h4 (by decide), r⟩) (hd H)⟩
  | .list _, u, h => by unfold gisB at h; cases h
  | .dict _, u, h => by unfold gisB at h; cases h
theorem gisAll_ok : ∀ (ds : List PyData) (us : List Value), gisAllB K ds us = true → ∃ vs, Vals vs us ∧ ∀ H, DpAll K H vs ds
  | [], us, h => by
    cases us with
    | nil => exact ⟨[], .nil, fun _ => .nil⟩
    | cons => unfold gisAllB at h; cases h
  | d :: ds, us, h => by
    cases us with
    | nil => unfold gisAllB at h; cases h
    | cons u us =>
      unfold gisAllB at h
      obtain ⟨h1, h2⟩ := Bool.and_eq_true_iff.mp h
      obtain ⟨v, r, hv⟩ := gis_ok d u h1
      obtain ⟨vs, rs, hvs⟩ := gisAll_ok ds us h2
      exact ⟨v :: vs, .cons r rs, fun H => .cons (hv H) (hvs H)⟩
end
end
def gokB (K : PySem.W.Frag) (x : Str) : GD → Bool
  | .dat d => (match PySem.W.nsIn K mainGlobals x with
    | some (some u) => gisB K d u
    | _ => false)
  | .dic kvs => kvs.all fun q => match PySem.W.nsIn K (He.ga K x) q.1 with
    | some (some u) => gisB K q.2 u
    | _ => false
def exB (cs : List (Str × GD)) (K : PySem.W.Frag) : Bool := cs.all fun q => gokB K q.1 q.2
def tabs : List (Str × GD) → List He.Tab
  | [] => []
  | (x, .dic kvs) :: cs => (fun K => He.ga K x, kvs.map (·.1)) :: tabs cs
  | (_, .dat _) :: cs => tabs cs
/-- the constants stand -/
structure CsOk (cs : List (Str × GD)) (K : PySem.W.Frag) (w : World) : Prop where
  e : exB cs K = true
  t : (tabs cs).map (fun t => He.dicW K (t.1 K)) = (tabs cs).map fun t => some (He.keysIn w.params t.2)
section
variable {fa : List He.Fa} {fn : List He.DefD} {cs : List (Str × GD)} {K : PySem.W.Frag} {w : World} {x k : Str} {d : PyData} {ds : List PyData} {kvs : List (Str × PyData)} {h : Heap}
theorem CsOk.of (c : He.SaysX fa fn (tabs cs) [] (exB cs) w h K) : CsOk cs K w := ⟨c.more, congrArg (fun z : He.AlT => z.2) c.t⟩
theorem tab_eq : ∀ {cs : List (Str × GD)}, (tabs cs).map (fun t => He.dicW K (t.1 K)) = (tabs cs).map (fun t => some (He.keysIn w.params t.2)) → (x, GD.dic kvs) ∈ cs → He.dicW K (He.ga K x) = some (He.keysIn w.params (kvs.map (·.1)))
  | [], _, h => by cases h
  | (y, .dic ks) :: cs, e, h => by
    have e1 : He.dicW K (He.ga K y) :: (tabs cs).map (fun t => He.dicW K (t.1 K)) = some (He.keysIn w.params (ks.map (·.1))) :: (tabs cs).map fun t => some (He.keysIn w.params t.2) := e
    injection e1 with e2 e3
    rcases List.mem_cons.mp h with z | z
    · injection z with z1 z2
      injection z2 with z2
      subst z1
      subst z2
      exact e2
    · exact tab_eq e3 z
  | (y, .dat _) :: cs, e, h => by
    rcases List.mem_cons.mp h with z | z
    · injection z with z1 z2
      cases z2
    · exact tab_eq (cs := cs) e z
theorem CsOk.dat (c : CsOk cs K w) (h : (x, GD.dat d) ∈ cs) : ∃ u, PySem.W.nsIn K mainGlobals x = some (some u) ∧ gisB K d u = true := by
  have h1 : gokB K x (.dat d) = true := List.all_eq_true.mp c.e _ h
  unfold gokB at h1
  cases q : PySem.W.nsIn K mainGlobals x with
  | none =>
    rw [q] at h1
    cases h1
  | some r =>
    rw [q] at h1
    cases r with
    | none => cases h1
    | some u => exact ⟨u, rfl, h1⟩
theorem CsOk.tup (c : CsOk cs K w) (h : (x, GD.dat (.tuple ds)) ∈ cs) (H : Hp) : Dp K H (.ref (He.ga K x)) (.tuple ds) := by
  obtain ⟨u, h1, h2⟩ := c.dat h
  obtain ⟨v, r, hv⟩ := gis_ok _ u h2
  obtain ⟨a, _, _, _, rfl, _⟩ := gis_tup h2
  have e : He.ga K x = a := by
    unfold He.ga
    rw [h1]
  obtain rfl : v = .ref a := RelV.inj r rfl
  rw [e]
  exact hv H
theorem CsOk.kd (c : CsOk cs K w) (h : (x, GD.dic kvs) ∈ cs) : ∃ es n, KDict K w (He.ga K x) es n := He.dicW_ok (tab_eq c.t h)
theorem CsOk.key (c : CsOk cs K w) (h : (x, GD.dic kvs) ∈ cs) (hk : (k, d) ∈ kvs) : ∃ u v, PySem.W.nsIn K (He.ga K x) k = some (some u) ∧ RelV v u ∧ ∀ H, Dp K H v d := by
  have h1 : gokB K x (.dic kvs) = true := List.all_eq_true.mp c.e _ h
  unfold gokB at h1
  have h2 := List.all_eq_true.mp h1 _ hk
  cases q : PySem.W.nsIn K (He.ga K x) k with
  | none =>
    rw [q] at h2
    cases h2
  | some r =>
    rw [q] at h2
    cases r with
    | none => cases h2
    | some u =>
      obtain ⟨v, hv⟩ := gis_ok d u h2
      exact ⟨u, v, rfl, hv⟩
theorem keyOf_of {e : DictEntry} {y : Str} {i : Int} (h : He.keyOf e = some (y, i)) : ∃ t, e.key = .str y t := by
  unfold He.keyOf at h
  split at h
  · rename_i z t q
    injection h with h
    injection h with h1 h2
    subst h1
    exact ⟨t, q⟩
  · cases h
theorem keys_no {P : Params} : ∀ {l : List DictEntry} {ks : List Str}, l.map He.keyOf = He.keysIn P ks → k ∉ ks → (l.find? (·.key.isStr k)) = none ∧ (l.any (·.refKey)) = false
  | [], _, _, _ => ⟨rfl, rfl⟩
  | e :: l, [], h, _ => by cases h
  | e :: l, y :: ks, h, hk => by
    have h1 : He.keyOf e :: l.map He.keyOf = some (y, PyData.keyHash P y) :: He.keysIn P ks := h
    injection h1 with h2 h3
    obtain ⟨t, q⟩ := keyOf_of h2
    obtain ⟨i1, i2⟩ := keys_no h3 (fun z => hk (List.mem_cons_of_mem _ z))
    have n : e.key.isStr k = false := by
      rw [q]
      have : (y == k) = false := beq_eq_false_iff_ne.mpr fun z => hk (by rw [z]; exact List.mem_cons_self)
      first | exact this | (unfold Value.isStr; exact this) | simp [Value.isStr, this]
    refine ⟨by rw [List.find?_cons, n]; exact i1, ?_⟩
    rw [List.any_cons, i2, Bool.or_false]
    unfold DictEntry.refKey
    rw [q]
theorem CsOk.nokey (c : CsOk cs K w) (h : (x, GD.dic kvs) ∈ cs) (hk : k ∉ kvs.map (·.1)) : PySem.W.nsIn K (He.ga K x) k = some none := by
  have e := tab_eq c.t h
  obtain ⟨es, n, D⟩ := He.dicW_ok e
  unfold He.dicW at e
  rw [D.at_] at e
  replace e : (match decide ("dict" = "dict") && ((#[] : Array (Option Value)).isEmpty && !(He.ga K x == sysModules)) with
    | true => some (es.toList.map He.keyOf)
    | false => none) = some (He.keysIn w.params (kvs.map (·.1))) := e
  rw [D.low] at e
  replace e : some (es.toList.map He.keyOf) = some (He.keysIn w.params (kvs.map (·.1))) := e
  obtain ⟨i1, i2⟩ := keys_no (Option.some.inj e) hk
  unfold PySem.W.nsIn
  rw [D.at_]
  show (match es.toList.find? (·.key.isStr k) with
      | some e => some (some e.val)
      | none => if es.toList.any (·.refKey) then none else some none) = some none
  rw [i1, i2]
  rfl
theorem dp_strs {H : Hp} {a : Addr} {ks : List Str} (h : Dp K H (.ref a) (.tuple (ks.map .str))) : SqT K H a (ks.map V.str) := by
  have go : ∀ {ks : List Str} {xs : List V}, DpAll K H xs (ks.map .str) → xs = ks.map V.str := by
    intro ks
    induction ks with
    | nil => intro xs h; cases h; rfl
    | cons z ks ih =>
      intro xs h
      cases h with
      | cons h t =>
        cases h
        rw [ih t]
        rfl
  cases h with
  | tup h t =>
    rw [← go t]
    exact h
theorem dp_ints {H : Hp} {a : Addr} {ks : List Int} (h : Dp K H (.ref a) (.tuple (ks.map .int))) : SqT K H a (ks.map V.int) := by
  have go : ∀ {ks : List Int} {xs : List V}, DpAll K H xs (ks.map .int) → xs = ks.map V.int := by
    intro ks
    induction ks with
    | nil => intro xs h; cases h; rfl
    | cons z ks ih =>
      intro xs h
      cases h with
      | cons h t =>
        cases h
        rw [ih t]
        rfl
  cases h with
  | tup h t =>
    rw [← go t]
    exact h
end
/-! d[key], key in d of such a dict -/
def rIxG (K : PySem.W.Frag) (d : Addr) : R2 := fun x y H Q => ∃ (z : Str) (u : Value) (v : V), x = .ref d ∧ y = .str z ∧ PySem.W.nsIn K d z = some (some u) ∧ RelV v u ∧ Q v H
def rInG (K : PySem.W.Frag) (d : Addr) (neg : Bool) : R2 := fun x y H Q => ∃ (z : Str) (r : Option Value), x = .str z ∧ y = .ref d ∧ PySem.W.nsIn K d z = some r ∧ Q (.bl (if neg then !r.isSome else r.isSome)) H
section
variable {X : Cx} {cs : List (Str × GD)} {x : Str} {kvs : List (Str × PyData)}
theorem ix_G {K : PySem.W.Frag} {w0 : World} (hK : X.K = K) (hw : X.w = w0) (c : CsOk cs K w0) (h : (x, GD.dic kvs) ∈ cs) : IxR X (rIxG K (He.ga K x)) := by
  subst hK
  subst hw
  obtain ⟨es, n, D⟩ := c.kd h
  intro value slice pins s σ H x y v u Q I rx ry h hs
  obtain ⟨z, u0, v0, rfl, rfl, e, r, q⟩ := h
  have rx' := rx
  cases rx
  exact tail_any (kd_type D I) PySem.F.slot_dict_getitem.lookup (op_item_kd D pins s σ H _ _ _ u Q I rx' ry ⟨z, u0, v0, rfl, rfl, e, r, q⟩) hs
theorem op_inG {K : PySem.W.Frag} {w0 : World} (hK : X.K = K) (hw : X.w = w0) (c : CsOk cs K w0) (h : (x, GD.dic kvs) ∈ cs) : OpR X (compareOp .In) (rInG K (He.ga K x) false) := by
  subst hK
  subst hw
  obtain ⟨es, n, D⟩ := c.kd h
  intro pins s σ H x y v u Q I rx ry h
  obtain ⟨z, r, rfl, rfl, e, q⟩ := h
  exact op_in_kd D pins s σ H _ _ v u Q I rx ry ⟨z, r, rfl, rfl, e, q⟩
theorem op_niG {K : PySem.W.Frag} {w0 : World} (hK : X.K = K) (hw : X.w = w0) (c : CsOk cs K w0) (h : (x, GD.dic kvs) ∈ cs) : OpR X (compareOp .NotIn) (rInG K (He.ga K x) true) := by
  subst hK
  subst hw
  obtain ⟨es, n, D⟩ := c.kd h
  intro pins s σ H x y v u Q I rx ry h
  obtain ⟨z, r, rfl, rfl, e, q⟩ := h
  exact op_notIn_kd D pins s σ H _ _ v u Q I rx ry ⟨z, r, rfl, rfl, e, q⟩
theorem pe_ixG {K : PySem.W.Frag} {w0 : World} (hK : X.K = K) (hw : X.w = w0) (c : CsOk cs K w0) (h : (x, GD.dic kvs) ∈ cs) {a b : Expr} {ta tb : TE} {pos : Pos} (ha : PE X a ta) (hb : PE X b tb) (hs : PlainIx b := by exact fun _ _ => rfl) :
    PE X (.Subscript a b pos) (tOp (rIxG K (He.ga K x)) ta tb) := pe_ix (ix_G hK hw c h) ha hb hs
end
end G

set_option Elab.async false
set_option linter.all false
set_option maxRecDepth 100000
set_option maxHeartbeats 4000000
/-! Rules that take any kind of value, and the walk of a reading step by step. -/
namespace G
open PySem PySem.Spec PyProof.Rows L2

/-! ### a tuple, repeated -/
theorem tuple_mul1 (l : Addr) (items : Array Value) (n : Nat) (dd : Option Addr) (sl : Array (Option Value)) (u : Tok) :
    Meets (Builtin.«tuple.__mul__» ⟨[.ref l, .int 1 u], []⟩) (fun _ R s => s.heap.get? l = some { cls := .type "tuple", dict := dd, data := .seq items n, slots := sl } ∧
      R (.ok (.ret (Value.ref l))) s) :=
  .of_wp fun prog w A R s h => by
    obtain ⟨hp, g, d, tk, os⟩ := s
    obtain ⟨hl, h⟩ := h
    have f1 := AutoSeq1.idx_int
    have c0 : (decide ((1 : Int) < -(2 ^ 63)) || decide ((1 : Int) ≥ 2 ^ 63)) = false := by decide
    have c1 : (items.isEmpty || (1 : Int) == 1) = true := by rw [Bool.or_eq_true]; exact .inr rfl
    wp_walk using wpAny_loadPart' hl
    repeat (first
      | (refine wpAny_ite_false (decide_eq_false (by rw [c0]; exact Bool.false_ne_true)) ?_; wp_walk using wpAny_loadPart' hl)
      | (refine wpAny_ite_true (decide_eq_true c1) ?_; wp_walk using wpAny_loadPart' hl))
    exact ⟨_, rfl, h⟩
def rRepT1 (K : PySem.W.Frag) : R2 := fun x y H Q => ∃ l xs, x = .ref l ∧ y = .int 1 ∧ SqT K H l xs ∧ Q x H
theorem op_repT1 {X : Cx} : OpR X (binaryOp .Mult) (rRepT1 X.K) := by
  intro pins s σ H x y v u Q I rx ry h
  obtain ⟨l, xs, rfl, rfl, hT, q⟩ := h
  cases rx
  obtain ⟨t, rfl⟩ := ry
  obtain ⟨its, r, ⟨⟨cls, dd, data, sl⟩, ho, hc, n, hd⟩, hs⟩ := I.tuple hT
  simp only at hc hd
  subst hc hd
  exact wpAny_binaryOp_repeat_ref (T := "tuple") (U := "int") (by decide) ⟨_, ho, rfl⟩ (fun s' => typeIs_int s' 1 t) noFill_tuple_mul F.fills_int_mul F.slot_int_rmul repeat_tuple F.slot_int_index.lookup
    (call_meets F.slot_int_rmul (typeIs_int s 1 t) F.entry_int_rmul (F.args_int_rmul_2 _ _) (int_rmul_tuple 1 t l its.toArray n dd sl)
      ⟨ho, rfl, ⟨_, ho, rfl⟩, call_meets F.slot_tuple_mul ⟨_, ho, rfl⟩ F.entry_tuple_mul (F.args_tuple_mul_2 _ _) (tuple_mul1 l its.toArray n dd sl t) ⟨ho, ⟨.ref l, H, I, rfl, q⟩⟩⟩)
/-- t * k of a tuple, 1 to 1000 times -/
def rRepTU : R2 := fun x y H Q => ∃ l k xs, x = .ref l ∧ y = .int k ∧ H l = some (.tup xs) ∧ xs ≠ [] ∧ 1 ≤ k ∧ k ≤ 1000 ∧ xs.length ≤ 1000 ∧ ∀ p H', Same H H' → H' p = some (.tup (List.replicate k.toNat xs).flatten) → Q (.ref p) H'
theorem op_repTU {X : Cx} : OpR X (binaryOp .Mult) rRepTU := by
  intro pins s σ H x y v u Q I rx ry h
  obtain ⟨l, k, xs, rfl, rfl, hT, hne, h1, h2, hl, q⟩ := h
  by_cases hk : k = 1
  · subst hk
    refine op_repT1 pins s σ H _ _ v u Q I rx ry ⟨l, xs, rfl, rfl, SqT.of hT, q l H (Same.refl H) ?_⟩
    rw [hT]
    simp
  · exact op_repT pins s σ H _ _ v u Q I rx ry ⟨l, k, xs, rfl, rfl, SqT.of hT, hne, by omega, h2, hl, fun p hp => q p _ (Same.new hp) upd_same⟩
/-! ### rules for any kind of value -/
def rAddU (K : PySem.W.Frag) : R2 := fun x y H Q => match x, y with
  | .int i, .int j => Q (.int (i + j)) H
  | .str a, .str b => a.length + b.length ≤ sizeLine ∧ Q (.str (a ++ b)) H
  | .ref a, .ref b => rCat (.ref a) (.ref b) H Q ∨ rCatA K (.ref a) (.ref b) H Q
  | _, _ => False
def rMulU : R2 := fun x y H Q => match x, y with
  | .int i, .int j => (CMul i j ∨ CMulW i j) ∧ Q (.int (i * j)) H
  | .ref a, .int j => rRep (.ref a) (.int j) H Q ∨ rRepTU (.ref a) (.int j) H Q
  | _, _ => False
def rEqU (K : PySem.W.Frag) (neg : Bool) : R2 := fun x y H Q => (scal x y = true ∧ Q (.bl (if neg then !decide (x = y) else decide (x = y))) H) ∨ (if neg then rNeD K x y H Q else rEqD K x y H Q)
/-- the heap's dict at a holds o at y -/
def rInDT (K : PySem.W.Frag) (neg : Bool) : R2 := fun x y H Q => ∃ d ds, Dp K H x d ∧ (Dp K H y (.tuple ds) ∨ Dp K H y (.list ds)) ∧ SeqAt.shaped d = true ∧ PyData.canLayAll0 ds = true ∧ Q (.bl (if neg then !(ds.any fun z => PyData.eqv z d) else ds.any fun z => PyData.eqv z d)) H
theorem hu65 {A : Around} {k : Nat} (hr : Room k A) : A.units + 65 < cLine := by have := hr.un; omega
theorem op_inDT {X : Cx} (hu : X.A.units + 65 < cLine) : OpR X (compareOp .In) (rInDT X.K false) := by
  intro pins s σ H x y v u Q I rx ry h
  obtain ⟨d, ds, hd, he, sd, se, q⟩ := h
  obtain ⟨as, r1⟩ := Dp.reads I d x v hd rx
  rcases he with he | he
  · obtain ⟨bs, r2⟩ := Dp.reads I (.tuple ds) y u he ry
    exact SeqAt.in_tuple_reads r2 r1 se (SeqAt.canLay_of_shaped sd) (room_in_shaped sd hu) ⟨.bl _, H, I, rfl, q⟩
  · obtain ⟨bs, r2⟩ := Dp.reads I (.list ds) y u he ry
    exact SeqAt.in_list_reads r2 r1 se (SeqAt.canLay_of_shaped sd) (room_in_shaped sd hu) ⟨.bl _, H, I, rfl, q⟩
theorem op_niDT {X : Cx} (hu : X.A.units + 65 < cLine) : OpR X (compareOp .NotIn) (rInDT X.K true) := by
  intro pins s σ H x y v u Q I rx ry h
  obtain ⟨d, ds, hd, he, sd, se, q⟩ := h
  obtain ⟨as, r1⟩ := Dp.reads I d x v hd rx
  rcases he with he | he
  · obtain ⟨bs, r2⟩ := Dp.reads I (.tuple ds) y u he ry
    exact SeqAt.notIn_tuple_reads r2 r1 se (SeqAt.canLay_of_shaped sd) (room_in_shaped sd hu) ⟨.bl _, H, I, rfl, q⟩
  · obtain ⟨bs, r2⟩ := Dp.reads I (.list ds) y u he ry
    exact SeqAt.notIn_list_reads r2 r1 se (SeqAt.canLay_of_shaped sd) (room_in_shaped sd hu) ⟨.bl _, H, I, rfl, q⟩
def rInU (K : PySem.W.Frag) (neg : Bool) : R2 := fun x y H Q => rIn K neg x y H Q ∨ (∃ a o, y = .ref a ∧ DGet H a x o ∧ Q (.bl (if neg then !o.isSome else o.isSome)) H) ∨
  (∃ c z, x = .str ⟨#[c]⟩ ∧ y = .str z ∧ Q (.bl (if neg then !decide (c ∈ z.cps.toList) else decide (c ∈ z.cps.toList))) H) ∨ rInDT K neg x y H Q
def rIxU (K : PySem.W.Frag) : R2 := fun x y H Q => rIxL K x y H Q ∨ rIxT K x y H Q ∨ rIxS x y H Q ∨ ∃ a v, x = .ref a ∧ DGet H a y (some v) ∧ Q v H
def rLenU (K : PySem.W.Frag) : List V → Hp → VK → Prop := fun xs H Q => (∃ x n, xs = [x] ∧ LenV K x H n ∧ Q (.int n) H) ∨ ∃ a kvs, xs = [.ref a] ∧ H a = some (.dK kvs) ∧ Q (.int (kvs.length : Nat)) H
def rAbs : List V → Hp → VK → Prop := fun xs H Q => ∃ i, xs = [.int i] ∧ Q (.int (if i < 0 then -i else i)) H
def rMax2 : List V → Hp → VK → Prop := fun xs H Q => ∃ i j, xs = [.int i, .int j] ∧ Q (.int (if j > i then j else i)) H
def rMin2 : List V → Hp → VK → Prop := fun xs H Q => ∃ i j, xs = [.int i, .int j] ∧ Q (.int (if j < i then j else i)) H
def rInt1 : List V → Hp → VK → Prop := fun xs H Q => (∃ i, xs = [.int i] ∧ Q (.int i) H) ∨ ∃ k, xs = [.bl k] ∧ Q (.int (if k then 1 else 0)) H
def rStrI : List V → Hp → VK → Prop := fun xs H Q => ∃ i, xs = [.int i] ∧ i.natAbs.log2 < 1920 ∧ Q (.str (toString i)) H
def rCmpI (p : Int → Int → Bool) : R2 := rI0 fun i j => .bl (p i j)

section
variable {X : Cx} {a b c : Expr} {ta tb tc : TE} {pos : Pos}
theorem op_addU {K : PySem.W.Frag} (hK : X.K = K) : OpR X (binaryOp .Add) (rAddU K) := by
  subst hK
  intro pins s σ H x y v u Q I rx ry h
  cases x <;> cases y <;> first | exact h.elim | skip
  · exact op_add pins s σ H _ _ v u Q I rx ry ⟨_, _, rfl, rfl, h⟩
  · exact op_add_str pins s σ H _ _ v u Q I rx ry ⟨_, _, rfl, rfl, h.1, h.2⟩
  · rcases h with h | h
    · exact op_cat pins s σ H _ _ v u Q I rx ry h
    · exact op_catA pins s σ H _ _ v u Q I rx ry h
theorem op_mulU : OpR X (binaryOp .Mult) rMulU := by
  intro pins s σ H x y v u Q I rx ry h
  cases x <;> cases y <;> first | exact h.elim | skip
  · rcases h with ⟨h | h, q⟩
    · exact op_mul pins s σ H _ _ v u Q I rx ry ⟨_, _, rfl, rfl, h, q⟩
    · exact op_mulW pins s σ H _ _ v u Q I rx ry ⟨_, _, rfl, rfl, h, q⟩
  · rcases h with h | h
    · exact op_rep pins s σ H _ _ v u Q I rx ry h
    · exact op_repTU pins s σ H _ _ v u Q I rx ry h
theorem op_eqU {K : PySem.W.Frag} (hK : X.K = K) (hu : X.A.units + 64 < cLine) : OpR X (compareOp .Eq) (rEqU K false) := by
  subst hK
  intro pins s σ H x y v u Q I rx ry h
  rcases h with ⟨hs, q⟩ | h
  · exact op_eq pins s σ H x y v u Q I rx ry ⟨hs, q⟩
  · exact op_eqD hu pins s σ H x y v u Q I rx ry h
theorem op_neU {K : PySem.W.Frag} (hK : X.K = K) (hu : X.A.units + 64 < cLine) : OpR X (compareOp .NotEq) (rEqU K true) := by
  subst hK
  intro pins s σ H x y v u Q I rx ry h
  rcases h with ⟨hs, q⟩ | h
  · exact op_ne pins s σ H x y v u Q I rx ry ⟨hs, q⟩
  · exact op_neD hu pins s σ H x y v u Q I rx ry h
theorem op_inU {K : PySem.W.Frag} (hK : X.K = K) (hu : X.A.units + 65 < cLine) : OpR X (compareOp .In) (rInU K false) := by
  subst hK
  intro pins s σ H x y v u Q I rx ry h
  rcases h with h | ⟨a, o, rfl, g, q⟩ | ⟨c, z, rfl, rfl, q⟩ | h
  · exact op_in_seq pins s σ H x y v u Q I rx ry h
  · obtain rfl : u = Value.ref a := ry
    exact d_in (by omega) I g rx fun s1 I1 => ⟨.bl _, H, I1, rfl, q⟩
  · exact op_in_sign pins s σ H _ _ v u Q I rx ry ⟨c, z, rfl, rfl, q⟩
  · exact op_inDT hu pins s σ H x y v u Q I rx ry h
theorem op_niU {K : PySem.W.Frag} (hK : X.K = K) (hu : X.A.units + 65 < cLine) : OpR X (compareOp .NotIn) (rInU K true) := by
  subst hK
  intro pins s σ H x y v u Q I rx ry h
  rcases h with h | ⟨a, o, rfl, g, q⟩ | ⟨c, z, rfl, rfl, q⟩ | h
  · exact op_notIn_seq pins s σ H x y v u Q I rx ry h
  · obtain rfl : u = Value.ref a := ry
    exact d_notIn (by omega) I g rx fun s1 I1 => ⟨.bl _, H, I1, rfl, q⟩
  · exact op_notIn_sign pins s σ H _ _ v u Q I rx ry ⟨c, z, rfl, rfl, q⟩
  · exact op_niDT hu pins s σ H x y v u Q I rx ry h
theorem ix_dict (hu : X.A.units + 1 < cLine) : IxR X (fun x y H Q => ∃ a v, x = .ref a ∧ DGet H a y (some v) ∧ Q v H) := by
  intro value slice pins s σ H x y v u Q I rx ry h hs
  obtain ⟨a, z, rfl, g, q⟩ := h
  obtain rfl : v = Value.ref a := rx
  exact tail_any (dict_typeIs I g) PySem.F.slot_dict_getitem.lookup (d_getItem hu I g ry fun w' s' I' rw' => ⟨z, H, I', rw', q⟩) hs
theorem ix_U {K : PySem.W.Frag} (hK : X.K = K) (hu : X.A.units + 1 < cLine) : IxR X (rIxU K) := by
  subst hK
  exact ix_list.or (ix_tup.or (ix_str.or (ix_dict hu)))
theorem pe_ixU {K : PySem.W.Frag} (hK : X.K = K) {a b : Expr} {ta tb : TE} {pos : Pos} (hu : X.A.units + 1 < cLine) (ha : PE X a ta) (hb : PE X b tb) (hs : PlainIx b := by exact fun _ _ => rfl) : PE X (.Subscript a b pos) (tOp (rIxU K) ta tb) := pe_ix (ix_U hK hu) ha hb hs
theorem c_len {K : PySem.W.Frag} (hK : X.K = K) : CallR X (.builtin "len") (rLenU K) := by
  subst hK
  intro pins s σ H xs us Q I r h
  rcases h with h | ⟨a, kvs, rfl, e, q⟩
  · exact call_len pins s σ H xs us Q I r h
  · rw [Vals.ref1 r]
    exact d_len I (.inl e) fun t s1 I1 => ⟨.int _, H, I1, ⟨_, rfl⟩, q⟩
theorem c_abs : CallR X (.builtin "abs") rAbs := call_abs
theorem c_max2 (hc : X.calm = true) : CallR X (.builtin "max") rMax2 := call_max2 hc
theorem c_min2 (hc : X.calm = true) : CallR X (.builtin "min") rMin2 := call_min2 hc
theorem c_int : CallR X (.type "int") rInt1 := call_int1
theorem c_str : CallR X (.type "str") rStrI := call_str_int
theorem c_isi {K : PySem.W.Frag} (hK : X.K = K) : CallR X (.builtin "isinstance") (rIsi K) := by
  subst hK
  exact call_isi
theorem o_lt : OpR X (compareOp .Lt) (rCmpI fun i j => decide (i < j)) := op_lt
theorem o_le : OpR X (compareOp .LtE) (rCmpI fun i j => decide (i ≤ j)) := op_le
theorem o_gt : OpR X (compareOp .Gt) (rCmpI fun i j => decide (j < i)) := op_gt
theorem o_ge : OpR X (compareOp .GtE) (rCmpI fun i j => decide (j ≤ i)) := op_ge
/-- what is walked: a list or a tuple -/
def iSeq (K : PySem.W.Frag) (tl : TE) : TI := fun σ H R => tl σ H fun x H1 => (∃ a xs, x = .ref a ∧ SqL K H1 a xs ∧ R (Itl K a) H1) ∨ ∃ a xs, x = .ref a ∧ SqT K H1 a xs ∧ R (Itt K a) H1
/-- an iterator that was just laid -/
theorem pie_new {pins : List (Addr × Obj)} {σ : L2.St} {H : Hp} {s : Shared} {R : It → Hp → Prop} {tg : Expr} {o : Obj} {J : It} {tn : Nat → Heap → Prop} (I : Inv X pins σ H s)
    (tu : Turn X.prog X.w X.K tg J [s.heap.objs.size] s.heap.objs.size tn) (h0 : tn 0 (s.heap.push o)) (q : R J H) : PIE X pins σ tg R (.ref s.heap.objs.size) { s with heap := s.heap.push o } := by
  have k := I.kept (t' := s.toks) (h' := s.heap.push o) (fun b u e => Heap.get?_push_of_some _ e)
  refine ⟨_, _, tn, J, H, rfl, k, tu, h0, ?_, q⟩
  intro b hb
  rw [List.mem_singleton.mp hb]
  exact I.fpOk (Nat.le_refl _) (I.hok.fresh (Nat.le_refl _))
theorem pi_seq {K : PySem.W.Frag} (hK : X.K = K) {tg l : Expr} {tl : TE} (hl : PE X l tl) : PI X tg l (iSeq K tl) := by
  subst hK
  refine ⟨fun pins s σ H R I h => thn (hl.run pins s σ H _ I h) ?_⟩
  rintro v s1 ⟨x, H1, I1, r1, ⟨a, xs, rfl, hq, q⟩ | ⟨a, xs, rfl, hq, q⟩⟩ <;> cases r1
  · obtain ⟨its, _, p, _⟩ := I1.list hq
    exact wpAny_pyIter_list p.isList (pie_new I1 (turn_list a _) ⟨_, Heap.get?_push_size _ rfl, rfl, rfl⟩ q)
  · obtain ⟨its, _, p, _⟩ := I1.tuple hq
    exact wpAny_pyIter_tuple (show s1.heap.IsTuple a its.toArray from p) (pie_new I1 (turn_tuple a _) ⟨_, Heap.get?_push_size _ rfl, rfl, rfl⟩ q)
/-- a value's truth as a test -/
def tTru (K : PySem.W.Frag) (ta : TE) : TT := fun σ H Q => ta σ H fun x H' => ∃ k, TruV K x H' k ∧ Q k H'
theorem pt_tru {K : PySem.W.Frag} (hK : X.K = K) (ha : PE X a ta) (he : ∀ whole, isTrue a X.env whole = (do let v ← whole; standAt a.pos; holding [v] (truthy v)) := by intro _; rfl) : PT X a (tTru K ta) := by
  subst hK
  exact pt_truth ha he
end

/-! ### the steps of a reading -/
/-- a new tuple, a new list, of these -/
def rTupN (xs : List V) : Hp → VK → Prop := fun H Q => xs.length ≤ sizeLine ∧ ∀ p, H p = none → Q (.ref p) (upd H p (.tup xs))
def rLstN (xs : List V) : Hp → VK → Prop := fun H Q => xs.length ≤ sizeLine ∧ ∀ p, H p = none → Q (.ref p) (upd H p (.lst xs))
section
variable {K : PySem.W.Frag} {σ : L2.St} {H : Hp} {D : Ends} {t u : TS} {te ta tb tc : TE} {tt tt' : TT} {Q : VK} {QB : Bool → Hp → Prop} {QA : List V → Hp → Prop} {QS : L2.St → Hp → Prop} {g : TG} {r r' : R2} {v x y : V} {i j : Int} {b c : Bool} {k : Nat} {tA tA' : TA} {A B : Prop} {p q : Prop} {sp : Sp} {E : XK} {dvs vs : List V} {xs ys : List V} {a d C dx : Addr} {fs : List (Str × V)} {f : Str} {z z' : Str}
theorem g_seq (h : t { nx := u D, rt := D.rt, bk := D.bk, ct := D.ct } σ H) : tSeq t u D σ H := h
theorem g_next (h : D.nx σ H) : tNext D σ H := h
theorem g_asg (h : te σ H fun x H1 => g x σ H1 D.nx) : tAsg te g D σ H := h
theorem g_drop (h : te σ H fun _ H1 => D.nx σ H1) : tDrop te D σ H := h
theorem g_ret (h : te σ H D.rt) : tRet te D σ H := h
theorem g_retN (h : D.rt .non H) : tRetN D σ H := h
theorem g_brk (h : D.bk σ H) : tBreak D σ H := h
theorem g_ct (h : D.ct σ H) : tCont D σ H := h
theorem g_ifS (h : tt σ H fun b H1 => if b = true then t D σ H1 else u D σ H1) : tIfS tt t u D σ H := h
theorem g_name (h : QS (σ.set k (some v)) H) : gName k v σ H QS := h
theorem g_aug {ti : TIp} (e : σ[k]? = some (some x)) (h : te σ H fun y H1 => ti x y H1 fun z H2 => D.nx (σ.set k (some z)) H2) : tAug k te ti D σ H := ⟨x, e, h⟩
theorem g_ipI {f : Int → Int → Int} (h : Q (.int (f i j)) H) : ipI f (.int i) (.int j) H Q := ⟨i, j, rfl, rfl, h⟩
theorem g_var (e : σ[k]? = some (some v)) (h : Q v H) : tVar k σ H Q := ⟨v, e, h⟩
theorem g_c (h : Q v H) : tC v σ H Q := h
theorem g_op (h : ta σ H fun x H1 => tb σ H1 fun y H2 => r x y H2 Q) : tOp r ta tb σ H Q := h
theorem g_un {r : V → Hp → VK → Prop} (h : ta σ H fun x H1 => r x H1 Q) : tUn r ta σ H Q := h
theorem g_rU {g : Int → V} (h : Q (g i) H) : rU g (.int i) H Q := ⟨i, rfl, h⟩
theorem g_I0 {g : Int → Int → V} (h : Q (g i j) H) : rI0 g (.int i) (.int j) H Q := ⟨i, j, rfl, rfl, h⟩
theorem g_I {C : Int → Int → Prop} {g : Int → Int → V} (hc : C i j) (h : Q (g i j) H) : rI C g (.int i) (.int j) H Q := ⟨i, j, rfl, rfl, hc, h⟩
theorem g_cmpI {p : Int → Int → Bool} (h : Q (.bl (p i j)) H) : rCmpI p (.int i) (.int j) H Q := ⟨i, j, rfl, rfl, h⟩
theorem g_addI (h : Q (.int (i + j)) H) : rAddU K (.int i) (.int j) H Q := h
theorem g_addS (hl : z.length + z'.length ≤ sizeLine) (h : Q (.str (z ++ z')) H) : rAddU K (.str z) (.str z') H Q := ⟨hl, h⟩
theorem g_mulI (hc : CMul i j ∨ CMulW i j) (h : Q (.int (i * j)) H) : rMulU (.int i) (.int j) H Q := ⟨hc, h⟩
theorem g_eqI (h : Q (.bl (decide (i = j))) H) : rEqU K false (.int i) (.int j) H Q := .inl ⟨rfl, by
  have e : decide (V.int i = V.int j) = decide (i = j) := by simp
  show Q (.bl (decide (V.int i = V.int j))) H
  rw [e]
  exact h⟩
theorem g_neI (h : Q (.bl (!decide (i = j))) H) : rEqU K true (.int i) (.int j) H Q := .inl ⟨rfl, by
  have e : decide (V.int i = V.int j) = decide (i = j) := by simp
  show Q (.bl (!decide (V.int i = V.int j))) H
  rw [e]
  exact h⟩
theorem g_eqS (h : Q (.bl (decide (z = z'))) H) : rEqU K false (.str z) (.str z') H Q := .inl ⟨rfl, by
  have e : decide (V.str z = V.str z') = decide (z = z') := by simp
  show Q (.bl (decide (V.str z = V.str z'))) H
  rw [e]
  exact h⟩
theorem g_neS (h : Q (.bl (!decide (z = z'))) H) : rEqU K true (.str z) (.str z') H Q := .inl ⟨rfl, by
  have e : decide (V.str z = V.str z') = decide (z = z') := by simp
  show Q (.bl (!decide (V.str z = V.str z'))) H
  rw [e]
  exact h⟩
theorem g_eqB (h : Q (.bl (decide (b = c))) H) : rEqU K false (.bl b) (.bl c) H Q := .inl ⟨rfl, by
  have e : decide (V.bl b = V.bl c) = decide (b = c) := by simp
  show Q (.bl (decide (V.bl b = V.bl c))) H
  rw [e]
  exact h⟩
theorem g_neB (h : Q (.bl (!decide (b = c))) H) : rEqU K true (.bl b) (.bl c) H Q := .inl ⟨rfl, by
  have e : decide (V.bl b = V.bl c) = decide (b = c) := by simp
  show Q (.bl (!decide (V.bl b = V.bl c))) H
  rw [e]
  exact h⟩
theorem g_eqD {d e : PyData} (h1 : Dp K H x d) (h2 : Dp K H y e) (s1 : SeqAt.shaped d = true) (s2 : SeqAt.shaped e = true) (h : Q (.bl (PyData.eqv d e)) H) : rEqU K false x y H Q := .inr ⟨d, e, h1, h2, s1, s2, h⟩
theorem g_neD {d e : PyData} (h1 : Dp K H x d) (h2 : Dp K H y e) (s1 : SeqAt.shaped d = true) (s2 : SeqAt.shaped e = true) (h : Q (.bl (!PyData.eqv d e)) H) : rEqU K true x y H Q := .inr ⟨d, e, h1, h2, s1, s2, h⟩
theorem g_test (h : te σ H fun x H' => ∃ k, x = .bl k ∧ QB k H') : tTest te σ H QB := h
theorem g_B (h : te σ H fun x H' => ∃ k, x = .bl k ∧ QB k H') : tB te σ H QB := h
theorem g_exb {R : Bool → Prop} (h : R b) : ∃ k, V.bl b = V.bl k ∧ R k := ⟨b, rfl, h⟩
theorem g_tru (h : te σ H fun x H' => ∃ k, TruV K x H' k ∧ QB k H') : tTru K te σ H QB := h
theorem g_truB {R : Bool → Prop} (h : R b) : ∃ k, TruV K (.bl b) H k ∧ R k := ⟨b, rfl, h⟩
theorem g_truI {R : Bool → Prop} (h : R (i != 0)) : ∃ k, TruV K (.int i) H k ∧ R k := ⟨_, rfl, h⟩
theorem g_truN {R : Bool → Prop} (h : R false) : ∃ k, TruV K .non H k ∧ R k := ⟨_, rfl, h⟩
theorem g_not (h : tt σ H fun c H1 => QB (!c) H1) : tNot tt σ H QB := h
theorem g_and (h : tt σ H fun c H1 => if c = true then tt' σ H1 QB else QB false H1) : tAnd tt tt' σ H QB := h
theorem g_or (h : tt σ H fun c H1 => if c = true then QB true H1 else tt' σ H1 QB) : tOr tt tt' σ H QB := h
theorem g_notV (h : ta σ H fun x H1 => ∃ c, x = .bl c ∧ Q (.bl (!c)) H1) : tNotV ta σ H Q := h
theorem g_andV (h : ta σ H fun x H1 => ∃ c, x = .bl c ∧ if c = true then tb σ H1 Q else Q (.bl false) H1) : tAndV ta tb σ H Q := h
theorem g_orV (h : ta σ H fun x H1 => ∃ c, x = .bl c ∧ if c = true then Q (.bl true) H1 else tb σ H1 Q) : tOrV ta tb σ H Q := h
theorem g_ifE (h : tt σ H fun c H1 => if c = true then ta σ H1 Q else tb σ H1 Q) : tIf tt ta tb σ H Q := h
theorem g_chain (h : ta σ H fun x H1 => tb σ H1 fun y H2 => r x y H2 fun z H3 => ∃ k, z = .bl k ∧ (if k = true then tc σ H3 fun w' H4 => r' y w' H4 Q else Q (.bl false) H3)) : tChain r r' ta tb tc σ H Q := h
theorem g_nilA (h : QA [] H) : tNil σ H QA := h
theorem g_consA (h : ta σ H fun x H1 => tA σ H1 fun xs H2 => QA (x :: xs) H2) : tCons ta tA σ H QA := h
theorem g_tup (h : tA σ H fun xs H1 => rTupN xs H1 Q) : tTup tA σ H Q := h
theorem g_lst (h : tA σ H fun xs H1 => rLstN xs H1 Q) : tLst tA σ H Q := h
theorem g_cb {r : List V → Hp → VK → Prop} (h : tA σ H fun vs H1 => r vs H1 Q) : tCB r tA σ H Q := h
theorem g_call (h : tA σ H fun vs H1 => sp (vs ++ dvs) H1 Q E) : tCall sp dvs E tA σ H Q := h
theorem g_bm {T : String} {r : V → List V → Hp → VK → Prop} (h : te σ H fun x H1 => tyV K T x H1 ∧ tA σ H1 fun xs H2 => r x xs H2 Q) : tBM K T r te tA σ H Q := h
theorem g_bm0 {T : String} {r : V → List V → Hp → VK → Prop} (h : te σ H fun x H1 => tyV K T x H1 ∧ r x [] H1 Q) : tBM0 K T r te σ H Q := h
theorem g_lenL (hl : SqL K H a xs) (h : Q (.int (xs.length : Nat)) H) : rLenU K [.ref a] H Q := .inl ⟨_, _, rfl, .inl ⟨_, hl, rfl⟩, h⟩
theorem g_lenT (hl : SqT K H a xs) (h : Q (.int (xs.length : Nat)) H) : rLenU K [.ref a] H Q := .inl ⟨_, _, rfl, .inr ⟨_, hl, rfl⟩, h⟩
theorem g_lenS (hl : z.length ≤ sizeLine) (h : Q (.int (z.length : Nat)) H) : rLenU K [.str z] H Q := .inl ⟨_, _, rfl, ⟨hl, rfl⟩, h⟩
theorem g_abs (h : Q (.int (if i < 0 then -i else i)) H) : rAbs [.int i] H Q := ⟨i, rfl, h⟩
theorem g_max2 (h : Q (.int (if j > i then j else i)) H) : rMax2 [.int i, .int j] H Q := ⟨i, j, rfl, h⟩
theorem g_min2 (h : Q (.int (if j < i then j else i)) H) : rMin2 [.int i, .int j] H Q := ⟨i, j, rfl, h⟩
theorem g_intI (h : Q (.int i) H) : rInt1 [.int i] H Q := .inl ⟨i, rfl, h⟩
theorem g_intB (h : Q (.int (if b then 1 else 0)) H) : rInt1 [.bl b] H Q := .inr ⟨b, rfl, h⟩
theorem g_ixL {n : Nat} (hl : SqL K H a xs) (e : i = (n : Int)) (hv : xs[n]? = some v) (h : Q v H) : rIxU K (.ref a) (.int i) H Q := .inl ⟨_, _, _, _, rfl, rfl, hl, by rw [e]; exact atI_nat hv, h⟩
theorem g_ixL' (hl : SqL K H a xs) (hv : atI xs i = some v) (h : Q v H) : rIxU K (.ref a) (.int i) H Q := .inl ⟨_, _, _, _, rfl, rfl, hl, hv, h⟩
theorem g_ixT {n : Nat} (hl : SqT K H a xs) (e : i = (n : Int)) (hv : xs[n]? = some v) (h : Q v H) : rIxU K (.ref a) (.int i) H Q := .inr (.inl ⟨_, _, _, _, rfl, rfl, hl, by rw [e]; exact atI_nat hv, h⟩)
theorem g_ixT' (hl : SqT K H a xs) (hv : atI xs i = some v) (h : Q v H) : rIxU K (.ref a) (.int i) H Q := .inr (.inl ⟨_, _, _, _, rfl, rfl, hl, hv, h⟩)
theorem g_ixD (g : DGet H a x (some v)) (h : Q v H) : rIxU K (.ref a) x H Q := .inr (.inr (.inr ⟨_, _, rfl, g, h⟩))
theorem g_isi {t u : Value} (hc : ClsV y u) (ht : TyX K H x t) (hk : PySem.W.kitOne K t u = some b) (h : Q (.bl b) H) : rIsi K [x, y] H Q := ⟨x, y, t, u, b, rfl, hc, ht, hk, h⟩
/-- branches -/
theorem g_if [Decidable p] (h1 : p → A) (h2 : ¬ p → B) : if decide p = true then A else B := by
  by_cases h : p
  · rw [if_pos (decide_eq_true h)]
    exact h1 h
  · rw [if_neg fun z => h (of_decide_eq_true z)]
    exact h2 h
theorem g_ifN [Decidable p] (h1 : ¬ p → A) (h2 : p → B) : if (!decide p) = true then A else B := by
  by_cases h : p
  · rw [decide_eq_true h]
    exact h2 h
  · rw [decide_eq_false h]
    exact h1 h
theorem g_ifB (h1 : b = true → A) (h2 : b = false → B) : if b = true then A else B := by
  cases b with
  | true => exact h1 rfl
  | false => exact h2 rfl
theorem g_ifBn (h1 : b = false → A) (h2 : b = true → B) : if (!b) = true then A else B := by
  cases b with
  | true => exact h2 rfl
  | false => exact h1 rfl
theorem g_ifT (h : A) : if true = true then A else B := h
theorem g_ifF (h : B) : if false = true then A else B := h
theorem g_ifNT (h : B) : if (!true) = true then A else B := h
theorem g_ifNF (h : A) : if (!false) = true then A else B := h
/-- a list grown -/
theorem g_append {L : List (Addr × HO)} (M : Has H L) (n : Nat) (h : L[n]? = some (a, .lst xs)) (hl : xs.length < sizeLine) (k : Has (upd H a (.lst (xs ++ [y]))) (L.set n (a, .lst (xs ++ [y]))) → Q .non (upd H a (.lst (xs ++ [y])))) : rAppend (.ref a) [y] H Q :=
  ⟨a, xs, y, rfl, rfl, M.get n h, hl, k (M.set n h)⟩
theorem g_setL {L : List (Addr × HO)} {R : Hp → Prop} {m : Nat} (M : Has H L) (n : Nat) (h : L[n]? = some (a, .lst xs)) (hi : ixN xs.length i = some m) (k : Has (upd H a (.lst (xs.set m y))) (L.set n (a, .lst (xs.set m y))) → R (upd H a (.lst (xs.set m y)))) : rSetL (.ref a) (.int i) y H R :=
  ⟨a, xs, i, m, rfl, rfl, M.get n h, hi, k (M.set n h)⟩
/-- a new object -/
theorem g_new {L : List (Addr × HO)} {o : HO} {R : Addr → Hp → Prop} (M : Has H L) (k : ∀ p, H p = none → Has (upd H p o) (L ++ [(p, o)]) → R p (upd H p o)) : ∀ p, H p = none → R p (upd H p o) := fun p hp => k p hp (M.new hp)
end
theorem mul_ok {i j : Int} (h : -18446744073709551616 < j) (h2 : j < 18446744073709551616) : CMul i j ∨ CMulW i j := .inl (.inr ⟨h, h2⟩)
theorem mul_ok' {i j : Int} (h : -18446744073709551616 < i) (h2 : i < 18446744073709551616) : CMul i j ∨ CMulW i j := .inl (.inl ⟨h, h2⟩)
theorem cdivW_of {i j : Int} (h : 0 < j) (h2 : j < 2 ^ 64) : CDivW i j := wide_div h (b := 64) (by omega) (by decide) (by decide)
theorem cpow_of {i j : Int} (h : 0 ≤ j) (h2 : j ≤ 1000000) (h3 : i.natAbs < 2 ^ 64) : CPow i j := ⟨h, h2, h3⟩

/-! ### loops -/
/-- what a for asks once its iterator has come -/
def ForW (g : TG) (tb : TS) (D : Ends) (σ : L2.St) : It → Hp → Prop := fun J H1 => ∃ W : Nat → Nat → L2.St → Hp → Prop, (∃ m, W 0 m σ H1) ∧ ∀ i m σ H, W i m σ H →
  (J.stop i H ∧ D.nx σ H) ∨ (J.go i H ∧ ∃ N : L2.St → Hp → Prop, (∀ σ' H', N σ' H' → ∃ m', m' < m ∧ W (i + 1) m' σ' H') ∧ ∀ x H', J.yld i H x H' → g x σ H' fun σ2 H2 => tb { D with nx := N, ct := N, bk := D.nx } σ2 H2)
def rR1 : List V → Hp → (It → Hp → Prop) → Prop := fun vs H R => ∃ j : Int, vs = [.int j] ∧ -(2 ^ 62) ≤ j ∧ j < 2 ^ 62 ∧ R (Itr 0 j.toNat) H
def rR2 : List V → Hp → (It → Hp → Prop) → Prop := fun vs H R => ∃ i j : Int, vs = [.int i, .int j] ∧ (-(2 ^ 62) ≤ i ∧ i < 2 ^ 62 ∧ -(2 ^ 62) ≤ j ∧ j < 2 ^ 62) ∧ R (Itr i (j - i).toNat) H
def iR (r : List V → Hp → (It → Hp → Prop) → Prop) (ta : TA) : TI := fun σ H R => ta σ H fun vs H1 => r vs H1 R
theorem pi_r1 {X : Cx} {tg a : Expr} {ta : TA} {p pos : Pos} (hg : Gl X "range") (hm : X.mg "range" = none) (ha : PA X [a] ta) (hs : starEach [a] X.env = [(false, eval a X.env)] := by rfl) : PI X tg (.Call (.Name "range" p) [a] [] pos) (iR rR1 ta) := pi_range1 hg hm ha hs
theorem pi_r2 {X : Cx} {tg a b : Expr} {ta : TA} {p pos : Pos} (hg : Gl X "range") (hm : X.mg "range" = none) (ha : PA X [a, b] ta) (hs : starEach [a, b] X.env = [(false, eval a X.env), (false, eval b X.env)] := by rfl) (hs2 : starEach [b] X.env = [(false, eval b X.env)] := by rfl) : PI X tg (.Call (.Name "range" p) [a, b] [] pos) (iR rR2 ta) := pi_range2 hg hm ha hs hs2
section
variable {K : PySem.W.Frag} {σ : L2.St} {H : Hp} {D : Ends} {wi : TI} {g : TG} {tb : TS} {ta : TA} {te : TE} {R : It → Hp → Prop} {r : List V → Hp → (It → Hp → Prop) → Prop} {i j : Int} {a : Addr} {xs : List V} {Q : VK} {n lo : Int}
theorem g_for (h : wi σ H (ForW g tb D σ)) : tFor wi g tb D σ H := h
theorem g_iR (h : ta σ H fun vs H1 => r vs H1 R) : iR r ta σ H R := h
theorem g_rR1 (h1 : -4611686018427387904 ≤ i) (h2 : i < 4611686018427387904) (h : R (Itr 0 i.toNat) H) : rR1 [.int i] H R := ⟨i, rfl, h1, h2, h⟩
theorem g_rR2 (h1 : -4611686018427387904 ≤ i ∧ i < 4611686018427387904 ∧ -4611686018427387904 ≤ j ∧ j < 4611686018427387904) (h : R (Itr i (j - i).toNat) H) : rR2 [.int i, .int j] H R := ⟨i, j, rfl, h1, h⟩
theorem g_iSeq (h : te σ H fun x H1 => (∃ a xs, x = .ref a ∧ SqL K H1 a xs ∧ R (Itl K a) H1) ∨ ∃ a xs, x = .ref a ∧ SqT K H1 a xs ∧ R (Itt K a) H1) : iSeq K te σ H R := h
theorem g_seqL (hl : SqL K H a xs) (h : R (Itl K a) H) : (∃ b ys, V.ref a = .ref b ∧ SqL K H b ys ∧ R (Itl K b) H) ∨ ∃ b ys, V.ref a = .ref b ∧ SqT K H b ys ∧ R (Itt K b) H := .inl ⟨a, xs, rfl, hl, h⟩
theorem g_seqT (hl : SqT K H a xs) (h : R (Itt K a) H) : (∃ b ys, V.ref a = .ref b ∧ SqL K H b ys ∧ R (Itl K b) H) ∨ ∃ b ys, V.ref a = .ref b ∧ SqT K H b ys ∧ R (Itt K b) H := .inr ⟨a, xs, rfl, hl, h⟩
theorem f_range {lo : Int} {n : Nat} (Pv : Nat → L2.St → Hp → Prop) (h0 : Pv 0 σ H)
    (hs : ∀ i σ H, i < n → Pv i σ H → g (.int (lo + i)) σ H fun σ2 H2 => tb { nx := Pv (i + 1), rt := D.rt, ct := Pv (i + 1), bk := D.nx } σ2 H2) (hd : ∀ σ H, Pv n σ H → D.nx σ H) : ForW g tb D σ (Itr lo n) H := for_range Pv h0 hs hd
theorem f_list (Pv : Nat → L2.St → Hp → Prop) (h0 : Pv 0 σ H) (hl : ∀ i σ H, i ≤ xs.length → Pv i σ H → SqL K H a xs)
    (hs : ∀ i x σ H, xs[i]? = some x → Pv i σ H → g x σ H fun σ2 H2 => tb { nx := Pv (i + 1), rt := D.rt, ct := Pv (i + 1), bk := D.nx } σ2 H2) (hd : ∀ σ H, Pv xs.length σ H → D.nx σ H) : ForW g tb D σ (Itl K a) H := for_list Pv h0 hl hs hd
theorem f_tup (Pv : Nat → L2.St → Hp → Prop) (h0 : Pv 0 σ H) (hl : ∀ i σ H, i ≤ xs.length → Pv i σ H → SqT K H a xs)
    (hs : ∀ i x σ H, xs[i]? = some x → Pv i σ H → g x σ H fun σ2 H2 => tb { nx := Pv (i + 1), rt := D.rt, ct := Pv (i + 1), bk := D.nx } σ2 H2) (hd : ∀ σ H, Pv xs.length σ H → D.nx σ H) : ForW g tb D σ (Itt K a) H := for_tup Pv h0 hl hs hd
/-- while: W by a measure and the state -/
def WhileW (c : TT) (tb : TS) (D : Ends) (W : Nat → L2.St → Hp → Prop) : Prop := ∀ m σ H, W m σ H →
  c σ H fun b H1 => if b = true then ∃ N : L2.St → Hp → Prop, (∀ σ' H', N σ' H' → ∃ m', m' < m ∧ W m' σ' H') ∧ tb { D with nx := N, ct := N, bk := D.nx } σ H1 else D.nx σ H1
theorem g_whileT {m : Nat} {W : Nat → L2.St → Hp → Prop} {A : (L2.St → Hp → Prop) → Prop} (h : A fun σ' H' => ∃ m', m' < m ∧ W m' σ' H') : ∃ N : L2.St → Hp → Prop, (∀ σ' H', N σ' H' → ∃ m', m' < m ∧ W m' σ' H') ∧ A N := ⟨_, fun _ _ h => h, h⟩
/-! ### isinstance of the scalars -/
theorem isi_of {x : V} {T T' : String} {b : Bool} (ht : TyX K H x (.type T)) (hk : kitB T T' = some b) (h : Q (.bl b) H) : rIsi K [x, .ty T'] H Q := ⟨x, .ty T', .type T, .type T', b, rfl, .ty T', ht, kit_ty hk, h⟩
theorem k_ii : kitB "int" "int" = some true := by decide +kernel
theorem k_ib : kitB "int" "bool" = some false := by decide +kernel
theorem k_bi : kitB "bool" "int" = some true := by decide +kernel
theorem k_bb : kitB "bool" "bool" = some true := by decide +kernel
theorem k_is_ : kitB "int" "str" = some false := by decide +kernel
theorem k_bs : kitB "bool" "str" = some false := by decide +kernel
theorem k_it : kitB "int" "tuple" = some false := by decide +kernel
theorem k_bt : kitB "bool" "tuple" = some false := by decide +kernel
theorem k_si : kitB "str" "int" = some false := by decide +kernel
theorem k_sb : kitB "str" "bool" = some false := by decide +kernel
theorem k_ss : kitB "str" "str" = some true := by decide +kernel
theorem k_st : kitB "str" "tuple" = some false := by decide +kernel
theorem k_ni : kitB "NoneType" "int" = some false := by decide +kernel
theorem k_nb : kitB "NoneType" "bool" = some false := by decide +kernel
theorem k_ns : kitB "NoneType" "str" = some false := by decide +kernel
theorem k_nt : kitB "NoneType" "tuple" = some false := by decide +kernel
theorem k_tt : kitB "tuple" "tuple" = some true := by decide +kernel
theorem k_ti : kitB "tuple" "int" = some false := by decide +kernel
theorem k_tb : kitB "tuple" "bool" = some false := by decide +kernel
theorem k_ts : kitB "tuple" "str" = some false := by decide +kernel
variable {z : Str} {b : Bool}
theorem g_isiIi (h : Q (.bl true) H) : rIsi K [.int i, .ty "int"] H Q := isi_of (.base (.int i)) k_ii h
theorem g_isiIb (h : Q (.bl false) H) : rIsi K [.int i, .ty "bool"] H Q := isi_of (.base (.int i)) k_ib h
theorem g_isiIs (h : Q (.bl false) H) : rIsi K [.int i, .ty "str"] H Q := isi_of (.base (.int i)) k_is_ h
theorem g_isiIt (h : Q (.bl false) H) : rIsi K [.int i, .ty "tuple"] H Q := isi_of (.base (.int i)) k_it h
theorem g_isiBi (h : Q (.bl true) H) : rIsi K [.bl b, .ty "int"] H Q := isi_of (.base (.bl b)) k_bi h
theorem g_isiBb (h : Q (.bl true) H) : rIsi K [.bl b, .ty "bool"] H Q := isi_of (.base (.bl b)) k_bb h
theorem g_isiBs (h : Q (.bl false) H) : rIsi K [.bl b, .ty "str"] H Q := isi_of (.base (.bl b)) k_bs h
theorem g_isiBt (h : Q (.bl false) H) : rIsi K [.bl b, .ty "tuple"] H Q := isi_of (.base (.bl b)) k_bt h
theorem g_isiSi (h : Q (.bl false) H) : rIsi K [.str z, .ty "int"] H Q := isi_of (.base (.str z)) k_si h
theorem g_isiSb (h : Q (.bl false) H) : rIsi K [.str z, .ty "bool"] H Q := isi_of (.base (.str z)) k_sb h
theorem g_isiSs (h : Q (.bl true) H) : rIsi K [.str z, .ty "str"] H Q := isi_of (.base (.str z)) k_ss h
theorem g_isiSt (h : Q (.bl false) H) : rIsi K [.str z, .ty "tuple"] H Q := isi_of (.base (.str z)) k_st h
theorem g_isiNi (h : Q (.bl false) H) : rIsi K [.non, .ty "int"] H Q := isi_of (.base .non) k_ni h
theorem g_isiNb (h : Q (.bl false) H) : rIsi K [.non, .ty "bool"] H Q := isi_of (.base .non) k_nb h
theorem g_isiNs (h : Q (.bl false) H) : rIsi K [.non, .ty "str"] H Q := isi_of (.base .non) k_ns h
theorem g_isiNt (h : Q (.bl false) H) : rIsi K [.non, .ty "tuple"] H Q := isi_of (.base .non) k_nt h
end
section
variable {H H1 : Hp} {a : Addr} {o : HO}
theorem Same.mut (x : Same H H1) (h : H a = none) : Same H (upd H1 a o) := fun b u e => by
  rw [upd_ne (ne_of_none e h)]
  exact x b u e
theorem Same.new' (x : Same H H1) (h : H1 a = none) : Same H (upd H1 a o) := fun b u e => keep_new (x b u e) h
end
theorem q_int {Q : VK} {x y : Int} {H : Hp} (e : x = y) (h : Q (.int x) H) : Q (.int y) H := e ▸ h
theorem q_bl {Q : VK} {x y : Bool} {H : Hp} (e : x = y) (h : Q (.bl x) H) : Q (.bl y) H := e ▸ h
theorem q_str {Q : VK} {x y : Str} {H : Hp} (e : x = y) (h : Q (.str x) H) : Q (.str y) H := e ▸ h
theorem g_disp {trs : List (TE × TE)} {σ : L2.St} {H : Hp} {Q : VK} (h : ∀ p, H p = none → tPairs trs σ (upd H p (.dK [])) fun ps H2 => H2 p = some (.dK []) ∧ ∃ kvs : List (Key × V), ps = kvs.map (fun kv => (kV kv.1, kv.2)) ∧ kvs.length ≤ 15 ∧ Q (.ref p) (upd H2 p (.dK (mergeK [] kvs)))) : tDisp trs σ H Q := h
theorem g_pairN {σ : L2.St} {H : Hp} {R : List (V × V) → Hp → Prop} (h : R [] H) : tPairs [] σ H R := h
theorem g_pairC {tk tv : TE} {r : List (TE × TE)} {σ : L2.St} {H : Hp} {R : List (V × V) → Hp → Prop} (h : tk σ H fun x H1 => tv σ H1 fun y H2 => tPairs r σ H2 fun ps H3 => R ((x, y) :: ps) H3) : tPairs ((tk, tv) :: r) σ H R := h
theorem g_dput {td ty tv : TE} {D : Ends} {σ : L2.St} {H : Hp} (h : tv σ H fun v H1 => td σ H1 fun x H2 => ty σ H2 fun y H3 => ∃ a H4, x = .ref a ∧ DPut H3 a y v H4 ∧ D.nx σ H4) : sDPut td ty tv D σ H := h

/-! ### the laws' draws: a dict with a row, a place and a seed -/
theorem ne_ra : ¬ (("row" : Str) = "at") := by decide +kernel
theorem ne_rs : ¬ (("row" : Str) = "seed") := by decide +kernel
theorem ne_as : ¬ (("at" : Str) = "seed") := by decide +kernel
theorem ne_sa : ¬ (("seed" : Str) = "at") := by decide +kernel
theorem ne_ar : ¬ (("at" : Str) = "row") := by decide +kernel
theorem ne_sr : ¬ (("seed" : Str) = "row") := by decide +kernel
def drK (r : Addr) (n sd : Int) : List (Key × V) := [(.inr "row", .ref r), (.inr "at", .int n), (.inr "seed", .int sd)]
structure RowOk (row : List Int) (sd : Int) : Prop where
  dig : ∀ x ∈ row, 0 ≤ x ∧ x < 1000
  len : row.length ≤ 1260
  s0 : 0 ≤ sd
  s1 : sd < 1000003
theorem dr_row (r : Addr) (n sd : Int) : valV (drK r n sd) (.inr "row") = some (.ref r) := by
  unfold drK
  exact valV_pos rfl
theorem dr_at (r : Addr) (n sd : Int) : valV (drK r n sd) (.inr "at") = some (.int n) := by
  unfold drK
  rw [valV_neg (fun e => ne_ra (Sum.inr.inj e))]
  exact valV_pos rfl
theorem dr_seed (r : Addr) (n sd : Int) : valV (drK r n sd) (.inr "seed") = some (.int sd) := by
  unfold drK
  rw [valV_neg (fun e => ne_rs (Sum.inr.inj e)), valV_neg (fun e => ne_as (Sum.inr.inj e))]
  exact valV_pos rfl
theorem dr_put (r : Addr) (n m sd : Int) : putK (drK r n sd) (.inr "at") (.int m) = drK r m sd := by
  unfold putK
  rw [valV_any, dr_at]
  simp only [Option.isSome_some, if_true]
  unfold drK
  simp only [List.map_cons, List.map_nil]
  rw [if_neg (fun e => ne_ra (Sum.inr.inj e)), if_pos trivial, if_neg (fun e => ne_sa (Sum.inr.inj e))]
theorem dr_made (r : Addr) (n sd : Int) : mergeK [] [(.inr "row", .ref r), (.inr "at", .int n), (.inr "seed", .int sd)] = drK r n sd := by
  have h1 : putK ([] : List (Key × V)) (.inr "row") (.ref r) = [(.inr "row", .ref r)] := putK_new _ rfl
  have h2 : putK ([(.inr "row", .ref r)] : List (Key × V)) (.inr "at") (.int n) = [(.inr "row", .ref r)] ++ [(.inr "at", .int n)] := putK_new _ (by rw [valV_neg (fun e => ne_ra (Sum.inr.inj e))]; rfl)
  have h3 : putK ([(.inr "row", .ref r), (.inr "at", .int n)] : List (Key × V)) (.inr "seed") (.int sd) = [(.inr "row", .ref r), (.inr "at", .int n)] ++ [(.inr "seed", .int sd)] := putK_new _ (by
    rw [valV_neg (fun e => ne_rs (Sum.inr.inj e)), valV_neg (fun e => ne_as (Sum.inr.inj e))]; rfl)
  unfold mergeK
  simp only [List.foldl_cons, List.foldl_nil]
  rw [h1, h2]
  exact h3
theorem dg_row {H : Hp} {d r : Addr} {n sd : Int} (h : H d = some (.dK (drK r n sd))) : DGet H d (.str "row") (some (.ref r)) := by
  rw [← dr_row r n sd]
  exact DGet.k (k := .inr "row") h
theorem dg_at {H : Hp} {d r : Addr} {n sd : Int} (h : H d = some (.dK (drK r n sd))) : DGet H d (.str "at") (some (.int n)) := by
  rw [← dr_at r n sd]
  exact DGet.k (k := .inr "at") h
theorem dg_seed {H : Hp} {d r : Addr} {n sd : Int} (h : H d = some (.dK (drK r n sd))) : DGet H d (.str "seed") (some (.int sd)) := by
  rw [← dr_seed r n sd]
  exact DGet.k (k := .inr "seed") h
theorem dp_at {H : Hp} {d r : Addr} {n sd : Int} (m : Int) (h : H d = some (.dK (drK r n sd))) : DPut H d (.str "at") (.int m) (upd H d (.dK (drK r m sd))) := by
  rw [← dr_put r n m sd]
  exact DPut.k (k := .inr "at") h (by show 3 < sizeLine; decide)
theorem szl {n : Nat} (h : n ≤ 100000) : n < sizeLine := Nat.lt_of_le_of_lt h (by decide)
theorem szle {n : Nat} (h : n ≤ 100000) : n ≤ sizeLine := Nat.le_trans h (by decide)

/-! ### //, %, shifts by name -/
def rMod : R2 := rI (fun _ j => 0 < j) fun i j => .int (i % j)
def rFdiv : R2 := rI CDivW fun i j => .int (i / j)
def rShl : R2 := rI CPow fun i j => .int (i * 2 ^ j.toNat)
def rPow : R2 := rI CPow fun i j => .int (i ^ j.toNat)
def rShr : R2 := rI (fun _ j => 0 ≤ j) fun i j => .int (i / 2 ^ j.toNat)
section
variable {X : Cx} {i j : Int} {H : Hp} {Q : VK}
theorem o_mod : OpR X (binaryOp .Mod) rMod := op_mod
theorem o_fdiv : OpR X (binaryOp .FloorDiv) rFdiv := op_fdivW
theorem o_shl : OpR X (binaryOp .LShift) rShl := op_shl
theorem o_pow : OpR X (binaryOp .Pow) rPow := op_pow
theorem o_shr : OpR X (binaryOp .RShift) rShr := op_shr
theorem io_fdiv : OpR X (inplaceOp .FloorDiv) rFdiv := iop_fdivW
theorem io_mod : OpR X (inplaceOp .Mod) rMod := iop_mod
theorem g_mod (h : 0 < j) (q : Q (.int (i % j)) H) : rMod (.int i) (.int j) H Q := ⟨i, j, rfl, rfl, h, q⟩
theorem g_fdiv (h : 0 < j) (h2 : j < 18446744073709551616) (q : Q (.int (i / j)) H) : rFdiv (.int i) (.int j) H Q := ⟨i, j, rfl, rfl, cdivW_of h h2, q⟩
theorem g_shl (h : 0 ≤ j) (h2 : j ≤ 1000000) (h3 : i.natAbs < 18446744073709551616) (q : Q (.int (i * 2 ^ j.toNat)) H) : rShl (.int i) (.int j) H Q := ⟨i, j, rfl, rfl, ⟨h, h2, h3⟩, q⟩
theorem g_pow (h : 0 ≤ j) (h2 : j ≤ 1000000) (h3 : i.natAbs < 18446744073709551616) (q : Q (.int (i ^ j.toNat)) H) : rPow (.int i) (.int j) H Q := ⟨i, j, rfl, rfl, ⟨h, h2, h3⟩, q⟩
theorem g_shr (h : 0 ≤ j) (q : Q (.int (i / 2 ^ j.toNat)) H) : rShr (.int i) (.int j) H Q := ⟨i, j, rfl, rfl, h, q⟩
end

/-! ### fields, methods, makes -/
def rFld (K : PySem.W.Frag) (f : Str) : V → Hp → VK → Prop := fun x H Q => ∃ a C dx fs v, x = .ref a ∧ H a = some (.ins C dx fs) ∧ Cls K C ∧ NoAttr K C f ∧ fs.lookup f = some v ∧ Q v H
def rSFld (K : PySem.W.Frag) (f : Str) : V → V → Hp → (Hp → Prop) → Prop := fun x y H R => ∃ a C dx fs, x = .ref a ∧ H a = some (.ins C dx fs) ∧ Cls K C ∧ NoAttr K C f ∧ fs.length < 1000 ∧ R (upd H a (.ins C dx (putF f y fs)))
def tSFld (K : PySem.W.Frag) (ta tv : TE) (f : Str) : TS := fun D σ H => tv σ H fun y H1 => ta σ H1 fun x H2 => rSFld K f x y H2 (D.nx σ)
/-- o.f as a target within a tuple -/
def gFldU (K : PySem.W.Frag) (to : TE) (f : Str) : TG := fun v σ H Q => to σ H fun x H1 => rSFld K f x v H1 (Q σ)
theorem pg_fldU {X : Cx} {K : PySem.W.Frag} (hK : X.K = K) {o : Expr} {to : TE} {f : Str} {pos : Pos} (ho : PE X o to) : PG X (.Attribute o f pos) (gFldU K to f) := by
  subst hK
  refine ⟨fun pins s σ H v u Q I r h => ?_⟩
  rw [PySem.assign_Attribute]
  refine wpAny_bind (wpAny_holding (thn (ho.run pins s σ H _ I h) fun ov s1 ⟨x, H1, I1, rx, a, C, dx, fs, ex, ea, c, n, l, q⟩ => ?_))
  subst ex
  obtain rfl : ov = Value.ref a := rx
  refine wpAny_bind (wpAny_standAt (wpAny_bind (wpAny_holding (setattr_ok I1 ea c n l r fun s3 I3 => ?_))))
  exact wpAny_release ⟨σ, _, I3, q⟩
theorem g_gfld {K : PySem.W.Frag} {to : TE} {f : Str} {v : V} {σ : L2.St} {H : Hp} {Q : L2.St → Hp → Prop} (h : to σ H fun x H1 => rSFld K f x v H1 (Q σ)) : gFldU K to f v σ H Q := h
/-- the receiver of a method's call -/
def rRcv (C : Addr) (m : Str) : V → Hp → (Hp → Prop) → Prop := fun x H R => ∃ a dx fs, x = .ref a ∧ H a = some (.ins C dx fs) ∧ fs.lookup m = none ∧ R H
section
variable {X : Cx} {o e value : Expr} {f : Str} {pos pos' : Pos} {ta tv : TE}
theorem pe_fldU {K : PySem.W.Frag} (hK : X.K = K) (he : PE X e ta) (hb : attributeBase e f X.env (eval e X.env) = eval e X.env) : PE X (.Attribute e f pos) (tUn (rFld K f) ta) := by
  subst hK
  exact pe_fld he hb
theorem ps_fldU {K : PySem.W.Frag} (hK : X.K = K) (ha : PE X o ta) (hv : PE X value tv) (hs : swapsWith value (some (.Attribute o f pos')) pos.line X.env = pure false) : PS X (.Assign [.Attribute o f pos'] value pos) (tSFld K ta tv f) := by
  subst hK
  exact ps_fld ha hv hs
end
section
variable {K : PySem.W.Frag} {σ : L2.St} {H : Hp} {D : Ends} {ta tv : TE} {t : TA} {Q : VK} {v y : V} {a C dx : Addr} {fs fs' : List (Str × V)} {f m : Str} {sp : Sp} {dvs : List V} {E : XK} {L : List (Addr × HO)} {R : Hp → Prop}
theorem g_fld (he : H a = some (.ins C dx fs)) (cl : Cls K C) (na : NoAttr K C f) (l : fs.lookup f = some v) (h : Q v H) : rFld K f (.ref a) H Q := ⟨a, C, dx, fs, v, rfl, he, cl, na, l, h⟩
theorem g_sfld (h : tv σ H fun y H1 => ta σ H1 fun x H2 => rSFld K f x y H2 (D.nx σ)) : tSFld K ta tv f D σ H := h
theorem g_setF (M : Has H L) (n : Nat) (he : L[n]? = some (a, .ins C dx fs)) (cl : Cls K C) (na : NoAttr K C f) (hl : fs.length < 1000) (e : putF f y fs = fs') (k : Has (upd H a (.ins C dx fs')) (L.set n (a, .ins C dx fs')) → R (upd H a (.ins C dx fs'))) : rSFld K f (.ref a) y H R :=
  ⟨a, C, dx, fs, rfl, M.get n he, cl, na, hl, by rw [e]; exact k (M.set n he)⟩
theorem g_meth (h : ta σ H fun x H1 => ∃ a dx fs, x = .ref a ∧ H1 a = some (.ins C dx fs) ∧ fs.lookup m = none ∧ t σ H1 fun vs H2 => sp (x :: (vs ++ dvs)) H2 Q E) : tMeth C m sp dvs E ta t σ H Q := h
theorem g_rcv {A : Prop} (he : H a = some (.ins C dx fs)) (l : fs.lookup m = none) (h : A) : ∃ b dx' fs', V.ref a = .ref b ∧ H b = some (.ins C dx' fs') ∧ fs'.lookup m = none ∧ A := ⟨a, dx, fs, rfl, he, l, h⟩
theorem g_make (h : t σ H fun vs H1 => ∀ x dx, H1 x = none → H1 dx = none → dx ≠ x → sp (.ref x :: (vs ++ dvs)) (upd (upd H1 dx (.own x)) x (.ins C dx [])) (fun v H2 => v = .non ∧ Q (.ref x) H2) E) : tMake C sp dvs E t σ H Q := h
end
section
variable {H : Hp} {x dx C : Addr}
/-- the heap in which an __init__ starts -/
def made (H : Hp) (x dx C : Addr) : Hp := upd (upd H dx (.own x)) x (.ins C dx [])
theorem made_same (hx : H x = none) (hd : H dx = none) : Same H (made H x dx C) := fun b o e => by
  unfold made
  rw [upd_ne (ne_of_none e hx), upd_ne (ne_of_none e hd)]
  exact e
theorem made_at : made H x dx C x = some (.ins C dx []) := upd_same
theorem made_none {p : Addr} (h : made H x dx C p = none) : H p = none ∧ p ≠ x ∧ p ≠ dx := by
  unfold made at h
  by_cases h1 : p = x
  · subst h1; rw [upd_same] at h; cases h
  · rw [upd_ne h1] at h
    by_cases h2 : p = dx
    · subst h2; rw [upd_same] at h; cases h
    · rw [upd_ne h2] at h
      exact ⟨h, h1, h2⟩
end

/-! ### stores by place, replicated lists, slices, all and any -/
def rSetU : V → V → V → Hp → (Hp → Prop) → Prop := fun o i v H Q => rSetL o i v H Q ∨ ∃ a H', o = .ref a ∧ DPut H a i v H' ∧ Q H'
section
variable {X : Cx}
theorem set_U (hu : X.A.units + 1 < cLine) : PSet X rSetU := by
  intro pins s σ H o i v ov iv u Q I ro ri rv h
  rcases h with h | ⟨a, H', rfl, g, q⟩
  · exact set_list pins s σ H o i v ov iv u Q I ro ri rv h
  · obtain rfl : ov = Value.ref a := ro
    exact d_setItem hu I g ri rv fun s1 I1 => ⟨H', I1, q⟩
end
section
variable {K : PySem.W.Frag} {σ : L2.St} {H : Hp} {R : Hp → Prop} {RS : L2.St → Hp → Prop} {te ti : TE} {t : TSet} {v y : V} {a : Addr} {xs : List V} {i : Int} {L : List (Addr × HO)} {m : Nat} {Q : VK}
theorem g_sub (h : te σ H fun o H1 => ti σ H1 fun i H2 => t o i v H2 fun H3 => RS σ H3) : gSub te ti t v σ H RS := h
theorem g_setU (M : Has H L) (n : Nat) (h : L[n]? = some (a, .lst xs)) (hi : i = (m : Int)) (hm : m < xs.length) (k : Has (upd H a (.lst (xs.set m y))) (L.set n (a, .lst (xs.set m y))) → R (upd H a (.lst (xs.set m y)))) : rSetU (.ref a) (.int i) y H R :=
  .inl ⟨a, xs, i, m, rfl, rfl, M.get n h, by
    unfold ixN
    rw [if_pos (by omega), if_pos (by omega)]
    congr 1
    omega, k (M.set n h)⟩
theorem rep_flat {x : V} : ∀ n : Nat, (List.replicate n [x]).flatten = List.replicate n x
  | 0 => rfl
  | n + 1 => by
    rw [List.replicate_succ, List.replicate_succ, List.flatten_cons, rep_flat n]
    rfl
theorem g_rep {x : V} {k : Int} (h : H a = some (.lst [x])) (h0 : -4611686018427387904 ≤ k) (h1 : k ≤ 100000) (q : ∀ p, H p = none → Q (.ref p) (upd H p (.lst (List.replicate k.toNat x)))) : rMulU (.ref a) (.int k) H Q := by
  refine .inl ⟨a, k, [x], rfl, rfl, h, by omega, by omega, szle (by simp; omega), fun p hp => ?_⟩
  rw [rep_flat]
  exact q p hp
theorem g_repI {x : Int} {k : Int} (h : H a = some (.lst [.int x])) (h0 : -4611686018427387904 ≤ k) (h1 : k ≤ 100000) (q : ∀ p, H p = none → Q (.ref p) (upd H p (.lst ((List.replicate k.toNat x).map V.int)))) : rMulU (.ref a) (.int k) H Q :=
  g_rep h h0 h1 fun p hp => by
    have z := q p hp
    rw [List.map_replicate] at z
    exact z
end
def rAllU (K : PySem.W.Frag) : List V → Hp → VK → Prop := fun vs H Q => ∃ (a : Addr) (bs : List Bool), vs = [V.ref a] ∧ SqL K H a (bs.map V.bl) ∧ Q (.bl (bs.all id)) H
def rAnyU (K : PySem.W.Frag) : List V → Hp → VK → Prop := fun vs H Q => ∃ (a : Addr) (bs : List Bool), vs = [V.ref a] ∧ SqL K H a (bs.map V.bl) ∧ Q (.bl (bs.any id)) H
section
variable {X : Cx} {K : PySem.W.Frag} {H : Hp} {Q : VK} {a : Addr} {bs : List Bool}
theorem c_all {K : PySem.W.Frag} (hK : X.K = K) (hc : X.calm = true) : CallR X (.builtin "all") (rAllU K) := by
  subst hK
  exact cr_all hc
theorem c_any {K : PySem.W.Frag} (hK : X.K = K) (hc : X.calm = true) : CallR X (.builtin "any") (rAnyU K) := by
  subst hK
  exact cr_any hc
theorem g_all (h : SqL K H a (bs.map V.bl)) (q : Q (.bl (bs.all id)) H) : rAllU K [.ref a] H Q := ⟨a, bs, rfl, h, q⟩
theorem g_any (h : SqL K H a (bs.map V.bl)) (q : Q (.bl (bs.any id)) H) : rAnyU K [.ref a] H Q := ⟨a, bs, rfl, h, q⟩
end
/-! slices -/
def rSlU (K : PySem.W.Frag) : V → Option Int → Option Int → Hp → VK → Prop := fun x lo hi H Q => rSlL K x lo hi H Q ∨ rSlA K x lo hi H Q ∨ ∃ z, x = .str z ∧ z.length ≤ sizeLine ∧ Q (.str (cutS z lo hi)) H
theorem sl_U {X : Cx} {K : PySem.W.Frag} (hK : X.K = K) : SlR X (rSlU K) := by
  subst hK
  exact sl_list.or (sl_tupA.or sl_str)
section
variable {K : PySem.W.Frag} {σ : L2.St} {H : Hp} {Q : VK} {te : TE} {tl th : TO} {QO : Option Int → Hp → Prop} {r : V → Option Int → Option Int → Hp → VK → Prop} {a : Addr} {xs : List V} {lo hi : Option Int} {i : Int} {z : Str}
theorem g_sl (h : te σ H fun x H1 => tl σ H1 fun l H2 => th σ H2 fun u H3 => r x l u H3 Q) : tSl r te tl th σ H Q := h
theorem g_part (h : te σ H fun x H1 => ∃ i, x = .int i ∧ QO (some i) H1) : tPart te σ H QO := h
theorem g_exi {A : Int → Prop} (h : A i) : ∃ j, V.int i = .int j ∧ A j := ⟨i, rfl, h⟩
theorem g_noPart (h : QO none H) : tNoPart σ H QO := h
theorem g_slL (h : SqL K H a xs) (q : ∀ p, H p = none → Q (.ref p) (upd H p (.lst (cutV xs lo hi)))) : rSlU K (.ref a) lo hi H Q := .inl ⟨a, xs, rfl, h, q⟩
theorem g_slS (hl : z.length ≤ sizeLine) (q : Q (.str (cutS z lo hi)) H) : rSlU K (.str z) lo hi H Q := .inr (.inr ⟨z, rfl, hl, q⟩)
end
theorem cutV_from {xs : List V} {n : Nat} : cutV xs (some (n : Int)) none = xs.drop n := by
  unfold cutV
  rw [HT.sIx_nat, HT.sIx_none]
  by_cases h : n ≤ xs.length
  · rw [Nat.min_eq_left h, List.take_of_length_le (by simp)]
  · rw [Nat.min_eq_right (by omega), List.drop_of_length_le (by omega), List.drop_of_length_le (by omega)]
    simp

/-! ### methods of built-in types, own methods: the written part named -/
section
variable {X : Cx} {K : PySem.W.Frag} {o e : Expr} {es : List Expr} {to : TE} {t : TA} {name : Str} {apos cpos pos : Pos} {T id : String} {r : V → List V → Hp → VK → Prop}
def rTyV (K : PySem.W.Frag) (T : String) : V → Hp → (Hp → Prop) → Prop := fun x H R => tyV K T x H ∧ R H
def tBMU (K : PySem.W.Frag) (T : String) (r : V → List V → Hp → VK → Prop) (to : TE) (t : TA) : TE := fun σ H Q => to σ H fun x H1 => rTyV K T x H1 fun H2 => t σ H2 fun xs H3 => r x xs H3 Q
end
theorem g_lenM {K : PySem.W.Frag} {H : Hp} {a : Addr} {Q : VK} {α : Type} {f : α → V} {ns : List α} (h : SqL K H a (ns.map f)) (q : Q (.int (ns.length : Nat)) H) : rLenU K [.ref a] H Q := g_lenL h (by rw [List.length_map]; exact q)
theorem g_ty_ {K : PySem.W.Frag} {T : String} {x : V} {H : Hp} {A : Prop} (h : tyV K T x H) (q : A) : tyV K T x H ∧ A := ⟨h, q⟩

/-! ### list comprehensions -/
def LcW (g : TG) (tt : TT) (te : TE) (vs : List Nat) (σ : L2.St) (Q : VK) : It → Hp → Prop := fun J H1 => ∀ D, H1 D = none → ∃ W : Nat → Nat → Hp → Prop, (∃ m, W 0 m (upd H1 D (.lst []))) ∧ ∀ i m H, W i m H →
  (J.stop i H ∧ Q (.ref D) H) ∨ (J.go i H ∧ ∃ Nx : Hp → Prop, (∀ H', Nx H' → ∃ m', m' < m ∧ W (i + 1) m' H') ∧ ∀ x H', J.yld i H x H' → g x (wipe σ vs) H' fun σ2 H2 => wipe σ2 vs = wipe σ vs ∧ tt σ2 H2 fun b H3 =>
    if b = true then te σ2 H3 fun y H4 => ∃ acc, H4 D = some (.lst acc) ∧ acc.length < sizeLine ∧ Nx (upd H4 D (.lst (acc ++ [y]))) else Nx H3)
section
variable {K : PySem.W.Frag} {σ : L2.St} {H : Hp} {g : TG} {tt : TT} {te : TE} {wi : TI} {vs : List Nat} {Q : VK} {lo : Int} {n : Nat} {a : Addr} {xs : List V} {QB : Bool → Hp → Prop}
theorem g_lc (h : wi σ H (LcW g tt te vs σ Q)) : tLc wi g tt te vs σ H Q := h
theorem g_yes (h : QB true H) : tYes σ H QB := h
theorem g_wipe {σ1 σ2 : L2.St} {A : Prop} (e : wipe σ1 vs = wipe σ2 vs) (h : A) : wipe σ1 vs = wipe σ2 vs ∧ A := ⟨e, h⟩
theorem l_range (Pv : Addr → Nat → Hp → Prop) (h0 : ∀ D, H D = none → Pv D 0 (upd H D (.lst [])))
    (hs : ∀ D, H D = none → ∀ i H', i < n → Pv D i H' → g (.int (lo + i)) (wipe σ vs) H' fun σ2 H2 => wipe σ2 vs = wipe σ vs ∧ tt σ2 H2 fun b H3 => if b = true then te σ2 H3 fun y H4 => ∃ acc, H4 D = some (.lst acc) ∧ acc.length < sizeLine ∧ Pv D (i + 1) (upd H4 D (.lst (acc ++ [y]))) else Pv D (i + 1) H3)
    (hd : ∀ D, H D = none → ∀ H', Pv D n H' → Q (.ref D) H') : LcW g tt te vs σ Q (Itr lo n) H := fun D hD => lc_range (Pv D) (h0 D hD) (hs D hD) (hd D hD)
theorem l_list (Pv : Addr → Nat → Hp → Prop) (h0 : ∀ D, H D = none → Pv D 0 (upd H D (.lst []))) (hl : ∀ D, H D = none → ∀ i H', i ≤ xs.length → Pv D i H' → SqL K H' a xs)
    (hs : ∀ D, H D = none → ∀ i x H', xs[i]? = some x → Pv D i H' → g x (wipe σ vs) H' fun σ2 H2 => wipe σ2 vs = wipe σ vs ∧ tt σ2 H2 fun b H3 => if b = true then te σ2 H3 fun y H4 => ∃ acc, H4 D = some (.lst acc) ∧ acc.length < sizeLine ∧ Pv D (i + 1) (upd H4 D (.lst (acc ++ [y]))) else Pv D (i + 1) H3)
    (hd : ∀ D, H D = none → ∀ H', Pv D xs.length H' → Q (.ref D) H') : LcW g tt te vs σ Q (Itl K a) H := fun D hD => lc_list (Pv D) (h0 D hD) (hl D hD) (hs D hD) (hd D hD)
theorem l_tup (Pv : Addr → Nat → Hp → Prop) (h0 : ∀ D, H D = none → Pv D 0 (upd H D (.lst []))) (hl : ∀ D, H D = none → ∀ i H', i ≤ xs.length → Pv D i H' → SqT K H' a xs)
    (hs : ∀ D, H D = none → ∀ i x H', xs[i]? = some x → Pv D i H' → g x (wipe σ vs) H' fun σ2 H2 => wipe σ2 vs = wipe σ vs ∧ tt σ2 H2 fun b H3 => if b = true then te σ2 H3 fun y H4 => ∃ acc, H4 D = some (.lst acc) ∧ acc.length < sizeLine ∧ Pv D (i + 1) (upd H4 D (.lst (acc ++ [y]))) else Pv D (i + 1) H3)
    (hd : ∀ D, H D = none → ∀ H', Pv D xs.length H' → Q (.ref D) H') : LcW g tt te vs σ Q (Itt K a) H := fun D hD => lc_tup (Pv D) (h0 D hD) (hl D hD) (hs D hD) (hd D hD)
end
section
variable {H H1 : Hp} {L : List (Addr × HO)} {a b : Addr} {o o' u u' : HO}
/-- two objects have changed -/
theorem Has.call2 (M : Has H L) (k : Keep [a, b] H H1) (i j : Nat) (hi : L[i]? = some (a, o)) (hj : L[j]? = some (b, u)) (hij : i ≠ j) (e1 : H1 a = some o') (e2 : H1 b = some u') : Has H1 ((L.set i (a, o')).set j (b, u')) := by
  have nab : a ≠ b := M.ne i j hi hj hij
  have k1 : Keep [a] H (upd H1 b u) := fun x w e n => by
    by_cases hx : x = b
    · subst hx
      rw [upd_same]
      exact (M.get j hj).symm.trans e
    · rw [upd_ne hx]
      refine k x w e ?_
      simp only [List.mem_cons, List.not_mem_nil, or_false, not_or]
      exact ⟨fun z => n (List.mem_singleton.mpr z), hx⟩
  have M1 : Has (upd H1 b u) (L.set i (a, o')) := M.call1 k1 i hi (by rw [upd_ne nab]; exact e1)
  have hj' : (L.set i (a, o'))[j]? = some (b, u) := by rw [List.getElem?_set_ne hij]; exact hj
  have M2 := M1.set (o' := u') j hj'
  have e : upd (upd H1 b u) b u' = H1 := by
    rw [upd_upd]
    funext x
    by_cases hx : x = b
    · subst hx
      rw [upd_same, e2]
    · rw [upd_ne hx]
  rw [e] at M2
  exact M2
end

/-! ### None asked -/
def rIsN (neg : Bool) : R2 := fun x y H Q => y = .non ∧ Q (.bl (if neg then !decide (x = .non) else decide (x = .non))) H
theorem o_isN {X : Cx} : OpR X (compareOp .Is) (rIsN false) := op_isN
theorem o_notN {X : Cx} : OpR X (compareOp .IsNot) (rIsN true) := op_notN
section
variable {H : Hp} {Q : VK} {i : Int} {z : Str} {b : Bool} {a : Addr}
theorem g_isNn (h : Q (.bl true) H) : rIsN false .non .non H Q := ⟨rfl, h⟩
theorem g_isNi (h : Q (.bl false) H) : rIsN false (.int i) .non H Q := ⟨rfl, h⟩
theorem g_isNs (h : Q (.bl false) H) : rIsN false (.str z) .non H Q := ⟨rfl, h⟩
theorem g_isNb (h : Q (.bl false) H) : rIsN false (.bl b) .non H Q := ⟨rfl, h⟩
theorem g_isNr (h : Q (.bl false) H) : rIsN false (.ref a) .non H Q := ⟨rfl, h⟩
theorem g_noNn (h : Q (.bl false) H) : rIsN true .non .non H Q := ⟨rfl, h⟩
theorem g_noNi (h : Q (.bl true) H) : rIsN true (.int i) .non H Q := ⟨rfl, h⟩
theorem g_noNs (h : Q (.bl true) H) : rIsN true (.str z) .non H Q := ⟨rfl, h⟩
theorem g_noNb (h : Q (.bl true) H) : rIsN true (.bl b) .non H Q := ⟨rfl, h⟩
theorem g_noNr (h : Q (.bl true) H) : rIsN true (.ref a) .non H Q := ⟨rfl, h⟩
end

/-! ### list.index, min and max of a list -/
def rIndexU (K : PySem.W.Frag) : V → List V → Hp → VK → Prop := rIndex K
theorem m_index {X : Cx} {K : PySem.W.Frag} (hK : X.K = K) : MtR X "list.index" (rIndexU K) := by
  subst hK
  exact mt_index
def rMin1 (K : PySem.W.Frag) : List V → Hp → VK → Prop := rMin K
def rMax1 (K : PySem.W.Frag) : List V → Hp → VK → Prop := rMax K
theorem c_min1 {X : Cx} {K : PySem.W.Frag} (hK : X.K = K) (hc : X.calm = true) : CallR X (.builtin "min") (rMin1 K) := by
  subst hK
  exact cr_min hc
theorem c_max1 {X : Cx} {K : PySem.W.Frag} (hK : X.K = K) (hc : X.calm = true) : CallR X (.builtin "max") (rMax1 K) := by
  subst hK
  exact cr_max hc
section
variable {K : PySem.W.Frag} {H : Hp} {Q : VK} {a : Addr} {ns : List Int} {ys : List V} {y z : V} {j : Nat}
theorem g_min1 (h : SqL K H a (ns.map V.int)) (h0 : 0 < ns.length) (q : ∀ m, m ∈ ns → (∀ y, y ∈ ns → m ≤ y) → Q (.int m) H) : rMin1 K [.ref a] H Q := ⟨a, ns, rfl, h, h0, q⟩
theorem g_max1 (h : SqL K H a (ns.map V.int)) (h0 : 0 < ns.length) (q : ∀ m, m ∈ ns → (∀ y, y ∈ ns → y ≤ m) → Q (.int m) H) : rMax1 K [.ref a] H Q := ⟨a, ns, rfl, h, h0, q⟩
theorem g_index (h : SqL K H a ys) (f1 : flatV y = true) (f2 : ys.all flatV = true) (hj : ys[j]? = some z) (e : eqV z y = true) (n : ∀ (m : Nat) (z' : V), m < j → ys[m]? = some z' → eqV z' y = false) (q : Q (.int (j : Nat)) H) : rIndexU K (.ref a) [y] H Q :=
  ⟨a, ys, y, j, z, rfl, rfl, h, f1, f2, hj, e, n, q⟩
end

/-! ### unpacking -/
section
variable {K : PySem.W.Frag} {σ : L2.St} {H : Hp} {R : L2.St → Hp → Prop} {t : TGs} {g : TG} {n : Nat} {a : Addr} {xs r : List V} {v : V}
theorem g_unp (h : SqT K H a xs) (hn : xs.length = n) (k : t xs σ H R) : gTup K n t (.ref a) σ H R := ⟨a, xs, rfl, h, hn, k⟩
theorem g_gc (k : g v σ H fun σ' H' => t r σ' H' R) : gCons g t (v :: r) σ H R := ⟨v, r, rfl, k⟩
theorem g_gn (k : R σ H) : gNil [] σ H R := ⟨rfl, k⟩
end
/-! e.f += x -/
def rFA (K : PySem.W.Frag) (tv : TE) (rd : V → V → Hp → VK → Prop) (f : Str) (σ : L2.St) : V → Hp → (Hp → Prop) → Prop := fun x H1 R => ∃ a C dx fs v, x = .ref a ∧ H1 a = some (.ins C dx fs) ∧ Cls K C ∧ NoAttr K C f ∧ fs.lookup f = some v ∧
  tv σ H1 fun y H2 => rd v y H2 fun z H3 => ∃ dx' fs', H3 a = some (.ins C dx' fs') ∧ fs'.length < 1000 ∧ R (upd H3 a (.ins C dx' (putF f z fs')))
section
variable {K : PySem.W.Frag} {σ : L2.St} {H : Hp} {D : Ends} {ta tv : TE} {a C dx : Addr} {fs fs' : List (Str × V)} {f : Str} {L : List (Addr × HO)} {R : Hp → Prop} {i j : Int} {rd : V → V → Hp → VK → Prop}
theorem g_fldaug (h : ta σ H fun x H1 => rFA K tv rd f σ x H1 (D.nx σ)) : sFldAug K ta tv rd f D σ H := h
theorem g_fa1 (M : Has H L) (n : Nat) (he : L[n]? = some (a, .ins C dx fs)) (cl : Cls K C) (na : NoAttr K C f) (l : fs.lookup f = some (.int i)) (hv : tv σ H fun y H2 => y = .int j ∧ H2 = H) (hl : fs.length < 1000) (e : putF f (.int (i + j)) fs = fs')
    (hm : ∀ {Q Q' : VK}, (∀ v H, Q v H → Q' v H) → tv σ H Q → tv σ H Q' := by intro Q Q' hh z; exact hh _ _ z) (k : Has (upd H a (.ins C dx fs')) (L.set n (a, .ins C dx fs')) → R (upd H a (.ins C dx fs'))) : rFA K tv rAdd f σ (.ref a) H R := by
  refine ⟨a, C, dx, fs, .int i, rfl, M.get n he, cl, na, l, hm (fun y H2 z => ?_) hv⟩
  obtain ⟨rfl, rfl⟩ := z
  exact ⟨i, j, rfl, rfl, dx, fs, M.get n he, hl, by rw [e]; exact k (M.set n he)⟩
end
theorem g_repT {H : Hp} {Q : VK} {a : Addr} {x : V} {k : Int} (h : H a = some (.tup [x])) (h0 : 1 ≤ k) (h1 : k ≤ 1000) (q : ∀ p H', Same H H' → H' p = some (.tup (List.replicate k.toNat x)) → Q (.ref p) H') : rMulU (.ref a) (.int k) H Q :=
  .inr ⟨a, k, [x], rfl, rfl, h, by simp, h0, h1, by simp, fun p H' sm hp => q p H' sm (by rw [rep_flat] at hp; exact hp)⟩
theorem g_isB {H : Hp} {Q : VK} {a b : Bool} (h : Q (.bl (decide (a = b))) H) : rIsB (.bl a) (.bl b) H Q := ⟨a, b, rfl, rfl, h⟩
theorem g_notB {H : Hp} {Q : VK} {a b : Bool} (h : Q (.bl (!decide (a = b))) H) : rNotB (.bl a) (.bl b) H Q := ⟨a, b, rfl, rfl, h⟩
/-! len(set(xs)) of ints, each once -/
def rLS (K : PySem.W.Frag) : V → Hp → VK → Prop := fun x H1 Q => ∃ (l : Addr) (ns : List Int), x = V.ref l ∧ SqL K H1 l (ns.map V.int) ∧ ns.length < 64 ∧ ns.Nodup ∧ Q (.int ns.length) H1
def tLS (K : PySem.W.Frag) (ta : TE) : TE := fun σ H Q => ta σ H fun x H1 => rLS K x H1 Q
theorem pe_lenSetU {X : Cx} {K : PySem.W.Frag} (hK : X.K = K) {a : Expr} {ta : TE} {p p2 q pos : Pos} (hc : X.calm = true) (hg : Gl X "len") (hm : X.mg "len" = none) (hg2 : Gl X "set") (hm2 : X.mg "set" = none) (ha : PE X a ta)
    (na : starEach [a] X.env = (false, eval a X.env) :: starEach [] X.env := by rfl) : PE X (.Call (.Name "len" p) [.Call (.Name "set" p2) [a] [] q] [] pos) (tLS K ta) := by
  subst hK
  exact pe_lenSetI hc hg hm hg2 hm2 ha na
section
variable {K : PySem.W.Frag} {σ : L2.St} {H : Hp} {ta : TE} {Q : VK} {l : Addr} {ns : List Int}
theorem g_lset (h : ta σ H fun x H1 => rLS K x H1 Q) : tLS K ta σ H Q := h
theorem g_ls (h : SqL K H l (ns.map V.int)) (hl : ns.length < 64) (hn : ns.Nodup) (q : Q (.int (ns.length : Nat)) H) : rLS K (.ref l) H Q := ⟨l, ns, rfl, h, hl, hn, q⟩
end
theorem _root_.G.Has.right {H : Hp} {X C : List (Addr × HO)} (M : Has H (X ++ C)) : Has H C := M.sub (List.sublist_append_right X C)
theorem _root_.G.Has.left {H : Hp} {X C : List (Addr × HO)} (M : Has H (X ++ C)) : Has H X := M.sub (List.sublist_append_left X C)
theorem _root_.G.Has.frameR {H H' : Hp} {X C C' : List (Addr × HO)} (M : Has H (X ++ C)) (k : Keep (C.map (·.1)) H H') (M' : Has H' C') (e : C'.map (·.1) = C.map (·.1)) : Has H' (X ++ C') := by
  have z := Has.frame (X := X) (L := C) (Y := []) (L' := C') (by rw [List.append_nil]; exact M) k M' e
  rw [List.append_nil] at z
  exact z
/-! texts that stand written: equal, not equal -/
section
variable {K : PySem.W.Frag} {H : Hp} {Q : VK} {z z' : Str}
theorem g_eqSS (h : Q (.bl true) H) : rEqU K false (.str z) (.str z) H Q := g_eqS (by rw [decide_eq_true (rfl : z = z)]; exact h)
theorem g_eqSx (e : ¬ z = z') (h : Q (.bl false) H) : rEqU K false (.str z) (.str z') H Q := g_eqS (by rw [decide_eq_false e]; exact h)
theorem g_neSS (h : Q (.bl false) H) : rEqU K true (.str z) (.str z) H Q := g_neS (by rw [decide_eq_true (rfl : z = z)]; exact h)
theorem g_neSx (e : ¬ z = z') (h : Q (.bl true) H) : rEqU K true (.str z) (.str z') H Q := g_neS (by rw [decide_eq_false e]; exact h)
end
theorem pg_tupU {X : Cx} {K : PySem.W.Frag} (hK : X.K = K) {es : List Expr} {k : Nat} {t : TGs} {n : Nat} {pos : Pos} (hc : X.calm = true) (h : PGs X es t)
    (hn : (assignEach es X.env).length = n := by rfl) (hst : (assignEach es X.env).findIdx? (·.1) = none := by rfl) : PG X (.Tuple es k pos) (gTup K n t) := by
  subst hK
  exact pg_tup hc h hn hst
/-! zip of two lists, of two tuples; a tuple's item by a written place -/
def rZipU (K : PySem.W.Frag) : List V → Hp → (It → Hp → Prop) → Prop := fun vs H1 R => ∃ a b xs ys, vs = [.ref a, .ref b] ∧ ((SqL K H1 a xs ∧ SqL K H1 b ys ∧ R (Itz K a b) H1) ∨ (SqT K H1 a xs ∧ SqT K H1 b ys ∧ R (RZ.ItzT K a b) H1))
theorem pi_zipU {X : Cx} {K : PySem.W.Frag} (hK : X.K = K) {e e2 : Expr} {ta : TA} {p pos tpos : Pos} {elts : List Expr} {kk : Nat} (hg : Gl X "zip") (hm : X.mg "zip" = none) (ha : PA X [e, e2] ta)
    (hs : starEach [e, e2] X.env = (false, eval e X.env) :: starEach [e2] X.env := by rfl) (hpl : (backTo pos (starEach [e2] X.env)).any (·.1) = false := by rfl) :
    PI X (.Tuple elts kk tpos) (.Call (.Name "zip" p) [e, e2] [] pos) (iR (rZipU K) ta) := by
  subst hK
  exact RZ.pi_zipA hg hm ha hs hpl
section
variable {K : PySem.W.Frag} {H : Hp} {Q : VK} {a b : Addr} {xs ys : List V} {i : Int} {v : V} {R : It → Hp → Prop} {td ty tx : TE} {σ : L2.St} {g : TG} {tb : TS} {D : Ends}
theorem g_ixA (h : H a = some (.tup xs)) (h0 : 0 ≤ i) (hv : xs[i.toNat]? = some v) (q : Q v H) : rIxU K (.ref a) (.int i) H Q := g_ixT (SqT.of h) (n := i.toNat) (Int.toNat_of_nonneg h0).symm hv q
theorem g_zipT (h1 : SqT K H a xs) (h2 : SqT K H b ys) (h : R (RZ.ItzT K a b) H) : rZipU K [.ref a, .ref b] H R := ⟨a, b, xs, ys, rfl, .inr ⟨h1, h2, h⟩⟩
theorem f_zipT (hl : xs.length = ys.length) (Pv : Nat → L2.St → Hp → Prop) (h0 : Pv 0 σ H) (hq : ∀ i σ H, Pv i σ H → SqT K H a xs ∧ SqT K H b ys)
    (hs : ∀ (i : Nat) (x y : V) (T : Addr) (σ : L2.St) (H : Hp), xs[i]? = some x → ys[i]? = some y → Pv i σ H → H T = none → g (.ref T) σ (upd H T (.tup [x, y])) fun σ2 H2 => tb { D with nx := Pv (i + 1), ct := Pv (i + 1), bk := D.nx } σ2 H2) (hd : ∀ σ H, Pv xs.length σ H → D.nx σ H) : ForW g tb D σ (RZ.ItzT K a b) H := RZ.for_zipT hl Pv h0 hq hs hd
theorem g_dget2 (h : td σ H fun x H1 => ∃ a, x = .ref a ∧ IsD H1 a ∧ ty σ H1 fun y H2 => tx σ H2 fun z H3 => ∃ o, DGet H3 a y o ∧ Q (o.getD z) H3) : tDGet2 td ty tx σ H Q := h
theorem g_dget1 (h : td σ H fun x H1 => ∃ a, x = .ref a ∧ IsD H1 a ∧ ty σ H1 fun y H2 => ∃ o, DGet H2 a y o ∧ Q (o.getD .non) H2) : tDGet1 td ty σ H Q := h
theorem g_isD {kvs : List (Key × V)} {A : Addr → Prop} (h : H a = some (.dK kvs)) (q : A a) : ∃ b, V.ref a = .ref b ∧ IsD H b ∧ A b := ⟨a, rfl, .inl ⟨kvs, .inl h⟩, q⟩
end
end G

set_option Elab.async false
set_option linter.all false
set_option maxRecDepth 100000
set_option maxHeartbeats 4000000
/-! Data that never changes: None, bools, ints, texts, tuples of such. -/
namespace G
open PySem PySem.Spec PyProof.Rows L2

mutual
/-- the value v is the data d, by the heap H -/
inductive Im (H : Hp) : V → PyData → Prop
  | non : Im H .non .none
  | bl (b : Bool) : Im H (.bl b) (.bool b)
  | int (i : Int) : Im H (.int i) (.int i)
  | str (x : Str) : Im H (.str x) (.str x)
  | tup {a : Addr} {xs : List V} {ds : List PyData} : H a = some (.tup xs) → Ims H xs ds → Im H (.ref a) (.tuple ds)
inductive Ims (H : Hp) : List V → List PyData → Prop
  | nil : Ims H [] []
  | cons {v : V} {vs : List V} {d : PyData} {ds : List PyData} : Im H v d → Ims H vs ds → Ims H (v :: vs) (d :: ds)
end
section
variable {K : PySem.W.Frag} {H H' : Hp} {v x y : V} {d e : PyData} {vs xs : List V} {ds es : List PyData} {a b p : Addr} {ms : List Addr} {i : Int} {z : Str}
mutual
theorem Im.mono : ∀ {v : V} {d : PyData}, Im H v d → (∀ a xs, H a = some (.tup xs) → H' a = some (.tup xs)) → Im H' v d
  | _, _, .non, _ => .non
  | _, _, .bl b, _ => .bl b
  | _, _, .int i, _ => .int i
  | _, _, .str x, _ => .str x
  | _, _, .tup h hs, k => .tup (k _ _ h) (Ims.mono hs k)
theorem Ims.mono : ∀ {vs : List V} {ds : List PyData}, Ims H vs ds → (∀ a xs, H a = some (.tup xs) → H' a = some (.tup xs)) → Ims H' vs ds
  | _, _, .nil, _ => .nil
  | _, _, .cons h t, k => .cons (Im.mono h k) (Ims.mono t k)
end
theorem Im.same (h : Im H v d) (k : Same H H') : Im H' v d := h.mono fun a xs e => k a _ e
theorem Ims.same (h : Ims H vs ds) (k : Same H H') : Ims H' vs ds := h.mono fun a xs e => k a _ e
/-- no tuple stands at ms -/
def NoTup (H : Hp) (ms : List Addr) : Prop := ∀ m ∈ ms, ∀ xs, H m ≠ some (.tup xs)
theorem NoTup.nil : NoTup H [] := fun _ h => nomatch h
theorem NoTup.one {o : HO} (h : H a = some o) (n : ∀ xs, o ≠ .tup xs) : NoTup H [a] := fun m hm xs e => by
  rw [List.mem_singleton.mp hm, h] at e
  exact n xs (Option.some.inj e)
theorem NoTup.new (h : H a = none) : NoTup H [a] := fun m hm xs e => by
  rw [List.mem_singleton.mp hm, h] at e
  cases e
theorem NoTup.cons {o : HO} (h : H a = some o) (n : ∀ xs, o ≠ .tup xs) (t : NoTup H ms) : NoTup H (a :: ms) := fun m hm xs e => by
  rcases List.mem_cons.mp hm with z | z
  · rw [z, h] at e
    exact n xs (Option.some.inj e)
  · exact t m z xs e
theorem Im.keep (h : Im H v d) (k : Keep ms H H') (n : NoTup H ms) : Im H' v d := h.mono fun a xs e => k a _ e fun z => n a z xs e
theorem Ims.keep (h : Ims H vs ds) (k : Keep ms H H') (n : NoTup H ms) : Ims H' vs ds := h.mono fun a xs e => k a _ e fun z => n a z xs e
mutual
theorem Im.dp : ∀ {v : V} {d : PyData}, Im H v d → Dp K H v d
  | _, _, .non => .non
  | _, _, .bl b => .bl b
  | _, _, .int i => .int i
  | _, _, .str x => .str x
  | _, _, .tup h hs => .tup (SqT.of h) (Ims.dp hs)
theorem Ims.dp : ∀ {vs : List V} {ds : List PyData}, Ims H vs ds → DpAll K H vs ds
  | _, _, .nil => .nil
  | _, _, .cons h t => .cons (Im.dp h) (Ims.dp t)
end
theorem Ims.length : ∀ {vs : List V} {ds : List PyData}, Ims H vs ds → vs.length = ds.length
  | _, _, .nil => rfl
  | _, _, .cons _ t => by rw [List.length_cons, List.length_cons, t.length]
theorem Ims.get : ∀ {vs : List V} {ds : List PyData} {n : Nat} {d : PyData}, Ims H vs ds → ds[n]? = some d → ∃ v, vs[n]? = some v ∧ Im H v d
  | _, _, n, _, .nil, e => by simp at e
  | _, _, 0, _, .cons h t, e => by
    simp only [List.getElem?_cons_zero, Option.some.injEq] at e
    subst e
    exact ⟨_, rfl, h⟩
  | _, _, n + 1, _, .cons h t, e => by
    simp only [List.getElem?_cons_succ] at e
    obtain ⟨v, h1, h2⟩ := t.get e
    exact ⟨v, by simpa using h1, h2⟩
theorem Ims.append : ∀ {vs xs : List V} {ds es : List PyData}, Ims H vs ds → Ims H xs es → Ims H (vs ++ xs) (ds ++ es)
  | _, _, _, _, .nil, s => s
  | _, _, _, _, .cons h t, s => .cons h (t.append s)
theorem Ims.take : ∀ {vs : List V} {ds : List PyData} (n : Nat), Ims H vs ds → Ims H (vs.take n) (ds.take n)
  | _, _, 0, _ => .nil
  | _, _, _ + 1, .nil => .nil
  | _, _, n + 1, .cons h t => .cons h (t.take n)
theorem Ims.drop : ∀ {vs : List V} {ds : List PyData} (n : Nat), Ims H vs ds → Ims H (vs.drop n) (ds.drop n)
  | _, _, 0, h => h
  | _, _, _ + 1, .nil => .nil
  | _, _, n + 1, .cons _ t => t.drop n
theorem Ims.one (h : Im H v d) : Ims H [v] [d] := .cons h .nil
theorem Im.int_inv (h : Im H v (.int i)) : v = .int i := by cases h; rfl
theorem Im.bl_inv {b : Bool} (h : Im H v (.bool b)) : v = .bl b := by cases h; rfl
theorem Im.str_inv (h : Im H v (.str z)) : v = .str z := by cases h; rfl
theorem Im.non_inv (h : Im H v .none) : v = .non := by cases h; rfl
theorem Im.tup_inv (h : Im H v (.tuple ds)) : ∃ a xs, v = .ref a ∧ H a = some (.tup xs) ∧ Ims H xs ds := by
  cases h with
  | tup h hs => exact ⟨_, _, rfl, h, hs⟩
/-- the items of ds[lo:hi] -/
def cutD (ds : List PyData) (lo hi : Option Int) : List PyData := (ds.drop (HT.sIx ds.length 0 lo)).take (HT.sIx ds.length ds.length hi - HT.sIx ds.length 0 lo)
theorem Ims.cut {lo hi : Option Int} (h : Ims H vs ds) : Ims H (cutV vs lo hi) (cutD ds lo hi) := by
  unfold cutV cutD
  rw [h.length]
  exact (h.drop _).take _
theorem cutD_to {n : Nat} : cutD ds none (some (n : Int)) = ds.take n := by
  unfold cutD
  rw [HT.sIx_nat, HT.sIx_none, Nat.sub_zero, List.drop_zero]
  by_cases h : n ≤ ds.length
  · rw [Nat.min_eq_left h]
  · rw [Nat.min_eq_right (by omega), List.take_of_length_le (Nat.le_refl _), List.take_of_length_le (by omega)]
theorem cutD_from {n : Nat} : cutD ds (some (n : Int)) none = ds.drop n := by
  unfold cutD
  rw [HT.sIx_nat, HT.sIx_none]
  by_cases h : n ≤ ds.length
  · rw [Nat.min_eq_left h, List.take_of_length_le (by simp)]
  · rw [Nat.min_eq_right (by omega), List.drop_of_length_le (by omega), List.drop_of_length_le (by omega)]
    simp
theorem cutD_length (ds : List PyData) (lo hi : Option Int) : (cutD ds lo hi).length ≤ ds.length := by
  unfold cutD
  rw [List.length_take, List.length_drop]
  omega
end
/-! ### the steps over data -/
section
variable {K : PySem.W.Frag} {H : Hp} {Q : VK} {v x y : V} {d e : PyData} {vs xs : List V} {ds es : List PyData} {a b p : Addr} {i : Int} {z : Str} {n : Nat} {lo hi : Option Int} {R : It → Hp → Prop} {QB : Bool → Hp → Prop}
/-- a new tuple of data -/
theorem m_new (h : Ims H xs ds) (hl : ds.length ≤ 100000) (k : ∀ p H', Same H H' → H p = none → Im H' (.ref p) (.tuple ds) → Q (.ref p) H') : rTupN xs H Q :=
  ⟨szle (by rw [h.length]; exact hl), fun p hp => k p _ (Same.new hp) hp (.tup upd_same (h.same (Same.new hp)))⟩
theorem m_ix (h : Im H x (.tuple ds)) (e : i = (n : Int)) (hd : ds[n]? = some d) (k : ∀ v, Im H v d → Q v H) : rIxU K x (.int i) H Q := by
  obtain ⟨a, xs, rfl, h1, h2⟩ := h.tup_inv
  obtain ⟨v, hv, hm⟩ := h2.get hd
  exact g_ixT (SqT.of h1) e hv (k v hm)
theorem m_len (h : Im H x (.tuple ds)) (q : Q (.int (ds.length : Nat)) H) : rLenU K [x] H Q := by
  obtain ⟨a, xs, rfl, h1, h2⟩ := h.tup_inv
  refine g_lenT (SqT.of h1) ?_
  rw [h2.length]
  exact q
theorem m_eq (hx : Im H x d) (hy : Im H y e) (s1 : SeqAt.shaped d = true) (s2 : SeqAt.shaped e = true) (h : Q (.bl (PyData.eqv d e)) H) : rEqU K false x y H Q := g_eqD hx.dp hy.dp s1 s2 h
theorem m_ne (hx : Im H x d) (hy : Im H y e) (s1 : SeqAt.shaped d = true) (s2 : SeqAt.shaped e = true) (h : Q (.bl (!PyData.eqv d e)) H) : rEqU K true x y H Q := g_neD hx.dp hy.dp s1 s2 h
theorem m_cat (hx : Im H x (.tuple ds)) (hy : Im H y (.tuple es)) (hl : ds.length + es.length ≤ 100000) (k : ∀ p H', Same H H' → Im H' (.ref p) (.tuple (ds ++ es)) → Q (.ref p) H') : rAddU K x y H Q := by
  obtain ⟨a, xs, rfl, h1, h2⟩ := hx.tup_inv
  obtain ⟨b, ys, rfl, h3, h4⟩ := hy.tup_inv
  refine .inr ⟨a, b, xs, ys, rfl, rfl, SqT.of h1, SqT.of h3, szle (by rw [h2.length, h4.length]; exact hl), fun e => ?_, fun _ e => ?_, fun _ _ p hp => ?_⟩
  · subst e
    have : ds = [] := by cases h2; rfl
    subst this
    exact k b H (Same.refl H) hy
  · subst e
    have : es = [] := by cases h4; rfl
    subst this
    rw [List.append_nil] at k
    exact k a H (Same.refl H) hx
  · exact k p _ (Same.new hp) (.tup upd_same ((h2.append h4).same (Same.new hp)))
theorem m_sl (hx : Im H x (.tuple ds)) (k : ∀ p H', Same H H' → Im H' (.ref p) (.tuple (cutD ds lo hi)) → Q (.ref p) H') : rSlU K x lo hi H Q := by
  obtain ⟨a, xs, rfl, h1, h2⟩ := hx.tup_inv
  refine .inr (.inl ⟨a, xs, rfl, SqT.of h1, fun e => ?_, fun _ p hp => ?_⟩)
  · have z : cutD ds lo hi = ds := by
      unfold cutD
      rw [← h2.length, e.1, e.2, List.drop_zero, Nat.sub_zero, h2.length, List.take_length]
    rw [z] at k
    exact k a H (Same.refl H) hx
  · exact k p _ (Same.new hp) (.tup upd_same (h2.cut.same (Same.new hp)))
theorem m_isiT {T' : String} {b : Bool} (hx : Im H x (.tuple ds)) (hk : kitB "tuple" T' = some b) (h : Q (.bl b) H) : rIsi K [x, .ty T'] H Q := by
  obtain ⟨a, xs, rfl, h1, _⟩ := hx.tup_inv
  exact isi_of (.base (.tup h1)) hk h
theorem m_seq (hx : Im H x (.tuple ds)) (k : ∀ a xs, x = .ref a → H a = some (.tup xs) → Ims H xs ds → R (Itt K a) H) : (∃ b ys, x = .ref b ∧ SqL K H b ys ∧ R (Itl K b) H) ∨ ∃ b ys, x = .ref b ∧ SqT K H b ys ∧ R (Itt K b) H := by
  obtain ⟨a, xs, e, h1, h2⟩ := hx.tup_inv
  exact .inr ⟨a, xs, e, SqT.of h1, k a xs e h1 h2⟩
end
/-! tuple(..) -/
def rTupU (K : PySem.W.Frag) : List V → Hp → VK → Prop := fun vs H Q => ∃ x, vs = [x] ∧ kTup K x H Q
theorem c_tuple {X : Cx} {K : PySem.W.Frag} (hK : X.K = K) : CallR X (.type "tuple") (rTupU K) := by
  subst hK
  rintro pins s σ H _ us Q I r ⟨x, rfl, h⟩
  obtain ⟨u, rfl, ru⟩ := vals1 r
  exact rl_tuple pins s σ H x u Q I ru h
section
variable {K : PySem.W.Frag} {H : Hp} {Q : VK} {x : V} {a : Addr} {xs : List V} {ds : List PyData}
theorem m_tupleT (hx : Im H x (.tuple ds)) (q : Q x H) : rTupU K [x] H Q := by
  obtain ⟨a, xs, rfl, h1, _⟩ := hx.tup_inv
  exact ⟨_, rfl, .inr ⟨a, xs, rfl, SqT.of h1, q⟩⟩
theorem m_tupleL (h : SqL K H a xs) (hm : Ims H xs ds) (k : ∀ p H', Same H H' → H p = none → Im H' (.ref p) (.tuple ds) → Q (.ref p) H') : rTupU K [.ref a] H Q :=
  ⟨_, rfl, .inl ⟨a, xs, rfl, h, fun p hp => k p _ (Same.new hp) hp (.tup upd_same (hm.same (Same.new hp)))⟩⟩
end
/-! ### what == says -/
theorem shaped_of {d : PyData} (h : d.canLay0 = true) (h2 : d.depth ≤ 64) : SeqAt.shaped d = true := by
  unfold SeqAt.shaped
  rw [h, decide_eq_true h2]
  rfl
theorem layAll_mem : ∀ {ds : List PyData}, (∀ d ∈ ds, d.canLay0 = true) → PyData.canLayAll0 ds = true
  | [], _ => rfl
  | d :: ds, h => by
    rw [PyData.canLayAll0, h d List.mem_cons_self, layAll_mem fun x hx => h x (List.mem_cons_of_mem _ hx)]
    rfl
theorem depthAll_mem {k : Nat} : ∀ {ds : List PyData}, (∀ d ∈ ds, d.depth ≤ k) → PyData.depthAll ds ≤ k
  | [], _ => by rw [PyData.depthAll]; exact Nat.zero_le _
  | d :: ds, h => by
    rw [PyData.depthAll]
    exact Nat.max_le.mpr ⟨h d List.mem_cons_self, depthAll_mem fun x hx => h x (List.mem_cons_of_mem _ hx)⟩
/-- data of depth at most k -/
def Lay (k : Nat) (d : PyData) : Prop := d.canLay0 = true ∧ d.depth ≤ k
theorem Lay.shaped {k : Nat} {d : PyData} (h : Lay k d) (hk : k ≤ 64) : SeqAt.shaped d = true := shaped_of h.1 (Nat.le_trans h.2 hk)
theorem Lay.tup {k : Nat} {ds : List PyData} (h : ∀ d ∈ ds, Lay k d) : Lay (k + 1) (.tuple ds) :=
  ⟨by rw [PyData.canLay0]; exact layAll_mem fun d hd => (h d hd).1, by rw [PyData.depth]; exact Nat.succ_le_succ (depthAll_mem fun d hd => (h d hd).2)⟩
theorem Lay.int {k : Nat} {i : Int} : Lay k (.int i) := ⟨by rw [PyData.canLay0], by rw [PyData.depth]; exact Nat.zero_le _⟩
theorem Lay.bl {k : Nat} {b : Bool} : Lay k (.bool b) := ⟨by rw [PyData.canLay0], by rw [PyData.depth]; exact Nat.zero_le _⟩
theorem Lay.non {k : Nat} : Lay k .none := ⟨by rw [PyData.canLay0], by rw [PyData.depth]; exact Nat.zero_le _⟩
theorem Lay.str {k : Nat} {z : Str} (h : PyData.strOk z = true) : Lay k (.str z) := ⟨by rw [PyData.canLay0]; exact h, by rw [PyData.depth]; exact Nat.zero_le _⟩
theorem Lay.mono {k k' : Nat} {d : PyData} (h : Lay k d) (hk : k ≤ k') : Lay k' d := ⟨h.1, Nat.le_trans h.2 hk⟩
theorem Lay.refl {k : Nat} {d : PyData} (h : Lay k d) : PyData.eqv d d = true := SeqAt.eqv_refl d h.1
theorem inV_strs {k : Str} {ks : List Str} : inV (.str k) (ks.map V.str) = ks.contains k := by
  unfold inV
  induction ks with
  | nil => rfl
  | cons z ks ih =>
    rw [List.map_cons, List.any_cons, ih, List.contains_cons]
    congr 1
    have e : eqV (.str z) (.str k) = (z == k) := rfl
    rw [e]
    by_cases h : z = k
    · subst h; rfl
    · rw [beq_eq_false_iff_ne.mpr h, beq_eq_false_iff_ne.mpr (Ne.symm h)]
theorem flat_strs {ks : List Str} : (ks.map V.str).all flatV = true := by
  induction ks with
  | nil => rfl
  | cons z ks ih => rw [List.map_cons, List.all_cons, ih]; rfl
/-- a text within a new tuple, a new list of texts -/
theorem g_inTs {K : PySem.W.Frag} {H : Hp} {Q : VK} {k : Str} {p : Addr} {ks : List Str} (h : H p = some (.tup (ks.map V.str)) ∨ H p = some (.lst (ks.map V.str))) (q : Q (.bl (ks.contains k)) H) : rInU K false (.str k) (.ref p) H Q := by
  refine .inl ⟨p, ks.map V.str, rfl, ?_, rfl, flat_strs, ?_⟩
  · rcases h with h | h
    · exact .inr (SqT.of h)
    · exact .inl (SqL.of h)
  · rw [inV_strs]
    exact q
theorem g_niTs {K : PySem.W.Frag} {H : Hp} {Q : VK} {k : Str} {p : Addr} {ks : List Str} (h : H p = some (.tup (ks.map V.str)) ∨ H p = some (.lst (ks.map V.str))) (q : Q (.bl (!ks.contains k)) H) : rInU K true (.str k) (.ref p) H Q := by
  refine .inl ⟨p, ks.map V.str, rfl, ?_, rfl, flat_strs, ?_⟩
  · rcases h with h | h
    · exact .inr (SqT.of h)
    · exact .inl (SqL.of h)
  · rw [inV_strs]
    exact q
theorem map_take_succ {α β : Type} {f : α → β} {ds : List α} {i : Nat} {d : α} (h : ds[i]? = some d) : (ds.take (i + 1)).map f = (ds.take i).map f ++ [f d] := by
  rw [List.take_add_one, h, List.map_append]
  rfl
theorem filter_take_succ {α : Type} {f : α → Bool} {ds : List α} {i : Nat} {d : α} (h : ds[i]? = some d) : (ds.take (i + 1)).filter f = (ds.take i).filter f ++ (if f d then [d] else []) := by
  rw [List.take_add_one, h, List.filter_append]
  congr 1
  show [d].filter f = _
  rw [List.filter_cons]
  rfl
/-! ### data of any kind, looked at -/
def isI : PyData → Bool
  | .int _ => true
  | .bool _ => true
  | _ => false
def isB : PyData → Bool
  | .bool _ => true
  | _ => false
def isS : PyData → Bool
  | .str _ => true
  | _ => false
def isT : PyData → Bool
  | .tuple _ => true
  | _ => false
def strD (ks : List Str) : PyData → Bool
  | .str z => ks.contains z
  | _ => false
def numD (lo hi : Int) : PyData → Bool
  | .int i => decide (lo ≤ i) && decide (i ≤ hi)
  | _ => false
def lenI (n : Int) : PyData → Bool
  | .tuple ds => decide ((ds.length : Int) = n)
  | _ => false
section
variable {K : PySem.W.Frag} {H : Hp} {Q : VK} {x y : V} {d e : PyData} {vs xs : List V} {ds es : List PyData} {a b p : Addr} {i lo hi : Int} {z : Str} {n : Nat} {ks : List Str}
theorem m_isiI (hx : Im H x d) (q : Q (.bl (isI d)) H) : rIsi K [x, .ty "int"] H Q := by
  cases hx with
  | non => exact g_isiNi q
  | bl b => exact g_isiBi q
  | int i => exact g_isiIi q
  | str z => exact g_isiSi q
  | tup h hs => exact m_isiT (.tup h hs) k_ti q
theorem m_isiB (hx : Im H x d) (q : Q (.bl (isB d)) H) : rIsi K [x, .ty "bool"] H Q := by
  cases hx with
  | non => exact g_isiNb q
  | bl b => exact g_isiBb q
  | int i => exact g_isiIb q
  | str z => exact g_isiSb q
  | tup h hs => exact m_isiT (.tup h hs) k_tb q
theorem m_isiS (hx : Im H x d) (q : Q (.bl (isS d)) H) : rIsi K [x, .ty "str"] H Q := by
  cases hx with
  | non => exact g_isiNs q
  | bl b => exact g_isiBs q
  | int i => exact g_isiIs q
  | str z => exact g_isiSs q
  | tup h hs => exact m_isiT (.tup h hs) k_ts q
theorem m_isiU (hx : Im H x d) (q : Q (.bl (isT d)) H) : rIsi K [x, .ty "tuple"] H Q := by
  cases hx with
  | non => exact g_isiNt q
  | bl b => exact g_isiBt q
  | int i => exact g_isiIt q
  | str z => exact g_isiSt q
  | tup h hs => exact m_isiT (.tup h hs) k_tt q
theorem isT_inv (h : isT d = true) : ∃ ds, d = .tuple ds := by
  cases d <;> first | (cases h; done) | exact ⟨_, rfl⟩
theorem isS_inv (h : isS d = true) : ∃ z, d = .str z := by
  cases d <;> first | (cases h; done) | exact ⟨_, rfl⟩
theorem isB_inv (h : isB d = true) : ∃ b, d = .bool b := by
  cases d <;> first | (cases h; done) | exact ⟨_, rfl⟩
theorem num_inv (h : numD lo hi d = true) : ∃ i, d = .int i ∧ lo ≤ i ∧ i ≤ hi := by
  cases d <;> first | (cases h; done) | skip
  rename_i i
  replace h : (decide (lo ≤ i) && decide (i ≤ hi)) = true := h
  rw [Bool.and_eq_true, decide_eq_true_eq, decide_eq_true_eq] at h
  exact ⟨i, rfl, h.1, h.2⟩
theorem num_of (h1 : lo ≤ i) (h2 : i ≤ hi) : numD lo hi (.int i) = true := by
  show (decide (lo ≤ i) && decide (i ≤ hi)) = true
  rw [decide_eq_true h1, decide_eq_true h2]
  rfl
theorem str_inv (h : strD ks d = true) : ∃ z, d = .str z ∧ z ∈ ks := by
  cases d <;> first | (cases h; done) | skip
  rename_i z
  exact ⟨z, rfl, List.contains_iff_mem.mp h⟩
theorem len_inv (h : lenI (n : Int) d = true) : ∃ ds, d = .tuple ds ∧ ds.length = n := by
  cases d <;> first | (cases h; done) | skip
  rename_i ds
  replace h : decide ((ds.length : Int) = n) = true := h
  rw [decide_eq_true_eq] at h
  exact ⟨ds, rfl, by omega⟩
theorem len1 (h : lenI 1 d = true) : ∃ a, d = .tuple [a] := by
  obtain ⟨ds, rfl, hl⟩ := len_inv (n := 1) h
  match ds, hl with
  | [a], _ => exact ⟨a, rfl⟩
theorem len2 (h : lenI 2 d = true) : ∃ a b, d = .tuple [a, b] := by
  obtain ⟨ds, rfl, hl⟩ := len_inv (n := 2) h
  match ds, hl with
  | [a, b], _ => exact ⟨a, b, rfl⟩
theorem len3 (h : lenI 3 d = true) : ∃ a b c, d = .tuple [a, b, c] := by
  obtain ⟨ds, rfl, hl⟩ := len_inv (n := 3) h
  match ds, hl with
  | [a, b, c], _ => exact ⟨a, b, c, rfl⟩
theorem len4 (h : lenI 4 d = true) : ∃ a b c e, d = .tuple [a, b, c, e] := by
  obtain ⟨ds, rfl, hl⟩ := len_inv (n := 4) h
  match ds, hl with
  | [a, b, c, e], _ => exact ⟨a, b, c, e, rfl⟩
theorem len7 (h : lenI 7 d = true) : ∃ a b c e f g k, d = .tuple [a, b, c, e, f, g, k] := by
  obtain ⟨ds, rfl, hl⟩ := len_inv (n := 7) h
  match ds, hl with
  | [a, b, c, e, f, g, k], _ => exact ⟨a, b, c, e, f, g, k, rfl⟩
theorem Ims.cons_inv (h : Ims H vs (d :: ds)) : ∃ v ws, vs = v :: ws ∧ Im H v d ∧ Ims H ws ds := by
  cases h with
  | cons h t => exact ⟨_, _, rfl, h, t⟩
theorem Ims.nil_inv (h : Ims H vs []) : vs = [] := by
  cases h
  rfl
theorem Ims.mem : ∀ {vs : List V} {ds : List PyData} {v : V}, Ims H vs ds → v ∈ vs → ∃ d ∈ ds, Im H v d
  | _, _, _, .nil, h => by cases h
  | _, _, _, .cons h t, hv => by
    rcases List.mem_cons.mp hv with rfl | hv
    · exact ⟨_, List.mem_cons_self, h⟩
    · obtain ⟨d, hd, hi⟩ := t.mem hv
      exact ⟨d, List.mem_cons_of_mem _ hd, hi⟩
theorem ims_strs : ∀ (ks : List Str), Ims H (ks.map V.str) (ks.map PyData.str)
  | [] => .nil
  | z :: ks => .cons (.str z) (ims_strs ks)
theorem any_strs : ∀ (ks : List Str), ((ks.map PyData.str).any fun z => PyData.eqv z d) = strD ks d
  | [] => by cases d <;> rfl
  | z :: ks => by
    rw [List.map_cons, List.any_cons, any_strs ks]
    cases d <;> first | (unfold PyData.eqv strD; rfl) | skip
    rename_i y
    show (PyData.eqv (.str z) (.str y) || ks.contains y) = (z :: ks).contains y
    unfold PyData.eqv
    rw [List.contains_cons, Bool.beq_comm]
theorem lay_strs (h : ∀ k ∈ ks, PyData.strOk k = true) : PyData.canLayAll0 (ks.map PyData.str) = true := layAll_mem fun d hd => by
  obtain ⟨k, hk, rfl⟩ := List.mem_map.mp hd
  rw [PyData.canLay0]
  exact h k hk
/-- data within a tuple of texts -/
theorem m_inTs (h : H p = some (.tup (ks.map V.str))) (hx : Im H x d) (sd : SeqAt.shaped d = true) (hs : ∀ k ∈ ks, PyData.strOk k = true) (q : Q (.bl (strD ks d)) H) : rInU K false x (.ref p) H Q := by
  refine .inr (.inr (.inr ⟨d, ks.map PyData.str, hx.dp, .inl (Im.dp (.tup h (ims_strs ks))), sd, lay_strs hs, ?_⟩))
  rw [any_strs]
  exact q
theorem m_niTs (h : H p = some (.tup (ks.map V.str))) (hx : Im H x d) (sd : SeqAt.shaped d = true) (hs : ∀ k ∈ ks, PyData.strOk k = true) (q : Q (.bl (!strD ks d)) H) : rInU K true x (.ref p) H Q := by
  refine .inr (.inr (.inr ⟨d, ks.map PyData.str, hx.dp, .inl (Im.dp (.tup h (ims_strs ks))), sd, lay_strs hs, ?_⟩))
  rw [any_strs]
  exact q
theorem strD_eqv : PyData.eqv d (.str z) = strD [z] d := by
  cases d <;> first | (unfold PyData.eqv strD; rfl) | skip
  rename_i y
  show PyData.eqv (.str y) (.str z) = [z].contains y
  unfold PyData.eqv
  rw [List.contains_cons]
  simp
theorem m_eqS (hx : Im H x d) (sd : SeqAt.shaped d = true) (hz : PyData.strOk z = true) (q : Q (.bl (strD [z] d)) H) : rEqU K false x (.str z) H Q :=
  m_eq hx (.str z) sd ((Lay.str (k := 0) hz).shaped (by decide)) (by rw [strD_eqv]; exact q)
theorem m_neS (hx : Im H x d) (sd : SeqAt.shaped d = true) (hz : PyData.strOk z = true) (q : Q (.bl (!strD [z] d)) H) : rEqU K true x (.str z) H Q :=
  m_ne hx (.str z) sd ((Lay.str (k := 0) hz).shaped (by decide)) (by rw [strD_eqv]; exact q)
theorem im1 {d1 : PyData} (h : Im H x (.tuple [d1])) : ∃ a x1, x = .ref a ∧ H a = some (.tup [x1]) ∧ Im H x1 d1 := by
  obtain ⟨a, xs, rfl, h1, h2⟩ := h.tup_inv
  obtain ⟨x1, r, rfl, i1, h2⟩ := h2.cons_inv
  rw [h2.nil_inv] at h1
  exact ⟨a, x1, rfl, h1, i1⟩
theorem im2 {d1 d2 : PyData} (h : Im H x (.tuple [d1, d2])) : ∃ a x1 x2, x = .ref a ∧ H a = some (.tup [x1, x2]) ∧ Im H x1 d1 ∧ Im H x2 d2 := by
  obtain ⟨a, xs, rfl, h1, h2⟩ := h.tup_inv
  obtain ⟨x1, r, rfl, i1, h2⟩ := h2.cons_inv
  obtain ⟨x2, r, rfl, i2, h2⟩ := h2.cons_inv
  rw [h2.nil_inv] at h1
  exact ⟨a, x1, x2, rfl, h1, i1, i2⟩
theorem im3 {d1 d2 d3 : PyData} (h : Im H x (.tuple [d1, d2, d3])) : ∃ a x1 x2 x3, x = .ref a ∧ H a = some (.tup [x1, x2, x3]) ∧ Im H x1 d1 ∧ Im H x2 d2 ∧ Im H x3 d3 := by
  obtain ⟨a, xs, rfl, h1, h2⟩ := h.tup_inv
  obtain ⟨x1, r, rfl, i1, h2⟩ := h2.cons_inv
  obtain ⟨x2, r, rfl, i2, h2⟩ := h2.cons_inv
  obtain ⟨x3, r, rfl, i3, h2⟩ := h2.cons_inv
  rw [h2.nil_inv] at h1
  exact ⟨a, x1, x2, x3, rfl, h1, i1, i2, i3⟩
theorem im4 {d1 d2 d3 d4 : PyData} (h : Im H x (.tuple [d1, d2, d3, d4])) : ∃ a x1 x2 x3 x4, x = .ref a ∧ H a = some (.tup [x1, x2, x3, x4]) ∧ Im H x1 d1 ∧ Im H x2 d2 ∧ Im H x3 d3 ∧ Im H x4 d4 := by
  obtain ⟨a, xs, rfl, h1, h2⟩ := h.tup_inv
  obtain ⟨x1, r, rfl, i1, h2⟩ := h2.cons_inv
  obtain ⟨x2, r, rfl, i2, h2⟩ := h2.cons_inv
  obtain ⟨x3, r, rfl, i3, h2⟩ := h2.cons_inv
  obtain ⟨x4, r, rfl, i4, h2⟩ := h2.cons_inv
  rw [h2.nil_inv] at h1
  exact ⟨a, x1, x2, x3, x4, rfl, h1, i1, i2, i3, i4⟩
end
theorem layAll_inv : ∀ {ds : List PyData}, PyData.canLayAll0 ds = true → ∀ d ∈ ds, d.canLay0 = true
  | [], _, d, hd => by cases hd
  | e :: ds, h, d, hd => by
    rw [PyData.canLayAll0, Bool.and_eq_true] at h
    rcases List.mem_cons.mp hd with rfl | hd
    · exact h.1
    · exact layAll_inv h.2 d hd
theorem depthAll_inv {k : Nat} : ∀ {ds : List PyData}, PyData.depthAll ds ≤ k → ∀ d ∈ ds, d.depth ≤ k
  | [], _, d, hd => by cases hd
  | e :: ds, h, d, hd => by
    rw [PyData.depthAll] at h
    rcases List.mem_cons.mp hd with rfl | hd
    · omega
    · exact depthAll_inv (by omega) d hd
theorem Lay.items {k : Nat} {ds : List PyData} (h : Lay k (.tuple ds)) : ∀ d ∈ ds, Lay k d := fun d hd => by
  obtain ⟨h1, h2⟩ := h
  rw [PyData.canLay0] at h1
  rw [PyData.depth] at h2
  exact ⟨layAll_inv h1 d hd, depthAll_inv (by omega) d hd⟩
/-! how wide, how deep -/
def Wd (n : Nat) : Nat → PyData → Prop
  | 0, .none => True
  | 0, .bool _ => True
  | 0, .int _ => True
  | 0, .str z => PyData.strOk z = true
  | k + 1, .tuple ds => ds.length ≤ n ∧ ∀ x ∈ ds, Wd n k x
  | _ + 1, .none => True
  | _ + 1, .bool _ => True
  | _ + 1, .int _ => True
  | _ + 1, .str z => PyData.strOk z = true
  | _, _ => False
theorem Wd.lay {n : Nat} : ∀ {k : Nat} {d : PyData}, Wd n k d → Lay k d
  | 0, .none, _ => Lay.non
  | 0, .bool _, _ => Lay.bl
  | 0, .int _, _ => Lay.int
  | 0, .str _, h => Lay.str h
  | 0, .tuple _, h => h.elim
  | 0, .list _, h => h.elim
  | 0, .dict _, h => h.elim
  | _ + 1, .none, _ => Lay.non
  | _ + 1, .bool _, _ => Lay.bl
  | _ + 1, .int _, _ => Lay.int
  | _ + 1, .str _, h => Lay.str h
  | k + 1, .tuple ds, h => Lay.tup fun d hd => (h.2 d hd).lay
  | _ + 1, .list _, h => h.elim
  | _ + 1, .dict _, h => h.elim
theorem Wd.mono {n m : Nat} (hn : n ≤ m) : ∀ {k l : Nat} {d : PyData}, k ≤ l → Wd n k d → Wd m l d
  | 0, 0, .none, _, _ => trivial
  | 0, 0, .bool _, _, _ => trivial
  | 0, 0, .int _, _, _ => trivial
  | 0, 0, .str _, _, h => h
  | 0, l + 1, .none, _, _ => trivial
  | 0, l + 1, .bool _, _, _ => trivial
  | 0, l + 1, .int _, _, _ => trivial
  | 0, l + 1, .str _, _, h => h
  | 0, _, .tuple _, _, h => h.elim
  | 0, _, .list _, _, h => h.elim
  | 0, _, .dict _, _, h => h.elim
  | k + 1, 0, _, e, _ => absurd e (by omega)
  | k + 1, l + 1, .none, _, _ => trivial
  | k + 1, l + 1, .bool _, _, _ => trivial
  | k + 1, l + 1, .int _, _, _ => trivial
  | k + 1, l + 1, .str _, _, h => h
  | k + 1, l + 1, .tuple ds, e, h => ⟨Nat.le_trans h.1 hn, fun x hx => Wd.mono hn (by omega) (h.2 x hx)⟩
  | k + 1, _, .list _, _, h => h.elim
  | k + 1, _, .dict _, _, h => h.elim
theorem cutD_mem {ds : List PyData} {lo hi : Option Int} {d : PyData} (h : d ∈ cutD ds lo hi) : d ∈ ds := by
  unfold cutD at h
  exact List.mem_of_mem_drop (List.mem_of_mem_take h)
theorem Wd.cut {n k : Nat} {ds : List PyData} {lo hi : Option Int} (h : Wd n (k + 1) (.tuple ds)) : Wd n (k + 1) (.tuple (cutD ds lo hi)) := ⟨Nat.le_trans (cutD_length ds lo hi) h.1, fun x hx => h.2 x (cutD_mem hx)⟩
theorem Wd.cat {n m k : Nat} {ds es : List PyData} (h : Wd n (k + 1) (.tuple ds)) (g : Wd m (k + 1) (.tuple es)) : Wd (n + m) (k + 1) (.tuple (ds ++ es)) :=
  ⟨by rw [List.length_append]; exact Nat.add_le_add h.1 g.1, fun x hx => by
    rcases List.mem_append.mp hx with hx | hx
    · exact (h.2 x hx).mono (by omega) (Nat.le_refl _)
    · exact (g.2 x hx).mono (by omega) (Nat.le_refl _)⟩
/-! lists of ints as data -/
theorem lst_shaped {ns : List Int} : SeqAt.shaped (.list (ns.map .int)) = true := shaped_of (by
    rw [PyData.canLay0]
    exact layAll_mem fun d hd => by
      obtain ⟨x, _, rfl⟩ := List.mem_map.mp hd
      rw [PyData.canLay0]) (by
    rw [PyData.depth]
    have : PyData.depthAll (ns.map .int) ≤ 0 := depthAll_mem fun d hd => by
      obtain ⟨x, _, rfl⟩ := List.mem_map.mp hd
      rw [PyData.depth]
      exact Nat.le_refl _
    omega)
theorem lst_all {K : PySem.W.Frag} {H : Hp} : ∀ ms : List Int, DpAll K H (ms.map V.int) (ms.map .int)
  | [] => .nil
  | m :: ms => .cons (.int m) (lst_all ms)
theorem lst_dp {K : PySem.W.Frag} {H : Hp} {a : Addr} {ns : List Int} (h : H a = some (.lst (ns.map V.int))) : Dp K H (.ref a) (.list (ns.map .int)) := .lst (SqL.of h) (lst_all ns)
theorem eqv_lnil {ds : List PyData} : PyData.eqv (.list ds) (.list []) = ds.isEmpty := by
  unfold PyData.eqv
  cases ds with
  | nil => unfold PyData.eqvAll; rfl
  | cons d ds => unfold PyData.eqvAll; rfl
theorem wd_s {z : Str} {n k : Nat} (h : PyData.strOk z = true) : Wd n k (.str z) := by
  cases k <;> exact h
theorem wd_i {i : Int} {n k : Nat} : Wd n k (.int i) := by
  cases k <;> trivial
theorem wd_b {b : Bool} {n k : Nat} : Wd n k (.bool b) := by
  cases k <;> trivial
theorem wd_o {n k : Nat} : Wd n k .none := by
  cases k <;> trivial
theorem wd_t {n k : Nat} {ds : List PyData} (h : ds.length ≤ n) (g : ∀ x ∈ ds, Wd n k x) : Wd n (k + 1) (.tuple ds) := ⟨h, g⟩
theorem g_dK {H : Hp} {a : Addr} {kvs : List (Key × V)} {z : Str} {P : Option V → Prop} (h : H a = some (.dK kvs)) (q : P (valV kvs (.inr z))) : ∃ o, DGet H a (.str z) o ∧ P o := ⟨_, DGet.k (k := .inr z) h, q⟩
theorem dp_k {H : Hp} {a : Addr} {kvs : List (Key × V)} {z : Str} {v : V} (h : H a = some (.dK kvs)) (hl : kvs.length < sizeLine) : DPut H a (.str z) v (upd H a (.dK (putK kvs (.inr z) v))) := DPut.k (k := .inr z) h hl
/-- (a list) + (a list) -/
theorem g_catL {K : PySem.W.Frag} {H : Hp} {Q : VK} {a b : Addr} {xs ys : List V} (h1 : H a = some (.lst xs)) (h2 : H b = some (.lst ys)) (hl : xs.length + ys.length ≤ 100000) (k : ∀ p, H p = none → Q (.ref p) (upd H p (.lst (xs ++ ys)))) : rAddU K (.ref a) (.ref b) H Q :=
  .inl ⟨a, b, xs, ys, rfl, rfl, h1, h2, szle hl, k⟩
end G

set_option Elab.async false
set_option linter.all false
set_option maxRecDepth 100000
set_option maxHeartbeats 4000000
/-! Exceptions of the program's own classes: made by an __init__ that calls its base's, raised, caught, their fields read. -/
namespace G
open PySem PySem.Spec PyProof.Rows L2

/-! ### a head that tells of the interpreter's statics too -/
def asY (g : Addr → Option Obj) (n : Nat) : List Addr := He.asD g n ++ [cStatics]
def obsY (n : Nat) (fa : List He.Fa) (fn : List He.DefD) (ts : List He.Tab) (ex : PySem.W.Frag → Bool) (g : Addr → Option Obj) : He.AlX := (He.obsT fa fn ts (He.frG g (asY g n)), ex (He.frG g (asY g n)))
structure SaysY (fa : List He.Fa) (fn : List He.DefD) (ts : List He.Tab) (ex : PySem.W.Frag → Bool) (w : World) (K : PySem.W.Frag) : Prop where
  t : He.SaysT fa fn ts w K
  more : ex K = true
def hookY (n : Nat) (fa : List He.Fa) (fn : List He.DefD) (ts : List He.Tab) (ex : PySem.W.Frag → Bool) : PySem.W.Hook where
  α := He.AlX
  obs := fun s => obsY n fa fn ts ex s.heap.get?
  val := fun w => He.valX fn ts w
  says := fun w h => ∃ K : PySem.W.Frag, K.In h ∧ SaysY fa fn ts ex w K
  of := fun _ _ e => ⟨_, He.frG_in, ⟨congrArg (fun z : He.AlX => z.1) e, congrArg (fun z : He.AlX => z.2) e⟩⟩
  keeps := fun _ _ _ ⟨K, hK, c⟩ k => ⟨K, PySem.W.Frag.In.keeps hK k, c⟩
theorem obsY_eq {n : Nat} {fa : List He.Fa} {fn : List He.DefD} {ts : List He.Tab} {ex : PySem.W.Frag → Bool} {g : Addr → Option Obj} {s : Shared} (h : ∀ a, g a = s.heap.get? a) : obsY n fa fn ts ex g = (hookY n fa fn ts ex).obs s := by
  have e : g = s.heap.get? := funext h
  rw [e] <;> rfl

/-! ### what the written part says of such a class: its name, the class whose __init__ it has, the class whose __init__ that one calls, its fields -/
structure XcD where
  c : Str
  i : Str
  b : Str
  fs : List Str
def oexB (K : PySem.W.Frag) (C : Addr) : Bool := match K.lookup C with
  | some ⟨.type t, _, .cls cd, sl⟩ => (match cd.mro, sl.toList with
    | .ref C' :: bm, [_, _, _, _, some (.builtin n), _] => decide (t = "type") && (decide (C' = C) && (decide (n = "ValueError.__new__") && (!cd.hasDel && (cd.hasDict && PySem.HandSPX.refsVE bm))))
    | _, _ => false)
  | _ => false
def initB (K : PySem.W.Frag) (B : Addr) : Bool := match PySem.W.findCls K (.ref B) (.type "type") "__init__" with
  | some (.val (.builtin n)) => decide (n = "ValueError.__init__")
  | _ => false
def bsB (K : PySem.W.Frag) (B : Addr) : Bool := He.eqO (PySem.W.specialIn K (.ref B) "__getattribute__") (some (some (.builtin "type.__getattribute__"))) && (decide (PySem.W.typeIn K (.ref B) = some (.type "type")) && (PySem.W.readsIn K B (.type "type") && initB K B))
def excB (K : PySem.W.Frag) (x : XcD) : Bool :=
  oexB K (He.ga K x.c) && (He.eqO (PySem.W.findIn K (.ref (He.ga K x.c)) "__setattr__") (some (some (.builtin "object.__setattr__"))) && (decide (PySem.W.subIn K (.ref (He.ga K x.c)) (.type "BaseException") = some true) && (decide (PySem.W.typeIn K (.ref (He.ga K x.c)) = some (.type "type")) && (PySem.W.keepIn K (.ref (He.ga K x.c)) &&
  (He.eqO (PySem.W.findIn K (.ref (He.ga K x.c)) "__init__") (some (some (.ref (He.ma K (He.ga K x.i) "__init__")))) && (decide (PySem.W.typeIn K (.ref (He.ma K (He.ga K x.i) "__init__")) = some (.type "function")) && (xfB K (He.ga K x.c) && ((x.fs.all fun f => He.eqO (PySem.W.findIn K (.ref (He.ga K x.c)) f) (some none)) && bsB K (He.ga K x.b)))))))))
structure XcOk (K : PySem.W.Frag) (x : XcD) : Prop where
  oex : OexC K (He.ga K x.c)
  ini : PySem.W.findIn K (.ref (He.ga K x.c)) "__init__" = some (some (.ref (He.ma K (He.ga K x.i) "__init__")))
  fun_ : PySem.W.typeIn K (.ref (He.ma K (He.ga K x.i) "__init__")) = some (.type "function")
  xf : XfC K (He.ga K x.c)
  no : ∀ f ∈ x.fs, PySem.W.findIn K (.ref (He.ga K x.c)) f = some none
  b1 : PySem.W.specialIn K (.ref (He.ga K x.b)) "__getattribute__" = some (some (.builtin "type.__getattribute__"))
  b2 : PySem.W.typeIn K (.ref (He.ga K x.b)) = some (.type "type")
  b3 : PySem.W.readsIn K (He.ga K x.b) (.type "type") = true
  b4 : PySem.W.findCls K (.ref (He.ga K x.b)) (.type "type") "__init__" = some (.val (.builtin "ValueError.__init__"))
theorem oexB_ok {K : PySem.W.Frag} {C : Addr} (h : oexB K C = true) : ∃ nm q N bs bm sn sub ab col dd k0 k1 k2 k3 k5, K.lookup C = some (excClassObj nm q C N bs bm true sn sub ab col dd k0 k1 k2 k3 k5 "ValueError.__new__") ∧ PySem.HandSPX.refsVE bm = true := by
  unfold oexB at h
  split at h
  · rename_i t dd cd sl ho
    split at h
    · rename_i C' bm k0 k1 k2 k3 n k5 hm hs
      simp only [Bool.and_eq_true, decide_eq_true_eq, Bool.not_eq_true'] at h
      obtain ⟨rfl, rfl, rfl, hdel, hdic, ht⟩ := h
      obtain ⟨nm, bs, mro, ns, qn, hd, sn, sub, ab, col, del⟩ := cd
      dsimp only at hm hdel hdic
      subst hm hdel hdic
      have hsl : sl = #[k0, k1, k2, k3, some (.builtin "ValueError.__new__"), k5] := by
        obtain ⟨l⟩ := sl
        simp only at hs
        rw [hs]
      subst hsl
      exact ⟨nm, qn, ns, bs, bm, sn, sub, ab, col, dd, k0, k1, k2, k3, k5, ho, ht⟩
    · cases h
  · cases h
theorem initB_ok {K : PySem.W.Frag} {B : Addr} (h : initB K B = true) : PySem.W.findCls K (.ref B) (.type "type") "__init__" = some (.val (.builtin "ValueError.__init__")) := by
  unfold initB at h
  split at h
  · rename_i n e
    rw [e, of_decide_eq_true h]
  · cases h
theorem excB_ok {K : PySem.W.Frag} {x : XcD} (h : excB K x = true) : XcOk K x := by
  obtain ⟨h1, h⟩ := He.ba h
  obtain ⟨h2, h⟩ := He.ba h
  obtain ⟨h3, h⟩ := He.ba h
  obtain ⟨h4, h⟩ := He.ba h
  obtain ⟨h5, h⟩ := He.ba h
  obtain ⟨h6, h⟩ := He.ba h
  obtain ⟨h7, h⟩ := He.ba h
  obtain ⟨h8, h⟩ := He.ba h
  obtain ⟨h9, h⟩ := He.ba h
  obtain ⟨g1, h⟩ := He.ba h
  obtain ⟨g2, h⟩ := He.ba h
  obtain ⟨g3, g4⟩ := He.ba h
  exact ⟨⟨oexB_ok h1, He.eqO_ok h2, of_decide_eq_true h3, of_decide_eq_true h4, h5⟩, He.eqO_ok h6, of_decide_eq_true h7, xfB_ok h8, fun f hf => He.eqO_ok (List.all_eq_true.mp h9 f hf), He.eqO_ok g1, of_decide_eq_true g2, g3, initB_ok g4⟩

/-! ### B.__init__(self, ..) of an own base -/
theorem pe_oveinit {X : Cx} {K : PySem.W.Frag} (hK : X.K = K) {x : XcD} {n : Str} {e : Expr} {es : List Expr} {ta : TA} {p1 p2 pos : Pos} {pl : Sem Bool} (T : XcOk K x) (hn : n = x.b) (hg : Gl X n) (hm : X.mg n = some (.ref (He.ga K x.b))) (ha : PA X (e :: es) ta)
    (hc : eval (.Call (.Attribute (.Name n p1) "__init__" p2) (e :: es) [] pos) X.env = (do
      let ov ← eval (.Name n p1) X.env
      standAt p2.atName
      let (f, first) ← holding [ov] (getMethod ov "__init__" pl)
      callWith pos f first (backTo pos (starEach (e :: es) X.env)) (backToKw pos (keywordEach [] X.env))) := by rfl)
    (he : starEach (e :: es) X.env = (false, eval e X.env) :: starEach es X.env := by rfl) (hpl : (backTo pos (starEach es X.env)).any (·.1) = false := by rfl) (hd : (n == ("__debug__" : Str)) = false := by decide) :
    PE X (.Call (.Attribute (.Name n p1) "__init__" p2) (e :: es) [] pos) (tVeI X.K ta) := by
  subst hK
  refine ⟨fun pins s σ H Q I h => ?_⟩
  refine PySem.W.methodCall_KW (ld_glob I hg hm ?_ hd) hc
  obtain ⟨m, fr⟩ := I.fr
  refine PySem.W.method_of_cls fr I.ok.mod.kin T.b1 (PySem.W.cls_val fr I.ok.mod.kin T.b2 T.b3 T.b4 (by decide +kernel) ?_)
  show wpAny _ _ (callWith pos (Value.builtin "ValueError.__init__") [] (backTo pos (starEach (e :: es) X.env)) []) _ _ _
  refine PyProof.Rows.callWith_method1 (thn (ha.run pos pins _ σ H _ (I.tok _) h) fun us s1 ⟨vs, H1, I1, r1, a, C, ws, ev, hl, T, ea, q⟩ => ?_) he hpl
  subst ev
  cases r1 with
  | @cons _ u0 _ ur ra rw' =>
    obtain rfl : u0 = Value.ref a := ra
    have hlen : ur.length ≤ sizeLine := by
      rw [← Paired.length rw', sizeLine_eq]
      omega
    exact oinit_ok T I1 ea hlen fun s' J => ⟨.non, H1, J, rfl, q⟩
theorem ps_ostU {X : Cx} {K : PySem.W.Frag} (hK : X.K = K) {o e : Expr} {to te : TE} {f : Str} {p' pos : Pos} (ho : PE X o to) (he : PE X e te) (hs : swapsWith e (some (.Attribute o f p')) pos.line X.env = pure false := by rfl) : PS X (.Assign [.Attribute o f p'] e pos) (tOst K f to te) := by
  subst hK
  exact ps_ost ho he hs

theorem g_vei {K : PySem.W.Frag} {ta : TA} {σ : L2.St} {H : Hp} {Q : VK} (h : ta σ H fun vs H1 => ∃ (a C : Addr) (ws : List V), vs = .ref a :: ws ∧ ws.length ≤ 1000 ∧ OexC K C ∧ H1 a = some (exo a C none) ∧ Q .non H1) : tVeI K ta σ H Q := h
theorem g_ost {K : PySem.W.Frag} {to te : TE} {f : Str} {D : Ends} {σ : L2.St} {H : Hp} (h : te σ H fun y H1 => to σ H1 fun x H2 => ∃ a C : Addr, x = .ref a ∧ OexC K C ∧ PySem.W.findIn K (.ref C) f = some none ∧
  ((H2 a = some (exo a C none) ∧ ∀ dx, H2 dx = none → dx ≠ a → D.nx σ (upd (upd H2 dx (exd dx [(f, y)])) a (exo a C (some dx)))) ∨
    ∃ (dx : Addr) (fs : List (Str × V)), H2 a = some (exo a C (some dx)) ∧ H2 dx = some (exd dx fs) ∧ fs.length ≤ 900 ∧ D.nx σ (upd H2 dx (exd dx ((f, y) :: fs))))) : tOst K f to te D σ H := h
/-! ### defs that may raise -/
section
variable {fa : List He.Fa} {fn : List He.DefD} {P : Program} {w : World} {K : PySem.W.Frag} {mg : Str → Option Value} {base : Heap} {ex : Prop}
/-- a def that may raise -/
theorem mk_dnX (T : Txt fa fn K mg ex) (i j : Nat) {d : He.DefD} {N ps : List Str} {k : Nat} {sp : Sp} (hd : fn[i]? = some d) (hg : fa[j]? = some (.glo d.at_.1)) (hm : d.at_.2 = none) (h1 : d.dfl = []) (h2 : d.kwd = [])
    (S : FnScope N ps d.scope) (len : ∀ vs H Q E, sp vs H Q E → vs.length = ps.length)
    (hb : ∀ (kV doc pm : Value) (an : Option Addr) (cdv ct : Value) (us : List Value), us.length = ps.length → bindArgs (PySem.W.fnOf d.name d.qual d.params d.body d.scope .none kV doc pm an cdv ct) ⟨us, []⟩ = pure (ps.zip us))
    (hbody : ∀ (cdv : Value) (A : Around) (outer : List Env) (s : Shared) (H : Hp) (vs : List V) (Q : VK) (E : XK), Room k (A.deeper (envOfC d.qual d.scope s.heap.objs.size (He.ga K d.at_.1) cdv)) → sp vs H Q E →
      ∃ t, PSs (cxOf (L2.CX P w) P w K mg base N d.qual d.scope (He.ga K d.at_.1) cdv A outer s H E) d.body t ∧ t { nx := fun _ H' => Q .non H', rt := Q } (start N vs) H) : Dn P w K mg base (L2.CX P w) (k + 1) d.at_.1 ps sp := by
  obtain ⟨⟨fd, F⟩, g⟩ := T.def_ i j hd hg hm h1 h2
  refine ⟨_, fd, F.ok S len fun cdv A outer s H vs Q E hr h => hbody cdv A outer s H vs Q E hr h, g, F.kp, F.bindsN hb, by
    obtain ⟨oc, od, dV, kV, doc, pm, an, cdv, ct, osl, e, lk, _⟩ := F.ex
    exact ⟨_, _, _, lk⟩⟩
theorem mk_mtX (T : Txt fa fn K mg ex) (i : Nat) {d : He.DefD} {c m : Str} {N ps : List Str} {k : Nat} {sp : Sp} (hd : fn[i]? = some d) (hm : d.at_ = (c, some m)) (h1 : d.dfl = []) (h2 : d.kwd = [])
    (S : FnScope N ps d.scope) (len : ∀ vs H Q E, sp vs H Q E → vs.length = ps.length)
    (hb : ∀ (kV doc pm : Value) (an : Option Addr) (cdv ct : Value) (us : List Value), us.length = ps.length → bindArgs (PySem.W.fnOf d.name d.qual d.params d.body d.scope .none kV doc pm an cdv ct) ⟨us, []⟩ = pure (ps.zip us))
    (hbody : ∀ (cdv : Value) (A : Around) (outer : List Env) (s : Shared) (H : Hp) (vs : List V) (Q : VK) (E : XK), Room k (A.deeper (envOfC d.qual d.scope s.heap.objs.size (He.ma K (He.ga K c) m) cdv)) → sp vs H Q E →
      ∃ t, PSs (cxOf (L2.CX P w) P w K mg base N d.qual d.scope (He.ma K (He.ga K c) m) cdv A outer s H E) d.body t ∧ t { nx := fun _ H' => Q .non H', rt := Q } (start N vs) H) : Mt P w K mg base (L2.CX P w) (k + 1) c m ps sp := by
  obtain ⟨fd, F⟩ := T.defm i hd hm h1 h2
  exact ⟨_, fd, F.ok S len fun cdv A outer s H vs Q E hr h => hbody cdv A outer s H vs Q E hr h, rfl, F.bindsN hb⟩
end
section
variable {X : Cx} {k : Nat} {ps : List Str} {sp : Sp} {W : WX} {x : Str} {p pos : Pos} {e : Expr} {es : List Expr} {t : TA}
/-- a call that may raise, of a def of the module -/
def tCallW (sp : Sp) (W : WX) (t : TA) : TE := fun σ H Q => t σ H fun vs H1 => sp vs H1 Q fun cls d H' => W cls d σ H'
theorem pe_callDX {K : PySem.W.Frag} (hK : X.K = K) (D : Dn X.prog X.w K X.mg X.base (L2.CX X.prog X.w) k x ps sp) (hr : Room k X.A) (hg : Gl X x) (tk : Takes X W)
    (ha : PA X (e :: es) t) (hdb : (x == ("__debug__" : Str)) = false := by decide) (he : starEach (e :: es) X.env = (false, eval e X.env) :: starEach es X.env := by rfl) (hpl : (backTo pos (starEach es X.env)).any (·.1) = false := by rfl) :
    PE X (.Call (.Name x p) (e :: es) [] pos) (tCallW sp W t) := by
  subst hK
  obtain ⟨f, fd, F, m, kp, b, _⟩ := D.ex
  exact pe_callS F hr hg m kp b (fun σ => passAt tk σ) ha hdb he hpl
theorem g_callW {σ : L2.St} {H : Hp} {Q : VK} (h : t σ H fun vs H1 => sp vs H1 Q fun cls d H' => W cls d σ H') : tCallW sp W t σ H Q := h
/-- raise C(e, ..), C with such an __init__ -/
def sRaise (C : Addr) (sp : Sp) (W : WX) (t : TA) : TS := fun _ σ H => t σ H fun vs H1 => vs.length ≤ 1000 ∧ ∀ a, H1 a = none → sp (.ref a :: (vs ++ [])) (upd H1 a (exo a C none))
  (fun v H2 => v = .non ∧ ∃ (d : Addr) (fs : List (Str × V)), H2 a = some (exo a C (some d)) ∧ H2 d = some (exd d fs) ∧ H1 d = none ∧ W (.ref C) (some d) σ (upd (del H2 a) d (.xd fs))) (fun _ _ _ => False)
theorem g_raise {C : Addr} {D : Ends} {σ : L2.St} {H : Hp} (h : t σ H fun vs H1 => vs.length ≤ 1000 ∧ ∀ a, H1 a = none → sp (.ref a :: (vs ++ [])) (upd H1 a (exo a C none))
  (fun v H2 => v = .non ∧ ∃ (d : Addr) (fs : List (Str × V)), H2 a = some (exo a C (some d)) ∧ H2 d = some (exd d fs) ∧ H1 d = none ∧ W (.ref C) (some d) σ (upd (del H2 a) d (.xd fs))) (fun _ _ _ => False)) : sRaise C sp W t D σ H := h
theorem ps_raiseI {pos2 : Pos} {K : PySem.W.Frag} (hK : X.K = K) {xc : XcD} (T : XcOk K xc) (D : Mt X.prog X.w K X.mg X.base CX0 k xc.i "__init__" ps sp) (hr : Room (k + 1) X.A) (hc : X.calm = true) (tk : Takes X W) (hn : x = xc.c) (hg : Gl X x) (hm : X.mg x = some (.ref (He.ga K xc.c))) (ha : PA X (e :: es) t)
    (hdb : (x == ("__debug__" : Str)) = false := by decide) (he : starEach (e :: es) X.env = (false, eval e X.env) :: starEach es X.env := by rfl) (hpl : (backTo pos (starEach es X.env)).any (·.1) = false := by rfl) :
    PS X (.Raise (some (.Call (.Name x p) (e :: es) [] pos)) none pos2) (sRaise (He.ga K xc.c) sp W t) := by
  subst hK
  obtain ⟨f, fd, F, rfl, b⟩ := D.ex
  exact ps_raise (pos := pos2) hc tk (pmk_oex T.oex T.ini T.fun_ F hr b .nil pass0 hg hm ha hdb he hpl)
/-- err.f in an except suite -/
theorem pe_xfU {X : Cx} {K : PySem.W.Frag} (hK : X.K = K) {a : Addr} {oe : Obj} {cls : Value} {d : Option Addr} {pn : List (Addr × Obj)} {e : Expr} {te : TE} {pos : Pos} {n : Str} {xc : XcD} (T : XcOk K xc) (hno : n ∈ xc.fs)
    (hz : Zc cls d oe) (hf : ∃ vs, oe.data = .fields vs) (he : PE (X.suite a ((a, oe) :: pn)) e te) (hb : attributeBase e n X.env (eval e X.env) = eval e X.env := by rfl) :
    PE (X.suite a ((a, oe) :: pn)) (.Attribute e n pos) (tXf a cls d (He.ga K xc.c) n te) := by
  subst hK
  exact pe_xf T.xf (T.no n hno) hz hf he hb
end
/-! what such an __init__ leaves: the heap as it was, the error's own dict -/
theorem made_exc {H : Hp} {a d C : Addr} {fs gs : List (Str × V)} (ha : H a = none) (hd : upd H a (exo a C none) d = none) (hne : d ≠ a) :
    H d = none ∧ Same H (upd (del (upd (upd (upd (upd H a (exo a C none)) d (exd d gs)) a (exo a C (some d))) d (exd d fs)) a) d (.xd fs)) := by
  rw [upd_ne hne] at hd
  refine ⟨hd, fun b o e => ?_⟩
  have hba := ne_of_none e ha
  have hbd := ne_of_none e hd
  rw [upd_ne hbd, del_ne hba, upd_ne hbd, upd_ne hba, upd_ne hbd, upd_ne hba]
  exact e
/-- cs and xs: constants, exception classes of the module -/
structure XOk (cs : List (Str × GD)) (xs : List XcD) (K : PySem.W.Frag) (w : World) : Prop extends CsOk cs K w where
  xc : xs.all (excB K) = true
theorem XOk.at_ {cs : List (Str × GD)} {xs : List XcD} {K : PySem.W.Frag} {w : World} (m : XOk cs xs K w) {x : XcD} (h : x ∈ xs) : XcOk K x := excB_ok (List.all_eq_true.mp m.xc x h)
theorem XOk.ofY {fa : List He.Fa} {fn : List He.DefD} {cs : List (Str × GD)} {xs : List XcD} {w : World} {K : PySem.W.Frag} (c : SaysY fa fn (tabs cs) (fun K => exB cs K && xs.all (excB K)) w K) : XOk cs xs K w := by
  have h : (exB cs K && xs.all (excB K)) = true := c.more
  obtain ⟨h1, h2⟩ := He.ba h
  exact ⟨⟨h1, congrArg (fun z : He.AlT => z.2) c.t⟩, h2⟩
end G

set_option Elab.async false
set_option linter.all false
set_option maxRecDepth 100000
set_option maxHeartbeats 4000000
/-! Data of which tuples may stand in the written part; lists of small numbers; comprehensions that filter, ask, zip. -/
namespace G
open PySem PySem.Spec PyProof.Rows L2

/-- the tuple xs stands at a, in the heap or in the written part -/
def TupK (K : PySem.W.Frag) (H : Hp) (a : Addr) (xs : List V) : Prop := H a = some (.tup xs) ∨
  ∃ (o : Obj) (its : Array Value) (n : Nat), K.lookup a = some o ∧ o.cls = .type "tuple" ∧ o.data = .seq its n ∧ its.size ≤ sizeLine ∧ Vals xs its.toList
mutual
inductive Dk (K : PySem.W.Frag) (H : Hp) : V → PyData → Prop
  | non : Dk K H .non .none
  | bl (b : Bool) : Dk K H (.bl b) (.bool b)
  | int (i : Int) : Dk K H (.int i) (.int i)
  | str (x : Str) : Dk K H (.str x) (.str x)
  | tup {a : Addr} {xs : List V} {ds : List PyData} : TupK K H a xs → Dks K H xs ds → Dk K H (.ref a) (.tuple ds)
inductive Dks (K : PySem.W.Frag) (H : Hp) : List V → List PyData → Prop
  | nil : Dks K H [] []
  | cons {v : V} {vs : List V} {d : PyData} {ds : List PyData} : Dk K H v d → Dks K H vs ds → Dks K H (v :: vs) (d :: ds)
end
section
variable {K : PySem.W.Frag} {H H' : Hp} {v x y : V} {d e : PyData} {vs xs : List V} {ds es : List PyData} {a b p : Addr} {Q : VK} {i : Int} {n : Nat} {R : It → Hp → Prop} {lo hi : Option Int}
theorem TupK.sq (h : TupK K H a xs) : SqT K H a xs := h.elim SqT.of .inr
theorem TupK.mono (h : TupK K H a xs) (k : ∀ a xs, H a = some (.tup xs) → H' a = some (.tup xs)) : TupK K H' a xs := h.elim (fun h => .inl (k _ _ h)) .inr
theorem TupK.same (h : TupK K H a xs) (k : Same H H') : TupK K H' a xs := h.mono fun a xs e => k a _ e
mutual
theorem Dk.mono : ∀ {v : V} {d : PyData}, Dk K H v d → (∀ a xs, H a = some (.tup xs) → H' a = some (.tup xs)) → Dk K H' v d
  | _, _, .non, _ => .non
  | _, _, .bl b, _ => .bl b
  | _, _, .int i, _ => .int i
  | _, _, .str x, _ => .str x
  | _, _, .tup h hs, k => .tup (h.mono k) (Dks.mono hs k)
theorem Dks.mono : ∀ {vs : List V} {ds : List PyData}, Dks K H vs ds → (∀ a xs, H a = some (.tup xs) → H' a = some (.tup xs)) → Dks K H' vs ds
  | _, _, .nil, _ => .nil
  | _, _, .cons h t, k => .cons (Dk.mono h k) (Dks.mono t k)
end
theorem Dk.same (h : Dk K H v d) (k : Same H H') : Dk K H' v d := h.mono fun a xs e => k a _ e
theorem Dks.same (h : Dks K H vs ds) (k : Same H H') : Dks K H' vs ds := h.mono fun a xs e => k a _ e
mutual
theorem Dk.dp : ∀ {v : V} {d : PyData}, Dk K H v d → Dp K H v d
  | _, _, .non => .non
  | _, _, .bl b => .bl b
  | _, _, .int i => .int i
  | _, _, .str x => .str x
  | _, _, .tup h hs => .tup h.sq (Dks.dp hs)
theorem Dks.dp : ∀ {vs : List V} {ds : List PyData}, Dks K H vs ds → DpAll K H vs ds
  | _, _, .nil => .nil
  | _, _, .cons h t => .cons (Dk.dp h) (Dks.dp t)
end
mutual
theorem Im.dk : ∀ {v : V} {d : PyData}, Im H v d → Dk K H v d
  | _, _, .non => .non
  | _, _, .bl b => .bl b
  | _, _, .int i => .int i
  | _, _, .str x => .str x
  | _, _, .tup h hs => .tup (.inl h) (Ims.dk hs)
theorem Ims.dk : ∀ {vs : List V} {ds : List PyData}, Ims H vs ds → Dks K H vs ds
  | _, _, .nil => .nil
  | _, _, .cons h t => .cons (Im.dk h) (Ims.dk t)
end
theorem Dks.length : ∀ {vs : List V} {ds : List PyData}, Dks K H vs ds → vs.length = ds.length
  | _, _, .nil => rfl
  | _, _, .cons _ t => by rw [List.length_cons, List.length_cons, t.length]
theorem Dks.get : ∀ {vs : List V} {ds : List PyData} {n : Nat} {d : PyData}, Dks K H vs ds → ds[n]? = some d → ∃ v, vs[n]? = some v ∧ Dk K H v d
  | _, _, n, _, .nil, e => by simp at e
  | _, _, 0, _, .cons h t, e => by
    simp only [List.getElem?_cons_zero, Option.some.injEq] at e
    subst e
    exact ⟨_, rfl, h⟩
  | _, _, n + 1, _, .cons h t, e => by
    simp only [List.getElem?_cons_succ] at e
    obtain ⟨v, h1, h2⟩ := t.get e
    exact ⟨v, by simpa using h1, h2⟩
theorem Dks.append : ∀ {vs xs : List V} {ds es : List PyData}, Dks K H vs ds → Dks K H xs es → Dks K H (vs ++ xs) (ds ++ es)
  | _, _, _, _, .nil, s => s
  | _, _, _, _, .cons h t, s => .cons h (t.append s)
theorem Dks.one (h : Dk K H v d) : Dks K H [v] [d] := .cons h .nil
theorem Dks.drop : ∀ {vs : List V} {ds : List PyData} (n : Nat), Dks K H vs ds → Dks K H (vs.drop n) (ds.drop n)
  | _, _, 0, h => h
  | _, _, _ + 1, .nil => .nil
  | _, _, n + 1, .cons _ t => t.drop n
theorem Dks.set : ∀ {vs : List V} {ds : List PyData} (n : Nat), Dks K H vs ds → Dk K H v d → Dks K H (vs.set n v) (ds.set n d)
  | _, _, _, .nil, _ => .nil
  | _, _, 0, .cons _ t, h => .cons h t
  | _, _, n + 1, .cons g t, h => .cons g (t.set n h)
theorem Dks.rep (h : Dk K H v d) : ∀ n : Nat, Dks K H (List.replicate n v) (List.replicate n d)
  | 0 => .nil
  | n + 1 => .cons h (Dks.rep h n)
theorem Dk.int_inv (h : Dk K H v (.int i)) : v = .int i := by cases h; rfl
theorem Dk.tup_inv (h : Dk K H v (.tuple ds)) : ∃ a xs, v = .ref a ∧ TupK K H a xs ∧ Dks K H xs ds := by
  cases h with
  | tup h hs => exact ⟨_, _, rfl, h, hs⟩
theorem k_ix (h : Dk K H x (.tuple ds)) (e : i = (n : Int)) (hd : ds[n]? = some d) (k : ∀ v, Dk K H v d → Q v H) : rIxU K x (.int i) H Q := by
  obtain ⟨a, xs, rfl, h1, h2⟩ := h.tup_inv
  obtain ⟨v, hv, hm⟩ := h2.get hd
  exact g_ixT h1.sq e hv (k v hm)
theorem k_len (h : Dk K H x (.tuple ds)) (q : Q (.int (ds.length : Nat)) H) : rLenU K [x] H Q := by
  obtain ⟨a, xs, rfl, h1, h2⟩ := h.tup_inv
  refine g_lenT h1.sq ?_
  rw [h2.length]
  exact q
theorem k_eq (hx : Dk K H x d) (hy : Dk K H y e) (s1 : SeqAt.shaped d = true) (s2 : SeqAt.shaped e = true) (h : Q (.bl (PyData.eqv d e)) H) : rEqU K false x y H Q := g_eqD hx.dp hy.dp s1 s2 h
theorem k_ne (hx : Dk K H x d) (hy : Dk K H y e) (s1 : SeqAt.shaped d = true) (s2 : SeqAt.shaped e = true) (h : Q (.bl (!PyData.eqv d e)) H) : rEqU K true x y H Q := g_neD hx.dp hy.dp s1 s2 h
theorem k_seq (hx : Dk K H x (.tuple ds)) (k : ∀ a xs, x = .ref a → TupK K H a xs → Dks K H xs ds → R (Itt K a) H) : (∃ b ys, x = .ref b ∧ SqL K H b ys ∧ R (Itl K b) H) ∨ ∃ b ys, x = .ref b ∧ SqT K H b ys ∧ R (Itt K b) H := by
  obtain ⟨a, xs, e, h1, h2⟩ := hx.tup_inv
  exact .inr ⟨a, xs, e, h1.sq, k a xs e h1 h2⟩
theorem TupK.ty (h : TupK K H a xs) : TyX K H (.ref a) (.type "tuple") := h.elim (fun h => .base (.tup h)) fun ⟨o, its, n, h1, h2, _⟩ => .kTuple h1 h2
theorem k_isiT {T' : String} {b : Bool} (hx : Dk K H x (.tuple ds)) (hk : kitB "tuple" T' = some b) (h : Q (.bl b) H) : rIsi K [x, .ty T'] H Q := by
  obtain ⟨a, xs, rfl, h1, _⟩ := hx.tup_inv
  exact isi_of h1.ty hk h
theorem k_isiI (hx : Dk K H x d) (q : Q (.bl (isI d)) H) : rIsi K [x, .ty "int"] H Q := by
  cases hx with
  | non => exact g_isiNi q
  | bl b => exact g_isiBi q
  | int i => exact g_isiIi q
  | str z => exact g_isiSi q
  | tup h hs => exact k_isiT (.tup h hs) k_ti q
theorem k_isiB (hx : Dk K H x d) (q : Q (.bl (isB d)) H) : rIsi K [x, .ty "bool"] H Q := by
  cases hx with
  | non => exact g_isiNb q
  | bl b => exact g_isiBb q
  | int i => exact g_isiIb q
  | str z => exact g_isiSb q
  | tup h hs => exact k_isiT (.tup h hs) k_tb q
theorem k_isiU (hx : Dk K H x d) (q : Q (.bl (isT d)) H) : rIsi K [x, .ty "tuple"] H Q := by
  cases hx with
  | non => exact g_isiNt q
  | bl b => exact g_isiBt q
  | int i => exact g_isiIt q
  | str z => exact g_isiSt q
  | tup h hs => exact k_isiT (.tup h hs) k_tt q
theorem k_tuple (hx : Dk K H x (.tuple ds)) (q : Q x H) : rTupU K [x] H Q := by
  obtain ⟨a, xs, rfl, h1, _⟩ := hx.tup_inv
  exact ⟨_, rfl, .inr ⟨a, xs, rfl, h1.sq, q⟩⟩
theorem k_tupleL (h : SqL K H a xs) (hm : Dks K H xs ds) (k : ∀ p H', Same H H' → H p = none → Dk K H' (.ref p) (.tuple ds) → Q (.ref p) H') : rTupU K [.ref a] H Q :=
  ⟨_, rfl, .inl ⟨a, xs, rfl, h, fun p hp => k p _ (Same.new hp) hp (.tup (.inl upd_same) (hm.same (Same.new hp)))⟩⟩
/-- x[n:] -/
theorem k_from (hx : Dk K H x (.tuple ds)) (e : lo = some (n : Int)) (k : ∀ y H', Same H H' → Dk K H' y (.tuple (ds.drop n)) → Q y H') : rSlU K x lo none H Q := by
  subst e
  obtain ⟨a, xs, rfl, h1, h2⟩ := hx.tup_inv
  refine .inr (.inl ⟨a, xs, rfl, h1.sq, fun e => ?_, fun _ p hp => ?_⟩)
  · refine k (.ref a) H (Same.refl H) (.tup h1 ?_)
    have hl := h2.length
    have e1 := e.1
    rw [HT.sIx_nat] at e1
    rcases Nat.eq_zero_or_pos n with h0 | h0
    · rw [h0, List.drop_zero]
      exact h2
    · have : xs.length = 0 := by omega
      have h3 : xs = [] := List.eq_nil_of_length_eq_zero this
      have h4 : ds = [] := List.eq_nil_of_length_eq_zero (by omega)
      rw [h4, List.drop_nil, h3]
      exact .nil
  · refine k (.ref p) _ (Same.new hp) (.tup (.inl upd_same) ?_)
    rw [cutV_from]
    exact (h2.drop n).same (Same.new hp)
end
/-- a constant of the module -/
theorem dk_ints {K : PySem.W.Frag} {H : Hp} : ∀ {ks : List Int} {us : List Value}, gisAllB K (ks.map .int) us = true → ∃ vs : List V, vs = ks.map V.int ∧ Vals vs us
  | [], us, h => by
    cases us with
    | nil => exact ⟨[], rfl, .nil⟩
    | cons => unfold gisAllB at h; cases h
  | k :: ks, us, h => by
    cases us with
    | nil => unfold gisAllB at h; cases h
    | cons u us =>
      have h : gisAllB K (.int k :: ks.map .int) (u :: us) = true := h
      unfold gisAllB at h
      obtain ⟨h1, h2⟩ := Bool.and_eq_true_iff.mp h
      obtain ⟨vs, e, r⟩ := dk_ints (H := H) h2
      obtain ⟨v, rv, hv⟩ := gis_ok _ u h1
      have hv := hv H
      cases hv
      exact ⟨.int k :: vs, by rw [e]; rfl, .cons rv r⟩
theorem dks_ints {K : PySem.W.Frag} {H : Hp} : ∀ (ks : List Int), Dks K H (ks.map V.int) (ks.map .int)
  | [] => .nil
  | k :: ks => .cons (.int k) (dks_ints ks)
theorem CsOk.dk {cs : List (Str × GD)} {K : PySem.W.Frag} {w : World} {x : Str} {ks : List Int} (c : CsOk cs K w) (h : (x, GD.dat (.tuple (ks.map .int))) ∈ cs) (H : Hp) : Dk K H (.ref (He.ga K x)) (.tuple (ks.map .int)) := by
  obtain ⟨u, h1, h2⟩ := c.dat h
  obtain ⟨a, o, its, n, rfl, l1, l2, l3, l4, l5⟩ := gis_tup h2
  have e : He.ga K x = a := by
    unfold He.ga
    rw [h1]
  rw [e]
  obtain ⟨vs, ev, r⟩ := dk_ints (H := H) l5
  subst ev
  exact .tup (.inr ⟨o, its, n, l1, l2, l3, Nat.le_trans l4 (by decide), r⟩) (dks_ints ks)

/-! ### lists of numbers -/
def nV (l : List Nat) : List V := l.map fun (n : Nat) => V.int (n : Int)
def nDs (l : List Nat) : List PyData := l.map fun (n : Nat) => PyData.int (n : Int)
def nD (l : List Nat) : PyData := .tuple (nDs l)
section
variable {K : PySem.W.Frag} {H H' : Hp} {x : V} {l : List Nat} {n : Nat} {a : Addr} {Q : VK}
theorem dks_nV : ∀ (l : List Nat), Dks K H (nV l) (nDs l)
  | [] => .nil
  | n :: l => .cons (.int _) (dks_nV l)
theorem ims_nV : ∀ (l : List Nat), Ims H (nV l) (nDs l)
  | [] => .nil
  | n :: l => .cons (.int _) (ims_nV l)
theorem dks_nV_inv : ∀ {l : List Nat} {xs : List V}, Dks K H xs (nDs l) → xs = nV l
  | [], _, h => by cases h; rfl
  | n :: l, _, h => by
    cases h with
    | cons h t =>
      cases h
      rw [dks_nV_inv t]
      rfl
theorem nD_at (h : Dk K H x (nD l)) : ∃ a, x = .ref a ∧ TupK K H a (nV l) := by
  obtain ⟨a, xs, rfl, h1, h2⟩ := h.tup_inv
  rw [dks_nV_inv h2] at h1
  exact ⟨a, rfl, h1⟩
theorem nD_of (h : TupK K H a (nV l)) : Dk K H (.ref a) (nD l) := .tup h (dks_nV l)
theorem nV_at (h : l[n]? = some m) : (nV l)[n]? = some (.int (m : Int)) := by
  unfold nV
  rw [List.getElem?_map, h]
  rfl
theorem nV_len : (nV l).length = l.length := List.length_map _
theorem nD_lay : Lay 1 (nD l) := Lay.tup fun d hd => by
  obtain ⟨n, _, rfl⟩ := List.mem_map.mp hd
  exact .int
theorem nV_flat : (nV l).all flatV = true := by
  unfold nV
  rw [List.all_map]
  exact List.all_eq_true.mpr fun _ _ => rfl
theorem inV_nV {i : Int} : inV (.int i) (nV l) = decide (∃ k ∈ l, (k : Int) = i) := by
  unfold inV nV
  rw [List.any_map, Bool.eq_iff_iff, List.any_eq_true, decide_eq_true_eq]
  constructor
  · rintro ⟨k, hk, e⟩
    refine ⟨k, hk, ?_⟩
    have e : eqV (.int (k : Int)) (.int i) = true := e
    have e2 : eqV (.int (k : Int)) (.int i) = ((k : Int) == i) := rfl
    rw [e2] at e
    simpa using e
  · rintro ⟨k, hk, e⟩
    refine ⟨k, hk, ?_⟩
    show eqV (.int (k : Int)) (.int i) = true
    have e2 : eqV (.int (k : Int)) (.int i) = ((k : Int) == i) := rfl
    rw [e2]
    simpa using e
theorem k_inN (h : SqT K H a (nV l) ∨ SqL K H a (nV l)) (q : Q (.bl (l.contains n)) H) : rInU K false (.int (n : Int)) (.ref a) H Q := by
  refine .inl ⟨a, nV l, rfl, h.symm, rfl, nV_flat, ?_⟩
  rw [inV_nV]
  have e : decide (∃ k ∈ l, (k : Int) = (n : Int)) = l.contains n := by
    rw [Bool.eq_iff_iff, decide_eq_true_eq, List.contains_iff_mem]
    constructor
    · rintro ⟨k, hk, e⟩
      have : k = n := by omega
      rw [← this]
      exact hk
    · intro h
      exact ⟨n, h, rfl⟩
  simp only [Bool.false_eq_true, if_false]
  rw [e]
  exact q
theorem k_niN (h : SqT K H a (nV l) ∨ SqL K H a (nV l)) (q : Q (.bl (!l.contains n)) H) : rInU K true (.int (n : Int)) (.ref a) H Q := by
  refine .inl ⟨a, nV l, rfl, h.symm, rfl, nV_flat, ?_⟩
  rw [inV_nV]
  have e : decide (∃ k ∈ l, (k : Int) = (n : Int)) = l.contains n := by
    rw [Bool.eq_iff_iff, decide_eq_true_eq, List.contains_iff_mem]
    constructor
    · rintro ⟨k, hk, e⟩
      have : k = n := by omega
      rw [← this]
      exact hk
    · intro h
      exact ⟨n, h, rfl⟩
  simp only [if_true]
  rw [e]
  exact q
theorem nDs_inj : ∀ {l m : List Nat}, nDs l = nDs m → l = m
  | [], [], _ => rfl
  | [], _ :: _, h => by cases h
  | _ :: _, [], h => by cases h
  | n :: l, k :: m, h => by
    have h : PyData.int (n : Int) :: nDs l = PyData.int (k : Int) :: nDs m := h
    injection h with h1 h2
    injection h1 with h1
    rw [nDs_inj h2]
    have : n = k := by omega
    rw [this]
theorem eqvAll_nDs : ∀ (l m : List Nat), PyData.eqvAll (nDs l) (nDs m) = decide (l = m)
  | [], [] => by
    show PyData.eqvAll [] [] = _
    rw [PyData.eqvAll]
    simp
  | [], k :: m => by
    show PyData.eqvAll [] (_ :: _) = _
    simp [PyData.eqvAll]
  | k :: m, [] => by
    show PyData.eqvAll (_ :: _) [] = _
    simp [PyData.eqvAll]
  | n :: l, k :: m => by
    show PyData.eqvAll (.int (n : Int) :: nDs l) (.int (k : Int) :: nDs m) = _
    rw [PyData.eqvAll, eqvAll_nDs l m, PyData.eqv]
    rw [Bool.eq_iff_iff]
    simp only [Bool.and_eq_true, beq_iff_eq, decide_eq_true_eq, List.cons.injEq]
    constructor
    · rintro ⟨e, e2⟩
      exact ⟨by omega, e2⟩
    · rintro ⟨e, e2⟩
      exact ⟨by omega, e2⟩
theorem eqv_nD {l m : List Nat} : PyData.eqv (nD l) (nD m) = decide (l = m) := by
  show PyData.eqv (.tuple (nDs l)) (.tuple (nDs m)) = _
  rw [PyData.eqv, eqvAll_nDs]
end
/-! ### comprehensions -/
section
variable {K : PySem.W.Frag} {σ : L2.St} {H : Hp} {g : TG} {te : TE} {tt : TT} {vs : List Nat} {Q : VK} {a b : Addr} {xs ys : List V} {k n : Nat} {l : List Nat} {bs : List Bool}
/-- those of a tuple of numbers that a test lets by -/
theorem l_filtT {f : Nat → Bool} (ha : TupK K H a (nV l)) (hl : l.length ≤ 100000) (hwp : ∀ x : V, wipe ((wipe σ vs).set k (some x)) vs = wipe σ vs)
    (step : ∀ (i m : Nat) (H' : Hp) (QB : Bool → Hp → Prop), l[i]? = some m → Same H H' → (∀ H2, Same H' H2 → QB (f m) H2) → tt ((wipe σ vs).set k (some (.int (m : Int)))) H' QB)
    (he : ∀ (m : Nat) (H' : Hp) (R : VK), R (.int (m : Int)) H' → te ((wipe σ vs).set k (some (.int (m : Int)))) H' R)
    (q : ∀ D H', H D = none → Same H H' → H' D = some (.lst (nV (l.filter f))) → Q (.ref D) H') : LcW (gName k) tt te vs σ Q (Itt K a) H := by
  have body : ∀ D, H D = none → ∀ (i : Nat) (x : V) (H' : Hp), (nV l)[i]? = some x → (H' D = some (.lst (nV ((l.take i).filter f))) ∧ Same H H') → gName k x (wipe σ vs) H' fun σ2 H2 => wipe σ2 vs = wipe σ vs ∧ tt σ2 H2 fun b H3 => if b = true then te σ2 H3 fun y H4 => ∃ acc, H4 D = some (.lst acc) ∧ acc.length < sizeLine ∧ ((upd H4 D (.lst (acc ++ [y]))) D = some (.lst (nV ((l.take (i + 1)).filter f))) ∧ Same H (upd H4 D (.lst (acc ++ [y])))) else (H3 D = some (.lst (nV ((l.take (i + 1)).filter f))) ∧ Same H H3) := by
    rintro D hD i x H' hi ⟨hDl, sm⟩
    have hil := (List.getElem?_eq_some_iff.mp hi).1
    rw [nV_len] at hil
    have hm : l[i]? = some (l[i]'hil) := List.getElem?_eq_getElem _
    generalize l[i]'hil = m at hm
    rw [nV_at hm] at hi
    cases hi
    refine ⟨hwp _, step i m H' _ hm sm (fun H2 s2 => ?_)⟩
    have hD2 := s2 _ _ hDl
    rw [filter_take_succ hm]
    cases hf : f m with
    | true =>
      rw [if_pos rfl, if_pos rfl]
      refine he m H2 _ ⟨_, hD2, szl ?_, ?_, Same.mut (sm.trans s2) hD⟩
      · rw [nV_len]
        have := List.length_filter_le f (l.take i)
        rw [List.length_take] at this
        omega
      · rw [upd_same]
        unfold nV
        rw [List.map_append]
        rfl
    | false =>
      rw [if_neg Bool.false_ne_true, if_neg Bool.false_ne_true, List.append_nil]
      exact ⟨hD2, sm.trans s2⟩
  exact l_tup (xs := nV l) (fun D i H' => H' D = some (.lst (nV ((l.take i).filter f))) ∧ Same H H') (fun D hD => ⟨upd_same, Same.new hD⟩) (fun D hD i H' _ ⟨_, sm⟩ => (ha.same sm).sq) body fun D hD H' ⟨h1, h2⟩ => by
    rw [nV_len, List.take_length] at h1
    exact q D H' hD h2 h1
/-- over a tuple: a list of truths -/
theorem l_boolsT (ha : TupK K H a xs) (hl : xs.length = bs.length) (hb : bs.length ≤ 100000) (hwp : ∀ x : V, wipe ((wipe σ vs).set k (some x)) vs = wipe σ vs)
    (step : ∀ (D : Addr) (i : Nat) (x : V) (b : Bool) (H' : Hp) (R : VK), xs[i]? = some x → bs[i]? = some b → Same H H' → (∀ H2, Same H' H2 → R (.bl b) H2) → te ((wipe σ vs).set k (some x)) H' R)
    (q : ∀ D H', Same H H' → H' D = some (.lst (bs.map V.bl)) → Q (.ref D) H') : LcW (gName k) tYes te vs σ Q (Itt K a) H := by
  refine l_tup (xs := xs) (fun D i H' => H' D = some (.lst ((bs.take i).map V.bl)) ∧ Same H H') (fun D hD => ⟨upd_same, Same.new hD⟩) (fun D hD i H' _ ⟨_, sm⟩ => (ha.same sm).sq) ?_ ?_
  · rintro D hD i x H' hi ⟨hDl, sm⟩
    have hil := (List.getElem?_eq_some_iff.mp hi).1
    have hbi : bs[i]? = some (bs[i]'(by omega)) := List.getElem?_eq_getElem _
    generalize bs[i]'(by omega) = b at hbi
    refine ⟨hwp _, g_yes (g_ifT (step D i x b H' _ hi hbi sm (fun H2 s2 => ?_)))⟩
    refine ⟨_, s2 _ _ hDl, szl (by rw [List.length_map, List.length_take]; omega), ?_, Same.mut (sm.trans s2) hD⟩
    rw [upd_same, map_take_succ hbi]
  · rintro D hD H' ⟨hDl, sm⟩
    rw [hl, List.take_length] at hDl
    exact q D H' sm hDl
/-- over zip of two tuples -/
theorem l_zipB (ha : TupK K H a xs) (hb : TupK K H b ys) (h1 : n ≤ xs.length) (h2 : n ≤ ys.length) (h3 : xs.length ≤ n ∨ ys.length ≤ n) (hn : bs.length = n) (hl : n ≤ 100000)
    (step : ∀ (i : Nat) (x y : V) (c : Bool) (Tp : Addr) (H' : Hp) (R : VK), xs[i]? = some x → ys[i]? = some y → bs[i]? = some c → Same H H' → H' Tp = some (.tup [x, y]) → (∀ H2, Same H' H2 → R (.bl c) H2) → g (.ref Tp) (wipe σ vs) H' fun σ2 H2 => wipe σ2 vs = wipe σ vs ∧ te σ2 H2 R)
    (hm : ∀ (y : V) (σ1 : L2.St) (H1 : Hp) (R R' : L2.St → Hp → Prop), (∀ σ2 H2, R σ2 H2 → R' σ2 H2) → g y σ1 H1 R → g y σ1 H1 R')
    (q : ∀ D H', Same H H' → H' D = some (.lst (bs.map V.bl)) → Q (.ref D) H') : LcW g tYes te vs σ Q (RZ.ItzT K a b) H := by
  intro D hD
  refine ⟨fun i m H' => m = n - i ∧ i ≤ n ∧ H' D = some (.lst ((bs.take i).map V.bl)) ∧ Same H H', ⟨n, by simp, Nat.zero_le _, upd_same, Same.new hD⟩, ?_⟩
  rintro i m H' ⟨rfl, hi, hDl, sm⟩
  have qx := (ha.same sm).sq
  have qy := (hb.same sm).sq
  by_cases hlt : i < n
  · have hx : xs[i]? = some (xs[i]'(by omega)) := List.getElem?_eq_getElem _
    have hy : ys[i]? = some (ys[i]'(by omega)) := List.getElem?_eq_getElem _
    have hc : bs[i]? = some (bs[i]'(by omega)) := List.getElem?_eq_getElem _
    generalize bs[i]'(by omega) = c at hc
    refine .inr ⟨⟨xs, ys, _, _, qx, qy, hx, hy⟩, fun H2 => i + 1 ≤ n ∧ H2 D = some (.lst ((bs.take (i + 1)).map V.bl)) ∧ Same H H2, fun H2 p => ⟨n - (i + 1), by omega, rfl, p⟩, fun v H2 y => ?_⟩
    obtain ⟨T, x', y', rfl, hT, rfl, f1, f2⟩ := y
    have sT : Same H' (upd H' T (.tup [x', y'])) := Same.new hT
    refine hm _ _ _ _ _ (fun σ2 H2 h => ⟨h.1, g_yes (g_ifT h.2)⟩) (step i x' y' c T _ _ (f1 xs qx) (f2 ys qy) hc (sm.trans sT) upd_same (fun H2 s2 => ?_))
    have s3 := sT.trans s2
    refine ⟨_, s3 _ _ hDl, szl (by rw [List.length_map, List.length_take]; omega), hlt, ?_, Same.mut (sm.trans s3) hD⟩
    rw [upd_same, map_take_succ hc]
  · have e : i = n := by omega
    subst e
    rw [← hn, List.take_length] at hDl
    exact .inl ⟨⟨xs, ys, qx, qy, h3⟩, q D H' sm hDl⟩
end
/-! ### list(range(n)) -/
theorem g_lstRg {te : L2.St → Hp → (Int → Int → Hp → Prop) → Prop} {σ : L2.St} {H : Hp} {Q : VK} (h : te σ H fun a b H1 => RgOk a b ∧ ∀ q, H1 q = none → Q (.ref q) (upd H1 q (.lst (L2.rgV a b)))) : tLstRg te σ H Q := h
theorem g_rg1 {ta : TE} {σ : L2.St} {H : Hp} {R : Int → Int → Hp → Prop} (h : ta σ H fun x H1 => ∃ n, x = .int n ∧ R 0 n H1) : tRg1 ta σ H R := h
theorem g_rgI {i : Int} {A : Int → Prop} (h : A i) : ∃ n, V.int i = .int n ∧ A n := ⟨i, rfl, h⟩
/-! ### d's keys, sorted -/
def rSortDI : List V → Hp → VK → Prop := fun xs H Q => ∃ (a : Addr) (kvs : List (Key × V)) (ks : List Int), xs = [.ref a] ∧ Rd H a (.dK kvs) ∧ kvs.map (·.1) = ks.map Sum.inl ∧ ks.length < 64 ∧ ∀ (ys : List Int) (p : Addr), ys.Perm ks → ys.Pairwise (· ≤ ·) → H p = none → Q (.ref p) (upd H p (.lst (ys.map V.int)))
theorem c_sortDI {X : Cx} (hc : X.calm = true) : CallR X (.builtin "sorted") rSortDI := call_sortedDI hc
end G

set_option Elab.async false
set_option linter.all false
set_option maxRecDepth 100000
set_option maxHeartbeats 4000000
namespace K81
open PySem PySem.Spec PyProof.Rows L2 G
local macro_rules | `(tactic| walk_at "sc") => `(tactic| first | (with_reducible assumption) | decide | omega | assumption | (simp only [List.length_cons, List.length_nil, List.length_append, List.length_map, List.length_replicate, List.length_set]; omega) | (show _ ≤ sizeLine; decide) | (show _ < sizeLine; decide))
local macro_rules | `(tactic| walk_at "sq") => `(tactic| first | assumption | exact SqL.of (by walk_at "hi") | exact SqT.of (by walk_at "hi"))
local macro_rules | `(tactic| walk_at "sd") => `(tactic| first | exact mul_ok (by first | omega | walk_at "sc") (by first | omega | walk_at "sc") | exact mul_ok' (by first | omega | walk_at "sc") (by first | omega | walk_at "sc"))
local macro_rules | `(tactic| walk_at "hi") => `(tactic| first | assumption | exact Has.get (by assumption) 0 rfl | exact Has.get (by assumption) 1 rfl | exact Has.get (by assumption) 2 rfl | exact Has.get (by assumption) 3 rfl | exact Has.get (by assumption) 4 rfl | exact Has.get (by assumption) 5 rfl | exact Has.get (by assumption) 6 rfl | exact Has.get (by assumption) 7 rfl | exact Has.get (by assumption) 8 rfl | exact Has.get (by assumption) 9 rfl)
local macro_rules | `(tactic| walk_at "s") => `(tactic| first
  | (with_reducible first
  | refine g_seq ?_ | refine g_asg ?_ | refine g_var rfl ?_ | refine g_c ?_ | refine g_op ?_ | refine g_name ?_ | refine g_consA ?_ | refine g_nilA ?_
  | refine g_test ?_ | refine g_exb ?_ | refine g_ifS ?_ | refine g_ret ?_ | refine g_call ?_ | refine g_cb ?_ | refine g_eqI ?_ | refine g_neI ?_
  | refine g_cmpI ?_ | refine g_I0 ?_ | refine g_addI ?_ | refine g_intI ?_ | refine g_abs ?_ | refine g_max2 ?_ | refine g_min2 ?_ | refine g_next ?_ | refine g_drop ?_ | refine g_aug rfl ?_ | refine g_ipI ?_
  | refine g_tru ?_ | refine g_truB ?_ | refine g_truI ?_ | refine g_truN ?_ | refine g_not ?_ | refine g_and ?_ | refine g_or ?_ | refine g_notV ?_ | refine g_andV ?_ | refine g_orV ?_ | refine g_ifE ?_ | refine g_chain ?_
  | refine g_un ?_ | refine g_rU ?_ | refine g_retN ?_ | refine g_brk ?_ | refine g_ct ?_ | refine g_B ?_ | refine g_eqB ?_ | refine g_neB ?_ | refine g_bm ?_ | refine g_bm0 ?_ | refine g_intB ?_
  | refine g_disp ?_ | refine g_dget2 ?_ | refine g_dget1 ?_ | refine g_pairN ?_ | refine g_pairC ?_ | refine g_dput ?_ | refine g_isNn ?_ | refine g_isNi ?_ | refine g_isNs ?_ | refine g_isNb ?_ | refine g_isNr ?_ | refine g_isB ?_ | refine g_lset ?_ | refine g_notB ?_ | refine g_noNn ?_ | refine g_noNi ?_ | refine g_noNs ?_ | refine g_noNb ?_ | refine g_noNr ?_ | refine g_gc ?_ | refine g_gn ?_ | refine g_gfld ?_ | refine g_lc ?_ | refine g_yes ?_ | refine g_sfld ?_ | refine g_meth ?_ | refine g_make ?_ | refine g_sub ?_ | refine g_sl ?_ | refine g_part ?_ | refine g_exi ?_ | refine g_noPart ?_ | refine g_for ?_ | refine g_iR ?_ | refine g_iSeq ?_ | refine g_isiIi ?_ | refine g_isiIb ?_ | refine g_isiIs ?_ | refine g_isiIt ?_ | refine g_isiBi ?_ | refine g_isiBb ?_ | refine g_isiBs ?_ | refine g_isiBt ?_ | refine g_isiSi ?_ | refine g_isiSb ?_ | refine g_isiSs ?_ | refine g_isiSt ?_ | refine g_isiNi ?_ | refine g_isiNb ?_ | refine g_isiNs ?_ | refine g_isiNt ?_
  | refine g_ifT ?_ | refine g_ifF ?_ | refine g_ifNT ?_ | refine g_ifNF ?_ | refine g_tup ?_ | refine g_lst ?_)
  | (with_reducible refine g_eqSS ?_) | (with_reducible refine g_neSS ?_) | ((with_reducible refine g_eqSx ?c ?_); (case c => decide +kernel)) | ((with_reducible refine g_neSx ?c ?_); (case c => decide +kernel)) | (with_reducible refine g_eqS ?_) | (with_reducible refine g_neS ?_)
  | ((with_reducible refine g_mod ?c ?_); (case c => walk_at "sc")) | ((with_reducible refine g_fdiv ?c ?d ?_); (case c => walk_at "sc"); (case d => walk_at "sc")) | ((with_reducible refine g_shr ?c ?_); (case c => walk_at "sc"))
  | ((with_reducible refine g_shl ?c ?d ?e ?_); (case c => walk_at "sc"); (case d => walk_at "sc"); (case e => walk_at "sc")) | ((with_reducible refine g_pow ?c ?d ?e ?_); (case c => walk_at "sc"); (case d => walk_at "sc"); (case e => walk_at "sc")) | ((with_reducible refine g_mulI ?c ?_); (case c => walk_at "sd"))
  | ((with_reducible refine' g_unp ?h ?n ?_); (case h => walk_at "sq"); (case n => rfl)) | ((with_reducible refine g_wipe ?e ?_); (case e => rfl)) | walk_at "fld" | ((with_reducible refine g_rR1 ?c1 ?c2 ?_); (case c1 => walk_at "sc"); (case c2 => walk_at "sc")) | ((with_reducible refine g_rR2 ?c1 ?_); (case c1 => exact ⟨by walk_at "sc", by walk_at "sc", by walk_at "sc", by walk_at "sc"⟩))
  | ((with_reducible refine' g_ixA ?h ?z ?v ?_); (case h => assumption); (case z => decide); (case v => rfl)) | ((with_reducible refine' g_isD ?h ?_); (case h => walk_at "hi")) | ((with_reducible refine' g_lenM ?c ?_); (case c => walk_at "sq")) | ((with_reducible refine' g_lenL ?c ?_); (case c => walk_at "sq")) | ((with_reducible refine' g_seqL ?c ?_); (case c => walk_at "sq"))
  | ((with_reducible refine' g_ty_ ?c ?_); (case c => exact .inl ⟨rfl, _, by walk_at "sq"⟩)))
local macro_rules | `(tactic| walk_at "go") => `(tactic| repeat walk_at "s")
local macro_rules | `(tactic| walk_at "len") => `(tactic| (intro vs H Q E h; first | (obtain ⟨e, _⟩ := h; rw [e]; rfl) | (obtain ⟨_, e, _⟩ := h; rw [e]; rfl) | (obtain ⟨_, _, e, _⟩ := h; rw [e]; rfl) | (obtain ⟨_, _, _, e, _⟩ := h; rw [e]; rfl) | (obtain ⟨_, _, _, _, e, _⟩ := h; rw [e]; rfl) | (obtain ⟨_, _, _, _, _, e, _⟩ := h; rw [e]; rfl) | (obtain ⟨_, _, _, _, _, _, e, _⟩ := h; rw [e]; rfl) | (obtain ⟨_, _, _, _, _, _, _, e, _⟩ := h; rw [e]; rfl) | (obtain ⟨_, _, _, _, _, _, _, _, e, _⟩ := h; rw [e]; rfl) | (obtain ⟨_, _, _, _, _, _, _, _, _, e, _⟩ := h; rw [e]; rfl) | (obtain ⟨_, _, _, _, _, _, _, _, _, _, e, _⟩ := h; rw [e]; rfl) | (obtain ⟨_, _, _, _, _, _, _, _, _, _, _, e, _⟩ := h; rw [e]; rfl) | (obtain ⟨_, _, _, _, _, _, _, _, _, _, _, _, e, _⟩ := h; rw [e]; rfl) | (obtain ⟨_, _, _, _, _, _, _, _, _, _, _, _, _, e, _⟩ := h; rw [e]; rfl) | (obtain ⟨_, _, _, _, _, _, _, _, _, _, _, _, _, _, e, _⟩ := h; rw [e]; rfl) | (obtain ⟨_, _, _, _, _, _, _, _, _, _, _, _, _, _, _, e, _⟩ := h; rw [e]; rfl) | (obtain ⟨_, _, _, _, _, _, _, _, _, _, _, _, _, _, _, _, e, _⟩ := h; rw [e]; rfl) | (obtain ⟨_, _, _, _, _, _, _, _, _, _, _, _, _, _, _, _, _, e, _⟩ := h; rw [e]; rfl) | (obtain ⟨_, _, _, _, _, _, _, _, _, _, _, _, _, _, _, _, _, _, e, _⟩ := h; rw [e]; rfl) | (obtain ⟨_, _, _, _, _, _, _, _, _, _, _, _, _, _, _, _, _, _, _, e, _⟩ := h; rw [e]; rfl) | (obtain ⟨_, _, _, _, _, _, _, _, _, _, _, _, _, _, _, _, _, _, _, _, e, _⟩ := h; rw [e]; rfl) | (obtain ⟨_, _, _, _, _, _, _, _, _, _, _, _, _, _, _, _, _, _, _, _, _, e, _⟩ := h; rw [e]; rfl) | (obtain ⟨_, _, _, _, _, _, _, _, _, _, _, _, _, _, _, _, _, _, _, _, _, _, e, _⟩ := h; rw [e]; rfl) | (obtain ⟨_, _, _, _, _, _, _, _, _, _, _, _, _, _, _, _, _, _, _, _, _, _, _, e, _⟩ := h; rw [e]; rfl)))

def topS (i : Nat) : Stmt := PySem.Challenge.pw_sameclock_k81_whole_judged_code_looks_th.main.body.getD i (.Pass ⟨0, 0, 0, 0⟩)
def dOf (x : Str) (i : Nat) : He.DefD := ⟨(x, none), x, x, defArgs (topS i), defBody (topS i), defScope (topS i), [], []⟩
def mOf (c m q : Str) (s : Stmt) : He.DefD := ⟨(c, some m), m, q, defArgs s, defBody s, defScope s, [], []⟩
def fn : List He.DefD := [dOf "_wall" 0, dOf "shifted" 5, dOf "divided" 6, dOf "apply" 7, dOf "reads" 10, dOf "digits_of" 14, dOf "cost_of" 15, dOf "words_of" 16, dOf "run_machine" 19, dOf "region_of" 26, dOf "public_behind" 27, dOf "ways" 28, dOf "is_member" 29, dOf "holds" 30, dOf "greatest_paper" 31, dOf "span_word" 33, dOf "refusal" 34, dOf "judge" 35, dOf "taken" 36, dOf "mixed" 38, dOf "without_time" 39, dOf "view" 40, dOf "groups" 41, dOf "learns_nothing" 42, dOf "_law_draws" 44, dOf "_law_reader" 45, dOf "_law_next" 46, dOf "_law_cache" 47, dOf "_law_predictor" 48, dOf "_law_before" 49, dOf "_law_visits" 50, dOf "_law_settings" 51, dOf "_law_word" 52, dOf "_law_regions" 53, dOf "_law_span" 54, dOf "_law_register" 55, dOf "_law_op" 56, dOf "_law_row" 57, dOf "_law_contents" 58, dOf "_law_end" 59, dOf "_law_spans" 60, dOf "_law_clear" 61, dOf "_law_noted" 62, dOf "_law_source" 63, dOf "_law_value" 64, dOf "_law_deed" 65, dOf "_law_kept" 66, dOf "_law_choices" 67, dOf "_law_shown" 68, dOf "_law_same" 69, dOf "law" 70, mOf "Cache" "__init__" "Cache.__init__" (inClass (topS 2) 0), mOf "Cache" "line_of" "Cache.line_of" (inClass (topS 2) 1), mOf "Cache" "places" "Cache.places" (inClass (topS 2) 2), mOf "Cache" "touch" "Cache.touch" (inClass (topS 2) 3), mOf "Cache" "free_place" "Cache.free_place" (inClass (topS 2) 4), mOf "Cache" "pointed_place" "Cache.pointed_place" (inClass (topS 2) 5), mOf "Cache" "turn_away" "Cache.turn_away" (inClass (topS 2) 6), mOf "Cache" "drop" "Cache.drop" (inClass (topS 2) 7), mOf "Predictor" "__init__" "Predictor.__init__" (inClass (topS 12) 0), mOf "Predictor" "place_of" "Predictor.place_of" (inClass (topS 12) 1), mOf "Predictor" "guess" "Predictor.guess" (inClass (topS 12) 2), mOf "Predictor" "learn" "Predictor.learn" (inClass (topS 12) 3), mOf "State" "__init__" "State.__init__" (inClass (topS 17) 0), mOf "State" "copied" "State.copied" (inClass (topS 17) 1), mOf "State" "put" "State.put" (inClass (topS 17) 2), mOf "State" "contents" "State.contents" (inClass (topS 17) 3), mOf "Machine" "__init__" "Machine.__init__" (inClass (topS 18) 0), mOf "Machine" "prepare" "Machine.prepare" (inClass (topS 18) 1), mOf "Machine" "visit" "Machine.visit" (inClass (topS 18) 2), mOf "Machine" "fetch" "Machine.fetch" (inClass (topS 18) 3), mOf "Machine" "wait" "Machine.wait" (inClass (topS 18) 4), mOf "Machine" "touch_data" "Machine.touch_data" (inClass (topS 18) 5), mOf "Machine" "calculate" "Machine.calculate" (inClass (topS 18) 6), mOf "Machine" "load" "Machine.load" (inClass (topS 18) 7), mOf "Machine" "store" "Machine.store" (inClass (topS 18) 8), mOf "Machine" "work" "Machine.work" (inClass (topS 18) 9), mOf "Machine" "guess" "Machine.guess" (inClass (topS 18) 10), mOf "Machine" "after" "Machine.after" (inClass (topS 18) 11), mOf "Machine" "branch" "Machine.branch" (inClass (topS 18) 12), mOf "Machine" "wrong_way" "Machine.wrong_way" (inClass (topS 18) 13), mOf "Machine" "run" "Machine.run" (inClass (topS 18) 14), mOf "Refused" "__init__" "Refused.__init__" (inClass (topS 22) 0)]
def fa : List He.Fa := [.glo "_wall", .glo "shifted", .glo "divided", .glo "apply", .glo "reads", .glo "digits_of", .glo "cost_of", .glo "words_of", .glo "run_machine", .glo "region_of", .glo "public_behind", .glo "ways", .glo "is_member", .glo "holds", .glo "greatest_paper", .glo "span_word", .glo "refusal", .glo "judge", .glo "taken", .glo "mixed", .glo "without_time", .glo "view", .glo "groups", .glo "learns_nothing", .glo "_law_draws", .glo "_law_reader", .glo "_law_next", .glo "_law_cache", .glo "_law_predictor", .glo "_law_before", .glo "_law_visits", .glo "_law_settings", .glo "_law_word", .glo "_law_regions", .glo "_law_span", .glo "_law_register", .glo "_law_op", .glo "_law_row", .glo "_law_contents", .glo "_law_end", .glo "_law_spans", .glo "_law_clear", .glo "_law_noted", .glo "_law_source", .glo "_law_value", .glo "_law_deed", .glo "_law_kept", .glo "_law_choices", .glo "_law_shown", .glo "_law_same", .glo "law", .glo "Cache", .glo "Predictor", .glo "State", .glo "Machine", .glo "ClockError", .glo "Refused", .cls "Cache", .mkr "Cache", .meth "Cache" "line_of", .meth "Cache" "places", .meth "Cache" "touch", .meth "Cache" "free_place", .meth "Cache" "pointed_place", .meth "Cache" "turn_away", .meth "Cache" "drop", .noat "Cache" "_sets", .noat "Cache" "_ways", .noat "Cache" "_line", .noat "Cache" "_policy", .noat "Cache" "_places", .noat "Cache" "_times", .noat "Cache" "_pointers", .noat "Cache" "_time", .cls "Predictor", .mkr "Predictor", .meth "Predictor" "place_of", .meth "Predictor" "guess", .meth "Predictor" "learn", .noat "Predictor" "_kind", .noat "Predictor" "_bits", .noat "Predictor" "_history", .noat "Predictor" "_counters", .cls "State", .mkr "State", .meth "State" "copied", .meth "State" "put", .meth "State" "contents", .noat "State" "registers", .noat "State" "ready", .noat "State" "words", .cls "Machine", .mkr "Machine", .meth "Machine" "prepare", .meth "Machine" "visit", .meth "Machine" "fetch", .meth "Machine" "wait", .meth "Machine" "touch_data", .meth "Machine" "calculate", .meth "Machine" "load", .meth "Machine" "store", .meth "Machine" "work", .meth "Machine" "guess", .meth "Machine" "after", .meth "Machine" "branch", .meth "Machine" "wrong_way", .meth "Machine" "run", .noat "Machine" "rows", .noat "Machine" "depth", .noat "Machine" "visits", .noat "Machine" "miss", .noat "Machine" "wrong", .noat "Machine" "data", .noat "Machine" "code", .noat "Machine" "predictor", .noat "Machine" "state", .noat "Machine" "clock", .noat "Machine" "fetches", .noat "Machine" "visited", .noat "Machine" "outs", .noat "Machine" "trace", .free "ValueError", .free "abs", .free "all", .free "bool", .free "dict", .free "int", .free "isinstance", .free "len", .free "list", .free "max", .free "min", .free "range", .free "set", .free "sorted", .free "sum", .free "tuple", .free "zip", .int "WORD" 4294967296, .int "REGISTERS" 16, .glo "PARTS", .glo "ALL", .exm "Refused" "Refused" true]
def xcs : List XcD := [⟨"Refused", "Refused", "ClockError", ["row", "word"]⟩]
abbrev xd_Refused : XcD := ⟨"Refused", "Refused", "ClockError", ["row", "word"]⟩
theorem xc_Refused {w : World} {K : PySem.W.Frag} {mg : Str → Option Value} (T : Txt fa fn K mg (XOk cs xcs K w)) : XcOk K xd_Refused := T.m.at_ (List.mem_of_getElem? (i := 0) rfl)
theorem exm_Refused_Refused {w : World} {K : PySem.W.Frag} {mg : Str → Option Value} (T : Txt fa fn K mg (XOk cs xcs K w)) : PySem.W.exmOne K (.ref (He.ga K "Refused")) (.ref (He.ga K "Refused")) = some true := He.exm_ok (T.c.fact 142 rfl)
def kv_PARTS : List (Str × PyData) := [("const", .tuple [.str "d", .str "n"]), ("op", .tuple [.str "sign", .str "d", .str "a", .str "a"]), ("select", .tuple [.str "d", .str "a", .str "a", .str "a"]), ("load", .tuple [.str "d", .str "a", .str "base", .str "mask"]), ("store", .tuple [.str "a", .str "base", .str "mask", .str "a"]), ("out", .tuple [.str "a"]), ("jump", .tuple [.str "t"]), ("branch", .tuple [.str "a", .str "t"]), ("stop", .tuple [.str "a"])]
def dt_ALL : List PyData := [.int 0, .int 1, .int 2, .int 3, .int 4, .int 5, .int 6, .int 7, .int 8, .int 9, .int 10, .int 11, .int 12, .int 13, .int 14, .int 15]
def cs : List (Str × GD) := [("PARTS", GD.dic kv_PARTS), ("ALL", GD.dat (.tuple dt_ALL))]
theorem in_PARTS : (("PARTS" : Str), GD.dic kv_PARTS) ∈ cs := List.mem_of_getElem? (i := 0) rfl
theorem in_ALL : (("ALL" : Str), GD.dat (.tuple dt_ALL)) ∈ cs := List.mem_of_getElem? (i := 1) rfl
variable {P : Program} {w : World} {K : PySem.W.Frag} {mg : Str → Option Value} {base : Heap}
theorem nd_Cache : (["_sets", "_ways", "_line", "_policy", "_places", "_times", "_pointers", "_time"] : List Str).Nodup := by decide +kernel
abbrev fs_Cache (v0 v1 v2 v3 v4 v5 v6 v7 : V) : List (Str × V) := [("_sets", v0), ("_ways", v1), ("_line", v2), ("_policy", v3), ("_places", v4), ("_times", v5), ("_pointers", v6), ("_time", v7)]
theorem cl_Cache (T : Txt fa fn K mg (XOk cs xcs K w)) : Cls K (He.ga K "Cache") := T.cls 57 rfl
theorem na_Cache__sets (T : Txt fa fn K mg (XOk cs xcs K w)) : NoAttr K (He.ga K "Cache") "_sets" := T.noat 66 rfl
theorem nf_Cache__sets : ("_sets" : Str) ∉ ([] : List Str) := by decide +kernel
theorem na_Cache__ways (T : Txt fa fn K mg (XOk cs xcs K w)) : NoAttr K (He.ga K "Cache") "_ways" := T.noat 67 rfl
theorem nf_Cache__ways : ("_ways" : Str) ∉ (["_sets"] : List Str) := by decide +kernel
theorem na_Cache__line (T : Txt fa fn K mg (XOk cs xcs K w)) : NoAttr K (He.ga K "Cache") "_line" := T.noat 68 rfl
theorem nf_Cache__line : ("_line" : Str) ∉ (["_sets", "_ways"] : List Str) := by decide +kernel
theorem na_Cache__policy (T : Txt fa fn K mg (XOk cs xcs K w)) : NoAttr K (He.ga K "Cache") "_policy" := T.noat 69 rfl
theorem nf_Cache__policy : ("_policy" : Str) ∉ (["_sets", "_ways", "_line"] : List Str) := by decide +kernel
theorem na_Cache__places (T : Txt fa fn K mg (XOk cs xcs K w)) : NoAttr K (He.ga K "Cache") "_places" := T.noat 70 rfl
theorem nf_Cache__places : ("_places" : Str) ∉ (["_sets", "_ways", "_line", "_policy"] : List Str) := by decide +kernel
theorem na_Cache__times (T : Txt fa fn K mg (XOk cs xcs K w)) : NoAttr K (He.ga K "Cache") "_times" := T.noat 71 rfl
theorem nf_Cache__times : ("_times" : Str) ∉ (["_sets", "_ways", "_line", "_policy", "_places"] : List Str) := by decide +kernel
theorem na_Cache__pointers (T : Txt fa fn K mg (XOk cs xcs K w)) : NoAttr K (He.ga K "Cache") "_pointers" := T.noat 72 rfl
theorem nf_Cache__pointers : ("_pointers" : Str) ∉ (["_sets", "_ways", "_line", "_policy", "_places", "_times"] : List Str) := by decide +kernel
theorem na_Cache__time (T : Txt fa fn K mg (XOk cs xcs K w)) : NoAttr K (He.ga K "Cache") "_time" := T.noat 73 rfl
theorem nf_Cache__time : ("_time" : Str) ∉ (["_sets", "_ways", "_line", "_policy", "_places", "_times", "_pointers"] : List Str) := by decide +kernel
theorem nm_Cache_line_of : ("line_of" : Str) ∉ (["_sets", "_ways", "_line", "_policy", "_places", "_times", "_pointers", "_time"] : List Str) := by decide +kernel
theorem nm_Cache_places : ("places" : Str) ∉ (["_sets", "_ways", "_line", "_policy", "_places", "_times", "_pointers", "_time"] : List Str) := by decide +kernel
theorem nm_Cache_touch : ("touch" : Str) ∉ (["_sets", "_ways", "_line", "_policy", "_places", "_times", "_pointers", "_time"] : List Str) := by decide +kernel
theorem nm_Cache_free_place : ("free_place" : Str) ∉ (["_sets", "_ways", "_line", "_policy", "_places", "_times", "_pointers", "_time"] : List Str) := by decide +kernel
theorem nm_Cache_pointed_place : ("pointed_place" : Str) ∉ (["_sets", "_ways", "_line", "_policy", "_places", "_times", "_pointers", "_time"] : List Str) := by decide +kernel
theorem nm_Cache_turn_away : ("turn_away" : Str) ∉ (["_sets", "_ways", "_line", "_policy", "_places", "_times", "_pointers", "_time"] : List Str) := by decide +kernel
theorem nm_Cache_drop : ("drop" : Str) ∉ (["_sets", "_ways", "_line", "_policy", "_places", "_times", "_pointers", "_time"] : List Str) := by decide +kernel
theorem nd_Predictor : (["_kind", "_bits", "_history", "_counters"] : List Str).Nodup := by decide +kernel
abbrev fs_Predictor (v0 v1 v2 v3 : V) : List (Str × V) := [("_kind", v0), ("_bits", v1), ("_history", v2), ("_counters", v3)]
theorem cl_Predictor (T : Txt fa fn K mg (XOk cs xcs K w)) : Cls K (He.ga K "Predictor") := T.cls 74 rfl
theorem na_Predictor__kind (T : Txt fa fn K mg (XOk cs xcs K w)) : NoAttr K (He.ga K "Predictor") "_kind" := T.noat 79 rfl
theorem nf_Predictor__kind : ("_kind" : Str) ∉ ([] : List Str) := by decide +kernel
theorem na_Predictor__bits (T : Txt fa fn K mg (XOk cs xcs K w)) : NoAttr K (He.ga K "Predictor") "_bits" := T.noat 80 rfl
theorem nf_Predictor__bits : ("_bits" : Str) ∉ (["_kind"] : List Str) := by decide +kernel
theorem na_Predictor__history (T : Txt fa fn K mg (XOk cs xcs K w)) : NoAttr K (He.ga K "Predictor") "_history" := T.noat 81 rfl
theorem nf_Predictor__history : ("_history" : Str) ∉ (["_kind", "_bits"] : List Str) := by decide +kernel
theorem na_Predictor__counters (T : Txt fa fn K mg (XOk cs xcs K w)) : NoAttr K (He.ga K "Predictor") "_counters" := T.noat 82 rfl
theorem nf_Predictor__counters : ("_counters" : Str) ∉ (["_kind", "_bits", "_history"] : List Str) := by decide +kernel
theorem nm_Predictor_place_of : ("place_of" : Str) ∉ (["_kind", "_bits", "_history", "_counters"] : List Str) := by decide +kernel
theorem nm_Predictor_guess : ("guess" : Str) ∉ (["_kind", "_bits", "_history", "_counters"] : List Str) := by decide +kernel
theorem nm_Predictor_learn : ("learn" : Str) ∉ (["_kind", "_bits", "_history", "_counters"] : List Str) := by decide +kernel
theorem nd_State : (["registers", "ready", "words"] : List Str).Nodup := by decide +kernel
abbrev fs_State (v0 v1 v2 : V) : List (Str × V) := [("registers", v0), ("ready", v1), ("words", v2)]
theorem cl_State (T : Txt fa fn K mg (XOk cs xcs K w)) : Cls K (He.ga K "State") := T.cls 83 rfl
theorem na_State_registers (T : Txt fa fn K mg (XOk cs xcs K w)) : NoAttr K (He.ga K "State") "registers" := T.noat 88 rfl
theorem nf_State_registers : ("registers" : Str) ∉ ([] : List Str) := by decide +kernel
theorem na_State_ready (T : Txt fa fn K mg (XOk cs xcs K w)) : NoAttr K (He.ga K "State") "ready" := T.noat 89 rfl
theorem nf_State_ready : ("ready" : Str) ∉ (["registers"] : List Str) := by decide +kernel
theorem na_State_words (T : Txt fa fn K mg (XOk cs xcs K w)) : NoAttr K (He.ga K "State") "words" := T.noat 90 rfl
theorem nf_State_words : ("words" : Str) ∉ (["registers", "ready"] : List Str) := by decide +kernel
theorem nm_State_copied : ("copied" : Str) ∉ (["registers", "ready", "words"] : List Str) := by decide +kernel
theorem nm_State_put : ("put" : Str) ∉ (["registers", "ready", "words"] : List Str) := by decide +kernel
theorem nm_State_contents : ("contents" : Str) ∉ (["registers", "ready", "words"] : List Str) := by decide +kernel
theorem nd_Machine : (["rows", "depth", "visits", "miss", "wrong", "data", "code", "predictor", "state", "clock", "fetches", "visited", "outs", "trace"] : List Str).Nodup := by decide +kernel
abbrev fs_Machine (v0 v1 v2 v3 v4 v5 v6 v7 v8 v9 v10 v11 v12 v13 : V) : List (Str × V) := [("rows", v0), ("depth", v1), ("visits", v2), ("miss", v3), ("wrong", v4), ("data", v5), ("code", v6), ("predictor", v7), ("state", v8), ("clock", v9), ("fetches", v10), ("visited", v11), ("outs", v12), ("trace", v13)]
theorem cl_Machine (T : Txt fa fn K mg (XOk cs xcs K w)) : Cls K (He.ga K "Machine") := T.cls 91 rfl
theorem na_Machine_rows (T : Txt fa fn K mg (XOk cs xcs K w)) : NoAttr K (He.ga K "Machine") "rows" := T.noat 107 rfl
theorem nf_Machine_rows : ("rows" : Str) ∉ ([] : List Str) := by decide +kernel
theorem na_Machine_depth (T : Txt fa fn K mg (XOk cs xcs K w)) : NoAttr K (He.ga K "Machine") "depth" := T.noat 108 rfl
theorem nf_Machine_depth : ("depth" : Str) ∉ (["rows"] : List Str) := by decide +kernel
theorem na_Machine_visits (T : Txt fa fn K mg (XOk cs xcs K w)) : NoAttr K (He.ga K "Machine") "visits" := T.noat 109 rfl
theorem nf_Machine_visits : ("visits" : Str) ∉ (["rows", "depth"] : List Str) := by decide +kernel
theorem na_Machine_miss (T : Txt fa fn K mg (XOk cs xcs K w)) : NoAttr K (He.ga K "Machine") "miss" := T.noat 110 rfl
theorem nf_Machine_miss : ("miss" : Str) ∉ (["rows", "depth", "visits"] : List Str) := by decide +kernel
theorem na_Machine_wrong (T : Txt fa fn K mg (XOk cs xcs K w)) : NoAttr K (He.ga K "Machine") "wrong" := T.noat 111 rfl
theorem nf_Machine_wrong : ("wrong" : Str) ∉ (["rows", "depth", "visits", "miss"] : List Str) := by decide +kernel
theorem na_Machine_data (T : Txt fa fn K mg (XOk cs xcs K w)) : NoAttr K (He.ga K "Machine") "data" := T.noat 112 rfl
theorem nf_Machine_data : ("data" : Str) ∉ (["rows", "depth", "visits", "miss", "wrong"] : List Str) := by decide +kernel
theorem na_Machine_code (T : Txt fa fn K mg (XOk cs xcs K w)) : NoAttr K (He.ga K "Machine") "code" := T.noat 113 rfl
theorem nf_Machine_code : ("code" : Str) ∉ (["rows", "depth", "visits", "miss", "wrong", "data"] : List Str) := by decide +kernel
theorem na_Machine_predictor (T : Txt fa fn K mg (XOk cs xcs K w)) : NoAttr K (He.ga K "Machine") "predictor" := T.noat 114 rfl
theorem nf_Machine_predictor : ("predictor" : Str) ∉ (["rows", "depth", "visits", "miss", "wrong", "data", "code"] : List Str) := by decide +kernel
theorem na_Machine_state (T : Txt fa fn K mg (XOk cs xcs K w)) : NoAttr K (He.ga K "Machine") "state" := T.noat 115 rfl
theorem nf_Machine_state : ("state" : Str) ∉ (["rows", "depth", "visits", "miss", "wrong", "data", "code", "predictor"] : List Str) := by decide +kernel
theorem na_Machine_clock (T : Txt fa fn K mg (XOk cs xcs K w)) : NoAttr K (He.ga K "Machine") "clock" := T.noat 116 rfl
theorem nf_Machine_clock : ("clock" : Str) ∉ (["rows", "depth", "visits", "miss", "wrong", "data", "code", "predictor", "state"] : List Str) := by decide +kernel
theorem na_Machine_fetches (T : Txt fa fn K mg (XOk cs xcs K w)) : NoAttr K (He.ga K "Machine") "fetches" := T.noat 117 rfl
theorem nf_Machine_fetches : ("fetches" : Str) ∉ (["rows", "depth", "visits", "miss", "wrong", "data", "code", "predictor", "state", "clock"] : List Str) := by decide +kernel
theorem na_Machine_visited (T : Txt fa fn K mg (XOk cs xcs K w)) : NoAttr K (He.ga K "Machine") "visited" := T.noat 118 rfl
theorem nf_Machine_visited : ("visited" : Str) ∉ (["rows", "depth", "visits", "miss", "wrong", "data", "code", "predictor", "state", "clock", "fetches"] : List Str) := by decide +kernel
theorem na_Machine_outs (T : Txt fa fn K mg (XOk cs xcs K w)) : NoAttr K (He.ga K "Machine") "outs" := T.noat 119 rfl
theorem nf_Machine_outs : ("outs" : Str) ∉ (["rows", "depth", "visits", "miss", "wrong", "data", "code", "predictor", "state", "clock", "fetches", "visited"] : List Str) := by decide +kernel
theorem na_Machine_trace (T : Txt fa fn K mg (XOk cs xcs K w)) : NoAttr K (He.ga K "Machine") "trace" := T.noat 120 rfl
theorem nf_Machine_trace : ("trace" : Str) ∉ (["rows", "depth", "visits", "miss", "wrong", "data", "code", "predictor", "state", "clock", "fetches", "visited", "outs"] : List Str) := by decide +kernel
theorem nm_Machine_prepare : ("prepare" : Str) ∉ (["rows", "depth", "visits", "miss", "wrong", "data", "code", "predictor", "state", "clock", "fetches", "visited", "outs", "trace"] : List Str) := by decide +kernel
theorem nm_Machine_visit : ("visit" : Str) ∉ (["rows", "depth", "visits", "miss", "wrong", "data", "code", "predictor", "state", "clock", "fetches", "visited", "outs", "trace"] : List Str) := by decide +kernel
theorem nm_Machine_fetch : ("fetch" : Str) ∉ (["rows", "depth", "visits", "miss", "wrong", "data", "code", "predictor", "state", "clock", "fetches", "visited", "outs", "trace"] : List Str) := by decide +kernel
theorem nm_Machine_wait : ("wait" : Str) ∉ (["rows", "depth", "visits", "miss", "wrong", "data", "code", "predictor", "state", "clock", "fetches", "visited", "outs", "trace"] : List Str) := by decide +kernel
theorem nm_Machine_touch_data : ("touch_data" : Str) ∉ (["rows", "depth", "visits", "miss", "wrong", "data", "code", "predictor", "state", "clock", "fetches", "visited", "outs", "trace"] : List Str) := by decide +kernel
theorem nm_Machine_calculate : ("calculate" : Str) ∉ (["rows", "depth", "visits", "miss", "wrong", "data", "code", "predictor", "state", "clock", "fetches", "visited", "outs", "trace"] : List Str) := by decide +kernel
theorem nm_Machine_load : ("load" : Str) ∉ (["rows", "depth", "visits", "miss", "wrong", "data", "code", "predictor", "state", "clock", "fetches", "visited", "outs", "trace"] : List Str) := by decide +kernel
theorem nm_Machine_store : ("store" : Str) ∉ (["rows", "depth", "visits", "miss", "wrong", "data", "code", "predictor", "state", "clock", "fetches", "visited", "outs", "trace"] : List Str) := by decide +kernel
theorem nm_Machine_work : ("work" : Str) ∉ (["rows", "depth", "visits", "miss", "wrong", "data", "code", "predictor", "state", "clock", "fetches", "visited", "outs", "trace"] : List Str) := by decide +kernel
theorem nm_Machine_guess : ("guess" : Str) ∉ (["rows", "depth", "visits", "miss", "wrong", "data", "code", "predictor", "state", "clock", "fetches", "visited", "outs", "trace"] : List Str) := by decide +kernel
theorem nm_Machine_after : ("after" : Str) ∉ (["rows", "depth", "visits", "miss", "wrong", "data", "code", "predictor", "state", "clock", "fetches", "visited", "outs", "trace"] : List Str) := by decide +kernel
theorem nm_Machine_branch : ("branch" : Str) ∉ (["rows", "depth", "visits", "miss", "wrong", "data", "code", "predictor", "state", "clock", "fetches", "visited", "outs", "trace"] : List Str) := by decide +kernel
theorem nm_Machine_wrong_way : ("wrong_way" : Str) ∉ (["rows", "depth", "visits", "miss", "wrong", "data", "code", "predictor", "state", "clock", "fetches", "visited", "outs", "trace"] : List Str) := by decide +kernel
theorem nm_Machine_run : ("run" : Str) ∉ (["rows", "depth", "visits", "miss", "wrong", "data", "code", "predictor", "state", "clock", "fetches", "visited", "outs", "trace"] : List Str) := by decide +kernel
local macro_rules | `(tactic| walk_at "fld") => `(tactic| first | ((with_reducible refine' g_fld (f := "_sets") ?h ?c ?n ?l ?_); (case h => walk_at "hi"); (case c => exact cl_Cache (by assumption)); (case n => exact na_Cache__sets (by assumption)); (case l => exact lk_ix 0 nd_Cache rfl)) | ((with_reducible refine' g_fld (f := "_ways") ?h ?c ?n ?l ?_); (case h => walk_at "hi"); (case c => exact cl_Cache (by assumption)); (case n => exact na_Cache__ways (by assumption)); (case l => exact lk_ix 1 nd_Cache rfl)) | ((with_reducible refine' g_fld (f := "_line") ?h ?c ?n ?l ?_); (case h => walk_at "hi"); (case c => exact cl_Cache (by assumption)); (case n => exact na_Cache__line (by assumption)); (case l => exact lk_ix 2 nd_Cache rfl)) | ((with_reducible refine' g_fld (f := "_policy") ?h ?c ?n ?l ?_); (case h => walk_at "hi"); (case c => exact cl_Cache (by assumption)); (case n => exact na_Cache__policy (by assumption)); (case l => exact lk_ix 3 nd_Cache rfl)) | ((with_reducible refine' g_fld (f := "_places") ?h ?c ?n ?l ?_); (case h => walk_at "hi"); (case c => exact cl_Cache (by assumption)); (case n => exact na_Cache__places (by assumption)); (case l => exact lk_ix 4 nd_Cache rfl)) | ((with_reducible refine' g_fld (f := "_times") ?h ?c ?n ?l ?_); (case h => walk_at "hi"); (case c => exact cl_Cache (by assumption)); (case n => exact na_Cache__times (by assumption)); (case l => exact lk_ix 5 nd_Cache rfl)) | ((with_reducible refine' g_fld (f := "_pointers") ?h ?c ?n ?l ?_); (case h => walk_at "hi"); (case c => exact cl_Cache (by assumption)); (case n => exact na_Cache__pointers (by assumption)); (case l => exact lk_ix 6 nd_Cache rfl)) | ((with_reducible refine' g_fld (f := "_time") ?h ?c ?n ?l ?_); (case h => walk_at "hi"); (case c => exact cl_Cache (by assumption)); (case n => exact na_Cache__time (by assumption)); (case l => exact lk_ix 7 nd_Cache rfl)) | ((with_reducible refine' g_fld (f := "_kind") ?h ?c ?n ?l ?_); (case h => walk_at "hi"); (case c => exact cl_Predictor (by assumption)); (case n => exact na_Predictor__kind (by assumption)); (case l => exact lk_ix 0 nd_Predictor rfl)) | ((with_reducible refine' g_fld (f := "_bits") ?h ?c ?n ?l ?_); (case h => walk_at "hi"); (case c => exact cl_Predictor (by assumption)); (case n => exact na_Predictor__bits (by assumption)); (case l => exact lk_ix 1 nd_Predictor rfl)) | ((with_reducible refine' g_fld (f := "_history") ?h ?c ?n ?l ?_); (case h => walk_at "hi"); (case c => exact cl_Predictor (by assumption)); (case n => exact na_Predictor__history (by assumption)); (case l => exact lk_ix 2 nd_Predictor rfl)) | ((with_reducible refine' g_fld (f := "_counters") ?h ?c ?n ?l ?_); (case h => walk_at "hi"); (case c => exact cl_Predictor (by assumption)); (case n => exact na_Predictor__counters (by assumption)); (case l => exact lk_ix 3 nd_Predictor rfl)) | ((with_reducible refine' g_fld (f := "registers") ?h ?c ?n ?l ?_); (case h => walk_at "hi"); (case c => exact cl_State (by assumption)); (case n => exact na_State_registers (by assumption)); (case l => exact lk_ix 0 nd_State rfl)) | ((with_reducible refine' g_fld (f := "ready") ?h ?c ?n ?l ?_); (case h => walk_at "hi"); (case c => exact cl_State (by assumption)); (case n => exact na_State_ready (by assumption)); (case l => exact lk_ix 1 nd_State rfl)) | ((with_reducible refine' g_fld (f := "words") ?h ?c ?n ?l ?_); (case h => walk_at "hi"); (case c => exact cl_State (by assumption)); (case n => exact na_State_words (by assumption)); (case l => exact lk_ix 2 nd_State rfl)) | ((with_reducible refine' g_fld (f := "rows") ?h ?c ?n ?l ?_); (case h => walk_at "hi"); (case c => exact cl_Machine (by assumption)); (case n => exact na_Machine_rows (by assumption)); (case l => exact lk_ix 0 nd_Machine rfl)) | ((with_reducible refine' g_fld (f := "depth") ?h ?c ?n ?l ?_); (case h => walk_at "hi"); (case c => exact cl_Machine (by assumption)); (case n => exact na_Machine_depth (by assumption)); (case l => exact lk_ix 1 nd_Machine rfl)) | ((with_reducible refine' g_fld (f := "visits") ?h ?c ?n ?l ?_); (case h => walk_at "hi"); (case c => exact cl_Machine (by assumption)); (case n => exact na_Machine_visits (by assumption)); (case l => exact lk_ix 2 nd_Machine rfl)) | ((with_reducible refine' g_fld (f := "miss") ?h ?c ?n ?l ?_); (case h => walk_at "hi"); (case c => exact cl_Machine (by assumption)); (case n => exact na_Machine_miss (by assumption)); (case l => exact lk_ix 3 nd_Machine rfl)) | ((with_reducible refine' g_fld (f := "wrong") ?h ?c ?n ?l ?_); (case h => walk_at "hi"); (case c => exact cl_Machine (by assumption)); (case n => exact na_Machine_wrong (by assumption)); (case l => exact lk_ix 4 nd_Machine rfl)) | ((with_reducible refine' g_fld (f := "data") ?h ?c ?n ?l ?_); (case h => walk_at "hi"); (case c => exact cl_Machine (by assumption)); (case n => exact na_Machine_data (by assumption)); (case l => exact lk_ix 5 nd_Machine rfl)) | ((with_reducible refine' g_fld (f := "code") ?h ?c ?n ?l ?_); (case h => walk_at "hi"); (case c => exact cl_Machine (by assumption)); (case n => exact na_Machine_code (by assumption)); (case l => exact lk_ix 6 nd_Machine rfl)) | ((with_reducible refine' g_fld (f := "predictor") ?h ?c ?n ?l ?_); (case h => walk_at "hi"); (case c => exact cl_Machine (by assumption)); (case n => exact na_Machine_predictor (by assumption)); (case l => exact lk_ix 7 nd_Machine rfl)) | ((with_reducible refine' g_fld (f := "state") ?h ?c ?n ?l ?_); (case h => walk_at "hi"); (case c => exact cl_Machine (by assumption)); (case n => exact na_Machine_state (by assumption)); (case l => exact lk_ix 8 nd_Machine rfl)) | ((with_reducible refine' g_fld (f := "clock") ?h ?c ?n ?l ?_); (case h => walk_at "hi"); (case c => exact cl_Machine (by assumption)); (case n => exact na_Machine_clock (by assumption)); (case l => exact lk_ix 9 nd_Machine rfl)) | ((with_reducible refine' g_fld (f := "fetches") ?h ?c ?n ?l ?_); (case h => walk_at "hi"); (case c => exact cl_Machine (by assumption)); (case n => exact na_Machine_fetches (by assumption)); (case l => exact lk_ix 10 nd_Machine rfl)) | ((with_reducible refine' g_fld (f := "visited") ?h ?c ?n ?l ?_); (case h => walk_at "hi"); (case c => exact cl_Machine (by assumption)); (case n => exact na_Machine_visited (by assumption)); (case l => exact lk_ix 11 nd_Machine rfl)) | ((with_reducible refine' g_fld (f := "outs") ?h ?c ?n ?l ?_); (case h => walk_at "hi"); (case c => exact cl_Machine (by assumption)); (case n => exact na_Machine_outs (by assumption)); (case l => exact lk_ix 12 nd_Machine rfl)) | ((with_reducible refine' g_fld (f := "trace") ?h ?c ?n ?l ?_); (case h => walk_at "hi"); (case c => exact cl_Machine (by assumption)); (case n => exact na_Machine_trace (by assumption)); (case l => exact lk_ix 13 nd_Machine rfl)) | ((with_reducible refine' g_rcv (m := "line_of") ?h ?l ?_); (case h => walk_at "hi"); (case l => exact lk_none nm_Cache_line_of)) | ((with_reducible refine' g_rcv (m := "places") ?h ?l ?_); (case h => walk_at "hi"); (case l => exact lk_none nm_Cache_places)) | ((with_reducible refine' g_rcv (m := "touch") ?h ?l ?_); (case h => walk_at "hi"); (case l => exact lk_none nm_Cache_touch)) | ((with_reducible refine' g_rcv (m := "free_place") ?h ?l ?_); (case h => walk_at "hi"); (case l => exact lk_none nm_Cache_free_place)) | ((with_reducible refine' g_rcv (m := "pointed_place") ?h ?l ?_); (case h => walk_at "hi"); (case l => exact lk_none nm_Cache_pointed_place)) | ((with_reducible refine' g_rcv (m := "turn_away") ?h ?l ?_); (case h => walk_at "hi"); (case l => exact lk_none nm_Cache_turn_away)) | ((with_reducible refine' g_rcv (m := "drop") ?h ?l ?_); (case h => walk_at "hi"); (case l => exact lk_none nm_Cache_drop)) | ((with_reducible refine' g_rcv (m := "place_of") ?h ?l ?_); (case h => walk_at "hi"); (case l => exact lk_none nm_Predictor_place_of)) | ((with_reducible refine' g_rcv (m := "guess") ?h ?l ?_); (case h => walk_at "hi"); (case l => exact lk_none nm_Predictor_guess)) | ((with_reducible refine' g_rcv (m := "learn") ?h ?l ?_); (case h => walk_at "hi"); (case l => exact lk_none nm_Predictor_learn)) | ((with_reducible refine' g_rcv (m := "copied") ?h ?l ?_); (case h => walk_at "hi"); (case l => exact lk_none nm_State_copied)) | ((with_reducible refine' g_rcv (m := "put") ?h ?l ?_); (case h => walk_at "hi"); (case l => exact lk_none nm_State_put)) | ((with_reducible refine' g_rcv (m := "contents") ?h ?l ?_); (case h => walk_at "hi"); (case l => exact lk_none nm_State_contents)) | ((with_reducible refine' g_rcv (m := "prepare") ?h ?l ?_); (case h => walk_at "hi"); (case l => exact lk_none nm_Machine_prepare)) | ((with_reducible refine' g_rcv (m := "visit") ?h ?l ?_); (case h => walk_at "hi"); (case l => exact lk_none nm_Machine_visit)) | ((with_reducible refine' g_rcv (m := "fetch") ?h ?l ?_); (case h => walk_at "hi"); (case l => exact lk_none nm_Machine_fetch)) | ((with_reducible refine' g_rcv (m := "wait") ?h ?l ?_); (case h => walk_at "hi"); (case l => exact lk_none nm_Machine_wait)) | ((with_reducible refine' g_rcv (m := "touch_data") ?h ?l ?_); (case h => walk_at "hi"); (case l => exact lk_none nm_Machine_touch_data)) | ((with_reducible refine' g_rcv (m := "calculate") ?h ?l ?_); (case h => walk_at "hi"); (case l => exact lk_none nm_Machine_calculate)) | ((with_reducible refine' g_rcv (m := "load") ?h ?l ?_); (case h => walk_at "hi"); (case l => exact lk_none nm_Machine_load)) | ((with_reducible refine' g_rcv (m := "store") ?h ?l ?_); (case h => walk_at "hi"); (case l => exact lk_none nm_Machine_store)) | ((with_reducible refine' g_rcv (m := "work") ?h ?l ?_); (case h => walk_at "hi"); (case l => exact lk_none nm_Machine_work)) | ((with_reducible refine' g_rcv (m := "guess") ?h ?l ?_); (case h => walk_at "hi"); (case l => exact lk_none nm_Machine_guess)) | ((with_reducible refine' g_rcv (m := "after") ?h ?l ?_); (case h => walk_at "hi"); (case l => exact lk_none nm_Machine_after)) | ((with_reducible refine' g_rcv (m := "branch") ?h ?l ?_); (case h => walk_at "hi"); (case l => exact lk_none nm_Machine_branch)) | ((with_reducible refine' g_rcv (m := "wrong_way") ?h ?l ?_); (case h => walk_at "hi"); (case l => exact lk_none nm_Machine_wrong_way)) | ((with_reducible refine' g_rcv (m := "run") ?h ?l ?_); (case h => walk_at "hi"); (case l => exact lk_none nm_Machine_run)))
/-! ### the head -/
abbrev R : PySem.W.OpenRow := PySem.W.OpenLaw.row PySem.Challenge.rw_sameclock_k81_whole_judged_code_looks_th
abbrev hk : PySem.W.Hook := hookY 4 fa fn (tabs cs) (fun K => exB cs K && xcs.all (excB K))
def ob (s : PySem.W.SharedT) : He.AlX := obsY 4 fa fn (tabs cs) (fun K => exB cs K && xcs.all (excB K)) (HandSHeadRun.getT s)
theorem ob_eq (s : PySem.W.SharedT) : ob s = hk.obs s.abs := obsY_eq (HandSHeadRun.getT_eq s)
section
open PySem PySem.W PySem.Calls PyProof.Rows HandSHeadRun
abbrev lo : List Str := (("_wall" : Str) :: ("Cache" : Str) :: ("WORD" : Str) :: ("shifted" : Str) :: ("divided" : Str) :: ("apply" : Str) :: ("PARTS" : Str) :: ("reads" : Str) :: ("Predictor" : Str) :: ("digits_of" : Str) :: ("cost_of" : Str) :: ("words_of" : Str) :: ("State" : Str) :: ("Machine" : Str) :: ("run_machine" : Str) :: ("ClockError" : Str) :: ("Refused" : Str) :: ("REGISTERS" : Str) :: ("ALL" : Str) :: ("region_of" : Str) :: ("public_behind" : Str) :: ("ways" : Str) :: ("is_member" : Str) :: ("holds" : Str) :: ("greatest_paper" : Str) :: ("span_word" : Str) :: ("refusal" : Str) :: ("judge" : Str) :: ("taken" : Str) :: ("mixed" : Str) :: ("without_time" : Str) :: ("view" : Str) :: ("groups" : Str) :: ("learns_nothing" : Str) :: ("_law_draws" : Str) :: ("_law_reader" : Str) :: ("_law_next" : Str) :: ("_law_cache" : Str) :: ("_law_predictor" : Str) :: ("_law_before" : Str) :: ("_law_visits" : Str) :: ("_law_settings" : Str) :: ("_law_word" : Str) :: ("_law_regions" : Str) :: ("_law_span" : Str) :: ("_law_register" : Str) :: ("_law_op" : Str) :: ("_law_row" : Str) :: ("_law_contents" : Str) :: ("_law_end" : Str) :: ("_law_spans" : Str) :: ("_law_clear" : Str) :: ("_law_noted" : Str) :: ("_law_source" : Str) :: ("_law_value" : Str) :: ("_law_deed" : Str) :: ("_law_kept" : Str) :: ("_law_choices" : Str) :: ("_law_shown" : Str) :: ("_law_same" : Str) :: [])
theorem run3 {α β γ δ : Type} {x : Option α} {f : α → β} {g : α → γ} {h : α → δ} {a : β} {b : γ} {c : δ} (e1 : x.map f = some a) (e2 : x.map g = some b) (e3 : x.map h = some c) : x.map (fun s => (f s, g s, h s)) = some (a, b, c) := by
  cases x with
  | none => cases e1
  | some s =>
    cases e1
    cases e2
    cases e3
    rfl
theorem ra_false (w : World) (os : OsState) : (endF (stepQ (denQ tabQ) R.prog (w.withFollow "special-get-raises" false)) 8000 R.prog (w.withFollow "special-get-raises" false) os).map (fun s => looksF R.prog (boot_heap (w.withFollow "special-get-raises" false).params) s.abs) = some true := by kernel_rfl
theorem rb_false (w : World) (os : OsState) : (endF (stepQ (denQ tabQ) R.prog (w.withFollow "special-get-raises" false)) 8000 R.prog (w.withFollow "special-get-raises" false) os).map (fun s => seenQ (PySem.W.view R.prog [70]) lo (importedModules R.prog.main.body) (fun s => xlAt (PySem.W.view R.prog [70]) [] s && recOk R.toRowW.records s) s.abs) = some (openGood (PySem.W.view R.prog [70]) lo) := by kernel_rfl
theorem rc_false (w : World) (os : OsState) : (endF (stepQ (denQ tabQ) R.prog (w.withFollow "special-get-raises" false)) 8000 R.prog (w.withFollow "special-get-raises" false) os).map (fun s => ob s) = some (hk.val (w.withFollow "special-get-raises" false)) := by kernel_rfl
theorem run_false (w : World) : HandSHeadRun.RunEq R (PySem.W.view R.prog [70]) hk ob 8000 lo (w.withFollow "special-get-raises" false) := fun os => run3 (ra_false w os) (rb_false w os) (rc_false w os)
theorem ra_true (w : World) (os : OsState) : (endF (stepQ (denQ tabQ) R.prog (w.withFollow "special-get-raises" true)) 8000 R.prog (w.withFollow "special-get-raises" true) os).map (fun s => looksF R.prog (boot_heap (w.withFollow "special-get-raises" true).params) s.abs) = some true := by kernel_rfl
theorem rb_true (w : World) (os : OsState) : (endF (stepQ (denQ tabQ) R.prog (w.withFollow "special-get-raises" true)) 8000 R.prog (w.withFollow "special-get-raises" true) os).map (fun s => seenQ (PySem.W.view R.prog [70]) lo (importedModules R.prog.main.body) (fun s => xlAt (PySem.W.view R.prog [70]) [] s && recOk R.toRowW.records s) s.abs) = some (openGood (PySem.W.view R.prog [70]) lo) := by kernel_rfl
theorem rc_true (w : World) (os : OsState) : (endF (stepQ (denQ tabQ) R.prog (w.withFollow "special-get-raises" true)) 8000 R.prog (w.withFollow "special-get-raises" true) os).map (fun s => ob s) = some (hk.val (w.withFollow "special-get-raises" true)) := by kernel_rfl
theorem run_true (w : World) : HandSHeadRun.RunEq R (PySem.W.view R.prog [70]) hk ob 8000 lo (w.withFollow "special-get-raises" true) := fun os => run3 (ra_true w os) (rb_true w os) (rc_true w os)
end
theorem run (w : World) : HandSHeadRun.RunEq R (PySem.W.view R.prog [70]) hk ob 8000 (("_wall" : Str) :: ("Cache" : Str) :: ("WORD" : Str) :: ("shifted" : Str) :: ("divided" : Str) :: ("apply" : Str) :: ("PARTS" : Str) :: ("reads" : Str) :: ("Predictor" : Str) :: ("digits_of" : Str) :: ("cost_of" : Str) :: ("words_of" : Str) :: ("State" : Str) :: ("Machine" : Str) :: ("run_machine" : Str) :: ("ClockError" : Str) :: ("Refused" : Str) :: ("REGISTERS" : Str) :: ("ALL" : Str) :: ("region_of" : Str) :: ("public_behind" : Str) :: ("ways" : Str) :: ("is_member" : Str) :: ("holds" : Str) :: ("greatest_paper" : Str) :: ("span_word" : Str) :: ("refusal" : Str) :: ("judge" : Str) :: ("taken" : Str) :: ("mixed" : Str) :: ("without_time" : Str) :: ("view" : Str) :: ("groups" : Str) :: ("learns_nothing" : Str) :: ("_law_draws" : Str) :: ("_law_reader" : Str) :: ("_law_next" : Str) :: ("_law_cache" : Str) :: ("_law_predictor" : Str) :: ("_law_before" : Str) :: ("_law_visits" : Str) :: ("_law_settings" : Str) :: ("_law_word" : Str) :: ("_law_regions" : Str) :: ("_law_span" : Str) :: ("_law_register" : Str) :: ("_law_op" : Str) :: ("_law_row" : Str) :: ("_law_contents" : Str) :: ("_law_end" : Str) :: ("_law_spans" : Str) :: ("_law_clear" : Str) :: ("_law_noted" : Str) :: ("_law_source" : Str) :: ("_law_value" : Str) :: ("_law_deed" : Str) :: ("_law_kept" : Str) :: ("_law_choices" : Str) :: ("_law_shown" : Str) :: ("_law_same" : Str) :: []) w :=
  PySem.W.byRow2 "special-get-raises" (P := fun w => HandSHeadRun.RunEq R (PySem.W.view R.prog [70]) hk ob 8000 (("_wall" : Str) :: ("Cache" : Str) :: ("WORD" : Str) :: ("shifted" : Str) :: ("divided" : Str) :: ("apply" : Str) :: ("PARTS" : Str) :: ("reads" : Str) :: ("Predictor" : Str) :: ("digits_of" : Str) :: ("cost_of" : Str) :: ("words_of" : Str) :: ("State" : Str) :: ("Machine" : Str) :: ("run_machine" : Str) :: ("ClockError" : Str) :: ("Refused" : Str) :: ("REGISTERS" : Str) :: ("ALL" : Str) :: ("region_of" : Str) :: ("public_behind" : Str) :: ("ways" : Str) :: ("is_member" : Str) :: ("holds" : Str) :: ("greatest_paper" : Str) :: ("span_word" : Str) :: ("refusal" : Str) :: ("judge" : Str) :: ("taken" : Str) :: ("mixed" : Str) :: ("without_time" : Str) :: ("view" : Str) :: ("groups" : Str) :: ("learns_nothing" : Str) :: ("_law_draws" : Str) :: ("_law_reader" : Str) :: ("_law_next" : Str) :: ("_law_cache" : Str) :: ("_law_predictor" : Str) :: ("_law_before" : Str) :: ("_law_visits" : Str) :: ("_law_settings" : Str) :: ("_law_word" : Str) :: ("_law_regions" : Str) :: ("_law_span" : Str) :: ("_law_register" : Str) :: ("_law_op" : Str) :: ("_law_row" : Str) :: ("_law_contents" : Str) :: ("_law_end" : Str) :: ("_law_spans" : Str) :: ("_law_clear" : Str) :: ("_law_noted" : Str) :: ("_law_source" : Str) :: ("_law_value" : Str) :: ("_law_deed" : Str) :: ("_law_kept" : Str) :: ("_law_choices" : Str) :: ("_law_shown" : Str) :: ("_law_same" : Str) :: []) w) run_false run_true w
abbrev spL (K : PySem.W.Frag) : Sp := fun vs H Q _ => ∃ (a : Addr) (ns : List Int), vs = [.ref a] ∧ SqL K H a (ns.map V.int) ∧ ns.length ≤ 63 ∧ ∀ H', Q (.bl true) H'
abbrev FactsT : Prop := ∀ {P : Program} {w : World} {K : PySem.W.Frag} {h : Heap} {mg : Str → Option Value} {f : Addr} (X : K.In h) (G : h.Ns mainGlobals mg) (hfa : mg ("law" : Str) = some (.ref f)) (c : SaysY fa fn (tabs cs) (fun K => exB cs K && xcs.all (excB K)) w K), ∃ fd : FuncData, (∀ (s : Shared) (v : Value), BindsTo s fd ⟨[v], []⟩ [("script", v)]) ∧ ∀ base : Heap, K.In base → base.Ns mainGlobals mg → FnOk P w K mg base CX0 13 f fd ["script"] (spL K)
section
open PySem PySem.W PySem.Calls PyProof.Rows
theorem fin (F : FactsT) : PySem.Challenge.rw_sameclock_k81_whole_judged_code_looks_th.Holds := by
  w_on; o_law
  refine HandSHeadRun.head_any (r := OpenLaw.row PySem.Challenge.rw_sameclock_k81_whole_judged_code_looks_th) (q := PySem.W.view (OpenLaw.row PySem.Challenge.rw_sameclock_k81_whole_judged_code_looks_th).prog [70]) (H := K81.hk) (ob := K81.ob) (M := 8000) (loose := (("_wall" : Str) :: ("Cache" : Str) :: ("WORD" : Str) :: ("shifted" : Str) :: ("divided" : Str) :: ("apply" : Str) :: ("PARTS" : Str) :: ("reads" : Str) :: ("Predictor" : Str) :: ("digits_of" : Str) :: ("cost_of" : Str) :: ("words_of" : Str) :: ("State" : Str) :: ("Machine" : Str) :: ("run_machine" : Str) :: ("ClockError" : Str) :: ("Refused" : Str) :: ("REGISTERS" : Str) :: ("ALL" : Str) :: ("region_of" : Str) :: ("public_behind" : Str) :: ("ways" : Str) :: ("is_member" : Str) :: ("holds" : Str) :: ("greatest_paper" : Str) :: ("span_word" : Str) :: ("refusal" : Str) :: ("judge" : Str) :: ("taken" : Str) :: ("mixed" : Str) :: ("without_time" : Str) :: ("view" : Str) :: ("groups" : Str) :: ("learns_nothing" : Str) :: ("_law_draws" : Str) :: ("_law_reader" : Str) :: ("_law_next" : Str) :: ("_law_cache" : Str) :: ("_law_predictor" : Str) :: ("_law_before" : Str) :: ("_law_visits" : Str) :: ("_law_settings" : Str) :: ("_law_word" : Str) :: ("_law_regions" : Str) :: ("_law_span" : Str) :: ("_law_register" : Str) :: ("_law_op" : Str) :: ("_law_row" : Str) :: ("_law_contents" : Str) :: ("_law_end" : Str) :: ("_law_spans" : Str) :: ("_law_clear" : Str) :: ("_law_noted" : Str) :: ("_law_source" : Str) :: ("_law_value" : Str) :: ("_law_deed" : Str) :: ("_law_kept" : Str) :: ("_law_choices" : Str) :: ("_law_shown" : Str) :: ("_law_same" : Str) :: [])) (d := HandSHeadRun.topDef (OpenLaw.row PySem.Challenge.rw_sameclock_k81_whole_judged_code_looks_th).prog 70) (kwd := []) K81.ob_eq
    (by kernel_rfl) (fun s => by kernel_rfl) K81.run (by kernel_rfl) (by kernel_rfl) (by kernel_rfl) (by rfl) (by first | assumption | decide +kernel) (by decide +kernel) ⟨rfl, rfl, rfl, rfl, rfl, by decide +kernel⟩ ?hw ?hc
  case hw => w_witness2
  case hc =>
    refine L2.walk_ofE (l := PySem.Challenge.rw_sameclock_k81_whole_judged_code_looks_th) (n := 63) (k := 13) (x := "script") (CX := L2.CX0) rfl (by decide) (by kernel_rfl) ⟨rfl, by decide, by decide⟩ ?F (fun _ _ _ _ z => z)
    intro w mg fa h Y G hmg0
    obtain ⟨K, KX, c⟩ := Y
    have hmg : mg ("law" : PySem.Str) = some (.ref fa) := by
      have e : (HandSHeadRun.topDef (OpenLaw.row PySem.Challenge.rw_sameclock_k81_whole_judged_code_looks_th).prog 70).name = ("law" : PySem.Str) := by kernel_rfl
      rw [← e]
      exact hmg0
    obtain ⟨fd, hb, hF⟩ := F (P := (PySem.Challenge.rw_sameclock_k81_whole_judged_code_looks_th).prog) (w := w) KX G hmg c
    exact ⟨K, fd, K81.spL K, KX, hb, fun H a ns hl _ hS => ⟨a, ns, rfl, hS, hl, fun _ => rfl⟩, hF⟩
end

def sp_law_draws (K : PySem.W.Frag) : Sp := fun vs H Q _ => ∃ (a : Addr) (ns : List Int), vs = [.ref a] ∧ SqL K H a (ns.map V.int) ∧ ns.length ≤ 63 ∧
  ∀ H' p (row : List Int), Same H H' → H p = none → H' p = some (.lst (row.map V.int)) → (∀ x ∈ row, 0 ≤ x ∧ x < 1000) → row.length ≤ 1260 → Q (.ref p) H'
structure DrI (H : Hp) (a p : Addr) (b : Nat) (cell : Option V → Prop) (σ : L2.St) (H' : Hp) : Prop where
  ex : ∃ (row : List Int) (k c t m : Option V), σ = [some (.ref a), some (.ref p), k, c, t, m] ∧ cell c ∧ Same H H' ∧ Has H' [(p, .lst (row.map V.int))] ∧ (∀ x ∈ row, 0 ≤ x ∧ x < 1000) ∧ row.length ≤ b
theorem app_map {row : List Int} {x : Int} : row.map V.int ++ [V.int x] = (row ++ [x]).map V.int := by simp
theorem sc_law_draws : FnScope ["script", "draws", "k", "cell", "turn", "mixed_v"] ["script"] (defScope (topS 44)) := ⟨rfl, rfl, rfl, by decide +kernel, rfl, by decide +kernel, by decide +kernel⟩
theorem ok_law_draws (T : Txt fa fn K mg (XOk cs xcs K w)) : Dn P w K mg base CX0 1 "_law_draws" ["script"] (sp_law_draws K) := by
  refine mk_dn (d := dOf "_law_draws" 44) T 24 24 rfl rfl rfl rfl rfl sc_law_draws (by walk_at "len") (fun _ _ _ _ _ _ us hl => match us, hl with | [_], _ => rfl) (fun cdv A outer s H vs Q E hr h => ⟨_, (pss_cons (ps_set (i := 1) sc_law_draws.nd rfl (.inl rfl) (pe_lst pa_nil))
      (pss_cons (ps_for PassesOwn.never rfl (pi_r1 rfl (T.free 132 rfl) (pa_cons (pe_callB (c_min2 rfl) rfl (T.free 131 rfl) (by decide +kernel) (pa_cons (pe_callB (c_len (K := K) rfl) rfl (T.free 128 rfl) (by decide +kernel) (pa_cons (pv 0) pa_nil)) (pa_cons pe_int pa_nil))) pa_nil)) (pg_name (i := 2) sc_law_draws.nd rfl (.inl rfl)) (pss_cons (ps_set (i := 3) sc_law_draws.nd rfl (.inl rfl) (pe_callB c_abs rfl (T.free 122 rfl) (by decide +kernel) (pa_cons (pe_ixU (K := K) rfl (hu_of hr) (pv 0) (pv 2)) pa_nil)))
      (pss_one (ps_if (pt_cmpR o_ge (pv 3) (pe_op o_pow pe_int pe_int) (nomark _)) (pss_one (ps_for PassesOwn.never rfl (pi_r1 rfl (T.free 132 rfl) (pa_cons pe_int pa_nil)) (pg_name (i := 4) sc_law_draws.nd rfl (.inl rfl)) (pss_one (ps_if (pt_cmpR o_gt (pv 3) pe_int (nomark _)) (pss_cons (ps_expr (pe_bm PySem.F.plainAttrs_list PySem.F.slot_list_append PySem.F.type_list_append mt_append (pv 1) (pa_cons (pe_op o_mod (pv 3) pe_int) pa_nil)))
      (pss_one (ps_set (i := 3) sc_law_draws.nd rfl (.inl rfl) (pe_op o_fdiv (pv 3) pe_int)))) pss_nil)))) (pss_cons (ps_set (i := 5) sc_law_draws.nd rfl (.inl rfl) (pe_op o_mod (pe_callTy c_int rfl (T.free 126 rfl) (by decide +kernel) (pa_cons (pe_op (op_addU (K := K) rfl) (pe_op (op_addU (K := K) rfl) (pe_op op_mulU (pe_ixU (K := K) rfl (hu_of hr) (pv 0) (pv 2)) pe_int) (pe_op op_mulU (pv 2) pe_int)) pe_int) pa_nil)) pe_int))
      (pss_one (ps_for PassesOwn.never rfl (pi_r1 rfl (T.free 132 rfl) (pa_cons pe_int pa_nil)) (pg_name (i := 4) sc_law_draws.nd rfl (.inl rfl)) (pss_cons (ps_set (i := 5) sc_law_draws.nd rfl (.inl rfl) (pe_op o_mod (pe_callTy c_int rfl (T.free 126 rfl) (by decide +kernel) (pa_cons (pe_op (op_addU (K := K) rfl) (pe_op (op_addU (K := K) rfl) (pe_op op_mulU (pv 5) (pv 5)) (pe_op op_mulU (pv 4) pe_int)) pe_int) pa_nil)) pe_int))
      (pss_one (ps_expr (pe_bm PySem.F.plainAttrs_list PySem.F.slot_list_append PySem.F.type_list_append mt_append (pv 1) (pa_cons (pe_op o_mod (pv 5) pe_int) pa_nil))))))))))))
      (pss_one (ps_ret (pv 1))))), ?_⟩)
  obtain ⟨a, ns, rfl, hS, hlen, hQ⟩ := h
  walk_at "go"
  refine ⟨by decide, fun p hp => ?_⟩
  walk_at "go"
  have hS1 : SqL K (upd H p (.lst [])) a (ns.map V.int) := (Same.new hp).seq hS
  refine g_lenL hS1 ?_
  walk_at "go"
  have hn : (ns.map V.int).length = ns.length := List.length_map _
  rw [hn]
  have hj : (if (63 : Int) < (ns.length : Int) then (63 : Int) else (ns.length : Int)).toNat = ns.length := by split <;> omega
  rw [hj]
  have M0 : Has (upd H p (.lst [])) [(p, .lst (([] : List Int).map V.int))] := Has.one upd_same
  refine f_range (fun i σ H' => ∃ (row : List Int) (k c t m : Option V), σ = [some (.ref a), some (.ref p), k, c, t, m] ∧ Same H H' ∧ Has H' [(p, .lst (row.map V.int))] ∧ (∀ x ∈ row, 0 ≤ x ∧ x < 1000) ∧ row.length ≤ 20 * i)
    ⟨[], _, _, _, _, rfl, Same.new hp, M0, (fun _ h => nomatch h), Nat.le_refl _⟩ ?_ ?_
  · rintro i σ H' hi ⟨row, k, c, t, m, rfl, hs, M, hr1, hr2⟩
    walk_at "go"
    have hS2 := hs.seq hS
    obtain ⟨z, hz⟩ : ∃ z, ns[i]? = some z := ⟨_, List.getElem?_eq_getElem hi⟩
    have hz' : (ns.map V.int)[i]? = some (V.int z) := by rw [List.getElem?_map, hz]; rfl
    refine g_ixL hS2 (n := i) (by omega) hz' ?_
    walk_at "go"
    have hb : 0 ≤ (if z < 0 then -z else z) := by split <;> omega
    generalize (if z < 0 then -z else z) = cell at hb
    refine g_if (fun hc => ?_) (fun hc => ?_)
    · walk_at "go"
      refine f_range (fun j σ H' => ∃ (row : List Int) (cell : Int) (k t m : Option V), σ = [some (.ref a), some (.ref p), k, some (.int cell), t, m] ∧ 0 ≤ cell ∧ Same H H' ∧ Has H' [(p, .lst (row.map V.int))] ∧ (∀ x ∈ row, 0 ≤ x ∧ x < 1000) ∧ row.length ≤ 20 * i + j)
        ⟨row, cell, _, _, _, rfl, hb, hs, M, hr1, by omega⟩ ?_ ?_
      · rintro j σ H2 hj ⟨row, cell, k, t, m, rfl, hb, hs, M, hr1, hr2⟩
        walk_at "go"
        refine g_if (fun h0 => ?_) (fun h0 => ?_)
        · walk_at "go"
          refine g_append M 0 rfl (szl (by rw [List.length_map]; have hj' : j < 20 := hj; omega)) (fun M1 => ?_)
          walk_at "go"
          refine ⟨row ++ [cell % 1000], cell / 1000, _, _, _, rfl, by omega, Same.mut hs hp, by rw [← app_map]; exact M1, ?_, by rw [List.length_append]; simp; omega⟩
          intro x hx
          rcases List.mem_append.mp hx with hx | hx
          · exact hr1 x hx
          · rw [List.mem_singleton.mp hx]
            omega
        · walk_at "go"
          exact ⟨row, cell, _, _, _, rfl, hb, hs, M, hr1, by omega⟩
      · rintro σ H2 ⟨row, cell, k, t, m, rfl, hb, hs, M, hr1, hr2⟩
        walk_at "go"
        exact ⟨row, _, _, _, _, rfl, hs, M, hr1, by have h20 : (20 : Int).toNat = 20 := rfl; omega⟩
    · walk_at "go"
      have hz2 := hs.seq hS
      refine g_ixL hz2 (n := i) (by omega) hz' ?_
      walk_at "go"
      refine f_range (fun j σ H' => ∃ (row : List Int) (mixed : Int) (k c t : Option V), σ = [some (.ref a), some (.ref p), k, c, t, some (.int mixed)] ∧ 0 ≤ mixed ∧ mixed < 2147483647 ∧ Same H H' ∧ Has H' [(p, .lst (row.map V.int))] ∧ (∀ x ∈ row, 0 ≤ x ∧ x < 1000) ∧ row.length ≤ 20 * i + j)
        ⟨row, _, _, _, _, rfl, Int.emod_nonneg _ (by decide), Int.emod_lt_of_pos _ (by decide), hs, M, hr1, by omega⟩ ?_ ?_
      · rintro j σ H2 hj ⟨row, mixed, k, c, t, rfl, hm0, hm1, hs, M, hr1, hr2⟩
        walk_at "go"
        have hj' : j < 3 := hj
        refine g_append M 0 rfl (szl (by rw [List.length_map]; omega)) (fun M1 => ?_)
        walk_at "go"
        refine ⟨row ++ [_], _, _, _, _, rfl, Int.emod_nonneg _ (by decide), Int.lt_of_lt_of_le (Int.emod_lt_of_pos _ (by decide)) (by decide), Same.mut hs hp, by rw [← app_map]; exact M1, ?_, by rw [List.length_append]; simp; omega⟩
        intro x hx
        rcases List.mem_append.mp hx with hx | hx
        · exact hr1 x hx
        · rw [List.mem_singleton.mp hx]
          exact ⟨Int.emod_nonneg _ (by decide), Int.emod_lt_of_pos _ (by decide)⟩
      · rintro σ H2 ⟨row, mixed, k, c, t, rfl, hm0, hm1, hs, M, hr1, hr2⟩
        walk_at "go"
        exact ⟨row, _, _, _, _, rfl, hs, M, hr1, by have h20 : (3 : Int).toNat = 3 := rfl; omega⟩
  · rintro σ H' ⟨row, k, c, t, m, rfl, hs, M, hr1, hr2⟩
    walk_at "go"
    exact hQ H' p row hs hp (M.get 0 rfl) hr1 (by omega)

def sp_law_reader (K : PySem.W.Frag) : Sp := fun vs H Q _ => ∃ (a : Addr) (ns : List Int), vs = [.ref a] ∧ SqL K H a (ns.map V.int) ∧ ns.length ≤ 63 ∧
  ∀ H' d r (row : List Int) (sd : Int), Same H H' → H d = none → H r = none → Has H' [(d, .dK (drK r 0 sd)), (r, .lst (row.map V.int))] → RowOk row sd → Q (.ref d) H'
theorem sc_law_reader : FnScope ["script", "row", "seed"] ["script"] (defScope (topS 45)) := ⟨rfl, rfl, rfl, by decide +kernel, rfl, by decide +kernel, by decide +kernel⟩
theorem ok_law_reader (T : Txt fa fn K mg (XOk cs xcs K w)) : Dn P w K mg base CX0 2 "_law_reader" ["script"] (sp_law_reader K) := by
  refine mk_dn (d := dOf "_law_reader" 45) T 25 25 rfl rfl rfl rfl rfl sc_law_reader (by walk_at "len") (fun _ _ _ _ _ _ us hl => match us, hl with | [_], _ => rfl) (fun cdv A outer s H vs Q E hr h => ⟨_, (pss_cons (ps_set (i := 1) sc_law_reader.nd rfl (.inl rfl) (pe_callD (K := K) rfl (ok_law_draws T) (hr.mono (by decide)) rfl pass0 (pa_cons (pv 0) pa_nil)))
      (pss_cons (ps_set (i := 2) sc_law_reader.nd rfl (.inl rfl) pe_int)
      (pss_cons (ps_if (pt_cmpR o_gt (pe_callB (c_len (K := K) rfl) rfl (T.free 128 rfl) (by decide +kernel) (pa_cons (pv 0) pa_nil)) pe_int (nomark _)) (pss_one (ps_set (i := 2) sc_law_reader.nd rfl (.inl rfl) (pe_op o_mod (pe_callB c_abs rfl (T.free 122 rfl) (by decide +kernel) (pa_cons (pe_ixU (K := K) rfl (hu_of hr) (pv 0) (pe_un un_neg pe_int)) pa_nil)) pe_int))) pss_nil)
      (pss_one (ps_ret (pe_disp (pps_cons pe_str (pv 1) (pps_cons pe_str pe_int (pps_cons pe_str (pv 2) pps_nil))) (by rfl) (by rfl) (fun z => by cases z) (by decide))))))), ?_⟩)
  obtain ⟨a, ns, rfl, hS, hlen, hQ⟩ := h
  walk_at "go"
  refine ⟨a, ns, rfl, hS, hlen, fun H1 p row s1 hp hr hr1 hr2 => ?_⟩
  walk_at "go"
  have hS1 := s1.seq hS
  refine g_lenL hS1 ?_
  walk_at "go"
  have fin : ∀ (sd : Int), 0 ≤ sd → sd < 1000003 → ∀ d, H1 d = none → upd H1 d (.dK []) d = some (.dK []) ∧ ∃ kvs : List (Key × V), [(V.str "row", V.ref p), (V.str "at", V.int 0), (V.str "seed", V.int sd)] = kvs.map (fun kv => (kV kv.1, kv.2)) ∧ kvs.length ≤ 15 ∧ Q (.ref d) (upd (upd H1 d (.dK [])) d (.dK (mergeK [] kvs))) := by
    intro sd h0 h1 d hd
    refine ⟨upd_same, [(.inr "row", .ref p), (.inr "at", .int 0), (.inr "seed", .int sd)], rfl, (by show 3 ≤ 15; decide), ?_⟩
    rw [dr_made, upd_upd]
    refine hQ _ d p row sd (Same.new' s1 hd) (s1.free hd) hp ?_ ⟨hr1, hr2, h0, h1⟩
    have M : Has (upd H1 d (.dK (drK p 0 sd))) ([(p, .lst (row.map V.int))] ++ [(d, .dK (drK p 0 sd))]) := (Has.one hr).new hd
    exact M.perm (List.perm_append_comm (l₁ := [_]) (l₂ := [_]))
  refine g_if (fun h0 => ?_) (fun h0 => ?_)
  · walk_at "go"
    have hn : (ns.map V.int).length = ns.length := List.length_map _
    rw [hn] at h0
    obtain ⟨z, hz⟩ : ∃ z, ns[ns.length - 1]? = some z := ⟨_, List.getElem?_eq_getElem (by omega)⟩
    have hz' : (ns.map V.int)[ns.length - 1]? = some (V.int z) := by rw [List.getElem?_map, hz]; rfl
    refine g_ixL' hS1 (v := .int z) ?_ ?_
    · show (ixN _ (-1)).bind _ = _
      unfold ixN
      rw [if_neg (by decide), if_pos (by omega), hn]
      have e : ((-1 : Int) + (ns.length : Int)).toNat = ns.length - 1 := by omega
      show (ns.map V.int)[((-1 : Int) + (ns.length : Int)).toNat]? = _
      rw [e]
      exact hz'
    · walk_at "go"
      intro d hd
      walk_at "go"
      exact fin _ (Int.emod_nonneg _ (by decide)) (Int.emod_lt_of_pos _ (by decide)) d hd
  · walk_at "go"
    intro d hd
    walk_at "go"
    exact fin _ (by decide) (by decide) d hd
def sp_law_next (K : PySem.W.Frag) : Sp := fun vs H Q _ => ∃ (d r : Addr) (n sd m : Int) (row : List Int), vs = [.ref d, .int m] ∧ H d = some (.dK (drK r n sd)) ∧ H r = some (.lst (row.map V.int)) ∧ RowOk row sd ∧ 0 ≤ n ∧ 0 < m ∧
  ∀ H' v, Keep [d] H H' → H' d = some (.dK (drK r (n + 1) sd)) → 0 ≤ v → v < m → Q (.int v) H'
theorem sc_law_next : FnScope ["draws", "many", "at", "mixed_v"] ["draws", "many"] (defScope (topS 46)) := ⟨rfl, rfl, rfl, by decide +kernel, rfl, by decide +kernel, by decide +kernel⟩
theorem ok_law_next (T : Txt fa fn K mg (XOk cs xcs K w)) : Dn P w K mg base CX0 1 "_law_next" ["draws", "many"] (sp_law_next K) := by
  refine mk_dn (d := dOf "_law_next" 46) T 26 26 rfl rfl rfl rfl rfl sc_law_next (by walk_at "len") (fun _ _ _ _ _ _ us hl => match us, hl with | [_, _], _ => rfl) (fun cdv A outer s H vs Q E hr h => ⟨_, (pss_cons (ps_set (i := 2) sc_law_next.nd rfl (.inl rfl) (pe_ixU (K := K) rfl (hu_of hr) (pv 0) pe_str))
      (pss_cons (ps_dput (hu_of hr) (pv 0) pe_str (pe_op (op_addU (K := K) rfl) (pv 2) pe_int) rfl)
      (pss_cons (ps_if (pt_cmpR o_lt (pv 2) (pe_callB (c_len (K := K) rfl) rfl (T.free 128 rfl) (by decide +kernel) (pa_cons (pe_ixU (K := K) rfl (hu_of hr) (pv 0) pe_str) pa_nil)) (nomark _)) (pss_one (ps_ret (pe_op o_mod (pe_callTy c_int rfl (T.free 126 rfl) (by decide +kernel) (pa_cons (pe_ixU (K := K) rfl (hu_of hr) (pe_ixU (K := K) rfl (hu_of hr) (pv 0) pe_str) (pv 2)) pa_nil)) (pv 1)))) pss_nil)
      (pss_cons (ps_set (i := 3) sc_law_next.nd rfl (.inl rfl) (pe_op o_mod (pe_callTy c_int rfl (T.free 126 rfl) (by decide +kernel) (pa_cons (pe_op op_mulU (pe_op (op_addU (K := K) rfl) (pe_op (op_addU (K := K) rfl) (pe_ixU (K := K) rfl (hu_of hr) (pv 0) pe_str) (pe_op op_mulU pe_int (pv 2))) pe_int) pe_int) pa_nil)) pe_int))
      (pss_one (ps_ret (pe_op o_mod (pe_op o_fdiv (pe_op o_mod (pe_callTy c_int rfl (T.free 126 rfl) (by decide +kernel) (pa_cons (pe_op (op_addU (K := K) rfl) (pe_op op_mulU (pv 3) (pv 3)) (pv 2)) pa_nil)) pe_int) pe_int) (pv 1)))))))), ?_⟩)
  obtain ⟨d, r, n, sd, m, row, rfl, hd, hr, ok, hn, hm, hQ⟩ := h
  walk_at "go"
  refine g_ixD (dg_at hd) ?_
  walk_at "go"
  refine ⟨d, _, rfl, dp_at (n + 1) hd, ?_⟩
  have ne : r ≠ d := ne_of hr hd (by intro z; cases z)
  have hd1 : upd H d (.dK (drK r (n + 1) sd)) d = some (.dK (drK r (n + 1) sd)) := upd_same
  have hr1 : upd H d (.dK (drK r (n + 1) sd)) r = some (.lst (row.map V.int)) := by rw [upd_ne ne]; exact hr
  have hk : Keep [d] H (upd H d (.dK (drK r (n + 1) sd))) := Keep.set (List.mem_singleton.mpr rfl)
  walk_at "go"
  refine g_ixD (dg_row hd1) ?_
  walk_at "go"
  refine g_if (fun h0 => ?_) (fun h0 => ?_)
  · walk_at "go"
    refine g_ixD (dg_row hd1) ?_
    walk_at "go"
    obtain ⟨z, hz⟩ : ∃ z, row[n.toNat]? = some z := ⟨_, List.getElem?_eq_getElem (by omega)⟩
    refine g_ixL (SqL.of hr1) (n := n.toNat) (by omega) (by rw [List.getElem?_map, hz]; rfl) ?_
    walk_at "go"
    exact hQ _ _ hk hd1 (Int.emod_nonneg _ (by omega)) (Int.emod_lt_of_pos _ hm)
  · walk_at "go"
    refine g_ixD (dg_seed hd1) ?_
    walk_at "go"
    exact hQ _ _ hk hd1 (Int.emod_nonneg _ (by omega)) (Int.emod_lt_of_pos _ hm)
theorem use_next {H : Hp} {d r : Addr} {n sd m : Int} {row : List Int} {Q : VK} {E : XK} (hd : H d = some (.dK (drK r n sd))) (hr : H r = some (.lst (row.map V.int))) (ok : RowOk row sd) (hn : 0 ≤ n) (hm : 0 < m)
    (k : ∀ H' v, Keep [d] H H' → H' d = some (.dK (drK r (n + 1) sd)) → H' r = some (.lst (row.map V.int)) → 0 ≤ v → v < m → Q (.int v) H') : sp_law_next K ([.ref d, .int m] ++ []) H Q E :=
  ⟨d, r, n, sd, m, row, rfl, hd, hr, ok, hn, hm, fun H' v kp h1 h2 h3 => k H' v kp h1 (kp r _ hr (by
    have ne : r ≠ d := ne_of hr hd (by intro z; cases z)
    simpa using ne)) h2 h3⟩
theorem use_nextM {H : Hp} {L : List (Addr × HO)} {d r : Addr} {n sd m : Int} {row : List Int} {Q : VK} {E : XK} (M : Has H ((d, .dK (drK r n sd)) :: (r, .lst (row.map V.int)) :: L)) (ok : RowOk row sd) (hn : 0 ≤ n) (hm : 0 < m)
    (k : ∀ H' v, Keep [d] H H' → Has H' ((d, .dK (drK r (n + 1) sd)) :: (r, .lst (row.map V.int)) :: L) → 0 ≤ v → v < m → Q (.int v) H') : sp_law_next K ([.ref d, .int m] ++ []) H Q E :=
  ⟨d, r, n, sd, m, row, rfl, M.get 0 rfl, M.get 1 rfl, ok, hn, hm, fun H' v kp h1 h2 h3 => k H' v kp (M.call1 kp 0 rfl h1) h2 h3⟩

/-! ### draws, bundled -/
/-- the draws dict stands at d, beside the objects L -/
structure DrL (H : Hp) (d : Addr) (L : List (Addr × HO)) : Prop where
  ex : ∃ (r : Addr) (n sd : Int) (row : List Int), Has H ((d, .dK (drK r n sd)) :: (r, .lst (row.map V.int)) :: L) ∧ RowOk row sd ∧ 0 ≤ n
section
variable {H H' : Hp} {d p a : Addr} {L L' : List (Addr × HO)} {o o' : HO} {Q : VK} {E : XK} {m : Int} {v : V} {e : PyData} {xs : List V} {ds : List PyData} {σ : L2.St} {j : Nat}
theorem DrL.has (D : DrL H d L) : Has H L := by
  obtain ⟨r, n, sd, row, M, _⟩ := D.ex
  exact M.sub ((List.sublist_cons_self _ _).trans (List.sublist_cons_self _ _))
theorem DrL.get (D : DrL H d L) (i : Nat) (h : L[i]? = some (a, o)) : H a = some o := D.has.get i h
theorem DrL.new (D : DrL H d L) (hp : H p = none) : DrL (upd H p o) d (L ++ [(p, o)]) := by
  obtain ⟨r, n, sd, row, M, ok, hn⟩ := D.ex
  exact ⟨r, n, sd, row, M.new hp, ok, hn⟩
theorem DrL.same (D : DrL H d L) (k : Same H H') : DrL H' d L := by
  obtain ⟨r, n, sd, row, M, ok, hn⟩ := D.ex
  exact ⟨r, n, sd, row, M.keep k, ok, hn⟩
theorem DrL.sub (D : DrL H d L) (h : L'.Sublist L) : DrL H d L' := by
  obtain ⟨r, n, sd, row, M, ok, hn⟩ := D.ex
  exact ⟨r, n, sd, row, M.sub ((h.cons₂ _).cons₂ _), ok, hn⟩
theorem DrL.set (D : DrL H d L) (i : Nat) (h : L[i]? = some (a, o)) : DrL (upd H a o') d (L.set i (a, o')) := by
  obtain ⟨r, n, sd, row, M, ok, hn⟩ := D.ex
  exact ⟨r, n, sd, row, M.set (i + 2) h, ok, hn⟩
theorem DrL.noTup (D : DrL H d L) : NoTup H [d] := by
  obtain ⟨r, n, sd, row, M, ok, hn⟩ := D.ex
  exact NoTup.one (M.get 0 rfl) (fun xs e => nomatch e)
theorem DrL.im (D : DrL H d L) (k : Keep [d] H H') (h : Im H v e) : Im H' v e := h.keep k D.noTup
theorem DrL.ims (D : DrL H d L) (k : Keep [d] H H') (h : Ims H xs ds) : Ims H' xs ds := h.keep k D.noTup
theorem DrL.ne (D : DrL H d L) (hp : H p = none) : p ≠ d := by
  obtain ⟨r, n, sd, row, M, ok, hn⟩ := D.ex
  rintro rfl
  have := M.get 0 rfl
  rw [hp] at this
  cases this
theorem DrL.at_ (D : DrL H d L) (k : Keep [d] H H') (h : H a = some o) (n : ∀ kvs, o ≠ .dK kvs) : H' a = some o := by
  obtain ⟨r, q, sd, row, M, ok, hn⟩ := D.ex
  refine k a o h fun z => ?_
  rw [List.mem_singleton.mp z, M.get 0 rfl] at h
  exact n _ (Option.some.inj h).symm
theorem use_nx (D : DrL H d L) (hm : 0 < m) (k : ∀ H' v, Keep [d] H H' → DrL H' d L → 0 ≤ v → v < m → Q (.int v) H') : sp_law_next K ([.ref d, .int m] ++ []) H Q E := by
  obtain ⟨r, n, sd, row, M, ok, hn⟩ := D.ex
  exact use_nextM M ok hn hm fun H' v kp M' h0 h1 => k H' v kp ⟨r, _, sd, row, M', ok, by omega⟩ h0 h1
/-- one of a written list, by a draw -/
theorem use_pk (D : DrL H d L) (hj : σ[j]? = some (some (.ref d))) (hm : (xs.length : Int) = m) (h0 : 0 < xs.length) (hs : xs.length ≤ 1000) (k : ∀ H' v, Keep [d] H H' → DrL H' d L → v ∈ xs → Q v H') :
    rLstN xs H fun x H1 => tCall (sp_law_next K) [] E (tCons (tVar j) (tCons (tC (.int m)) tNil)) σ H1 fun y H2 => rIxU K x y H2 Q := by
  refine ⟨szle (by omega), fun p hp => ?_⟩
  refine g_call (g_consA (g_var hj (g_consA (g_c (g_nilA ?_)))))
  have D1 := D.same (Same.new (o := .lst xs) hp)
  refine use_nx D1 (by omega) fun H2 v k2 D2 h1 h2 => ?_
  have hv : v.toNat < xs.length := by omega
  have hx : xs[v.toNat]? = some xs[v.toNat] := List.getElem?_eq_getElem hv
  exact g_ixL (SqL.of (D1.at_ k2 upd_same (fun _ e => nomatch e))) (n := v.toNat) (by omega) hx (k H2 _ ((Keep.new hp).trans k2) D2 (List.getElem_mem hv))
theorem gD_append (D : DrL H d L) (n : Nat) (h : L[n]? = some (a, .lst xs)) (hl : xs.length < 100000) (k : DrL (upd H a (.lst (xs ++ [v]))) d (L.set n (a, .lst (xs ++ [v]))) → Q .non (upd H a (.lst (xs ++ [v])))) : rAppend (.ref a) [v] H Q :=
  ⟨a, xs, v, rfl, rfl, D.get n h, szl (by omega), k (D.set n h)⟩
theorem use_readerD {a : Addr} {ns : List Int} (hS : SqL K H a (ns.map V.int)) (hl : ns.length ≤ 63) (k : ∀ H' d, Same H H' → H d = none → DrL H' d [] → Q (.ref d) H') : sp_law_reader K ([.ref a] ++ []) H Q E :=
  ⟨a, ns, rfl, hS, hl, fun H' d r row sd sm h1 h2 M ok => k H' d sm h1 ⟨r, 0, sd, row, M, ok, by decide⟩⟩
end

/-! ### comprehensions that make data -/
section
variable {K : PySem.W.Frag} {σ : L2.St} {H : Hp} {g : TG} {te : TE} {vs : List Nat} {Q : VK} {a d : Addr} {xs : List V} {ds : List PyData} {n k : Nat} {lo : Int}
theorem ims_snoc {H H2 : Hp} {us : List V} {es : List PyData} {v : V} {e : PyData} {D : Addr} {o : HO} (h : Ims H us es) (hv : Im H v e) (hD : H D = some (.lst us)) : Ims (upd H D o) (us ++ [v]) (es ++ [e]) :=
  (h.append (Ims.one hv)).keep (Keep.set (List.mem_singleton.mpr rfl)) (NoTup.one hD (fun _ e => nomatch e))
/-- over a tuple of data -/
theorem l_map {f : PyData → PyData} (ha : H a = some (.tup xs)) (hs : Ims H xs ds) (hl : ds.length ≤ 1000)
    (step : ∀ (i : Nat) (e : PyData) (y : V) (H' : Hp) (R : VK), ds[i]? = some e → Same H H' → Im H' y e → (∀ H2 v, Same H' H2 → Im H2 v (f e) → R v H2) → g y (wipe σ vs) H' fun σ2 H2 => wipe σ2 vs = wipe σ vs ∧ te σ2 H2 R)
    (hm : ∀ (y : V) (σ1 : L2.St) (H1 : Hp) (R R' : L2.St → Hp → Prop), (∀ σ2 H2, R σ2 H2 → R' σ2 H2) → g y σ1 H1 R → g y σ1 H1 R')
    (q : ∀ D H' us, Same H H' → H' D = some (.lst us) → Ims H' us (ds.map f) → Q (.ref D) H') : LcW g tYes te vs σ Q (Itt K a) H := by
  have hlen := hs.length
  refine l_tup (xs := xs) (fun D i H' => ∃ us, H' D = some (.lst us) ∧ Ims H' us ((ds.take i).map f) ∧ Same H H') (fun D hD => ⟨[], upd_same, .nil, Same.new hD⟩) ?_ ?_ ?_
  · rintro D hD i H' hi ⟨us, hD', im, sm⟩
    exact SqT.of (sm _ _ ha)
  · rintro D hD i y H' hi ⟨us, hD', im, sm⟩
    obtain ⟨hlt, _⟩ := List.getElem?_eq_some_iff.mp hi
    have hd : ds[i]? = some (ds[i]'(by omega)) := List.getElem?_eq_getElem _
    generalize ds[i]'(by omega) = dv at hd
    obtain ⟨y', hy', hiy⟩ := hs.get hd
    rw [hi] at hy'
    cases hy'
    have hul : us.length = (ds.take i).length := by rw [im.length, List.length_map]
    refine hm _ _ _ _ _ ?_ (step i dv y H' (fun v H3 => ∃ acc, H3 D = some (.lst acc) ∧ acc.length < sizeLine ∧ ∃ us, upd H3 D (.lst (acc ++ [v])) D = some (.lst us) ∧ Ims (upd H3 D (.lst (acc ++ [v]))) us ((ds.take (i + 1)).map f) ∧ Same H (upd H3 D (.lst (acc ++ [v])))) hd sm (hiy.same sm) (fun H2 v sm2 imv => ?_))
    · rintro σ2 H2 ⟨e1, e2⟩
      exact ⟨e1, g_yes (g_ifT e2)⟩
    · have hD2 := sm2 _ _ hD'
      refine ⟨us, hD2, szl (by rw [hul, List.length_take]; omega), _, upd_same, ?_, Same.mut (sm.trans sm2) hD⟩
      rw [map_take_succ hd]
      exact ims_snoc (H2 := H2) (im.same sm2) imv hD2
  · rintro D hD H' ⟨us, hD', im, sm⟩
    refine q D H' us sm hD' ?_
    rw [hlen, List.take_length] at im
    exact im
/-- over a range -/
theorem l_mapR {f : Nat → PyData} (hn : n ≤ 10000) (hwp : ∀ x : V, wipe ((wipe σ vs).set k (some x)) vs = wipe σ vs)
    (step : ∀ (i : Nat) (H' : Hp) (R : VK), i < n → Same H H' → (∀ H2 v, Same H' H2 → Im H2 v (f i) → R v H2) → te ((wipe σ vs).set k (some (.int (lo + i)))) H' R)
    (q : ∀ D H' us, Same H H' → H' D = some (.lst us) → Ims H' us ((List.range n).map f) → Q (.ref D) H') : LcW (gName k) tYes te vs σ Q (Itr lo n) H := by
  refine l_range (fun D i H' => ∃ us, H' D = some (.lst us) ∧ Ims H' us ((List.range i).map f) ∧ Same H H') (fun D hD => ⟨[], upd_same, .nil, Same.new hD⟩) ?_ ?_
  · rintro D hD i H' hi ⟨us, hD', im, sm⟩
    have hul : us.length = i := by rw [im.length, List.length_map, List.length_range]
    refine g_name (g_wipe (hwp _) (g_yes (g_ifT ?_)))
    refine step i H' _ hi sm (fun H2 v sm2 imv => ?_)
    have hD2 := sm2 _ _ hD'
    refine ⟨us, hD2, szl (by omega), _, upd_same, ?_, Same.mut (sm.trans sm2) hD⟩
    rw [List.range_succ, List.map_append]
    exact ims_snoc (H2 := H2) (im.same sm2) imv hD2
  · rintro D hD H' ⟨us, hD', im, sm⟩
    exact q D H' us sm hD' im
/-- over a range, with draws -/
theorem l_drawR {P : Nat → PyData → Prop} {L : List (Addr × HO)} (D0 : DrL H d L) (hn : n ≤ 10000) (hwp : ∀ x : V, wipe ((wipe σ vs).set k (some x)) vs = wipe σ vs)
    (step : ∀ (i : Nat) (H' : Hp) (R : VK) (L' : List (Addr × HO)), i < n → Keep [d] H H' → DrL H' d L' → (∀ H2 v e, Keep [d] H' H2 → DrL H2 d L' → Im H2 v e → P i e → R v H2) → te ((wipe σ vs).set k (some (.int (lo + i)))) H' R)
    (q : ∀ D H' us es, H D = none → Keep [d] H H' → DrL H' d (L ++ [(D, .lst us)]) → Ims H' us es → es.length = n → (∀ i e, es[i]? = some e → P i e) → Q (.ref D) H') : LcW (gName k) tYes te vs σ Q (Itr lo n) H := by
  refine l_range (fun D i H' => ∃ us es, DrL H' d (L ++ [(D, .lst us)]) ∧ Ims H' us es ∧ es.length = i ∧ (∀ j e, es[j]? = some e → P j e) ∧ Keep [d] H H') (fun D hD => ⟨[], [], D0.new hD, .nil, rfl, fun j e h => by simp at h, Keep.new hD⟩) ?_ ?_
  · rintro D hD i H' hi ⟨us, es, D1, im, hl, hp, kp⟩
    have hul : us.length = i := by rw [im.length, hl]
    refine g_name (g_wipe (hwp _) (g_yes (g_ifT ?_)))
    refine step i H' _ _ hi kp D1 (fun H2 v e k2 D2 imv pe => ?_)
    have hD2 : H2 D = some (.lst us) := D2.get L.length (by simp)
    have D3 := D2.set (o' := .lst (us ++ [v])) L.length (by simp : (L ++ [(D, HO.lst us)])[L.length]? = some (D, HO.lst us))
    refine ⟨us, hD2, szl (by omega), us ++ [v], es ++ [e], ?_, ims_snoc (H2 := H2) (D1.ims k2 im) imv hD2, by rw [List.length_append, hl]; rfl, fun j e' hj => ?_, (kp.trans k2).mut hD⟩
    · rw [show (L ++ [(D, HO.lst us)]).set L.length (D, HO.lst (us ++ [v])) = L ++ [(D, HO.lst (us ++ [v]))] by simp] at D3
      exact D3
    · by_cases hj2 : j < es.length
      · rw [List.getElem?_append_left hj2] at hj
        exact hp j e' hj
      · rw [List.getElem?_append_right (by omega)] at hj
        cases hk : j - es.length with
        | zero =>
          rw [hk] at hj
          simp only [List.getElem?_cons_zero, Option.some.injEq] at hj
          subst hj
          have : j = i := by omega
          rw [this]
          exact pe
        | succ m =>
          rw [hk] at hj
          simp at hj
  · rintro D hD H' ⟨us, es, D1, im, hl, hp, kp⟩
    exact q D H' us es hD kp D1 im hl hp
/-- over a tuple of data, with draws -/
theorem l_drawT {P : Nat → PyData → Prop} {L : List (Addr × HO)} (D0 : DrL H d L) (ha : H a = some (.tup xs)) (hs : Ims H xs ds) (hl : ds.length ≤ 1000)
    (step : ∀ (i : Nat) (e0 : PyData) (y : V) (H' : Hp) (R : VK) (L' : List (Addr × HO)), ds[i]? = some e0 → Keep [d] H H' → Im H' y e0 → DrL H' d L' → (∀ H2 v e, Keep [d] H' H2 → DrL H2 d L' → Im H2 v e → P i e → R v H2) → g y (wipe σ vs) H' fun σ2 H2 => wipe σ2 vs = wipe σ vs ∧ te σ2 H2 R)
    (hm : ∀ (y : V) (σ1 : L2.St) (H1 : Hp) (R R' : L2.St → Hp → Prop), (∀ σ2 H2, R σ2 H2 → R' σ2 H2) → g y σ1 H1 R → g y σ1 H1 R')
    (q : ∀ D H' us es, H D = none → Keep [d] H H' → DrL H' d (L ++ [(D, .lst us)]) → Ims H' us es → es.length = ds.length → (∀ i e, es[i]? = some e → P i e) → Q (.ref D) H') : LcW g tYes te vs σ Q (Itt K a) H := by
  have hlen := hs.length
  refine l_tup (xs := xs) (fun D i H' => ∃ us es, DrL H' d (L ++ [(D, .lst us)]) ∧ Ims H' us es ∧ es.length = i ∧ (∀ j e, es[j]? = some e → P j e) ∧ Keep [d] H H') (fun D hD => ⟨[], [], D0.new hD, .nil, rfl, fun j e h => by simp at h, Keep.new hD⟩) ?_ ?_ ?_
  · rintro D hD i H' hi ⟨us, es, D1, im, hl2, hp, kp⟩
    exact SqT.of (D0.at_ kp ha (fun _ e => nomatch e))
  · rintro D hD i y H' hi ⟨us, es, D1, im, hl2, hp, kp⟩
    obtain ⟨hlt, _⟩ := List.getElem?_eq_some_iff.mp hi
    have hd : ds[i]? = some (ds[i]'(by omega)) := List.getElem?_eq_getElem _
    generalize ds[i]'(by omega) = dv at hd
    obtain ⟨y', hy', hiy⟩ := hs.get hd
    rw [hi] at hy'
    cases hy'
    have hul : us.length = i := by rw [im.length, hl2]
    refine hm _ _ _ _ _ ?_ (step i dv y H' (fun v H3 => ∃ acc, H3 D = some (.lst acc) ∧ acc.length < sizeLine ∧ ∃ us es, DrL (upd H3 D (.lst (acc ++ [v]))) d (L ++ [(D, .lst us)]) ∧ Ims (upd H3 D (.lst (acc ++ [v]))) us es ∧ es.length = i + 1 ∧ (∀ j e, es[j]? = some e → P j e) ∧ Keep [d] H (upd H3 D (.lst (acc ++ [v])))) _ hd kp (D0.im kp hiy) D1 (fun H2 v e k2 D2 imv pe => ?_))
    · rintro σ2 H2 ⟨e1, e2⟩
      exact ⟨e1, g_yes (g_ifT e2)⟩
    · have hD2 : H2 D = some (.lst us) := D2.get L.length (by simp)
      have D3 := D2.set (o' := .lst (us ++ [v])) L.length (by simp : (L ++ [(D, HO.lst us)])[L.length]? = some (D, HO.lst us))
      refine ⟨us, hD2, szl (by omega), us ++ [v], es ++ [e], ?_, ims_snoc (H2 := H2) (D1.ims k2 im) imv hD2, by rw [List.length_append, hl2]; rfl, fun j e' hj => ?_, (kp.trans k2).mut hD⟩
      · rw [show (L ++ [(D, HO.lst us)]).set L.length (D, HO.lst (us ++ [v])) = L ++ [(D, HO.lst (us ++ [v]))] by simp] at D3
        exact D3
      · by_cases hj2 : j < es.length
        · rw [List.getElem?_append_left hj2] at hj
          exact hp j e' hj
        · rw [List.getElem?_append_right (by omega)] at hj
          cases hk : j - es.length with
          | zero =>
            rw [hk] at hj
            simp only [List.getElem?_cons_zero, Option.some.injEq] at hj
            subst hj
            have : j = i := by omega
            rw [this]
            exact pe
          | succ m =>
            rw [hk] at hj
            simp at hj
  · rintro D hD H' ⟨us, es, D1, im, hl2, hp, kp⟩
    exact q D H' us es hD kp D1 im (by omega) hp
end

/-! ### sorted of a tuple of ints, of a list of ints; list(range()) -/
section
open PyProof.Rows
variable {prog : Program} {w0 : World} {A0 : Around} {E0' : Value → Shared → Prop} {st : Shared}
theorem gather_tup {q : Addr} {us : List Value} {R : List Value → Shared → Prop} (ht : st.heap.IsTuple q us.toArray)
    (hR : R us { st with heap := (st.heap.push (seqObj "list" #[] 0)).update st.heap.objs.size (Obj.mapSeq (· ++ us.toArray)) }) (hz : us.length ≤ sizeLine) :
    wpAny (model prog w0) A0 (collect (.ref q)) R E0' st := by
  obtain ⟨ob, hob, hcl, k, hdt⟩ := id ht
  unfold collect
  refine wpAny_bind (wpAny_runValue (codeAny_builtin entry_proto_collect' (R := _) ?_))
  show wpAny _ _ (do again (.builtin "list.__iadd__" ⟨[← newList [], .ref q], []⟩)) _ _ st
  refine wpAny_bind (wpAny_newList (wpAny_pure ⟨Code.quiet_builtin _ (by decide +kernel), codeAny_builtin entry_list_iadd' (R := _) ?_⟩))
  show wpAny _ _ (Builtin.List.listExtendWith (.ref st.heap.objs.size) (.ref q) (.ref st.heap.objs.size)) _ _ { st with heap := st.heap.push (seqObj "list" #[] 0) }
  unfold Builtin.List.listExtendWith
  have hob' : (st.heap.push (seqObj "list" #[] 0)).get? q = some ob := Heap.get?_push_of_some _ hob
  refine wpAny_bind (wpAny_typeOf (T := "tuple") ⟨ob, hob', hcl⟩ ?_)
  have h1 : (Value.type "tuple" == Value.type "tuple") = true := by rfl
  rw [if_pos (by rw [h1]; simp)]
  refine wpAny_bind (listItems_at hob' hdt ?_)
  refine wpAny_bind (listItems_at (xs := #[]) (n := 0) (Heap.get?_push_size _ (rfl : _ = _)) rfl ?_)
  rw [if_neg (by simp)]
  refine wpAny_bind (listUpdate_at (xs := #[]) (n := 0) (Heap.get?_push_size _ rfl) rfl ?_ (Nat.zero_le _) (by show (#[] ++ us.toArray).size ≤ sizeLine + 1; simp only [Array.size_append, List.size_toArray, List.length_nil]; omega))
  refine wpAny_pure ?_
  show wpAny (model prog w0) A0 (do
      let o ← load st.heap.objs.size
      match o.data with
      | .seq xs _ => pure xs.toList
      | _ => unsupported "internal:collect") R E0' { st with heap := (st.heap.push (seqObj "list" #[] 0)).update st.heap.objs.size (Obj.mapSeq (· ++ us.toArray)) }
  refine wpAny_bind (wpAny_load (get?_update_seq (Heap.get?_push_size _ (rfl : _ = _)) _) ?_)
  show wpAny _ _ (pure ((#[] : Array Value) ++ us.toArray).toList) R E0' _
  rw [show ((#[] : Array Value) ++ us.toArray).toList = us by simp]
  exact wpAny_pure hR
theorem sorted_tup {q : Addr} {us : List Value} {ms : List Int} {R : Value → Shared → Prop} (ht : st.heap.IsTuple q us.toArray) (hi : IntsAre us ms) (hz : us.length < 64)
    (hR : ∀ (out : Array Value) (ms' : List Int), IntsAre out.toList ms' → ms'.Perm ms → ms'.Pairwise (· ≤ ·) → R (.ref (st.heap.objs.size + 1)) { st with heap := sortedAll st.heap us out }) :
    wpAny (model prog w0) A0 (call (.builtin "sorted") [.ref q]) R E0' st := by
  have line : us.length ≤ sizeLine := by rw [sizeLine_eq]; omega
  refine Calls.call_function_entry kind_sorted plain_sorted entry_sorted (args_sorted1 (.ref q)) ?_
  unfold Builtin.«sorted»
  refine wpAny_bind (m := checkCount "sorted" 1 1 _) (wpAny_pure (wpAny_bind (gather_tup ht ?_ line)))
  have e1 : ((st.heap.push (seqObj "list" #[] 0)).update st.heap.objs.size (Obj.mapSeq (· ++ us.toArray))).objs.size = st.heap.objs.size + 1 := by rw [Heap.size_update, size_push']
  have e2 : (((st.heap.push (seqObj "list" #[] 0)).update st.heap.objs.size (Obj.mapSeq (· ++ us.toArray))).push (seqObj "list" us.toArray 0)).get? (st.heap.objs.size + 1) = some (seqObj "list" us.toArray 0) := by rw [← e1]; exact Heap.get?_push_size _ rfl
  refine wpAny_bind (wpAny_newList ?_ line)
  show wpAny _ _ _ _ _ { st with heap := ((st.heap.push (seqObj "list" #[] 0)).update st.heap.objs.size (Obj.mapSeq (· ++ us.toArray))).push (seqObj "list" us.toArray 0) }
  rw [e1]
  refine wpAny_bind (wpAny_holding (wpAny_call_entry slot_list_sort ⟨_, e2, rfl⟩ entry_list_sort (list_sort_tree e2 hi hz fun out ms' a1 a2 a3 => ⟨_, rfl, ?_⟩) (args_list_sort _)))
  exact wpAny_pure ⟨_, rfl, hR out ms' a1 a2 a3⟩
end
def rSortU (K : PySem.W.Frag) : List V → Hp → VK → Prop := fun vs H Q => ∃ (a : Addr) (ns : List Int), vs = [V.ref a] ∧ (SqL K H a (ns.map V.int) ∨ SqT K H a (ns.map V.int)) ∧ ns.length < 64 ∧
  ∀ (ns' : List Int) (p : Addr), ns'.Perm ns → ns'.Pairwise (· ≤ ·) → H p = none → Q (.ref p) (upd H p (.lst (ns'.map V.int)))
theorem c_sortU {X : Cx} {K : PySem.W.Frag} (hK : X.K = K) : CallR X (.builtin "sorted") (rSortU K) := by
  subst hK
  intro pins s σ H vs us Q I r h
  obtain ⟨a, ns, rfl, hq, h64, q⟩ := h
  rcases hq with hq | hq
  · exact cr_sorted pins s σ H _ us Q I r ⟨a, ns, rfl, hq, h64, q⟩
  · obtain ⟨its, rv, ht, _⟩ := I.tuple hq
    rw [Vals.ref1 r]
    have hi := rv.ints
    refine sorted_tup (show s.heap.IsTuple a its.toArray from ht) hi (by rw [hi.length]; exact h64) fun out ns' h1 h2 h3 => ?_
    obtain ⟨ep, he'⟩ := PyProof.Rows.sortedAll_at s.heap its out
    have hlen : (ns'.map V.int).length ≤ sizeLine := by rw [List.length_map, h2.length_eq]; exact small64 h64
    exact ⟨.ref _, upd H (s.heap.objs.size + 1) (.lst (ns'.map V.int)), I.laid (t' := s.toks) (fun _ _ => PyProof.Rows.sortedAll_old) (Nat.le_succ _) (show ObjOk X.prog X.w _ _ _ (.lst (ns'.map V.int)) from ⟨hlen, out.toList, ep, vals_of_ints h1, he'⟩), rfl, q ns' _ h2 h3 (I.hok.fresh (Nat.le_succ _))⟩
/-- two sorted lists of the same ints are the same -/
theorem sorted_eq : ∀ {l m : List Int}, l.Perm m → l.Pairwise (· ≤ ·) → m.Pairwise (· ≤ ·) → l = m
  | [], m, p, _, _ => (List.nil_perm.mp p).symm
  | a :: l, [], p, _, _ => absurd p.length_eq (by simp)
  | a :: l, b :: m, p, h1, h2 => by
    obtain ⟨a1, l1⟩ := List.pairwise_cons.mp h1
    obtain ⟨b1, m1⟩ := List.pairwise_cons.mp h2
    have hab : a = b := by
      have ha : a ∈ b :: m := p.mem_iff.mp List.mem_cons_self
      have hb : b ∈ a :: l := p.mem_iff.mpr List.mem_cons_self
      rcases List.mem_cons.mp ha with z | z
      · exact z
      · rcases List.mem_cons.mp hb with y | y
        · exact y.symm
        · have := a1 b y
          have := b1 a z
          omega
    subst hab
    rw [sorted_eq (List.perm_cons a |>.mp p) l1 m1]

/-! ### set(xs) of a list of ints (with doubles), sorted of it -/
section
open PyProof.Rows
variable {prog : Program} {w0 : World} {A0 : Around} {E0' : Value → Shared → Prop} {st : Shared}
/-- an empty set, just made -/
abbrev eSet (w0 : World) : Obj := { cls := .type "set", dict := none, data := .set #[] 0 (.fresh 0 0 (!w0.params.followText "set-order")) }
set_option maxHeartbeats 3200000 in
theorem set_of_list {q : Addr} {us : Array Value} (ms : List Int) {R : Value → Shared → Prop} (a0 : A0.handled = none) (hq : st.heap.IsList q us) (hi : IntsAre us.toList ms) (hz : ms.length + 1 < scanBound)
    (fin : ∀ (g : Heap) (tk k : Nat), SetR w0 g st.heap.objs.size (fun j => decide (j ∈ ms)) k → k ≤ ms.length → (∀ b o, st.heap.get? b = some o → g.get? b = some o) → R (.ref st.heap.objs.size) { st with heap := g, toks := tk }) :
    wpAny (model prog w0) A0 (call (.type "set") [.ref q]) R E0' st := by
  have usz : us.size = ms.length := by have z := IntsAre.length hi; rw [Array.length_toList] at z; exact z
  obtain ⟨c1, t1, mro⟩ := F.called_set.mro
  have m1 := F.called_set.made
  have m2 := F.called_set.sub
  refine wpAny_call (codeAny_of_tree (?_ : wpAny _ _ (callAny (.type "set") _) _ _ _))
  refine wpAny_pure ⟨Code.quiet_builtin _ (by decide +kernel), codeAny_builtin (F.entry_type_call : _ = _) ?_⟩
  rw [Around.under_plain (weight_type_call_type "set" [.ref q] []) rfl]
  have m3 := F.called_set.notType
  have m4 := F.called_set.canCreate
  have m5 := F.typeCall_set_1 (.ref q)
  repeat (any_goals (first | assumption | wp_step))
  refine codeAny_mono (code_set_led1 (.ref q) (E := E0') (Q₁ := fun ob s1 => ob = .ref st.heap.objs.size ∧ s1 = { st with heap := st.heap.push (eSet w0) }) ⟨rfl, rfl⟩) fun res s1 hres => ?_
  cases res with
  | error e => exact hres
  | ok fl =>
    cases fl with
    | ret ob =>
      obtain ⟨rfl, rfl⟩ := hres
      have at1 : (st.heap.push (eSet w0)).get? st.heap.objs.size = some (eSet w0) := Heap.get?_push_size _ rfl
      have ty1 : Shared.TypeIs { st with heap := st.heap.push (eSet w0) } (.ref st.heap.objs.size) "set" := ⟨_, at1, rfl⟩
      have i1 := F.called_set.init.lookup
      have i2 := F.called_set.init.bind (.ref st.heap.objs.size)
      repeat (any_goals (first | assumption | wp_step))
      refine codeAny_mono (codeAny_call_builtin (R := wants (fun r s2 => r = .none ∧ ∃ g tk k, s2 = { st with heap := g, toks := tk } ∧ SetR w0 g st.heap.objs.size (fun j => decide (j ∈ ms)) k ∧ k ≤ ms.length ∧ (∀ b o, st.heap.get? b = some o → g.get? b = some o)) E0') F.called_set.init.plain F.entry_set_init (check_set_init_1 ty1 ?_)) fun res2 s2 hres2 => ?_
      · obtain ⟨⟨oc, od, odt, osl⟩, ho, hcl, nl, hdt⟩ := hq
        simp only at hcl hdt
        subst hcl
        subst hdt
        have ho1 : (st.heap.push (eSet w0)).get? q = some { cls := .type "list", dict := od, data := .seq us nl, slots := osl } := Heap.get?_push_of_some _ ho
        have b1 := F.sub_list_set
        have b2 := F.sub_list_frozenset
        have b3 : (Value.type "list" == Value.type "dict") = false := (by decide : _)
        have lst1 : (st.heap.push (eSet w0)).IsList q us := ⟨_, ho1, rfl, nl, rfl⟩
        unfold Builtin.«set.__init__» noKeywords Builtin.Frozenset.updateFrom
        generalize hPI : pyIter = PI
        wp_walk
        subst hPI
        refine wpAny_pyIter_list lst1 (wpAny_bind (wpAny_runValue ?_))
        have qlt : q < st.heap.objs.size := Heap.lt_size ho
        have a3 : A0.in1.in1.in1.handled = none := by simp [a0]
        have sz1 : (st.heap.push (eSet w0)).objs.size = st.heap.objs.size + 1 := Heap.size_push ..
        have qne : q ≠ (st.heap.push (eSet w0)).objs.size := by rw [sz1]; exact Nat.ne_of_lt (Nat.lt_succ_of_lt qlt)
        have nin : st.heap.objs.size ∉ [(st.heap.push (eSet w0)).objs.size, q] := by
          rw [sz1]
          simp only [List.mem_cons, List.not_mem_nil, or_false, not_or]
          exact ⟨Nat.ne_of_lt (Nat.lt_succ_self _), Nat.ne_of_gt qlt⟩
        have vals : ∀ (i : Nat) (v : Value), us[i]? = some v → ∃ k t, ms[i]? = some k ∧ v = .int k t := fun i v hv => by
          have hlt : i < ms.length := by rw [← usz]; exact (Array.getElem?_eq_some_iff.mp hv).1
          obtain ⟨t, e⟩ := PyProof.Rows.IntsAre.int_at hi i v (by rw [Array.getElem?_toList]; exact hv)
          exact ⟨ms[i], t, List.getElem?_eq_getElem hlt, by rw [e, List.getD_eq_getElem?_getD, List.getElem?_eq_getElem hlt] <;> rfl⟩
        refine set_update_ints ((Walks.list a3 _ q qne us).toS) st.heap.objs.size nin ms usz hz vals (us.size - 0) 0 _ (by omega) (Nat.zero_le _) ⟨⟨_, Heap.get?_push_size _ rfl, rfl, rfl⟩, (lst1.push _)⟩ ?start ?end_
        case start => exact ⟨0, Nat.le_refl 0, setR_new_at (Heap.get?_push_of_some _ at1)⟩
        case end_ =>
          intro s3 k moved hk hset
          obtain ⟨g, gs, dr, tk, os3⟩ := s3
          have e1 : gs = st.gens := moved.gens
          have e2 : dr = st.drawn := moved.drawn
          have e3 : os3 = st.os := moved.os
          subst e1
          subst e2
          subst e3
          show wpAny _ _ _ _ _ _
          refine wpAny_pure (?_ : wpAny _ _ (ret Value.none) _ _ _)
          rw [usz] at hk
          refine wpAny_pure ⟨rfl, g, tk, k, rfl, hset, hk, fun b o e => ?_⟩
          have blt : b < st.heap.objs.size := Heap.lt_size e
          refine moved.heap b o ?_ (Heap.get?_push_of_some _ (Heap.get?_push_of_some _ e))
          rw [sz1]
          simp only [List.mem_cons, List.not_mem_nil, or_false, not_or]
          exact ⟨Nat.ne_of_lt blt, Nat.ne_of_lt (Nat.lt_succ_of_lt blt)⟩
      · cases res2 with
        | error e => exact hres2
        | ok fl2 =>
          cases fl2 with
          | ret r =>
            obtain ⟨rfl, g, tk, k, rfl, hset, hk, kp⟩ := hres2
            repeat (any_goals (first | assumption | wp_step))
            exact fin _ _ _ hset hk kp
          | _ => exact hres2.elim
    | _ => exact hres.elim
end
/-- set(xs) of ints -/
def rSetL (K : PySem.W.Frag) (w0 : World) : List V → Hp → VK → Prop := fun vs H Q => ∃ (a : Addr) (ns : List Int), vs = [V.ref a] ∧ SqL K H a (ns.map V.int) ∧ ns.length ≤ 1000 ∧
  ∀ (p : Addr) (k : Nat), k ≤ ns.length → H p = none → Q (.ref p) (upd H p (SetO w0 p (fun j => decide (j ∈ ns)) k))
theorem c_setL {X : Cx} {K : PySem.W.Frag} (hK : X.K = K) (hc : X.calm = true) : CallR X (.type "set") (rSetL K X.w) := by
  subst hK
  intro pins s σ H vs us Q I r h
  obtain ⟨a, ns, rfl, hq, hl, q⟩ := h
  obtain ⟨its, rv, pl, _⟩ := I.list hq
  rw [Vals.ref1 r]
  refine set_of_list ns (I.ok.hd hc) pl.isList (by simpa using rv.ints) (by unfold scanBound; omega) fun g tk k hset hk kp => ?_
  exact ⟨.ref _, upd H s.heap.objs.size (SetO X.w s.heap.objs.size (fun j => decide (j ∈ ns)) k), I.laid (t' := tk) kp (Nat.le_refl _) (setO_new hset), rfl, q _ k hk (I.hok.fresh (Nat.le_refl _))⟩
/-- sorted(set(xs)): ascending, the same ints -/
def rSetS (w0 : World) : List V → Hp → VK → Prop := rSortedSet w0
theorem c_setS {X : Cx} {w0 : World} (hw : X.w = w0) (hc : X.calm = true) : CallR X (.builtin "sorted") (rSetS w0) := by
  subst hw
  exact cr_sortedSet hc
section
variable {K : PySem.W.Frag} {w0 : World} {H : Hp} {Q : VK} {a p : Addr} {ns : List Int} {k : Nat}
theorem g_setL (h : SqL K H a (ns.map V.int)) (hl : ns.length ≤ 1000) (q : ∀ p k, k ≤ ns.length → H p = none → Q (.ref p) (upd H p (SetO w0 p (fun j => decide (j ∈ ns)) k))) : rSetL K w0 [.ref a] H Q := ⟨a, ns, rfl, h, hl, q⟩
theorem g_setS (h : H p = some (SetO w0 p (fun j => decide (j ∈ ns)) k)) (hk : k < 64) (q : ∀ (ms : List Int) q, ms.Pairwise (· < ·) → (∀ j : Int, j ∈ ms ↔ j ∈ ns) → ms.length = k → H q = none → Q (.ref q) (upd H q (.lst (ms.map V.int)))) : rSetS w0 [.ref p] H Q :=
  ⟨p, _, k, rfl, h, hk, fun ms q' h1 h2 h3 h4 => q ms q' h1 (fun j => (h2 j).trans (by simp)) h3 h4⟩
end
/-- ascending lists of the same ints are the same -/
theorem asc_eq : ∀ {l m : List Int}, l.Pairwise (· < ·) → m.Pairwise (· < ·) → (∀ j, j ∈ l ↔ j ∈ m) → l = m
  | [], [], _, _, _ => rfl
  | [], b :: m, _, _, h => absurd ((h b).mpr List.mem_cons_self) (by simp)
  | a :: l, [], _, _, h => absurd ((h a).mp List.mem_cons_self) (by simp)
  | a :: l, b :: m, h1, h2, h => by
    obtain ⟨a1, l1⟩ := List.pairwise_cons.mp h1
    obtain ⟨b1, m1⟩ := List.pairwise_cons.mp h2
    have hab : a = b := by
      rcases List.mem_cons.mp ((h a).mp List.mem_cons_self) with z | z
      · exact z
      · rcases List.mem_cons.mp ((h b).mpr List.mem_cons_self) with y | y
        · exact y.symm
        · have := a1 b y
          have := b1 a z
          omega
    subst hab
    congr 1
    refine asc_eq l1 m1 fun j => ?_
    constructor
    · intro hj
      rcases List.mem_cons.mp ((h j).mp (List.mem_cons_of_mem _ hj)) with z | z
      · have := a1 j hj
        omega
      · exact z
    · intro hj
      rcases List.mem_cons.mp ((h j).mpr (List.mem_cons_of_mem _ hj)) with z | z
      · have := b1 j hj
        omega
      · exact z

def rLstU (K : PySem.W.Frag) : List V → Hp → VK → Prop := fun xs H Q => ∃ p ys, xs = [.ref p] ∧ (SqL K H p ys ∨ SqT K H p ys) ∧ ∀ l, H l = none → Q (.ref l) (upd H l (.lst ys))
theorem c_list {X : Cx} {K : PySem.W.Frag} (hK : X.K = K) : CallR X (.type "list") (rLstU K) := by
  subst hK
  exact call_list_of
def rSumK (K : PySem.W.Frag) : List V → Hp → VK → Prop := rSum K
theorem c_sumK {X : Cx} {K : PySem.W.Frag} (hK : X.K = K) (hc : X.calm = true) : CallR X (.builtin "sum") (rSumK K) := by
  subst hK
  exact cr_sum hc
theorem g_sum {K : PySem.W.Frag} {H : Hp} {Q : VK} {a : Addr} {ns : List Int} (h : SqL K H a (ns.map V.int)) (q : Q (.int ns.sum) H) : rSumK K [.ref a] H Q := ⟨a, ns, rfl, h, q⟩


/-! ### the cache -/
structure CSt where
  S : Nat
  W : Nat
  Z : Nat
  P : Str
  pl : List (List (Option Int))
  tm : List (List Int)
  pt : List (List Int)
  t : Int
def ovV : Option Int → V
  | none => .non
  | some i => .int i
abbrev plR (c : CSt) : List (List V) := c.pl.map (·.map ovV)
abbrev tmR (c : CSt) : List (List V) := c.tm.map (·.map V.int)
abbrev ptR (c : CSt) : List (List V) := c.pt.map (·.map V.int)
/-- where a cache's objects stand -/
structure CAd where
  p : Addr
  dx : Addr
  A : Addr
  B : Addr
  G : Addr
  as : List Addr
  bs : List Addr
  gs : List Addr
abbrev caO (K : PySem.W.Frag) (d : CAd) (c : CSt) : HO := .ins (He.ga K "Cache") d.dx (fs_Cache (.int c.S) (.int c.W) (.int c.Z) (.str c.P) (.ref d.A) (.ref d.B) (.ref d.G) (.int c.t))
abbrev caF (K : PySem.W.Frag) (d : CAd) (c : CSt) : List (Addr × HO) := [(d.p, caO K d c), (d.A, .lst (d.as.map V.ref)), (d.B, .lst (d.bs.map V.ref)), (d.G, .lst (d.gs.map V.ref))]
abbrev CaL (K : PySem.W.Frag) (d : CAd) (c : CSt) : List (Addr × HO) := caF K d c ++ (tab d.as (plR c) ++ (tab d.bs (tmR c) ++ (tab d.gs (ptR c) ++ [])))
structure CWf (d : CAd) (c : CSt) : Prop where
  s0 : 0 < c.S
  s1 : c.S ≤ 1000
  w0 : 0 < c.W
  w1 : c.W ≤ 1000
  z0 : 0 < c.Z
  z1 : c.Z ≤ 1000000
  la : d.as.length = c.S
  lb : d.bs.length = c.S
  lg : d.gs.length = c.S
  lp : c.pl.length = c.S
  lt : c.tm.length = c.S
  lq : c.pt.length = c.S
  rp : ∀ r ∈ c.pl, r.length = c.W
  rt : ∀ r ∈ c.tm, r.length = c.W
  rq : ∀ r ∈ c.pt, r.length = c.W ∧ ∀ x ∈ r, x = 0 ∨ x = 1
section
variable {K : PySem.W.Frag} {H : Hp} {d : CAd} {c : CSt} {i : Nat} {a : Addr}
theorem ca_pl {r : List (Option Int)} (M : Has H (CaL K d c)) (ha : d.as[i]? = some a) (hr : c.pl[i]? = some r) : H a = some (.lst (r.map ovV)) :=
  M.tabGet ha (by rw [List.getElem?_map, hr]; rfl)
theorem ca_pl_set {r r' : List (Option Int)} (M : Has H (CaL K d c)) (ha : d.as[i]? = some a) (hr : c.pl[i]? = some r) : Has (upd H a (.lst (r'.map ovV))) (CaL K d { c with pl := c.pl.set i r' }) := by
  have z := M.tabSet (r' := r'.map ovV) ha (by rw [List.getElem?_map, hr]; rfl)
  rw [← List.map_set (f := fun x => List.map ovV x)] at z
  exact z
theorem ca_tm {r : List Int} (M : Has H (CaL K d c)) (ha : d.bs[i]? = some a) (hr : c.tm[i]? = some r) : H a = some (.lst (r.map V.int)) := by
  have M' : Has H ((caF K d c ++ tab d.as (plR c)) ++ (tab d.bs (tmR c) ++ (tab d.gs (ptR c) ++ []))) := by
    rw [List.append_assoc]
    exact M
  exact M'.tabGet ha (by rw [List.getElem?_map, hr]; rfl)
theorem ca_tm_set {r r' : List Int} (M : Has H (CaL K d c)) (ha : d.bs[i]? = some a) (hr : c.tm[i]? = some r) : Has (upd H a (.lst (r'.map V.int))) (CaL K d { c with tm := c.tm.set i r' }) := by
  have M' : Has H ((caF K d c ++ tab d.as (plR c)) ++ (tab d.bs (tmR c) ++ (tab d.gs (ptR c) ++ []))) := by
    rw [List.append_assoc]
    exact M
  have z := M'.tabSet (r' := r'.map V.int) ha (by rw [List.getElem?_map, hr]; rfl)
  rw [← List.map_set (f := fun x => List.map V.int x), List.append_assoc] at z
  exact z
theorem ca_pt {r : List Int} (M : Has H (CaL K d c)) (ha : d.gs[i]? = some a) (hr : c.pt[i]? = some r) : H a = some (.lst (r.map V.int)) := by
  have M' : Has H (((caF K d c ++ tab d.as (plR c)) ++ tab d.bs (tmR c)) ++ (tab d.gs (ptR c) ++ [])) := by
    rw [List.append_assoc, List.append_assoc]
    exact M
  exact M'.tabGet ha (by rw [List.getElem?_map, hr]; rfl)
theorem ca_pt_set {r r' : List Int} (M : Has H (CaL K d c)) (ha : d.gs[i]? = some a) (hr : c.pt[i]? = some r) : Has (upd H a (.lst (r'.map V.int))) (CaL K d { c with pt := c.pt.set i r' }) := by
  have M' : Has H (((caF K d c ++ tab d.as (plR c)) ++ tab d.bs (tmR c)) ++ (tab d.gs (ptR c) ++ [])) := by
    rw [List.append_assoc, List.append_assoc]
    exact M
  have z := M'.tabSet (r' := r'.map V.int) ha (by rw [List.getElem?_map, hr]; rfl)
  rw [← List.map_set (f := fun x => List.map V.int x), List.append_assoc, List.append_assoc] at z
  exact z
end

/-! rows of places -/
theorem eqV_ov {y x : Option Int} : eqV (ovV y) (ovV x) = decide (y = x) := by
  cases y <;> cases x
  · rfl
  · rfl
  · rfl
  · rename_i a b
    show (a == b) = _
    by_cases h : a = b
    · subst h; simp
    · rw [beq_eq_false_iff_ne.mpr h]; simp [h]
theorem flat_ov {r : List (Option Int)} : (r.map ovV).all flatV = true := by
  rw [List.all_eq_true]
  intro v hv
  obtain ⟨o, _, rfl⟩ := List.mem_map.mp hv
  cases o <;> rfl
theorem inV_ov {x : Option Int} {r : List (Option Int)} : inV (ovV x) (r.map ovV) = decide (x ∈ r) := by
  unfold inV
  induction r with
  | nil => simp
  | cons y r ih =>
    rw [List.map_cons, List.any_cons, ih, eqV_ov]
    by_cases h : y = x
    · subst h; simp
    · have h' : ¬ x = y := fun e => h e.symm
      simp [h, h']
/-- the first place of x -/
def ixo (x : Option Int) (r : List (Option Int)) : Nat := r.findIdx fun y => decide (y = x)
theorem ixo_lt {x : Option Int} {r : List (Option Int)} (h : x ∈ r) : ixo x r < r.length := List.findIdx_lt_length_of_exists ⟨x, h, by simp⟩
theorem ixo_at {x : Option Int} {r : List (Option Int)} (h : x ∈ r) : r[ixo x r]? = some x := by
  have z := List.findIdx_getElem (w := ixo_lt h)
  rw [List.getElem?_eq_getElem (ixo_lt h)]
  rw [decide_eq_true_eq] at z
  exact congrArg some z
theorem ixo_no {x y : Option Int} {r : List (Option Int)} {m : Nat} (h : m < ixo x r) (e : r[m]? = some y) : y ≠ x := by
  have hm : m < r.length := (List.getElem?_eq_some_iff.mp e).1
  have z := List.not_of_lt_findIdx h
  rw [List.getElem?_eq_getElem hm] at e
  cases e
  simpa using z
theorem g_inO {K : PySem.W.Frag} {H : Hp} {Q : VK} {neg : Bool} {x : Option Int} {v : V} {p : Addr} {r : List (Option Int)} (hv : v = ovV x) (h : H p = some (.lst (r.map ovV))) (q : Q (.bl (if neg then !decide (x ∈ r) else decide (x ∈ r))) H) : rInU K neg v (.ref p) H Q := by
  subst hv
  refine .inl ⟨p, r.map ovV, rfl, .inl (SqL.of h), by cases x <;> rfl, flat_ov, ?_⟩
  rw [inV_ov]
  exact q
theorem g_indexO {K : PySem.W.Frag} {H : Hp} {Q : VK} {x : Option Int} {v : V} {p : Addr} {r : List (Option Int)} (hv : v = ovV x) (h : H p = some (.lst (r.map ovV))) (hm : x ∈ r) (q : Q (.int (ixo x r : Nat)) H) : rIndexU K (.ref p) [v] H Q := by
  subst hv
  refine g_index (SqL.of h) (by cases x <;> rfl) flat_ov (j := ixo x r) (z := ovV x) (by rw [List.getElem?_map, ixo_at hm]; rfl) (by rw [eqV_ov]; simp) (fun m z' hm' hz => ?_) q
  rw [List.getElem?_map] at hz
  cases e : r[m]? with
  | none => rw [e] at hz; cases hz
  | some y =>
    rw [e] at hz
    cases hz
    rw [eqV_ov]
    exact decide_eq_false (ixo_no hm' e)
/-- the first place of the least -/
def mnI (r : List Int) : Nat := r.findIdx fun y => r.all fun z => decide (y ≤ z)
theorem mnI_eq {r : List Int} {m : Int} (h1 : m ∈ r) (h2 : ∀ y ∈ r, m ≤ y) : mnI r = r.findIdx fun y => decide (y = m) := by
  unfold mnI
  have : ∀ (l : List Int), (∀ y ∈ l, y ∈ r) → l.findIdx (fun y => r.all fun z => decide (y ≤ z)) = l.findIdx fun y => decide (y = m) := by
    intro l
    induction l with
    | nil => intro _; rfl
    | cons y l ih =>
      intro hl
      have e : (r.all fun z => decide (y ≤ z)) = decide (y = m) := by
        by_cases hy : y = m
        · subst hy
          rw [decide_eq_true (rfl : y = y), List.all_eq_true]
          exact fun z hz => decide_eq_true (h2 z hz)
        · rw [decide_eq_false hy]
          rw [Bool.eq_false_iff]
          intro ha
          rw [List.all_eq_true] at ha
          have z1 := of_decide_eq_true (ha m h1)
          have z2 := h2 y (hl y (by simp))
          exact hy (by omega)
      rw [List.findIdx_cons, List.findIdx_cons, e, ih fun z hz => hl z (by simp [hz])]
  exact this r fun _ h => h
theorem ixi_lt {x : Int} {r : List Int} (h : x ∈ r) : r.findIdx (fun y => decide (y = x)) < r.length := List.findIdx_lt_length_of_exists ⟨x, h, by simp⟩
theorem g_indexI {K : PySem.W.Frag} {H : Hp} {Q : VK} {x : Int} {p : Addr} {r : List Int} (h : SqL K H p (r.map V.int)) (hm : x ∈ r) (q : Q (.int (r.findIdx (fun y => decide (y = x)) : Nat)) H) : rIndexU K (.ref p) [.int x] H Q := by
  have fl : (r.map V.int).all flatV = true := by
    rw [List.all_eq_true]
    intro v hv
    obtain ⟨o, _, rfl⟩ := List.mem_map.mp hv
    rfl
  have ev : ∀ y : Int, eqV (.int y) (.int x) = decide (y = x) := fun y => by
    show (y == x) = _
    by_cases h : y = x
    · subst h; simp
    · rw [beq_eq_false_iff_ne.mpr h]; simp [h]
  have hlt := ixi_lt hm
  have z := List.findIdx_getElem (w := hlt)
  rw [decide_eq_true_eq] at z
  refine g_index h rfl fl (z := .int x) (by rw [List.getElem?_map, List.getElem?_eq_getElem hlt, z]; rfl) (by rw [ev]; simp) (fun m z' hm' hz => ?_) q
  rw [List.getElem?_map] at hz
  have hl : m < r.length := by omega
  rw [List.getElem?_eq_getElem hl] at hz
  cases hz
  rw [ev]
  have w := List.not_of_lt_findIdx hm'
  simpa using w

/-! what a cache does -/
def tmv (c : CSt) (n : Nat) : List Int := c.tm.getD n []
def ptv (c : CSt) (n : Nat) : List Int := c.pt.getD n []
def row (c : CSt) (n : Nat) : List (Option Int) := c.pl.getD n []
def ptGo (r : List Int) (W : Nat) : Nat → Nat → Nat
  | 0, node => node
  | f + 1, node => if node < W then ptGo r W f (2 * node + (r.getD node 0).toNat) else node
def tnGo : Nat → Nat → List Int → List Int
  | 0, _, r => r
  | f + 1, node, r => if 1 < node then tnGo f (node / 2) (r.set (node / 2) (1 - (node : Int) % 2)) else r
abbrev ptV (r : List Int) (W : Nat) : Nat := ptGo r W W 1 - W
abbrev tnV (r : List Int) (W place : Nat) : List Int := tnGo (place + W) (place + W) r
def fpV (c : CSt) (n : Nat) : Nat := if none ∈ row c n then ixo none (row c n) else if c.P = "plru" then ptV (ptv c n) c.W else mnI (tmv c n)
def lnO (c : CSt) (x : Int) : Int := x / (c.Z : Int)
def nmO (c : CSt) (x : Int) : Nat := (lnO c x % (c.S : Int)).toNat
abbrev hitV (c : CSt) (x : Int) : Prop := some (lnO c x) ∈ row c (nmO c x)
def plO (c : CSt) (x : Int) : Nat := if hitV c x then ixo (some (lnO c x)) (row c (nmO c x)) else fpV c (nmO c x)
/-- the state behind a touch -/
def tcV (c : CSt) (x : Int) : CSt := { c with
  t := c.t + 1
  pl := if hitV c x then c.pl else c.pl.set (nmO c x) ((row c (nmO c x)).set (plO c x) (some (lnO c x)))
  tm := if ¬ hitV c x ∨ c.P = "lru" then c.tm.set (nmO c x) ((tmv c (nmO c x)).set (plO c x) (c.t + 1)) else c.tm
  pt := if c.P = "plru" then c.pt.set (nmO c x) (tnV (ptv c (nmO c x)) c.W (plO c x)) else c.pt }
/-- the state behind a drop -/
def dpV (c : CSt) (x : Int) : CSt := { c with
  pl := if hitV c x then c.pl.set (nmO c x) ((row c (nmO c x)).set (ixo (some (lnO c x)) (row c (nmO c x))) none) else c.pl }
theorem getD_some {α : Type} {l : List α} {n : Nat} {d : α} (h : n < l.length) : l[n]? = some (l.getD n d) := by
  rw [List.getD_eq_getElem?_getD, List.getElem?_eq_getElem h]
  rfl
theorem getD_mem {α : Type} {l : List α} {n : Nat} {d : α} (h : n < l.length) : l.getD n d ∈ l := List.mem_of_getElem? (getD_some h)
theorem ref_at {as : List Addr} {n : Nat} (h : n < as.length) : ∃ a, as[n]? = some a ∧ (as.map V.ref)[n]? = some (.ref a) := ⟨_, List.getElem?_eq_getElem h, by rw [List.getElem?_map, List.getElem?_eq_getElem h]; rfl⟩
section
variable {d : CAd} {c : CSt} {n : Nat} {x : Int}
theorem CWf.rowL (wf : CWf d c) (h : n < c.S) : (row c n).length = c.W := wf.rp _ (getD_mem (by rw [wf.lp]; exact h))
theorem CWf.tmL (wf : CWf d c) (h : n < c.S) : (tmv c n).length = c.W := wf.rt _ (getD_mem (by rw [wf.lt]; exact h))
theorem CWf.ptL (wf : CWf d c) (h : n < c.S) : (ptv c n).length = c.W := (wf.rq _ (getD_mem (by rw [wf.lq]; exact h))).1
theorem CWf.pt01 (wf : CWf d c) (h : n < c.S) : ∀ x ∈ ptv c n, x = 0 ∨ x = 1 := (wf.rq _ (getD_mem (by rw [wf.lq]; exact h))).2
theorem CWf.nm (wf : CWf d c) (x : Int) : nmO c x < c.S ∧ lnO c x % (c.S : Int) = (nmO c x : Int) := by
  have h0 := wf.s0
  have h1 := Int.emod_nonneg (lnO c x) (b := (c.S : Int)) (by omega)
  have h2 := Int.emod_lt_of_pos (lnO c x) (b := (c.S : Int)) (by omega)
  unfold nmO
  omega
theorem pt_at (r : List Int) (h : ∀ x ∈ r, x = 0 ∨ x = 1) {m : Nat} (hm : m < r.length) : r[m]? = some (((r.getD m 0).toNat : Nat) : Int) ∧ (r.getD m 0).toNat ≤ 1 := by
  have e := getD_some (d := (0 : Int)) hm
  rcases h _ (getD_mem (d := (0 : Int)) hm) with z | z <;> (rw [z] at e ⊢; exact ⟨e, by decide⟩)
theorem ptGo_b {r : List Int} {W : Nat} (h : ∀ x ∈ r, x = 0 ∨ x = 1) (hr : r.length = W) : ∀ f node, 1 ≤ node → node < 2 * W → W ≤ node + f → W ≤ ptGo r W f node ∧ ptGo r W f node < 2 * W
  | 0, node, _, h2, h3 => ⟨by simpa [ptGo] using h3, by simpa [ptGo] using h2⟩
  | f + 1, node, h1, h2, h3 => by
    unfold ptGo
    split
    · rename_i hl
      have := (pt_at r h (m := node) (by omega)).2
      exact ptGo_b h hr f _ (by omega) (by omega) (by omega)
    · omega
theorem ptGo_mono {r : List Int} {W : Nat} : ∀ f g node, 1 ≤ node → W ≤ node + f → f ≤ g → ptGo r W g node = ptGo r W f node
  | 0, 0, _, _, _, _ => rfl
  | 0, g + 1, node, _, h, _ => by unfold ptGo; rw [if_neg (by omega)]
  | f + 1, 0, _, _, _, h => by omega
  | f + 1, g + 1, node, h1, h, hg => by
    unfold ptGo
    split
    · exact ptGo_mono f g _ (by omega) (by omega) (by omega)
    · rfl
theorem ptGo_step {r : List Int} {W node : Nat} (h1 : 1 ≤ node) (h : node < W) : ptGo r W W node = ptGo r W W (2 * node + (r.getD node 0).toNat) := by
  have e : ptGo r W (W + 1) node = ptGo r W W node := ptGo_mono W (W + 1) node h1 (by omega) (by omega)
  rw [← e]
  rw [show ptGo r W (W + 1) node = if node < W then ptGo r W W (2 * node + (r.getD node 0).toNat) else node from rfl, if_pos h]
theorem ptGo_end {r : List Int} {W f node : Nat} (h : W ≤ node) : ptGo r W f node = node := by
  cases f with
  | zero => rfl
  | succ f => unfold ptGo; rw [if_neg (by omega)]
theorem tnGo_mono : ∀ f g node r, node ≤ f → f ≤ g → tnGo g node r = tnGo f node r
  | 0, 0, _, _, _, _ => rfl
  | 0, g + 1, node, r, h, _ => by unfold tnGo; rw [if_neg (by omega)]
  | f + 1, 0, _, _, _, h => by omega
  | f + 1, g + 1, node, r, h, hg => by
    unfold tnGo
    split
    · exact tnGo_mono f g _ _ (by omega) (by omega)
    · rfl
theorem tnGo_step {f node : Nat} {r : List Int} (h : 1 < node) (hf : node ≤ f) : tnGo f node r = tnGo f (node / 2) (r.set (node / 2) (1 - (node : Int) % 2)) := by
  have e : tnGo (f + 1) node r = tnGo f node r := tnGo_mono f (f + 1) node r hf (by omega)
  rw [← e]
  rw [show tnGo (f + 1) node r = if 1 < node then tnGo f (node / 2) (r.set (node / 2) (1 - (node : Int) % 2)) else r from rfl, if_pos h]
theorem tnGo_end {f node : Nat} {r : List Int} (h : node ≤ 1) : tnGo f node r = r := by
  cases f with
  | zero => rfl
  | succ f => unfold tnGo; rw [if_neg (by omega)]
theorem tnGo_len : ∀ {f node : Nat} {r : List Int}, (tnGo f node r).length = r.length
  | 0, _, _ => rfl
  | f + 1, node, r => by
    unfold tnGo
    split
    · rw [tnGo_len, List.length_set]
    · rfl
theorem tnGo_01 : ∀ {f node : Nat} {r : List Int}, (∀ x ∈ r, x = 0 ∨ x = 1) → ∀ x ∈ tnGo f node r, x = 0 ∨ x = 1
  | 0, _, _, h => h
  | f + 1, node, r, h => by
    unfold tnGo
    split
    · refine tnGo_01 fun x hx => ?_
      rcases List.mem_or_eq_of_mem_set hx with hx | hx
      · exact h x hx
      · omega
    · exact h
theorem mnI_lt {r : List Int} (h : 0 < r.length) : mnI r < r.length := by
  have : ∀ l : List Int, l ≠ [] → ∃ m ∈ l, ∀ z ∈ l, m ≤ z := by
    intro l
    induction l with
    | nil => intro h; exact (h rfl).elim
    | cons x l ih =>
      intro _
      by_cases hl : l = []
      · subst hl
        exact ⟨x, by simp, by simp⟩
      · obtain ⟨m, hm, hz⟩ := ih hl
        by_cases hx : x ≤ m
        · refine ⟨x, by simp, fun z hz' => ?_⟩
          rcases List.mem_cons.mp hz' with e | e
          · omega
          · have := hz z e; omega
        · refine ⟨m, by simp [hm], fun z hz' => ?_⟩
          rcases List.mem_cons.mp hz' with e | e
          · omega
          · exact hz z e
  obtain ⟨m, hm, hz⟩ := this r (by intro e; subst e; simp at h)
  rw [mnI_eq hm hz]
  exact ixi_lt hm
theorem CWf.fp (wf : CWf d c) (h : n < c.S) : fpV c n < c.W := by
  have h0 := wf.w0
  unfold fpV
  split
  · rename_i hm
    have := ixo_lt hm
    rw [wf.rowL h] at this
    exact this
  · split
    · have := ptGo_b (wf.pt01 h) (wf.ptL h) c.W 1 (by omega) (by omega) (by omega)
      unfold ptV
      omega
    · have := mnI_lt (r := tmv c n) (by rw [wf.tmL h]; exact h0)
      rw [wf.tmL h] at this
      exact this
theorem CWf.pl_ (wf : CWf d c) : plO c x < c.W := by
  have h := (wf.nm x).1
  unfold plO
  split
  · rename_i hm
    have := ixo_lt hm
    rw [wf.rowL h] at this
    exact this
  · exact wf.fp h
theorem CWf.tc (wf : CWf d c) : CWf d (tcV c x) := by
  have h := (wf.nm x).1
  refine ⟨wf.s0, wf.s1, wf.w0, wf.w1, wf.z0, wf.z1, wf.la, wf.lb, wf.lg, ?_, ?_, ?_, ?_, ?_, ?_⟩
  · show (if _ then _ else _ : List (List (Option Int))).length = c.S
    split
    · exact wf.lp
    · rw [List.length_set]; exact wf.lp
  · show (if _ then _ else _ : List (List Int)).length = c.S
    split
    · rw [List.length_set]; exact wf.lt
    · exact wf.lt
  · show (if _ then _ else _ : List (List Int)).length = c.S
    split
    · rw [List.length_set]; exact wf.lq
    · exact wf.lq
  · intro r hr
    have hr' : r ∈ (if hitV c x then c.pl else c.pl.set (nmO c x) ((row c (nmO c x)).set (plO c x) (some (lnO c x)))) := hr
    split at hr'
    · exact wf.rp r hr'
    · rcases List.mem_or_eq_of_mem_set hr' with e | e
      · exact wf.rp r e
      · rw [e, List.length_set]; exact wf.rowL h
  · intro r hr
    have hr' : r ∈ (if ¬ hitV c x ∨ c.P = "lru" then c.tm.set (nmO c x) ((tmv c (nmO c x)).set (plO c x) (c.t + 1)) else c.tm) := hr
    split at hr'
    · rcases List.mem_or_eq_of_mem_set hr' with e | e
      · exact wf.rt r e
      · rw [e, List.length_set]; exact wf.tmL h
    · exact wf.rt r hr'
  · intro r hr
    have hr' : r ∈ (if c.P = "plru" then c.pt.set (nmO c x) (tnV (ptv c (nmO c x)) c.W (plO c x)) else c.pt) := hr
    split at hr'
    · rcases List.mem_or_eq_of_mem_set hr' with e | e
      · exact wf.rq r e
      · rw [e]
        exact ⟨tnGo_len.trans (wf.ptL h), tnGo_01 (wf.pt01 h)⟩
    · exact wf.rq r hr'
theorem CWf.dp (wf : CWf d c) : CWf d (dpV c x) := by
  have h := (wf.nm x).1
  refine ⟨wf.s0, wf.s1, wf.w0, wf.w1, wf.z0, wf.z1, wf.la, wf.lb, wf.lg, ?_, wf.lt, wf.lq, ?_, wf.rt, wf.rq⟩
  · show (if _ then _ else _ : List (List (Option Int))).length = c.S
    split
    · rw [List.length_set]; exact wf.lp
    · exact wf.lp
  · intro r hr
    have hr' : r ∈ (if hitV c x then c.pl.set (nmO c x) ((row c (nmO c x)).set (ixo (some (lnO c x)) (row c (nmO c x))) none) else c.pl) := hr
    split at hr'
    · rcases List.mem_or_eq_of_mem_set hr' with e | e
      · exact wf.rp r e
      · rw [e, List.length_set]; exact wf.rowL h
    · exact wf.rp r hr'
end
/-! where a cache's objects stand -/
def CaA (d : CAd) : List Addr := [d.p, d.A, d.B, d.G] ++ (d.as ++ (d.bs ++ (d.gs ++ [])))
theorem ca_fst {K : PySem.W.Frag} {d : CAd} {c : CSt} (wf : CWf d c) : (CaL K d c).map (·.1) = CaA d := by
  unfold CaL CaA caF
  rw [List.map_append, List.map_append, List.map_append, List.map_append, tab_fst (by rw [wf.la, List.length_map, wf.lp]), tab_fst (by rw [wf.lb, List.length_map, wf.lt]), tab_fst (by rw [wf.lg, List.length_map, wf.lq])]
  rfl
theorem caA_p {d : CAd} : d.p ∈ CaA d := by simp [CaA]
theorem caA_a {d : CAd} {n : Nat} {a : Addr} (h : d.as[n]? = some a) : a ∈ CaA d := by have := List.mem_of_getElem? h; simp [CaA, this]
theorem caA_b {d : CAd} {n : Nat} {a : Addr} (h : d.bs[n]? = some a) : a ∈ CaA d := by have := List.mem_of_getElem? h; simp [CaA, this]
theorem caA_g {d : CAd} {n : Nat} {a : Addr} (h : d.gs[n]? = some a) : a ∈ CaA d := by have := List.mem_of_getElem? h; simp [CaA, this]
def sp_Cache_line_of (K : PySem.W.Frag) : Sp := fun vs H Q _ => ∃ (d : CAd) (c : CSt) (x : Int), vs = [.ref d.p, .int x] ∧ Has H (CaL K d c) ∧ CWf d c ∧ Q (.int (x / (c.Z : Int))) H
theorem sc_Cache_line_of : FnScope ["self", "address"] ["self", "address"] (defScope (inClass (topS 2) 1)) := ⟨rfl, rfl, rfl, by decide +kernel, rfl, by decide +kernel, by decide +kernel⟩
theorem mt_Cache_line_of (T : Txt fa fn K mg (XOk cs xcs K w)) : Mt P w K mg base CX0 1 "Cache" "line_of" ["self", "address"] (sp_Cache_line_of K) := by
  refine mk_mt (d := mOf "Cache" "line_of" "Cache.line_of" (inClass (topS 2) 1)) T 52 rfl rfl rfl rfl sc_Cache_line_of (by walk_at "len") (fun _ _ _ _ _ _ us hl => match us, hl with | [_, _], _ => rfl) (fun cdv A outer s H vs Q E hr h => ⟨_, (pss_one (ps_ret (pe_op o_fdiv (pv 1) (pe_fldU (K := K) rfl (pv 0) rfl)))), ?_⟩)
  obtain ⟨d, c, x, rfl, M, wf, hQ⟩ := h
  have z0 := wf.z0
  have z1 := wf.z1
  walk_at "go"
  exact hQ
def sp_Cache_places (K : PySem.W.Frag) : Sp := fun vs H Q _ => ∃ (d : CAd) (c : CSt) (n : Nat), vs = [.ref d.p, .int n] ∧ Has H (CaL K d c) ∧ CWf d c ∧ n < c.S ∧ ∀ p H', Same H H' → H' p = some (.tup ((row c n).map ovV)) → Q (.ref p) H'
def sp_Cache_pointed_place (K : PySem.W.Frag) : Sp := fun vs H Q _ => ∃ (d : CAd) (c : CSt) (n : Nat), vs = [.ref d.p, .int n] ∧ Has H (CaL K d c) ∧ CWf d c ∧ n < c.S ∧ Q (.int (ptV (ptv c n) c.W : Nat)) H
theorem sc_Cache_pointed_place : FnScope ["self", "number", "pointers", "node"] ["self", "number"] (defScope (inClass (topS 2) 5)) := ⟨rfl, rfl, rfl, by decide +kernel, rfl, by decide +kernel, by decide +kernel⟩
theorem mt_Cache_pointed_place (T : Txt fa fn K mg (XOk cs xcs K w)) : Mt P w K mg base CX0 1 "Cache" "pointed_place" ["self", "number"] (sp_Cache_pointed_place K) := by
  refine mk_mt (d := mOf "Cache" "pointed_place" "Cache.pointed_place" (inClass (topS 2) 5)) T 56 rfl rfl rfl rfl sc_Cache_pointed_place (by walk_at "len") (fun _ _ _ _ _ _ us hl => match us, hl with | [_, _], _ => rfl) (fun cdv A outer s H vs Q E hr h => ⟨_, (pss_cons (ps_set (i := 2) sc_Cache_pointed_place.nd rfl (.inl rfl) (pe_ixU (K := K) rfl (hu_of hr) (pe_fldU (K := K) rfl (pv 0) rfl) (pv 1)))
      (pss_cons (ps_set (i := 3) sc_Cache_pointed_place.nd rfl (.inl rfl) pe_int)
      (pss_cons (ps_while PassesOwn.never (pt_cmpR o_lt (pv 3) (pe_fldU (K := K) rfl (pv 0) rfl) (nomark _)) (pss_one (ps_set (i := 3) sc_Cache_pointed_place.nd rfl (.inl rfl) (pe_op (op_addU (K := K) rfl) (pe_op op_mulU pe_int (pv 3)) (pe_ixU (K := K) rfl (hu_of hr) (pv 2) (pv 3))))))
      (pss_one (ps_ret (pe_op op_sub (pv 3) (pe_fldU (K := K) rfl (pv 0) rfl))))))), ?_⟩)
  obtain ⟨d, c, n, rfl, M, wf, hn, hQ⟩ := h
  obtain ⟨a, ha, ha2⟩ := ref_at (as := d.gs) (n := n) (by rw [wf.lg]; exact hn)
  have hr := ca_pt M ha (getD_some (d := []) (by rw [wf.lq]; exact hn))
  have hw := wf.w0
  have hw1 := wf.w1
  walk_at "go"
  refine g_ixL (SqL.of (M.get 3 rfl)) rfl ha2 ?_
  walk_at "go"
  refine ⟨fun m σ H' => ∃ node : Nat, σ = [some (.ref d.p), some (.int n), some (.ref a), some (.int node)] ∧ H' = H ∧ m = c.W - node ∧ 1 ≤ node ∧ node < 2 * c.W ∧ ptGo (ptv c n) c.W c.W node = ptGo (ptv c n) c.W c.W 1, ⟨_, 1, rfl, rfl, rfl, by omega, by omega, rfl⟩, ?_⟩
  rintro m σ H' ⟨node, rfl, rfl, rfl, h1, h2, h3⟩
  walk_at "go"
  refine g_if (fun h => ?_) (fun h => ?_)
  · refine g_whileT ?_
    have hl : node < c.W := by omega
    have z := pt_at (ptv c n) (wf.pt01 hn) (m := node) (by rw [wf.ptL hn]; exact hl)
    walk_at "go"
    refine g_ixL (SqL.of hr) rfl (v := .int (((ptv c n).getD node 0).toNat : Nat)) (by rw [List.getElem?_map]; exact congrArg _ z.1) ?_
    walk_at "go"
    refine ⟨_, ?_, 2 * node + ((ptv c n).getD node 0).toNat, ?_, rfl, rfl, by omega, by have := z.2; omega, ?_⟩
    · have := z.2; omega
    · rw [show (2 : Int) * (node : Int) + (((ptv c n).getD node 0).toNat : Int) = ((2 * node + ((ptv c n).getD node 0).toNat : Nat) : Int) by omega]
      rfl
    · rw [← ptGo_step h1 hl]
      exact h3
  · walk_at "go"
    have e : ptGo (ptv c n) c.W c.W 1 = node := by rw [← h3, ptGo_end (by omega)]
    have : ((node : Int) - (c.W : Int)) = ((ptV (ptv c n) c.W : Nat) : Int) := by unfold ptV; rw [e]; omega
    rw [this]
    exact hQ

def sp_Cache_turn_away (K : PySem.W.Frag) : Sp := fun vs H Q _ => ∃ (d : CAd) (c : CSt) (n place : Nat), vs = [.ref d.p, .int n, .int place] ∧ Has H (CaL K d c) ∧ CWf d c ∧ n < c.S ∧ place < c.W ∧
  ∀ H', Keep (CaA d) H H' → Has H' (CaL K d { c with pt := c.pt.set n (tnV (ptv c n) c.W place) }) → Q .non H'
theorem sc_Cache_turn_away : FnScope ["self", "number", "place", "pointers", "node"] ["self", "number", "place"] (defScope (inClass (topS 2) 6)) := ⟨rfl, rfl, rfl, by decide +kernel, rfl, by decide +kernel, by decide +kernel⟩
theorem mt_Cache_turn_away (T : Txt fa fn K mg (XOk cs xcs K w)) : Mt P w K mg base CX0 1 "Cache" "turn_away" ["self", "number", "place"] (sp_Cache_turn_away K) := by
  refine mk_mt (d := mOf "Cache" "turn_away" "Cache.turn_away" (inClass (topS 2) 6)) T 57 rfl rfl rfl rfl sc_Cache_turn_away (by walk_at "len") (fun _ _ _ _ _ _ us hl => match us, hl with | [_, _, _], _ => rfl) (fun cdv A outer s H vs Q E hr h => ⟨_, (pss_cons (ps_set (i := 3) sc_Cache_turn_away.nd rfl (.inl rfl) (pe_ixU (K := K) rfl (hu_of hr) (pe_fldU (K := K) rfl (pv 0) rfl) (pv 1)))
      (pss_cons (ps_set (i := 4) sc_Cache_turn_away.nd rfl (.inl rfl) (pe_op (op_addU (K := K) rfl) (pv 2) (pe_fldU (K := K) rfl (pv 0) rfl)))
      (pss_one (ps_while PassesOwn.never (pt_cmpR o_gt (pv 4) pe_int (nomark _)) (pss_cons (ps_asg (pe_op op_sub pe_int (pe_op o_mod (pv 4) pe_int)) (pg_sub (pv 3) (pe_op o_fdiv (pv 4) pe_int) (set_U (hu_of hr))))
      (pss_one (ps_aug (i := 4) sc_Cache_turn_away.nd rfl (.inl rfl) pe_int io_fdiv))))))), ?_⟩)
  obtain ⟨d, c, n, place, rfl, M, wf, hn, hpl, hQ⟩ := h
  obtain ⟨a, ha, ha2⟩ := ref_at (as := d.gs) (n := n) (by rw [wf.lg]; exact hn)
  have hw := wf.w0
  have hw1 := wf.w1
  have hq : n < c.pt.length := by rw [wf.lq]; exact hn
  walk_at "go"
  refine g_ixL (SqL.of (M.get 3 rfl)) rfl ha2 ?_
  walk_at "go"
  refine ⟨fun m σ H' => ∃ (node : Nat) (r : List Int), σ = [some (.ref d.p), some (.int n), some (.int place), some (.ref a), some (.int node)] ∧ Keep (CaA d) H H' ∧ Has H' (CaL K d { c with pt := c.pt.set n r }) ∧ r.length = c.W ∧ m = node ∧ node ≤ place + c.W ∧ node < 2 * c.W ∧ tnGo (place + c.W) node r = tnV (ptv c n) c.W place,
    ⟨_, place + c.W, ptv c n, rfl, Keep.refl, ?_, wf.ptL hn, rfl, Nat.le_refl _, by omega, rfl⟩, ?_⟩
  · have e : c.pt.set n (ptv c n) = c.pt := by
      apply List.ext_getElem?
      intro j
      rw [List.getElem?_set]
      split
      · rename_i e; subst e
        exact (getD_some hq).symm
      · rfl
    rw [e]
    exact M
  rintro m σ H' ⟨node, r, rfl, kp, M', hr, hm, h1, h2, h3⟩
  walk_at "go"
  refine g_if (fun h => ?_) (fun h => ?_)
  · refine g_whileT ?_
    have hl : 1 < node := by omega
    walk_at "go"
    have hrow := ca_pt M' ha (r := r) (by
      show (c.pt.set n r)[n]? = some r
      rw [List.getElem?_set, if_pos rfl, if_pos hq])
    refine .inl ⟨a, r.map V.int, _, node / 2, rfl, rfl, hrow, ?_, ?_⟩
    · unfold ixN
      rw [List.length_map, if_pos (by omega), if_pos (by omega)]
      congr 1
    have M2 := ca_pt_set (r' := r.set (node / 2) (1 - (node : Int) % 2)) M' ha (r := r) (by
      show (c.pt.set n r)[n]? = some r
      rw [List.getElem?_set, if_pos rfl, if_pos hq])
    rw [List.map_set] at M2
    have e2 : ({ { c with pt := c.pt.set n r } with pt := ({ c with pt := c.pt.set n r } : CSt).pt.set n (r.set (node / 2) (1 - (node : Int) % 2)) } : CSt) = { c with pt := c.pt.set n (r.set (node / 2) (1 - (node : Int) % 2)) } := by
      simp [List.set_set]
    rw [e2] at M2
    walk_at "go"
    refine ⟨node / 2, by omega, node / 2, r.set (node / 2) (1 - (node : Int) % 2), rfl, kp.trans (Keep.set (caA_g ha)), M2, by rw [List.length_set]; exact hr, rfl, by omega, by omega, ?_⟩
    rw [← tnGo_step hl h1]
    exact h3
  · walk_at "go"
    have e : r = tnV (ptv c n) c.W place := by rw [← h3, tnGo_end (by omega)]
    rw [← e] at hQ
    exact hQ H' kp M'

def sp_Cache_free_place (K : PySem.W.Frag) : Sp := fun vs H Q _ => ∃ (d : CAd) (c : CSt) (n : Nat), vs = [.ref d.p, .int n] ∧ Has H (CaL K d c) ∧ CWf d c ∧ n < c.S ∧ Q (.int (fpV c n : Nat)) H
theorem sc_Cache_free_place : FnScope ["self", "number", "row", "times"] ["self", "number"] (defScope (inClass (topS 2) 4)) := ⟨rfl, rfl, rfl, by decide +kernel, rfl, by decide +kernel, by decide +kernel⟩
theorem mt_Cache_free_place (T : Txt fa fn K mg (XOk cs xcs K w)) : Mt P w K mg base CX0 2 "Cache" "free_place" ["self", "number"] (sp_Cache_free_place K) := by
  refine mk_mt (d := mOf "Cache" "free_place" "Cache.free_place" (inClass (topS 2) 4)) T 55 rfl rfl rfl rfl sc_Cache_free_place (by walk_at "len") (fun _ _ _ _ _ _ us hl => match us, hl with | [_, _], _ => rfl) (fun cdv A outer s H vs Q E hr h => ⟨_, (pss_cons (ps_set (i := 2) sc_Cache_free_place.nd rfl (.inl rfl) (pe_ixU (K := K) rfl (hu_of hr) (pe_fldU (K := K) rfl (pv 0) rfl) (pv 1)))
      (pss_cons (ps_if (pt_cmpR (op_inU (K := K) rfl (hu65 hr)) pe_non (pv 2) (by rfl)) (pss_one (ps_ret (pe_bm PySem.F.plainAttrs_list PySem.F.slot_list_index PySem.F.type_list_index (m_index (K := K) rfl) (pv 2) (pa_cons pe_non pa_nil)))) pss_nil)
      (pss_cons (ps_if (pt_cmpR (op_eqU (K := K) rfl hr.units) (pe_fldU (K := K) rfl (pv 0) rfl) pe_str (nomark _)) (pss_one (ps_ret (pe_methD (K := K) rfl (mt_Cache_pointed_place T) (cl_Cache T) (T.meth 63 rfl) (hr.mono (by decide)) pass0 (pv 0) (pa_cons (pv 1) pa_nil)))) pss_nil)
      (pss_cons (ps_set (i := 3) sc_Cache_free_place.nd rfl (.inl rfl) (pe_ixU (K := K) rfl (hu_of hr) (pe_fldU (K := K) rfl (pv 0) rfl) (pv 1)))
      (pss_one (ps_ret (pe_bm PySem.F.plainAttrs_list PySem.F.slot_list_index PySem.F.type_list_index (m_index (K := K) rfl) (pv 3) (pa_cons (pe_callB (c_min1 (K := K) rfl rfl) rfl (T.free 131 rfl) (by decide +kernel) (pa_cons (pv 3) pa_nil)) pa_nil)))))))), ?_⟩)
  obtain ⟨d, c, n, rfl, M, wf, hn, hQ⟩ := h
  obtain ⟨a, ha, ha2⟩ := ref_at (as := d.as) (n := n) (by rw [wf.la]; exact hn)
  have hr := ca_pl M ha (getD_some (d := []) (by rw [wf.lp]; exact hn))
  obtain ⟨b, hb, hb2⟩ := ref_at (as := d.bs) (n := n) (by rw [wf.lb]; exact hn)
  have ht := ca_tm M hb (getD_some (d := []) (by rw [wf.lt]; exact hn))
  unfold fpV at hQ
  walk_at "go"
  refine g_ixL (SqL.of (M.get 1 rfl)) rfl ha2 ?_
  walk_at "go"
  refine g_inO (x := none) rfl hr ?_
  walk_at "go"
  refine g_if (fun h => ?_) (fun h => ?_)
  · have h' : none ∈ row c n := h
    rw [if_pos h'] at hQ
    walk_at "go"
    exact g_indexO (x := none) rfl hr h hQ
  · have h' : ¬ none ∈ row c n := h
    rw [if_neg h'] at hQ
    walk_at "go"
    refine g_if (fun h2 => ?_) (fun h2 => ?_)
    · rw [if_pos h2] at hQ
      walk_at "go"
      exact ⟨d, c, n, rfl, M, wf, hn, hQ⟩
    · rw [if_neg h2] at hQ
      walk_at "go"
      refine g_ixL (SqL.of (M.get 2 rfl)) rfl hb2 ?_
      walk_at "go"
      refine g_min1 (SqL.of ht) (by have := wf.tmL hn; have := wf.w0; show 0 < (tmv c n).length; omega) fun m hm hle => ?_
      walk_at "go"
      refine g_indexI (SqL.of ht) hm ?_
      have e := mnI_eq hm hle
      rw [← e]
      exact hQ

def sp_Cache_touch (K : PySem.W.Frag) : Sp := fun vs H Q _ => ∃ (d : CAd) (c : CSt) (x : Int), vs = [.ref d.p, .int x] ∧ Has H (CaL K d c) ∧ CWf d c ∧
  ∀ H', Keep (CaA d) H H' → Has H' (CaL K d (tcV c x)) → Q (.bl (decide (hitV c x))) H'
def sp_Cache_drop (K : PySem.W.Frag) : Sp := fun vs H Q _ => ∃ (d : CAd) (c : CSt) (x : Int), vs = [.ref d.p, .int x] ∧ Has H (CaL K d c) ∧ CWf d c ∧
  ∀ H', Keep (CaA d) H H' → Has H' (CaL K d (dpV c x)) → Q (.bl (decide (hitV c x))) H'
theorem sc_Cache_drop : FnScope ["self", "address", "line", "row"] ["self", "address"] (defScope (inClass (topS 2) 7)) := ⟨rfl, rfl, rfl, by decide +kernel, rfl, by decide +kernel, by decide +kernel⟩
theorem mt_Cache_drop (T : Txt fa fn K mg (XOk cs xcs K w)) : Mt P w K mg base CX0 1 "Cache" "drop" ["self", "address"] (sp_Cache_drop K) := by
  refine mk_mt (d := mOf "Cache" "drop" "Cache.drop" (inClass (topS 2) 7)) T 58 rfl rfl rfl rfl sc_Cache_drop (by walk_at "len") (fun _ _ _ _ _ _ us hl => match us, hl with | [_, _], _ => rfl) (fun cdv A outer s H vs Q E hr h => ⟨_, (pss_cons (ps_set (i := 2) sc_Cache_drop.nd rfl (.inl rfl) (pe_op o_fdiv (pv 1) (pe_fldU (K := K) rfl (pv 0) rfl)))
      (pss_cons (ps_set (i := 3) sc_Cache_drop.nd rfl (.inl rfl) (pe_ixU (K := K) rfl (hu_of hr) (pe_fldU (K := K) rfl (pv 0) rfl) (pe_op o_mod (pv 2) (pe_fldU (K := K) rfl (pv 0) rfl))))
      (pss_cons (ps_if (pt_cmpR (op_niU (K := K) rfl (hu65 hr)) (pv 2) (pv 3) (by rfl)) (pss_one (ps_ret pe_bl)) pss_nil)
      (pss_cons (ps_asg pe_non (pg_sub (pv 3) (pe_bm PySem.F.plainAttrs_list PySem.F.slot_list_index PySem.F.type_list_index (m_index (K := K) rfl) (pv 3) (pa_cons (pv 2) pa_nil)) (set_U (hu_of hr))))
      (pss_one (ps_ret pe_bl)))))), ?_⟩)
  obtain ⟨d, c, x, rfl, M, wf, hQ⟩ := h
  obtain ⟨hn, hne⟩ := wf.nm x
  obtain ⟨a, ha, ha2⟩ := ref_at (as := d.as) (n := nmO c x) (by rw [wf.la]; exact hn)
  have hp := getD_some (l := c.pl) (n := nmO c x) (d := []) (by rw [wf.lp]; exact hn)
  have hr := ca_pl M ha hp
  have z0 := wf.z0
  have z1 := wf.z1
  have s0 := wf.s0
  have s1 := wf.s1
  walk_at "go"
  refine g_ixL (SqL.of (M.get 1 rfl)) (n := nmO c x) hne ha2 ?_
  walk_at "go"
  refine g_inO (x := some (lnO c x)) rfl hr ?_
  walk_at "go"
  refine g_ifN (fun h => ?_) (fun h => ?_)
  · walk_at "go"
    have h' : ¬ hitV c x := h
    have e : dpV c x = c := by unfold dpV; rw [if_neg h']
    rw [decide_eq_false h', e] at hQ
    exact hQ H Keep.refl M
  · have h' : hitV c x := h
    walk_at "go"
    refine g_indexO (x := some (lnO c x)) rfl hr h ?_
    walk_at "go"
    refine .inl ⟨a, _, _, ixo (some (lnO c x)) (row c (nmO c x)), rfl, rfl, hr, ?_, ?_⟩
    · unfold ixN
      have : ixo (some (lnO c x)) (c.pl.getD (nmO c x) []) < (c.pl.getD (nmO c x) []).length := ixo_lt h'
      rw [List.length_map, if_pos (by omega), if_pos (by omega)]
      rfl
    · have M2 := ca_pl_set (r' := (row c (nmO c x)).set (ixo (some (lnO c x)) (row c (nmO c x))) none) M ha hp
      rw [List.map_set] at M2
      walk_at "go"
      have e : dpV c x = { c with pl := c.pl.set (nmO c x) ((row c (nmO c x)).set (ixo (some (lnO c x)) (row c (nmO c x))) none) } := by unfold dpV; rw [if_pos h']
      rw [decide_eq_true h', e] at hQ
      exact hQ _ (Keep.set (caA_a ha)) M2

theorem sc_Cache_touch : FnScope ["self", "address", "line", "number", "row", "hit", "place"] ["self", "address"] (defScope (inClass (topS 2) 3)) := ⟨rfl, rfl, rfl, by decide +kernel, rfl, by decide +kernel, by decide +kernel⟩
theorem mt_Cache_touch (T : Txt fa fn K mg (XOk cs xcs K w)) : Mt P w K mg base CX0 3 "Cache" "touch" ["self", "address"] (sp_Cache_touch K) := by
  refine mk_mt (d := mOf "Cache" "touch" "Cache.touch" (inClass (topS 2) 3)) T 54 rfl rfl rfl rfl sc_Cache_touch (by walk_at "len") (fun _ _ _ _ _ _ us hl => match us, hl with | [_, _], _ => rfl) (fun cdv A outer s H vs Q E hr h => ⟨_, (pss_cons (ps_set (i := 2) sc_Cache_touch.nd rfl (.inl rfl) (pe_op o_fdiv (pv 1) (pe_fldU (K := K) rfl (pv 0) rfl)))
      (pss_cons (ps_set (i := 3) sc_Cache_touch.nd rfl (.inl rfl) (pe_op o_mod (pv 2) (pe_fldU (K := K) rfl (pv 0) rfl)))
      (pss_cons (ps_set (i := 4) sc_Cache_touch.nd rfl (.inl rfl) (pe_ixU (K := K) rfl (hu_of hr) (pe_fldU (K := K) rfl (pv 0) rfl) (pv 3)))
      (pss_cons (ps_fldaug (pv 0) pe_int in_add)
      (pss_cons (ps_set (i := 5) sc_Cache_touch.nd rfl (.inl rfl) (pe_cmpR (op_inU (K := K) rfl (hu65 hr)) (pv 2) (pv 4) (by rfl)))
      (pss_cons (ps_join (ps_if (pt_tru (K := K) rfl (pv 5)) (pss_one (ps_set (i := 6) sc_Cache_touch.nd rfl (.inl rfl) (pe_bm PySem.F.plainAttrs_list PySem.F.slot_list_index PySem.F.type_list_index (m_index (K := K) rfl) (pv 4) (pa_cons (pv 2) pa_nil)))) (pss_cons (ps_set (i := 6) sc_Cache_touch.nd rfl (.inl rfl) (pe_methD (K := K) rfl (mt_Cache_free_place T) (cl_Cache T) (T.meth 62 rfl) (hr.mono (by decide)) pass0 (pv 0) (pa_cons (pv 3) pa_nil)))
      (pss_one (ps_asg (pv 2) (pg_sub (pv 4) (pv 6) (set_U (hu_of hr))))))))
      (pss_cons (ps_join (ps_if (PW.pt (pw_or (pt_not (pt_tru (K := K) rfl (pv 5))) (pw_or1 (pt_cmpR (op_eqU (K := K) rfl hr.units) (pe_fldU (K := K) rfl (pv 0) rfl) pe_str (nomark _))))) (pss_one (ps_asg (pe_fldU (K := K) rfl (pv 0) rfl) (pg_sub (pe_ixU (K := K) rfl (hu_of hr) (pe_fldU (K := K) rfl (pv 0) rfl) (pv 3)) (pv 6) (set_U (hu_of hr))))) pss_nil))
      (pss_cons (ps_if (pt_cmpR (op_eqU (K := K) rfl hr.units) (pe_fldU (K := K) rfl (pv 0) rfl) pe_str (nomark _)) (pss_one (ps_expr (pe_methD (K := K) rfl (mt_Cache_turn_away T) (cl_Cache T) (T.meth 64 rfl) (hr.mono (by decide)) pass0 (pv 0) (pa_cons (pv 3) (pa_cons (pv 6) pa_nil))))) pss_nil)
      (pss_one (ps_ret (pv 5))))))))))), ?_⟩)
  obtain ⟨d, c, x, rfl, M, wf, hQ⟩ := h
  obtain ⟨hn, hne⟩ := wf.nm x
  obtain ⟨a, ha, ha2⟩ := ref_at (as := d.as) (n := nmO c x) (by rw [wf.la]; exact hn)
  obtain ⟨b, hb, hb2⟩ := ref_at (as := d.bs) (n := nmO c x) (by rw [wf.lb]; exact hn)
  have hp := getD_some (l := c.pl) (n := nmO c x) (d := []) (by rw [wf.lp]; exact hn)
  have htm := getD_some (l := c.tm) (n := nmO c x) (d := []) (by rw [wf.lt]; exact hn)
  have z0 := wf.z0
  have z1 := wf.z1
  have s0 := wf.s0
  have s1 := wf.s1
  walk_at "go"
  refine g_ixL (SqL.of (M.get 1 rfl)) (n := nmO c x) hne ha2 ?_
  walk_at "go"
  refine g_fldaug ?_
  walk_at "go"
  refine g_fa1 (j := 1) M 0 rfl (cl_Cache T) (na_Cache__time T) (lk_ix 7 nd_Cache rfl) ⟨rfl, rfl⟩ (by show 8 < 1000; decide) (pt_ix 7 nd_Cache rfl) (k := fun M1 => ?_)
  have M1 : Has _ (CaL K d { c with t := c.t + 1 }) := M1
  have wf1 : CWf d { c with t := c.t + 1 } := ⟨wf.s0, wf.s1, wf.w0, wf.w1, wf.z0, wf.z1, wf.la, wf.lb, wf.lg, wf.lp, wf.lt, wf.lq, wf.rp, wf.rt, wf.rq⟩
  have k1 : Keep (CaA d) H (upd H d.p (caO K d { c with t := c.t + 1 })) := Keep.set caA_p
  have hr := ca_pl M1 ha hp
  walk_at "go"
  refine g_inO (x := some (lnO c x)) rfl hr ?_
  walk_at "go"
  have hpl := wf.pl_ (x := x)
  refine ⟨fun σ' H' => σ' = [some (.ref d.p), some (.int x), some (.int (lnO c x)), some (.int (nmO c x)), some (.ref a), some (.bl (decide (hitV c x))), some (.int (plO c x : Nat))] ∧ Keep (CaA d) H H' ∧ Has H' (CaL K d { c with t := c.t + 1, pl := (tcV c x).pl }), ?_, ?_⟩
  · walk_at "go"
    refine g_if (fun h => ?_) (fun h => ?_)
    · have h' : hitV c x := h
      walk_at "go"
      refine g_indexO (x := some (lnO c x)) rfl hr h ?_
      walk_at "go"
      refine ⟨?_, k1, ?_⟩
      · unfold plO
        rw [if_pos h', ← hne]
        rfl
      · unfold tcV
        rw [if_pos h']
        exact M1
    · have h' : ¬ hitV c x := h
      walk_at "go"
      refine ⟨d, { c with t := c.t + 1 }, nmO c x, by rw [← hne]; rfl, M1, wf1, hn, ?_⟩
      walk_at "go"
      have e : plO c x = fpV c (nmO c x) := by unfold plO; rw [if_neg h']
      refine .inl ⟨a, _, _, plO c x, rfl, rfl, hr, ?_, ?_⟩
      · have hl : (c.pl.getD (nmO c x) []).length = c.W := wf.rowL hn
        have e2 : fpV { c with t := c.t + 1 } (nmO c x) = plO c x := by rw [e]; rfl
        unfold ixN
        rw [e2, List.length_map, if_pos (by omega), if_pos (by omega)]
        rfl
      · have M2 := ca_pl_set (r' := (row c (nmO c x)).set (plO c x) (some (lnO c x))) M1 ha hp
        rw [List.map_set] at M2
        walk_at "go"
        refine ⟨?_, k1.trans (Keep.set (caA_a ha)), ?_⟩
        · rw [e, ← hne]
          rfl
        · unfold tcV
          rw [if_neg h']
          exact M2
  rintro σ' H' ⟨rfl, k2, M2⟩
  walk_at "go"
  refine ⟨fun σ' H' => σ' = [some (.ref d.p), some (.int x), some (.int (lnO c x)), some (.int (nmO c x)), some (.ref a), some (.bl (decide (hitV c x))), some (.int (plO c x : Nat))] ∧ Keep (CaA d) H H' ∧ Has H' (CaL K d { c with t := c.t + 1, pl := (tcV c x).pl, tm := (tcV c x).tm }), ?_, ?_⟩
  · have yes : (¬ hitV c x ∨ c.P = "lru") → ∀ R : Hp → Prop, (∀ H'', Keep (CaA d) H H'' → Has H'' (CaL K d { c with t := c.t + 1, pl := (tcV c x).pl, tm := (tcV c x).tm }) → R H'') → rSetU (.ref b) (.int (plO c x : Nat)) (.int (c.t + 1)) H' R := by
      intro hy R hR
      have ht := ca_tm M2 hb htm
      refine .inl ⟨b, _, _, plO c x, rfl, rfl, ht, ?_, ?_⟩
      · have hl : (c.tm.getD (nmO c x) []).length = c.W := wf.tmL hn
        unfold ixN
        rw [List.length_map, if_pos (by omega), if_pos (by omega)]
        rfl
      · have M3 := ca_tm_set (r' := (tmv c (nmO c x)).set (plO c x) (c.t + 1)) M2 hb htm
        rw [List.map_set] at M3
        refine hR _ (k2.trans (Keep.set (caA_b hb))) ?_
        have e : (tcV c x).tm = c.tm.set (nmO c x) ((tmv c (nmO c x)).set (plO c x) (c.t + 1)) := by unfold tcV; exact if_pos hy
        rw [e]
        exact M3
    have no : ¬ (¬ hitV c x ∨ c.P = "lru") → Has H' (CaL K d { c with t := c.t + 1, pl := (tcV c x).pl, tm := (tcV c x).tm }) := by
      intro hy
      have e : (tcV c x).tm = c.tm := by unfold tcV; exact if_neg hy
      rw [e]
      exact M2
    walk_at "go"
    refine g_ifN (fun h => ?_) (fun h => ?_)
    · walk_at "go"
      refine g_ixL (SqL.of (M2.get 2 rfl)) (n := nmO c x) rfl hb2 ?_
      walk_at "go"
      refine yes (.inl h) _ fun H3 k3 M3 => ?_
      walk_at "go"
      exact ⟨rfl, k3, M3⟩
    · walk_at "go"
      refine g_if (fun h2 => ?_) (fun h2 => ?_)
      · walk_at "go"
        refine g_ixL (SqL.of (M2.get 2 rfl)) (n := nmO c x) rfl hb2 ?_
        walk_at "go"
        refine yes (.inr h2) _ fun H3 k3 M3 => ?_
        walk_at "go"
        exact ⟨rfl, k3, M3⟩
      · walk_at "go"
        exact ⟨rfl, k2, no (by rintro (h3 | h3); exact h3 h; exact h2 h3)⟩
  rintro σ' H' ⟨rfl, k3, M3⟩
  walk_at "go"
  have wf3 : CWf d { c with t := c.t + 1, pl := (tcV c x).pl, tm := (tcV c x).tm } := by
    have w := wf.tc (x := x)
    exact ⟨wf.s0, wf.s1, wf.w0, wf.w1, wf.z0, wf.z1, wf.la, wf.lb, wf.lg, w.lp, w.lt, wf.lq, w.rp, w.rt, wf.rq⟩
  refine g_if (fun h => ?_) (fun h => ?_)
  · walk_at "go"
    refine ⟨d, _, nmO c x, plO c x, rfl, M3, wf3, hn, hpl, fun H4 k4 M4 => ?_⟩
    walk_at "go"
    refine hQ H4 (k3.trans k4) ?_
    have e : (tcV c x).pt = c.pt.set (nmO c x) (tnV (ptv c (nmO c x)) c.W (plO c x)) := by unfold tcV; exact if_pos h
    have e2 : tcV c x = { c with t := c.t + 1, pl := (tcV c x).pl, tm := (tcV c x).tm, pt := (tcV c x).pt } := rfl
    rw [e2, e]
    exact M4
  · walk_at "go"
    refine hQ H' k3 ?_
    have e : (tcV c x).pt = c.pt := by unfold tcV; exact if_neg h
    have e2 : tcV c x = { c with t := c.t + 1, pl := (tcV c x).pl, tm := (tcV c x).tm, pt := (tcV c x).pt } := rfl
    rw [e2, e]
    exact M3
/-! a new cache -/
abbrev c0V (S W Z : Nat) (P : Str) : CSt := ⟨S, W, Z, P, List.replicate S (List.replicate W none), List.replicate S (List.replicate W 0), List.replicate S (List.replicate W 0), 0⟩
/-- a table in the making -/
abbrev mkL (L : List (Addr × HO)) (D : Addr) (as : List Addr) (r : List V) : List (Addr × HO) := L ++ ((D, .lst (as.map V.ref)) :: tab as (List.replicate as.length r))
theorem mk_snoc {H : Hp} {L : List (Addr × HO)} {D q : Addr} {as : List Addr} {r : List V} (M : Has H (mkL L D as r)) (hq : H q = none) : Has (upd (upd H q (.lst r)) D (.lst (as.map V.ref ++ [.ref q]))) (mkL L D (as ++ [q]) r) := by
  have M1 := M.new (o := .lst r) hq
  have e : mkL L D as r ++ [(q, .lst r)] = L ++ ((D, .lst (as.map V.ref)) :: tab (as ++ [q]) (List.replicate (as ++ [q]).length r)) := by
    rw [List.length_append, List.length_singleton, List.replicate_succ', tab_snoc (by simp)]
    simp [mkL]
  rw [e] at M1
  have h : (L ++ ((D, .lst (as.map V.ref)) :: tab (as ++ [q]) (List.replicate (as ++ [q]).length r)))[L.length]? = some (D, .lst (as.map V.ref)) := by
    rw [List.getElem?_append_right (Nat.le_refl _), Nat.sub_self]
    rfl
  have M2 := M1.set (o' := .lst (as.map V.ref ++ [.ref q])) L.length h
  rw [List.set_append_right _ _ (Nat.le_refl _), Nat.sub_self] at M2
  have e3 : (as ++ [q]).map V.ref = as.map V.ref ++ [.ref q] := by simp
  unfold mkL
  rw [e3]
  exact M2
theorem mk_at {H : Hp} {L : List (Addr × HO)} {D : Addr} {as : List Addr} {r : List V} (M : Has H (mkL L D as r)) : H D = some (.lst (as.map V.ref)) := M.get L.length (by
  rw [List.getElem?_append_right (Nat.le_refl _), Nat.sub_self]
  rfl)
theorem l_rows {σ : L2.St} {H : Hp} {L : List (Addr × HO)} {lo : Int} {n k j w : Nat} {v : V} {vs : List Nat} {Q : VK} (M : Has H L) (hn : n ≤ 1000) (hw : w ≤ 1000) (hσ : ∀ x : V, ((wipe σ vs).set k (some x))[j]? = some (some (.int w))) (hwp : ∀ x : V, wipe ((wipe σ vs).set k (some x)) vs = wipe σ vs)
    (q : ∀ D as H', H D = none → as.length = n → Same H H' → (∀ a ∈ as, H a = none) → Has H' (mkL L D as (List.replicate w v)) → Q (.ref D) H') : LcW (gName k) tYes (tOp rMulU (tLst (tCons (tC v) tNil)) (tVar j)) vs σ Q (Itr lo n) H := by
  refine l_range (fun D i H' => ∃ as, as.length = i ∧ Same H H' ∧ (∀ a ∈ as, H a = none) ∧ Has H' (mkL L D as (List.replicate w v))) (fun D hD => ⟨[], rfl, Same.new hD, (fun _ h => nomatch h), M.new hD⟩) ?_ ?_
  · rintro D hD i H' hi ⟨as, rfl, sm, hf, M'⟩
    refine g_name (g_wipe (hwp _) (g_yes (g_ifT (g_op (g_lst (g_consA (g_c (g_nilA ?_))))))))
    refine ⟨by show 1 ≤ sizeLine; decide, fun u hu => ?_⟩
    refine g_var (hσ _) ?_
    refine g_rep upd_same (by omega) (by omega) (fun p hp => ?_)
    rw [Int.toNat_natCast]
    have M1 : Has (upd H' u (.lst [v])) (mkL L D as (List.replicate w v)) := M'.keep (Same.new hu)
    have sm1 : Same H (upd H' u (.lst [v])) := Same.new' sm hu
    have hD1 := mk_at (M1.keep (Same.new (o := .lst (List.replicate w v)) hp))
    refine ⟨as.map V.ref, hD1, szl (by rw [List.length_map]; omega), as ++ [p], by simp, Same.mut (Same.new' sm1 hp) hD, fun a ha => ?_, mk_snoc M1 hp⟩
    rcases List.mem_append.mp ha with h | h
    · exact hf a h
    · rw [List.mem_singleton.mp h]
      exact sm1.free hp
  · rintro D hD H' ⟨as, ha, sm, hf, M'⟩
    exact q D as H' hD ha sm hf M'
theorem has_ca {K : PySem.W.Frag} {H : Hp} {c : CSt} {d : CAd} {r1 r2 r3 : List V} (M : Has H (mkL (mkL (mkL [(d.p, caO K d c)] d.A d.as r1) d.B d.bs r2) d.G d.gs r3)) (h1 : tab d.as (List.replicate d.as.length r1) = tab d.as (plR c)) (h2 : tab d.bs (List.replicate d.bs.length r2) = tab d.bs (tmR c)) (h3 : tab d.gs (List.replicate d.gs.length r3) = tab d.gs (ptR c)) : Has H (CaL K d c) := by
  unfold mkL at M
  rw [h1, h2, h3] at M
  refine M.perm ?_
  unfold CaL caF
  generalize tab d.as (plR c) = A
  generalize tab d.bs (tmR c) = B
  generalize tab d.gs (ptR c) = C
  rw [List.append_nil]
  simp only [List.cons_append, List.nil_append, List.append_assoc]
  refine .cons _ (.cons _ (List.perm_middle.trans (.cons _ ?_)))
  rw [← List.append_assoc]
  refine List.perm_middle.trans (.cons _ ?_)
  rw [List.append_assoc]
theorem nn {H : Hp} {a : Addr} {o : HO} (h : H a = some o) : H a ≠ none := fun z => by rw [z] at h; cases h
def sp_Cache___init__ (K : PySem.W.Frag) : Sp := fun vs H Q _ => ∃ (x dx s : Addr) (S W Z : Nat) (P : Str), vs = [.ref x, .ref s] ∧ H x = some (.ins (He.ga K "Cache") dx []) ∧ H s = some (.tup [.int S, .int W, .int Z, .str P]) ∧ 0 < S ∧ S ≤ 1000 ∧ 0 < W ∧ W ≤ 1000 ∧ 0 < Z ∧ Z ≤ 1000000 ∧
  ∀ H' d, d.p = x → d.dx = dx → Keep [x] H H' → (∀ a ∈ CaA d, a ≠ x → H a = none) → Has H' (CaL K d (c0V S W Z P)) → CWf d (c0V S W Z P) → Q .non H'
theorem sc_Cache___init__ : FnScope ["self", "settings", "sets", "ways", "line", "policy", "number"] ["self", "settings"] (defScope (inClass (topS 2) 0)) := ⟨rfl, rfl, rfl, by decide +kernel, rfl, by decide +kernel, by decide +kernel⟩
theorem mt_Cache___init__ (T : Txt fa fn K mg (XOk cs xcs K w)) : Mt P w K mg base CX0 1 "Cache" "__init__" ["self", "settings"] (sp_Cache___init__ K) := by
  refine mk_mt (d := mOf "Cache" "__init__" "Cache.__init__" (inClass (topS 2) 0)) T 51 rfl rfl rfl rfl sc_Cache___init__ (by walk_at "len") (fun _ _ _ _ _ _ us hl => match us, hl with | [_, _], _ => rfl) (fun cdv A outer s H vs Q E hr h => ⟨_, (pss_cons (ps_asg (pv 1) (pg_tup rfl (pgs_cons (pg_name (i := 2) sc_Cache___init__.nd rfl (.inl rfl)) (pgs_cons (pg_name (i := 3) sc_Cache___init__.nd rfl (.inr rfl)) (pgs_cons (pg_name (i := 4) sc_Cache___init__.nd rfl (.inl rfl)) (pgs_cons (pg_name (i := 5) sc_Cache___init__.nd rfl (.inl rfl)) pgs_nil))))))
      (pss_cons (ps_fldU (K := K) rfl (pv 0) (pv 2) rfl)
      (pss_cons (ps_fldU (K := K) rfl (pv 0) (pv 3) rfl)
      (pss_cons (ps_fldU (K := K) rfl (pv 0) (pv 4) rfl)
      (pss_cons (ps_fldU (K := K) rfl (pv 0) (pv 5) rfl)
      (pss_cons (ps_fldU (K := K) rfl (pv 0) (pe_lc rfl sc_Cache___init__.nd (pi_r1 rfl (T.free 132 rfl) (pa_cons (pv 2) pa_nil)) (blkOk_by (own := [("number", 6)]) (N := ["self", "settings", "sets", "ways", "line", "policy", "number"]) (sc := defScope (inClass (topS 2) 0)) (by decide +kernel)) (fun _ _ _ _ _ => (pg_name (i := 6) sc_Cache___init__.nd rfl (.inl rfl))) (fun _ _ _ _ _ => pts_nil) (fun _ _ _ _ _ => (pe_op op_mulU (pe_lst (pa_cons pe_non pa_nil)) (pv 3)))) rfl)
      (pss_cons (ps_fldU (K := K) rfl (pv 0) (pe_lc rfl sc_Cache___init__.nd (pi_r1 rfl (T.free 132 rfl) (pa_cons (pv 2) pa_nil)) (blkOk_by (own := [("number", 6)]) (N := ["self", "settings", "sets", "ways", "line", "policy", "number"]) (sc := defScope (inClass (topS 2) 0)) (by decide +kernel)) (fun _ _ _ _ _ => (pg_name (i := 6) sc_Cache___init__.nd rfl (.inl rfl))) (fun _ _ _ _ _ => pts_nil) (fun _ _ _ _ _ => (pe_op op_mulU (pe_lst (pa_cons pe_int pa_nil)) (pv 3)))) rfl)
      (pss_cons (ps_fldU (K := K) rfl (pv 0) (pe_lc rfl sc_Cache___init__.nd (pi_r1 rfl (T.free 132 rfl) (pa_cons (pv 2) pa_nil)) (blkOk_by (own := [("number", 6)]) (N := ["self", "settings", "sets", "ways", "line", "policy", "number"]) (sc := defScope (inClass (topS 2) 0)) (by decide +kernel)) (fun _ _ _ _ _ => (pg_name (i := 6) sc_Cache___init__.nd rfl (.inl rfl))) (fun _ _ _ _ _ => pts_nil) (fun _ _ _ _ _ => (pe_op op_mulU (pe_lst (pa_cons pe_int pa_nil)) (pv 3)))) rfl)
      (pss_one (ps_fldU (K := K) rfl (pv 0) pe_int rfl)))))))))), ?_⟩)
  obtain ⟨x, dx, s, S, W, Z, P, rfl, hx, hs, s0, s1, w0, w1, z0, z1, hQ⟩ := h
  have M := Has.one hx
  walk_at "go"

  refine g_setF M 0 rfl (cl_Cache T) (na_Cache__sets T) (by show 0 < 1000; decide) (pt_new nf_Cache__sets) (fun M1 => ?_)
  walk_at "go"
  refine g_setF M1 0 rfl (cl_Cache T) (na_Cache__ways T) (by show 1 < 1000; decide) (pt_new nf_Cache__ways) (fun M2 => ?_)
  walk_at "go"
  refine g_setF M2 0 rfl (cl_Cache T) (na_Cache__line T) (by show 2 < 1000; decide) (pt_new nf_Cache__line) (fun M3 => ?_)
  walk_at "go"
  refine g_setF M3 0 rfl (cl_Cache T) (na_Cache__policy T) (by show 3 < 1000; decide) (pt_new nf_Cache__policy) (fun M4 => ?_)
  walk_at "go"
  have k4 : Keep [x] H (upd (upd (upd (upd H x (.ins (He.ga K "Cache") dx [("_sets", .int S)])) x (.ins (He.ga K "Cache") dx [("_sets", .int S), ("_ways", .int W)])) x (.ins (He.ga K "Cache") dx [("_sets", .int S), ("_ways", .int W), ("_line", .int Z)])) x (.ins (He.ga K "Cache") dx [("_sets", .int S), ("_ways", .int W), ("_line", .int Z), ("_policy", .str P)])) := (((Keep.set (by simp)).trans (Keep.set (by simp))).trans (Keep.set (by simp))).trans (Keep.set (by simp))
  have bk : ∀ {H' : Hp} {a : Addr}, Keep [x] H H' → H' x ≠ none → H' a = none → H a = none := by
    intro H' a k h1 h2
    refine k.back h2 ?_
    rw [List.mem_singleton]
    intro e
    subst e
    exact h1 h2
  have x4 := M4.get 0 rfl
  refine l_rows (w := W) M4 (by omega) w1 (fun _ => rfl) (fun _ => rfl) (fun DA as H5 hDA las sm5 fa5 M5 => ?_)
  have hDA' := bk k4 (nn x4) hDA
  have fa5' : ∀ a ∈ as, H a = none := fun a h => bk k4 (nn x4) (fa5 a h)
  have k5 := k4.trans (Keep.of sm5)
  walk_at "go"
  refine g_setF M5 0 rfl (cl_Cache T) (na_Cache__places T) (by show 4 < 1000; decide) (pt_new nf_Cache__places) (fun M6 => ?_)
  have k6 := k5.trans (Keep.set (a := x) (o := .ins (He.ga K "Cache") dx [("_sets", .int S), ("_ways", .int W), ("_line", .int Z), ("_policy", .str P), ("_places", .ref DA)]) (by simp))
  have x6 := M6.get 0 rfl
  walk_at "go"
  refine l_rows (w := W) M6 (by omega) w1 (fun _ => rfl) (fun _ => rfl) (fun DB bs H7 hDB lbs sm7 fa7 M7 => ?_)
  have hDB' := bk k6 (nn x6) hDB
  have fa7' : ∀ a ∈ bs, H a = none := fun a h => bk k6 (nn x6) (fa7 a h)
  have k7 := k6.trans (Keep.of sm7)
  walk_at "go"
  refine g_setF M7 0 rfl (cl_Cache T) (na_Cache__times T) (by show 5 < 1000; decide) (pt_new nf_Cache__times) (fun M8 => ?_)
  have k8 := k7.trans (Keep.set (a := x) (o := .ins (He.ga K "Cache") dx [("_sets", .int S), ("_ways", .int W), ("_line", .int Z), ("_policy", .str P), ("_places", .ref DA), ("_times", .ref DB)]) (by simp))
  have x8 := M8.get 0 rfl
  walk_at "go"
  refine l_rows (w := W) M8 (by omega) w1 (fun _ => rfl) (fun _ => rfl) (fun DG gs H9 hDG lgs sm9 fa9 M9 => ?_)
  have hDG' := bk k8 (nn x8) hDG
  have fa9' : ∀ a ∈ gs, H a = none := fun a h => bk k8 (nn x8) (fa9 a h)
  have k9 := k8.trans (Keep.of sm9)
  walk_at "go"
  refine g_setF M9 0 rfl (cl_Cache T) (na_Cache__pointers T) (by show 6 < 1000; decide) (pt_new nf_Cache__pointers) (fun M10 => ?_)
  have k10 := k9.trans (Keep.set (a := x) (o := .ins (He.ga K "Cache") dx [("_sets", .int S), ("_ways", .int W), ("_line", .int Z), ("_policy", .str P), ("_places", .ref DA), ("_times", .ref DB), ("_pointers", .ref DG)]) (by simp))
  walk_at "go"
  refine g_setF M10 0 rfl (cl_Cache T) (na_Cache__time T) (by show 7 < 1000; decide) (pt_new nf_Cache__time) (fun M11 => ?_)
  have k11 := k10.trans (Keep.set (a := x) (o := .ins (He.ga K "Cache") dx [("_sets", .int S), ("_ways", .int W), ("_line", .int Z), ("_policy", .str P), ("_places", .ref DA), ("_times", .ref DB), ("_pointers", .ref DG), ("_time", .int 0)]) (by simp))
  walk_at "go"
  rw [Int.toNat_natCast] at las lbs lgs
  refine hQ _ ⟨x, dx, DA, DB, DG, as, bs, gs⟩ rfl rfl k11 ?_ (has_ca (r1 := List.replicate W .non) (r2 := List.replicate W (.int 0)) (r3 := List.replicate W (.int 0)) M11 ?_ ?_ ?_) ?_
  · intro a ha hne
    simp only [CaA, List.mem_append, List.mem_cons, List.not_mem_nil, or_false] at ha
    rcases ha with (rfl | rfl | rfl | rfl) | h | h | h
    · exact (hne rfl).elim
    · exact hDA'
    · exact hDB'
    · exact hDG'
    · exact fa5' a h
    · exact fa7' a h
    · exact fa9' a h
  · show tab as (List.replicate as.length _) = tab as ((List.replicate S (List.replicate W none)).map (·.map ovV))
    rw [las, List.map_replicate, List.map_replicate]
    rfl
  · show tab bs (List.replicate bs.length _) = tab bs ((List.replicate S (List.replicate W 0)).map (·.map V.int))
    rw [lbs, List.map_replicate, List.map_replicate]
  · show tab gs (List.replicate gs.length _) = tab gs ((List.replicate S (List.replicate W 0)).map (·.map V.int))
    rw [lgs, List.map_replicate, List.map_replicate]
  · refine ⟨s0, s1, w0, w1, z0, z1, las, lbs, lgs, List.length_replicate, List.length_replicate, List.length_replicate, ?_, ?_, ?_⟩
    · intro r hr
      rw [List.eq_of_mem_replicate hr, List.length_replicate]
    · intro r hr
      rw [List.eq_of_mem_replicate hr, List.length_replicate]
    · intro r hr
      rw [List.eq_of_mem_replicate hr, List.length_replicate]
      exact ⟨rfl, fun y hy => .inl (List.eq_of_mem_replicate hy)⟩
/-! for the callers -/
section
variable {K : PySem.W.Frag} {H : Hp} {X Y : List (Addr × HO)} {d : CAd} {c : CSt} {x : Int} {Q : VK} {E : XK}
theorem use_touch (M : Has H (X ++ (CaL K d c ++ Y))) (wf : CWf d c) (k : ∀ H', Keep (CaA d) H H' → Has H' (X ++ (CaL K d (tcV c x) ++ Y)) → Q (.bl (decide (hitV c x))) H') : sp_Cache_touch K (.ref d.p :: ([.int x] ++ [])) H Q E :=
  ⟨d, c, x, rfl, M.mid, wf, fun H' kp M' => k H' kp (M.frame (by rw [ca_fst wf]; exact kp) M' (by rw [ca_fst wf, ca_fst wf.tc]))⟩
theorem use_drop (M : Has H (X ++ (CaL K d c ++ Y))) (wf : CWf d c) (k : ∀ H', Keep (CaA d) H H' → Has H' (X ++ (CaL K d (dpV c x) ++ Y)) → Q (.bl (decide (hitV c x))) H') : sp_Cache_drop K (.ref d.p :: ([.int x] ++ [])) H Q E :=
  ⟨d, c, x, rfl, M.mid, wf, fun H' kp M' => k H' kp (M.frame (by rw [ca_fst wf]; exact kp) M' (by rw [ca_fst wf, ca_fst wf.dp]))⟩
theorem has_join {H : Hp} {L L' : List (Addr × HO)} (M : Has H L) (M' : Has H L') (h : ∀ a ∈ L'.map (·.1), a ∉ L.map (·.1)) : Has H (L ++ L') where
  nd := by
    rw [List.map_append, List.nodup_append]
    exact ⟨M.nd, M'.nd, fun a ha b hb e => h b hb (e ▸ ha)⟩
  is_ := fun p hp => by
    rcases List.mem_append.mp hp with h | h
    · exact M.is_ p h
    · exact M'.is_ p h
theorem use_cache {L : List (Addr × HO)} {p dx s : Addr} {S W Z : Nat} {P : Str} {R : Hp → Prop} (M : Has H L) (hx : H p = none) (hd : H dx = none) (hs : H s = some (.tup [.int S, .int W, .int Z, .str P])) (s0 : 0 < S) (s1 : S ≤ 1000) (w0 : 0 < W) (w1 : W ≤ 1000) (z0 : 0 < Z) (z1 : Z ≤ 1000000)
    (k : ∀ H' d, d.p = p → Same H H' → Has H' (L ++ CaL K d (c0V S W Z P)) → CWf d (c0V S W Z P) → R H') :
    sp_Cache___init__ K (.ref p :: ([.ref s] ++ [])) (upd (upd H dx (.own p)) p (.ins (He.ga K "Cache") dx [])) (fun v H2 => v = .non ∧ R H2) E := by
  refine ⟨p, dx, s, S, W, Z, P, rfl, upd_same, made_same hx hd _ _ hs, s0, s1, w0, w1, z0, z1, fun H' d e1 e2 kp fr M' wf => ⟨rfl, ?_⟩⟩
  have sm : Same H H' := fun b o e => kp b o (made_same hx hd _ _ e) (fun z => by
    rw [List.mem_singleton] at z
    subst z
    rw [hx] at e
    cases e)
  refine k H' d e1 sm (has_join (M.keep sm) M' ?_) wf
  intro a ha
  rw [ca_fst wf] at ha
  by_cases h : a = p
  · subst h
    exact M.fresh hx
  · exact M.fresh (made_none (fr a ha h)).1
end


/-! ### the predictor -/
/-- its counters' place -/
def plV (k : Str) (h : Int) (n : Nat) (row : Int) : Int := if k = "history" then Builtin.bitXor (row % n) h else row % n
/-- where it may be asked -/
structure PrOk (k : Str) (b h : Int) (cs : List Int) : Prop where
  kind : k = "taken" ∨ (k = "two" ∧ 0 < cs.length) ∨ (k = "history" ∧ 0 ≤ b ∧ b ≤ 60 ∧ cs.length = 2 ^ b.toNat ∧ 0 ≤ h ∧ h < 2 ^ b.toNat)
theorem th_ne : ¬ ("taken" : Str) = "history" := by decide +kernel
theorem t2_ne : ¬ ("two" : Str) = "history" := by decide +kernel
theorem t2_nt : ¬ ("two" : Str) = "taken" := by decide +kernel
theorem tt_ne : ¬ ("taken" : Str) = "two" := by decide +kernel
theorem h2_ne : ¬ ("history" : Str) = "two" := by decide +kernel
theorem ht_ne : ¬ ("history" : Str) = "taken" := by decide +kernel
theorem pw_cast (n : Nat) : ((2 ^ n : Nat) : Int) = 2 ^ n := by simp
theorem pw_int (n : Nat) : (2 : Int) ^ n = ((2 ^ n : Nat) : Int) := by simp
theorem PrOk.pl {k : Str} {b h row : Int} {cs : List Int} (o : PrOk k b h cs) (nt : ¬ k = "taken") : 0 < cs.length ∧ 0 ≤ plV k h cs.length row ∧ plV k h cs.length row < cs.length := by
  rcases o.kind with e | ⟨e, h0⟩ | ⟨e, h0, h1, h2, h3, h4⟩
  · exact (nt e).elim
  · subst e
    unfold plV
    rw [if_neg t2_ne]
    refine ⟨h0, Int.emod_nonneg _ (by omega), Int.emod_lt_of_pos _ (by omega)⟩
  · subst e
    have hp : 0 < cs.length := by rw [h2]; exact Nat.two_pow_pos _
    unfold plV
    rw [if_pos rfl]
    have a0 : 0 ≤ row % (cs.length : Int) := Int.emod_nonneg _ (by omega)
    have a1 : row % (cs.length : Int) < cs.length := Int.emod_lt_of_pos _ (by omega)
    refine ⟨hp, Bits.bitXor_nonneg a0 h3, ?_⟩
    rw [Bits.bitXor_pp a0 h3]
    have e1 : (row % (cs.length : Int)).toNat < 2 ^ b.toNat := by rw [← h2]; omega
    have e2 : h.toNat < 2 ^ b.toNat := by
      rw [pw_int] at h4
      omega
    have := Nat.xor_lt_two_pow e1 e2
    rw [← h2] at this
    exact Int.ofNat_lt.mpr this
/-- the predictor at p, its counters at c -/
abbrev prO (K : PySem.W.Frag) (dx : Addr) (k : Str) (b h : Int) (c : Addr) : HO := .ins (He.ga K "Predictor") dx (fs_Predictor (.str k) (.int b) (.int h) (.ref c))
abbrev ctO (cs : List Int) : HO := .lst (cs.map V.int)
def sp_Predictor_place_of (K : PySem.W.Frag) : Sp := fun vs H Q _ => ∃ (p dx c : Addr) (k : Str) (b h : Int) (cs : List Int) (row : Int), vs = [.ref p, .int row] ∧ H p = some (prO K dx k b h c) ∧ H c = some (ctO cs) ∧ 0 < cs.length ∧ Q (.int (plV k h cs.length row)) H
theorem sc_Predictor_place_of : FnScope ["self", "row", "place"] ["self", "row"] (defScope (inClass (topS 12) 1)) := ⟨rfl, rfl, rfl, by decide +kernel, rfl, by decide +kernel, by decide +kernel⟩
theorem mt_Predictor_place_of (T : Txt fa fn K mg (XOk cs xcs K w)) : Mt P w K mg base CX0 1 "Predictor" "place_of" ["self", "row"] (sp_Predictor_place_of K) := by
  refine mk_mt (d := mOf "Predictor" "place_of" "Predictor.place_of" (inClass (topS 12) 1)) T 60 rfl rfl rfl rfl sc_Predictor_place_of (by walk_at "len") (fun _ _ _ _ _ _ us hl => match us, hl with | [_, _], _ => rfl) (fun cdv A outer s H vs Q E hr h => ⟨_, (pss_cons (ps_set (i := 2) sc_Predictor_place_of.nd rfl (.inl rfl) (pe_op o_mod (pv 1) (pe_callB (c_len (K := K) rfl) rfl (T.free 128 rfl) (by decide +kernel) (pa_cons (pe_fldU (K := K) rfl (pv 0) rfl) pa_nil))))
      (pss_cons (ps_if (pt_cmpR (op_eqU (K := K) rfl hr.units) (pe_fldU (K := K) rfl (pv 0) rfl) pe_str (nomark _)) (pss_one (ps_set (i := 2) sc_Predictor_place_of.nd rfl (.inl rfl) (pe_op op_xor (pv 2) (pe_fldU (K := K) rfl (pv 0) rfl)))) pss_nil)
      (pss_one (ps_ret (pv 2))))), ?_⟩)
  obtain ⟨p, dx, c, k, b, h, cs, row, rfl, hp, hc, h0, hQ⟩ := h
  have hl : (cs.map V.int).length = cs.length := List.length_map _
  walk_at "go"
  refine g_if (fun h1 => ?_) (fun h1 => ?_)
  · walk_at "go"
    refine q_int ?_ hQ
    unfold plV
    rw [if_pos h1]
  · walk_at "go"
    refine q_int ?_ hQ
    unfold plV
    rw [if_neg h1]
def gsV (k : Str) (h : Int) (cs : List Int) (row : Int) : Bool := if k = "taken" then true else decide (2 ≤ cs.getD (plV k h cs.length row).toNat 0)
def sp_Predictor_guess (K : PySem.W.Frag) : Sp := fun vs H Q _ => ∃ (p dx c : Addr) (k : Str) (b h : Int) (cs : List Int) (row : Int), vs = [.ref p, .int row] ∧ H p = some (prO K dx k b h c) ∧ H c = some (ctO cs) ∧ PrOk k b h cs ∧ Q (.bl (gsV k h cs row)) H
theorem getD_at {cs : List Int} {i : Int} (h0 : 0 ≤ i) (h1 : i < cs.length) : (cs.map V.int)[i.toNat]? = some (.int (cs.getD i.toNat 0)) := by
  rw [List.getElem?_map, List.getD_eq_getElem?_getD, List.getElem?_eq_getElem (by omega)]
  rfl
theorem sc_Predictor_guess : FnScope ["self", "row"] ["self", "row"] (defScope (inClass (topS 12) 2)) := ⟨rfl, rfl, rfl, by decide +kernel, rfl, by decide +kernel, by decide +kernel⟩
theorem mt_Predictor_guess (T : Txt fa fn K mg (XOk cs xcs K w)) : Mt P w K mg base CX0 2 "Predictor" "guess" ["self", "row"] (sp_Predictor_guess K) := by
  refine mk_mt (d := mOf "Predictor" "guess" "Predictor.guess" (inClass (topS 12) 2)) T 61 rfl rfl rfl rfl sc_Predictor_guess (by walk_at "len") (fun _ _ _ _ _ _ us hl => match us, hl with | [_, _], _ => rfl) (fun cdv A outer s H vs Q E hr h => ⟨_, (pss_cons (ps_if (pt_cmpR (op_eqU (K := K) rfl hr.units) (pe_fldU (K := K) rfl (pv 0) rfl) pe_str (nomark _)) (pss_one (ps_ret pe_bl)) pss_nil)
      (pss_one (ps_ret (pe_cmpR o_ge (pe_ixU (K := K) rfl (hu_of hr) (pe_fldU (K := K) rfl (pv 0) rfl) (pe_methD (K := K) rfl (mt_Predictor_place_of T) (cl_Predictor T) (T.meth 76 rfl) (hr.mono (by decide)) pass0 (pv 0) (pa_cons (pv 1) pa_nil))) pe_int (nomark _))))), ?_⟩)
  obtain ⟨p, dx, c, k, b, h, cs, row, rfl, hp, hc, ok, hQ⟩ := h
  walk_at "go"
  refine g_if (fun h1 => ?_) (fun h1 => ?_)
  · walk_at "go"
    refine q_bl ?_ hQ
    unfold gsV
    rw [if_pos h1]
  · walk_at "go"
    obtain ⟨h0, h2, h3⟩ := ok.pl (row := row) h1
    refine ⟨p, dx, c, k, b, h, cs, row, rfl, hp, hc, h0, ?_⟩
    walk_at "go"
    refine g_ixL (SqL.of hc) (n := (plV k h cs.length row).toNat) (by omega) (getD_at h2 h3) ?_
    walk_at "go"
    refine q_bl ?_ hQ
    unfold gsV
    rw [if_neg h1]
/-- a counter turned -/
def upV (t : Bool) (c : Int) : Int := if t then min 3 (c + 1) else max 0 (c - 1)
def lcV (k : Str) (h : Int) (cs : List Int) (row : Int) (t : Bool) : List Int := if k = "taken" then cs else cs.set (plV k h cs.length row).toNat (upV t (cs.getD (plV k h cs.length row).toNat 0))
def lhV (k : Str) (b h : Int) (t : Bool) : Int := if k = "history" then (2 * h + if t then 1 else 0) % 2 ^ b.toNat else h
def sp_Predictor_learn (K : PySem.W.Frag) : Sp := fun vs H Q _ => ∃ (p dx c : Addr) (k : Str) (b h : Int) (cs : List Int) (row : Int) (t : Bool), vs = [.ref p, .int row, .bl t] ∧ H p = some (prO K dx k b h c) ∧ H c = some (ctO cs) ∧ PrOk k b h cs ∧
  ∀ H', Keep [p, c] H H' → H' p = some (prO K dx k b (lhV k b h t) c) → H' c = some (ctO (lcV k h cs row t)) → Q .non H'
theorem set_map_int {cs : List Int} {n : Nat} {x : Int} : (cs.map V.int).set n (.int x) = (cs.set n x).map V.int := by rw [List.map_set]
theorem sc_Predictor_learn : FnScope ["self", "row", "taken", "place"] ["self", "row", "taken"] (defScope (inClass (topS 12) 3)) := ⟨rfl, rfl, rfl, by decide +kernel, rfl, by decide +kernel, by decide +kernel⟩
theorem mt_Predictor_learn (T : Txt fa fn K mg (XOk cs xcs K w)) : Mt P w K mg base CX0 2 "Predictor" "learn" ["self", "row", "taken"] (sp_Predictor_learn K) := by
  refine mk_mt (d := mOf "Predictor" "learn" "Predictor.learn" (inClass (topS 12) 3)) T 62 rfl rfl rfl rfl sc_Predictor_learn (by walk_at "len") (fun _ _ _ _ _ _ us hl => match us, hl with | [_, _, _], _ => rfl) (fun cdv A outer s H vs Q E hr h => ⟨_, (pss_cons (ps_if (pt_cmpR (op_eqU (K := K) rfl hr.units) (pe_fldU (K := K) rfl (pv 0) rfl) pe_str (nomark _)) (pss_one ps_retN) pss_nil)
      (pss_cons (ps_set (i := 3) sc_Predictor_learn.nd rfl (.inl rfl) (pe_methD (K := K) rfl (mt_Predictor_place_of T) (cl_Predictor T) (T.meth 76 rfl) (hr.mono (by decide)) pass0 (pv 0) (pa_cons (pv 1) pa_nil)))
      (pss_cons (ps_join (ps_if (pt_tru (K := K) rfl (pv 2)) (pss_one (ps_asg (pe_callB (c_min2 rfl) rfl (T.free 131 rfl) (by decide +kernel) (pa_cons pe_int (pa_cons (pe_op (op_addU (K := K) rfl) (pe_ixU (K := K) rfl (hu_of hr) (pe_fldU (K := K) rfl (pv 0) rfl) (pv 3)) pe_int) pa_nil))) (pg_sub (pe_fldU (K := K) rfl (pv 0) rfl) (pv 3) (set_U (hu_of hr))))) (pss_one (ps_asg (pe_callB (c_max2 rfl) rfl (T.free 130 rfl) (by decide +kernel) (pa_cons pe_int (pa_cons (pe_op op_sub (pe_ixU (K := K) rfl (hu_of hr) (pe_fldU (K := K) rfl (pv 0) rfl) (pv 3)) pe_int) pa_nil))) (pg_sub (pe_fldU (K := K) rfl (pv 0) rfl) (pv 3) (set_U (hu_of hr)))))))
      (pss_one (ps_if (pt_cmpR (op_eqU (K := K) rfl hr.units) (pe_fldU (K := K) rfl (pv 0) rfl) pe_str (nomark _)) (pss_one (ps_fldU (K := K) rfl (pv 0) (pe_op o_mod (pe_op (op_addU (K := K) rfl) (pe_op op_mulU pe_int (pe_fldU (K := K) rfl (pv 0) rfl)) (pe_callTy c_int rfl (T.free 126 rfl) (by decide +kernel) (pa_cons (pv 2) pa_nil))) (pe_op o_shl pe_int (pe_fldU (K := K) rfl (pv 0) rfl))) rfl)) pss_nil))))), ?_⟩)
  obtain ⟨p, dx, c, k, b, h, cs, row, t, rfl, hp, hc, ok, hQ⟩ := h
  walk_at "go"
  refine g_if (fun h1 => ?_) (fun h1 => ?_)
  · walk_at "go"
    refine hQ H Keep.refl ?_ ?_
    · unfold lhV
      rw [if_neg (fun e => ht_ne (e.symm.trans h1))]
      exact hp
    · unfold lcV
      rw [if_pos h1]
      exact hc
  walk_at "go"
  obtain ⟨h0, h2, h3⟩ := ok.pl (row := row) h1
  refine ⟨p, dx, c, k, b, h, cs, row, rfl, hp, hc, h0, ?_⟩
  walk_at "go"
  have M : Has H [(p, prO K dx k b h c), (c, ctO cs)] := ⟨by
    have ne : p ≠ c := ne_of hp hc (by intro z; cases z)
    simp [ne], fun q hq => by
    rcases List.mem_cons.mp hq with e | hq
    · rw [e]; exact hp
    · rw [List.mem_singleton.mp hq]; exact hc⟩
  have hix := getD_at h2 h3
  have hl : (cs.map V.int).length = cs.length := List.length_map _
  refine ⟨fun σ H' => σ = [some (.ref p), some (.int row), some (.bl t), some (.int (plV k h cs.length row))] ∧ Keep [p, c] H H' ∧ Has H' [(p, prO K dx k b h c), (c, ctO (lcV k h cs row t))], ?_, ?_⟩
  · walk_at "go"
    have fin : ∀ x, x = upV t (cs.getD (plV k h cs.length row).toNat 0) → Has (upd H c (.lst ((cs.map V.int).set (plV k h cs.length row).toNat (.int x)))) [(p, prO K dx k b h c), (c, ctO (lcV k h cs row t))] := fun x e => by
      have z : ctO (lcV k h cs row t) = .lst ((cs.map V.int).set (plV k h cs.length row).toNat (.int x)) := by
        unfold ctO lcV
        rw [if_neg h1, set_map_int, e]
      rw [z]
      exact M.set 1 rfl
    cases t with
    | true =>
      walk_at "go"
      refine g_ixL (SqL.of hc) (n := (plV k h cs.length row).toNat) (by omega) hix ?_
      walk_at "go"
      refine g_setU M 1 rfl (m := (plV k h cs.length row).toNat) (by omega) (by omega) (fun _ => ?_)
      walk_at "go"
      refine ⟨rfl, Keep.set (by simp), fin _ ?_⟩
      unfold upV
      simp only [if_true]
      omega
    | false =>
      walk_at "go"
      refine g_ixL (SqL.of hc) (n := (plV k h cs.length row).toNat) (by omega) hix ?_
      walk_at "go"
      refine g_setU M 1 rfl (m := (plV k h cs.length row).toNat) (by omega) (by omega) (fun _ => ?_)
      walk_at "go"
      refine ⟨rfl, Keep.set (by simp), fin _ ?_⟩
      unfold upV
      simp only [Bool.false_eq_true, if_false]
      omega
  rintro σ H1 ⟨rfl, k1, M1⟩
  walk_at "go"
  have hp1 := M1.get 0 rfl
  refine g_if (fun h4 => ?_) (fun h4 => ?_)
  · walk_at "go"
    rcases ok.kind with e | ⟨e, _⟩ | ⟨e, b0, b1, b2, b3, b4⟩
    · exact (h1 e).elim
    · exact (t2_ne (e.symm.trans h4)).elim
    have hpw : (0 : Int) < 1 * 2 ^ b.toNat := by
      have := Nat.two_pow_pos b.toNat
      rw [pw_int]
      omega
    refine g_shl (by omega) (by omega) (by decide) ?_
    refine g_mod hpw ?_
    walk_at "go"
    refine g_setF M1 0 rfl (cl_Predictor T) (na_Predictor__history T) (by show 4 < 1000; decide) (pt_ix 2 nd_Predictor rfl) (fun M2 => ?_)
    walk_at "go"
    have e : lhV k b h t = (2 * h + if t then 1 else 0) % (1 * 2 ^ b.toNat) := by
      unfold lhV
      rw [if_pos h4, Int.one_mul]
    refine hQ _ (k1.trans (Keep.set (by simp))) ?_ (M2.get 1 rfl)
    rw [e]
    exact M2.get 0 rfl
  · walk_at "go"
    refine hQ _ k1 ?_ (M1.get 1 rfl)
    have e : lhV k b h t = h := by
      unfold lhV
      rw [if_neg h4]
    rw [e]
    exact hp1
/-- what a predictor's settings are -/
inductive PSet_ : Str → Int → List V → Prop
  | taken : PSet_ "taken" 0 [.str "taken"]
  | two (n : Int) (h : 0 < n) (h2 : n ≤ 100000) : PSet_ "two" n [.str "two", .int n]
  | hist (n : Int) (h : 0 ≤ n) (h2 : n ≤ 16) : PSet_ "history" n [.str "history", .int n]
def b0V (k : Str) (n : Int) : Int := if k = "history" then n else 0
def k0V (k : Str) (n : Int) : List Int := if k = "two" then List.replicate n.toNat 1 else if k = "history" then List.replicate (2 ^ n.toNat) 1 else []
def sp_Predictor___init__ (K : PySem.W.Frag) : Sp := fun vs H Q _ => ∃ (p dx s : Addr) (k : Str) (n : Int) (xs : List V), vs = [.ref p, .ref s] ∧ H p = some (.ins (He.ga K "Predictor") dx []) ∧ H s = some (.tup xs) ∧ PSet_ k n xs ∧
  ∀ H' c, Keep [p] H H' → H c = none → H' p = some (prO K dx k (b0V k n) 0 c) → H' c = some (ctO (k0V k n)) → Q .non H'
theorem pr_start {k : Str} {n : Int} {xs : List V} (h : PSet_ k n xs) : PrOk k (b0V k n) 0 (k0V k n) := by
  cases h with
  | taken => exact ⟨.inl rfl⟩
  | two n h h2 =>
    refine ⟨.inr (.inl ⟨rfl, ?_⟩)⟩
    unfold k0V
    rw [if_pos rfl, List.length_replicate]
    omega
  | hist n h h2 =>
    refine ⟨.inr (.inr ⟨rfl, ?_⟩)⟩
    unfold b0V k0V
    rw [if_pos rfl, if_neg h2_ne, if_pos rfl, List.length_replicate]
    refine ⟨h, by omega, rfl, Int.le_refl _, ?_⟩
    rw [pw_int]
    have := Nat.two_pow_pos n.toNat
    omega

theorem new_ne {H : Hp} {p q : Addr} {o : HO} (hp : H p = some o) (hq : H q = none) : q ∉ [p] := fun z => by
  rw [List.mem_singleton] at z
  subst z
  rw [hp] at hq
  cases hq
theorem sc_Predictor___init__ : FnScope ["self", "settings"] ["self", "settings"] (defScope (inClass (topS 12) 0)) := ⟨rfl, rfl, rfl, by decide +kernel, rfl, by decide +kernel, by decide +kernel⟩
theorem mt_Predictor___init__ (T : Txt fa fn K mg (XOk cs xcs K w)) : Mt P w K mg base CX0 1 "Predictor" "__init__" ["self", "settings"] (sp_Predictor___init__ K) := by
  refine mk_mt (d := mOf "Predictor" "__init__" "Predictor.__init__" (inClass (topS 12) 0)) T 59 rfl rfl rfl rfl sc_Predictor___init__ (by walk_at "len") (fun _ _ _ _ _ _ us hl => match us, hl with | [_, _], _ => rfl) (fun cdv A outer s H vs Q E hr h => ⟨_, (pss_cons (ps_fldU (K := K) rfl (pv 0) (pe_ixU (K := K) rfl (hu_of hr) (pv 1) pe_int) rfl)
      (pss_cons (ps_fldU (K := K) rfl (pv 0) pe_int rfl)
      (pss_cons (ps_fldU (K := K) rfl (pv 0) pe_int rfl)
      (pss_cons (ps_fldU (K := K) rfl (pv 0) (pe_lst pa_nil) rfl)
      (pss_one (ps_if (pt_cmpR (op_eqU (K := K) rfl hr.units) (pe_fldU (K := K) rfl (pv 0) rfl) pe_str (nomark _)) (pss_one (ps_fldU (K := K) rfl (pv 0) (pe_op op_mulU (pe_lst (pa_cons pe_int pa_nil)) (pe_ixU (K := K) rfl (hu_of hr) (pv 1) pe_int)) rfl)) (pss_one (ps_if (pt_cmpR (op_eqU (K := K) rfl hr.units) (pe_fldU (K := K) rfl (pv 0) rfl) pe_str (nomark _)) (pss_cons (ps_fldU (K := K) rfl (pv 0) (pe_ixU (K := K) rfl (hu_of hr) (pv 1) pe_int) rfl)
      (pss_one (ps_fldU (K := K) rfl (pv 0) (pe_op op_mulU (pe_lst (pa_cons pe_int pa_nil)) (pe_op o_shl pe_int (pe_fldU (K := K) rfl (pv 0) rfl))) rfl))) pss_nil)))))))), ?_⟩)
  obtain ⟨p, dx, s, k, n, xs, rfl, hp, hs, hset, hQ⟩ := h
  have nsp : p ≠ s := ne_of hp hs (by intro z; cases z)
  have M0 : Has H [(p, .ins (He.ga K "Predictor") dx []), (s, .tup xs)] := ⟨by simp [nsp], fun q hq => by
    rcases List.mem_cons.mp hq with e | hq
    · rw [e]; exact hp
    · rw [List.mem_singleton.mp hq]; exact hs⟩
  have k0 : Keep [p] H H := Keep.refl
  have mp : p ∈ [p] := List.mem_singleton.mpr rfl
  obtain ⟨tl, rfl⟩ : ∃ tl, xs = .str k :: tl := by cases hset <;> exact ⟨_, rfl⟩
  walk_at "go"
  try refine g_ixT (SqT.of hs) (n := 0) rfl rfl ?_
  walk_at "go"
  refine g_setF M0 0 rfl (cl_Predictor T) (na_Predictor__kind T) (by decide) (pt_new nf_Predictor__kind) (fun M1 => ?_)
  have k1 := k0.trans (Keep.set (o := .ins (He.ga K "Predictor") dx [("_kind", .str k)]) mp)
  walk_at "go"
  refine g_setF M1 0 rfl (cl_Predictor T) (na_Predictor__bits T) (by show 1 < 1000; decide) (pt_new nf_Predictor__bits) (fun M2 => ?_)
  have k2 := k1.trans (Keep.set (o := .ins (He.ga K "Predictor") dx [("_kind", .str k), ("_bits", .int 0)]) mp)
  walk_at "go"
  refine g_setF M2 0 rfl (cl_Predictor T) (na_Predictor__history T) (by show 2 < 1000; decide) (pt_new nf_Predictor__history) (fun M3 => ?_)
  have k3 := k2.trans (Keep.set (o := .ins (He.ga K "Predictor") dx [("_kind", .str k), ("_bits", .int 0), ("_history", .int 0)]) mp)
  walk_at "go"
  refine ⟨by decide, fun q hq => ?_⟩
  have M4 := M3.new (o := .lst []) hq
  have k4 := k3.trans (Keep.new (o := .lst []) hq)
  have hHq : H q = none := k3.back hq (new_ne (M3.get 0 rfl) hq)
  walk_at "go"
  refine g_setF M4 0 rfl (cl_Predictor T) (na_Predictor__counters T) (by show 3 < 1000; decide) (pt_new nf_Predictor__counters) (fun M5 => ?_)
  have k5 := k4.trans (Keep.set (o := prO K dx k 0 0 q) mp)
  have hs5 := M5.get 1 rfl
  walk_at "go"
  cases hset with
  | taken =>
    try refine g_if (fun e => (tt_ne e).elim) (fun _ => ?_)
    walk_at "go"
    try refine g_if (fun e => (th_ne e).elim) (fun _ => ?_)
    walk_at "go"
    refine hQ _ q k5 hHq ?_ ?_
    · unfold b0V
      rw [if_neg th_ne]
      exact M5.get 0 rfl
    · unfold k0V
      rw [if_neg tt_ne, if_neg th_ne]
      exact M5.get 2 rfl
  | two _ h h2 =>
    try refine g_if (fun _ => ?_) (fun e => (e rfl).elim)
    walk_at "go"
    refine ⟨by show 1 ≤ sizeLine; decide, fun u hu => ?_⟩
    have M6 := M5.new (o := .lst [.int 1]) hu
    have k6 := k5.trans (Keep.new (o := .lst [.int 1]) hu)
    walk_at "go"
    try refine g_ixT (SqT.of (M6.get 1 rfl)) (n := 1) rfl rfl ?_
    refine g_repI (M6.get 3 rfl) (by omega) (by omega) (fun c hc => ?_)
    have M7 := M6.new (o := ctO (List.replicate n.toNat 1)) hc
    have k7 := k6.trans (Keep.new (o := ctO (List.replicate n.toNat 1)) hc)
    have hHc : H c = none := k6.back hc (new_ne (M6.get 0 rfl) hc)
    walk_at "go"
    refine g_setF M7 0 rfl (cl_Predictor T) (na_Predictor__counters T) (by show 4 < 1000; decide) (pt_ix 3 nd_Predictor rfl) (fun M8 => ?_)
    have k8 := k7.trans (Keep.set (o := prO K dx "two" 0 0 c) mp)
    walk_at "go"
    refine hQ _ c k8 hHc ?_ ?_
    · unfold b0V
      rw [if_neg t2_ne]
      exact M8.get 0 rfl
    · unfold k0V
      rw [if_pos rfl]
      exact M8.get 4 rfl
  | hist _ h h2 =>
    try refine g_if (fun e => (h2_ne e).elim) (fun _ => ?_)
    walk_at "go"
    try refine g_if (fun _ => ?_) (fun e => (e rfl).elim)
    walk_at "go"
    try refine g_ixT (SqT.of hs5) (n := 1) rfl rfl ?_
    walk_at "go"
    refine g_setF M5 0 rfl (cl_Predictor T) (na_Predictor__bits T) (by show 4 < 1000; decide) (pt_ix 1 nd_Predictor rfl) (fun M6 => ?_)
    have k6 := k5.trans (Keep.set (o := prO K dx "history" n 0 q) mp)
    walk_at "go"
    refine ⟨by show 1 ≤ sizeLine; decide, fun u hu => ?_⟩
    have M7 := M6.new (o := .lst [.int 1]) hu
    have k7 := k6.trans (Keep.new (o := .lst [.int 1]) hu)
    walk_at "go"
    have hpw : (1 : Int) * 2 ^ n.toNat = ((2 ^ n.toNat : Nat) : Int) := by rw [pw_int, Int.one_mul]
    have hp16 : 2 ^ n.toNat ≤ 2 ^ 16 := Nat.pow_le_pow_right (by decide) (by omega)
    rw [hpw]
    have hpa : (-4611686018427387904 : Int) ≤ ((2 ^ n.toNat : Nat) : Int) := Int.le_trans (by decide) (Int.natCast_nonneg _)
    have hpb : ((2 ^ n.toNat : Nat) : Int) ≤ 100000 := Int.ofNat_le.mpr (Nat.le_trans hp16 (by decide))
    refine g_repI (M7.get 3 rfl) hpa hpb (fun c hc => ?_)
    rw [Int.toNat_natCast] at *
    have M8 := M7.new (o := ctO (List.replicate (2 ^ n.toNat) 1)) hc
    have k8 := k7.trans (Keep.new (o := ctO (List.replicate (2 ^ n.toNat) 1)) hc)
    have hHc : H c = none := k7.back hc (new_ne (M7.get 0 rfl) hc)
    walk_at "go"
    refine g_setF M8 0 rfl (cl_Predictor T) (na_Predictor__counters T) (by show 4 < 1000; decide) (pt_ix 3 nd_Predictor rfl) (fun M9 => ?_)
    have k9 := k8.trans (Keep.set (o := prO K dx "history" n 0 c) mp)
    walk_at "go"
    refine hQ _ c k9 hHc ?_ ?_
    · unfold b0V
      rw [if_pos rfl]
      exact M9.get 0 rfl
    · unfold k0V
      rw [if_neg h2_ne, if_pos rfl]
      exact M9.get 4 rfl

theorem use_init {H : Hp} {L : List (Addr × HO)} {x dx s : Addr} {k : Str} {n : Int} {xs : List V} {R : Hp → Prop} {E : XK} (M : Has H L) (hx : H x = none) (hd : H dx = none) (hs : H s = some (.tup xs)) (hset : PSet_ k n xs)
    (kk : ∀ H' c, Same H H' → Has H' (L ++ [(x, prO K dx k (b0V k n) 0 c)] ++ [(c, ctO (k0V k n))]) → R H') :
    sp_Predictor___init__ K (.ref x :: ([.ref s] ++ [])) (upd (upd H dx (.own x)) x (.ins (He.ga K "Predictor") dx [])) (fun v H2 => v = .non ∧ R H2) E := by
  refine ⟨x, dx, s, k, n, xs, rfl, upd_same, made_same hx hd _ _ hs, hset, fun H' c kp hc h1 h2 => ⟨rfl, ?_⟩⟩
  obtain ⟨c0, c1, c2⟩ := made_none hc
  have sm : Same H H' := fun b o e => kp b o (made_same hx hd _ _ e) (fun z => by
    rw [List.mem_singleton] at z
    subst z
    rw [hx] at e
    cases e)
  refine kk H' c sm (((M.keep sm).add h1 (M.fresh hx)).add h2 ?_)
  rw [List.map_append, List.mem_append, not_or]
  exact ⟨M.fresh c0, by simpa using c1⟩
theorem use_learn {H : Hp} {L : List (Addr × HO)} {p dx c : Addr} {k : Str} {b h : Int} {cs : List Int} {row : Int} {t : Bool} {Q : VK} {E : XK} (M : Has H L) (i j : Nat) (hi : L[i]? = some (p, prO K dx k b h c)) (hj : L[j]? = some (c, ctO cs)) (hij : i ≠ j) (ok : PrOk k b h cs)
    (kk : ∀ H', Keep [p, c] H H' → Has H' ((L.set i (p, prO K dx k b (lhV k b h t) c)).set j (c, ctO (lcV k h cs row t))) → Q .non H') : sp_Predictor_learn K (.ref p :: ([.int row, .bl t] ++ [])) H Q E :=
  ⟨p, dx, c, k, b, h, cs, row, t, rfl, M.get i hi, M.get j hj, ok, fun H' kp h1 h2 => kk H' kp (M.call2 kp i j hi hj hij h1 h2)⟩
theorem lcV_len {k : Str} {h : Int} {cs : List Int} {row : Int} {t : Bool} : (lcV k h cs row t).length = cs.length := by
  unfold lcV
  split
  · rfl
  · rw [List.length_set]
theorem PrOk.learn {k : Str} {b h : Int} {cs : List Int} {row : Int} {t : Bool} (o : PrOk k b h cs) : PrOk k b (lhV k b h t) (lcV k h cs row t) := by
  rcases o.kind with e | ⟨e, h0⟩ | ⟨e, h0, h1, h2, h3, h4⟩
  · exact ⟨.inl e⟩
  · exact ⟨.inr (.inl ⟨e, by rw [lcV_len]; exact h0⟩)⟩
  · refine ⟨.inr (.inr ⟨e, h0, h1, by rw [lcV_len]; exact h2, ?_, ?_⟩)⟩
    · unfold lhV
      rw [if_pos e]
      exact Int.emod_nonneg _ (by rw [pw_int]; have := Nat.two_pow_pos b.toNat; omega)
    · unfold lhV
      rw [if_pos e]
      exact Int.emod_lt_of_pos _ (by rw [pw_int]; have := Nat.two_pow_pos b.toNat; omega)
/-- counters within their bounds -/
def EB (cs : List Int) : Prop := ∀ x ∈ cs, 0 ≤ x ∧ x ≤ 3
theorem up_b {t : Bool} {c : Int} (h : 0 ≤ c ∧ c ≤ 3) : 0 ≤ upV t c ∧ upV t c ≤ 3 := by
  unfold upV
  split <;> omega
theorem getD_b {cs : List Int} (h : EB cs) (n : Nat) : 0 ≤ cs.getD n 0 ∧ cs.getD n 0 ≤ 3 := by
  rw [List.getD_eq_getElem?_getD]
  cases e : cs[n]? with
  | none => simp
  | some x => exact h x (List.mem_of_getElem? e)
theorem set_b {cs : List Int} (h : EB cs) (n : Nat) (t : Bool) : EB (cs.set n (upV t (cs.getD n 0))) := fun x hx => by
  rcases List.mem_or_eq_of_mem_set hx with hx | hx
  · exact h x hx
  · rw [hx]
    exact up_b (getD_b h n)
theorem EB.learn {k : Str} {h : Int} {cs : List Int} {row : Int} {t : Bool} (e : EB cs) : EB (lcV k h cs row t) := by
  unfold lcV
  split
  · exact e
  · exact set_b e _ t
theorem EB.start {k : Str} {n : Int} : EB (k0V k n) := fun x hx => by
  unfold k0V at hx
  split at hx
  · rw [List.eq_of_mem_replicate hx]; decide
  · split at hx
    · rw [List.eq_of_mem_replicate hx]; decide
    · cases hx

/-! ### words, signs, what a row does -/
inductive Sg
  | add | sub | mul | band | bor | bxor | shl | shr | eq | lt | le | div | mod
def Sg.s : Sg → Str
  | .add => "+" | .sub => "-" | .mul => "*" | .band => "&" | .bor => "|" | .bxor => "^" | .shl => "<<" | .shr => ">>" | .eq => "==" | .lt => "<" | .le => "<=" | .div => "div" | .mod => "mod"
def appD : Sg → Int → Int → Int
  | .add, a, b => (a + b) % 4294967296
  | .sub, a, b => (a - b) % 4294967296
  | .mul, a, b => (a * b) % 4294967296
  | .band, a, b => Builtin.bitAnd a b
  | .bor, a, b => Builtin.bitOr a b
  | .bxor, a, b => Builtin.bitXor a b
  | .shl, a, b => a * (1 * 2 ^ (b % 32).toNat) % 4294967296
  | .shr, a, b => a / (1 * 2 ^ (b % 32).toNat)
  | .eq, a, b => if decide (a = b) then 1 else 0
  | .lt, a, b => if decide (a < b) then 1 else 0
  | .le, a, b => if decide (a ≤ b) then 1 else 0
  | .div, a, b => if b = 0 then 0 else a / b
  | .mod, a, b => if b = 0 then a else a % b
structure W32 (x : Int) : Prop where
  l : 0 ≤ x
  u : x < 4294967296
theorem nat_lt {x : Int} (h : W32 x) : x.toNat < 2 ^ 32 := by
  have h1 := h.l
  have h2 := h.u
  show x.toNat < 4294967296
  omega
theorem pow32 {b : Int} : 0 < 1 * (2 : Int) ^ (b % 32).toNat ∧ 1 * (2 : Int) ^ (b % 32).toNat < 18446744073709551616 := by
  have h1 : (b % 32).toNat < 32 := by omega
  have h2 : ∀ n : Nat, n < 32 → 0 < 1 * (2 : Int) ^ n ∧ 1 * (2 : Int) ^ n < 18446744073709551616 := by decide +kernel
  exact h2 _ h1
theorem b01 {p : Bool} : W32 (if p then 1 else 0) := by
  cases p
  · exact ⟨by decide, by decide⟩
  · exact ⟨by decide, by decide⟩
theorem appD_w {s : Sg} {a b : Int} (ha : W32 a) (hb : W32 b) : W32 (appD s a b) := by
  have a1 := ha.l
  have a2 := ha.u
  have b1 := hb.l
  have b2 := hb.u
  cases s with
  | add => exact ⟨Int.emod_nonneg _ (by decide), Int.emod_lt_of_pos _ (by decide)⟩
  | sub => exact ⟨Int.emod_nonneg _ (by decide), Int.emod_lt_of_pos _ (by decide)⟩
  | mul => exact ⟨Int.emod_nonneg _ (by decide), Int.emod_lt_of_pos _ (by decide)⟩
  | shl => exact ⟨Int.emod_nonneg _ (by decide), Int.emod_lt_of_pos _ (by decide)⟩
  | band =>
    show W32 (Builtin.bitAnd a b)
    rw [bitAnd_pp a1 b1]
    have := Nat.and_lt_two_pow a.toNat (nat_lt hb)
    refine ⟨by omega, ?_⟩
    have h : (2 : Nat) ^ 32 = 4294967296 := by decide
    omega
  | bor =>
    show W32 (Builtin.bitOr a b)
    rw [Bits.bitOr_pp a1 b1]
    have := Nat.or_lt_two_pow (nat_lt ha) (nat_lt hb)
    refine ⟨by omega, ?_⟩
    have h : (2 : Nat) ^ 32 = 4294967296 := by decide
    omega
  | bxor =>
    show W32 (Builtin.bitXor a b)
    rw [Bits.bitXor_pp a1 b1]
    have := Nat.xor_lt_two_pow (nat_lt ha) (nat_lt hb)
    refine ⟨by omega, ?_⟩
    have h : (2 : Nat) ^ 32 = 4294967296 := by decide
    omega
  | shr =>
    obtain ⟨p1, p2⟩ := pow32 (b := b)
    show W32 (a / (1 * 2 ^ (b % 32).toNat))
    generalize 1 * (2 : Int) ^ (b % 32).toNat = S at p1 p2
    exact ⟨Int.ediv_nonneg a1 (by omega), Int.lt_of_le_of_lt (Int.ediv_le_self _ a1) a2⟩
  | eq => exact b01
  | lt => exact b01
  | le => exact b01
  | div =>
    show W32 (if b = 0 then 0 else a / b)
    split
    · exact ⟨by decide, by decide⟩
    · exact ⟨Int.ediv_nonneg a1 b1, Int.lt_of_le_of_lt (Int.ediv_le_self _ a1) a2⟩
  | mod =>
    show W32 (if b = 0 then a else a % b)
    split
    · exact ha
    · have h1 := Int.emod_nonneg a (b := b) (by omega)
      have h2 := Int.emod_lt_of_pos a (b := b) (by omega)
      exact ⟨h1, by omega⟩
inductive Row
  | const (d : Nat) (n : Int)
  | op (s : Sg) (d a b : Nat)
  | select (d c a b : Nat)
  | load (d a : Nat) (base mask : Int)
  | store (a : Nat) (base mask : Int) (b : Nat)
  | out (a : Nat)
  | jump (t : Nat)
  | branch (a t : Nat)
  | stop (a : Nat)
abbrev nI (n : Nat) : PyData := .int (n : Int)
def Row.d : Row → PyData
  | .const d n => .tuple [.str "const", nI d, .int n]
  | .op s d a b => .tuple [.str "op", .str s.s, nI d, nI a, nI b]
  | .select d c a b => .tuple [.str "select", nI d, nI c, nI a, nI b]
  | .load d a base mask => .tuple [.str "load", nI d, nI a, .int base, .int mask]
  | .store a base mask b => .tuple [.str "store", nI a, .int base, .int mask, nI b]
  | .out a => .tuple [.str "out", nI a]
  | .jump t => .tuple [.str "jump", nI t]
  | .branch a t => .tuple [.str "branch", nI a, nI t]
  | .stop a => .tuple [.str "stop", nI a]
/-- a row at place k among many rows -/
def RowOkD (many k : Nat) : Row → Prop
  | .const d n => d < 16 ∧ W32 n ∧ k + 1 < many
  | .op _ d a b => d < 16 ∧ a < 16 ∧ b < 16 ∧ k + 1 < many
  | .select d c a b => d < 16 ∧ c < 16 ∧ a < 16 ∧ b < 16 ∧ k + 1 < many
  | .load d a _ _ => d < 16 ∧ a < 16 ∧ k + 1 < many
  | .store a _ _ b => a < 16 ∧ b < 16 ∧ k + 1 < many
  | .out a => a < 16 ∧ k + 1 < many
  | .jump t => t < many
  | .branch a t => a < 16 ∧ t < many ∧ k + 1 < many
  | .stop a => a < 16
structure MS where
  rg : List Int
  wd : List (Key × V)
  ou : List Int
def rgV (ms : MS) (a : Nat) : Int := ms.rg.getD a 0
def wdV (wd : List (Key × V)) (a : Int) : Int := match valV wd (.inl a) with
  | some (.int x) => x
  | _ => 0
def put (ms : MS) (d : Nat) (x : Int) : MS := { ms with rg := ms.rg.set d x }
def doRow (ms : MS) : Row → MS
  | .const d n => put ms d n
  | .op s d a b => put ms d (appD s (rgV ms a) (rgV ms b))
  | .select d c a b => put ms d (if rgV ms c = 0 then rgV ms b else rgV ms a)
  | .load d a base mask => put ms d (wdV ms.wd (base + Builtin.bitAnd (rgV ms a) mask))
  | .store a base mask b => { ms with wd := putK ms.wd (.inl (base + Builtin.bitAnd (rgV ms a) mask)) (.int (rgV ms b)) }
  | .out a => { ms with ou := ms.ou ++ [rgV ms a] }
  | _ => ms
def nextAt (ms : MS) (at_ : Nat) : Row → Nat
  | .jump t => t
  | .branch a t => if rgV ms a = 0 then at_ + 1 else t
  | _ => at_ + 1
def runM (rows : List Row) : Nat → Nat → MS → Option Int × MS
  | 0, _, ms => (none, ms)
  | n + 1, at_, ms => match rows[at_]? with
    | some (.stop a) => (some (rgV ms a), ms)
    | some r => runM rows n (nextAt (doRow ms r) at_ r) (doRow ms r)
    | none => (none, ms)
/-- the state is in order; at most b words -/
structure MOk (b : Nat) (cov : Int → Prop) (ms : MS) : Prop where
  l : ms.rg.length = 16
  r : ∀ x ∈ ms.rg, W32 x
  w : ∀ k v, valV ms.wd k = some v → ∃ x, v = .int x ∧ W32 x
  o : ∀ x ∈ ms.ou, W32 x
  c : ∀ a, cov a → (valV ms.wd (.inl a)).isSome = true
  n : ms.wd.length ≤ b
  m : ms.ou.length ≤ b
section
variable {b : Nat} {cov : Int → Prop} {ms : MS} {a d : Nat} {x : Int}
theorem MOk.at_ (h : MOk b cov ms) (ha : a < 16) : ms.rg[a]? = some (rgV ms a) := by
  unfold rgV
  rw [List.getD_eq_getElem?_getD, List.getElem?_eq_getElem (by rw [h.l]; exact ha)]
  rfl
theorem MOk.reg (h : MOk b cov ms) (ha : a < 16) : W32 (rgV ms a) := h.r _ (List.mem_of_getElem? (h.at_ ha))
theorem MOk.wv (h : MOk b cov ms) (i : Int) : W32 (wdV ms.wd i) := by
  unfold wdV
  cases e : valV ms.wd (.inl i) with
  | none => exact ⟨by decide, by decide⟩
  | some v =>
    obtain ⟨x, rfl, hx⟩ := h.w _ _ e
    exact hx
theorem MOk.put (h : MOk b cov ms) (hx : W32 x) : MOk (b + 1) cov (put ms d x) where
  l := by
    show (ms.rg.set d x).length = 16
    rw [List.length_set]
    exact h.l
  r := fun y hy => by
    rcases List.mem_or_eq_of_mem_set hy with z | z
    · exact h.r y z
    · rw [z]; exact hx
  w := h.w
  o := h.o
  c := h.c
  n := Nat.le_succ_of_le h.n
  m := Nat.le_succ_of_le h.m
theorem putK_len {κ : Type} [DecidableEq κ] (c : List (κ × V)) (k : κ) (x : V) : (putK c k x).length ≤ c.length + 1 := by
  unfold putK
  split
  · rw [List.length_map]; omega
  · rw [List.length_append]; simp
theorem MOk.same (h : MOk b cov ms) : MOk (b + 1) cov ms := ⟨h.l, h.r, h.w, h.o, h.c, Nat.le_succ_of_le h.n, Nat.le_succ_of_le h.m⟩
theorem MOk.do_ {many k : Nat} {r : Row} (h : MOk b cov ms) (hr : RowOkD many k r) : MOk (b + 1) cov (doRow ms r) := by
  cases r with
  | const d n => exact h.put hr.2.1
  | op s d a b => exact h.put (appD_w (h.reg hr.2.1) (h.reg hr.2.2.1))
  | select d c a b =>
    refine h.put ?_
    split
    · exact h.reg hr.2.2.2.1
    · exact h.reg hr.2.2.1
  | load d a base mask => exact h.put (h.wv _)
  | store a base mask b =>
    refine ⟨h.l, h.r, fun k v e => ?_, h.o, fun a ha => ?_, Nat.le_trans (putK_len _ _ _) (Nat.succ_le_succ h.n), Nat.le_succ_of_le h.m⟩
    · have e : valV (putK ms.wd (.inl _) (.int (rgV ms b))) k = some v := e
      rw [valV_put] at e
      split at e
      · cases e
        exact ⟨_, rfl, h.reg hr.2.1⟩
      · exact h.w k v e
    · show (valV (putK ms.wd (.inl _) (.int (rgV ms b))) (.inl a)).isSome = true
      rw [valV_put]
      split
      · rfl
      · exact h.c a ha
  | out a =>
    refine ⟨h.l, h.r, h.w, fun x hx => ?_, h.c, Nat.le_succ_of_le h.n, ?_⟩
    · rcases List.mem_append.mp hx with z | z
      · exact h.o x z
      · rw [List.mem_singleton.mp z]
        exact h.reg hr.1
    · show (ms.ou ++ [_]).length ≤ b + 1
      rw [List.length_append]
      exact Nat.succ_le_succ h.m
  | jump t => exact h.same
  | branch a t => exact h.same
  | stop a => exact h.same
end
theorem next_lt {many k : Nat} {r : Row} {ms : MS} (hr : RowOkD many k r) (hs : ∀ a, r ≠ .stop a) : nextAt ms k r < many := by
  cases r with
  | const d n => exact hr.2.2
  | op s d a b => exact hr.2.2.2
  | select d c a b => exact hr.2.2.2.2
  | load d a base mask => exact hr.2.2
  | store a base mask b => exact hr.2.2
  | out a => exact hr.2
  | jump t => exact hr
  | branch a t =>
    show (if rgV ms a = 0 then k + 1 else t) < many
    split
    · exact hr.2.2
    · exact hr.2.1
  | stop a => exact absurd rfl (hs a)
/-! ### apply -/
def sp_shifted (K : PySem.W.Frag) : Sp := fun vs H Q _ => ∃ (s : Sg) (z : Str) (a b : Int), vs = [.str z, .int a, .int b] ∧ z = s.s ∧ (s = .shl ∨ s = .shr) ∧ W32 a ∧ W32 b ∧ Q (.int (appD s a b)) H
theorem sc_shifted : FnScope ["sign", "a", "b", "by"] ["sign", "a", "b"] (defScope (topS 5)) := ⟨rfl, rfl, rfl, by decide +kernel, rfl, by decide +kernel, by decide +kernel⟩
theorem ok_shifted (T : Txt fa fn K mg (XOk cs xcs K w)) : Dn P w K mg base CX0 1 "shifted" ["sign", "a", "b"] (sp_shifted K) := by
  refine mk_dn (d := dOf "shifted" 5) T 1 1 rfl rfl rfl rfl rfl sc_shifted (by walk_at "len") (fun _ _ _ _ _ _ us hl => match us, hl with | [_, _, _], _ => rfl) (fun cdv A outer s H vs Q E hr h => ⟨_, (pss_cons (ps_set (i := 3) sc_shifted.nd rfl (.inl rfl) (pe_op o_mod (pe_callTy c_int rfl (T.free 126 rfl) (by decide +kernel) (pa_cons (pv 2) pa_nil)) pe_int))
      (pss_cons (ps_if (pt_cmpR (op_eqU (K := K) rfl hr.units) (pv 0) pe_str (nomark _)) (pss_one (ps_ret (pe_op o_mod (pe_callTy c_int rfl (T.free 126 rfl) (by decide +kernel) (pa_cons (pe_op op_mulU (pv 1) (pe_op o_shl pe_int (pv 3))) pa_nil)) (pe_gint T rfl 138 rfl rfl)))) pss_nil)
      (pss_one (ps_ret (pe_op o_fdiv (pv 1) (pe_op o_shl pe_int (pv 3))))))), ?_⟩)
  obtain ⟨s, z, a, b, rfl, hz, hs, wa, wb, hQ⟩ := h
  have a1 := wa.l
  have a2 := wa.u
  obtain ⟨p1, p2⟩ := pow32 (b := b)
  rcases hs with rfl | rfl <;> (simp only [Sg.s] at hz; subst hz)
  · walk_at "go"
    exact hQ
  · walk_at "go"
    exact hQ
def sp_divided (K : PySem.W.Frag) : Sp := fun vs H Q _ => ∃ (s : Sg) (z : Str) (a b : Int), vs = [.str z, .int a, .int b] ∧ z = s.s ∧ (s = .div ∨ s = .mod) ∧ W32 a ∧ W32 b ∧ Q (.int (appD s a b)) H
theorem sc_divided : FnScope ["sign", "a", "b"] ["sign", "a", "b"] (defScope (topS 6)) := ⟨rfl, rfl, rfl, by decide +kernel, rfl, by decide +kernel, by decide +kernel⟩
theorem ok_divided (T : Txt fa fn K mg (XOk cs xcs K w)) : Dn P w K mg base CX0 1 "divided" ["sign", "a", "b"] (sp_divided K) := by
  refine mk_dn (d := dOf "divided" 6) T 2 2 rfl rfl rfl rfl rfl sc_divided (by walk_at "len") (fun _ _ _ _ _ _ us hl => match us, hl with | [_, _, _], _ => rfl) (fun cdv A outer s H vs Q E hr h => ⟨_, (pss_cons (ps_if (pt_cmpR (op_eqU (K := K) rfl hr.units) (pv 0) pe_str (nomark _)) (pss_one (ps_ret (pe_ifExp (pt_cmpR (op_neU (K := K) rfl hr.units) (pv 2) pe_int (nomark _)) (pe_op o_fdiv (pv 1) (pv 2)) pe_int))) pss_nil)
      (pss_one (ps_ret (pe_ifExp (pt_cmpR (op_neU (K := K) rfl hr.units) (pv 2) pe_int (nomark _)) (pe_op op_sub (pv 1) (pe_op op_mulU (pv 2) (pe_op o_fdiv (pv 1) (pv 2)))) (pv 1))))), ?_⟩)
  obtain ⟨s, z, a, b, rfl, hz, hs, wa, wb, hQ⟩ := h
  have a1 := wa.l
  have a2 := wa.u
  have b1 := wb.l
  have b2 := wb.u
  rcases hs with rfl | rfl <;> (simp only [Sg.s] at hz; subst hz)
  · walk_at "go"
    refine g_ifN (fun c => ?_) (fun c => ?_)
    · walk_at "go"
      refine q_int ?_ hQ
      show (if b = 0 then 0 else a / b) = _
      rw [if_neg c]
    · walk_at "go"
      refine q_int ?_ hQ
      show (if b = 0 then 0 else a / b) = _
      rw [if_pos c]
  · walk_at "go"
    refine g_ifN (fun c => ?_) (fun c => ?_)
    · walk_at "go"
      refine q_int ?_ hQ
      show (if b = 0 then a else a % b) = _
      rw [if_neg c, Int.emod_def]
    · walk_at "go"
      refine q_int ?_ hQ
      show (if b = 0 then a else a % b) = _
      rw [if_pos c]
def sp_apply (K : PySem.W.Frag) : Sp := fun vs H Q _ => ∃ (s : Sg) (z : Str) (a b : Int), vs = [.str z, .int a, .int b] ∧ z = s.s ∧ W32 a ∧ W32 b ∧ ∀ H', Same H H' → Q (.int (appD s a b)) H'
theorem g_is {α : Prop} {β : Prop} {b : Bool} (h : b = true) (q : α) : if b = true then α else β := by rw [if_pos h]; exact q
theorem g_isnt {α : Prop} {β : Prop} {b : Bool} (h : b = false) (q : β) : if b = true then α else β := by rw [if_neg (by rw [h]; exact Bool.false_ne_true)]; exact q
theorem sc_apply : FnScope ["sign", "a", "b"] ["sign", "a", "b"] (defScope (topS 7)) := ⟨rfl, rfl, rfl, by decide +kernel, rfl, by decide +kernel, by decide +kernel⟩
theorem ok_apply (T : Txt fa fn K mg (XOk cs xcs K w)) : Dn P w K mg base CX0 2 "apply" ["sign", "a", "b"] (sp_apply K) := by
  refine mk_dn (d := dOf "apply" 7) T 3 3 rfl rfl rfl rfl rfl sc_apply (by walk_at "len") (fun _ _ _ _ _ _ us hl => match us, hl with | [_, _, _], _ => rfl) (fun cdv A outer s H vs Q E hr h => ⟨_, (pss_cons (ps_if (pt_cmpR (op_inU (K := K) rfl (hu65 hr)) (pv 0) (pe_tup (pa_cons pe_str (pa_cons pe_str pa_nil))) (by rfl)) (pss_one (ps_ret (pe_callD (K := K) rfl (ok_shifted T) (hr.mono (by decide)) rfl pass0 (pa_cons (pv 0) (pa_cons (pv 1) (pa_cons (pv 2) pa_nil)))))) pss_nil)
      (pss_cons (ps_if (pt_cmpR (op_inU (K := K) rfl (hu65 hr)) (pv 0) (pe_tup (pa_cons pe_str (pa_cons pe_str pa_nil))) (by rfl)) (pss_one (ps_ret (pe_callD (K := K) rfl (ok_divided T) (hr.mono (by decide)) rfl pass0 (pa_cons (pv 0) (pa_cons (pv 1) (pa_cons (pv 2) pa_nil)))))) pss_nil)
      (pss_cons (ps_if (pt_cmpR (op_eqU (K := K) rfl hr.units) (pv 0) pe_str (nomark _)) (pss_one (ps_ret (pe_callTy c_int rfl (T.free 126 rfl) (by decide +kernel) (pa_cons (pe_cmpR (op_eqU (K := K) rfl hr.units) (pv 1) (pv 2) (nomark _)) pa_nil)))) pss_nil)
      (pss_cons (ps_if (pt_cmpR (op_eqU (K := K) rfl hr.units) (pv 0) pe_str (nomark _)) (pss_one (ps_ret (pe_callTy c_int rfl (T.free 126 rfl) (by decide +kernel) (pa_cons (pe_cmpR o_lt (pv 1) (pv 2) (nomark _)) pa_nil)))) pss_nil)
      (pss_cons (ps_if (pt_cmpR (op_eqU (K := K) rfl hr.units) (pv 0) pe_str (nomark _)) (pss_one (ps_ret (pe_callTy c_int rfl (T.free 126 rfl) (by decide +kernel) (pa_cons (pe_cmpR o_le (pv 1) (pv 2) (nomark _)) pa_nil)))) pss_nil)
      (pss_cons (ps_if (pt_cmpR (op_eqU (K := K) rfl hr.units) (pv 0) pe_str (nomark _)) (pss_one (ps_ret (pe_op op_and (pv 1) (pv 2)))) pss_nil)
      (pss_cons (ps_if (pt_cmpR (op_eqU (K := K) rfl hr.units) (pv 0) pe_str (nomark _)) (pss_one (ps_ret (pe_op op_or (pv 1) (pv 2)))) pss_nil)
      (pss_cons (ps_if (pt_cmpR (op_eqU (K := K) rfl hr.units) (pv 0) pe_str (nomark _)) (pss_one (ps_ret (pe_op op_xor (pv 1) (pv 2)))) pss_nil)
      (pss_cons (ps_if (pt_cmpR (op_eqU (K := K) rfl hr.units) (pv 0) pe_str (nomark _)) (pss_one (ps_ret (pe_op o_mod (pe_callTy c_int rfl (T.free 126 rfl) (by decide +kernel) (pa_cons (pe_op (op_addU (K := K) rfl) (pv 1) (pv 2)) pa_nil)) (pe_gint T rfl 138 rfl rfl)))) pss_nil)
      (pss_cons (ps_if (pt_cmpR (op_eqU (K := K) rfl hr.units) (pv 0) pe_str (nomark _)) (pss_one (ps_ret (pe_op o_mod (pe_callTy c_int rfl (T.free 126 rfl) (by decide +kernel) (pa_cons (pe_op op_sub (pv 1) (pv 2)) pa_nil)) (pe_gint T rfl 138 rfl rfl)))) pss_nil)
      (pss_one (ps_ret (pe_op o_mod (pe_callTy c_int rfl (T.free 126 rfl) (by decide +kernel) (pa_cons (pe_op op_mulU (pv 1) (pv 2)) pa_nil)) (pe_gint T rfl 138 rfl rfl)))))))))))))), ?_⟩)
  obtain ⟨s, z, a, b, rfl, hz, wa, wb, hQ⟩ := h
  have a1 := wa.l
  have a2 := wa.u
  have b1 := wb.l
  have b2 := wb.u
  walk_at "go"
  refine ⟨by decide, fun q hq => ?_⟩
  have s1 := Same.new (o := .tup [.str "<<", .str ">>"]) hq
  refine g_inTs (ks := ["<<", ">>"]) (.inl upd_same) ?_
  walk_at "go"
  cases s <;> (simp only [Sg.s] at hz; subst hz)
  case shl =>
    refine g_is (by decide +kernel) ?_
    walk_at "go"
    exact ⟨.shl, _, a, b, rfl, rfl, .inl rfl, wa, wb, hQ _ s1⟩
  case shr =>
    refine g_is (by decide +kernel) ?_
    walk_at "go"
    exact ⟨.shr, _, a, b, rfl, rfl, .inr rfl, wa, wb, hQ _ s1⟩
  all_goals
    refine g_isnt (by decide +kernel) ?_
    walk_at "go"
    refine ⟨by decide, fun q2 hq2 => ?_⟩
    have s2 := s1.trans (Same.new (o := .tup [.str "div", .str "mod"]) hq2)
    refine g_inTs (ks := ["div", "mod"]) (.inl upd_same) ?_
    walk_at "go"
  case div =>
    refine g_is (by decide +kernel) ?_
    walk_at "go"
    exact ⟨.div, _, a, b, rfl, rfl, .inl rfl, wa, wb, hQ _ s2⟩
  case mod =>
    refine g_is (by decide +kernel) ?_
    walk_at "go"
    exact ⟨.mod, _, a, b, rfl, rfl, .inr rfl, wa, wb, hQ _ s2⟩
  all_goals
    refine g_isnt (by decide +kernel) ?_
    walk_at "go"
    exact hQ _ s2
theorem mg3 {k1 k2 k3 k : Str} {v1 v2 v3 : V} : valV (mergeK [] [(.inr k1, v1), (.inr k2, v2), (.inr k3, v3)]) (.inr k : Key) = if k = k3 then some v3 else if k = k2 then some v2 else if k = k1 then some v1 else none := by
  unfold mergeK
  simp only [List.foldl_cons, List.foldl_nil]
  rw [valV_put, valV_put, valV_put, valV_nil]
  simp only [Sum.inr.injEq]
theorem mg2 {k1 k2 k : Str} {v1 v2 : V} : valV (mergeK [] [(.inr k1, v1), (.inr k2, v2)]) (.inr k : Key) = if k = k2 then some v2 else if k = k1 then some v1 else none := by
  unfold mergeK
  simp only [List.foldl_cons, List.foldl_nil]
  rw [valV_put, valV_put, valV_nil]
  simp only [Sum.inr.injEq]
theorem dg_of {H : Hp} {a : Addr} {kvs : List (Key × V)} {k : Str} {v : V} (h : H a = some (.dK kvs)) (e : valV kvs (.inr k) = some v) : DGet H a (.str k) (some v) := by
  rw [← e]
  exact DGet.k (k := .inr k) h
def sp_law_apply (K : PySem.W.Frag) : Sp := fun vs H Q _ => ∃ (s : Sg) (z : Str) (a b : Int), vs = [.str z, .int a, .int b] ∧ z = s.s ∧ W32 a ∧ W32 b ∧ ∀ H', Same H H' → Q (.int (appD s a b)) H'
/-- a written dict of three, of two -/
theorem g_d3 {A : Prop} {R : List (Key × V) → Prop} {k1 k2 k3 : Str} {v1 v2 v3 : V} (h : A) (q : R [(.inr k1, v1), (.inr k2, v2), (.inr k3, v3)]) :
    A ∧ ∃ kvs : List (Key × V), [(V.str k1, v1), (V.str k2, v2), (V.str k3, v3)] = kvs.map (fun kv => (kV kv.1, kv.2)) ∧ kvs.length ≤ 15 ∧ R kvs :=
  ⟨h, [(.inr k1, v1), (.inr k2, v2), (.inr k3, v3)], rfl, (by show 3 ≤ 15; decide), q⟩
theorem g_d2 {A : Prop} {R : List (Key × V) → Prop} {k1 k2 : Str} {v1 v2 : V} (h : A) (q : R [(.inr k1, v1), (.inr k2, v2)]) :
    A ∧ ∃ kvs : List (Key × V), [(V.str k1, v1), (V.str k2, v2)] = kvs.map (fun kv => (kV kv.1, kv.2)) ∧ kvs.length ≤ 15 ∧ R kvs :=
  ⟨h, [(.inr k1, v1), (.inr k2, v2)], rfl, (by show 2 ≤ 15; decide), q⟩
theorem ev3a {k1 k2 k3 : Str} {v1 v2 v3 : V} (h : ¬ k1 = k3) (h2 : ¬ k1 = k2) : (if k1 = k3 then some v3 else if k1 = k2 then some v2 else if k1 = k1 then some v1 else none) = some v1 := by rw [if_neg h, if_neg h2, if_pos rfl]
theorem ev3b {k1 k2 k3 : Str} {v1 v2 v3 : V} (h : ¬ k2 = k3) : (if k2 = k3 then some v3 else if k2 = k2 then some v2 else if k2 = k1 then some v1 else none) = some v2 := by rw [if_neg h, if_pos rfl]
theorem ev3c {k1 k2 k3 : Str} {v1 v2 v3 : V} : (if k3 = k3 then some v3 else if k3 = k2 then some v2 else if k3 = k1 then some v1 else none) = some v3 := by rw [if_pos rfl]
theorem ev2a {k1 k2 : Str} {v1 v2 : V} (h : ¬ k1 = k2) : (if k1 = k2 then some v2 else if k1 = k1 then some v1 else none) = some v1 := by rw [if_neg h, if_pos rfl]
theorem ev2b {k1 k2 : Str} {v1 v2 : V} : (if k2 = k2 then some v2 else if k2 = k1 then some v1 else none) = some v2 := by rw [if_pos rfl]


theorem all_snoc {α : Type} {p : α → Prop} {l : List α} {y : α} (h : ∀ x ∈ l, p x) (hy : p y) : ∀ x ∈ l ++ [y], p x := fun x hx => by
  rcases List.mem_append.mp hx with hx | hx
  · exact h x hx
  · rw [List.mem_singleton.mp hx]
    exact hy
theorem sub_last {L : List (Addr × HO)} {x : Addr × HO} : L.Sublist (L ++ [x]) := List.sublist_append_left L [x]
theorem get_last {L : List (Addr × HO)} {x : Addr × HO} : (L ++ [x])[L.length]? = some x := by simp
theorem set_last {L : List (Addr × HO)} {x y : Addr × HO} : (L ++ [x]).set L.length y = L ++ [y] := by simp

/-! ### rows on the heap -/
def toV : PyData → V
  | .int i => .int i
  | .str z => .str z
  | _ => .non
def Row.v : Row → List V
  | .const d n => [.str "const", .int d, .int n]
  | .op s d a b => [.str "op", .str s.s, .int d, .int a, .int b]
  | .select d c a b => [.str "select", .int d, .int c, .int a, .int b]
  | .load d a base mask => [.str "load", .int d, .int a, .int base, .int mask]
  | .store a base mask b => [.str "store", .int a, .int base, .int mask, .int b]
  | .out a => [.str "out", .int a]
  | .jump t => [.str "jump", .int t]
  | .branch a t => [.str "branch", .int a, .int t]
  | .stop a => [.str "stop", .int a]
theorem ims_flat {H : Hp} : ∀ {xs : List V} {ds : List PyData}, Ims H xs ds → (∀ d ∈ ds, isI d = true ∧ isB d = false ∨ isS d = true) → xs = ds.map toV
  | _, _, .nil, _ => rfl
  | _, _, .cons h t, f => by
    rw [List.map_cons, ims_flat t fun d hd => f d (List.mem_cons_of_mem _ hd)]
    congr 1
    have := f _ List.mem_cons_self
    cases h with
    | int i => rfl
    | str z => rfl
    | non => rcases this with ⟨h, _⟩ | h <;> cases h
    | bl b => rcases this with ⟨_, h⟩ | h <;> cases h
    | tup _ _ => rcases this with ⟨h, _⟩ | h <;> cases h
theorem row_tup {H : Hp} {x : V} {r : Row} (h : Im H x r.d) : ∃ a, x = .ref a ∧ H a = some (.tup r.v) := by
  cases r <;>
  · obtain ⟨a, xs, rfl, h1, h2⟩ := h.tup_inv
    have e := ims_flat h2 (by intro d hd; simp only [List.mem_cons, List.not_mem_nil, or_false] at hd; rcases hd with rfl | rfl | rfl | rfl | rfl <;> first | exact .inl ⟨rfl, rfl⟩ | exact .inr rfl)
    subst e
    exact ⟨a, rfl, h1⟩
abbrev ML (rg wd o : Addr) (ms : MS) : List (Addr × HO) := [(rg, .lst (ms.rg.map V.int)), (wd, .dK ms.wd), (o, .lst (ms.ou.map V.int))]
section
variable {K : PySem.W.Frag} {H H' : Hp} {Q : VK} {R : Hp → Prop} {p : Addr × HO} {rg wd o ra : Addr} {ms : MS} {b : Nat} {cov : Int → Prop} {a d : Nat} {i x : Int} {xs : List V}
theorem ml_reg (M : Has H (p :: ML rg wd o ms)) (h : MOk b cov ms) (ha : a < 16) (q : Q (.int (rgV ms a)) H) : rIxU K (.ref rg) (.int (a : Int)) H Q :=
  g_ixL (SqL.of (M.get 1 rfl)) (n := a) rfl (by rw [List.getElem?_map, h.at_ ha]; rfl) q
theorem ml_set (M : Has H (p :: ML rg wd o ms)) (h : MOk b cov ms) (hd : d < 16) (q : ∀ H', Keep [rg, wd, o] H H' → Has H' (p :: ML rg wd o (put ms d x)) → R H') : rSetU (.ref rg) (.int (d : Int)) (.int x) H R := by
  have e : (ms.rg.map V.int).set d (.int x) = (put ms d x).rg.map V.int := List.map_set.symm
  refine g_setU M 1 rfl rfl (by rw [List.length_map, h.l]; exact hd) ?_
  rw [e]
  intro M'
  exact q _ (Keep.set (by simp)) M'
theorem ml_get {A : Option V → Prop} (M : Has H (p :: ML rg wd o ms)) (h : MOk b cov ms) (q : ∀ ov : Option V, ov.getD (.int 0) = .int (wdV ms.wd i) → A ov) : ∃ ov, DGet H wd (.int i) ov ∧ A ov := by
  refine ⟨valV ms.wd (.inl i), DGet.k (k := .inl i) (M.get 2 rfl), q _ ?_⟩
  unfold wdV
  cases e : valV ms.wd (.inl i) with
  | none => rfl
  | some v =>
    obtain ⟨x, rfl, _⟩ := h.w _ _ e
    rfl
theorem ml_put (M : Has H (p :: ML rg wd o ms)) (h : MOk b cov ms) (hb : b ≤ 90000) (q : ∀ H', Keep [rg, wd, o] H H' → Has H' (p :: ML rg wd o { ms with wd := putK ms.wd (.inl i) (.int x) }) → R H') : rSetU (.ref wd) (.int i) (.int x) H R := by
  refine .inr ⟨wd, _, rfl, DPut.k (k := .inl i) (M.get 2 rfl) (szl (by have := h.n; omega)), ?_⟩
  exact q _ (Keep.set (by simp)) (M.set 2 rfl)
theorem ml_out (M : Has H (p :: ML rg wd o ms)) (h : MOk b cov ms) (hb : b ≤ 90000) (q : ∀ H', Keep [rg, wd, o] H H' → Has H' (p :: ML rg wd o { ms with ou := ms.ou ++ [x] }) → Q .non H') : rAppend (.ref o) [.int x] H Q := by
  refine g_append M 3 rfl (szl (by rw [List.length_map]; have := h.m; omega)) (fun M' => ?_)
  have e : ms.ou.map V.int ++ [V.int x] = (ms.ou ++ [x]).map V.int := by simp
  rw [e] at M' ⊢
  exact q _ (Keep.set (by simp)) M'
theorem ml_tup (M : Has H (p :: ML rg wd o ms)) (k : Keep [rg, wd, o] H H') (h : H ra = some (.tup xs)) : H' ra = some (.tup xs) := by
  refine k ra _ h fun z => ?_
  simp only [List.mem_cons, List.not_mem_nil, or_false] at z
  rcases z with rfl | rfl | rfl
  · have := M.get 1 rfl; rw [h] at this; cases this
  · have := M.get 2 rfl; rw [h] at this; cases this
  · have := M.get 3 rfl; rw [h] at this; cases this
theorem ml_noTup (M : Has H (p :: ML rg wd o ms)) : NoTup H [rg, wd, o] :=
  NoTup.cons (M.get 1 rfl) (fun _ e => nomatch e) (NoTup.cons (M.get 2 rfl) (fun _ e => nomatch e) (NoTup.one (M.get 3 rfl) (fun _ e => nomatch e)))
end
def Row.plain : Row → Bool
  | .jump _ => false
  | .branch _ _ => false
  | .stop _ => false
  | _ => true
abbrev stO (K : PySem.W.Frag) (dx rg rd wd : Addr) : HO := .ins (He.ga K "State") dx (fs_State (.ref rg) (.ref rd) (.ref wd))
def sp_State___init__ (K : PySem.W.Frag) : Sp := fun vs H Q _ => ∃ (s dx rg rd wd : Addr) (L : List (Addr × HO)), vs = [.ref s, .ref rg, .ref rd, .ref wd] ∧ Has H ((s, .ins (He.ga K "State") dx []) :: L) ∧ (Has (upd H s (stO K dx rg rd wd)) ((s, stO K dx rg rd wd) :: L) → Q .non (upd H s (stO K dx rg rd wd)))
theorem sc_State___init__ : FnScope ["self", "registers", "ready", "words"] ["self", "registers", "ready", "words"] (defScope (inClass (topS 17) 0)) := ⟨rfl, rfl, rfl, by decide +kernel, rfl, by decide +kernel, by decide +kernel⟩
theorem mt_State___init__ (T : Txt fa fn K mg (XOk cs xcs K w)) : Mt P w K mg base CX0 1 "State" "__init__" ["self", "registers", "ready", "words"] (sp_State___init__ K) := by
  refine mk_mt (d := mOf "State" "__init__" "State.__init__" (inClass (topS 17) 0)) T 63 rfl rfl rfl rfl sc_State___init__ (by walk_at "len") (fun _ _ _ _ _ _ us hl => match us, hl with | [_, _, _, _], _ => rfl) (fun cdv A outer s H vs Q E hr h => ⟨_, (pss_cons (ps_fldU (K := K) rfl (pv 0) (pv 1) rfl)
      (pss_cons (ps_fldU (K := K) rfl (pv 0) (pv 2) rfl)
      (pss_one (ps_fldU (K := K) rfl (pv 0) (pv 3) rfl)))), ?_⟩)
  obtain ⟨s, dx, rg, rd, wd, L, rfl, M, hQ⟩ := h
  walk_at "go"
  refine g_setF M 0 rfl (cl_State T) (na_State_registers T) (by show 0 < 1000; decide) (pt_new nf_State_registers) (fun M1 => ?_)
  walk_at "go"
  refine g_setF M1 0 rfl (cl_State T) (na_State_ready T) (by show 1 < 1000; decide) (pt_new nf_State_ready) (fun M2 => ?_)
  walk_at "go"
  refine g_setF M2 0 rfl (cl_State T) (na_State_words T) (by show 2 < 1000; decide) (pt_new nf_State_words) (fun M3 => ?_)
  rw [upd_upd, upd_upd] at M3 ⊢
  exact hQ M3
def sp_plain_row (K : PySem.W.Frag) : Sp := fun vs H Q _ => ∃ (ra s rg rd wd o dx : Addr) (r : Row) (many k b : Nat) (cov : Int → Prop) (ms : MS), vs = [.ref ra, .ref s, .ref o] ∧ H ra = some (.tup r.v) ∧ Has H ((s, stO K dx rg rd wd) :: ML rg wd o ms) ∧ MOk b cov ms ∧ RowOkD many k r ∧ b ≤ 90000 ∧ r.plain = true ∧
  ∀ H', Keep [rg, wd, o] H H' → Has H' ((s, stO K dx rg rd wd) :: ML rg wd o (doRow ms r)) → Q .non H'
/-! ### the memory -/
structure Rg where
  b : Int
  n : Nat
  l : Str
def Rg.d (g : Rg) : PyData := .tuple [.int g.b, nI g.n, .str g.l]
def memK (base : Int) (row : List Int) (n : Nat) (kvs : List (Key × V)) : List (Key × V) := (List.range n).foldl (fun acc (k : Nat) => putK acc (.inl (base + (k : Int))) (.int (row.getD k 0))) kvs
def stepR (acc : List (Key × V)) (p : Rg × List Int) : List (Key × V) := memK p.1.b p.2 p.1.n acc
def mem (rgs : List Rg) (cs : List (List Int)) : List (Key × V) := (rgs.zip cs).foldl stepR []
theorem memK_succ {base : Int} {row : List Int} {n : Nat} {kvs : List (Key × V)} : memK base row (n + 1) kvs = putK (memK base row n kvs) (.inl (base + (n : Int))) (.int (row.getD n 0)) := by
  unfold memK
  rw [List.range_succ, List.foldl_append]
  rfl
theorem memK_len {base : Int} {row : List Int} {kvs : List (Key × V)} : ∀ n : Nat, (memK base row n kvs).length ≤ kvs.length + n
  | 0 => Nat.le_refl _
  | n + 1 => by
    rw [memK_succ]
    have h1 := memK_len (base := base) (row := row) (kvs := kvs) n
    have h2 := putK_len (memK base row n kvs) (.inl (base + n)) (.int (row.getD n 0))
    omega
theorem foldl_take_succ {α β : Type} {f : β → α → β} {ds : List α} {i : Nat} {e : α} {z : β} (h : ds[i]? = some e) : (ds.take (i + 1)).foldl f z = f ((ds.take i).foldl f z) e := by
  rw [List.take_add_one, h, List.foldl_append]
  rfl
/-- regions and contents in order -/
structure MemOk (rgs : List Rg) (cs : List (List Int)) : Prop where
  l : cs.length = rgs.length
  m : rgs.length ≤ 4
  n : ∀ (i : Nat) (g : Rg) (c : List Int), rgs[i]? = some g → cs[i]? = some c → c.length = g.n
  z : ∀ g ∈ rgs, g.n ≤ 100
  w : ∀ c ∈ cs, ∀ x ∈ c, W32 x
  s : ∀ g ∈ rgs, PyData.strOk g.l = true
theorem mem_len {rgs : List Rg} {cs : List (List Int)} (h : MemOk rgs cs) : ∀ i : Nat, (((rgs.zip cs).take i).foldl stepR []).length ≤ 100 * i
  | 0 => Nat.le_refl _
  | i + 1 => by
    have ih := mem_len h i
    cases e : (rgs.zip cs)[i]? with
    | none =>
      rw [List.take_add_one, e]
      simp only [Option.toList_none, List.append_nil]
      omega
    | some p =>
      rw [foldl_take_succ e]
      have h1 := memK_len (base := p.1.b) (row := p.2) (kvs := ((rgs.zip cs).take i).foldl stepR []) p.1.n
      have h2 := h.z p.1 (List.of_mem_zip (List.mem_of_getElem? e)).1
      show (memK _ _ _ _).length ≤ _
      omega
def cD (c : List Int) : PyData := .tuple (c.map .int)
abbrev codeD (rgs : List Rg) (rows : List Row) : PyData := .tuple [.tuple (rgs.map Rg.d), .tuple (rows.map Row.d)]
abbrev contD (cs : List (List Int)) : PyData := .tuple (cs.map cD)
def sp_words_of (K : PySem.W.Frag) : Sp := fun vs H Q _ => ∃ (code cont : V) (rgs : List Rg) (cs : List (List Int)) (rows : List Row), vs = [code, cont] ∧ Im H code (codeD rgs rows) ∧ Im H cont (contD cs) ∧ MemOk rgs cs ∧
  ∀ H' wd, Same H H' → H wd = none → H' wd = some (.dK (mem rgs cs)) → Q (.ref wd) H'
theorem im3v {H : Hp} {x : V} {g : Rg} (h : Im H x g.d) : ∃ a, x = .ref a ∧ H a = some (.tup [.int g.b, .int g.n, .str g.l]) := by
  obtain ⟨a, x1, x2, x3, rfl, h1, i1, i2, i3⟩ := im3 h
  obtain rfl := i1.int_inv
  obtain rfl := i2.int_inv
  obtain rfl := i3.str_inv
  exact ⟨a, rfl, h1⟩
theorem zip_at {α β : Type} {xs : List α} {ys : List β} {i : Nat} {x : α} {y : β} (hx : xs[i]? = some x) (hy : ys[i]? = some y) : (xs.zip ys)[i]? = some (x, y) := by
  rw [List.getElem?_zip_eq_some]
  exact ⟨hx, hy⟩
theorem sc_words_of : FnScope ["code", "contents", "words", "region", "row", "k"] ["code", "contents"] (defScope (topS 16)) := ⟨rfl, rfl, rfl, by decide +kernel, rfl, by decide +kernel, by decide +kernel⟩
theorem ok_words_of (T : Txt fa fn K mg (XOk cs xcs K w)) : Dn P w K mg base CX0 1 "words_of" ["code", "contents"] (sp_words_of K) := by
  refine mk_dn (d := dOf "words_of" 16) T 7 7 rfl rfl rfl rfl rfl sc_words_of (by walk_at "len") (fun _ _ _ _ _ _ us hl => match us, hl with | [_, _], _ => rfl) (fun cdv A outer s H vs Q E hr h => ⟨_, (pss_cons (ps_set (i := 2) sc_words_of.nd rfl (.inl rfl) pe_dnewK)
      (pss_cons (ps_for PassesOwn.never rfl (pi_zipU (K := K) rfl rfl (T.free 137 rfl) (pa_cons (pe_ixU (K := K) rfl (hu_of hr) (pv 0) pe_int) (pa_cons (pv 1) pa_nil))) (pg_tup rfl (pgs_cons (pg_name (i := 3) sc_words_of.nd rfl (.inl rfl)) (pgs_cons (pg_name (i := 4) sc_words_of.nd rfl (.inl rfl)) pgs_nil))) (pss_one (ps_for PassesOwn.never rfl (pi_r1 rfl (T.free 132 rfl) (pa_cons (pe_ixU (K := K) rfl (hu_of hr) (pv 3) pe_int) pa_nil)) (pg_name (i := 5) sc_words_of.nd rfl (.inl rfl)) (pss_one (ps_asg (pe_ixU (K := K) rfl (hu_of hr) (pv 4) (pv 5)) (pg_sub (pv 2) (pe_op (op_addU (K := K) rfl) (pe_ixU (K := K) rfl (hu_of hr) (pv 3) pe_int) (pv 5)) (set_U (hu_of hr))))))))
      (pss_one (ps_ret (pv 2))))), ?_⟩)
  obtain ⟨code, cont, rgs, cs, rows, rfl, ic, ik, ok, hQ⟩ := h
  walk_at "go"
  intro wd hwd
  walk_at "go"
  have s0 : Same H (upd H wd (.dK [])) := Same.new hwd
  refine m_ix (ic.same s0) (n := 0) rfl rfl (fun v hv => ?_)
  walk_at "go"
  obtain ⟨a1, xs1, rfl, h1, hs1⟩ := hv.tup_inv
  obtain ⟨a2, xs2, rfl, h2, hs2⟩ := (ik.same s0).tup_inv
  have l1 := hs1.length
  have l2 := hs2.length
  rw [List.length_map] at l1 l2
  have lk := ok.l
  refine g_zipT (SqT.of h1) (SqT.of h2) ?_
  refine f_zipT (xs := xs1) (ys := xs2) (by omega) (fun i σ H' => ∃ (r1 r2 k : Option V), σ = [some code, some (.ref a2), some (.ref wd), r1, r2, k] ∧ Keep [wd] (upd H wd (.dK [])) H' ∧ H' wd = some (.dK (((rgs.zip cs).take i).foldl stepR [])) ∧ i ≤ rgs.length) ⟨_, _, _, rfl, Keep.refl, upd_same, Nat.zero_le _⟩ ?_ ?_ ?_
  · rintro i σ H' ⟨r1, r2, k, rfl, kp, hw, _⟩
    have nt : NoTup (upd H wd (.dK [])) [wd] := NoTup.one upd_same (fun _ e => nomatch e)
    exact ⟨SqT.of (kp _ _ h1 (fun z => nt a1 z _ h1)), SqT.of (kp _ _ h2 (fun z => nt a2 z _ h2))⟩
  · rintro i x y Tp σ H' hx hy ⟨r1, r2, k, rfl, kp, hw, hil⟩ hT
    have nt : NoTup (upd H wd (.dK [])) [wd] := NoTup.one upd_same (fun _ e => nomatch e)
    obtain ⟨hlt, _⟩ := List.getElem?_eq_some_iff.mp hx
    have hg : rgs[i]? = some (rgs[i]'(by omega)) := List.getElem?_eq_getElem _
    generalize rgs[i]'(by omega) = rgn at hg
    have hc : cs[i]? = some (cs[i]'(by omega)) := List.getElem?_eq_getElem _
    generalize cs[i]'(by omega) = c at hc
    obtain ⟨x', hx', hix⟩ := hs1.get (n := i) (d := rgn.d) (by rw [List.getElem?_map, hg]; rfl)
    rw [hx] at hx'
    cases hx'
    obtain ⟨y', hy', hiy⟩ := hs2.get (n := i) (d := cD c) (by rw [List.getElem?_map, hc]; rfl)
    rw [hy] at hy'
    cases hy'
    have sT : Same H' (upd H' Tp (.tup [x, y])) := Same.new hT
    have hix := (hix.keep kp nt).same sT
    have hiy := (hiy.keep kp nt).same sT
    obtain ⟨ax, rfl, hax⟩ := im3v hix
    have hTT : upd H' Tp (.tup [.ref ax, y]) Tp = some (.tup [.ref ax, y]) := upd_same
    have hw1 := sT _ _ hw
    have cl := ok.n i rgn c hg hc
    have ml := mem_len ok i
    have zl := ok.z rgn (List.mem_of_getElem? hg)
    have m4 := ok.m
    walk_at "go"
    rw [Int.toNat_natCast]
    refine f_range (fun j σ H2 => ∃ (k : Option V), σ = [some code, some (.ref a2), some (.ref wd), some (.ref ax), some y, k] ∧ Keep [wd] (upd H' Tp (.tup [.ref ax, y])) H2 ∧ H2 wd = some (.dK (memK rgn.b c j (((rgs.zip cs).take i).foldl stepR [])))) ⟨_, rfl, Keep.refl, hw1⟩ ?_ ?_
    · rintro j σ H2 hj ⟨k, rfl, k2, hw2⟩
      have nt2 : NoTup (upd H' Tp (.tup [.ref ax, y])) [wd] := NoTup.one hw1 (fun _ e => nomatch e)
      have hax2 : H2 ax = some (.tup [.int rgn.b, .int rgn.n, .str rgn.l]) := k2 _ _ hax (fun z => nt2 ax z _ hax)
      have hiy2 := hiy.keep k2 nt2
      have hcj : c[j]? = some (c.getD j 0) := by rw [List.getD_eq_getElem?_getD, List.getElem?_eq_getElem (by omega)]; rfl
      walk_at "go"
      refine m_ix hiy2 (n := j) (by omega) (by rw [List.getElem?_map, hcj]; rfl) (fun v hv => ?_)
      obtain rfl := hv.int_inv
      walk_at "go"
      have e0 : (0 : Int) + (j : Int) = (j : Int) := by omega
      rw [e0]
      refine .inr ⟨wd, _, rfl, DPut.k (k := .inl (rgn.b + j)) hw2 (szl ?_), ?_⟩
      · have := memK_len (base := rgn.b) (row := c) (kvs := ((rgs.zip cs).take i).foldl stepR []) j
        omega
      · walk_at "go"
        refine ⟨_, rfl, k2.trans (Keep.set (by simp)), ?_⟩
        rw [memK_succ]
        exact upd_same
    · rintro σ H2 ⟨k, rfl, k2, hw2⟩
      walk_at "go"
      refine ⟨_, _, _, rfl, (kp.trans (Keep.of sT)).trans k2, ?_, by omega⟩
      rw [foldl_take_succ (zip_at hg hc)]
      exact hw2
  · rintro σ H' ⟨r1, r2, k, rfl, kp, hw, hil⟩
    walk_at "go"
    have e : ((rgs.zip cs).take xs1.length) = rgs.zip cs := List.take_of_length_le (by rw [List.length_zip]; omega)
    rw [e] at hw
    exact hQ H' wd (fun bb u hb => kp bb u (s0 bb u hb) (fun z => by
      rw [List.mem_singleton] at z
      subst z
      rw [hwd] at hb
      cases hb)) hwd hw
/-! ### the contents at the end -/
def heldD (rgs : List Rg) (ms : MS) : List PyData := rgs.map fun g => .tuple ((List.range g.n).map fun (j : Nat) => .int (wdV ms.wd (g.b + (j : Int))))
def covG (rgs : List Rg) (a : Int) : Prop := ∃ g ∈ rgs, ∃ j : Nat, j < g.n ∧ a = g.b + j
def sp_State_contents (K : PySem.W.Frag) : Sp := fun vs H Q _ => ∃ (s rg rd wd dx : Addr) (x : V) (rgs : List Rg) (ms : MS) (b : Nat), vs = [.ref s, x] ∧ H s = some (stO K dx rg rd wd) ∧ H wd = some (.dK ms.wd) ∧ Im H x (.tuple (rgs.map Rg.d)) ∧ MOk b (covG rgs) ms ∧ (∀ g ∈ rgs, g.n ≤ 100) ∧ rgs.length ≤ 4 ∧
  ∀ H' v, Same H H' → Im H' v (.tuple (heldD rgs ms)) → Q v H'
theorem ml_at {wd : Addr} {H : Hp} {ms : MS} {b : Nat} {cov : Int → Prop} {i : Int} (hw : H wd = some (.dK ms.wd)) (h : MOk b cov ms) (hc : cov i) : DGet H wd (.int i) (some (.int (wdV ms.wd i))) := by
  have e : valV ms.wd (.inl i) = some (.int (wdV ms.wd i)) := by
    unfold wdV
    cases e : valV ms.wd (.inl i) with
    | none =>
      have := h.c i hc
      rw [e] at this
      cases this
    | some v =>
      obtain ⟨x, rfl, _⟩ := h.w _ _ e
      rfl
  rw [← e]
  exact DGet.k (k := .inl i) hw
theorem sc_State_contents : FnScope ["self", "regions", "base", "label", "size", "k"] ["self", "regions"] (defScope (inClass (topS 17) 3)) := ⟨rfl, rfl, rfl, by decide +kernel, rfl, by decide +kernel, by decide +kernel⟩
theorem mt_State_contents (T : Txt fa fn K mg (XOk cs xcs K w)) : Mt P w K mg base CX0 1 "State" "contents" ["self", "regions"] (sp_State_contents K) := by
  refine mk_mt (d := mOf "State" "contents" "State.contents" (inClass (topS 17) 3)) T 66 rfl rfl rfl rfl sc_State_contents (by walk_at "len") (fun _ _ _ _ _ _ us hl => match us, hl with | [_, _], _ => rfl) (fun cdv A outer s H vs Q E hr h => ⟨_, (pss_one (ps_ret (pe_callTy (c_tuple (K := K) rfl) rfl (T.free 136 rfl) (by decide +kernel) (pa_cons (pe_lc rfl sc_State_contents.nd (pi_seq (K := K) rfl (pv 1)) (blkOk_by (own := [("base", 2), ("size", 4), ("label", 3)]) (N := ["self", "regions", "base", "label", "size", "k"]) (sc := defScope (inClass (topS 17) 3)) (by decide +kernel)) (fun _ _ _ _ _ => (pg_tupU (K := K) (n := 3) rfl rfl (pgs_cons (pg_name (i := 2) sc_State_contents.nd rfl (.inr rfl) (.inl rfl)) (pgs_cons (pg_name (i := 4) sc_State_contents.nd rfl (.inl rfl) (.inr rfl)) (pgs_cons (pg_name (i := 3) sc_State_contents.nd rfl (.inl rfl) (.inr rfl)) pgs_nil))))) (fun _ _ _ _ _ => pts_nil) (fun _ _ _ _ _ => (pe_callTy (c_tuple (K := K) rfl) rfl (T.free 136 rfl) (by decide +kernel) (pa_cons (pe_lc rfl sc_State_contents.nd (pi_r1 rfl (T.free 132 rfl) (pa_cons (pv 4) pa_nil)) (blkOk_by (own := [("k", 5)]) (by kernel_rfl)) (fun _ _ _ _ _ => (pg_name (i := 5) sc_State_contents.nd rfl (.inl rfl))) (fun _ _ _ _ _ => pts_nil) (fun _ _ _ _ _ => (pe_ixU (K := K) rfl (hu_of hr) (pe_fldU (K := K) rfl (pv 0) rfl) (pe_op (op_addU (K := K) rfl) (pv 2) (pv 5))))) pa_nil)))) pa_nil)))), ?_⟩)
  obtain ⟨s, rg, rd, wd, dx, x, rgs, ms, b, rfl, hs, hw, ix, hm, hz, hl, hQ⟩ := h
  walk_at "go"
  refine m_seq ix (fun a xs e ha his => ?_)
  subst e
  refine l_map (f := fun d => match d with | .tuple [.int b, .int n, _] => .tuple ((List.range n.toNat).map fun (j : Nat) => .int (wdV ms.wd (b + (j : Int)))) | _ => .none) ha his (by rw [List.length_map]; omega) (fun i e y H1 R hi s1 iy hR => ?_) ?_ (fun D H1 us s1 hD im => ?_)
  · rw [List.getElem?_map] at hi
    obtain ⟨g, hg, rfl⟩ := Option.map_eq_some_iff.mp hi
    have gm := List.mem_of_getElem? hg
    have zz := hz g gm
    obtain ⟨t, rfl, ht⟩ := im3v iy
    walk_at "go"
    rw [Int.toNat_natCast]
    have hs1 := s1 _ _ hs
    have hw1 := s1 _ _ hw
    refine l_mapR (f := fun (j : Nat) => .int (wdV ms.wd (g.b + (j : Int)))) (by omega) (fun _ => rfl) (fun j H2 R2 hj s2 hR2 => ?_) (fun D2 H2 us2 s2 hD2 im2 => ?_)
    · have hs2 := s2 _ _ hs1
      have hw2 := s2 _ _ hw1
      walk_at "go"
      have e0 : (0 : Int) + (j : Int) = (j : Int) := by omega
      rw [e0]
      refine g_ixD (ml_at hw2 hm ⟨g, gm, j, hj, rfl⟩) ?_
      exact hR2 _ _ (Same.refl H2) (.int _)
    · walk_at "go"
      refine m_tupleL (SqL.of hD2) im2 (fun q H3 s3 hq im3 => ?_)
      refine hR _ _ (s2.trans s3) ?_
      exact im3
  · intro y σ1 H1 R R' hh h
    obtain ⟨a, xs, e, h1, h2, h3⟩ := h
    refine ⟨a, xs, e, h1, h2, ?_⟩
    obtain ⟨v1, r1, e1, h3⟩ := h3
    refine ⟨v1, r1, e1, ?_⟩
    obtain ⟨v2, r2, e2, h3⟩ := h3
    refine ⟨v2, r2, e2, ?_⟩
    obtain ⟨v3, r3, e3, h3⟩ := h3
    refine ⟨v3, r3, e3, h3.1, hh _ _ h3.2⟩
  · walk_at "go"
    refine m_tupleL (SqL.of hD) im (fun q H2 s2 hq im2 => ?_)
    refine hQ _ _ (s1.trans s2) ?_
    rw [List.map_map] at im2
    exact im2


/-! ### the whole plain run -/
def ms0 (rgs : List Rg) (cs : List (List Int)) : MS := ⟨List.replicate 16 0, mem rgs cs, []⟩
def GoodK (kvs : List (Key × V)) : Prop := ∀ k v, valV kvs k = some v → ∃ x, v = .int x ∧ W32 x
theorem memK_good {base : Int} {row : List Int} {kvs : List (Key × V)} (h : GoodK kvs) (hr : ∀ x ∈ row, W32 x) : ∀ n : Nat, GoodK (memK base row n kvs)
  | 0 => h
  | n + 1 => by
    rw [memK_succ]
    intro k v e
    rw [valV_put] at e
    split at e
    · cases e
      refine ⟨_, rfl, ?_⟩
      rw [List.getD_eq_getElem?_getD]
      cases q : row[n]? with
      | none => exact ⟨by decide, by decide⟩
      | some x => exact hr x (List.mem_of_getElem? q)
    · exact memK_good h hr n k v e
theorem memK_mono {base a : Int} {row : List Int} {kvs : List (Key × V)} (h : (valV kvs (.inl a)).isSome = true) : ∀ n : Nat, (valV (memK base row n kvs) (.inl a)).isSome = true
  | 0 => h
  | n + 1 => by
    rw [memK_succ, valV_put]
    split
    · rfl
    · exact memK_mono h n
theorem memK_has {base : Int} {row : List Int} {kvs : List (Key × V)} {j : Nat} : ∀ n : Nat, j < n → (valV (memK base row n kvs) (.inl (base + (j : Int)))).isSome = true
  | 0, h => absurd h (by omega)
  | n + 1, h => by
    rw [memK_succ, valV_put]
    split
    · rfl
    · rename_i hne
      refine memK_has n ?_
      by_cases e : j = n
      · subst e
        exact absurd rfl hne
      · omega
theorem mem_good {rgs : List Rg} {cs : List (List Int)} (h : MemOk rgs cs) : ∀ i : Nat, GoodK (((rgs.zip cs).take i).foldl stepR [])
  | 0 => fun k v e => by cases e
  | i + 1 => by
    cases e : (rgs.zip cs)[i]? with
    | none =>
      rw [List.take_add_one, e]
      simp only [Option.toList_none, List.append_nil]
      exact mem_good h i
    | some p =>
      rw [foldl_take_succ e]
      exact memK_good (mem_good h i) (h.w p.2 (List.of_mem_zip (List.mem_of_getElem? e)).2) _
theorem mem_cov {rgs : List Rg} {cs : List (List Int)} : ∀ (i : Nat) (t : Nat) (g : Rg) (c : List Int) (j : Nat), t < i → (rgs.zip cs)[t]? = some (g, c) → j < g.n → (valV (((rgs.zip cs).take i).foldl stepR []) (.inl (g.b + (j : Int)))).isSome = true
  | 0, t, _, _, _, h, _, _ => absurd h (by omega)
  | i + 1, t, g, c, j, h, hg, hj => by
    cases e : (rgs.zip cs)[i]? with
    | none =>
      rw [List.take_add_one, e]
      simp only [Option.toList_none, List.append_nil]
      by_cases q : t = i
      · subst q
        rw [hg] at e
        cases e
      · exact mem_cov i t g c j (by omega) hg hj
    | some p =>
      rw [foldl_take_succ e]
      by_cases q : t = i
      · subst q
        rw [hg] at e
        cases e
        exact memK_has _ hj
      · exact memK_mono (mem_cov i t g c j (by omega) hg hj) _
theorem ms0_ok {rgs : List Rg} {cs : List (List Int)} (h : MemOk rgs cs) : MOk 500 (covG rgs) (ms0 rgs cs) where
  l := by
    show (List.replicate 16 (0 : Int)).length = 16
    rw [List.length_replicate]
  r := fun x hx => by
    rw [(List.mem_replicate.mp hx).2]
    exact ⟨by decide, by decide⟩
  w := by
    have z := mem_good h (rgs.zip cs).length
    rw [List.take_length] at z
    exact z
  o := fun x hx => by cases hx
  c := fun a ⟨g, hg, j, hj, e⟩ => by
    subst e
    obtain ⟨t, ht, eg⟩ := List.mem_iff_getElem.mp hg
    have l := h.l
    have z := mem_cov (rgs := rgs) (cs := cs) (rgs.zip cs).length t g (cs[t]'(by omega)) j (by rw [List.length_zip]; omega) (zip_at (by rw [List.getElem?_eq_getElem ht, eg]) (List.getElem?_eq_getElem _)) hj
    rw [List.take_length] at z
    exact z
  n := by
    have z := mem_len h (rgs.zip cs).length
    rw [List.take_length] at z
    have m := h.m
    have l := h.l
    rw [List.length_zip] at z
    show ((rgs.zip cs).foldl stepR []).length ≤ 500
    omega
  m := by
    show ([] : List Int).length ≤ 500
    decide
def rsD : Option Int → PyData
  | none => .none
  | some i => .int i
def rsV : Option Int → V
  | none => .non
  | some i => .int i
def resD (rgs : List Rg) (p : Option Int × MS) : List PyData := [.tuple (p.2.ou.map .int), rsD p.1, .tuple (heldD rgs p.2)]
theorem im_rs {H : Hp} (r : Option Int) : Im H (rsV r) (rsD r) := by
  cases r
  · exact .non
  · exact .int _
theorem ims_ints {H : Hp} : ∀ (ns : List Int), Ims H (ns.map V.int) (ns.map .int)
  | [] => .nil
  | n :: ns => .cons (.int n) (ims_ints ns)
theorem has_add {H H' : Hp} {L : List (Addr × HO)} {p : Addr} {o : HO} (M : Has H L) (sm : Same H H') (hn : H p = none) (hp : H' p = some o) : Has H' (L ++ [(p, o)]) where
  nd := by
    have z := (M.new (o := o) hn).nd
    exact z
  is_ := fun q hq => by
    rcases List.mem_append.mp hq with h | h
    · exact sm _ _ (M.is_ q h)
    · rw [List.mem_singleton.mp h]
      exact hp
theorem same_keep {H H1 H2 : Hp} {ms : List Addr} (s : Same H H1) (k : Keep ms H1 H2) (hn : ∀ m ∈ ms, H m = none) : Same H H2 := fun b u e => k b u (s b u e) fun z => by
  rw [hn b z] at e
  cases e
def Row.nm : Row → Str
  | .const _ _ => "const"
  | .op _ _ _ _ => "op"
  | .select _ _ _ _ => "select"
  | .load _ _ _ _ => "load"
  | .store _ _ _ _ => "store"
  | .out _ => "out"
  | .jump _ => "jump"
  | .branch _ _ => "branch"
  | .stop _ => "stop"
theorem row0 {r : Row} : r.v[0]? = some (.str r.nm) := by cases r <;> rfl
theorem pl_stop {r : Row} (h : r.plain = true) : ¬ r.nm = "stop" := by
  cases r <;> first | (cases h; done) | (simp only [Row.nm]; decide +kernel)
theorem pl_jump {r : Row} (h : r.plain = true) : ¬ r.nm = "jump" := by
  cases r <;> first | (cases h; done) | (simp only [Row.nm]; decide +kernel)
theorem pl_branch {r : Row} (h : r.plain = true) : ¬ r.nm = "branch" := by
  cases r <;> first | (cases h; done) | (simp only [Row.nm]; decide +kernel)
theorem pl_next {r : Row} {ms : MS} {a : Nat} (h : r.plain = true) : nextAt ms a r = a + 1 := by
  cases r <;> first | (cases h; done) | rfl
theorem pl_run {rows : List Row} {r : Row} {n a : Nat} {ms : MS} (h : r.plain = true) (hr : rows[a]? = some r) : runM rows (n + 1) a ms = runM rows n (a + 1) (doRow ms r) := by
  show (match rows[a]? with
    | some (.stop a) => (some (rgV ms a), ms)
    | some r => runM rows n (nextAt (doRow ms r) a r) (doRow ms r)
    | none => (none, ms)) = _
  rw [hr]
  cases r <;> first | (cases h; done) | rfl
structure CodeOk (rows : List Row) : Prop where
  l : 0 < rows.length
  u : rows.length ≤ 1000
  r : ∀ (k : Nat) (r : Row), rows[k]? = some r → RowOkD rows.length k r
def sp_plain_run (K : PySem.W.Frag) : Sp := fun vs H Q _ => ∃ (code cont : V) (n : Nat) (rgs : List Rg) (cs : List (List Int)) (rows : List Row), vs = [code, cont, .int (n : Int)] ∧ Im H code (codeD rgs rows) ∧ Im H cont (contD cs) ∧ MemOk rgs cs ∧ CodeOk rows ∧ n ≤ 2500 ∧
  ∀ H' v, Same H H' → Im H' v (.tuple (resD rgs (runM rows n 0 (ms0 rgs cs)))) → Q v H'


/-! ### all tuples stay -/
def KT (H H' : Hp) : Prop := ∀ a xs, H a = some (.tup xs) → H' a = some (.tup xs)
section
variable {H H' H1 : Hp} {a : Addr} {o o' : HO} {ms : List Addr}
theorem KT.refl : KT H H := fun _ _ h => h
theorem KT.trans (x : KT H H1) (y : KT H1 H') : KT H H' := fun a xs h => y a xs (x a xs h)
theorem KT.of (s : Same H H') : KT H H' := fun a xs h => s a _ h
theorem KT.keep (k : Keep ms H H') (n : NoTup H ms) : KT H H' := fun a xs h => k a _ h fun z => n a z xs h
theorem KT.set (h : H a = some o) (n : ∀ xs, o ≠ .tup xs) : KT H (upd H a o') := KT.keep (Keep.set (List.mem_singleton.mpr rfl)) (NoTup.one h n)
theorem KT.new (h : H a = none) : KT H (upd H a o) := KT.of (Same.new h)
theorem _root_.G.Im.kt {v : V} {d : PyData} (h : Im H v d) (k : KT H H') : Im H' v d := h.mono k
theorem _root_.G.Ims.kt {v : List V} {d : List PyData} (h : Ims H v d) (k : KT H H') : Ims H' v d := h.mono k
end

/-! ### papers: members, what is public behind a row, ways -/
abbrev Mb := Nat → Bool
def mL (p : Mb) : List Nat := (List.range 16).filter p
abbrev mD (p : Mb) : PyData := nD (mL p)
section
variable {p q : Mb} {n : Nat}
theorem mL_len : (mL p).length ≤ 16 := by
  unfold mL
  have := List.length_filter_le p (List.range 16)
  rw [List.length_range] at this
  exact this
theorem mL_mem : n ∈ mL p ↔ n < 16 ∧ p n = true := by
  unfold mL
  rw [List.mem_filter, List.mem_range]
theorem mL_has (h : n < 16) : (mL p).contains n = p n := by
  rw [Bool.eq_iff_iff, List.contains_iff_mem, mL_mem]
  exact ⟨fun z => z.2, fun z => ⟨h, z⟩⟩
theorem mL_asc : (mL p).Pairwise (· < ·) := List.Pairwise.sublist List.filter_sublist List.pairwise_lt_range
theorem mL_ext (h : ∀ x, x < 16 → p x = q x) : mL p = mL q := List.filter_congr fun x hx => h x (List.mem_range.mp hx)
theorem mL_inj (h : mL p = mL q) : ∀ x, x < 16 → p x = q x := fun x hx => by
  rw [← mL_has (p := p) hx, ← mL_has (p := q) hx, h]
theorem ascN : ∀ {l m : List Nat}, l.Pairwise (· < ·) → m.Pairwise (· < ·) → (∀ j, j ∈ l ↔ j ∈ m) → l = m
  | [], [], _, _, _ => rfl
  | [], b :: m, _, _, h => absurd ((h b).mpr List.mem_cons_self) (by simp)
  | a :: l, [], _, _, h => absurd ((h a).mp List.mem_cons_self) (by simp)
  | a :: l, b :: m, h1, h2, h => by
    rw [List.pairwise_cons] at h1 h2
    have e : a = b := by
      rcases List.mem_cons.mp ((h a).mp List.mem_cons_self) with x | x
      · exact x
      · rcases List.mem_cons.mp ((h b).mpr List.mem_cons_self) with y | y
        · exact y.symm
        · have := h1.1 b y
          have := h2.1 a x
          omega
    subst e
    congr 1
    refine ascN h1.2 h2.2 fun j => ⟨fun hj => ?_, fun hj => ?_⟩
    · rcases List.mem_cons.mp ((h j).mp (List.mem_cons_of_mem _ hj)) with x | x
      · have := h1.1 j hj
        omega
      · exact x
    · rcases List.mem_cons.mp ((h j).mpr (List.mem_cons_of_mem _ hj)) with x | x
      · have := h2.1 j hj
        omega
      · exact x
theorem asc_mL {l : List Nat} (h : l.Pairwise (· < ·)) (hb : ∀ x ∈ l, x < 16) : l = mL (fun x => l.contains x) := ascN h mL_asc fun j => by
  rw [mL_mem, List.contains_iff_mem]
  exact ⟨fun z => ⟨hb j z, z⟩, fun z => z.2⟩
end
section
variable {K : PySem.W.Frag} {H : Hp} {a : Addr} {p : Mb} {n : Nat} {Q : VK} {l m : List Nat}
theorem k_inM (h : TupK K H a (nV (mL p))) (hn : n < 16) (q : Q (.bl (p n)) H) : rInU K false (.int (n : Int)) (.ref a) H Q := k_inN (.inl h.sq) (by rw [mL_has hn]; exact q)
theorem k_niM (h : TupK K H a (nV (mL p))) (hn : n < 16) (q : Q (.bl (!p n)) H) : rInU K true (.int (n : Int)) (.ref a) H Q := k_niN (.inl h.sq) (by rw [mL_has hn]; exact q)
theorem nV_ints : nV l = (l.map fun (n : Nat) => (n : Int)).map V.int := by
  unfold nV
  rw [List.map_map]
  rfl
/-- sorted of a list of numbers -/
theorem k_sortN (h : H a = some (.lst (nV l))) (hl : l.length < 64) (hp : l.Perm m) (ha : m.Pairwise (· < ·)) (q : ∀ p, H p = none → Q (.ref p) (upd H p (.lst (nV m)))) : rSortU K [.ref a] H Q := by
  rw [nV_ints] at h
  refine ⟨a, _, rfl, .inl (SqL.of h), by rw [List.length_map]; exact hl, fun ns' p p1 p2 hp2 => ?_⟩
  have e : ns' = m.map fun (n : Nat) => (n : Int) := by
    refine sorted_eq (p1.trans (hp.map _)) p2 ?_
    rw [List.pairwise_map]
    exact ha.imp fun h => by omega
  subst e
  rw [← nV_ints]
  exact q p hp2
end
def regOf (rgs : List Rg) (base mask : Int) : Option Rg := rgs.find? fun g => decide (g.b ≤ base) && decide (base + mask < g.b + (g.n : Int))
def pubR (rgs : List Rg) (base mask : Int) : Bool := match regOf rgs base mask with
  | some g => decide (g.l = "public")
  | none => false
/-- the register that a row writes, and whether it is public then -/
def wrP (rgs : List Rg) (p : Mb) : Row → Option (Nat × Bool)
  | .const d _ => some (d, true)
  | .op _ d a b => some (d, p a && p b)
  | .select d c a b => some (d, p c && (p a && p b))
  | .load d _ base mask => some (d, pubR rgs base mask)
  | _ => none
def bhd (rgs : List Rg) (r : Row) (p : Mb) : Mb := match wrP rgs p r with
  | some (d, b) => fun x => if x = d then b else p x
  | none => p
def waysR (k : Nat) : Row → List Nat
  | .stop _ => []
  | .jump t => [t]
  | .branch _ t => if k + 1 = t then [t] else if k + 1 < t then [k + 1, t] else [t, k + 1]
  | _ => [k + 1]
/-- rows in order -/
structure JOk (rows : List Row) : Prop where
  u : rows.length ≤ 50000
  r : ∀ (k : Nat) (r : Row), rows[k]? = some r → RowOkD rows.length k r
theorem waysR_lt {many k w : Nat} {r : Row} (hr : RowOkD many k r) (hw : w ∈ waysR k r) : w < many := by
  cases r with
  | stop a => cases hw
  | jump t =>
    rw [List.mem_singleton.mp hw]
    exact hr
  | branch a t =>
    have h1 : t < many := hr.2.1
    have h2 : k + 1 < many := hr.2.2
    have hw : w ∈ if k + 1 = t then [t] else if k + 1 < t then [k + 1, t] else [t, k + 1] := hw
    split at hw
    · rw [List.mem_singleton.mp hw]
      exact h1
    · split at hw
      · simp only [List.mem_cons, List.not_mem_nil, or_false] at hw
        rcases hw with rfl | rfl <;> assumption
      · simp only [List.mem_cons, List.not_mem_nil, or_false] at hw
        rcases hw with rfl | rfl <;> assumption
  | const d n => rw [List.mem_singleton.mp hw]; exact hr.2.2
  | op s d a b => rw [List.mem_singleton.mp hw]; exact hr.2.2.2
  | select d c a b => rw [List.mem_singleton.mp hw]; exact hr.2.2.2.2
  | load d a b m => rw [List.mem_singleton.mp hw]; exact hr.2.2
  | store a b m c => rw [List.mem_singleton.mp hw]; exact hr.2.2
  | out a => rw [List.mem_singleton.mp hw]; exact hr.2
def sp_region_of (K : PySem.W.Frag) : Sp := fun vs H Q _ => ∃ (code : V) (base mask : Int) (rgs : List Rg) (rows : List Row), vs = [code, .int base, .int mask] ∧ Im H code (codeD rgs rows) ∧ (regOf rgs base mask = none → Q .non H) ∧ ∀ g v, regOf rgs base mask = some g → Im H v g.d → Q v H
theorem sc_region_of : FnScope ["code", "base", "mask", "region"] ["code", "base", "mask"] (defScope (topS 26)) := ⟨rfl, rfl, rfl, by decide +kernel, rfl, by decide +kernel, by decide +kernel⟩
theorem ok_region_of (T : Txt fa fn K mg (XOk cs xcs K w)) : Dn P w K mg base CX0 1 "region_of" ["code", "base", "mask"] (sp_region_of K) := by
  refine mk_dn (d := dOf "region_of" 26) T 9 9 rfl rfl rfl rfl rfl sc_region_of (by walk_at "len") (fun _ _ _ _ _ _ us hl => match us, hl with | [_, _, _], _ => rfl) (fun cdv A outer s H vs Q E hr h => ⟨_, (pss_cons (ps_for PassesOwn.never rfl (pi_seq (K := K) rfl (pe_ixU (K := K) rfl (hu_of hr) (pv 0) pe_int)) (pg_name (i := 3) sc_region_of.nd rfl (.inl rfl)) (pss_one (ps_if (PW.pt (pw_and (pt_cmpR o_le (pe_ixU (K := K) rfl (hu_of hr) (pv 3) pe_int) (pv 1) (nomark _)) (pw_and1 (pt_cmpR o_lt (pe_op (op_addU (K := K) rfl) (pv 1) (pv 2)) (pe_op (op_addU (K := K) rfl) (pe_ixU (K := K) rfl (hu_of hr) (pv 3) pe_int) (pe_ixU (K := K) rfl (hu_of hr) (pv 3) pe_int)) (nomark _))))) (pss_one (ps_ret (pv 3))) pss_nil)))
      (pss_one (ps_ret pe_non))), ?_⟩)
  obtain ⟨code, base, mask, rgs, rows, rfl, ic, q1, q2⟩ := h
  walk_at "go"
  refine m_ix ic (n := 0) rfl rfl (fun v hv => ?_)
  walk_at "go"
  refine m_seq hv (fun a xs e ha his => ?_)
  subst e
  have hl := his.length
  rw [List.length_map] at hl
  refine f_tup (xs := xs) (fun i σ H' => ∃ (o : Option V), σ = [some code, some (.int base), some (.int mask), o] ∧ H' = H ∧ (rgs.take i).find? (fun g => decide (g.b ≤ base) && decide (base + mask < g.b + (g.n : Int))) = none) ⟨_, rfl, rfl, rfl⟩ ?_ ?_ ?_
  · rintro i σ H' hi ⟨o, rfl, rfl, hn⟩
    exact SqT.of ha
  · rintro i y σ H' hi ⟨o, rfl, rfl, hn⟩
    have hil := (List.getElem?_eq_some_iff.mp hi).1
    have hg : rgs[i]? = some (rgs[i]'(by omega)) := List.getElem?_eq_getElem _
    generalize rgs[i]'(by omega) = g at hg
    obtain ⟨y', hy', hiy⟩ := his.get (n := i) (d := g.d) (by rw [List.getElem?_map, hg]; rfl)
    rw [hi] at hy'
    cases hy'
    obtain ⟨ax, rfl, hax⟩ := im3v hiy
    have next : ¬ (g.b ≤ base ∧ base + mask < g.b + (g.n : Int)) → (rgs.take (i + 1)).find? (fun g => decide (g.b ≤ base) && decide (base + mask < g.b + (g.n : Int))) = none := fun hno => by
      rw [List.take_add_one, hg, List.find?_append, hn]
      simp only [Option.toList_some, List.find?_cons, Option.none_or]
      have e : (decide (g.b ≤ base) && decide (base + mask < g.b + (g.n : Int))) = false := by
        rw [Bool.eq_false_iff]
        intro z
        rw [Bool.and_eq_true, decide_eq_true_eq, decide_eq_true_eq] at z
        exact hno z
      rw [e]
      rfl
    walk_at "go"
    refine g_if (fun c1 => ?_) (fun c1 => ?_)
    · walk_at "go"
      refine g_if (fun c2 => ?_) (fun c2 => ?_)
      · walk_at "go"
        refine q2 g _ ?_ hiy
        have e : rgs = rgs.take i ++ (g :: rgs.drop (i + 1)) := by
          obtain ⟨h1, h2⟩ := List.getElem?_eq_some_iff.mp hg
          rw [← h2, List.getElem_cons_drop, List.take_append_drop]
        unfold regOf
        rw [e, List.find?_append, hn]
        rw [Option.none_or, List.find?_cons_of_pos]
        rw [Bool.and_eq_true, decide_eq_true_eq, decide_eq_true_eq]
        exact ⟨c1, c2⟩
      · walk_at "go"
        exact ⟨_, rfl, rfl, next fun z => c2 z.2⟩
    · walk_at "go"
      exact ⟨_, rfl, rfl, next fun z => c1 z.1⟩
  · rintro σ H' ⟨o, rfl, rfl, hn⟩
    walk_at "go"
    refine q1 ?_
    rw [hl, List.take_length] at hn
    exact hn
def sp_public_behind (K : PySem.W.Frag) : Sp := fun vs H Q _ => ∃ (code v : V) (r many : Nat) (rgs : List Rg) (rows : List Row) (row : Row) (p : Mb), vs = [code, .int (r : Int), v] ∧ Im H code (codeD rgs rows) ∧ rows[r]? = some row ∧ RowOkD many r row ∧ Dk K H v (mD p) ∧
  ∀ H' x, Same H H' → Dk K H' x (mD (bhd rgs row p)) → Q x H'
theorem bhd_perm {p : Mb} {w : Nat} {b : Bool} (hw : w < 16) : ((mL p).filter (fun m => !decide (m = w)) ++ if b = true then [w] else []).Perm (mL fun x => if x = w then b else p x) := by
  refine (List.perm_ext_iff_of_nodup ?_ ?_).mpr fun x => ?_
  · rw [List.nodup_append]
    refine ⟨(mL_asc.imp fun h => by omega : (mL p).Nodup).filter _, by split <;> simp, fun x hx y hy e => ?_⟩
    subst e
    have h1 := (List.mem_filter.mp hx).2
    split at hy
    · rw [List.mem_singleton] at hy
      subst hy
      simp at h1
    · cases hy
  · exact mL_asc.imp fun h => by omega
  · rw [List.mem_append, List.mem_filter, mL_mem, mL_mem]
    by_cases hx : x = w
    · subst hx
      cases b <;> simp [hw]
    · cases b <;> simp [hx]
theorem row_at {H : Hp} {code : V} {rgs : List Rg} {rows : List Row} {r : Nat} {row : Row} {K : PySem.W.Frag} {Q : VK} (ic : Im H code (codeD rgs rows)) (hr : rows[r]? = some row) (k : ∀ a, H a = some (.tup row.v) → Q (.ref a) H) : rIxU K code (.int 1) H fun v H1 => rIxU K v (.int (r : Int)) H1 Q := by
  refine m_ix ic (n := 1) rfl rfl (fun v hv => ?_)
  refine m_ix hv (n := r) rfl (by rw [List.getElem?_map, hr]; rfl) (fun y hy => ?_)
  obtain ⟨a, rfl, ha⟩ := row_tup hy
  exact k a ha
def Row.kd : Row → Str
  | .const _ _ => "const" | .op _ _ _ _ => "op" | .select _ _ _ _ => "select" | .load _ _ _ _ => "load" | .store _ _ _ _ => "store" | .out _ => "out" | .jump _ => "jump" | .branch _ _ => "branch" | .stop _ => "stop"
theorem row_kd {r : Row} : r.v[0]? = some (.str r.kd) := by cases r <;> rfl
theorem three {p : Mb} {c a b : Nat} (hc : c < 16) (ha : a < 16) (hb : b < 16) : ∀ (i : Nat) (x : V) (t : Bool), [V.int (c : Int), V.int (a : Int), V.int (b : Int)][i]? = some x → [p c, p a, p b][i]? = some t → ∃ n : Nat, n < 16 ∧ x = .int (n : Int) ∧ t = p n
  | 0, x, t, h1, h2 => by cases h1; cases h2; exact ⟨c, hc, rfl, rfl⟩
  | 1, x, t, h1, h2 => by cases h1; cases h2; exact ⟨a, ha, rfl, rfl⟩
  | 2, x, t, h1, h2 => by cases h1; cases h2; exact ⟨b, hb, rfl, rfl⟩
  | i + 3, x, t, h1, h2 => by simp at h1
theorem sc_public_behind : FnScope ["code", "r", "member", "row", "kind", "rest", "written", "public", "region", "one"] ["code", "r", "member"] (defScope (topS 27)) := ⟨rfl, rfl, rfl, by decide +kernel, rfl, by decide +kernel, by decide +kernel⟩
theorem ok_public_behind (T : Txt fa fn K mg (XOk cs xcs K w)) : Dn P w K mg base CX0 2 "public_behind" ["code", "r", "member"] (sp_public_behind K) := by
  refine mk_dn (d := dOf "public_behind" 27) T 10 10 rfl rfl rfl rfl rfl sc_public_behind (by walk_at "len") (fun _ _ _ _ _ _ us hl => match us, hl with | [_, _, _], _ => rfl) (fun cdv A outer s H vs Q E hr h => ⟨_, (pss_cons (ps_set (i := 3) sc_public_behind.nd rfl (.inl rfl) (pe_ixU (K := K) rfl (hu_of hr) (pe_ixU (K := K) rfl (hu_of hr) (pv 0) pe_int) (pv 1)))
      (pss_cons (ps_set (i := 4) sc_public_behind.nd rfl (.inl rfl) (pe_ixU (K := K) rfl (hu_of hr) (pv 3) pe_int))
      (pss_cons (ps_join (ps_if (pt_cmpR (op_eqU (K := K) rfl hr.units) (pv 4) pe_str (nomark _)) (pss_one (ps_asg (pe_tup (pa_cons (pe_ixU (K := K) rfl (hu_of hr) (pv 3) pe_int) (pa_cons pe_bl pa_nil))) (pg_tup rfl (pgs_cons (pg_name (i := 6) sc_public_behind.nd rfl (.inr rfl)) (pgs_cons (pg_name (i := 7) sc_public_behind.nd rfl (.inl rfl)) pgs_nil))))) (pss_one (ps_if (pt_cmpR (op_eqU (K := K) rfl hr.units) (pv 4) pe_str (nomark _)) (pss_one (ps_asg (pe_tup (pa_cons (pe_ixU (K := K) rfl (hu_of hr) (pv 3) pe_int) (pa_cons (pe_and (pe_cmpR (op_inU (K := K) rfl (hu65 hr)) (pe_ixU (K := K) rfl (hu_of hr) (pv 3) pe_int) (pv 2) (by rfl)) (pe_one (pe_cmpR (op_inU (K := K) rfl (hu65 hr)) (pe_ixU (K := K) rfl (hu_of hr) (pv 3) pe_int) (pv 2) (by rfl)))) pa_nil))) (pg_tup rfl (pgs_cons (pg_name (i := 6) sc_public_behind.nd rfl (.inr rfl)) (pgs_cons (pg_name (i := 7) sc_public_behind.nd rfl (.inl rfl)) pgs_nil))))) (pss_one (ps_if (pt_cmpR (op_eqU (K := K) rfl hr.units) (pv 4) pe_str (nomark _)) (pss_one (ps_asg (pe_tup (pa_cons (pe_ixU (K := K) rfl (hu_of hr) (pv 3) pe_int) (pa_cons (pe_callB (c_all (K := K) rfl rfl) rfl (T.free 123 rfl) (by decide +kernel) (pa_cons (pe_lc rfl sc_public_behind.nd (pi_seq (K := K) rfl (pe_slice (sl_U (K := K) rfl) (pv 3) (po_some pe_int) po_none)) (blkOk_by (own := [("one", 9)]) (N := ["code", "r", "member", "row", "kind", "rest", "written", "public", "region", "one"]) (sc := defScope (topS 27)) (by decide +kernel)) (fun _ _ _ _ _ => (pg_name (i := 9) sc_public_behind.nd rfl (.inl rfl))) (fun _ _ _ _ _ => pts_nil) (fun _ _ _ _ _ => (pe_cmpR (op_inU (K := K) rfl (hu65 hr)) (pv 9) (pv 2) (by rfl)))) pa_nil)) pa_nil))) (pg_tup rfl (pgs_cons (pg_name (i := 6) sc_public_behind.nd rfl (.inr rfl)) (pgs_cons (pg_name (i := 7) sc_public_behind.nd rfl (.inl rfl)) pgs_nil))))) (pss_one (ps_if (pt_cmpR (op_eqU (K := K) rfl hr.units) (pv 4) pe_str (nomark _)) (pss_cons (ps_set (i := 8) sc_public_behind.nd rfl (.inl rfl) (pe_callD (K := K) rfl (ok_region_of T) (hr.mono (by decide)) rfl pass0 (pa_cons (pv 0) (pa_cons (pe_ixU (K := K) rfl (hu_of hr) (pv 3) pe_int) (pa_cons (pe_ixU (K := K) rfl (hu_of hr) (pv 3) pe_int) pa_nil)))))
      (pss_one (ps_asg (pe_tup (pa_cons (pe_ixU (K := K) rfl (hu_of hr) (pv 3) pe_int) (pa_cons (pe_and (pe_cmpR o_notN (pv 8) pe_non (nomark _)) (pe_one (pe_cmpR (op_eqU (K := K) rfl hr.units) (pe_ixU (K := K) rfl (hu_of hr) (pv 8) pe_int) pe_str (nomark _)))) pa_nil))) (pg_tup rfl (pgs_cons (pg_name (i := 6) sc_public_behind.nd rfl (.inr rfl)) (pgs_cons (pg_name (i := 7) sc_public_behind.nd rfl (.inl rfl)) pgs_nil)))))) (pss_one (ps_ret (pe_callTy (c_tuple (K := K) rfl) rfl (T.free 136 rfl) (by decide +kernel) (pa_cons (pv 2) pa_nil))))))))))))
      (pss_cons (ps_setLc (i := 5) rfl sc_public_behind.nd rfl rfl (sw_true rfl rfl rfl (by decide +kernel)) (pi_seq (K := K) rfl (pv 2)) (blkOk_by (own := [("one", 9)]) (N := ["code", "r", "member", "row", "kind", "rest", "written", "public", "region", "one"]) (sc := defScope (topS 27)) (by decide +kernel)) (fun _ _ _ _ _ => (pg_name (i := 9) sc_public_behind.nd rfl (.inl rfl))) (fun _ _ _ _ _ => (pts_one (pt_cmpR (op_neU (K := K) rfl hr.units) (pv 9) (pv 6) (nomark _)))) (fun _ _ _ _ _ => (pv 9)))
      (pss_cons (ps_if (pt_tru (K := K) rfl (pv 7)) (pss_one (ps_expr (pe_bm PySem.F.plainAttrs_list PySem.F.slot_list_append PySem.F.type_list_append mt_append (pv 5) (pa_cons (pv 6) pa_nil)))) pss_nil)
      (pss_one (ps_ret (pe_callTy (c_tuple (K := K) rfl) rfl (T.free 136 rfl) (by decide +kernel) (pa_cons (pe_callB (c_sortU (K := K) rfl) rfl (T.free 134 rfl) (by decide +kernel) (pa_cons (pv 5) pa_nil)) pa_nil))))))))), ?_⟩)
  obtain ⟨code, v, r, many, rgs, rows, row, p, rfl, ic, hr, ro, iv, hQ⟩ := h
  obtain ⟨ma, rfl, hma⟩ := nD_at iv
  walk_at "go"
  refine m_ix ic (n := 1) rfl rfl (fun v1 hv1 => ?_)
  walk_at "go"
  refine m_ix hv1 (n := r) rfl (by rw [List.getElem?_map, hr]; rfl) (fun y hy => ?_)
  obtain ⟨ra, rfl, hra⟩ := row_tup hy
  walk_at "go"
  refine g_ixT (SqT.of hra) (n := 0) rfl row_kd ?_
  walk_at "go"
  refine ⟨fun σ' H' => ∃ (w : Nat) (b : Bool) (o8 : Option V), σ' = [some code, some (.int (r : Int)), some (.ref ma), some (.ref ra), some (.str row.kd), none, some (.int (w : Int)), some (.bl b), o8, none] ∧ Same H H' ∧ w < 16 ∧ wrP rgs p row = some (w, b), ?_, ?_⟩
  · cases row with
    | const d n =>
      have hra : H ra = some (.tup [.str "const", .int d, .int n]) := hra
      dsimp only [Row.kd]
      walk_at "go"
      refine ⟨by show 2 ≤ sizeLine; decide, fun t ht => ?_⟩
      have htt : upd H t (.tup [.int (d : Int), .bl true]) t = some (.tup [.int (d : Int), .bl true]) := upd_same
      walk_at "go"
      exact ⟨d, true, _, rfl, Same.new ht, ro.1, rfl⟩
    | op s d a b =>
      have hra : H ra = some (.tup [.str "op", .str s.s, .int d, .int a, .int b]) := hra
      dsimp only [Row.kd]
      walk_at "go"
      refine k_inM hma ro.2.1 ?_
      walk_at "go"
      have fin : ∀ t, H t = none → (fun σ' H' => ∃ (w : Nat) (t : Bool) (o8 : Option V), σ' = [some code, some (.int (r : Int)), some (.ref ma), some (.ref ra), some (.str (Row.kd (.op s d a b))), none, some (.int (w : Int)), some (.bl t), o8, none] ∧ Same H H' ∧ w < 16 ∧ wrP rgs p (.op s d a b) = some (w, t)) [some code, some (.int (r : Int)), some (.ref ma), some (.ref ra), some (.str (Row.kd (.op s d a b))), none, some (.int (d : Int)), some (.bl (p a && p b)), none, none] (upd H t (.tup [.int (d : Int), .bl (p a && p b)])) := fun t ht => ⟨d, _, _, rfl, Same.new ht, ro.1, rfl⟩
      refine g_ifB (fun c1 => ?_) (fun c1 => ?_)
      · walk_at "go"
        refine k_inM hma ro.2.2.1 ?_
        walk_at "go"
        rw [c1, Bool.true_and] at fin
        refine ⟨by show 2 ≤ sizeLine; decide, fun t ht => ?_⟩
        have htt : upd H t (.tup [.int (d : Int), .bl (p b)]) t = some (.tup [.int (d : Int), .bl (p b)]) := upd_same
        walk_at "go"
        exact fin t ht
      · walk_at "go"
        rw [c1, Bool.false_and] at fin
        refine ⟨by show 2 ≤ sizeLine; decide, fun t ht => ?_⟩
        have htt : upd H t (.tup [.int (d : Int), .bl false]) t = some (.tup [.int (d : Int), .bl false]) := upd_same
        walk_at "go"
        exact fin t ht
    | select d c a b =>
      have hra : H ra = some (.tup [.str "select", .int d, .int c, .int a, .int b]) := hra
      dsimp only [Row.kd]
      walk_at "go"
      refine m_sl hy (fun t H1 s1 ht => ?_)
      have e : cutD [PyData.str "select", nI d, nI c, nI a, nI b] (some 2) none = [nI c, nI a, nI b] := cutD_from (n := 2)
      have ht : Im H1 (.ref t) (.tuple (cutD [PyData.str "select", nI d, nI c, nI a, nI b] (some 2) none)) := ht
      rw [e] at ht
      obtain ⟨t', x1, x2, x3, et, htt, i1, i2, i3⟩ := im3 ht
      cases et
      obtain rfl := i1.int_inv
      obtain rfl := i2.int_inv
      obtain rfl := i3.int_inv
      walk_at "go"
      refine g_seqT (SqT.of htt) ?_
      refine l_boolsT (bs := [p c, p a, p b]) (.inl htt) rfl (by show 3 ≤ 100000; decide) (by intro _; rfl) (fun D i x t2 H2 R hx hb s2 hR => ?_) (fun D H2 s2 hD => ?_)
      · obtain ⟨n, hn, rfl, rfl⟩ := three ro.2.1 ro.2.2.1 ro.2.2.2.1 i x t2 hx hb
        walk_at "go"
        exact k_inM ((hma.same s1).same s2) hn (hR _ (Same.refl _))
      · walk_at "go"
        refine g_all (SqL.of hD) ?_
        have e2 : [p c, p a, p b].all id = (p c && (p a && p b)) := by simp
        rw [e2]
        walk_at "go"
        refine ⟨by show 2 ≤ sizeLine; decide, fun t3 ht3 => ?_⟩
        have ht3' : upd H2 t3 (.tup [.int (d : Int), .bl (p c && (p a && p b))]) t3 = some (.tup [.int (d : Int), .bl (p c && (p a && p b))]) := upd_same
        walk_at "go"
        exact ⟨d, _, _, rfl, Same.new' (s1.trans s2) ht3, ro.1, rfl⟩
    | load d a base mask =>
      have hra : H ra = some (.tup [.str "load", .int d, .int a, .int base, .int mask]) := hra
      dsimp only [Row.kd]
      walk_at "go"
      refine ⟨code, base, mask, rgs, rows, rfl, ic, fun hn => ?_, fun g v hg hv => ?_⟩
      · walk_at "go"
        refine ⟨by show 2 ≤ sizeLine; decide, fun t ht => ?_⟩
        have htt : upd H t (.tup [.int (d : Int), .bl false]) t = some (.tup [.int (d : Int), .bl false]) := upd_same
        walk_at "go"
        refine ⟨d, false, _, rfl, Same.new ht, ro.1, ?_⟩
        show some (d, pubR rgs base mask) = _
        unfold pubR
        rw [hn]
      · obtain ⟨ga, rfl, hga⟩ := im3v hv
        walk_at "go"
        refine ⟨by show 2 ≤ sizeLine; decide, fun t ht => ?_⟩
        have htt : upd H t (.tup [.int (d : Int), .bl (decide (g.l = "public"))]) t = some (.tup [.int (d : Int), .bl (decide (g.l = "public"))]) := upd_same
        walk_at "go"
        refine ⟨d, decide (g.l = "public"), _, rfl, Same.new ht, ro.1, ?_⟩
        show some (d, pubR rgs base mask) = _
        unfold pubR
        rw [hg]
    | _ =>
      dsimp only [Row.kd]
      walk_at "go"
      exact k_tuple iv (hQ H _ (Same.refl H) iv)
  · rintro σ' H1 ⟨w, b, o8, rfl, s1, hw, hwr⟩
    have eb : bhd rgs row p = fun x => if x = w then b else p x := by
      unfold bhd
      rw [hwr]
    have hma1 := hma.same s1
    walk_at "go"
    refine g_seqT hma1.sq ?_
    refine l_filtT (f := fun m => !decide (m = w)) hma1 (Nat.le_trans mL_len (by decide)) (by intro _; rfl) (fun i m H2 QB hm s2 hQB => ?_) (fun m H2 R hR => ?_) (fun D H2 hD1 s2 hD => ?_)
    · walk_at "go"
      have e : (!decide ((m : Int) = (w : Int))) = !decide (m = w) := by
        rw [Bool.eq_iff_iff]
        simp
        omega
      rw [e]
      exact hQB _ (Same.refl _)
    · walk_at "go"
      exact hR
    · have hl : (((mL p).filter fun m => !decide (m = w))).length ≤ 16 := Nat.le_trans (List.length_filter_le _ _) mL_len
      have pm := bhd_perm (p := p) (b := b) hw
      walk_at "go"
      refine g_ifB (fun c => ?_) (fun c => ?_)
      · rw [c, if_pos rfl] at pm
        walk_at "go"
        refine ⟨D, _, _, rfl, rfl, hD, szl (by rw [nV_len]; omega), ?_⟩
        have en : nV ((mL p).filter fun m => !decide (m = w)) ++ [V.int (w : Int)] = nV (((mL p).filter fun m => !decide (m = w)) ++ [w]) := by
          unfold nV
          rw [List.map_append]
          rfl
        rw [en]
        walk_at "go"
        refine k_sortN upd_same (by rw [List.length_append, List.length_singleton]; omega) pm mL_asc (fun q hq => ?_)
        walk_at "go"
        refine m_tupleL (SqL.of upd_same) (ims_nV _) (fun t H3 s3 _ ht => ?_)
        refine hQ _ _ ((s1.trans (Same.new' (Same.mut s2 hD1) hq)).trans s3) ?_
        rw [eb, c]
        exact ht.dk
      · rw [c, if_neg Bool.false_ne_true, List.append_nil] at pm
        walk_at "go"
        refine k_sortN hD (by omega) pm mL_asc (fun q hq => ?_)
        walk_at "go"
        refine m_tupleL (SqL.of upd_same) (ims_nV _) (fun t H3 s3 _ ht => ?_)
        refine hQ _ _ (((s1.trans s2).trans (Same.new hq)).trans s3) ?_
        rw [eb, c]
        exact ht.dk


/-! ### ways, members, papers that hold -/
def sp_ways (K : PySem.W.Frag) : Sp := fun vs H Q _ => ∃ (code : V) (r : Nat) (rgs : List Rg) (rows : List Row) (row : Row), vs = [code, .int (r : Int)] ∧ Im H code (codeD rgs rows) ∧ rows[r]? = some row ∧ ∀ H' x, Same H H' → Im H' x (nD (waysR r row)) → Q x H'
theorem mk2 {a b : Int} {x y : V} : mergeK ([] : List (Key × V)) [(.inl a, x), (.inl b, y)] = if a = b then [(.inl a, y)] else [(.inl a, x), (.inl b, y)] := by
  have h1 : putK ([] : List (Key × V)) (.inl a) x = [(.inl a, x)] := putK_new _ rfl
  unfold mergeK
  simp only [List.foldl_cons, List.foldl_nil]
  rw [h1]
  by_cases h : a = b
  · subst h
    rw [if_pos rfl]
    unfold putK
    rw [valV_any]
    have e : valV [((Sum.inl a : Key), x)] (.inl a) = some x := valV_pos rfl
    rw [e]
    simp
  · rw [if_neg h]
    have e : valV [((Sum.inl a : Key), x)] (.inl b) = none := by
      rw [valV_neg (fun e => h (Sum.inl.inj e))]
      rfl
    exact putK_new _ e
theorem ims_1 {H : Hp} {n : Nat} {i : Int} (e : i = (n : Int)) : Ims H [V.int i] (nDs [n]) := by
  subst e
  exact .cons (.int _) .nil
theorem sc_ways : FnScope ["code", "r", "row"] ["code", "r"] (defScope (topS 28)) := ⟨rfl, rfl, rfl, by decide +kernel, rfl, by decide +kernel, by decide +kernel⟩
theorem ok_ways (T : Txt fa fn K mg (XOk cs xcs K w)) : Dn P w K mg base CX0 1 "ways" ["code", "r"] (sp_ways K) := by
  refine mk_dn (d := dOf "ways" 28) T 11 11 rfl rfl rfl rfl rfl sc_ways (by walk_at "len") (fun _ _ _ _ _ _ us hl => match us, hl with | [_, _], _ => rfl) (fun cdv A outer s H vs Q E hr h => ⟨_, (pss_cons (ps_set (i := 2) sc_ways.nd rfl (.inl rfl) (pe_ixU (K := K) rfl (hu_of hr) (pe_ixU (K := K) rfl (hu_of hr) (pv 0) pe_int) (pv 1)))
      (pss_cons (ps_if (pt_cmpR (op_eqU (K := K) rfl hr.units) (pe_ixU (K := K) rfl (hu_of hr) (pv 2) pe_int) pe_str (nomark _)) (pss_one (ps_ret (pe_tup pa_nil))) pss_nil)
      (pss_cons (ps_if (pt_cmpR (op_eqU (K := K) rfl hr.units) (pe_ixU (K := K) rfl (hu_of hr) (pv 2) pe_int) pe_str (nomark _)) (pss_one (ps_ret (pe_tup (pa_cons (pe_ixU (K := K) rfl (hu_of hr) (pv 2) pe_int) pa_nil)))) pss_nil)
      (pss_cons (ps_if (pt_cmpR (op_eqU (K := K) rfl hr.units) (pe_ixU (K := K) rfl (hu_of hr) (pv 2) pe_int) pe_str (nomark _)) (pss_one (ps_ret (pe_callTy (c_tuple (K := K) rfl) rfl (T.free 136 rfl) (by decide +kernel) (pa_cons (pe_callB (c_sortDI rfl) rfl (T.free 134 rfl) (by decide +kernel) (pa_cons (pe_disp (pps_cons (pe_op (op_addU (K := K) rfl) (pv 1) pe_int) pe_bl (pps_cons (pe_ixU (K := K) rfl (hu_of hr) (pv 2) pe_int) pe_bl pps_nil)) (by rfl) (by rfl) (fun z => by cases z) (by decide)) pa_nil)) pa_nil)))) pss_nil)
      (pss_one (ps_ret (pe_tup (pa_cons (pe_op (op_addU (K := K) rfl) (pv 1) pe_int) pa_nil)))))))), ?_⟩)
  obtain ⟨code, r, rgs, rows, row, rfl, ic, hr, hQ⟩ := h
  walk_at "go"
  refine m_ix ic (n := 1) rfl rfl (fun v1 hv1 => ?_)
  walk_at "go"
  refine m_ix hv1 (n := r) rfl (by rw [List.getElem?_map, hr]; rfl) (fun y hy => ?_)
  obtain ⟨ra, rfl, hra⟩ := row_tup hy
  walk_at "go"
  refine g_ixT (SqT.of hra) (n := 0) rfl row_kd ?_
  cases row with
  | stop a =>
    dsimp only [Row.kd]
    walk_at "go"
    exact m_new .nil (by decide) (fun p H1 s1 _ hp => hQ H1 _ s1 hp)
  | jump t =>
    have hra : H ra = some (.tup [.str "jump", .int t]) := hra
    dsimp only [Row.kd]
    walk_at "go"
    exact m_new (ims_1 rfl) (by show 1 ≤ 100000; decide) (fun p H1 s1 _ hp => hQ H1 _ s1 hp)
  | branch a t =>
    have hra : H ra = some (.tup [.str "branch", .int a, .int t]) := hra
    dsimp only [Row.kd]
    walk_at "go"
    intro q hq
    have hra1 := (Same.new (o := .dK []) hq) _ _ hra
    walk_at "go"
    refine ⟨upd_same, [(.inl ((r : Int) + 1), .bl true), (.inl (t : Int), .bl true)], rfl, by show 2 ≤ 15; decide, ?_⟩
    rw [mk2]
    walk_at "go"
    by_cases h1 : (r : Int) + 1 = (t : Int)
    · have e : waysR r (.branch a t) = [t] := if_pos (by omega)
      rw [e] at hQ
      rw [if_pos h1, upd_upd]
      refine ⟨q, [(.inl ((r : Int) + 1), .bl true)], [(r : Int) + 1], rfl, Rd.of upd_same, rfl, by show 1 < 64; decide, fun ys u pm _ hu => ?_⟩
      obtain rfl := List.perm_singleton.mp pm
      walk_at "go"
      refine m_tupleL (SqL.of upd_same) (ims_1 h1) (fun z H3 s3 _ hz => hQ _ _ ((Same.new' (Same.new hq) hu).trans s3) hz)
    · rw [if_neg h1, upd_upd]
      refine ⟨q, [(.inl ((r : Int) + 1), .bl true), (.inl (t : Int), .bl true)], [(r : Int) + 1, (t : Int)], rfl, Rd.of upd_same, rfl, by show 2 < 64; decide, fun ys u pm asc hu => ?_⟩
      have e : ys.map V.int = nV (waysR r (.branch a t)) := by
        have hw : waysR r (.branch a t) = if r + 1 < t then [r + 1, t] else [t, r + 1] := if_neg (by omega)
        rw [hw, nV_ints]
        congr 1
        refine sorted_eq (pm.trans ?_) asc ?_
        · split
          · exact List.Perm.refl _
          · exact List.Perm.swap _ _ _
        · split <;> simp <;> omega
      rw [e]
      walk_at "go"
      refine m_tupleL (SqL.of upd_same) (ims_nV _) (fun z H3 s3 _ hz => hQ _ _ ((Same.new' (Same.new hq) hu).trans s3) hz)
  | _ =>
    dsimp only [Row.kd]
    have hra := hra
    simp only [Row.v] at hra
    walk_at "go"
    exact m_new (ims_1 (n := r + 1) (by omega)) (by show 1 ≤ 100000; decide) (fun p H1 s1 _ hp => hQ H1 _ s1 hp)
def ltD : PyData → PyData → Bool
  | .int a, .int b => decide (a < b)
  | _, _ => false
def ascD (ds : List PyData) : Bool := (List.range (ds.length - 1)).all fun i => ltD (ds.getD i .none) (ds.getD (i + 1) .none)
def isMemD : PyData → Bool
  | .tuple ds => (ds.all fun d => isI d && !isB d) && ((ds.all (numD 0 15)) && ascD ds)
  | _ => false
def papD (P : Nat → Mb) (n : Nat) : PyData := .tuple ((List.range n).map fun r => mD (P r))
theorem ascD_nDs {l : List Nat} : ascD (nDs l) = true ↔ l.Pairwise (· < ·) := by
    unfold ascD
    rw [List.all_eq_true, show (nDs l).length = l.length from List.length_map _]
    have at_ : ∀ i, (hi : i < l.length) → (nDs l).getD i .none = .int ((l[i] : Nat) : Int) := fun i hi => by
      unfold nDs
      rw [List.getD_eq_getElem?_getD, List.getElem?_map, List.getElem?_eq_getElem hi]
      rfl
    constructor
    · intro h
      have adj : ∀ i, (hi : i + 1 < l.length) → l[i] < l[i + 1] := fun i hi => by
        have := h i (List.mem_range.mpr (by omega))
        rw [at_ i (by omega), at_ (i + 1) hi] at this
        have := of_decide_eq_true (show decide (((l[i] : Nat) : Int) < ((l[i + 1] : Nat) : Int)) = true from this)
        omega
      rw [List.pairwise_iff_getElem]
      intro i j hi hj hij
      have key : ∀ k, (hk : i + 1 + k < l.length) → l[i] < l[i + 1 + k] := fun k => by
        induction k with
        | zero => intro hk; exact adj i hk
        | succ k ih =>
          intro hk
          have := ih (by omega)
          have h2 := adj (i + 1 + k) hk
          exact Nat.lt_trans this h2
      have := key (j - (i + 1)) (by omega)
      have e : i + 1 + (j - (i + 1)) = j := by omega
      simp only [e] at this
      exact this
    · intro h i hi
      have hi := List.mem_range.mp hi
      rw [at_ i (by omega), at_ (i + 1) (by omega)]
      show decide (((l[i] : Nat) : Int) < ((l[i + 1] : Nat) : Int)) = true
      rw [decide_eq_true_eq]
      have := List.pairwise_iff_getElem.mp h i (i + 1) (by omega) (by omega) (by omega)
      omega
theorem mem_nDs : ∀ {ds : List PyData}, (∀ d ∈ ds, numD 0 15 d = true) → ∃ l : List Nat, ds = nDs l ∧ ∀ x ∈ l, x < 16
  | [], _ => ⟨[], rfl, by simp⟩
  | d :: ds, h => by
    obtain ⟨l, rfl, hl⟩ := mem_nDs fun x hx => h x (List.mem_cons_of_mem _ hx)
    obtain ⟨i, rfl, h0, h1⟩ := num_inv (h d List.mem_cons_self)
    refine ⟨i.toNat :: l, ?_, fun x hx => ?_⟩
    · show PyData.int i :: nDs l = PyData.int ((i.toNat : Nat) : Int) :: nDs l
      rw [Int.toNat_of_nonneg h0]
    · rcases List.mem_cons.mp hx with rfl | hx
      · omega
      · exact hl x hx
theorem mem_iff {d : PyData} : isMemD d = true ↔ ∃ p, d = mD p := by
  constructor
  · intro h
    cases d <;> first | (cases h; done) | skip
    rename_i ds
    have h : ((ds.all fun d => isI d && !isB d) && ((ds.all (numD 0 15)) && ascD ds)) = true := h
    rw [Bool.and_eq_true, Bool.and_eq_true] at h
    obtain ⟨l, rfl, hl⟩ := mem_nDs (List.all_eq_true.mp h.2.1)
    exact ⟨_, by show PyData.tuple (nDs l) = PyData.tuple (nDs _); rw [← asc_mL (ascD_nDs.mp h.2.2) hl]⟩
  · rintro ⟨p, rfl⟩
    show (((nDs (mL p)).all fun d => isI d && !isB d) && (((nDs (mL p)).all (numD 0 15)) && ascD (nDs (mL p)))) = true
    rw [ascD_nDs.mpr mL_asc, Bool.and_eq_true, Bool.and_eq_true, List.all_eq_true, List.all_eq_true]
    refine ⟨fun d hd => ?_, fun d hd => ?_, rfl⟩
    · obtain ⟨n, _, rfl⟩ := List.mem_map.mp hd
      rfl
    · obtain ⟨n, hn, rfl⟩ := List.mem_map.mp hd
      have := (mL_mem.mp hn).1
      exact num_of (by omega) (by omega)
def sp_is_member (K : PySem.W.Frag) : Sp := fun vs H Q _ => ∃ (x : V) (d : PyData), vs = [x] ∧ Dk K H x d ∧ Wd 50000 3 d ∧ ∀ H', Same H H' → Q (.bl (isMemD d)) H'
theorem wd_len {n k : Nat} {ds : List PyData} (h : Wd n (k + 1) (.tuple ds)) : ds.length ≤ n ∧ ∀ x ∈ ds, Wd n k x := h
theorem sc_is_member : FnScope ["thing", "one", "other"] ["thing"] (defScope (topS 29)) := ⟨rfl, rfl, rfl, by decide +kernel, rfl, by decide +kernel, by decide +kernel⟩
theorem ok_is_member (T : Txt fa fn K mg (XOk cs xcs K w)) : Dn P w K mg base CX0 1 "is_member" ["thing"] (sp_is_member K) := by
  refine mk_dn (d := dOf "is_member" 29) T 12 12 rfl rfl rfl rfl rfl sc_is_member (by walk_at "len") (fun _ _ _ _ _ _ us hl => match us, hl with | [_], _ => rfl) (fun cdv A outer s H vs Q E hr h => ⟨_, (pss_cons (ps_if (pt_not (pt_tru (K := K) rfl (pe_callB (c_isi (K := K) rfl) rfl (T.free 127 rfl) (by decide +kernel) (pa_cons (pv 0) (pa_cons (pe_bltn (v := .ty "tuple") rfl (T.free 136 rfl) (by decide +kernel) rfl) pa_nil))))) (pss_one (ps_ret pe_bl)) pss_nil)
      (pss_cons (ps_if (pt_not (pt_tru (K := K) rfl (pe_callB (c_all (K := K) rfl rfl) rfl (T.free 123 rfl) (by decide +kernel) (pa_cons (pe_lc rfl sc_is_member.nd (pi_seq (K := K) rfl (pv 0)) (blkOk_by (own := [("one", 1)]) (N := ["thing", "one", "other"]) (sc := defScope (topS 29)) (by decide +kernel)) (fun _ _ _ _ _ => (pg_name (i := 1) sc_is_member.nd rfl (.inl rfl))) (fun _ _ _ _ _ => pts_nil) (fun _ _ _ _ _ => (pe_and (pe_callB (c_isi (K := K) rfl) rfl (T.free 127 rfl) (by decide +kernel) (pa_cons (pv 1) (pa_cons (pe_bltn (v := .ty "int") rfl (T.free 126 rfl) (by decide +kernel) rfl) pa_nil))) (pe_one (pe_not (pe_callB (c_isi (K := K) rfl) rfl (T.free 127 rfl) (by decide +kernel) (pa_cons (pv 1) (pa_cons (pe_bltn (v := .ty "bool") rfl (T.free 124 rfl) (by decide +kernel) rfl) pa_nil)))))))) pa_nil)))) (pss_one (ps_ret pe_bl)) pss_nil)
      (pss_cons (ps_if (pt_not (pt_tru (K := K) rfl (pe_callB (c_all (K := K) rfl rfl) rfl (T.free 123 rfl) (by decide +kernel) (pa_cons (pe_lc rfl sc_is_member.nd (pi_seq (K := K) rfl (pv 0)) (blkOk_by (own := [("one", 1)]) (N := ["thing", "one", "other"]) (sc := defScope (topS 29)) (by decide +kernel)) (fun _ _ _ _ _ => (pg_name (i := 1) sc_is_member.nd rfl (.inl rfl))) (fun _ _ _ _ _ => pts_nil) (fun _ _ _ _ _ => (pe_chain o_le o_lt pe_int (pv 1) (pe_gint T rfl 139 rfl rfl)))) pa_nil)))) (pss_one (ps_ret pe_bl)) pss_nil)
      (pss_one (ps_ret (pe_callB (c_all (K := K) rfl rfl) rfl (T.free 123 rfl) (by decide +kernel) (pa_cons (pe_lc rfl sc_is_member.nd (pi_zipU (K := K) rfl rfl (T.free 137 rfl) (pa_cons (pv 0) (pa_cons (pe_slice (sl_U (K := K) rfl) (pv 0) (po_some pe_int) po_none) pa_nil))) (blkOk_by (own := [("one", 1), ("other", 2)]) (N := ["thing", "one", "other"]) (sc := defScope (topS 29)) (by decide +kernel)) (fun _ _ _ _ _ => (pg_tupU (K := K) (n := 2) rfl rfl (pgs_cons (pg_name (i := 1) sc_is_member.nd rfl (.inl rfl) (.inr rfl)) (pgs_cons (pg_name (i := 2) sc_is_member.nd rfl (.inl rfl) (.inr rfl)) pgs_nil)))) (fun _ _ _ _ _ => pts_nil) (fun _ _ _ _ _ => (pe_cmpR o_lt (pv 1) (pv 2) (nomark _)))) pa_nil))))))), ?_⟩)
  obtain ⟨x, d, rfl, hx, wd, hQ⟩ := h
  walk_at "go"
  refine k_isiU hx ?_
  walk_at "go"
  refine g_ifBn (fun c => ?_) (fun c => ?_)
  · walk_at "go"
    have e : isMemD d = false := by cases d <;> first | rfl | cases c
    rw [← e]
    exact hQ _ (Same.refl H)
  obtain ⟨ds, rfl⟩ := isT_inv c
  obtain ⟨hl, _⟩ := wd_len wd
  obtain ⟨a, xs, rfl, ha, hxs⟩ := hx.tup_inv
  have hlen := hxs.length
  have get : ∀ {i : Nat} {y : V} {f : PyData → Bool} {b : Bool}, xs[i]? = some y → (ds.map f)[i]? = some b → ∃ e, ds[i]? = some e ∧ b = f e ∧ Dk K H y e := fun {i y f b} hy hb => by
    rw [List.getElem?_map] at hb
    obtain ⟨e, he, rfl⟩ := Option.map_eq_some_iff.mp hb
    obtain ⟨y', hy', hd⟩ := hxs.get he
    rw [hy] at hy'
    cases hy'
    exact ⟨e, he, rfl, hd⟩
  walk_at "go"
  refine g_seqT ha.sq ?_
  refine l_boolsT (bs := ds.map fun d => isI d && !isB d) ha (by rw [List.length_map]; exact hlen) (by rw [List.length_map]; omega) (by intro _; rfl) (fun D i y b H1 R hy hb s1 hR => ?_) (fun D H1 s1 hD => ?_)
  · obtain ⟨e, he, rfl, hye⟩ := get hy hb
    have hye := hye.same s1
    walk_at "go"
    refine k_isiI hye ?_
    walk_at "go"
    refine g_ifB (fun c1 => ?_) (fun c1 => ?_)
    · walk_at "go"
      refine k_isiB hye ?_
      walk_at "go"
      rw [c1, Bool.true_and] at hR
      exact hR _ (Same.refl _)
    · walk_at "go"
      rw [c1, Bool.false_and] at hR
      exact hR _ (Same.refl _)
  walk_at "go"
  refine g_all (SqL.of hD) ?_
  rw [List.all_map]
  walk_at "go"
  have e0 : ∀ p : Bool, (ds.all fun d => isI d && !isB d) = p → isMemD (.tuple ds) = (p && ((ds.all (numD 0 15)) && ascD ds)) := fun p h => by
    show ((ds.all fun d => isI d && !isB d) && _) = _
    rw [h]
  refine g_ifBn (fun c1 => ?_) (fun c1 => ?_)
  · walk_at "go"
    have e : isMemD (.tuple ds) = false := by
      rw [e0 false c1]
      rfl
    rw [← e]
    exact hQ _ s1
  have hint : ∀ d ∈ ds, ∃ i, d = .int i := fun d hd => by
    have := List.all_eq_true.mp c1 d hd
    cases d <;> first | exact ⟨_, rfl⟩ | cases this
  have e1 := e0 true c1
  rw [Bool.true_and] at e1
  rw [e1] at hQ
  walk_at "go"
  have ha1 := ha.same s1
  refine g_seqT ha1.sq ?_
  refine l_boolsT (bs := ds.map (numD 0 15)) ha1 (by rw [List.length_map]; exact hlen) (by rw [List.length_map]; omega) (by intro _; rfl) (fun D2 i y b H2 R hy hb s2 hR => ?_) (fun D2 H2 s2 hD2 => ?_)
  · obtain ⟨e, he, rfl, hye⟩ := get hy hb
    obtain ⟨z, rfl⟩ := hint e (List.mem_of_getElem? he)
    obtain rfl := hye.int_inv
    have en : numD 0 15 (.int z) = (decide (0 ≤ z) && decide (z < 16)) := by
      show (decide (0 ≤ z) && decide (z ≤ 15)) = _
      congr 1
      rw [Bool.eq_iff_iff, decide_eq_true_eq, decide_eq_true_eq]
      omega
    rw [en] at hR
    walk_at "go"
    refine g_if (fun c2 => ?_) (fun c2 => ?_)
    · rw [decide_eq_true c2, Bool.true_and] at hR
      walk_at "go"
      exact hR _ (Same.refl _)
    · rw [decide_eq_false c2, Bool.false_and] at hR
      walk_at "go"
      exact hR _ (Same.refl _)
  walk_at "go"
  refine g_all (SqL.of hD2) ?_
  rw [List.all_map]
  walk_at "go"
  have s12 := s1.trans s2
  refine g_ifBn (fun c2 => ?_) (fun c2 => ?_)
  · walk_at "go"
    have c2 : ds.all (numD 0 15) = false := c2
    rw [c2, Bool.false_and] at hQ
    exact hQ _ s12
  have c2 : ds.all (numD 0 15) = true := c2
  rw [c2, Bool.true_and] at hQ
  walk_at "go"
  have hx2 : Dk K H2 (.ref a) (.tuple ds) := hx.same s12
  refine k_from hx2 (n := 1) rfl (fun y H3 s3 hy => ?_)
  obtain ⟨b, ys, rfl, hb, hys⟩ := hy.tup_inv
  have hyl := hys.length
  rw [List.length_drop] at hyl
  have ha3 := ha.same (s12.trans s3)
  walk_at "go"
  refine ⟨a, b, xs, ys, rfl, .inr ⟨ha3.sq, hb.sq, ?_⟩⟩
  refine l_zipB (n := ds.length - 1) (bs := (List.range (ds.length - 1)).map fun i => ltD (ds.getD i .none) (ds.getD (i + 1) .none)) ha3 hb (by omega) (by omega) (by omega) (by rw [List.length_map, List.length_range]) (by omega) (fun i u v c Tp H4 R hu hv hc s4 hT hR => ?_) ?_ (fun D4 H4 s4 hD4 => ?_)
  · have hil : i < ds.length - 1 := by
      have := (List.getElem?_eq_some_iff.mp hc).1
      rw [List.length_map, List.length_range] at this
      exact this
    rw [List.getElem?_map, List.getElem?_range hil] at hc
    have hc : ltD (ds.getD i .none) (ds.getD (i + 1) .none) = c := Option.some.inj hc
    have g1 : ds[i]? = some (ds.getD i .none) := by rw [List.getD_eq_getElem?_getD, List.getElem?_eq_getElem (by omega)]; rfl
    have g2 : (ds.drop 1)[i]? = some (ds.getD (i + 1) .none) := by rw [List.getElem?_drop, Nat.add_comm, List.getD_eq_getElem?_getD, List.getElem?_eq_getElem (by omega)]; rfl
    generalize ds.getD i .none = d1 at g1 hc
    generalize ds.getD (i + 1) .none = d2 at g2 hc
    obtain ⟨u', hu', hd1⟩ := hxs.get g1
    rw [hu] at hu'
    cases hu'
    obtain ⟨v', hv', hd2⟩ := hys.get g2
    rw [hv] at hv'
    cases hv'
    obtain ⟨z1, rfl⟩ := hint d1 (List.mem_of_getElem? g1)
    obtain ⟨z2, rfl⟩ := hint d2 (List.mem_of_mem_drop (List.mem_of_getElem? g2))
    obtain rfl := hd1.int_inv
    obtain rfl := hd2.int_inv
    subst hc
    walk_at "go"
    exact hR _ (Same.refl _)
  · intro y σ1 H1 R R' hh h
    obtain ⟨a, xs, e, h1, h2, h3⟩ := h
    refine ⟨a, xs, e, h1, h2, ?_⟩
    obtain ⟨v1, r1, e1, h3⟩ := h3
    refine ⟨v1, r1, e1, ?_⟩
    obtain ⟨v2, r2, e2, h3⟩ := h3
    exact ⟨v2, r2, e2, h3.1, hh _ _ h3.2⟩
  · walk_at "go"
    refine g_all (SqL.of hD4) ?_
    rw [List.all_map]
    exact hQ _ ((s12.trans s3).trans s4)


/-! ### holds, the greatest paper -/
def Hold (rgs : List Rg) (rows : List Row) (P : Nat → Mb) : Prop := ∀ (r : Nat) (row : Row), rows[r]? = some row → ∀ w ∈ waysR r row, ∀ x, x < 16 → P w x = true → bhd rgs row (P r) x = true
def Grt (rgs : List Rg) (rows : List Row) (P : Nat → Mb) : Prop := Hold rgs rows P ∧ ∀ P', Hold rgs rows P' → ∀ r x, r < rows.length → x < 16 → P' r x = true → P r x = true
section
variable {rgs : List Rg} {rows : List Row} {P P' : Nat → Mb} {n r : Nat} {ds : List PyData} {p q : Mb} {row : Row}
theorem bhd_ext (h : ∀ x, x < 16 → p x = q x) (hr : RowOkD n r row) : ∀ x, x < 16 → bhd rgs row p x = bhd rgs row q x := fun x hx => by
  unfold bhd
  cases row with
  | op s d a b =>
    show (if x = d then (p a && p b) else p x) = if x = d then (q a && q b) else q x
    rw [h a hr.2.1, h b hr.2.2.1, h x hx]
  | select d c a b =>
    show (if x = d then (p c && (p a && p b)) else p x) = if x = d then (q c && (q a && q b)) else q x
    rw [h a hr.2.2.1, h b hr.2.2.2.1, h c hr.2.1, h x hx]
  | const d k =>
    show (if x = d then true else p x) = if x = d then true else q x
    rw [h x hx]
  | load d a b m =>
    show (if x = d then pubR rgs b m else p x) = if x = d then pubR rgs b m else q x
    rw [h x hx]
  | _ => exact h x hx
/-- more is public behind a row where more is ahead of it -/
theorem bhd_mono (h : ∀ x, x < 16 → p x = true → q x = true) (hr : RowOkD n r row) : ∀ x, x < 16 → bhd rgs row p x = true → bhd rgs row q x = true := fun x hx => by
  unfold bhd
  cases row with
  | op s d a b =>
    show (if x = d then (p a && p b) else p x) = true → (if x = d then (q a && q b) else q x) = true
    split
    · rw [Bool.and_eq_true, Bool.and_eq_true]
      exact fun z => ⟨h _ hr.2.1 z.1, h _ hr.2.2.1 z.2⟩
    · exact h x hx
  | select d c a b =>
    show (if x = d then (p c && (p a && p b)) else p x) = true → (if x = d then (q c && (q a && q b)) else q x) = true
    split
    · simp only [Bool.and_eq_true]
      exact fun z => ⟨h _ hr.2.1 z.1, h _ hr.2.2.1 z.2.1, h _ hr.2.2.2.1 z.2.2⟩
    · exact h x hx
  | const d k =>
    show (if x = d then true else p x) = true → (if x = d then true else q x) = true
    split
    · exact fun z => z
    · exact h x hx
  | load d a b m =>
    show (if x = d then pubR rgs b m else p x) = true → (if x = d then pubR rgs b m else q x) = true
    split
    · exact fun z => z
    · exact h x hx
  | _ => exact h x hx
theorem pap_at (h : r < n) : ((List.range n).map fun r => mD (P r))[r]? = some (mD (P r)) := by
  rw [List.getElem?_map, List.getElem?_range h]
  rfl
theorem papD_inj (h : papD P n = papD P' n) : ∀ r x, r < n → x < 16 → P r x = P' r x := fun r x hr hx => by
  have h1 := PyData.tuple.inj h
  have h2 := pap_at (P := P) hr
  rw [h1, pap_at hr] at h2
  have h3 := PyData.tuple.inj (Option.some.inj h2)
  exact (mL_inj (nDs_inj h3) x hx).symm
theorem Hold.congr (h : Hold rgs rows P) (jo : JOk rows) (e : ∀ r x, r < rows.length → x < 16 → P r x = P' r x) : Hold rgs rows P' := fun r row hr w hw x hx hp => by
  have ro := jo.r r row hr
  have hrl := (List.getElem?_eq_some_iff.mp hr).1
  rw [← e w x (waysR_lt ro hw) hx] at hp
  rw [← bhd_ext (fun x hx => e r x hrl hx) ro x hx]
  exact h r row hr w hw x hx hp
theorem pap_of (h : ∀ d ∈ ds, isMemD d = true) : ∃ P : Nat → Mb, ds = (List.range ds.length).map fun r => mD (P r) := by
  have h1 : ∀ r : Nat, ∃ p : Mb, ∀ d, ds[r]? = some d → d = mD p := fun r => by
    cases e : ds[r]? with
    | none => exact ⟨fun _ => false, fun d hd => by cases hd⟩
    | some d =>
      obtain ⟨p, hp⟩ := mem_iff.mp (h d (List.mem_of_getElem? e))
      exact ⟨p, fun d' hd => by rw [← Option.some.inj hd]; exact hp⟩
  obtain ⟨P, hP⟩ := Classical.axiomOfChoice h1
  refine ⟨P, List.ext_getElem? fun i => ?_⟩
  by_cases hi : i < ds.length
  · rw [pap_at hi, List.getElem?_eq_getElem hi]
    exact congrArg some (hP i _ (List.getElem?_eq_getElem hi))
  · rw [List.getElem?_eq_none (by omega), List.getElem?_eq_none (by rw [List.length_map, List.length_range]; omega)]
end
def sp_holds (K : PySem.W.Frag) : Sp := fun vs H Q _ => ∃ (code x : V) (rgs : List Rg) (rows : List Row) (d : PyData), vs = [code, x] ∧ Im H code (codeD rgs rows) ∧ JOk rows ∧ Dk K H x d ∧ Wd 50000 4 d ∧
  ∀ H' b, Same H H' → (b = true ↔ ∃ P, d = papD P rows.length ∧ Hold rgs rows P) → Q (.bl b) H'
theorem sc_holds : FnScope ["code", "paper", "r", "behind", "way", "member", "one"] ["code", "paper"] (defScope (topS 30)) := ⟨rfl, rfl, rfl, by decide +kernel, rfl, by decide +kernel, by decide +kernel⟩
theorem ok_holds (T : Txt fa fn K mg (XOk cs xcs K w)) : Dn P w K mg base CX0 3 "holds" ["code", "paper"] (sp_holds K) := by
  refine mk_dn (d := dOf "holds" 30) T 13 13 rfl rfl rfl rfl rfl sc_holds (by walk_at "len") (fun _ _ _ _ _ _ us hl => match us, hl with | [_, _], _ => rfl) (fun cdv A outer s H vs Q E hr h => ⟨_, (pss_cons (ps_if (PW.pt (pw_or (pt_not (pt_tru (K := K) rfl (pe_callB (c_isi (K := K) rfl) rfl (T.free 127 rfl) (by decide +kernel) (pa_cons (pv 1) (pa_cons (pe_bltn (v := .ty "tuple") rfl (T.free 136 rfl) (by decide +kernel) rfl) pa_nil))))) (pw_or1 (pt_cmpR (op_neU (K := K) rfl hr.units) (pe_callB (c_len (K := K) rfl) rfl (T.free 128 rfl) (by decide +kernel) (pa_cons (pv 1) pa_nil)) (pe_callB (c_len (K := K) rfl) rfl (T.free 128 rfl) (by decide +kernel) (pa_cons (pe_ixU (K := K) rfl (hu_of hr) (pv 0) pe_int) pa_nil)) (nomark _))))) (pss_one (ps_ret pe_bl)) pss_nil)
      (pss_cons (ps_if (pt_not (pt_tru (K := K) rfl (pe_callB (c_all (K := K) rfl rfl) rfl (T.free 123 rfl) (by decide +kernel) (pa_cons (pe_lc rfl sc_holds.nd (pi_seq (K := K) rfl (pv 1)) (blkOk_by (own := [("member", 5)]) (N := ["code", "paper", "r", "behind", "way", "member", "one"]) (sc := defScope (topS 30)) (by decide +kernel)) (fun _ _ _ _ _ => (pg_name (i := 5) sc_holds.nd rfl (.inl rfl))) (fun _ _ _ _ _ => pts_nil) (fun _ _ _ _ _ => (pe_callD (K := K) rfl (ok_is_member T) (hr.mono (by decide)) rfl pass0 (pa_cons (pv 5) pa_nil)))) pa_nil)))) (pss_one (ps_ret pe_bl)) pss_nil)
      (pss_cons (ps_for PassesOwn.never rfl (pi_r1 rfl (T.free 132 rfl) (pa_cons (pe_callB (c_len (K := K) rfl) rfl (T.free 128 rfl) (by decide +kernel) (pa_cons (pv 1) pa_nil)) pa_nil)) (pg_name (i := 2) sc_holds.nd rfl (.inl rfl)) (pss_cons (ps_set (i := 3) sc_holds.nd rfl (.inr rfl) (pe_callD (K := K) rfl (ok_public_behind T) (hr.mono (by decide)) rfl pass0 (pa_cons (pv 0) (pa_cons (pv 2) (pa_cons (pe_ixU (K := K) rfl (hu_of hr) (pv 1) (pv 2)) pa_nil)))))
      (pss_one (ps_for PassesOwn.never rfl (pi_seq (K := K) rfl (pe_callD (K := K) rfl (ok_ways T) (hr.mono (by decide)) rfl pass0 (pa_cons (pv 0) (pa_cons (pv 2) pa_nil)))) (pg_name (i := 4) sc_holds.nd rfl (.inl rfl)) (pss_one (ps_if (pt_not (pt_tru (K := K) rfl (pe_callB (c_all (K := K) rfl rfl) rfl (T.free 123 rfl) (by decide +kernel) (pa_cons (pe_lc rfl sc_holds.nd (pi_seq (K := K) rfl (pe_ixU (K := K) rfl (hu_of hr) (pv 1) (pv 4))) (blkOk_by (own := [("one", 6)]) (N := ["code", "paper", "r", "behind", "way", "member", "one"]) (sc := defScope (topS 30)) (by decide +kernel)) (fun _ _ _ _ _ => (pg_name (i := 6) sc_holds.nd rfl (.inl rfl))) (fun _ _ _ _ _ => pts_nil) (fun _ _ _ _ _ => (pe_cmpR (op_inU (K := K) rfl (hu65 hr)) (pv 6) (pv 3) (by rfl)))) pa_nil)))) (pss_one (ps_ret pe_bl)) pss_nil))))))
      (pss_one (ps_ret pe_bl))))), ?_⟩)
  obtain ⟨code, x, rgs, rows, d, rfl, ic, jo, hx, wd, hQ⟩ := h
  have ju := jo.u
  have no : ∀ H', Same H H' → (¬ ∃ P, d = papD P rows.length ∧ Hold rgs rows P) → Q (.bl false) H' := fun H' s h => hQ H' false s ⟨(fun e => nomatch e), fun e => absurd e h⟩
  walk_at "go"
  refine k_isiU hx ?_
  walk_at "go"
  refine g_ifBn (fun c => ?_) (fun c => ?_)
  · walk_at "go"
    refine no _ (Same.refl H) ?_
    rintro ⟨P, rfl, _⟩
    cases c
  obtain ⟨ds, rfl⟩ := isT_inv c
  obtain ⟨hl, hwd⟩ := wd_len wd
  walk_at "go"
  refine k_len hx ?_
  walk_at "go"
  refine m_ix ic (n := 1) rfl rfl (fun v1 hv1 => ?_)
  walk_at "go"
  refine m_len hv1 ?_
  rw [List.length_map]
  walk_at "go"
  refine g_ifN (fun c1 => ?_) (fun c1 => ?_)
  · walk_at "go"
    refine no _ (Same.refl H) ?_
    rintro ⟨P, e, _⟩
    have := congrArg List.length (PyData.tuple.inj e)
    rw [List.length_map, List.length_range] at this
    omega
  have hlen : ds.length = rows.length := by omega
  obtain ⟨a, xs, rfl, ha, hxs⟩ := hx.tup_inv
  have hxl := hxs.length
  walk_at "go"
  refine g_seqT ha.sq ?_
  refine l_boolsT (bs := ds.map isMemD) ha (by rw [List.length_map]; exact hxl) (by rw [List.length_map]; omega) (by intro _; rfl) (fun D i y b H1 R hy hb s1 hR => ?_) (fun D H1 s1 hD => ?_)
  · rw [List.getElem?_map] at hb
    obtain ⟨e, he, rfl⟩ := Option.map_eq_some_iff.mp hb
    obtain ⟨y', hy', hd⟩ := hxs.get he
    rw [hy] at hy'
    cases hy'
    walk_at "go"
    exact ⟨y, e, rfl, hd.same s1, hwd e (List.mem_of_getElem? he), fun H2 s2 => hR _ s2⟩
  walk_at "go"
  refine g_all (SqL.of hD) ?_
  rw [List.all_map]
  walk_at "go"
  refine g_ifBn (fun c2 => ?_) (fun c2 => ?_)
  · walk_at "go"
    refine no _ s1 ?_
    rintro ⟨P, e, _⟩
    have c2 : ds.all isMemD = false := c2
    rw [List.all_eq_false] at c2
    obtain ⟨z, hz, hz2⟩ := c2
    rw [PyData.tuple.inj e] at hz
    obtain ⟨r, _, rfl⟩ := List.mem_map.mp hz
    exact hz2 (mem_iff.mpr ⟨_, rfl⟩)
  have c2 : ds.all isMemD = true := c2
  obtain ⟨P, eP⟩ := pap_of (List.all_eq_true.mp c2)
  rw [hlen] at eP
  have hQ2 : ∀ H' b, Same H H' → (b = true ↔ Hold rgs rows P) → Q (.bl b) H' := fun H' b s h => hQ H' b s (h.trans ⟨fun z => ⟨P, by rw [eP]; rfl, z⟩, fun ⟨P', e, z⟩ => z.congr jo fun r x hr hx => (papD_inj (by rw [eP] at e; exact e) r x hr hx).symm⟩)
  clear no
  subst eP
  have hx1 := hx.same s1
  have ic1 := ic.same s1
  walk_at "go"
  refine k_len hx1 ?_
  rw [List.length_map, List.length_range]
  walk_at "go"
  rw [Int.toNat_natCast]
  refine f_range (fun i σ H' => ∃ (o2 o3 o4 : Option V), σ = [some code, some (.ref a), o2, o3, o4, none, none] ∧ Same H H' ∧ ∀ (r : Nat) (row : Row), r < i → rows[r]? = some row → ∀ w ∈ waysR r row, ∀ x, x < 16 → P w x = true → bhd rgs row (P r) x = true) ⟨_, _, _, rfl, s1, by omega⟩ ?_ ?_
  · rintro i σ H2 hi ⟨o2, o3, o4, rfl, s2, hok⟩
    have hrow : rows[i]? = some (rows[i]'hi) := List.getElem?_eq_getElem _
    generalize rows[i]'hi = row at hrow
    have ro := jo.r i row hrow
    have e0 : (0 : Int) + (i : Int) = (i : Int) := by omega
    walk_at "go"
    rw [e0]
    refine k_ix (hx.same s2) (n := i) rfl (pap_at hi) (fun v hv => ?_)
    walk_at "go"
    refine ⟨code, v, i, _, rgs, rows, row, P i, rfl, ic.same s2, hrow, ro, hv, fun H3 u s3 hu => ?_⟩
    obtain ⟨ba, rfl, hba⟩ := nD_at hu
    have s23 := s2.trans s3
    walk_at "go"
    refine ⟨code, i, rgs, rows, row, rfl, ic.same s23, hrow, fun H4 y s4 hy => ?_⟩
    have s24 := s23.trans s4
    refine m_seq hy (fun wa ys ey hwa hys => ?_)
    subst ey
    obtain rfl := dks_nV_inv (K := K) hys.dk
    refine f_tup (xs := nV (waysR i row)) (fun j σ H' => ∃ (o4 : Option V), σ = [some code, some (.ref a), some (.int (i : Int)), some (.ref ba), o4, none, none] ∧ Same H4 H' ∧ ∀ w ∈ (waysR i row).take j, ∀ x, x < 16 → P w x = true → bhd rgs row (P i) x = true) ⟨_, rfl, Same.refl _, by simp⟩ (fun j σ H' _ ⟨_, _, s5, _⟩ => SqT.of (s5 _ _ hwa)) ?_ ?_
    · rintro j y σ H5 hj ⟨o4, rfl, s5, hok2⟩
      have hjl := (List.getElem?_eq_some_iff.mp hj).1
      rw [nV_len] at hjl
      have hw : (waysR i row)[j]? = some ((waysR i row)[j]'hjl) := List.getElem?_eq_getElem _
      generalize (waysR i row)[j]'hjl = w at hw
      rw [nV_at hw] at hj
      cases hj
      have hwn := waysR_lt ro (List.mem_of_getElem? hw)
      have s25 := s24.trans s5
      walk_at "go"
      refine k_ix (hx.same s25) (n := w) rfl (pap_at hwn) (fun v hv => ?_)
      walk_at "go"
      obtain ⟨va, rfl, hva⟩ := nD_at hv
      refine g_seqT hva.sq ?_
      refine l_boolsT (bs := (mL (P w)).map (bhd rgs row (P i))) hva (by rw [nV_len, List.length_map]) (by rw [List.length_map]; exact Nat.le_trans mL_len (by decide)) (by intro _; rfl) (fun D k y b H6 R hy hb s6 hR => ?_) (fun D H6 s6 hD => ?_)
      · rw [List.getElem?_map] at hb
        obtain ⟨m, hm, rfl⟩ := Option.map_eq_some_iff.mp hb
        rw [nV_at hm] at hy
        cases hy
        have hm16 := (mL_mem.mp (List.mem_of_getElem? hm)).1
        walk_at "go"
        exact k_inM ((hba.same (s4.trans s5)).same s6) hm16 (hR _ (Same.refl _))
      · walk_at "go"
        refine g_all (SqL.of hD) ?_
        rw [List.all_map]
        walk_at "go"
        have s26 := s25.trans s6
        refine g_ifBn (fun c3 => ?_) (fun c3 => ?_)
        · walk_at "go"
          refine hQ2 _ false s26 ⟨(fun e => nomatch e), fun hh => ?_⟩
          have c3 : (mL (P w)).all (bhd rgs row (P i)) = false := c3
          rw [List.all_eq_false] at c3
          obtain ⟨m, hm, hm2⟩ := c3
          obtain ⟨h16, hp⟩ := mL_mem.mp hm
          exact absurd (hh i row hrow w (List.mem_of_getElem? hw) m h16 hp) hm2
        · walk_at "go"
          refine ⟨_, rfl, s5.trans s6, fun w' hw' x hx16 hp => ?_⟩
          rw [List.take_add_one, hw] at hw'
          rcases List.mem_append.mp hw' with hw' | hw'
          · exact hok2 w' hw' x hx16 hp
          · have : w' = w := by simpa using hw'
            subst this
            exact List.all_eq_true.mp c3 x (mL_mem.mpr ⟨hx16, hp⟩)
    · rintro σ H5 ⟨o4, rfl, s5, hok2⟩
      rw [nV_len, List.take_length] at hok2
      walk_at "go"
      refine ⟨_, _, _, rfl, s24.trans s5, fun r row' hr hrow' w hw x hx16 hp => ?_⟩
      by_cases hri : r = i
      · subst hri
        rw [hrow] at hrow'
        cases hrow'
        exact hok2 w hw x hx16 hp
      · exact hok r row' (by omega) hrow' w hw x hx16 hp
  · rintro σ H2 ⟨o2, o3, o4, rfl, s2, hok⟩
    walk_at "go"
    exact hQ2 _ true s2 ⟨fun _ => fun r row hr w hw x hx16 hp => hok r row (List.getElem?_eq_some_iff.mp hr).1 hr w hw x hx16 hp, fun _ => rfl⟩
def Sz (P : Nat → Mb) (n : Nat) : Nat := ((List.range n).map fun r => (mL (P r)).length).sum
def updP (P : Nat → Mb) (w : Nat) (q : Mb) : Nat → Mb := fun k => if k = w then q else P k
theorem sum_upd {f : Nat → Nat} {w v : Nat} : ∀ {n : Nat}, w < n → ((List.range n).map fun k => if k = w then v else f k).sum + f w = ((List.range n).map f).sum + v
  | 0, h => absurd h (by omega)
  | n + 1, h => by
    rw [List.range_succ, List.map_append, List.map_append, List.sum_append, List.sum_append]
    simp only [List.map_cons, List.map_nil, List.sum_cons, List.sum_nil, Nat.add_zero]
    by_cases e : n = w
    · subst e
      rw [if_pos rfl]
      have e2 : ((List.range n).map fun k => if k = n then v else f k) = (List.range n).map f := List.map_congr_left fun k hk => by
        have := List.mem_range.mp hk
        rw [if_neg (by omega)]
      rw [e2]
      omega
    · rw [if_neg e]
      have := sum_upd (f := f) (w := w) (v := v) (n := n) (by omega)
      omega
theorem sz_upd {P : Nat → Mb} {w n : Nat} {q : Mb} (h : w < n) : Sz (updP P w q) n + (mL (P w)).length = Sz P n + (mL q).length := by
  have z := sum_upd (f := fun r => (mL (P r)).length) (w := w) (v := (mL q).length) h
  have e : ((List.range n).map fun r => (mL (updP P w q r)).length) = (List.range n).map fun k => if k = w then (mL q).length else (mL (P k)).length := List.map_congr_left fun k _ => by
    unfold updP
    split <;> rfl
  unfold Sz
  rw [e]
  exact z
theorem sz_le {P : Nat → Mb} : ∀ {n : Nat}, Sz P n ≤ 16 * n
  | 0 => Nat.le_refl _
  | n + 1 => by
    have h1 := sz_le (P := P) (n := n)
    have h2 := mL_len (p := P n)
    unfold Sz at h1 ⊢
    rw [List.range_succ, List.map_append, List.sum_append]
    simp only [List.map_cons, List.map_nil, List.sum_cons, List.sum_nil]
    omega
theorem pap_set {P : Nat → Mb} {w n : Nat} {q : Mb} : ((List.range n).map fun r => mD (P r)).set w (mD q) = (List.range n).map fun r => mD (updP P w q r) := by
  refine List.ext_getElem? fun i => ?_
  rw [List.getElem?_set]
  by_cases h : i < n
  · rw [pap_at h, pap_at h, List.length_map, List.length_range]
    unfold updP
    by_cases e : w = i
    · subst e
      rw [if_pos rfl, if_pos h, if_pos rfl]
    · rw [if_neg e, if_neg (by omega)]
  · rw [List.length_map, List.length_range]
    have e1 : ((List.range n).map fun r => mD (P r))[i]? = none := List.getElem?_eq_none (by rw [List.length_map, List.length_range]; omega)
    have e2 : ((List.range n).map fun r => mD (updP P w q r))[i]? = none := List.getElem?_eq_none (by rw [List.length_map, List.length_range]; omega)
    rw [e1, e2]
    by_cases e : w = i
    · rw [if_pos e, if_neg (by omega)]
    · rw [if_neg e]
theorem filt_lt {p q : Mb} (h : ∀ x, x < 16 → q x = true → p x = true) (ne : mL q ≠ mL p) : (mL q).length < (mL p).length := by
  have e : mL q = (mL p).filter q := by
    unfold mL
    rw [List.filter_filter]
    refine List.filter_congr fun x hx => ?_
    cases hq : q x with
    | false => rfl
    | true => rw [h x (List.mem_range.mp hx) hq]; rfl
  have hle : (mL q).length ≤ (mL p).length := by
    rw [e]
    exact List.length_filter_le _ _
  rcases Nat.lt_or_ge (mL q).length (mL p).length with z | z
  · exact z
  · exfalso
    apply ne
    rw [e] at z ⊢
    exact List.filter_sublist.eq_of_length_le z
/-- the state of the search -/
structure GInv (rgs : List Rg) (rows : List Row) (P : Nat → Mb) (ws : List Nat) : Prop where
  w : ∀ k ∈ ws, k < rows.length
  g : ∀ P', Hold rgs rows P' → ∀ r x, r < rows.length → x < 16 → P' r x = true → P r x = true
  h : ∀ (r : Nat) (row : Row), r ∉ ws → rows[r]? = some row → ∀ w ∈ waysR r row, ∀ x, x < 16 → P w x = true → bhd rgs row (P r) x = true
structure GStp (rgs : List Rg) (rows : List Row) (P0 : Nat → Mb) (ws0 : List Nat) (i : Nat) (row : Row) (j : Nat) (P : Nat → Mb) (ws : List Nat) : Prop where
  w : ∀ k ∈ ws, k < rows.length
  g : ∀ P', Hold rgs rows P' → ∀ r x, r < rows.length → x < 16 → P' r x = true → P r x = true
  h : ∀ (r : Nat) (row : Row), r ≠ i → r ∉ ws → rows[r]? = some row → ∀ w ∈ waysR r row, ∀ x, x < 16 → P w x = true → bhd rgs row (P r) x = true
  d : ∀ w ∈ (waysR i row).take j, ∀ x, x < 16 → P w x = true → bhd rgs row (P0 i) x = true
  l : ∀ k x, P k x = true → P0 k x = true
  e : i ∉ ws → P i = P0 i
  s : 2 * Sz P rows.length + ws.length ≤ 2 * Sz P0 rows.length + ws0.length
theorem GStp.fin {rgs : List Rg} {rows : List Row} {P0 P : Nat → Mb} {ws0 ws : List Nat} {i : Nat} {row : Row} (hi : rows[i]? = some row) (h : GStp rgs rows P0 ws0 i row (waysR i row).length P ws) : GInv rgs rows P ws := ⟨h.w, h.g, fun r row' hr hrow w hw x hx hp => by
  by_cases e : r = i
  · subst e
    rw [hi] at hrow
    cases hrow
    have hd := h.d
    rw [List.take_length] at hd
    rw [h.e hr]
    exact hd w hw x hx hp
  · exact h.h r row' e hr hrow w hw x hx hp⟩
theorem GStp.cut {rgs : List Rg} {rows : List Row} {P0 P : Nat → Mb} {ws0 ws : List Nat} {i j w : Nat} {row : Row} {q : Mb} (jo : JOk rows) (hi : rows[i]? = some row) (hw : (waysR i row)[j]? = some w) (hq : q = fun x => P w x && bhd rgs row (P0 i) x) (ne : mL q ≠ mL (P w)) (h : GStp rgs rows P0 ws0 i row j P ws) :
    GStp rgs rows P0 ws0 i row (j + 1) (updP P w q) (ws ++ [w]) := by
  have ro := jo.r i row hi
  have il := (List.getElem?_eq_some_iff.mp hi).1
  have wm := List.mem_of_getElem? hw
  have wl := waysR_lt ro wm
  have qle : ∀ x, q x = true → P w x = true := fun x hx => by
    rw [hq] at hx
    exact (Bool.and_eq_true_iff.mp hx).1
  have ule : ∀ k x, updP P w q k x = true → P k x = true := fun k x hx => by
    unfold updP at hx
    split at hx
    · rename_i e
      rw [e]
      exact qle x hx
    · exact hx
  refine ⟨fun k hk => ?_, fun P' hP' r x hr hx hp => ?_, fun r row' hri hr hrow w' hw' x hx hp => ?_, fun w' hw' x hx hp => ?_, fun k x hp => h.l k x (ule k x hp), fun hn => ?_, ?_⟩
  · rcases List.mem_append.mp hk with hk | hk
    · exact h.w k hk
    · rw [List.mem_singleton.mp hk]
      exact wl
  · have h1 := h.g P' hP' r x hr hx hp
    unfold updP
    split
    · rename_i e
      subst e
      rw [hq]
      show (P r x && bhd rgs row (P0 i) x) = true
      rw [h1, Bool.true_and]
      refine bhd_mono (p := P' i) (fun y hy hpy => h.l i y (h.g P' hP' i y il hy hpy)) ro x hx (hP' i row hi r wm x hx hp)
    · exact h1
  · rw [List.mem_append, not_or, List.mem_singleton] at hr
    have e : updP P w q r = P r := if_neg hr.2
    rw [e]
    exact h.h r row' hri hr.1 hrow w' hw' x hx (ule w' x hp)
  · rw [List.take_add_one, hw] at hw'
    rcases List.mem_append.mp hw' with hw' | hw'
    · exact h.d w' hw' x hx (ule w' x hp)
    · have e : w' = w := by simpa using hw'
      subst e
      have : updP P w' q w' = q := if_pos rfl
      rw [this, hq] at hp
      exact (Bool.and_eq_true_iff.mp hp).2
  · rw [List.mem_append, not_or, List.mem_singleton] at hn
    have e : updP P w q i = P i := if_neg hn.2
    rw [e]
    exact h.e hn.1
  · have z := sz_upd (P := P) (q := q) wl
    have z2 := filt_lt (fun x _ => qle x) ne
    have := h.s
    rw [List.length_append, List.length_singleton]
    omega
theorem GStp.same {rgs : List Rg} {rows : List Row} {P0 P : Nat → Mb} {ws0 ws : List Nat} {i j w : Nat} {row : Row} {q : Mb} (hw : (waysR i row)[j]? = some w) (hq : q = fun x => P w x && bhd rgs row (P0 i) x) (e : mL q = mL (P w)) (h : GStp rgs rows P0 ws0 i row j P ws) : GStp rgs rows P0 ws0 i row (j + 1) P ws := by
  refine ⟨h.w, h.g, h.h, fun w' hw' x hx hp => ?_, h.l, h.e, h.s⟩
  rw [List.take_add_one, hw] at hw'
  rcases List.mem_append.mp hw' with hw' | hw'
  · exact h.d w' hw' x hx hp
  · have e2 : w' = w := by simpa using hw'
    subst e2
    rw [← mL_inj e x hx, hq] at hp
    exact (Bool.and_eq_true_iff.mp hp).2


/-! ### the greatest paper is found; the judge -/
theorem all_dk (T : Txt fa fn K mg (XOk cs xcs K w)) (H : Hp) : Dk K H (.ref (He.ga K "ALL")) (mD fun _ => true) := T.m.dk (x := "ALL") (ks := [0, 1, 2, 3, 4, 5, 6, 7, 8, 9, 10, 11, 12, 13, 14, 15]) in_ALL H
theorem rgV_nV (n : Nat) : L2.rgV 0 (n : Int) = nV (List.range n) := by
  unfold L2.rgV nV
  have e : ((n : Int) - 0).toNat = n := by omega
  rw [e]
  refine List.map_congr_left fun i _ => ?_
  congr 1
  omega
theorem nV_snoc {l : List Nat} {n : Nat} : nV (l ++ [n]) = nV l ++ [V.int (n : Int)] := by
  unfold nV
  rw [List.map_append]
  rfl
def sp_greatest_paper (K : PySem.W.Frag) : Sp := fun vs H Q _ => ∃ (code : V) (rgs : List Rg) (rows : List Row), vs = [code] ∧ Im H code (codeD rgs rows) ∧ JOk rows ∧
  ∀ H' x P, Grt rgs rows P → Same H H' → Dk K H' x (papD P rows.length) → Q x H'
theorem sc_greatest_paper : FnScope ["code", "paper", "waiting", "r", "behind", "way", "less", "one"] ["code"] (defScope (topS 31)) := ⟨rfl, rfl, rfl, by decide +kernel, rfl, by decide +kernel, by decide +kernel⟩
theorem ok_greatest_paper (T : Txt fa fn K mg (XOk cs xcs K w)) : Dn P w K mg base CX0 3 "greatest_paper" ["code"] (sp_greatest_paper K) := by
  refine mk_dn (d := dOf "greatest_paper" 31) T 14 14 rfl rfl rfl rfl rfl sc_greatest_paper (by walk_at "len") (fun _ _ _ _ _ _ us hl => match us, hl with | [_], _ => rfl) (fun cdv A outer s H vs Q E hr h => ⟨_, (pss_cons (ps_set (i := 1) sc_greatest_paper.nd rfl (.inl rfl) (pe_op op_mulU (pe_lst (pa_cons (pe_glob (v := .ref (He.ga K "ALL")) rfl (T.glo 141 rfl) rfl) pa_nil)) (pe_callB (c_len (K := K) rfl) rfl (T.free 128 rfl) (by decide +kernel) (pa_cons (pe_ixU (K := K) rfl (hu_of hr) (pv 0) pe_int) pa_nil))))
      (pss_cons (ps_set (i := 2) sc_greatest_paper.nd rfl (.inl rfl) (pe_listRg rfl rfl (T.free 129 rfl) (prg_1 rfl (T.free 132 rfl) (pe_callB (c_len (K := K) rfl) rfl (T.free 128 rfl) (by decide +kernel) (pa_cons (pv 1) pa_nil)))))
      (pss_cons (ps_while PassesOwn.never (pt_cmpR (op_neU (K := K) rfl hr.units) (pv 2) (pe_lst pa_nil) (nomark _)) (pss_cons (ps_set (i := 3) sc_greatest_paper.nd rfl (.inl rfl) (pe_bm0 PySem.F.plainAttrs_list PySem.F.slot_list_pop PySem.F.type_list_pop mt_pop (pv 2)))
      (pss_cons (ps_set (i := 4) sc_greatest_paper.nd rfl (.inr rfl) (pe_callD (K := K) rfl (ok_public_behind T) (hr.mono (by decide)) rfl pass0 (pa_cons (pv 0) (pa_cons (pv 3) (pa_cons (pe_ixU (K := K) rfl (hu_of hr) (pv 1) (pv 3)) pa_nil)))))
      (pss_one (ps_for PassesOwn.never rfl (pi_seq (K := K) rfl (pe_callD (K := K) rfl (ok_ways T) (hr.mono (by decide)) rfl pass0 (pa_cons (pv 0) (pa_cons (pv 3) pa_nil)))) (pg_name (i := 5) sc_greatest_paper.nd rfl (.inl rfl)) (pss_cons (ps_set (i := 6) sc_greatest_paper.nd rfl (.inl rfl) (pe_callTy (c_tuple (K := K) rfl) rfl (T.free 136 rfl) (by decide +kernel) (pa_cons (pe_lc rfl sc_greatest_paper.nd (pi_seq (K := K) rfl (pe_ixU (K := K) rfl (hu_of hr) (pv 1) (pv 5))) (blkOk_by (own := [("one", 7)]) (N := ["code", "paper", "waiting", "r", "behind", "way", "less", "one"]) (sc := defScope (topS 31)) (by decide +kernel)) (fun _ _ _ _ _ => (pg_name (i := 7) sc_greatest_paper.nd rfl (.inl rfl))) (fun _ _ _ _ _ => (pts_one (pt_cmpR (op_inU (K := K) rfl (hu65 hr)) (pv 7) (pv 4) (by rfl)))) (fun _ _ _ _ _ => (pv 7))) pa_nil)))
      (pss_one (ps_if (pt_cmpR (op_neU (K := K) rfl hr.units) (pv 6) (pe_ixU (K := K) rfl (hu_of hr) (pv 1) (pv 5)) (nomark _)) (pss_cons (ps_asg (pv 6) (pg_sub (pv 1) (pv 5) (set_U (hu_of hr))))
      (pss_one (ps_expr (pe_bm PySem.F.plainAttrs_list PySem.F.slot_list_append PySem.F.type_list_append mt_append (pv 2) (pa_cons (pv 5) pa_nil))))) pss_nil))))))))
      (pss_one (ps_ret (pe_callTy (c_tuple (K := K) rfl) rfl (T.free 136 rfl) (by decide +kernel) (pa_cons (pv 1) pa_nil))))))), ?_⟩)
  obtain ⟨code, rgs, rows, rfl, ic, jo, hQ⟩ := h
  have ju := jo.u
  walk_at "go"
  refine ⟨by show 1 ≤ sizeLine; decide, fun u hu => ?_⟩
  have s1 := Same.new (o := .lst [.ref (He.ga K "ALL")]) hu
  walk_at "go"
  refine m_ix (ic.same s1) (n := 1) rfl rfl (fun v1 hv1 => ?_)
  walk_at "go"
  refine m_len hv1 ?_
  rw [List.length_map]
  refine g_rep upd_same (by omega) (by omega) (fun pa hpa => ?_)
  rw [Int.toNat_natCast]
  have s2 := s1.trans (Same.new (o := .lst (List.replicate rows.length (V.ref (He.ga K "ALL")))) hpa)
  have hpaH : H pa = none := s1.free hpa
  walk_at "go"
  refine g_lstRg (g_rg1 ?_)
  walk_at "go"
  refine g_lenL (SqL.of upd_same) ?_
  rw [List.length_replicate]
  walk_at "go"
  refine ⟨RgOk.of_le (by decide) (by omega) (by decide) (by omega), fun wa hwa => ?_⟩
  rw [rgV_nV]
  have hwaH : H wa = none := s2.free hwa
  have M3 : Has (upd (upd H u (.lst [.ref (He.ga K "ALL")])) pa (.lst (List.replicate rows.length (V.ref (He.ga K "ALL"))))) [(pa, HO.lst (List.replicate rows.length (V.ref (He.ga K "ALL"))))] := Has.one upd_same
  have M4 := M3.new (o := .lst (nV (List.range rows.length))) hwa
  have s3 := s2.trans (Same.new (o := .lst (nV (List.range rows.length))) hwa)
  walk_at "go"
  refine ⟨fun m σ H' => ∃ (o3 o4 o5 o6 : Option V) (P : Nat → Mb) (ws : List Nat) (xs : List V), σ = [some code, some (.ref pa), some (.ref wa), o3, o4, o5, o6, none] ∧ Same H H' ∧ Has H' [(pa, .lst xs), (wa, .lst (nV ws))] ∧ Dks K H' xs ((List.range rows.length).map fun r => mD (P r)) ∧ GInv rgs rows P ws ∧
    m = 2 * Sz P rows.length + ws.length ∧ m ≤ 33 * rows.length, ⟨2 * Sz (fun _ _ => true) rows.length + rows.length, _, _, _, _, fun _ _ => true, List.range rows.length, _, rfl, s3, M4, ?_, ⟨fun k hk => List.mem_range.mp hk, fun _ _ _ _ _ _ _ => rfl, fun r row hr hrow => absurd (List.mem_range.mpr (List.getElem?_eq_some_iff.mp hrow).1) hr⟩, by rw [List.length_range], ?_⟩, ?_⟩
  · have e : ((List.range rows.length).map fun r => mD ((fun (_ : Nat) (_ : Nat) => true) r)) = List.replicate rows.length (mD fun _ => true) := by
      rw [List.map_const', List.length_range]
    rw [e]
    exact (Dks.rep (all_dk T _) _)
  · have := sz_le (P := fun _ _ => true) (n := rows.length)
    omega
  rintro m σ H1 ⟨o3, o4, o5, o6, P, ws, xs, rfl, sm, M, dk, gi, em, hm⟩
  walk_at "go"
  refine ⟨by decide, fun E hE => ?_⟩
  have M1 := M.new (o := .lst []) hE
  have hw1 : upd H1 E (.lst []) wa = some (.lst ((ws.map fun (n : Nat) => (n : Int)).map V.int)) := by rw [← nV_ints]; exact M1.get 1 rfl
  have sE := Same.new (o := .lst []) hE
  have smE := sm.trans sE
  refine g_neD (lst_dp hw1) (lst_dp (ns := []) upd_same) lst_shaped lst_shaped ?_
  rw [List.map_nil, eqv_lnil]
  walk_at "go"
  have hem : ((ws.map fun (n : Nat) => (n : Int)).map PyData.int).isEmpty = ws.isEmpty := by cases ws <;> rfl
  rw [hem]
  have dkE := dk.same sE
  generalize upd H1 E (.lst []) = H2 at M1 smE dkE sE
  have M2 : Has H2 [(pa, .lst xs), (wa, .lst (nV ws))] := M1.sub (List.sublist_append_left _ _)
  clear M1
  refine g_ifBn (fun c => ?_) (fun c => ?_)
  · refine g_whileT ?_
    obtain ⟨ws', i, rfl⟩ : ∃ ws' i, ws = ws' ++ [i] := by
      rcases List.eq_nil_or_concat ws with rfl | ⟨ws', i, e⟩
      · cases c
      · exact ⟨ws', i, by simpa using e⟩
    have hil : i < rows.length := gi.w i (by simp)
    have hrow : rows[i]? = some (rows[i]'hil) := List.getElem?_eq_getElem _
    generalize rows[i]'hil = row at hrow
    have ro := jo.r i row hrow
    have hxl := dkE.length
    rw [List.length_map, List.length_range] at hxl
    rw [List.length_append, List.length_singleton] at em
    rw [nV_snoc] at M2
    walk_at "go"
    refine ⟨wa, nV ws' ++ [V.int (i : Int)], .int (i : Int), rfl, rfl, M2.get 1 rfl, by simp, ?_⟩
    have M3 := M2.set (o' := .lst (nV ws')) 1 rfl
    have ed : (nV ws' ++ [V.int (i : Int)]).dropLast = nV ws' := by simp
    rw [ed]
    have smW : Same H (upd H2 wa (.lst (nV ws'))) := Same.mut smE hwaH
    have kt : KT H2 (upd H2 wa (.lst (nV ws'))) := KT.set (M2.get 1 rfl) (fun _ z => nomatch z)
    have dk3 := dkE.mono kt
    generalize upd H2 wa (.lst (nV ws')) = H3 at M3 smW dk3 kt
    have M3 : Has H3 [(pa, .lst xs), (wa, .lst (nV ws'))] := M3
    walk_at "go"
    obtain ⟨pv, hpv, hpd⟩ := dk3.get (n := i) (pap_at hil)
    refine g_ixL (SqL.of (M3.get 0 rfl)) (n := i) rfl hpv ?_
    walk_at "go"
    refine ⟨code, pv, i, _, rgs, rows, row, P i, rfl, ic.same smW, hrow, ro, hpd, fun H4 b s4 hb => ?_⟩
    have smB := smW.trans s4
    obtain ⟨ba, rfl, hba⟩ := nD_at hb
    walk_at "go"
    refine ⟨code, i, rgs, rows, row, rfl, ic.same smB, hrow, fun H5 y s5 hy => ?_⟩
    have smY := smB.trans s5
    refine m_seq hy (fun ya ys ey hya hys => ?_)
    subst ey
    obtain rfl := dks_nV_inv (K := K) hys.dk
    have M5 := (M3.keep s4).keep s5
    have dk5 := (dk3.same s4).same s5
    have hba5 := hba.same s5
    refine f_tup (xs := nV (waysR i row)) (fun j σ H' => ∃ (o5 o6 : Option V) (P1 : Nat → Mb) (ws1 : List Nat) (xs1 : List V), σ = [some code, some (.ref pa), some (.ref wa), some (.int (i : Int)), some (.ref ba), o5, o6, none] ∧ Same H H' ∧ KT H5 H' ∧ Has H' [(pa, .lst xs1), (wa, .lst (nV ws1))] ∧ Dks K H' xs1 ((List.range rows.length).map fun r => mD (P1 r)) ∧ GStp rgs rows P ws' i row j P1 ws1)
      ⟨_, _, P, ws', xs, rfl, smY, KT.refl, M5, dk5, ⟨fun k hk => gi.w k (by simp [hk]), gi.g, fun r row' hr hn hrow' => gi.h r row' (by simp [hn, hr]) hrow', by simp, fun _ _ z => z, fun _ => rfl, Nat.le_refl _⟩⟩ (fun j σ H' _ ⟨_, _, _, _, _, _, _, k5, _⟩ => SqT.of (k5 _ _ hya)) ?_ ?_
    · rintro j y σ H6 hj ⟨o5, o6, P1, ws1, xs1, rfl, sm6, k6, M6, dk6, st⟩
      have hjl := (List.getElem?_eq_some_iff.mp hj).1
      rw [nV_len] at hjl
      have hw : (waysR i row)[j]? = some ((waysR i row)[j]'hjl) := List.getElem?_eq_getElem _
      generalize (waysR i row)[j]'hjl = w at hw
      rw [nV_at hw] at hj
      cases hj
      have hwn := waysR_lt ro (List.mem_of_getElem? hw)
      have hxl6 := dk6.length
      rw [List.length_map, List.length_range] at hxl6
      obtain ⟨wv, hwv, hwd⟩ := dk6.get (n := w) (pap_at hwn)
      obtain ⟨va, rfl, hva⟩ := nD_at hwd
      have hba6 : TupK K H6 ba (nV (mL (bhd rgs row (P i)))) := hba5.mono k6
      have stb := st.s
      walk_at "go"
      refine g_ixL (SqL.of (M6.get 0 rfl)) (n := w) rfl hwv ?_
      walk_at "go"
      refine g_seqT hva.sq ?_
      refine l_filtT (f := bhd rgs row (P i)) hva (Nat.le_trans mL_len (by decide)) (by intro _; rfl) (fun q m H7 QB hmq s7 hQB => ?_) (fun m H7 R hR => ?_) (fun D H7 hD7 s7 hD => ?_)
      · have hm16 := (mL_mem.mp (List.mem_of_getElem? hmq)).1
        walk_at "go"
        exact k_inM (hba6.same s7) hm16 (g_exb (hQB _ (Same.refl _)))
      · walk_at "go"
        exact hR
      obtain ⟨q, eq⟩ : ∃ q : Mb, q = fun x => P1 w x && bhd rgs row (P i) x := ⟨_, rfl⟩
      have ef : (mL (P1 w)).filter (bhd rgs row (P i)) = mL q := by
        rw [eq]
        unfold mL
        rw [List.filter_filter]
        refine List.filter_congr fun x _ => ?_
        rw [Bool.and_comm]
      rw [ef] at hD
      have M7 := M6.keep s7
      have dk7 := dk6.same s7
      walk_at "go"
      refine m_tupleL (SqL.of hD) (ims_nV _) (fun t H8 s8 _ ht => ?_)
      have ht : Im H8 (.ref t) (mD q) := ht
      have M8 := M7.keep s8
      have dk8 := dk7.same s8
      have hwd8 := (hwd.same s7).same s8
      have sm8 := (sm6.trans s7).trans s8
      walk_at "go"
      refine g_ixL (SqL.of (M8.get 0 rfl)) (n := w) rfl hwv ?_
      refine k_ne ht.dk hwd8 (nD_lay.shaped (by decide)) (nD_lay.shaped (by decide)) ?_
      rw [show PyData.eqv (mD q) (mD (P1 w)) = decide (mL q = mL (P1 w)) from eqv_nD]
      walk_at "go"
      refine g_ifN (fun c2 => ?_) (fun c2 => ?_)
      · walk_at "go"
        refine g_setU M8 0 rfl rfl (by omega) (fun M9 => ?_)
        have kt9 : KT H8 (upd H8 pa (.lst (xs1.set w (.ref t)))) := KT.set (M8.get 0 rfl) (fun _ z => nomatch z)
        have sm9 : Same H (upd H8 pa (.lst (xs1.set w (.ref t)))) := Same.mut sm8 hpaH
        have dk9 := (dk8.mono kt9).set w (ht.dk.mono kt9)
        rw [pap_set] at dk9
        generalize upd H8 pa (.lst (xs1.set w (.ref t))) = H9 at M9 kt9 sm9 dk9
        have M9 : Has H9 [(pa, .lst (xs1.set w (.ref t))), (wa, .lst (nV ws1))] := M9
        walk_at "go"
        refine g_append M9 1 rfl (Nat.lt_of_le_of_lt (show (nV ws1).length ≤ 2000000 by rw [nV_len]; omega) (by decide)) (fun M10 => ?_)
        have kt10 : KT H9 (upd H9 wa (.lst (nV ws1 ++ [V.int (w : Int)]))) := KT.set (M9.get 1 rfl) (fun _ z => nomatch z)
        rw [← nV_snoc] at M10 kt10 ⊢
        walk_at "go"
        exact ⟨_, _, _, _, _, rfl, Same.mut sm9 hwaH, (((k6.trans (KT.of s7)).trans (KT.of s8)).trans kt9).trans kt10, M10, dk9.mono kt10, st.cut jo hrow hw eq c2⟩
      · walk_at "go"
        exact ⟨_, _, _, _, _, rfl, sm8, (k6.trans (KT.of s7)).trans (KT.of s8), M8, dk8, st.same hw eq c2⟩
    · rintro σ H6 ⟨o5, o6, P1, ws1, xs1, rfl, sm6, k6, M6, dk6, st⟩
      rw [nV_len] at st
      have stb := st.s
      refine ⟨2 * Sz P1 rows.length + ws1.length, by omega, _, _, _, _, P1, ws1, xs1, rfl, sm6, M6, dk6, st.fin hrow, rfl, by omega⟩
  · walk_at "go"
    refine k_tupleL (SqL.of (M2.get 0 rfl)) dkE (fun t H3 s3 _ ht => ?_)
    have e : ws = [] := List.isEmpty_iff.mp c
    subst e
    exact hQ _ _ P ⟨fun r row hr w hw x hx hp => gi.h r row (by simp) hr w hw x hx hp, fun P' hP' r x hr hx hp => gi.g P' hP' r x hr hx hp⟩ (smE.trans s3) ht
def wV : Option Str → V
  | none => .non
  | some z => .str z
def spanW (rgs : List Rg) (p : Mb) (a : Nat) (base mask : Int) (st : Option Nat) : Option Str :=
  if p a = true then (match regOf rgs base mask with
    | none => some "region"
    | some g => match st with
      | some b => if p b = true then none else if g.l = "public" then some "store" else none
      | none => none) else some "address"
def refW (rgs : List Rg) (r : Row) (p : Mb) : Option Str := match r with
  | .branch a _ => if p a = true then none else some "branch"
  | .out a => if p a = true then none else some "out"
  | .load _ a base mask => spanW rgs p a base mask none
  | .store a base mask b => spanW rgs p a base mask (some b)
  | .op .div _ a b => if p a = true then (if p b = true then none else some "cost") else some "cost"
  | .op .mod _ a b => if p a = true then (if p b = true then none else some "cost") else some "cost"
  | _ => none
def sp_span_word (K : PySem.W.Frag) : Sp := fun vs H Q _ => ∃ (code m : V) (ra many k : Nat) (at_ : Int) (rgs : List Rg) (rows : List Row) (row : Row) (p : Mb), vs = [code, .ref ra, .int at_, m] ∧ Im H code (codeD rgs rows) ∧ H ra = some (.tup row.v) ∧ RowOkD many k row ∧ Dk K H m (mD p) ∧
  ((∃ d a b mk, row = .load d a b mk ∧ at_ = 2) ∨ ∃ a b mk c, row = .store a b mk c ∧ at_ = 1) ∧ Q (wV (refW rgs row p)) H
theorem sc_span_word : FnScope ["code", "row", "at", "member", "region"] ["code", "row", "at", "member"] (defScope (topS 33)) := ⟨rfl, rfl, rfl, by decide +kernel, rfl, by decide +kernel, by decide +kernel⟩
theorem ok_span_word (T : Txt fa fn K mg (XOk cs xcs K w)) : Dn P w K mg base CX0 2 "span_word" ["code", "row", "at", "member"] (sp_span_word K) := by
  refine mk_dn (d := dOf "span_word" 33) T 15 15 rfl rfl rfl rfl rfl sc_span_word (by walk_at "len") (fun _ _ _ _ _ _ us hl => match us, hl with | [_, _, _, _], _ => rfl) (fun cdv A outer s H vs Q E hr h => ⟨_, (pss_cons (ps_if (pt_cmpR (op_niU (K := K) rfl (hu65 hr)) (pe_ixU (K := K) rfl (hu_of hr) (pv 1) (pv 2)) (pv 3) (by rfl)) (pss_one (ps_ret pe_str)) pss_nil)
      (pss_cons (ps_set (i := 4) sc_span_word.nd rfl (.inl rfl) (pe_callD (K := K) rfl (ok_region_of T) (hr.mono (by decide)) rfl pass0 (pa_cons (pv 0) (pa_cons (pe_ixU (K := K) rfl (hu_of hr) (pv 1) (pe_op (op_addU (K := K) rfl) (pv 2) pe_int)) (pa_cons (pe_ixU (K := K) rfl (hu_of hr) (pv 1) (pe_op (op_addU (K := K) rfl) (pv 2) pe_int)) pa_nil)))))
      (pss_cons (ps_if (pt_cmpR o_isN (pv 4) pe_non (nomark _)) (pss_one (ps_ret pe_str)) pss_nil)
      (pss_cons (ps_if (PW.pt (pw_and (pt_cmpR (op_eqU (K := K) rfl hr.units) (pe_ixU (K := K) rfl (hu_of hr) (pv 1) pe_int) pe_str (nomark _)) (pw_and (pt_cmpR (op_niU (K := K) rfl (hu65 hr)) (pe_ixU (K := K) rfl (hu_of hr) (pv 1) pe_int) (pv 3) (by rfl)) (pw_and1 (pt_cmpR (op_eqU (K := K) rfl hr.units) (pe_ixU (K := K) rfl (hu_of hr) (pv 4) pe_int) pe_str (nomark _)))))) (pss_one (ps_ret pe_str)) pss_nil)
      (pss_one (ps_ret pe_non)))))), ?_⟩)
  obtain ⟨code, m, ra, many, k, at_, rgs, rows, row, p, rfl, ic, hra, ro, im, hk, hQ⟩ := h
  obtain ⟨ma, rfl, hma⟩ := nD_at im
  rcases hk with ⟨d, a, b, mk, rfl, rfl⟩ | ⟨a, b, mk, c, rfl, rfl⟩
  · have hra : H ra = some (.tup [.str "load", .int d, .int a, .int b, .int mk]) := hra
    have hQ : Q (wV (spanW rgs p a b mk none)) H := hQ
    unfold spanW at hQ
    walk_at "go"
    refine k_niM hma ro.2.1 ?_
    walk_at "go"
    refine g_ifBn (fun c1 => ?_) (fun c1 => ?_)
    · rw [c1, if_neg Bool.false_ne_true] at hQ
      walk_at "go"
      exact hQ
    · rw [c1, if_pos rfl] at hQ
      walk_at "go"
      refine ⟨code, b, mk, rgs, rows, rfl, ic, fun hn => ?_, fun g v hg hv => ?_⟩
      · rw [hn] at hQ
        walk_at "go"
        exact hQ
      · rw [hg] at hQ
        obtain ⟨ga, rfl, hga⟩ := im3v hv
        walk_at "go"
        exact hQ
  · have hra : H ra = some (.tup [.str "store", .int a, .int b, .int mk, .int c]) := hra
    have hQ : Q (wV (spanW rgs p a b mk (some c))) H := hQ
    unfold spanW at hQ
    walk_at "go"
    refine k_niM hma ro.1 ?_
    walk_at "go"
    refine g_ifBn (fun c1 => ?_) (fun c1 => ?_)
    · rw [c1, if_neg Bool.false_ne_true] at hQ
      walk_at "go"
      exact hQ
    · rw [c1, if_pos rfl] at hQ
      walk_at "go"
      refine ⟨code, b, mk, rgs, rows, rfl, ic, fun hn => ?_, fun g v hg hv => ?_⟩
      · rw [hn] at hQ
        walk_at "go"
        exact hQ
      · rw [hg] at hQ
        obtain ⟨ga, rfl, hga⟩ := im3v hv
        have hQ : Q (wV (if p c = true then none else if g.l = "public" then some "store" else none)) H := hQ
        walk_at "go"
        refine k_niM hma ro.2.1 ?_
        walk_at "go"
        refine g_ifBn (fun c2 => ?_) (fun c2 => ?_)
        · rw [c2, if_neg Bool.false_ne_true] at hQ
          walk_at "go"
          refine g_if (fun c3 => ?_) (fun c3 => ?_)
          · rw [if_pos c3] at hQ
            walk_at "go"
            exact hQ
          · rw [if_neg c3] at hQ
            walk_at "go"
            exact hQ
        · rw [c2, if_pos rfl] at hQ
          walk_at "go"
          exact hQ


/-! ### refusal, judge -/
def sp_refusal (K : PySem.W.Frag) : Sp := fun vs H Q _ => ∃ (code m : V) (ra many k : Nat) (rgs : List Rg) (rows : List Row) (row : Row) (p : Mb), vs = [code, .ref ra, m] ∧ Im H code (codeD rgs rows) ∧ H ra = some (.tup row.v) ∧ RowOkD many k row ∧ Dk K H m (mD p) ∧
  ∀ H', Same H H' → Q (wV (refW rgs row p)) H'
def isDM : Sg → Bool
  | .div => true
  | .mod => true
  | _ => false
theorem sg_dm : ∀ s : Sg, (["div", "mod"] : List Str).contains s.s = isDM s := by
  intro s
  cases s <;> decide +kernel
theorem sc_refusal : FnScope ["code", "row", "member", "kind"] ["code", "row", "member"] (defScope (topS 34)) := ⟨rfl, rfl, rfl, by decide +kernel, rfl, by decide +kernel, by decide +kernel⟩
theorem ok_refusal (T : Txt fa fn K mg (XOk cs xcs K w)) : Dn P w K mg base CX0 3 "refusal" ["code", "row", "member"] (sp_refusal K) := by
  refine mk_dn (d := dOf "refusal" 34) T 16 16 rfl rfl rfl rfl rfl sc_refusal (by walk_at "len") (fun _ _ _ _ _ _ us hl => match us, hl with | [_, _, _], _ => rfl) (fun cdv A outer s H vs Q E hr h => ⟨_, (pss_cons (ps_set (i := 3) sc_refusal.nd rfl (.inl rfl) (pe_ixU (K := K) rfl (hu_of hr) (pv 1) pe_int))
      (pss_cons (ps_if (PW.pt (pw_and (pt_cmpR (op_inU (K := K) rfl (hu65 hr)) (pv 3) (pe_tup (pa_cons pe_str (pa_cons pe_str pa_nil))) (by rfl)) (pw_and1 (pt_cmpR (op_niU (K := K) rfl (hu65 hr)) (pe_ixU (K := K) rfl (hu_of hr) (pv 1) pe_int) (pv 2) (by rfl))))) (pss_one (ps_ret (pv 3))) pss_nil)
      (pss_cons (ps_if (pt_cmpR (op_eqU (K := K) rfl hr.units) (pv 3) pe_str (nomark _)) (pss_one (ps_ret (pe_callD (K := K) rfl (ok_span_word T) (hr.mono (by decide)) rfl pass0 (pa_cons (pv 0) (pa_cons (pv 1) (pa_cons pe_int (pa_cons (pv 2) pa_nil))))))) pss_nil)
      (pss_cons (ps_if (pt_cmpR (op_eqU (K := K) rfl hr.units) (pv 3) pe_str (nomark _)) (pss_one (ps_ret (pe_callD (K := K) rfl (ok_span_word T) (hr.mono (by decide)) rfl pass0 (pa_cons (pv 0) (pa_cons (pv 1) (pa_cons pe_int (pa_cons (pv 2) pa_nil))))))) pss_nil)
      (pss_cons (ps_if (PW.pt (pw_and (pt_cmpR (op_eqU (K := K) rfl hr.units) (pv 3) pe_str (nomark _)) (pw_and1 (pt_cmpR (op_inU (K := K) rfl (hu65 hr)) (pe_ixU (K := K) rfl (hu_of hr) (pv 1) pe_int) (pe_tup (pa_cons pe_str (pa_cons pe_str pa_nil))) (by rfl))))) (pss_one (ps_if (PW.pt (pw_or (pt_cmpR (op_niU (K := K) rfl (hu65 hr)) (pe_ixU (K := K) rfl (hu_of hr) (pv 1) pe_int) (pv 2) (by rfl)) (pw_or1 (pt_cmpR (op_niU (K := K) rfl (hu65 hr)) (pe_ixU (K := K) rfl (hu_of hr) (pv 1) pe_int) (pv 2) (by rfl))))) (pss_one (ps_ret pe_str)) pss_nil)) pss_nil)
      (pss_one (ps_ret pe_non))))))), ?_⟩)
  obtain ⟨code, m, ra, many, k, rgs, rows, row, p, rfl, ic, hra, ro, im, hQ⟩ := h
  obtain ⟨ma, rfl, hma⟩ := nD_at im
  have sp : ∀ (xs : List V) (u : Addr), H u = none → Same H (upd H u (.tup xs)) := fun xs u hu => Same.new hu
  cases row with
  | branch a t =>
    have hra : H ra = some (.tup [.str "branch", .int a, .int t]) := hra
    have hQ : ∀ H', Same H H' → Q (wV (if p a = true then none else some "branch")) H' := hQ
    walk_at "go"
    refine ⟨by show 2 ≤ sizeLine; decide, fun u hu => ?_⟩
    refine g_inTs (ks := ["branch", "out"]) (.inl upd_same) ?_
    have su := sp [.str "branch", .str "out"] u hu
    have hra1 := su _ _ hra
    have e : (["branch", "out"] : List Str).contains "branch" = true := by decide +kernel
    rw [e]
    walk_at "go"
    refine k_niM (hma.same su) ro.1 ?_
    walk_at "go"
    refine g_ifBn (fun c => ?_) (fun c => ?_)
    · rw [c, if_neg Bool.false_ne_true] at hQ
      walk_at "go"
      exact hQ _ su
    · rw [c, if_pos rfl] at hQ
      walk_at "go"
      exact hQ _ su
  | out a =>
    have hra : H ra = some (.tup [.str "out", .int a]) := hra
    have hQ : ∀ H', Same H H' → Q (wV (if p a = true then none else some "out")) H' := hQ
    walk_at "go"
    refine ⟨by show 2 ≤ sizeLine; decide, fun u hu => ?_⟩
    refine g_inTs (ks := ["branch", "out"]) (.inl upd_same) ?_
    have su := sp [.str "branch", .str "out"] u hu
    have hra1 := su _ _ hra
    have e : (["branch", "out"] : List Str).contains "out" = true := by decide +kernel
    rw [e]
    walk_at "go"
    refine k_niM (hma.same su) ro.1 ?_
    walk_at "go"
    refine g_ifBn (fun c => ?_) (fun c => ?_)
    · rw [c, if_neg Bool.false_ne_true] at hQ
      walk_at "go"
      exact hQ _ su
    · rw [c, if_pos rfl] at hQ
      walk_at "go"
      exact hQ _ su
  | load d a b mk =>
    have hra' := hra
    have hra : H ra = some (.tup [.str "load", .int d, .int a, .int b, .int mk]) := hra
    walk_at "go"
    refine ⟨by show 2 ≤ sizeLine; decide, fun u hu => ?_⟩
    refine g_inTs (ks := ["branch", "out"]) (.inl upd_same) ?_
    have su := sp [.str "branch", .str "out"] u hu
    have e : (["branch", "out"] : List Str).contains "load" = false := by decide +kernel
    rw [e]
    walk_at "go"
    exact ⟨code, .ref ma, ra, many, k, 2, rgs, rows, .load d a b mk, p, rfl, ic.same su, su _ _ hra', ro, im.same su, .inl ⟨d, a, b, mk, rfl, rfl⟩, hQ _ su⟩
  | store a b mk c =>
    have hra' := hra
    have hra : H ra = some (.tup [.str "store", .int a, .int b, .int mk, .int c]) := hra
    walk_at "go"
    refine ⟨by show 2 ≤ sizeLine; decide, fun u hu => ?_⟩
    refine g_inTs (ks := ["branch", "out"]) (.inl upd_same) ?_
    have su := sp [.str "branch", .str "out"] u hu
    have e : (["branch", "out"] : List Str).contains "store" = false := by decide +kernel
    rw [e]
    walk_at "go"
    exact ⟨code, .ref ma, ra, many, k, 1, rgs, rows, .store a b mk c, p, rfl, ic.same su, su _ _ hra', ro, im.same su, .inr ⟨a, b, mk, c, rfl, rfl⟩, hQ _ su⟩
  | op s d a b =>
    have hra : H ra = some (.tup [.str "op", .str s.s, .int d, .int a, .int b]) := hra
    walk_at "go"
    refine ⟨by show 2 ≤ sizeLine; decide, fun u hu => ?_⟩
    refine g_inTs (ks := ["branch", "out"]) (.inl upd_same) ?_
    have su := sp [.str "branch", .str "out"] u hu
    have hra1 := su _ _ hra
    have e : (["branch", "out"] : List Str).contains "op" = false := by decide +kernel
    rw [e]
    walk_at "go"
    refine ⟨by show 2 ≤ sizeLine; decide, fun u2 hu2 => ?_⟩
    refine g_inTs (ks := ["div", "mod"]) (.inl upd_same) ?_
    have su2 := Same.new' (o := .tup [.str "div", .str "mod"]) su hu2
    have hra2 := su2 _ _ hra
    rw [sg_dm s]
    have key : (s = .div ∨ s = .mod) ∨ (refW rgs (.op s d a b) p = none ∧ isDM s = false) := by
      cases s <;> first | exact .inl (.inl rfl) | exact .inl (.inr rfl) | exact .inr ⟨rfl, rfl⟩
    rcases key with hs | ⟨h1, h2⟩
    · have h1 : refW rgs (.op s d a b) p = if p a = true then (if p b = true then none else some ("cost" : Str)) else some ("cost" : Str) := by rcases hs with rfl | rfl <;> rfl
      have h2 : isDM s = true := by rcases hs with rfl | rfl <;> rfl
      rw [h1] at hQ
      rw [h2]
      walk_at "go"
      refine k_niM (hma.same su2) ro.2.1 ?_
      walk_at "go"
      refine g_ifBn (fun c => ?_) (fun c => ?_)
      · rw [c, if_neg Bool.false_ne_true] at hQ
        walk_at "go"
        exact hQ _ su2
      · rw [c, if_pos rfl] at hQ
        walk_at "go"
        refine k_niM (hma.same su2) ro.2.2.1 ?_
        walk_at "go"
        refine g_ifBn (fun c2 => ?_) (fun c2 => ?_)
        · rw [c2, if_neg Bool.false_ne_true] at hQ
          walk_at "go"
          exact hQ _ su2
        · rw [c2, if_pos rfl] at hQ
          walk_at "go"
          exact hQ _ su2
    · rw [h1] at hQ
      rw [h2]
      walk_at "go"
      exact hQ _ su2
  | _ =>
    have hra := hra
    simp only [Row.v] at hra
    walk_at "go"
    refine ⟨by show 2 ≤ sizeLine; decide, fun u hu => ?_⟩
    refine g_inTs (ks := ["branch", "out"]) (.inl upd_same) ?_
    have su := sp [.str "branch", .str "out"] u hu
    first | rw [show (["branch", "out"] : List Str).contains "const" = false by decide +kernel] | rw [show (["branch", "out"] : List Str).contains "select" = false by decide +kernel] | rw [show (["branch", "out"] : List Str).contains "jump" = false by decide +kernel] | rw [show (["branch", "out"] : List Str).contains "stop" = false by decide +kernel]
    walk_at "go"
    exact hQ _ su
/-- the first row that is refused -/
def dueD (rgs : List Rg) (rows : List Row) (P : Nat → Mb) (n : Nat) : Option (Nat × Str) := (List.range n).findSome? fun r => (rows[r]?).bind fun row => (refW rgs row (P r)).map fun w => (r, w)
theorem due_succ {rgs : List Rg} {rows : List Row} {P : Nat → Mb} {n : Nat} : dueD rgs rows P (n + 1) = (dueD rgs rows P n).or ((rows[n]?).bind fun row => (refW rgs row (P n)).map fun w => (n, w)) := by
  unfold dueD
  rw [List.range_succ, List.findSome?_append]
  congr 1
  simp [List.findSome?]
  cases (rows[n]?).bind fun row => (refW rgs row (P n)).map fun w => (n, w) <;> rfl
/-- what the judge says of a paper -/
def JudR (rgs : List Rg) (rows : List Row) (d : PyData) (o : Option (Int × Str)) : Prop :=
  (∃ P, d = papD P rows.length ∧ Hold rgs rows P ∧ o = (dueD rgs rows P rows.length).map fun q => ((q.1 : Int), q.2)) ∨ ((¬ ∃ P, d = papD P rows.length ∧ Hold rgs rows P) ∧ o = some (-1, ("paper" : Str)))
abbrev rfD (r : Int) (w : Str) : List (Str × V) := [("word", .str w), ("row", .int r)]
def sp_Refused___init__ (K : PySem.W.Frag) : Sp := fun vs H Q _ => ∃ (a : Addr) (r : Int) (w : Str), vs = [.ref a, .int r, .str w] ∧ H a = some (exo a (He.ga K "Refused") none) ∧
  ∀ d, H d = none → d ≠ a → Q .non (upd (upd (upd H d (exd d [("row", .int r)])) a (exo a (He.ga K "Refused") (some d))) d (exd d (rfD r w)))
theorem sc_Refused___init__ : FnScope ["self", "row", "word"] ["self", "row", "word"] (defScope (inClass (topS 22) 0)) := ⟨rfl, rfl, rfl, by decide +kernel, rfl, by decide +kernel, by decide +kernel⟩
theorem mt_Refused___init__ (T : Txt fa fn K mg (XOk cs xcs K w)) : Mt P w K mg base CX0 1 "Refused" "__init__" ["self", "row", "word"] (sp_Refused___init__ K) := by
  refine mk_mt (d := mOf "Refused" "__init__" "Refused.__init__" (inClass (topS 22) 0)) T 82 rfl rfl rfl rfl sc_Refused___init__ (by walk_at "len") (fun _ _ _ _ _ _ us hl => match us, hl with | [_, _, _], _ => rfl) (fun cdv A outer s H vs Q E hr h => ⟨_, (pss_cons (ps_expr (pe_oveinit (K := K) rfl (xc_Refused T) rfl rfl (T.glo 55 rfl) (pa_cons (pv 0) (pa_cons pe_str pa_nil))))
      (pss_cons (ps_ostU (K := K) rfl (pv 0) (pv 1))
      (pss_one (ps_ostU (K := K) rfl (pv 0) (pv 2))))), ?_⟩)
  obtain ⟨a, r, w0, rfl, ha, hQ⟩ := h
  have X := xc_Refused T
  walk_at "go"
  refine g_vei ?_
  walk_at "go"
  refine ⟨a, He.ga K "Refused", [.str "refused"], rfl, by show 1 ≤ 1000; decide, X.oex, ha, ?_⟩
  walk_at "go"
  refine g_ost ?_
  walk_at "go"
  refine ⟨a, He.ga K "Refused", rfl, X.oex, X.no "row" (by simp), .inl ⟨ha, fun d hd hne => ?_⟩⟩
  dsimp only
  refine g_ost ?_
  walk_at "go"
  refine ⟨a, He.ga K "Refused", rfl, X.oex, X.no "word" (by simp), .inr ⟨d, [("row", .int r)], upd_same, ?_, by show 1 ≤ 900; decide, ?_⟩⟩
  · rw [upd_ne hne]
    exact upd_same
  · walk_at "go"
    exact hQ d hd hne
/-- raise Refused(r, w) -/
theorem use_refused {H : Hp} {E : XK} {r : Int} {w : Str} (k : ∀ H' d, Same H H' → H' d = some (.xd (rfD r w)) → E (.ref (He.ga K "Refused")) (some d) H') :
    [V.int r, V.str w].length ≤ 1000 ∧ ∀ a, H a = none → sp_Refused___init__ K (.ref a :: ([V.int r, V.str w] ++ [])) (upd H a (exo a (He.ga K "Refused") none)) (fun v H2 => v = .non ∧ ∃ (d : Addr) (fs : List (Str × V)), H2 a = some (exo a (He.ga K "Refused") (some d)) ∧ H2 d = some (exd d fs) ∧ H d = none ∧ E (.ref (He.ga K "Refused")) (some d) (upd (del H2 a) d (.xd fs))) (fun _ _ _ => False) := by
  refine ⟨by show 2 ≤ 1000; decide, fun a ha => ⟨a, r, w, rfl, upd_same, fun d hd hne => ⟨rfl, d, rfD r w, ?_, upd_same, ?_, ?_⟩⟩⟩
  · rw [upd_ne (Ne.symm hne)]
    exact upd_same
  · exact (made_exc (fs := []) (gs := []) ha hd hne).1
  · exact k _ d (made_exc ha hd hne).2 upd_same
def sp_judge (K : PySem.W.Frag) : Sp := fun vs H Q E => ∃ (code x : V) (rgs : List Rg) (rows : List Row) (d : PyData), vs = [code, x] ∧ Im H code (codeD rgs rows) ∧ JOk rows ∧ Dk K H x d ∧ Wd 50000 4 d ∧
  (JudR rgs rows d none → ∀ H', Same H H' → Q .non H') ∧ ∀ r w, JudR rgs rows d (some (r, w)) → ∀ H' e, Same H H' → H' e = some (.xd (rfD r w)) → E (.ref (He.ga K "Refused")) (some e) H'
theorem sc_judge : FnScope ["code", "paper", "r", "word"] ["code", "paper"] (defScope (topS 35)) := ⟨rfl, rfl, rfl, by decide +kernel, rfl, by decide +kernel, by decide +kernel⟩
theorem ok_judge (T : Txt fa fn K mg (XOk cs xcs K w)) : Dn P w K mg base (L2.CX P w) 4 "judge" ["code", "paper"] (sp_judge K) := by
  refine mk_dnX (d := dOf "judge" 35) T 17 17 rfl rfl rfl rfl rfl sc_judge (by walk_at "len") (fun _ _ _ _ _ _ us hl => match us, hl with | [_, _], _ => rfl) (fun cdv A outer s H vs Q E hr h => ⟨_, (pss_cons (ps_if (pt_not (pt_tru (K := K) rfl (pe_callD (K := K) rfl (ok_holds T) (hr.mono (by decide)) rfl pass0 (pa_cons (pv 0) (pa_cons (pv 1) pa_nil))))) (pss_one (ps_raiseI (K := K) rfl (xc_Refused T) (mt_Refused___init__ T) (hr.mono (by decide)) rfl (takes_of rfl rfl rfl rfl) rfl rfl (T.glo 56 rfl) (pa_cons (pe_un un_neg pe_int) (pa_cons pe_str pa_nil)))) pss_nil)
      (pss_one (ps_for (passes_of rfl) rfl (pi_r1 rfl (T.free 132 rfl) (pa_cons (pe_callB (c_len (K := K) rfl) rfl (T.free 128 rfl) (by decide +kernel) (pa_cons (pv 1) pa_nil)) pa_nil)) (pg_name (i := 2) sc_judge.nd rfl (.inl rfl)) (pss_cons (ps_set (i := 3) sc_judge.nd rfl (.inl rfl) (pe_callD (K := K) rfl (ok_refusal T) (hr.mono (by decide)) rfl pass0 (pa_cons (pv 0) (pa_cons (pe_ixU (K := K) rfl (hu_of hr) (pe_ixU (K := K) rfl (hu_of hr) (pv 0) pe_int) (pv 2)) (pa_cons (pe_ixU (K := K) rfl (hu_of hr) (pv 1) (pv 2)) pa_nil)))))
      (pss_one (ps_if (pt_cmpR o_notN (pv 3) pe_non (nomark _)) (pss_one (ps_raiseI (K := K) rfl (xc_Refused T) (mt_Refused___init__ T) (hr.mono (by decide)) rfl (takes_of rfl rfl rfl rfl) rfl rfl (T.glo 56 rfl) (pa_cons (pv 2) (pa_cons (pv 3) pa_nil)))) pss_nil)))))), ?_⟩)
  obtain ⟨code, x, rgs, rows, d, rfl, ic, jo, hx, wd, hQ, hE⟩ := h
  have ju := jo.u
  walk_at "go"
  refine ⟨code, x, rgs, rows, d, rfl, ic, jo, hx, wd, fun H1 b s1 hb => ?_⟩
  walk_at "go"
  refine g_ifBn (fun c => ?_) (fun c => ?_)
  · refine g_raise ?_
    walk_at "go"
    refine use_refused (fun H2 e s2 he => ?_)
    exact hE (-1) "paper" (.inr ⟨fun z => (by rw [hb.mpr z] at c; cases c), rfl⟩) H2 e (s1.trans s2) he
  obtain ⟨P, rfl, hP⟩ := hb.mp c
  have hx1 := hx.same s1
  walk_at "go"
  refine k_len hx1 ?_
  rw [List.length_map, List.length_range]
  walk_at "go"
  rw [Int.toNat_natCast]
  refine f_range (fun i σ H' => ∃ (o2 o3 : Option V), σ = [some code, some x, o2, o3] ∧ Same H H' ∧ dueD rgs rows P i = none) ⟨_, _, rfl, s1, rfl⟩ ?_ ?_
  · rintro i σ H2 hi ⟨o2, o3, rfl, s2, hd⟩
    have hrow : rows[i]? = some (rows[i]'hi) := List.getElem?_eq_getElem _
    generalize rows[i]'hi = row at hrow
    have ro := jo.r i row hrow
    have e0 : (0 : Int) + (i : Int) = (i : Int) := by omega
    have ic2 := ic.same s2
    walk_at "go"
    rw [e0]
    refine m_ix ic2 (n := 1) rfl rfl (fun v1 hv1 => ?_)
    walk_at "go"
    refine m_ix hv1 (n := i) rfl (by rw [List.getElem?_map, hrow]; rfl) (fun y hy => ?_)
    obtain ⟨ra, rfl, hra⟩ := row_tup hy
    walk_at "go"
    refine k_ix (hx.same s2) (n := i) rfl (pap_at hi) (fun v hv => ?_)
    walk_at "go"
    refine ⟨code, v, ra, _, i, rgs, rows, row, P i, rfl, ic2, hra, ro, hv, fun H3 s3 => ?_⟩
    have e1 : dueD rgs rows P (i + 1) = (refW rgs row (P i)).map fun w => (i, w) := by
      rw [due_succ, hd, hrow, Option.none_or]
      rfl
    cases hw : refW rgs row (P i) with
    | none =>
      rw [hw] at e1
      show gName 3 .non _ _ _
      walk_at "go"
      exact ⟨_, _, rfl, s2.trans s3, e1⟩
    | some wd0 =>
      rw [hw] at e1
      show gName 3 (.str wd0) _ _ _
      walk_at "go"
      refine g_raise ?_
      walk_at "go"
      refine use_refused (fun H4 e s4 he => ?_)
      refine hE i wd0 (.inl ⟨P, rfl, hP, ?_⟩) H4 e ((s2.trans s3).trans s4) he
      have key : ∀ k, dueD rgs rows P (i + 1 + k) = some (i, wd0) := fun k => by
        induction k with
        | zero => exact e1
        | succ k ih =>
          have : i + 1 + (k + 1) = (i + 1 + k) + 1 := by omega
          rw [this, due_succ, ih]
          rfl
      have := key (rows.length - (i + 1))
      rw [show i + 1 + (rows.length - (i + 1)) = rows.length by omega] at this
      rw [this]
      rfl
  · rintro σ H2 ⟨o2, o3, rfl, s2, hd⟩
    walk_at "go"
    exact hQ (.inl ⟨P, rfl, hP, by rw [hd]; rfl⟩) _ s2


/-! ### what a row reads: reads(row), by the sorts of its parts -/
inductive PK
  | sg | d | a | n | b | m | t
  deriving DecidableEq
def PK.s : PK → Str
  | .sg => "sign" | .d => "d" | .a => "a" | .n => "n" | .b => "base" | .m => "mask" | .t => "t"
def shpL : List (Str × List PK) := [("const", [.d, .n]), ("op", [.sg, .d, .a, .a]), ("select", [.d, .a, .a, .a]), ("load", [.d, .a, .b, .m]), ("store", [.a, .b, .m, .a]), ("out", [.a]), ("jump", [.t]), ("branch", [.a, .t]), ("stop", [.a])]
theorem kv_shp : kv_PARTS = shpL.map fun p => (p.1, PyData.tuple (p.2.map fun k => .str k.s)) := rfl
theorem shp_len : ∀ p ∈ shpL, p.2.length ≤ 4 := by decide
/-- the parts of a kind of row stand in the module -/
theorem shp_at (T : Txt fa fn K mg (XOk cs xcs K w)) {z : Str} {ks : List PK} (h : (z, ks) ∈ shpL) : ∃ (u : Value) (b : Addr), PySem.W.nsIn K (He.ga K "PARTS") z = some (some u) ∧ RelV (.ref b) u ∧ ∀ H, SqT K H b ((ks.map PK.s).map V.str) := by
  have hm : (z, PyData.tuple (ks.map fun k => .str k.s)) ∈ kv_PARTS := by
    rw [kv_shp]
    exact List.mem_map.mpr ⟨(z, ks), h, rfl⟩
  obtain ⟨u, v, h1, h2, h3⟩ := T.m.key in_PARTS hm
  have e : (ks.map fun k => PyData.str k.s) = (ks.map PK.s).map PyData.str := by rw [List.map_map]; rfl
  rw [e] at h3
  cases h3 (fun _ => none) with
  | tup hs hd => exact ⟨u, _, h1, h2, fun H => dp_strs (h3 H)⟩
def isa : PK → Bool
  | .a => true
  | _ => false
theorem isa_s {k : PK} : k.s = "a" ↔ isa k = true := by
  cases k <;> simp only [PK.s, isa] <;> decide +kernel
def vI : V → Int
  | .int i => i
  | _ => 0
def readsV (ks : List PK) (xs : List V) (n : Nat) : List Int := ((List.range n).filter fun i => isa (ks.getD i .d)).map fun i => vI (xs.getD (i + 1) .non)
theorem reads_succ {ks : List PK} {xs : List V} {n : Nat} : readsV ks xs (n + 1) = readsV ks xs n ++ (if isa (ks.getD n .d) then [vI (xs.getD (n + 1) .non)] else []) := by
  unfold readsV
  rw [List.range_succ, List.filter_append, List.map_append]
  congr 1
  cases h : isa (ks.getD n .d) with
  | true =>
    rw [List.filter_cons, if_pos h]
    rfl
  | false =>
    rw [List.filter_cons, if_neg (by rw [h]; exact Bool.false_ne_true)]
    rfl
theorem reads_len {ks : List PK} {xs : List V} {n : Nat} : (readsV ks xs n).length ≤ n := by
  unfold readsV
  rw [List.length_map]
  have := List.length_filter_le (fun i => isa (ks.getD i .d)) (List.range n)
  rw [List.length_range] at this
  exact this
/-- the parts of a row that are read are ints -/
def ReadOk (ks : List PK) (xs : List V) : Prop := xs.length = ks.length + 1 ∧ ∀ i, i < ks.length → isa (ks.getD i .d) = true → ∃ y, xs[i + 1]? = some (.int y)
def sp_reads (K : PySem.W.Frag) : Sp := fun vs H Q _ => ∃ (ra : Addr) (z : Str) (ks : List PK) (xs : List V), vs = [.ref ra] ∧ H ra = some (.tup xs) ∧ xs[0]? = some (.str z) ∧ (z, ks) ∈ shpL ∧ ReadOk ks xs ∧
  ∀ H' p (ms : List Int), Same H H' → ms.Pairwise (· < ·) → (∀ j, j ∈ ms ↔ j ∈ readsV ks xs ks.length) → ms.length ≤ 4 → H' p = some (.tup (ms.map .int)) → Q (.ref p) H'
theorem sc_reads : FnScope ["row", "sorts", "at"] ["row"] (defScope (topS 10)) := ⟨rfl, rfl, rfl, by decide +kernel, rfl, by decide +kernel, by decide +kernel⟩
theorem ok_reads (T : Txt fa fn K mg (XOk cs xcs K w)) : Dn P w K mg base CX0 1 "reads" ["row"] (sp_reads K) := by
  refine mk_dn (d := dOf "reads" 10) T 4 4 rfl rfl rfl rfl rfl sc_reads (by walk_at "len") (fun _ _ _ _ _ _ us hl => match us, hl with | [_], _ => rfl) (fun cdv A outer s H vs Q E hr h => ⟨_, (pss_cons (ps_set (i := 1) sc_reads.nd rfl (.inr rfl) (pe_ixG (K := K) rfl rfl T.m.toCsOk in_PARTS (pe_glob (v := .ref (He.ga K "PARTS")) rfl (T.glo 140 rfl) rfl) (pe_ixU (K := K) rfl (hu_of hr) (pv 0) pe_int)))
      (pss_one (ps_ret (pe_callTy (c_tuple (K := K) rfl) rfl (T.free 136 rfl) (by decide +kernel) (pa_cons (pe_callB (c_setS rfl rfl) rfl (T.free 134 rfl) (by decide +kernel) (pa_cons (pe_callTy (c_setL (K := K) rfl rfl) rfl (T.free 133 rfl) (by decide +kernel) (pa_cons (pe_lc rfl sc_reads.nd (pi_r1 rfl (T.free 132 rfl) (pa_cons (pe_callB (c_len (K := K) rfl) rfl (T.free 128 rfl) (by decide +kernel) (pa_cons (pv 1) pa_nil)) pa_nil)) (blkOk_by (own := [("at", 2)]) (N := ["row", "sorts", "at"]) (sc := defScope (topS 10)) (by decide +kernel)) (fun _ _ _ _ _ => (pg_name (i := 2) sc_reads.nd rfl (.inl rfl))) (fun _ _ _ _ _ => (pts_one (pt_cmpR (op_eqU (K := K) rfl hr.units) (pe_ixU (K := K) rfl (hu_of hr) (pv 1) (pv 2)) pe_str (nomark _)))) (fun _ _ _ _ _ => (pe_ixU (K := K) rfl (hu_of hr) (pv 0) (pe_op (op_addU (K := K) rfl) (pv 2) pe_int)))) pa_nil)) pa_nil)) pa_nil))))), ?_⟩)
  obtain ⟨ra, z, ks, xs, rfl, hx, h0, hs, ok, hQ⟩ := h
  obtain ⟨u, b, h1, h2, h3⟩ := shp_at T hs
  obtain ⟨hl, hr⟩ := ok
  have klen : ks.length ≤ 4 := shp_len _ hs
  walk_at "go"
  refine g_ixT (SqT.of hx) (n := 0) rfl h0 ?_
  walk_at "go"
  refine ⟨z, u, .ref b, rfl, rfl, h1, h2, ?_⟩
  walk_at "go"
  refine g_lenT (h3 _) ?_
  rw [List.length_map, List.length_map]
  walk_at "go"
  rw [Int.toNat_natCast]
  refine l_range (fun D i H' => H' D = some (.lst ((readsV ks xs i).map V.int)) ∧ Same H H') (fun D hD => ⟨upd_same, Same.new hD⟩) ?_ ?_
  · rintro D hD i H' hi ⟨hD', sm⟩
    have g1 : ks[i]? = some (ks.getD i .d) := by rw [List.getD_eq_getElem?_getD, List.getElem?_eq_getElem hi]; rfl
    have e0 : (0 : Int) + (i : Int) = (i : Int) := by omega
    walk_at "go"
    rw [e0]
    refine g_ixT (h3 _) (n := i) rfl (v := .str (ks.getD i .d).s) (by rw [List.getElem?_map, List.getElem?_map, g1]; rfl) ?_
    walk_at "go"
    refine g_if (fun c => ?_) (fun c => ?_)
    · have ha := isa_s.mp c
      obtain ⟨y, hy⟩ := hr i hi ha
      walk_at "go"
      refine g_ixT (SqT.of (sm _ _ hx)) (n := i + 1) (by omega) hy ?_
      have rlen := reads_len (ks := ks) (xs := xs) (n := i)
      refine ⟨_, hD', szl (by rw [List.length_map]; omega), ?_, Same.mut sm hD⟩
      have ey : vI (xs.getD (i + 1) .non) = y := by rw [List.getD_eq_getElem?_getD, hy]; rfl
      rw [upd_same, reads_succ, ha, ey, List.map_append]
      rfl
    · refine ⟨?_, sm⟩
      have hf : isa (ks.getD i .d) = false := by
        cases q : isa (ks.getD i .d) with
        | false => rfl
        | true => exact absurd (isa_s.mpr q) c
      rw [hD', reads_succ, hf]
      simp
  · rintro D hD H' ⟨hD', sm⟩
    have rlen := reads_len (ks := ks) (xs := xs) (n := ks.length)
    walk_at "go"
    refine g_setL (SqL.of hD') (by omega) (fun p k hk hp' => ?_)
    have s2 := Same.new (o := SetO w p (fun j => decide (j ∈ readsV ks xs ks.length)) k) hp'
    walk_at "go"
    refine g_setS upd_same (by omega) (fun ms q asc mem hml hq => ?_)
    have s3 := Same.new (o := .lst (ms.map V.int)) hq
    walk_at "go"
    have hT : SqL K (upd (upd H' p (SetO w p (fun j => decide (j ∈ readsV ks xs ks.length)) k)) q (.lst (ms.map V.int))) q (ms.map V.int) := SqL.of upd_same
    refine ⟨_, rfl, .inl ⟨q, _, rfl, hT, fun t ht => ?_⟩⟩
    exact hQ _ t ms (((sm.trans s2).trans s3).trans (Same.new ht)) asc mem (by omega) upd_same

/-! ### the machine, as functions -/
/-- binary digits -/
def digs : Nat → Nat
  | 0 => 0
  | n + 1 => digs ((n + 1) / 2) + 1
decreasing_by omega
theorem digs_pos {n : Nat} (h : 0 < n) : digs n = digs (n / 2) + 1 := by
  cases n with
  | zero => omega
  | succ n => rw [digs]
def costS (s : Sg) (a b : Int) : Int := match s with
  | .mul => 3
  | .div => 4 + max 0 ((digs a.toNat : Int) - digs b.toNat)
  | .mod => 4 + max 0 ((digs a.toNat : Int) - digs b.toNat)
  | _ => 1
structure PrS where
  k : Str
  b : Int
  h : Int
  cs : List Int
inductive Ev
  | visit (t : Bool) (c l : Int) (f : Bool)
  | fetch (c l : Int) (f : Bool)
  | data (c l : Int) (f : Bool)
  | out (c x : Int)
  | guess (c : Int) (a : Nat) (t : Bool)
  | back (c : Int) (a : Nat)
  | stop (c : Int)
def tdS (t : Bool) : Str := if t then "touch" else "drop"
def Ev.d : Ev → PyData
  | .visit t c l f => .tuple [.str (tdS t), .int c, .int l, .bool f]
  | .fetch c l f => .tuple [.str "fetch", .int c, .int l, .bool f]
  | .data c l f => .tuple [.str "data", .int c, .int l, .bool f]
  | .out c x => .tuple [.str "out", .int c, .int x]
  | .guess c a t => .tuple [.str "guess", .int c, nI a, .bool t]
  | .back c a => .tuple [.str "back", .int c, nI a]
  | .stop c => .tuple [.str "stop", .int c]
structure Vi where
  n : Int
  t : Bool
  a : Int
def Vi.d (v : Vi) : PyData := .tuple [.int v.n, .str (tdS v.t), .int v.a]
structure MK where
  rows : List Row
  dep : Int
  miss : Int
  wrong : Int
  vis : List Vi
structure MC where
  dc : CSt
  fc : CSt
  pr : PrS
  ck : Int
  fe : Int
  vi : Nat
  tr : List Ev
def mx (c x : Int) : Int := if x > c then x else c
def visM (mc : MC) (v : Vi) : MC := { mc with
  dc := if v.t then tcV mc.dc v.a else dpV mc.dc v.a
  tr := mc.tr ++ [.visit v.t mc.ck (v.a / (mc.dc.Z : Int)) (decide (hitV mc.dc v.a))] }
def goVis : List Vi → MC → MC
  | [], mc => mc
  | v :: r, mc => if v.n ≤ mc.fe then goVis r { visM mc v with vi := mc.vi + 1 } else mc
def fetchM (k : MK) (mc : MC) (a : Nat) : MC :=
  let m := goVis (k.vis.drop mc.vi) mc
  { m with fe := m.fe + 1, fc := tcV m.fc a, tr := m.tr ++ [.fetch m.ck ((a : Int) / (m.fc.Z : Int)) (decide (hitV m.fc a))], ck := if hitV m.fc a then m.ck else m.ck + k.miss }
def rdAt (rd : List Int) (a : Int) : Int := rd.getD a.toNat 0
/-- the registers that a row reads, with doubles -/
def Row.rds : Row → List Int
  | .const _ _ => []
  | .op _ _ a b => [(a : Int), (b : Int)]
  | .select _ c a b => [(c : Int), (a : Int), (b : Int)]
  | .load _ a _ _ => [(a : Int)]
  | .store a _ _ b => [(a : Int), (b : Int)]
  | .out a => [(a : Int)]
  | .jump _ => []
  | .branch _ _ => []
  | .stop a => [(a : Int)]
def mxL (rd : List Int) (l : List Int) (c : Int) : Int := l.foldl (fun c a => mx c (rdAt rd a)) c
def waitM (r : Row) (rd : List Int) (mc : MC) : MC := { mc with ck := mxL rd r.rds mc.ck }
def touM (mc : MC) (a : Int) : MC := { mc with dc := tcV mc.dc a, tr := mc.tr ++ [.data mc.ck (a / (mc.dc.Z : Int)) (decide (hitV mc.dc a))] }
def touC (k : MK) (mc : MC) (a : Int) : Int := if hitV mc.dc a then 0 else k.miss
def adr (ms : MS) (a : Nat) (base mask : Int) : Int := base + Builtin.bitAnd (rgV ms a) mask
/-- what a row does to the core -/
def workC (r : Row) (ms : MS) (g : Bool) (mc : MC) : MC := match r with
  | .load _ a base mask => touM mc (adr ms a base mask)
  | .store a base mask _ => if g then mc else touM mc (adr ms a base mask)
  | .out a => if g then mc else { mc with tr := mc.tr ++ [.out mc.ck (rgV ms a)] }
  | _ => mc
/-- .. to the registers' times -/
def workR (k : MK) (r : Row) (ms : MS) (rd : List Int) (mc : MC) : List Int := match r with
  | .const d _ => rd.set d (mc.ck + 1)
  | .op s d a b => rd.set d (mc.ck + costS s (rgV ms a) (rgV ms b))
  | .select d _ _ _ => rd.set d (mc.ck + 1)
  | .load d a base mask => rd.set d (mc.ck + (2 + touC k mc (adr ms a base mask)))
  | _ => rd
/-- .. to the values -/
def workS (r : Row) (ms : MS) (g : Bool) : MS := match r with
  | .out _ => if g then ms else doRow ms r
  | r => doRow ms r
def gueV (mc : MC) (a : Nat) : Bool := gsV mc.pr.k mc.pr.h mc.pr.cs a
def gueM (mc : MC) (a : Nat) : MC := { mc with tr := mc.tr ++ [.guess mc.ck a (gueV mc a)] }
def aftM (r : Row) (a : Nat) (t : Bool) : Nat := match r with
  | .jump x => x
  | .branch _ x => if t then x else a + 1
  | _ => a + 1
def isStop : Row → Bool
  | .stop _ => true
  | _ => false
def isBr : Row → Bool
  | .branch _ _ => true
  | _ => false
def wrongM (k : MK) (en : Int) : Nat → Nat → MS → List Int → MC → MC
  | 0, _, _, _, mc => mc
  | n + 1, a, ms, rd, mc => if mc.ck < en then
      (match k.rows[a]? with
      | none => mc
      | some r =>
        let mc2 := waitM r rd (fetchM k mc a)
        if en ≤ mc2.ck ∨ isStop r = true then mc2
        else if isBr r = true then wrongM k en n (aftM r a (gueV mc2 a)) ms rd { gueM mc2 a with ck := mc2.ck + 1 }
        else wrongM k en n (aftM r a false) (workS r ms true) (workR k r ms rd mc2) { workC r ms true mc2 with ck := mc2.ck + 1 })
    else mc
def lrnM (mc : MC) (a : Nat) (t : Bool) : MC := { mc with pr := { mc.pr with h := lhV mc.pr.k mc.pr.b mc.pr.h t, cs := lcV mc.pr.k mc.pr.h mc.pr.cs a t } }
def brM (k : MK) (r : Row) (a p : Nat) (ms : MS) (rd : List Int) (mc : MC) : MC :=
  let tk := decide (¬ rgV ms p = 0)
  let g := gueV mc a
  let m2 : MC := { gueM mc a with ck := mc.ck + 1 }
  let en := mx mc.ck (rdAt rd p) + k.wrong
  let m3 : MC := if g = tk then m2 else
    (let m := wrongM k en k.dep.toNat (aftM r a g) ms rd m2
    { m with ck := en, tr := m.tr ++ [.back en a] })
  lrnM m3 a tk
def runMM (k : MK) : Nat → Nat → MS → List Int → MC → Option Int × MS × MC
  | 0, _, ms, _, mc => (none, ms, mc)
  | n + 1, a, ms, rd, mc => match k.rows[a]? with
    | none => (none, ms, mc)
    | some r =>
      let mc2 := waitM r rd (fetchM k mc a)
      match r with
      | .stop p => (some (rgV ms p), ms, { mc2 with tr := mc2.tr ++ [.stop mc2.ck] })
      | .branch p t => runMM k n (aftM (.branch p t) a (decide (¬ rgV ms p = 0))) ms rd (brM k (.branch p t) a p ms rd mc2)
      | r => runMM k n (aftM r a false) (workS r ms false) (workR k r ms rd mc2) { workC r ms false mc2 with ck := mc2.ck + 1 }
/-- a bound on the trace: what stands there, and the visits to come -/
def phi (k : MK) (mc : MC) : Nat := mc.tr.length + (k.vis.length - mc.vi)
/-- the core is in order -/
structure COk (k : MK) (ad ac : CAd) (N : Nat) (mc : MC) : Prop where
  d : CWf ad mc.dc
  c : CWf ac mc.fc
  p : PrOk mc.pr.k mc.pr.b mc.pr.h mc.pr.cs
  v : mc.vi ≤ k.vis.length
  n : phi k mc ≤ N
section
variable {k : MK} {ad ac : CAd} {N : Nat} {mc : MC} {r : Row} {ms : MS} {rd : List Int} {a : Nat} {x : Int} {t g : Bool} {v : Vi}
theorem COk.mono {N' : Nat} (h : COk k ad ac N mc) (hn : N ≤ N') : COk k ad ac N' mc := ⟨h.d, h.c, h.p, h.v, Nat.le_trans h.n hn⟩
theorem COk.len (h : COk k ad ac N mc) : mc.tr.length ≤ N := by
  have := h.n
  unfold phi at this
  omega
theorem COk.ck (h : COk k ad ac N mc) : COk k ad ac N { mc with ck := x } := ⟨h.d, h.c, h.p, h.v, h.n⟩
theorem COk.fe (h : COk k ad ac N mc) : COk k ad ac N { mc with fe := x } := ⟨h.d, h.c, h.p, h.v, h.n⟩
theorem COk.ev {e : Ev} (h : COk k ad ac N mc) : COk k ad ac (N + 1) { mc with tr := mc.tr ++ [e] } := ⟨h.d, h.c, h.p, h.v, by
  have := h.n
  unfold phi at this ⊢
  show (mc.tr ++ [e]).length + _ ≤ _
  rw [List.length_append, List.length_singleton]
  show _ + (k.vis.length - mc.vi) ≤ _
  omega⟩
theorem COk.vis (h : COk k ad ac N mc) (hv : mc.vi < k.vis.length) : COk k ad ac N { visM mc v with vi := mc.vi + 1 } := ⟨by
    show CWf ad (if v.t then tcV mc.dc v.a else dpV mc.dc v.a)
    split
    · exact h.d.tc
    · exact h.d.dp, h.c, h.p, hv, by
  have := h.n
  unfold phi at this ⊢
  show (mc.tr ++ [_]).length + (k.vis.length - (mc.vi + 1)) ≤ _
  rw [List.length_append, List.length_singleton]
  omega⟩
theorem COk.go : ∀ (l : List Vi) {mc : MC}, COk k ad ac N mc → l = k.vis.drop mc.vi → COk k ad ac N (goVis l mc)
  | [], _, h, _ => h
  | v :: l, mc, h, e => by
    have hlt : mc.vi < k.vis.length := by
      have : (v :: l).length = k.vis.length - mc.vi := by rw [e, List.length_drop]
      simp only [List.length_cons] at this
      omega
    unfold goVis
    split
    · refine COk.go l (h.vis hlt) ?_
      show l = k.vis.drop (mc.vi + 1)
      rw [← List.drop_drop, ← e]
      rfl
    · exact h
theorem COk.fetch (h : COk k ad ac N mc) : COk k ad ac (N + 1) (fetchM k mc a) := by
  have g := COk.go _ h rfl
  refine ⟨g.d, g.c.tc, g.p, g.v, ?_⟩
  have := g.n
  unfold phi at this ⊢
  show (_ ++ [_]).length + (k.vis.length - (goVis (k.vis.drop mc.vi) mc).vi) ≤ N + 1
  rw [List.length_append, List.length_singleton]
  show (goVis (k.vis.drop mc.vi) mc).tr.length + 1 + _ ≤ _
  omega
theorem COk.wait (h : COk k ad ac N mc) : COk k ad ac N (waitM r rd mc) := h.ck
theorem COk.tou (h : COk k ad ac N mc) : COk k ad ac (N + 1) (touM mc x) := ⟨h.d.tc, h.c, h.p, h.v, (h.ev (e := .data mc.ck (x / (mc.dc.Z : Int)) (decide (hitV mc.dc x)))).n⟩
theorem COk.work (h : COk k ad ac N mc) : COk k ad ac (N + 1) (workC r ms g mc) := match r with
  | .load _ a base mask => h.tou
  | .store a base mask _ => by
    show COk k ad ac (N + 1) (if g = true then mc else touM mc (adr ms a base mask))
    split
    · exact h.mono (Nat.le_succ N)
    · exact h.tou
  | .out a => by
    show COk k ad ac (N + 1) (if g = true then mc else { mc with tr := mc.tr ++ [.out mc.ck (rgV ms a)] })
    split
    · exact h.mono (Nat.le_succ N)
    · exact h.ev
  | .const _ _ => h.mono (Nat.le_succ N)
  | .op _ _ _ _ => h.mono (Nat.le_succ N)
  | .select _ _ _ _ => h.mono (Nat.le_succ N)
  | .jump _ => h.mono (Nat.le_succ N)
  | .branch _ _ => h.mono (Nat.le_succ N)
  | .stop _ => h.mono (Nat.le_succ N)
theorem COk.gue (h : COk k ad ac N mc) : COk k ad ac (N + 1) (gueM mc a) := h.ev
theorem COk.lrn (h : COk k ad ac N mc) : COk k ad ac N (lrnM mc a t) := ⟨h.d, h.c, h.p.learn, h.v, h.n⟩
theorem COk.wrong {en : Int} : ∀ (n : Nat) {N a : Nat} {ms : MS} {rd : List Int} {mc : MC}, COk k ad ac N mc → COk k ad ac (N + 2 * n) (wrongM k en n a ms rd mc)
  | 0, N, a, ms, rd, mc, h => h
  | n + 1, N, a, ms, rd, mc, h => by
    unfold wrongM
    split
    · split
      · exact h.mono (by omega)
      · rename_i r hr
        have h2 : COk k ad ac (N + 1) (waitM r rd (fetchM k mc a)) := h.fetch.wait
        show COk k ad ac _ (if _ then _ else if _ then _ else _)
        split
        · exact h2.mono (by omega)
        · split
          · exact (COk.wrong n (h2.gue.ck)).mono (by omega)
          · exact (COk.wrong n (h2.work.ck)).mono (by omega)
    · exact h.mono (by omega)
theorem COk.br {p : Nat} (h : COk k ad ac N mc) (hd : k.dep ≤ 64) : COk k ad ac (N + 130) (brM k r a p ms rd mc) := by
  unfold brM
  refine COk.lrn ?_
  show COk k ad ac _ (if _ then _ else _)
  split
  · exact ((h.gue (a := a)).ck (x := mc.ck + 1)).mono (by omega)
  · have z := COk.wrong (en := mx mc.ck (rdAt rd p) + k.wrong) k.dep.toNat (a := aftM r a (gueV mc a)) (ms := ms) (rd := rd) ((h.gue (a := a)).ck (x := mc.ck + 1))
    exact ((z.ev (e := .back (mx mc.ck (rdAt rd p) + k.wrong) a)).ck (x := mx mc.ck (rdAt rd p) + k.wrong)).mono (by omega)
end
/-- the order does not matter, nor do doubles -/
theorem mxL_le {rd : List Int} {x : Int} : ∀ {l : List Int} {c : Int}, mxL rd l c ≤ x ↔ c ≤ x ∧ ∀ a ∈ l, rdAt rd a ≤ x
  | [], c => by
    unfold mxL
    simp
  | a :: l, c => by
    show mxL rd l (mx c (rdAt rd a)) ≤ x ↔ _
    rw [mxL_le]
    constructor
    · rintro ⟨h1, h2⟩
      unfold mx at h1
      refine ⟨?_, fun b hb => ?_⟩
      · split at h1 <;> omega
      · rcases List.mem_cons.mp hb with rfl | hb
        · split at h1 <;> omega
        · exact h2 b hb
    · rintro ⟨h1, h2⟩
      refine ⟨?_, fun b hb => h2 b (List.mem_cons_of_mem _ hb)⟩
      have := h2 a List.mem_cons_self
      unfold mx
      split <;> omega
theorem mxL_eq {rd l m : List Int} {c : Int} (h : ∀ a, a ∈ l ↔ a ∈ m) : mxL rd l c = mxL rd m c := by
  refine Int.le_antisymm ?_ ?_
  · rw [mxL_le]
    obtain ⟨h1, h2⟩ := mxL_le.mp (Int.le_refl (mxL rd m c))
    exact ⟨h1, fun a ha => h2 a ((h a).mp ha)⟩
  · rw [mxL_le]
    obtain ⟨h1, h2⟩ := mxL_le.mp (Int.le_refl (mxL rd l c))
    exact ⟨h1, fun a ha => h2 a ((h a).mpr ha)⟩


/-! ### the machine's objects -/
theorem tab_noTup : ∀ {as : List Addr} {rs : List (List V)} {p : Addr × HO}, p ∈ tab as rs → ∀ xs, p.2 ≠ .tup xs
  | [], _, _, h => by unfold tab at h; cases h
  | _ :: _, [], _, h => by unfold tab at h; cases h
  | a :: as, r :: rs, p, h => by
    unfold tab at h
    rcases List.mem_cons.mp h with rfl | h
    · intro xs e
      cases e
    · exact tab_noTup h
theorem ca_noTup {H : Hp} {d : CAd} {c : CSt} (M : Has H (CaL K d c)) (wf : CWf d c) : NoTup H (CaA d) := fun m hm xs e => by
  rw [← ca_fst (K := K) wf] at hm
  obtain ⟨p, hp, rfl⟩ := List.mem_map.mp hm
  rw [M.is_ p hp] at e
  have e := Option.some.inj e
  simp only [CaL, caF, List.mem_append, List.mem_cons, List.not_mem_nil, or_false] at hp
  rcases hp with (rfl | rfl | rfl | rfl) | h | h | h
  · cases e
  · cases e
  · cases e
  · cases e
  · exact tab_noTup h xs e
  · exact tab_noTup h xs e
  · exact tab_noTup h xs e
structure MA where
  M : Addr
  dx : Addr
  St : Addr
  O : Addr
  T : Addr
  P : Addr
  pdx : Addr
  C : Addr
  rv : V
  vv : V
  d : CAd
  c : CAd
structure SA where
  S : Addr
  dx : Addr
  rg : Addr
  rd : Addr
  wd : Addr
abbrev maO (K : PySem.W.Frag) (k : MK) (m : MA) (mc : MC) : HO := .ins (He.ga K "Machine") m.dx (fs_Machine m.rv (.int k.dep) m.vv (.int k.miss) (.int k.wrong) (.ref m.d.p) (.ref m.c.p) (.ref m.P) (.ref m.St) (.int mc.ck) (.int mc.fe) (.int (mc.vi : Int)) (.ref m.O) (.ref m.T))
abbrev X9 (K : PySem.W.Frag) (k : MK) (m : MA) (s : SA) (ms : MS) (rd : List Int) (mc : MC) (ou : List Int) (us : List V) : List (Addr × HO) :=
  [(s.S, stO K s.dx s.rg s.rd s.wd), (s.rg, .lst (ms.rg.map V.int)), (s.rd, .lst (rd.map V.int)), (s.wd, .dK ms.wd), (m.M, maO K k m mc), (m.O, .lst (ou.map V.int)), (m.T, .lst us), (m.P, prO K m.pdx mc.pr.k mc.pr.b mc.pr.h m.C), (m.C, ctO mc.pr.cs)]
abbrev FL (K : PySem.W.Frag) (k : MK) (m : MA) (s : SA) (ms : MS) (rd : List Int) (mc : MC) (ou : List Int) (us : List V) (Y : List (Addr × HO)) : List (Addr × HO) :=
  X9 K k m s ms rd mc ou us ++ (CaL K m.d mc.dc ++ (CaL K m.c mc.fc ++ Y))
/-- the machine stands in the heap -/
structure MW (K : PySem.W.Frag) (H : Hp) (k : MK) (m : MA) (s : SA) (ms : MS) (rd : List Int) (mc : MC) (ou : List Int) (Y : List (Addr × HO)) : Prop where
  ex : ∃ us, Has H (FL K k m s ms rd mc ou us Y) ∧ Ims H us (mc.tr.map Ev.d)
  r : Im H m.rv (.tuple (k.rows.map Row.d))
  v : Im H m.vv (.tuple (k.vis.map Vi.d))
section
variable {H H' : Hp} {k : MK} {m : MA} {s : SA} {ms ms' : MS} {rd rd' : List Int} {mc : MC} {ou : List Int} {Y : List (Addr × HO)} {Q : VK} {E : XK} {x t : Int} {N d : Nat} {R : Hp → Prop}
theorem MW.get_ (W : MW K H k m s ms rd mc ou Y) : H s.S = some (stO K s.dx s.rg s.rd s.wd) ∧ H s.rg = some (.lst (ms.rg.map V.int)) ∧ H s.rd = some (.lst (rd.map V.int)) ∧ H s.wd = some (.dK ms.wd) ∧ H m.M = some (maO K k m mc) ∧ H m.O = some (.lst (ou.map V.int)) ∧ H m.P = some (prO K m.pdx mc.pr.k mc.pr.b mc.pr.h m.C) ∧ H m.C = some (ctO mc.pr.cs) ∧ H m.d.p = some (caO K m.d mc.dc) ∧ H m.c.p = some (caO K m.c mc.fc) ∧ ∃ us, H m.T = some (.lst us) := by
  obtain ⟨us, M, _⟩ := W.ex
  refine ⟨M.get 0 rfl, M.get 1 rfl, M.get 2 rfl, M.get 3 rfl, M.get 4 rfl, M.get 5 rfl, M.get 7 rfl, M.get 8 rfl, M.get 9 rfl, ?_, us, M.get 6 rfl⟩
  exact M.is_ (m.c.p, caO K m.c mc.fc) (by
    refine List.mem_append_right _ (List.mem_append_right _ (List.mem_append_left _ ?_))
    exact List.mem_append_left _ List.mem_cons_self)
theorem MW.upd_ {us' : List V} {mc' : MC} {ou' : List Int} {m' : MA} (W : MW K H k m s ms rd mc ou Y) (kt : KT H H') (e1 : m'.rv = m.rv) (e2 : m'.vv = m.vv) (M : Has H' (FL K k m' s ms' rd' mc' ou' us' Y)) (im : Ims H' us' (mc'.tr.map Ev.d)) : MW K H' k m' s ms' rd' mc' ou' Y :=
  ⟨⟨us', M, im⟩, by rw [e1]; exact W.r.kt kt, by rw [e2]; exact W.v.kt kt⟩
/-- a register's word -/
theorem w_reg {b : Nat} {cov : Int → Prop} (W : MW K H k m s ms rd mc ou Y) (h : MOk b cov ms) (hd : d < 16) (q : Q (.int (rgV ms d)) H) : rIxU K (.ref s.rg) (.int (d : Int)) H Q := by
  obtain ⟨_, g, _⟩ := W.get_
  exact g_ixL (SqL.of g) (n := d) rfl (by rw [List.getElem?_map, h.at_ hd]; rfl) q
/-- its time -/
theorem w_rdy {i : Int} (W : MW K H k m s ms rd mc ou Y) (hl : rd.length = 16) (h0 : 0 ≤ i) (hd : i < 16) (q : Q (.int (rdAt rd i)) H) : rIxU K (.ref s.rd) (.int i) H Q := by
  obtain ⟨_, _, g, _⟩ := W.get_
  refine g_ixL (SqL.of g) (n := i.toNat) (by omega) ?_ q
  rw [List.getElem?_map]
  unfold rdAt
  rw [List.getD_eq_getElem?_getD, List.getElem?_eq_getElem (by omega)]
  rfl
theorem w_ck (T : Txt fa fn K mg (XOk cs xcs K w)) (W : MW K H k m s ms rd mc ou Y) (q : ∀ H', KT H H' → MW K H' k m s ms rd { mc with ck := x } ou Y → R H') : rSFld K "clock" (.ref m.M) (.int x) H R := by
  obtain ⟨us, M, im⟩ := W.ex
  have kt : ∀ {o : HO}, KT H (upd H m.M o) := KT.set (M.get 4 rfl) (fun _ e => nomatch e)
  exact g_setF M 4 rfl (cl_Machine T) (na_Machine_clock T) (by show 14 < 1000; decide) (pt_ix 9 nd_Machine rfl) (fun M1 => q _ kt (W.upd_ (mc' := { mc with ck := x }) kt rfl rfl M1 (im.kt kt)))
theorem w_ckA (T : Txt fa fn K mg (XOk cs xcs K w)) {tv : TE} {σ : L2.St} (W : MW K H k m s ms rd mc ou Y) (hv : tv σ H fun y H2 => y = .int x ∧ H2 = H) (hm : ∀ {Q Q' : VK}, (∀ v H, Q v H → Q' v H) → tv σ H Q → tv σ H Q') (q : ∀ H', KT H H' → MW K H' k m s ms rd { mc with ck := mc.ck + x } ou Y → R H') : rFA K tv rAdd "clock" σ (.ref m.M) H R := by
  obtain ⟨us, M, im⟩ := W.ex
  have kt : ∀ {o : HO}, KT H (upd H m.M o) := KT.set (M.get 4 rfl) (fun _ e => nomatch e)
  exact g_fa1 (j := x) M 4 rfl (cl_Machine T) (na_Machine_clock T) (lk_ix 9 nd_Machine rfl) hv (by show 14 < 1000; decide) (pt_ix 9 nd_Machine rfl) hm (fun M1 => q _ kt (W.upd_ (mc' := { mc with ck := mc.ck + x }) kt rfl rfl M1 (im.kt kt)))
theorem w_feA (T : Txt fa fn K mg (XOk cs xcs K w)) {tv : TE} {σ : L2.St} (W : MW K H k m s ms rd mc ou Y) (hv : tv σ H fun y H2 => y = .int x ∧ H2 = H) (hm : ∀ {Q Q' : VK}, (∀ v H, Q v H → Q' v H) → tv σ H Q → tv σ H Q') (q : ∀ H', KT H H' → MW K H' k m s ms rd { mc with fe := mc.fe + x } ou Y → R H') : rFA K tv rAdd "fetches" σ (.ref m.M) H R := by
  obtain ⟨us, M, im⟩ := W.ex
  have kt : ∀ {o : HO}, KT H (upd H m.M o) := KT.set (M.get 4 rfl) (fun _ e => nomatch e)
  exact g_fa1 (j := x) M 4 rfl (cl_Machine T) (na_Machine_fetches T) (lk_ix 10 nd_Machine rfl) hv (by show 14 < 1000; decide) (pt_ix 10 nd_Machine rfl) hm (fun M1 => q _ kt (W.upd_ (mc' := { mc with fe := mc.fe + x }) kt rfl rfl M1 (im.kt kt)))
theorem w_viA (T : Txt fa fn K mg (XOk cs xcs K w)) {tv : TE} {σ : L2.St} (W : MW K H k m s ms rd mc ou Y) (hv : tv σ H fun y H2 => y = .int 1 ∧ H2 = H) (hm : ∀ {Q Q' : VK}, (∀ v H, Q v H → Q' v H) → tv σ H Q → tv σ H Q') (q : ∀ H', KT H H' → MW K H' k m s ms rd { mc with vi := mc.vi + 1 } ou Y → R H') : rFA K tv rAdd "visited" σ (.ref m.M) H R := by
  obtain ⟨us, M, im⟩ := W.ex
  have kt : ∀ {o : HO}, KT H (upd H m.M o) := KT.set (M.get 4 rfl) (fun _ e => nomatch e)
  exact g_fa1 (j := 1) M 4 rfl (cl_Machine T) (na_Machine_visited T) (lk_ix 11 nd_Machine rfl) hv (by show 14 < 1000; decide) (pt_ix 11 nd_Machine rfl) hm (fun M1 => q _ kt (W.upd_ (mc' := { mc with vi := mc.vi + 1 }) kt rfl rfl M1 (im.kt kt)))
/-- an event -/
theorem w_ev {y : V} {e : Ev} (W : MW K H k m s ms rd mc ou Y) (hn : mc.tr.length < 16000000) (hy : Im H y e.d) (q : ∀ H', KT H H' → MW K H' k m s ms rd { mc with tr := mc.tr ++ [e] } ou Y → Q .non H') : rAppend (.ref m.T) [y] H Q := by
  obtain ⟨us, M, im⟩ := W.ex
  have kt : ∀ {o : HO}, KT H (upd H m.T o) := KT.set (M.get 6 rfl) (fun _ e => nomatch e)
  have ul : us.length = mc.tr.length := by rw [im.length, List.length_map]
  refine g_append M 6 rfl (by rw [ul]; exact Nat.lt_trans hn (by decide)) (fun M1 => q _ kt (W.upd_ (us' := us ++ [y]) (mc' := { mc with tr := mc.tr ++ [e] }) kt rfl rfl M1 ?_))
  show Ims _ _ ((mc.tr ++ [e]).map Ev.d)
  rw [List.map_append]
  exact (im.append (Ims.one hy)).kt kt
/-- a word put out -/
theorem w_out (W : MW K H k m s ms rd mc ou Y) (hn : ou.length < 90000) (q : ∀ H', KT H H' → MW K H' k m s ms rd mc (ou ++ [x]) Y → Q .non H') : rAppend (.ref m.O) [.int x] H Q := by
  obtain ⟨us, M, im⟩ := W.ex
  have kt : ∀ {o : HO}, KT H (upd H m.O o) := KT.set (M.get 5 rfl) (fun _ e => nomatch e)
  refine g_append M 5 rfl (szl (by rw [List.length_map]; omega)) (fun M1 => ?_)
  have e : ou.map V.int ++ [V.int x] = (ou ++ [x]).map V.int := by simp
  rw [e] at M1 ⊢
  exact q _ kt (W.upd_ kt rfl rfl M1 (im.kt kt))
theorem w_touch (W : MW K H k m s ms rd mc ou Y) (wf : CWf m.d mc.dc) (q : ∀ H', KT H H' → MW K H' k m s ms rd { mc with dc := tcV mc.dc x } ou Y → Q (.bl (decide (hitV mc.dc x))) H') : sp_Cache_touch K (.ref m.d.p :: ([.int x] ++ [])) H Q E := by
  obtain ⟨us, M, im⟩ := W.ex
  refine use_touch M wf (fun H' kp M' => ?_)
  have kt := KT.keep kp (ca_noTup M.mid wf)
  exact q _ kt (W.upd_ (mc' := { mc with dc := tcV mc.dc x }) kt rfl rfl M' (im.kt kt))
theorem w_drop (W : MW K H k m s ms rd mc ou Y) (wf : CWf m.d mc.dc) (q : ∀ H', KT H H' → MW K H' k m s ms rd { mc with dc := dpV mc.dc x } ou Y → Q (.bl (decide (hitV mc.dc x))) H') : sp_Cache_drop K (.ref m.d.p :: ([.int x] ++ [])) H Q E := by
  obtain ⟨us, M, im⟩ := W.ex
  refine use_drop M wf (fun H' kp M' => ?_)
  have kt := KT.keep kp (ca_noTup M.mid wf)
  exact q _ kt (W.upd_ (mc' := { mc with dc := dpV mc.dc x }) kt rfl rfl M' (im.kt kt))
theorem w_line (W : MW K H k m s ms rd mc ou Y) (wf : CWf m.d mc.dc) (q : Q (.int (x / (mc.dc.Z : Int))) H) : sp_Cache_line_of K (.ref m.d.p :: ([.int x] ++ [])) H Q E := by
  obtain ⟨us, M, im⟩ := W.ex
  exact ⟨m.d, mc.dc, x, rfl, M.mid, wf, q⟩
theorem MW.code_ (W : MW K H k m s ms rd mc ou Y) : ∃ us, Has H ((X9 K k m s ms rd mc ou us ++ CaL K m.d mc.dc) ++ (CaL K m.c mc.fc ++ Y)) ∧ Ims H us (mc.tr.map Ev.d) := by
  obtain ⟨us, M, im⟩ := W.ex
  exact ⟨us, by rw [List.append_assoc]; exact M, im⟩
theorem w_ftouch (W : MW K H k m s ms rd mc ou Y) (wf : CWf m.c mc.fc) (q : ∀ H', KT H H' → MW K H' k m s ms rd { mc with fc := tcV mc.fc x } ou Y → Q (.bl (decide (hitV mc.fc x))) H') : sp_Cache_touch K (.ref m.c.p :: ([.int x] ++ [])) H Q E := by
  obtain ⟨us, M, im⟩ := W.code_
  refine use_touch M wf (fun H' kp M' => ?_)
  have kt := KT.keep kp (ca_noTup M.mid wf)
  rw [List.append_assoc] at M'
  exact q _ kt (W.upd_ (mc' := { mc with fc := tcV mc.fc x }) kt rfl rfl M' (im.kt kt))
theorem w_fline (W : MW K H k m s ms rd mc ou Y) (wf : CWf m.c mc.fc) (q : Q (.int (x / (mc.fc.Z : Int))) H) : sp_Cache_line_of K (.ref m.c.p :: ([.int x] ++ [])) H Q E := by
  obtain ⟨us, M, im⟩ := W.code_
  exact ⟨m.c, mc.fc, x, rfl, M.mid, wf, q⟩
end
/-! ### digits, costs -/
def sp_digits_of (K : PySem.W.Frag) : Sp := fun vs H Q _ => ∃ n : Int, vs = [.int n] ∧ 0 ≤ n ∧ Q (.int (digs n.toNat)) H
theorem sc_digits_of : FnScope ["word", "many"] ["word"] (defScope (topS 14)) := ⟨rfl, rfl, rfl, by decide +kernel, rfl, by decide +kernel, by decide +kernel⟩
theorem ok_digits_of (T : Txt fa fn K mg (XOk cs xcs K w)) : Dn P w K mg base CX0 1 "digits_of" ["word"] (sp_digits_of K) := by
  refine mk_dn (d := dOf "digits_of" 14) T 5 5 rfl rfl rfl rfl rfl sc_digits_of (by walk_at "len") (fun _ _ _ _ _ _ us hl => match us, hl with | [_], _ => rfl) (fun cdv A outer s H vs Q E hr h => ⟨_, (pss_cons (ps_set (i := 1) sc_digits_of.nd rfl (.inl rfl) pe_int)
      (pss_cons (ps_while PassesOwn.never (pt_cmpR o_gt (pv 0) pe_int (nomark _)) (pss_cons (ps_aug (i := 0) sc_digits_of.nd rfl (.inl rfl) pe_int io_fdiv)
      (pss_one (ps_aug (i := 1) sc_digits_of.nd rfl (.inl rfl) pe_int ip_add))))
      (pss_one (ps_ret (pv 1))))), ?_⟩)
  obtain ⟨n, rfl, hn, hQ⟩ := h
  walk_at "go"
  refine ⟨fun m σ H' => ∃ (a b : Int), σ = [some (.int a), some (.int b)] ∧ H' = H ∧ 0 ≤ a ∧ a.toNat = m ∧ b + digs a.toNat = digs n.toNat, ⟨_, _, _, rfl, rfl, hn, rfl, Int.zero_add _⟩, ?_⟩
  rintro m σ H' ⟨a, b, rfl, rfl, ha, rfl, e⟩
  walk_at "go"
  refine g_if (fun h => ?_) (fun h => ?_)
  · refine g_whileT ?_
    walk_at "go"
    have e1 : (a / 2).toNat = a.toNat / 2 := by omega
    refine ⟨_, ?_, a / 2, b + 1, rfl, rfl, by omega, rfl, ?_⟩
    · omega
    · rw [← e, digs_pos (n := a.toNat) (by omega), e1]
      omega
  · walk_at "go"
    have h0 : a = 0 := by omega
    subst h0
    have e2 : b = digs n.toNat := by
      rw [← e]
      simp [digs]
    rw [e2]
    exact hQ
def sp_cost_of (K : PySem.W.Frag) : Sp := fun vs H Q _ => ∃ (s : Sg) (z : Str) (a b : Int), vs = [.str z, .int a, .int b] ∧ z = s.s ∧ 0 ≤ a ∧ 0 ≤ b ∧ ∀ H', Same H H' → Q (.int (costS s a b)) H'
theorem sc_cost_of : FnScope ["sign", "a", "b"] ["sign", "a", "b"] (defScope (topS 15)) := ⟨rfl, rfl, rfl, by decide +kernel, rfl, by decide +kernel, by decide +kernel⟩
theorem ok_cost_of (T : Txt fa fn K mg (XOk cs xcs K w)) : Dn P w K mg base CX0 2 "cost_of" ["sign", "a", "b"] (sp_cost_of K) := by
  refine mk_dn (d := dOf "cost_of" 15) T 6 6 rfl rfl rfl rfl rfl sc_cost_of (by walk_at "len") (fun _ _ _ _ _ _ us hl => match us, hl with | [_, _, _], _ => rfl) (fun cdv A outer s H vs Q E hr h => ⟨_, (pss_cons (ps_if (pt_cmpR (op_eqU (K := K) rfl hr.units) (pv 0) pe_str (nomark _)) (pss_one (ps_ret pe_int)) pss_nil)
      (pss_cons (ps_if (pt_cmpR (op_inU (K := K) rfl (hu65 hr)) (pv 0) (pe_tup (pa_cons pe_str (pa_cons pe_str pa_nil))) (by rfl)) (pss_one (ps_ret (pe_op (op_addU (K := K) rfl) pe_int (pe_callB (c_max2 rfl) rfl (T.free 130 rfl) (by decide +kernel) (pa_cons pe_int (pa_cons (pe_op op_sub (pe_callD (K := K) rfl (ok_digits_of T) (hr.mono (by decide)) rfl pass0 (pa_cons (pv 1) pa_nil)) (pe_callD (K := K) rfl (ok_digits_of T) (hr.mono (by decide)) rfl pass0 (pa_cons (pv 2) pa_nil))) pa_nil)))))) pss_nil)
      (pss_one (ps_ret pe_int)))), ?_⟩)
  obtain ⟨s, z, a, b, rfl, hz, ha, hb, hQ⟩ := h
  cases s <;> (simp only [Sg.s] at hz; subst hz)
  case mul =>
    walk_at "go"
    exact hQ _ (Same.refl H)
  all_goals
    walk_at "go"
    refine ⟨by decide, fun p hp => ?_⟩
    have sp := Same.new (o := .tup [.str "div", .str "mod"]) hp
    refine g_inTs (ks := ["div", "mod"]) (.inl upd_same) ?_
    walk_at "go"
  case div =>
    refine g_is (by decide +kernel) ?_
    walk_at "go"
    refine ⟨_, rfl, ha, ?_⟩
    walk_at "go"
    refine ⟨_, rfl, hb, ?_⟩
    walk_at "go"
    refine q_int ?_ (hQ _ sp)
    show 4 + max 0 ((digs a.toNat : Int) - digs b.toNat) = _
    split <;> omega
  case mod =>
    refine g_is (by decide +kernel) ?_
    walk_at "go"
    refine ⟨_, rfl, ha, ?_⟩
    walk_at "go"
    refine ⟨_, rfl, hb, ?_⟩
    walk_at "go"
    refine q_int ?_ (hQ _ sp)
    show 4 + max 0 ((digs a.toNat : Int) - digs b.toNat) = _
    split <;> omega
  all_goals
    refine g_isnt (by decide +kernel) ?_
    walk_at "go"
    exact hQ _ sp


/-! ### the machine's methods -/
section
variable {H H' : Hp} {k : MK} {m : MA} {s : SA} {ms ms' : MS} {rd rd' : List Int} {mc : MC} {ou : List Int} {Y : List (Addr × HO)} {Q : VK} {E : XK} {x t : Int} {N d : Nat} {R : Hp → Prop}
theorem MW.same (W : MW K H k m s ms rd mc ou Y) (h : Same H H') : MW K H' k m s ms rd mc ou Y := by
  obtain ⟨⟨us, M, im⟩, r, v⟩ := W
  exact ⟨⟨us, M.keep h, im.same h⟩, r.same h, v.same h⟩
end
def sp_State_put (K : PySem.W.Frag) : Sp := fun vs H Q _ => ∃ (sa dx rg rd wd : Addr) (rl tl : List Int) (d : Nat) (x t : Int) (Y : List (Addr × HO)), vs = [.ref sa, .int (d : Int), .int x, .int t] ∧ Has H ((sa, stO K dx rg rd wd) :: (rg, .lst (rl.map V.int)) :: (rd, .lst (tl.map V.int)) :: Y) ∧ d < rl.length ∧ d < tl.length ∧
  ∀ H', KT H H' → Has H' ((sa, stO K dx rg rd wd) :: (rg, .lst ((rl.set d x).map V.int)) :: (rd, .lst ((tl.set d t).map V.int)) :: Y) → Q .non H'
theorem sc_State_put : FnScope ["self", "place", "word", "time"] ["self", "place", "word", "time"] (defScope (inClass (topS 17) 2)) := ⟨rfl, rfl, rfl, by decide +kernel, rfl, by decide +kernel, by decide +kernel⟩
theorem mt_State_put (T : Txt fa fn K mg (XOk cs xcs K w)) : Mt P w K mg base CX0 1 "State" "put" ["self", "place", "word", "time"] (sp_State_put K) := by
  refine mk_mt (d := mOf "State" "put" "State.put" (inClass (topS 17) 2)) T 65 rfl rfl rfl rfl sc_State_put (by walk_at "len") (fun _ _ _ _ _ _ us hl => match us, hl with | [_, _, _, _], _ => rfl) (fun cdv A outer s H vs Q E hr h => ⟨_, (pss_cons (ps_asg (pv 2) (pg_sub (pe_fldU (K := K) rfl (pv 0) rfl) (pv 1) (set_U (hu_of hr))))
      (pss_one (ps_asg (pv 3) (pg_sub (pe_fldU (K := K) rfl (pv 0) rfl) (pv 1) (set_U (hu_of hr)))))), ?_⟩)
  obtain ⟨sa, dx, rg, rd, wd, rl, tl, d, x, t, Y, rfl, M, h1, h2, hQ⟩ := h
  walk_at "go"
  have e1 : (rl.map V.int).set d (.int x) = (rl.set d x).map V.int := List.map_set.symm
  have e2 : (tl.map V.int).set d (.int t) = (tl.set d t).map V.int := List.map_set.symm
  refine g_setU M 1 rfl rfl (by rw [List.length_map]; exact h1) ?_
  rw [e1]
  intro M1
  have k1 : KT H (upd H rg (.lst ((rl.set d x).map V.int))) := KT.set (M.get 1 rfl) (fun _ e => nomatch e)
  have M1 : Has (upd H rg (.lst ((rl.set d x).map V.int))) ((sa, stO K dx rg rd wd) :: (rg, .lst ((rl.set d x).map V.int)) :: (rd, .lst (tl.map V.int)) :: Y) := M1
  walk_at "go"
  refine g_setU M1 2 rfl rfl (by rw [List.length_map]; exact h2) ?_
  rw [e2]
  intro M2
  walk_at "go"
  exact hQ _ (k1.trans (KT.set (M1.get 2 rfl) (fun _ e => nomatch e))) M2
theorem w_put {H : Hp} {k : MK} {m : MA} {s : SA} {ms : MS} {rd : List Int} {mc : MC} {ou : List Int} {Y : List (Addr × HO)} {Q : VK} {E : XK} {x t : Int} {d b : Nat} {cov : Int → Prop} (W : MW K H k m s ms rd mc ou Y) (h : MOk b cov ms) (hl : rd.length = 16) (hd : d < 16)
    (q : ∀ H', KT H H' → MW K H' k m s (put ms d x) (rd.set d t) mc ou Y → Q .non H') : sp_State_put K (.ref s.S :: ([.int (d : Int), .int x, .int t] ++ [])) H Q E := by
  obtain ⟨us, M, im⟩ := W.ex
  exact ⟨s.S, s.dx, s.rg, s.rd, s.wd, ms.rg, rd, d, x, t, _, rfl, M, by rw [h.l]; exact hd, by omega, fun H' kt M' => q H' kt (W.upd_ (ms' := put ms d x) (rd' := rd.set d t) kt rfl rfl M' (im.kt kt))⟩
/-- what every method asks and keeps -/
structure MG (K : PySem.W.Frag) (H : Hp) (k : MK) (m : MA) (s : SA) (ms : MS) (rd : List Int) (mc : MC) (ou : List Int) (Y : List (Addr × HO)) (N b : Nat) (cov : Int → Prop) : Prop where
  W : MW K H k m s ms rd mc ou Y
  c : COk k m.d m.c N mc
  o : MOk b cov ms
  l : rd.length = 16
section
variable {H H' : Hp} {k : MK} {m : MA} {s : SA} {ms ms' : MS} {rd rd' : List Int} {mc mc' : MC} {ou : List Int} {Y : List (Addr × HO)} {N b : Nat} {cov : Int → Prop}
theorem MG.up {N' : Nat} (G : MG K H k m s ms rd mc ou Y N b cov) (W : MW K H' k m s ms rd mc' ou Y) (c : COk k m.d m.c N' mc') : MG K H' k m s ms rd mc' ou Y N' b cov := ⟨W, c, G.o, G.l⟩
theorem MG.same (G : MG K H k m s ms rd mc ou Y N b cov) (h : Same H H') : MG K H' k m s ms rd mc ou Y N b cov := ⟨G.W.same h, G.c, G.o, G.l⟩
end
def sp_Machine_visit (K : PySem.W.Frag) : Sp := fun vs H Q _ => ∃ (k : MK) (m : MA) (s : SA) (ms : MS) (rd : List Int) (mc : MC) (ou : List Int) (Y : List (Addr × HO)) (v : Vi) (N : Nat), vs = [.ref m.M, .str (tdS v.t), .int v.a] ∧ MW K H k m s ms rd mc ou Y ∧ COk k m.d m.c N mc ∧ N < 16000000 ∧
  ∀ H', KT H H' → MW K H' k m s ms rd (visM mc v) ou Y → Q .non H'
theorem td_t : tdS true = "touch" := rfl
theorem td_f : tdS false = "drop" := rfl
theorem sc_Machine_visit : FnScope ["self", "kind", "address", "found"] ["self", "kind", "address"] (defScope (inClass (topS 18) 2)) := ⟨rfl, rfl, rfl, by decide +kernel, rfl, by decide +kernel, by decide +kernel⟩
theorem mt_Machine_visit (T : Txt fa fn K mg (XOk cs xcs K w)) : Mt P w K mg base CX0 4 "Machine" "visit" ["self", "kind", "address"] (sp_Machine_visit K) := by
  refine mk_mt (d := mOf "Machine" "visit" "Machine.visit" (inClass (topS 18) 2)) T 69 rfl rfl rfl rfl sc_Machine_visit (by walk_at "len") (fun _ _ _ _ _ _ us hl => match us, hl with | [_, _, _], _ => rfl) (fun cdv A outer s H vs Q E hr h => ⟨_, (pss_cons (ps_if (pt_cmpR (op_eqU (K := K) rfl hr.units) (pv 1) pe_str (nomark _)) (pss_one (ps_set (i := 3) sc_Machine_visit.nd rfl (.inl rfl) (pe_methD (K := K) rfl (mt_Cache_touch T) (cl_Cache T) (T.meth 61 rfl) (hr.mono (by decide)) pass0 (pe_fldU (K := K) rfl (pv 0) rfl) (pa_cons (pv 2) pa_nil)))) (pss_one (ps_set (i := 3) sc_Machine_visit.nd rfl (.inl rfl) (pe_methD (K := K) rfl (mt_Cache_drop T) (cl_Cache T) (T.meth 65 rfl) (hr.mono (by decide)) pass0 (pe_fldU (K := K) rfl (pv 0) rfl) (pa_cons (pv 2) pa_nil)))))
      (pss_one (ps_expr (pe_bm PySem.F.plainAttrs_list PySem.F.slot_list_append PySem.F.type_list_append mt_append (pe_fldU (K := K) rfl (pv 0) rfl) (pa_cons (pe_tup (pa_cons (pv 1) (pa_cons (pe_fldU (K := K) rfl (pv 0) rfl) (pa_cons (pe_methD (K := K) rfl (mt_Cache_line_of T) (cl_Cache T) (T.meth 59 rfl) (hr.mono (by decide)) pass0 (pe_fldU (K := K) rfl (pv 0) rfl) (pa_cons (pv 2) pa_nil)) (pa_cons (pv 3) pa_nil))))) pa_nil))))), ?_⟩)
  obtain ⟨k, m, s, ms, rd, mc, ou, Y, ⟨vn, vt, va⟩, N, rfl, W, c, hN, hQ⟩ := h
  have hlen := c.len
  obtain ⟨gS, grg, grd, gwd, gM, gO, gP, gC, gd, gc, us, gT⟩ := W.get_
  cases vt with
  | true =>
    rw [show tdS (Vi.mk vn true va).t = "touch" from rfl]
    walk_at "go"
    refine w_touch W c.d (fun H1 k1 W1 => ?_)
    obtain ⟨gS, grg, grd, gwd, gM, gO, gP, gC, gd, gc, us, gT⟩ := W1.get_
    walk_at "go"
    refine w_line W1 c.d.tc ?_
    walk_at "go"
    refine m_new (.cons (.str _) (.cons (.int _) (.cons (.int _) (.cons (.bl _) .nil)))) (by simp) (fun p H2 s2 hp im => ?_)
    walk_at "go"
    refine w_ev (e := .visit true mc.ck (va / (mc.dc.Z : Int)) (decide (hitV mc.dc va))) (W1.same s2) (by show mc.tr.length < _; omega) im (fun H3 k3 W3 => ?_)
    walk_at "go"
    exact hQ _ ((k1.trans (KT.of s2)).trans k3) W3
  | false =>
    rw [show tdS (Vi.mk vn false va).t = "drop" from rfl]
    walk_at "go"
    refine w_drop W c.d (fun H1 k1 W1 => ?_)
    obtain ⟨gS, grg, grd, gwd, gM, gO, gP, gC, gd, gc, us, gT⟩ := W1.get_
    walk_at "go"
    refine w_line W1 c.d.dp ?_
    walk_at "go"
    refine m_new (.cons (.str _) (.cons (.int _) (.cons (.int _) (.cons (.bl _) .nil)))) (by simp) (fun p H2 s2 hp im => ?_)
    walk_at "go"
    refine w_ev (e := .visit false mc.ck (va / (mc.dc.Z : Int)) (decide (hitV mc.dc va))) (W1.same s2) (by show mc.tr.length < _; omega) im (fun H3 k3 W3 => ?_)
    walk_at "go"
    exact hQ _ ((k1.trans (KT.of s2)).trans k3) W3
def sp_Machine_fetch (K : PySem.W.Frag) : Sp := fun vs H Q _ => ∃ (k : MK) (m : MA) (s : SA) (ms : MS) (rd : List Int) (mc : MC) (ou : List Int) (Y : List (Addr × HO)) (a N : Nat), vs = [.ref m.M, .int (a : Int)] ∧ MW K H k m s ms rd mc ou Y ∧ COk k m.d m.c N mc ∧ N < 16000000 ∧
  ∀ H', KT H H' → MW K H' k m s ms rd (fetchM k mc a) ou Y → Q .non H'
theorem goVis_cons {v : Vi} {r : List Vi} {mc : MC} : goVis (v :: r) mc = if v.n ≤ mc.fe then goVis r { visM mc v with vi := mc.vi + 1 } else mc := rfl
theorem vi3 {H : Hp} {x : V} {v : Vi} (h : Im H x v.d) : ∃ a, x = .ref a ∧ H a = some (.tup [.int v.n, .str (tdS v.t), .int v.a]) := by
  obtain ⟨a, x1, x2, x3, rfl, h1, i1, i2, i3⟩ := im3 h
  obtain rfl := i1.int_inv
  obtain rfl := i2.str_inv
  obtain rfl := i3.int_inv
  exact ⟨a, rfl, h1⟩
theorem sc_Machine_fetch : FnScope ["self", "at", "hit"] ["self", "at"] (defScope (inClass (topS 18) 3)) := ⟨rfl, rfl, rfl, by decide +kernel, rfl, by decide +kernel, by decide +kernel⟩
theorem mt_Machine_fetch (T : Txt fa fn K mg (XOk cs xcs K w)) : Mt P w K mg base CX0 5 "Machine" "fetch" ["self", "at"] (sp_Machine_fetch K) := by
  refine mk_mt (d := mOf "Machine" "fetch" "Machine.fetch" (inClass (topS 18) 3)) T 70 rfl rfl rfl rfl sc_Machine_fetch (by walk_at "len") (fun _ _ _ _ _ _ us hl => match us, hl with | [_, _], _ => rfl) (fun cdv A outer s H vs Q E hr h => ⟨_, (pss_cons (ps_join (ps_while PassesOwn.never (PW.pt (pw_and (pt_cmpR o_lt (pe_fldU (K := K) rfl (pv 0) rfl) (pe_callB (c_len (K := K) rfl) rfl (T.free 128 rfl) (by decide +kernel) (pa_cons (pe_fldU (K := K) rfl (pv 0) rfl) pa_nil)) (nomark _)) (pw_and1 (pt_cmpR o_le (pe_ixU (K := K) rfl (hu_of hr) (pe_ixU (K := K) rfl (hu_of hr) (pe_fldU (K := K) rfl (pv 0) rfl) (pe_fldU (K := K) rfl (pv 0) rfl)) pe_int) (pe_fldU (K := K) rfl (pv 0) rfl) (nomark _))))) (pss_cons (ps_expr (pe_methD (K := K) rfl (mt_Machine_visit T) (cl_Machine T) (T.meth 94 rfl) (hr.mono (by decide)) pass0 (pv 0) (pa_cons (pe_ixU (K := K) rfl (hu_of hr) (pe_ixU (K := K) rfl (hu_of hr) (pe_fldU (K := K) rfl (pv 0) rfl) (pe_fldU (K := K) rfl (pv 0) rfl)) pe_int) (pa_cons (pe_ixU (K := K) rfl (hu_of hr) (pe_ixU (K := K) rfl (hu_of hr) (pe_fldU (K := K) rfl (pv 0) rfl) (pe_fldU (K := K) rfl (pv 0) rfl)) pe_int) pa_nil))))
      (pss_one (ps_fldaug (pv 0) pe_int in_add)))))
      (pss_cons (ps_fldaug (pv 0) pe_int in_add)
      (pss_cons (ps_set (i := 2) sc_Machine_fetch.nd rfl (.inl rfl) (pe_methD (K := K) rfl (mt_Cache_touch T) (cl_Cache T) (T.meth 61 rfl) (hr.mono (by decide)) pass0 (pe_fldU (K := K) rfl (pv 0) rfl) (pa_cons (pv 1) pa_nil)))
      (pss_cons (ps_expr (pe_bm PySem.F.plainAttrs_list PySem.F.slot_list_append PySem.F.type_list_append mt_append (pe_fldU (K := K) rfl (pv 0) rfl) (pa_cons (pe_tup (pa_cons pe_str (pa_cons (pe_fldU (K := K) rfl (pv 0) rfl) (pa_cons (pe_methD (K := K) rfl (mt_Cache_line_of T) (cl_Cache T) (T.meth 59 rfl) (hr.mono (by decide)) pass0 (pe_fldU (K := K) rfl (pv 0) rfl) (pa_cons (pv 1) pa_nil)) (pa_cons (pv 2) pa_nil))))) pa_nil)))
      (pss_one (ps_if (pt_not (pt_tru (K := K) rfl (pv 2))) (pss_one (ps_fldaug (pv 0) (pe_fldU (K := K) rfl (pv 0) rfl) in_add)) pss_nil)))))), ?_⟩)
  obtain ⟨k, m, s, ms, rd, mc, ou, Y, a, N, rfl, W, c, hN, hQ⟩ := h
  walk_at "go"
  refine ⟨fun σ' H' => ∃ (h : Option V), σ' = [some (.ref m.M), some (.int (a : Int)), h] ∧ KT H H' ∧ MW K H' k m s ms rd (goVis (k.vis.drop mc.vi) mc) ou Y, ?_, ?_⟩
  · walk_at "go"
    refine ⟨fun n σ H' => ∃ (mc' : MC) (h : Option V), σ = [some (.ref m.M), some (.int (a : Int)), h] ∧ KT H H' ∧ MW K H' k m s ms rd mc' ou Y ∧ COk k m.d m.c N mc' ∧ goVis (k.vis.drop mc'.vi) mc' = goVis (k.vis.drop mc.vi) mc ∧ n = k.vis.length - mc'.vi, ⟨_, mc, _, rfl, KT.refl, W, c, rfl, rfl⟩, ?_⟩
    rintro n σ H1 ⟨mc', h, rfl, k1, W1, c1, e1, rfl⟩
    obtain ⟨gS, grg, grd, gwd, gM, gO, gP, gC, gd, gc, us, gT⟩ := W1.get_
    walk_at "go"
    refine m_len W1.v ?_
    rw [List.length_map]
    walk_at "go"
    refine g_if (fun h1 => ?_) (fun h1 => ?_)
    · have hv : mc'.vi < k.vis.length := by omega
      have hvi : k.vis[mc'.vi]? = some k.vis[mc'.vi] := List.getElem?_eq_getElem hv
      have hdrop : k.vis.drop mc'.vi = k.vis[mc'.vi] :: k.vis.drop (mc'.vi + 1) := List.drop_eq_getElem_cons hv
      generalize k.vis[mc'.vi] = v at hvi hdrop
      rw [hdrop] at e1
      have hq : (k.vis.map Vi.d)[mc'.vi]? = some v.d := by rw [List.getElem?_map, hvi]; rfl
      walk_at "go"
      refine m_ix W1.v (n := mc'.vi) rfl hq (fun y hy => ?_)
      obtain ⟨ya, rfl, hya⟩ := vi3 hy
      walk_at "go"
      refine g_if (fun h2 => ?_) (fun h2 => ?_)
      · refine g_whileT ?_
        rw [goVis_cons, if_pos h2] at e1
        walk_at "go"
        refine m_ix W1.v (n := mc'.vi) rfl hq (fun y hy => ?_)
        obtain ⟨ya, rfl, hya⟩ := vi3 hy
        walk_at "go"
        refine m_ix W1.v (n := mc'.vi) rfl hq (fun y hy => ?_)
        obtain ⟨ya, rfl, hya⟩ := vi3 hy
        walk_at "go"
        refine ⟨k, m, s, ms, rd, mc', ou, Y, v, N, rfl, W1, c1, hN, fun H2 k2 W2 => ?_⟩
        obtain ⟨gS, grg, grd, gwd, gM, gO, gP, gC, gd, gc, us, gT⟩ := W2.get_
        walk_at "go"
        dsimp only
        refine g_fldaug ?_
        walk_at "go"
        refine w_viA T W2 ⟨rfl, rfl⟩ (fun hh z => hh _ _ z) (fun H3 k3 W3 => ?_)
        walk_at "go"
        refine ⟨_, ?_, { visM mc' v with vi := mc'.vi + 1 }, _, rfl, (k1.trans k2).trans k3, W3, c1.vis hv, e1, rfl⟩
        show k.vis.length - (mc'.vi + 1) < _
        omega
      · rw [goVis_cons, if_neg h2] at e1
        walk_at "go"
        rw [← e1]
        exact ⟨_, rfl, k1, W1⟩
    · have hd : k.vis.drop mc'.vi = [] := List.drop_of_length_le (by omega)
      rw [hd] at e1
      have e1 : mc' = goVis (k.vis.drop mc.vi) mc := e1
      walk_at "go"
      rw [← e1]
      exact ⟨_, rfl, k1, W1⟩
  · rintro σ' H1 ⟨h, rfl, k1, W1⟩
    have c1 := COk.go _ c rfl
    have hlen := c1.len
    generalize hmm : goVis (k.vis.drop mc.vi) mc = mm at W1 c1 hlen
    obtain ⟨gS, grg, grd, gwd, gM, gO, gP, gC, gd, gc, us, gT⟩ := W1.get_
    walk_at "go"
    refine g_fldaug ?_
    walk_at "go"
    refine w_feA T W1 ⟨rfl, rfl⟩ (fun hh z => hh _ _ z) (fun H2 k2 W2 => ?_)
    obtain ⟨gS, grg, grd, gwd, gM, gO, gP, gC, gd, gc, us, gT⟩ := W2.get_
    walk_at "go"
    refine w_ftouch W2 c1.c (fun H3 k3 W3 => ?_)
    obtain ⟨gS, grg, grd, gwd, gM, gO, gP, gC, gd, gc, us, gT⟩ := W3.get_
    walk_at "go"
    refine w_fline W3 c1.c.tc ?_
    walk_at "go"
    refine m_new (.cons (.str _) (.cons (.int _) (.cons (.int _) (.cons (.bl _) .nil)))) (by simp) (fun p H4 s4 hp im => ?_)
    walk_at "go"
    refine w_ev (e := .fetch mm.ck ((a : Int) / (mm.fc.Z : Int)) (decide (hitV mm.fc a))) (W3.same s4) (by show mm.tr.length < _; omega) im (fun H5 k5 W5 => ?_)
    have kk := (((k1.trans k2).trans k3).trans (KT.of s4)).trans k5
    obtain ⟨gS, grg, grd, gwd, gM, gO, gP, gC, gd, gc, us, gT⟩ := W5.get_
    walk_at "go"
    refine g_ifN (fun h2 => ?_) (fun h2 => ?_)
    · walk_at "go"
      refine g_fldaug ?_
      walk_at "go"
      refine w_ckA (x := k.miss) T W5 ?_ ?_ (fun H6 k6 W6 => ?_)
      · walk_at "go"
        exact ⟨rfl, rfl⟩
      · intro Q Q' hh z
        obtain ⟨a1, b1, c1, d1, e1, f1, g1, h1, i1, j1, k1, l1, z⟩ := z
        exact ⟨a1, b1, c1, d1, e1, f1, g1, h1, i1, j1, k1, l1, hh _ _ z⟩
      walk_at "go"
      refine hQ _ (kk.trans k6) ?_
      unfold fetchM
      rw [hmm]
      show MW K _ k m s ms rd { mm with fe := mm.fe + 1, fc := _, tr := _, ck := if hitV mm.fc a then mm.ck else mm.ck + k.miss } ou Y
      rw [if_neg h2]
      exact W6
    · walk_at "go"
      refine hQ _ kk ?_
      unfold fetchM
      rw [hmm]
      show MW K _ k m s ms rd { mm with fe := mm.fe + 1, fc := _, tr := _, ck := if hitV mm.fc a then mm.ck else mm.ck + k.miss } ou Y
      rw [if_pos h2]
      exact W5
def Row.ks : Row → List PK
  | .const _ _ => [.d, .n]
  | .op _ _ _ _ => [.sg, .d, .a, .a]
  | .select _ _ _ _ => [.d, .a, .a, .a]
  | .load _ _ _ _ => [.d, .a, .b, .m]
  | .store _ _ _ _ => [.a, .b, .m, .a]
  | .out _ => [.a]
  | .jump _ => [.t]
  | .branch _ _ => [.a, .t]
  | .stop _ => [.a]
theorem row_shp {r : Row} : (r.nm, r.ks) ∈ shpL := by
  cases r <;> simp [Row.nm, Row.ks, shpL]
theorem row_rok {r : Row} : ReadOk r.ks r.v := by
  cases r <;> refine ⟨rfl, fun i hi ha => ?_⟩ <;> simp only [Row.ks, List.length_cons, List.length_nil] at hi ha
  · match i, hi with
    | 0, _ => cases ha
    | 1, _ => cases ha
  · match i, hi with
    | 0, _ => cases ha
    | 1, _ => cases ha
    | 2, _ => exact ⟨_, rfl⟩
    | 3, _ => exact ⟨_, rfl⟩
  · match i, hi with
    | 0, _ => cases ha
    | 1, _ => exact ⟨_, rfl⟩
    | 2, _ => exact ⟨_, rfl⟩
    | 3, _ => exact ⟨_, rfl⟩
  · match i, hi with
    | 0, _ => cases ha
    | 1, _ => exact ⟨_, rfl⟩
    | 2, _ => cases ha
    | 3, _ => cases ha
  · match i, hi with
    | 0, _ => exact ⟨_, rfl⟩
    | 1, _ => cases ha
    | 2, _ => cases ha
    | 3, _ => exact ⟨_, rfl⟩
  · match i, hi with
    | 0, _ => exact ⟨_, rfl⟩
  · match i, hi with
    | 0, _ => cases ha
  · match i, hi with
    | 0, _ => exact ⟨_, rfl⟩
    | 1, _ => cases ha
  · match i, hi with
    | 0, _ => exact ⟨_, rfl⟩
theorem row_rds {r : Row} (h : isBr r = false) : readsV r.ks r.v r.ks.length = r.rds := by
  cases r <;> first | (cases h; done) | rfl
theorem rds_b {many a : Nat} {r : Row} (h : RowOkD many a r) : ∀ x ∈ r.rds, 0 ≤ x ∧ x < 16 := by
  intro x hx
  cases r with
  | const d n => cases hx
  | op s d a b =>
    simp only [Row.rds, List.mem_cons, List.not_mem_nil, or_false] at hx
    obtain ⟨_, h1, h2, _⟩ := h
    rcases hx with rfl | rfl <;> omega
  | select d c a b =>
    simp only [Row.rds, List.mem_cons, List.not_mem_nil, or_false] at hx
    obtain ⟨_, h1, h2, h3, _⟩ := h
    rcases hx with rfl | rfl | rfl <;> omega
  | load d a b m =>
    simp only [Row.rds, List.mem_cons, List.not_mem_nil, or_false] at hx
    obtain ⟨_, h1, _⟩ := h
    subst hx
    omega
  | store a b m c =>
    simp only [Row.rds, List.mem_cons, List.not_mem_nil, or_false] at hx
    obtain ⟨h1, h2, _⟩ := h
    rcases hx with rfl | rfl <;> omega
  | out a =>
    simp only [Row.rds, List.mem_cons, List.not_mem_nil, or_false] at hx
    obtain ⟨h1, _⟩ := h
    subst hx
    omega
  | jump t => cases hx
  | branch a t => cases hx
  | stop a =>
    simp only [Row.rds, List.mem_cons, List.not_mem_nil, or_false] at hx
    have h1 : a < 16 := h
    subst hx
    omega
theorem br_nm {r : Row} : r.nm = "branch" ↔ isBr r = true := by
  cases r <;> simp only [Row.nm, isBr] <;> decide +kernel
theorem mxL_snoc {rd l : List Int} {a c : Int} : mxL rd (l ++ [a]) c = mx (mxL rd l c) (rdAt rd a) := by
  unfold mxL
  rw [List.foldl_append]
  rfl
def sp_Machine_wait (K : PySem.W.Frag) : Sp := fun vs H Q _ => ∃ (k : MK) (m : MA) (s : SA) (ms : MS) (rd : List Int) (mc : MC) (ou : List Int) (Y : List (Addr × HO)) (ra : Addr) (r : Row) (many a : Nat), vs = [.ref m.M, .ref ra, .ref s.S] ∧ MW K H k m s ms rd mc ou Y ∧ H ra = some (.tup r.v) ∧ RowOkD many a r ∧ rd.length = 16 ∧
  ∀ H', KT H H' → MW K H' k m s ms rd (waitM r rd mc) ou Y → Q .non H'
theorem sc_Machine_wait : FnScope ["self", "row", "state", "place"] ["self", "row", "state"] (defScope (inClass (topS 18) 4)) := ⟨rfl, rfl, rfl, by decide +kernel, rfl, by decide +kernel, by decide +kernel⟩
theorem mt_Machine_wait (T : Txt fa fn K mg (XOk cs xcs K w)) : Mt P w K mg base CX0 2 "Machine" "wait" ["self", "row", "state"] (sp_Machine_wait K) := by
  refine mk_mt (d := mOf "Machine" "wait" "Machine.wait" (inClass (topS 18) 4)) T 71 rfl rfl rfl rfl sc_Machine_wait (by walk_at "len") (fun _ _ _ _ _ _ us hl => match us, hl with | [_, _, _], _ => rfl) (fun cdv A outer s H vs Q E hr h => ⟨_, (pss_one (ps_if (pt_cmpR (op_neU (K := K) rfl hr.units) (pe_ixU (K := K) rfl (hu_of hr) (pv 1) pe_int) pe_str (nomark _)) (pss_one (ps_for PassesOwn.never rfl (pi_seq (K := K) rfl (pe_callD (K := K) rfl (ok_reads T) (hr.mono (by decide)) rfl pass0 (pa_cons (pv 1) pa_nil))) (pg_name (i := 3) sc_Machine_wait.nd rfl (.inl rfl)) (pss_one (ps_fldU (K := K) rfl (pv 0) (pe_callB (c_max2 rfl) rfl (T.free 130 rfl) (by decide +kernel) (pa_cons (pe_fldU (K := K) rfl (pv 0) rfl) (pa_cons (pe_ixU (K := K) rfl (hu_of hr) (pe_fldU (K := K) rfl (pv 2) rfl) (pv 3)) pa_nil))) rfl)))) pss_nil)), ?_⟩)
  obtain ⟨k, m, s, ms, rd, mc, ou, Y, ra, r, many, a, rfl, W, ht, hr, hl, hQ⟩ := h
  walk_at "go"
  refine g_ixT (SqT.of ht) (n := 0) rfl row0 ?_
  walk_at "go"
  refine g_ifN (fun c => ?_) (fun c => ?_)
  · have hb : isBr r = false := by
      cases e : isBr r with
      | false => rfl
      | true => exact absurd (br_nm.mpr e) c
    walk_at "go"
    refine ⟨ra, r.nm, r.ks, r.v, rfl, ht, row0, row_shp, row_rok, fun H1 p js s1 asc mem jl hp => ?_⟩
    rw [row_rds hb] at mem
    have W1 := W.same s1
    walk_at "go"
    refine .inr ⟨p, _, rfl, SqT.of hp, ?_⟩
    refine f_tup (xs := js.map V.int) (fun i σ H' => ∃ (q : Option V), σ = [some (.ref m.M), some (.ref ra), some (.ref s.S), q] ∧ KT H1 H' ∧ MW K H' k m s ms rd { mc with ck := mxL rd (js.take i) mc.ck } ou Y) ⟨_, rfl, KT.refl, W1⟩ ?_ ?_ ?_
    · rintro i σ H' hi ⟨q, rfl, kt, W2⟩
      exact SqT.of (kt _ _ hp)
    · rintro i y σ H' hi ⟨q, rfl, kt, W2⟩
      rw [List.getElem?_map] at hi
      obtain ⟨j, hj, rfl⟩ := Option.map_eq_some_iff.mp hi
      obtain ⟨j0, j1⟩ := rds_b hr j ((mem j).mp (List.mem_of_getElem? hj))
      obtain ⟨gS, grg, grd, gwd, gM, gO, gP, gC, gd, gc, us, gT⟩ := W2.get_
      walk_at "go"
      refine w_rdy W2 hl j0 j1 ?_
      walk_at "go"
      refine w_ck T W2 (fun H3 k3 W3 => ?_)
      walk_at "go"
      refine ⟨_, rfl, kt.trans k3, ?_⟩
      rw [List.take_add_one, hj]
      show MW K H3 k m s ms rd { mc with ck := mxL rd (js.take i ++ [j]) mc.ck } ou Y
      rw [mxL_snoc]
      exact W3
    · rintro σ H' ⟨q, rfl, kt, W2⟩
      walk_at "go"
      refine hQ _ ((KT.of s1).trans kt) ?_
      rw [List.length_map, List.take_length, mxL_eq mem] at W2
      exact W2
  · walk_at "go"
    refine hQ _ KT.refl ?_
    have hb : isBr r = true := br_nm.mp (by simpa using c)
    have e : waitM r rd mc = mc := by
      cases r <;> first | (cases hb; done) | rfl
    rw [e]
    exact W
def sp_Machine_touch_data (K : PySem.W.Frag) : Sp := fun vs H Q _ => ∃ (k : MK) (m : MA) (s : SA) (ms : MS) (rd : List Int) (mc : MC) (ou : List Int) (Y : List (Addr × HO)) (x : Int) (N : Nat), vs = [.ref m.M, .int x] ∧ MW K H k m s ms rd mc ou Y ∧ COk k m.d m.c N mc ∧ N < 16000000 ∧
  ∀ H', KT H H' → MW K H' k m s ms rd (touM mc x) ou Y → Q (.int (touC k mc x)) H'
theorem sc_Machine_touch_data : FnScope ["self", "address", "hit"] ["self", "address"] (defScope (inClass (topS 18) 5)) := ⟨rfl, rfl, rfl, by decide +kernel, rfl, by decide +kernel, by decide +kernel⟩
theorem mt_Machine_touch_data (T : Txt fa fn K mg (XOk cs xcs K w)) : Mt P w K mg base CX0 4 "Machine" "touch_data" ["self", "address"] (sp_Machine_touch_data K) := by
  refine mk_mt (d := mOf "Machine" "touch_data" "Machine.touch_data" (inClass (topS 18) 5)) T 72 rfl rfl rfl rfl sc_Machine_touch_data (by walk_at "len") (fun _ _ _ _ _ _ us hl => match us, hl with | [_, _], _ => rfl) (fun cdv A outer s H vs Q E hr h => ⟨_, (pss_cons (ps_set (i := 2) sc_Machine_touch_data.nd rfl (.inl rfl) (pe_methD (K := K) rfl (mt_Cache_touch T) (cl_Cache T) (T.meth 61 rfl) (hr.mono (by decide)) pass0 (pe_fldU (K := K) rfl (pv 0) rfl) (pa_cons (pv 1) pa_nil)))
      (pss_cons (ps_expr (pe_bm PySem.F.plainAttrs_list PySem.F.slot_list_append PySem.F.type_list_append mt_append (pe_fldU (K := K) rfl (pv 0) rfl) (pa_cons (pe_tup (pa_cons pe_str (pa_cons (pe_fldU (K := K) rfl (pv 0) rfl) (pa_cons (pe_methD (K := K) rfl (mt_Cache_line_of T) (cl_Cache T) (T.meth 59 rfl) (hr.mono (by decide)) pass0 (pe_fldU (K := K) rfl (pv 0) rfl) (pa_cons (pv 1) pa_nil)) (pa_cons (pv 2) pa_nil))))) pa_nil)))
      (pss_cons (ps_if (pt_tru (K := K) rfl (pv 2)) (pss_one (ps_ret pe_int)) pss_nil)
      (pss_one (ps_ret (pe_fldU (K := K) rfl (pv 0) rfl)))))), ?_⟩)
  obtain ⟨k, m, s, ms, rd, mc, ou, Y, x, N, rfl, W, c, hN, hQ⟩ := h
  have hlen := c.len
  obtain ⟨gS, grg, grd, gwd, gM, gO, gP, gC, gd, gc, us, gT⟩ := W.get_
  walk_at "go"
  refine w_touch W c.d (fun H1 k1 W1 => ?_)
  obtain ⟨gS, grg, grd, gwd, gM, gO, gP, gC, gd, gc, us, gT⟩ := W1.get_
  walk_at "go"
  refine w_line W1 c.d.tc ?_
  walk_at "go"
  refine m_new (.cons (.str _) (.cons (.int _) (.cons (.int _) (.cons (.bl _) .nil)))) (by simp) (fun p H2 s2 hp im => ?_)
  walk_at "go"
  refine w_ev (e := .data mc.ck (x / (mc.dc.Z : Int)) (decide (hitV mc.dc x))) (W1.same s2) (by show mc.tr.length < _; omega) im (fun H3 k3 W3 => ?_)
  have kk := (k1.trans (KT.of s2)).trans k3
  obtain ⟨gS, grg, grd, gwd, gM, gO, gP, gC, gd, gc, us, gT⟩ := W3.get_
  walk_at "go"
  refine g_if (fun h => ?_) (fun h => ?_)
  · walk_at "go"
    refine q_int ?_ (hQ _ kk W3)
    unfold touC
    rw [if_pos h]
  · walk_at "go"
    refine q_int ?_ (hQ _ kk W3)
    unfold touC
    rw [if_neg h]


/-! ### what rows do -/
section
variable {H H' : Hp} {k : MK} {m : MA} {s : SA} {ms ms' : MS} {rd rd' : List Int} {mc mc' : MC} {ou : List Int} {Y : List (Addr × HO)} {Q : VK} {E : XK} {x t i : Int} {N d b : Nat} {cov : Int → Prop} {R : Hp → Prop}
theorem MW.ms_ (W : MW K H k m s ms rd mc ou Y) (e1 : ms'.rg = ms.rg) (e2 : ms'.wd = ms.wd) : MW K H k m s ms' rd mc ou Y := by
  obtain ⟨a1, a2, a3⟩ := ms
  obtain ⟨b1, b2, b3⟩ := ms'
  cases e1
  cases e2
  obtain ⟨⟨us, M, im⟩, r, v⟩ := W
  exact ⟨⟨us, M, im⟩, r, v⟩
theorem w_get {A : Option V → Prop} (W : MW K H k m s ms rd mc ou Y) (h : MOk b cov ms) (q : ∀ ov : Option V, ov.getD (.int 0) = .int (wdV ms.wd i) → A ov) : ∃ ov, DGet H s.wd (.int i) ov ∧ A ov := by
  obtain ⟨_, _, _, g, _⟩ := W.get_
  refine ⟨valV ms.wd (.inl i), DGet.k (k := .inl i) g, q _ ?_⟩
  unfold wdV
  cases e : valV ms.wd (.inl i) with
  | none => rfl
  | some v =>
    obtain ⟨x, rfl, _⟩ := h.w _ _ e
    rfl
theorem w_stw (W : MW K H k m s ms rd mc ou Y) (h : MOk b cov ms) (hb : b ≤ 90000) (q : ∀ H', KT H H' → MW K H' k m s { ms with wd := putK ms.wd (.inl i) (.int x) } rd mc ou Y → R H') : rSetU (.ref s.wd) (.int i) (.int x) H R := by
  obtain ⟨us, M, im⟩ := W.ex
  have kt : ∀ {o : HO}, KT H (upd H s.wd o) := KT.set (M.get 3 rfl) (fun _ e => nomatch e)
  refine .inr ⟨s.wd, _, rfl, DPut.k (k := .inl i) (M.get 3 rfl) (szl (by have := h.n; omega)), ?_⟩
  exact q _ kt (W.upd_ (ms' := { ms with wd := putK ms.wd (.inl i) (.int x) }) kt rfl rfl (M.set 3 rfl) (im.kt kt))
end
def calR : Row → Bool
  | .const _ _ => true
  | .op _ _ _ _ => true
  | .select _ _ _ _ => true
  | _ => false
def sp_Machine_calculate (K : PySem.W.Frag) : Sp := fun vs H Q _ => ∃ (k : MK) (m : MA) (s : SA) (ms : MS) (rd : List Int) (mc : MC) (ou : List Int) (Y : List (Addr × HO)) (ra : Addr) (r : Row) (many a b : Nat) (cov : Int → Prop), vs = [.ref m.M, .ref ra, .ref s.S] ∧ MW K H k m s ms rd mc ou Y ∧ H ra = some (.tup r.v) ∧ RowOkD many a r ∧ rd.length = 16 ∧ MOk b cov ms ∧ calR r = true ∧
  ∀ H', KT H H' → MW K H' k m s (doRow ms r) (workR k r ms rd mc) mc ou Y → Q .non H'
theorem sc_Machine_calculate : FnScope ["self", "row", "state", "held", "a", "b"] ["self", "row", "state"] (defScope (inClass (topS 18) 6)) := ⟨rfl, rfl, rfl, by decide +kernel, rfl, by decide +kernel, by decide +kernel⟩
theorem mt_Machine_calculate (T : Txt fa fn K mg (XOk cs xcs K w)) : Mt P w K mg base CX0 3 "Machine" "calculate" ["self", "row", "state"] (sp_Machine_calculate K) := by
  refine mk_mt (d := mOf "Machine" "calculate" "Machine.calculate" (inClass (topS 18) 6)) T 73 rfl rfl rfl rfl sc_Machine_calculate (by walk_at "len") (fun _ _ _ _ _ _ us hl => match us, hl with | [_, _, _], _ => rfl) (fun cdv A outer s H vs Q E hr h => ⟨_, (pss_cons (ps_set (i := 3) sc_Machine_calculate.nd rfl (.inl rfl) (pe_fldU (K := K) rfl (pv 2) rfl))
      (pss_one (ps_if (pt_cmpR (op_eqU (K := K) rfl hr.units) (pe_ixU (K := K) rfl (hu_of hr) (pv 1) pe_int) pe_str (nomark _)) (pss_one (ps_expr (pe_methD (K := K) rfl (mt_State_put T) (cl_State T) (T.meth 86 rfl) (hr.mono (by decide)) pass0 (pv 2) (pa_cons (pe_ixU (K := K) rfl (hu_of hr) (pv 1) pe_int) (pa_cons (pe_ixU (K := K) rfl (hu_of hr) (pv 1) pe_int) (pa_cons (pe_op (op_addU (K := K) rfl) (pe_fldU (K := K) rfl (pv 0) rfl) pe_int) pa_nil)))))) (pss_one (ps_if (pt_cmpR (op_eqU (K := K) rfl hr.units) (pe_ixU (K := K) rfl (hu_of hr) (pv 1) pe_int) pe_str (nomark _)) (pss_cons (ps_set (i := 4) sc_Machine_calculate.nd rfl (.inl rfl) (pe_ixU (K := K) rfl (hu_of hr) (pv 3) (pe_ixU (K := K) rfl (hu_of hr) (pv 1) pe_int)))
      (pss_cons (ps_set (i := 5) sc_Machine_calculate.nd rfl (.inl rfl) (pe_ixU (K := K) rfl (hu_of hr) (pv 3) (pe_ixU (K := K) rfl (hu_of hr) (pv 1) pe_int)))
      (pss_one (ps_expr (pe_methD (K := K) rfl (mt_State_put T) (cl_State T) (T.meth 86 rfl) (hr.mono (by decide)) pass0 (pv 2) (pa_cons (pe_ixU (K := K) rfl (hu_of hr) (pv 1) pe_int) (pa_cons (pe_callD (K := K) rfl (ok_apply T) (hr.mono (by decide)) rfl pass0 (pa_cons (pe_ixU (K := K) rfl (hu_of hr) (pv 1) pe_int) (pa_cons (pv 4) (pa_cons (pv 5) pa_nil)))) (pa_cons (pe_op (op_addU (K := K) rfl) (pe_fldU (K := K) rfl (pv 0) rfl) (pe_callD (K := K) rfl (ok_cost_of T) (hr.mono (by decide)) rfl pass0 (pa_cons (pe_ixU (K := K) rfl (hu_of hr) (pv 1) pe_int) (pa_cons (pv 4) (pa_cons (pv 5) pa_nil))))) pa_nil)))))))) (pss_one (ps_if (pt_cmpR (op_neU (K := K) rfl hr.units) (pe_ixU (K := K) rfl (hu_of hr) (pv 3) (pe_ixU (K := K) rfl (hu_of hr) (pv 1) pe_int)) pe_int (nomark _)) (pss_one (ps_expr (pe_methD (K := K) rfl (mt_State_put T) (cl_State T) (T.meth 86 rfl) (hr.mono (by decide)) pass0 (pv 2) (pa_cons (pe_ixU (K := K) rfl (hu_of hr) (pv 1) pe_int) (pa_cons (pe_ixU (K := K) rfl (hu_of hr) (pv 3) (pe_ixU (K := K) rfl (hu_of hr) (pv 1) pe_int)) (pa_cons (pe_op (op_addU (K := K) rfl) (pe_fldU (K := K) rfl (pv 0) rfl) pe_int) pa_nil)))))) (pss_one (ps_expr (pe_methD (K := K) rfl (mt_State_put T) (cl_State T) (T.meth 86 rfl) (hr.mono (by decide)) pass0 (pv 2) (pa_cons (pe_ixU (K := K) rfl (hu_of hr) (pv 1) pe_int) (pa_cons (pe_ixU (K := K) rfl (hu_of hr) (pv 3) (pe_ixU (K := K) rfl (hu_of hr) (pv 1) pe_int)) (pa_cons (pe_op (op_addU (K := K) rfl) (pe_fldU (K := K) rfl (pv 0) rfl) pe_int) pa_nil))))))))))))), ?_⟩)
  obtain ⟨k, m, s, ms, rd, mc, ou, Y, ra, r, many, a, b, cov, rfl, W, ht, hr, hl, ho, hc, hQ⟩ := h
  obtain ⟨gS, grg, grd, gwd, gM, gO, gP, gC, gd, gc, us, gT⟩ := W.get_
  cases r <;> first | (cases hc; done) | skip
  · rename_i d n
    have ht : H ra = some (.tup [.str "const", .int d, .int n]) := ht
    walk_at "go"
    refine w_put W ho hl hr.1 (fun H1 k1 W1 => ?_)
    walk_at "go"
    exact hQ _ k1 W1
  · rename_i sg d x y
    have ht : H ra = some (.tup [.str "op", .str sg.s, .int d, .int x, .int y]) := ht
    walk_at "go"
    refine w_reg W ho hr.2.1 ?_
    walk_at "go"
    refine w_reg W ho hr.2.2.1 ?_
    walk_at "go"
    have wx := ho.reg hr.2.1
    have wy := ho.reg hr.2.2.1
    refine ⟨sg, _, _, _, rfl, rfl, wx, wy, fun H1 s1 => ?_⟩
    have ht1 := s1 _ _ ht
    have W1 := W.same s1
    obtain ⟨gS, grg, grd, gwd, gM, gO, gP, gC, gd, gc, us, gT⟩ := W1.get_
    walk_at "go"
    refine ⟨sg, _, _, _, rfl, rfl, wx.l, wy.l, fun H2 s2 => ?_⟩
    have W2 := W1.same s2
    obtain ⟨gS, grg, grd, gwd, gM, gO, gP, gC, gd, gc, us, gT⟩ := W2.get_
    walk_at "go"
    refine w_put W2 ho hl hr.1 (fun H3 k3 W3 => ?_)
    walk_at "go"
    exact hQ _ ((KT.of (s1.trans s2)).trans k3) W3
  · rename_i d c x y
    have ht : H ra = some (.tup [.str "select", .int d, .int c, .int x, .int y]) := ht
    walk_at "go"
    refine w_reg W ho hr.2.1 ?_
    walk_at "go"
    refine g_ifN (fun c0 => ?_) (fun c0 => ?_)
    · walk_at "go"
      refine w_reg W ho hr.2.2.1 ?_
      walk_at "go"
      refine w_put W ho hl hr.1 (fun H1 k1 W1 => ?_)
      walk_at "go"
      refine hQ _ k1 ?_
      show MW K H1 k m s (put ms d (if rgV ms c = 0 then rgV ms y else rgV ms x)) _ mc ou Y
      rw [if_neg c0]
      exact W1
    · walk_at "go"
      refine w_reg W ho hr.2.2.2.1 ?_
      walk_at "go"
      refine w_put W ho hl hr.1 (fun H1 k1 W1 => ?_)
      walk_at "go"
      refine hQ _ k1 ?_
      show MW K H1 k m s (put ms d (if rgV ms c = 0 then rgV ms y else rgV ms x)) _ mc ou Y
      rw [if_pos c0]
      exact W1
def sp_Machine_load (K : PySem.W.Frag) : Sp := fun vs H Q _ => ∃ (k : MK) (m : MA) (s : SA) (ms : MS) (rd : List Int) (mc : MC) (ou : List Int) (Y : List (Addr × HO)) (ra : Addr) (d x : Nat) (ba ma : Int) (b N : Nat) (cov : Int → Prop), vs = [.ref m.M, .ref ra, .ref s.S] ∧ MW K H k m s ms rd mc ou Y ∧ H ra = some (.tup (Row.load d x ba ma).v) ∧ d < 16 ∧ x < 16 ∧ rd.length = 16 ∧ MOk b cov ms ∧ COk k m.d m.c N mc ∧ N < 16000000 ∧
  ∀ H', KT H H' → MW K H' k m s (doRow ms (.load d x ba ma)) (workR k (.load d x ba ma) ms rd mc) (touM mc (adr ms x ba ma)) ou Y → Q .non H'
theorem sc_Machine_load : FnScope ["self", "row", "state", "address", "cost"] ["self", "row", "state"] (defScope (inClass (topS 18) 7)) := ⟨rfl, rfl, rfl, by decide +kernel, rfl, by decide +kernel, by decide +kernel⟩
theorem mt_Machine_load (T : Txt fa fn K mg (XOk cs xcs K w)) : Mt P w K mg base CX0 5 "Machine" "load" ["self", "row", "state"] (sp_Machine_load K) := by
  refine mk_mt (d := mOf "Machine" "load" "Machine.load" (inClass (topS 18) 7)) T 74 rfl rfl rfl rfl sc_Machine_load (by walk_at "len") (fun _ _ _ _ _ _ us hl => match us, hl with | [_, _, _], _ => rfl) (fun cdv A outer s H vs Q E hr h => ⟨_, (pss_cons (ps_set (i := 3) sc_Machine_load.nd rfl (.inl rfl) (pe_op (op_addU (K := K) rfl) (pe_ixU (K := K) rfl (hu_of hr) (pv 1) pe_int) (pe_op op_and (pe_ixU (K := K) rfl (hu_of hr) (pe_fldU (K := K) rfl (pv 2) rfl) (pe_ixU (K := K) rfl (hu_of hr) (pv 1) pe_int)) (pe_ixU (K := K) rfl (hu_of hr) (pv 1) pe_int))))
      (pss_cons (ps_set (i := 4) sc_Machine_load.nd rfl (.inl rfl) (pe_op (op_addU (K := K) rfl) pe_int (pe_methD (K := K) rfl (mt_Machine_touch_data T) (cl_Machine T) (T.meth 97 rfl) (hr.mono (by decide)) pass0 (pv 0) (pa_cons (pv 3) pa_nil))))
      (pss_one (ps_expr (pe_methD (K := K) rfl (mt_State_put T) (cl_State T) (T.meth 86 rfl) (hr.mono (by decide)) pass0 (pv 2) (pa_cons (pe_ixU (K := K) rfl (hu_of hr) (pv 1) pe_int) (pa_cons (pe_dget2 (hu_of hr) (pe_fldU (K := K) rfl (pv 2) rfl) (pv 3) pe_int ⟨by rfl, by rfl, by rfl, by rfl⟩) (pa_cons (pe_op (op_addU (K := K) rfl) (pe_fldU (K := K) rfl (pv 0) rfl) (pv 4)) pa_nil)))))))), ?_⟩)
  obtain ⟨k, m, s, ms, rd, mc, ou, Y, ra, d, x, ba, ma, b, N, cov, rfl, W, ht, hd, hx, hl, ho, c, hN, hQ⟩ := h
  obtain ⟨gS, grg, grd, gwd, gM, gO, gP, gC, gd, gc, us, gT⟩ := W.get_
  have ht : H ra = some (.tup [.str "load", .int d, .int x, .int ba, .int ma]) := ht
  walk_at "go"
  refine w_reg W ho hx ?_
  walk_at "go"
  refine ⟨k, m, s, ms, rd, mc, ou, Y, _, N, rfl, W, c, hN, fun H1 k1 W1 => ?_⟩
  have ht1 := k1 _ _ ht
  obtain ⟨gS, grg, grd, gwd, gM, gO, gP, gC, gd, gc, us, gT⟩ := W1.get_
  walk_at "go"
  refine w_get W1 ho (fun ov e => ?_)
  rw [e]
  walk_at "go"
  refine w_put W1 ho hl hd (fun H3 k3 W3 => ?_)
  walk_at "go"
  exact hQ _ (k1.trans k3) W3
def sp_Machine_store (K : PySem.W.Frag) : Sp := fun vs H Q _ => ∃ (k : MK) (m : MA) (s : SA) (ms : MS) (rd : List Int) (mc : MC) (ou : List Int) (Y : List (Addr × HO)) (ra : Addr) (x y : Nat) (ba ma : Int) (g : Bool) (b N : Nat) (cov : Int → Prop), vs = [.ref m.M, .ref ra, .ref s.S, .bl g] ∧ MW K H k m s ms rd mc ou Y ∧ H ra = some (.tup (Row.store x ba ma y).v) ∧ x < 16 ∧ y < 16 ∧ MOk b cov ms ∧ b ≤ 90000 ∧ COk k m.d m.c N mc ∧ N < 16000000 ∧
  ∀ H', KT H H' → MW K H' k m s (doRow ms (.store x ba ma y)) rd (workC (.store x ba ma y) ms g mc) ou Y → Q .non H'
theorem sc_Machine_store : FnScope ["self", "row", "state", "guessed", "address"] ["self", "row", "state", "guessed"] (defScope (inClass (topS 18) 8)) := ⟨rfl, rfl, rfl, by decide +kernel, rfl, by decide +kernel, by decide +kernel⟩
theorem mt_Machine_store (T : Txt fa fn K mg (XOk cs xcs K w)) : Mt P w K mg base CX0 5 "Machine" "store" ["self", "row", "state", "guessed"] (sp_Machine_store K) := by
  refine mk_mt (d := mOf "Machine" "store" "Machine.store" (inClass (topS 18) 8)) T 75 rfl rfl rfl rfl sc_Machine_store (by walk_at "len") (fun _ _ _ _ _ _ us hl => match us, hl with | [_, _, _, _], _ => rfl) (fun cdv A outer s H vs Q E hr h => ⟨_, (pss_cons (ps_set (i := 4) sc_Machine_store.nd rfl (.inl rfl) (pe_op (op_addU (K := K) rfl) (pe_ixU (K := K) rfl (hu_of hr) (pv 1) pe_int) (pe_op op_and (pe_ixU (K := K) rfl (hu_of hr) (pe_fldU (K := K) rfl (pv 2) rfl) (pe_ixU (K := K) rfl (hu_of hr) (pv 1) pe_int)) (pe_ixU (K := K) rfl (hu_of hr) (pv 1) pe_int))))
      (pss_cons (ps_if (pt_not (pt_tru (K := K) rfl (pv 3))) (pss_one (ps_expr (pe_methD (K := K) rfl (mt_Machine_touch_data T) (cl_Machine T) (T.meth 97 rfl) (hr.mono (by decide)) pass0 (pv 0) (pa_cons (pv 4) pa_nil)))) pss_nil)
      (pss_one (ps_asg (pe_ixU (K := K) rfl (hu_of hr) (pe_fldU (K := K) rfl (pv 2) rfl) (pe_ixU (K := K) rfl (hu_of hr) (pv 1) pe_int)) (pg_sub (pe_fldU (K := K) rfl (pv 2) rfl) (pv 4) (set_U (hu_of hr))))))), ?_⟩)
  obtain ⟨k, m, s, ms, rd, mc, ou, Y, ra, x, y, ba, ma, g, b, N, cov, rfl, W, ht, hx, hy, ho, hb, c, hN, hQ⟩ := h
  obtain ⟨gS, grg, grd, gwd, gM, gO, gP, gC, gd, gc, us, gT⟩ := W.get_
  have ht : H ra = some (.tup [.str "store", .int x, .int ba, .int ma, .int y]) := ht
  walk_at "go"
  refine w_reg W ho hx ?_
  walk_at "go"
  cases g with
  | true =>
    walk_at "go"
    refine w_reg W ho hy ?_
    walk_at "go"
    refine w_stw W ho hb (fun H1 k1 W1 => ?_)
    walk_at "go"
    exact hQ _ k1 W1
  | false =>
    walk_at "go"
    refine ⟨k, m, s, ms, rd, mc, ou, Y, _, N, rfl, W, c, hN, fun H1 k1 W1 => ?_⟩
    have ht1 := k1 _ _ ht
    obtain ⟨gS, grg, grd, gwd, gM, gO, gP, gC, gd, gc, us, gT⟩ := W1.get_
    walk_at "go"
    refine w_reg W1 ho hy ?_
    walk_at "go"
    refine w_stw W1 ho hb (fun H2 k2 W2 => ?_)
    walk_at "go"
    exact hQ _ (k1.trans k2) W2
def ouW (r : Row) (ms : MS) (g : Bool) (ou : List Int) : List Int := match r with
  | .out a => if g then ou else ou ++ [rgV ms a]
  | _ => ou
def wrkR : Row → Bool
  | .branch _ _ => false
  | .stop _ => false
  | _ => true
def sp_Machine_work (K : PySem.W.Frag) : Sp := fun vs H Q _ => ∃ (k : MK) (m : MA) (s : SA) (ms : MS) (rd : List Int) (mc : MC) (ou : List Int) (Y : List (Addr × HO)) (ra : Addr) (r : Row) (g : Bool) (many a b N : Nat) (cov : Int → Prop), vs = [.ref m.M, .ref ra, .ref s.S, .bl g] ∧ MW K H k m s ms rd mc ou Y ∧ H ra = some (.tup r.v) ∧ RowOkD many a r ∧ wrkR r = true ∧ rd.length = 16 ∧ MOk b cov ms ∧ b ≤ 90000 ∧ ou.length < 90000 ∧ COk k m.d m.c N mc ∧ N < 16000000 ∧
  ∀ H', KT H H' → MW K H' k m s (workS r ms g) (workR k r ms rd mc) (workC r ms g mc) (ouW r ms g ou) Y → Q .non H'
theorem sc_Machine_work : FnScope ["self", "row", "state", "guessed"] ["self", "row", "state", "guessed"] (defScope (inClass (topS 18) 9)) := ⟨rfl, rfl, rfl, by decide +kernel, rfl, by decide +kernel, by decide +kernel⟩
theorem mt_Machine_work (T : Txt fa fn K mg (XOk cs xcs K w)) : Mt P w K mg base CX0 6 "Machine" "work" ["self", "row", "state", "guessed"] (sp_Machine_work K) := by
  refine mk_mt (d := mOf "Machine" "work" "Machine.work" (inClass (topS 18) 9)) T 76 rfl rfl rfl rfl sc_Machine_work (by walk_at "len") (fun _ _ _ _ _ _ us hl => match us, hl with | [_, _, _, _], _ => rfl) (fun cdv A outer s H vs Q E hr h => ⟨_, (pss_one (ps_if (pt_cmpR (op_inU (K := K) rfl (hu65 hr)) (pe_ixU (K := K) rfl (hu_of hr) (pv 1) pe_int) (pe_tup (pa_cons pe_str (pa_cons pe_str (pa_cons pe_str pa_nil)))) (by rfl)) (pss_one (ps_expr (pe_methD (K := K) rfl (mt_Machine_calculate T) (cl_Machine T) (T.meth 98 rfl) (hr.mono (by decide)) pass0 (pv 0) (pa_cons (pv 1) (pa_cons (pv 2) pa_nil))))) (pss_one (ps_if (pt_cmpR (op_eqU (K := K) rfl hr.units) (pe_ixU (K := K) rfl (hu_of hr) (pv 1) pe_int) pe_str (nomark _)) (pss_one (ps_expr (pe_methD (K := K) rfl (mt_Machine_load T) (cl_Machine T) (T.meth 99 rfl) (hr.mono (by decide)) pass0 (pv 0) (pa_cons (pv 1) (pa_cons (pv 2) pa_nil))))) (pss_one (ps_if (pt_cmpR (op_eqU (K := K) rfl hr.units) (pe_ixU (K := K) rfl (hu_of hr) (pv 1) pe_int) pe_str (nomark _)) (pss_one (ps_expr (pe_methD (K := K) rfl (mt_Machine_store T) (cl_Machine T) (T.meth 100 rfl) (hr.mono (by decide)) pass0 (pv 0) (pa_cons (pv 1) (pa_cons (pv 2) (pa_cons (pv 3) pa_nil)))))) (pss_one (ps_if (PW.pt (pw_and (pt_cmpR (op_eqU (K := K) rfl hr.units) (pe_ixU (K := K) rfl (hu_of hr) (pv 1) pe_int) pe_str (nomark _)) (pw_and1 (pt_not (pt_tru (K := K) rfl (pv 3)))))) (pss_cons (ps_expr (pe_bm PySem.F.plainAttrs_list PySem.F.slot_list_append PySem.F.type_list_append mt_append (pe_fldU (K := K) rfl (pv 0) rfl) (pa_cons (pe_ixU (K := K) rfl (hu_of hr) (pe_fldU (K := K) rfl (pv 2) rfl) (pe_ixU (K := K) rfl (hu_of hr) (pv 1) pe_int)) pa_nil)))
      (pss_one (ps_expr (pe_bm PySem.F.plainAttrs_list PySem.F.slot_list_append PySem.F.type_list_append mt_append (pe_fldU (K := K) rfl (pv 0) rfl) (pa_cons (pe_tup (pa_cons pe_str (pa_cons (pe_fldU (K := K) rfl (pv 0) rfl) (pa_cons (pe_ixU (K := K) rfl (hu_of hr) (pe_fldU (K := K) rfl (pv 2) rfl) (pe_ixU (K := K) rfl (hu_of hr) (pv 1) pe_int)) pa_nil)))) pa_nil))))) pss_nil)))))))), ?_⟩)
  obtain ⟨k, m, s, ms, rd, mc, ou, Y, ra, r, g, many, a, b, N, cov, rfl, W, ht, hr, hw, hl, ho, hb, hou, c, hN, hQ⟩ := h
  have hlen := c.len
  walk_at "go"
  refine g_ixT (SqT.of ht) (n := 0) rfl row0 ?_
  walk_at "go"
  refine ⟨by decide, fun q hq => ?_⟩
  have sq := Same.new (o := .tup [.str "const", .str "op", .str "select"]) hq
  refine g_inTs (ks := ["const", "op", "select"]) (.inl upd_same) ?_
  have ht1 := sq _ _ ht
  have W1 := W.same sq
  generalize upd H q (.tup [.str "const", .str "op", .str "select"]) = H1 at sq ht1 W1
  obtain ⟨gS, grg, grd, gwd, gM, gO, gP, gC, gd, gc, us, gT⟩ := W1.get_
  walk_at "go"
  have k1 := KT.of sq
  cases r <;> first | (cases hw; done) | skip
  · refine g_is (by simp only [Row.nm]; decide +kernel) ?_
    walk_at "go"
    refine ⟨k, m, s, ms, rd, mc, ou, Y, ra, _, many, a, b, cov, rfl, W1, ht1, hr, hl, ho, rfl, fun H2 k2 W2 => ?_⟩
    walk_at "go"
    exact hQ _ (k1.trans k2) W2
  · refine g_is (by simp only [Row.nm]; decide +kernel) ?_
    walk_at "go"
    refine ⟨k, m, s, ms, rd, mc, ou, Y, ra, _, many, a, b, cov, rfl, W1, ht1, hr, hl, ho, rfl, fun H2 k2 W2 => ?_⟩
    walk_at "go"
    exact hQ _ (k1.trans k2) W2
  · refine g_is (by simp only [Row.nm]; decide +kernel) ?_
    walk_at "go"
    refine ⟨k, m, s, ms, rd, mc, ou, Y, ra, _, many, a, b, cov, rfl, W1, ht1, hr, hl, ho, rfl, fun H2 k2 W2 => ?_⟩
    walk_at "go"
    exact hQ _ (k1.trans k2) W2
  · rename_i d x ba ma
    have ht2 : H1 ra = some (.tup [.str "load", .int d, .int x, .int ba, .int ma]) := ht1
    refine g_isnt (by simp only [Row.nm]; decide +kernel) ?_
    walk_at "go"
    refine ⟨k, m, s, ms, rd, mc, ou, Y, ra, d, x, ba, ma, b, N, cov, rfl, W1, ht1, hr.1, hr.2.1, hl, ho, c, hN, fun H2 k2 W2 => ?_⟩
    walk_at "go"
    exact hQ _ (k1.trans k2) W2
  · rename_i x ba ma y
    have ht2 : H1 ra = some (.tup [.str "store", .int x, .int ba, .int ma, .int y]) := ht1
    refine g_isnt (by simp only [Row.nm]; decide +kernel) ?_
    walk_at "go"
    refine ⟨k, m, s, ms, rd, mc, ou, Y, ra, x, y, ba, ma, g, b, N, cov, rfl, W1, ht1, hr.1, hr.2.1, ho, hb, c, hN, fun H2 k2 W2 => ?_⟩
    walk_at "go"
    exact hQ _ (k1.trans k2) W2
  · rename_i x
    have ht2 : H1 ra = some (.tup [.str "out", .int x]) := ht1
    refine g_isnt (by simp only [Row.nm]; decide +kernel) ?_
    walk_at "go"
    cases g with
    | true =>
      walk_at "go"
      exact hQ _ k1 W1
    | false =>
      walk_at "go"
      refine w_reg W1 ho hr.1 ?_
      walk_at "go"
      refine w_out W1 hou (fun H2 k2 W2 => ?_)
      have ht3 := k2 _ _ ht2
      obtain ⟨gS, grg, grd, gwd, gM, gO, gP, gC, gd, gc, us, gT⟩ := W2.get_
      walk_at "go"
      refine w_reg W2 ho hr.1 ?_
      walk_at "go"
      refine m_new (.cons (.str _) (.cons (.int _) (.cons (.int _) .nil))) (by simp) (fun p H3 s3 hp im => ?_)
      walk_at "go"
      refine w_ev (e := .out mc.ck (rgV ms x)) (W2.same s3) (by omega) im (fun H4 k4 W4 => ?_)
      walk_at "go"
      exact hQ _ (((k1.trans k2).trans (KT.of s3)).trans k4) (W4.ms_ rfl rfl)
  · rename_i x
    have ht2 : H1 ra = some (.tup [.str "jump", .int x]) := ht1
    refine g_isnt (by simp only [Row.nm]; decide +kernel) ?_
    walk_at "go"
    exact hQ _ k1 W1
/-! ### guesses -/
def sp_Machine_guess (K : PySem.W.Frag) : Sp := fun vs H Q _ => ∃ (k : MK) (m : MA) (s : SA) (ms : MS) (rd : List Int) (mc : MC) (ou : List Int) (Y : List (Addr × HO)) (a N : Nat), vs = [.ref m.M, .int (a : Int)] ∧ MW K H k m s ms rd mc ou Y ∧ COk k m.d m.c N mc ∧ N < 16000000 ∧
  ∀ H', KT H H' → MW K H' k m s ms rd (gueM mc a) ou Y → Q (.bl (gueV mc a)) H'
theorem sc_Machine_guess : FnScope ["self", "at", "taken"] ["self", "at"] (defScope (inClass (topS 18) 10)) := ⟨rfl, rfl, rfl, by decide +kernel, rfl, by decide +kernel, by decide +kernel⟩
theorem mt_Machine_guess (T : Txt fa fn K mg (XOk cs xcs K w)) : Mt P w K mg base CX0 3 "Machine" "guess" ["self", "at"] (sp_Machine_guess K) := by
  refine mk_mt (d := mOf "Machine" "guess" "Machine.guess" (inClass (topS 18) 10)) T 77 rfl rfl rfl rfl sc_Machine_guess (by walk_at "len") (fun _ _ _ _ _ _ us hl => match us, hl with | [_, _], _ => rfl) (fun cdv A outer s H vs Q E hr h => ⟨_, (pss_cons (ps_set (i := 2) sc_Machine_guess.nd rfl (.inl rfl) (pe_methD (K := K) rfl (mt_Predictor_guess T) (cl_Predictor T) (T.meth 77 rfl) (hr.mono (by decide)) pass0 (pe_fldU (K := K) rfl (pv 0) rfl) (pa_cons (pv 1) pa_nil)))
      (pss_cons (ps_expr (pe_bm PySem.F.plainAttrs_list PySem.F.slot_list_append PySem.F.type_list_append mt_append (pe_fldU (K := K) rfl (pv 0) rfl) (pa_cons (pe_tup (pa_cons pe_str (pa_cons (pe_fldU (K := K) rfl (pv 0) rfl) (pa_cons (pv 1) (pa_cons (pv 2) pa_nil))))) pa_nil)))
      (pss_one (ps_ret (pv 2))))), ?_⟩)
  obtain ⟨k, m, s, ms, rd, mc, ou, Y, a, N, rfl, W, c, hN, hQ⟩ := h
  have hlen := c.len
  obtain ⟨gS, grg, grd, gwd, gM, gO, gP, gC, gd, gc, us, gT⟩ := W.get_
  walk_at "go"
  refine ⟨m.P, m.pdx, m.C, mc.pr.k, mc.pr.b, mc.pr.h, mc.pr.cs, a, rfl, gP, gC, c.p, ?_⟩
  walk_at "go"
  refine m_new (.cons (.str _) (.cons (.int _) (.cons (.int _) (.cons (.bl _) .nil)))) (by simp) (fun p H3 s3 hp im => ?_)
  walk_at "go"
  refine w_ev (e := .guess mc.ck a (gueV mc a)) (W.same s3) (by omega) im (fun H4 k4 W4 => ?_)
  walk_at "go"
  exact hQ _ ((KT.of s3).trans k4) W4
def sp_Machine_after (K : PySem.W.Frag) : Sp := fun vs H Q _ => ∃ (k : MK) (m : MA) (mc : MC) (a : Nat) (t : Bool) (r : Row), vs = [.ref m.M, .int (a : Int), .bl t] ∧ H m.M = some (maO K k m mc) ∧ Im H m.rv (.tuple (k.rows.map Row.d)) ∧ k.rows[a]? = some r ∧ Q (.int (aftM r a t : Nat)) H
theorem sc_Machine_after : FnScope ["self", "at", "taken", "row"] ["self", "at", "taken"] (defScope (inClass (topS 18) 11)) := ⟨rfl, rfl, rfl, by decide +kernel, rfl, by decide +kernel, by decide +kernel⟩
theorem mt_Machine_after (T : Txt fa fn K mg (XOk cs xcs K w)) : Mt P w K mg base CX0 1 "Machine" "after" ["self", "at", "taken"] (sp_Machine_after K) := by
  refine mk_mt (d := mOf "Machine" "after" "Machine.after" (inClass (topS 18) 11)) T 78 rfl rfl rfl rfl sc_Machine_after (by walk_at "len") (fun _ _ _ _ _ _ us hl => match us, hl with | [_, _, _], _ => rfl) (fun cdv A outer s H vs Q E hr h => ⟨_, (pss_cons (ps_set (i := 3) sc_Machine_after.nd rfl (.inl rfl) (pe_ixU (K := K) rfl (hu_of hr) (pe_fldU (K := K) rfl (pv 0) rfl) (pv 1)))
      (pss_cons (ps_if (pt_cmpR (op_eqU (K := K) rfl hr.units) (pe_ixU (K := K) rfl (hu_of hr) (pv 3) pe_int) pe_str (nomark _)) (pss_one (ps_ret (pe_ixU (K := K) rfl (hu_of hr) (pv 3) pe_int))) pss_nil)
      (pss_cons (ps_if (PW.pt (pw_and (pt_cmpR (op_eqU (K := K) rfl hr.units) (pe_ixU (K := K) rfl (hu_of hr) (pv 3) pe_int) pe_str (nomark _)) (pw_and1 (pt_tru (K := K) rfl (pv 2))))) (pss_one (ps_ret (pe_ixU (K := K) rfl (hu_of hr) (pv 3) pe_int))) pss_nil)
      (pss_one (ps_ret (pe_op (op_addU (K := K) rfl) (pv 1) pe_int)))))), ?_⟩)
  obtain ⟨k, m, mc, a, t, r, rfl, gM, ir, hra, hQ⟩ := h
  walk_at "go"
  refine m_ix ir (n := a) rfl (by rw [List.getElem?_map, hra]; rfl) (fun y hy => ?_)
  obtain ⟨ra, rfl, ht⟩ := row_tup hy
  cases r
  all_goals first | (rename_i x1 x2 x3 x4; replace ht : H ra = some (.tup [_, _, _, _, _]) := ht) | (rename_i x1 x2; replace ht : H ra = some (.tup [_, _, _]) := ht) | (rename_i x1; replace ht : H ra = some (.tup [_, _]) := ht) | skip
  all_goals walk_at "go"
  all_goals first | exact hQ | skip
  cases t with
  | true =>
    walk_at "go"
    exact hQ
  | false =>
    walk_at "go"
    exact hQ


/-! ### copies, wrong ways -/
abbrev SL (K : PySem.W.Frag) (s : SA) (ms : MS) (rd : List Int) : List (Addr × HO) := [(s.S, stO K s.dx s.rg s.rd s.wd), (s.rg, .lst (ms.rg.map V.int)), (s.rd, .lst (rd.map V.int)), (s.wd, .dK ms.wd)]
theorem perm3 {α : Type} {L : List α} {x a b c : α} : (x :: (((L ++ [a]) ++ [b]) ++ [c])).Perm ([x, a, b, c] ++ L) := by
  have e : ((L ++ [a]) ++ [b]) ++ [c] = L ++ [a, b, c] := by simp
  rw [e]
  exact (List.perm_append_comm (l₁ := L) (l₂ := [a, b, c])).cons x
def sp_State_copied (K : PySem.W.Frag) : Sp := fun vs H Q _ => ∃ (s : SA) (ms : MS) (rd : List Int) (L : List (Addr × HO)), vs = [.ref s.S] ∧ Has H L ∧ H s.S = some (stO K s.dx s.rg s.rd s.wd) ∧ H s.rg = some (.lst (ms.rg.map V.int)) ∧ H s.rd = some (.lst (rd.map V.int)) ∧ H s.wd = some (.dK ms.wd) ∧
  ∀ H' s2, Same H H' → Has H' (SL K s2 ms rd ++ L) → Q (.ref s2.S) H'
theorem sc_State_copied : FnScope ["self"] ["self"] (defScope (inClass (topS 17) 1)) := ⟨rfl, rfl, rfl, by decide +kernel, rfl, by decide +kernel, by decide +kernel⟩
theorem mt_State_copied (T : Txt fa fn K mg (XOk cs xcs K w)) : Mt P w K mg base CX0 3 "State" "copied" ["self"] (sp_State_copied K) := by
  refine mk_mt (d := mOf "State" "copied" "State.copied" (inClass (topS 17) 1)) T 64 rfl rfl rfl rfl sc_State_copied (by walk_at "len") (fun _ _ _ _ _ _ us hl => match us, hl with | [_], _ => rfl) (fun cdv A outer s H vs Q E hr h => ⟨_, (pss_one (ps_ret (pe_makeD (K := K) rfl (mt_State___init__ T) (T.mkr 84 rfl) (hr.mono (by decide)) rfl (T.glo 53 rfl) pass0 (pa_cons (pe_callTy (c_list (K := K) rfl) rfl (T.free 129 rfl) (by decide +kernel) (pa_cons (pe_fldU (K := K) rfl (pv 0) rfl) pa_nil)) (pa_cons (pe_callTy (c_list (K := K) rfl) rfl (T.free 129 rfl) (by decide +kernel) (pa_cons (pe_fldU (K := K) rfl (pv 0) rfl) pa_nil)) (pa_cons (pe_callTy call_dictD rfl (T.free 125 rfl) (by decide +kernel) (pa_cons (pe_fldU (K := K) rfl (pv 0) rfl) pa_nil)) pa_nil)))))), ?_⟩)
  obtain ⟨s, ms, rd, L, rfl, M, gS, grg, grd, gwd, hQ⟩ := h
  walk_at "go"
  refine ⟨s.rg, _, rfl, .inl (SqL.of grg), fun p1 hp1 => ?_⟩
  have s1 := Same.new (o := .lst (ms.rg.map V.int)) hp1
  have M1 := M.new (o := .lst (ms.rg.map V.int)) hp1
  have gS1 := s1 _ _ gS
  have grd1 := s1 _ _ grd
  have gwd1 := s1 _ _ gwd
  generalize upd H p1 (.lst (ms.rg.map V.int)) = H1 at s1 M1 gS1 grd1 gwd1
  walk_at "go"
  refine ⟨s.rd, _, rfl, .inl (SqL.of grd1), fun p2 hp2 => ?_⟩
  have s2 := Same.new (o := .lst (rd.map V.int)) hp2
  have M2 := M1.new (o := .lst (rd.map V.int)) hp2
  have gS2 := s2 _ _ gS1
  have gwd2 := s2 _ _ gwd1
  generalize upd H1 p2 (.lst (rd.map V.int)) = H2 at s2 M2 gS2 gwd2
  walk_at "go"
  refine ⟨s.wd, _, rfl, Rd.of gwd2, fun p3 hp3 => ?_⟩
  have s3 := Same.new (o := .dK ms.wd) hp3
  have M3 := M2.new (o := .dK ms.wd) hp3
  generalize upd H2 p3 (.dK ms.wd) = H3 at s3 M3
  walk_at "go"
  intro x dx hx hdx hne
  have hx' : upd H3 dx (.own x) x = none := by
    rw [upd_ne (Ne.symm hne)]
    exact hx
  have M6 : Has (made H3 x dx (He.ga K "State")) _ := ((M3.new (o := .own x) hdx).new (o := .ins (He.ga K "State") dx []) hx').perm (List.perm_append_comm (l₂ := [_]))
  have s6 : Same H3 (made H3 x dx (He.ga K "State")) := made_same hx hdx
  refine ⟨x, dx, p1, p2, p3, _, rfl, M6, fun M7 => ⟨rfl, ?_⟩⟩
  have s7 := Same.mut (o := stO K dx p1 p2 p3) s6 hx
  have M8 := (M7.sub (L' := (x, stO K dx p1 p2 p3) :: (((L ++ [(p1, HO.lst (ms.rg.map V.int))]) ++ [(p2, HO.lst (rd.map V.int))]) ++ [(p3, HO.dK ms.wd)])) (.cons₂ _ (List.sublist_append_left _ _))).perm perm3
  exact hQ _ ⟨x, dx, p1, p2, p3⟩ (((s1.trans s2).trans s3).trans s7) M8
abbrev C5 (K : PySem.W.Frag) (k : MK) (m : MA) (mc : MC) (ou : List Int) (us : List V) : List (Addr × HO) := [(m.M, maO K k m mc), (m.O, .lst (ou.map V.int)), (m.T, .lst us), (m.P, prO K m.pdx mc.pr.k mc.pr.b mc.pr.h m.C), (m.C, ctO mc.pr.cs)]
theorem app5 {α : Type} (S C A B Y : List α) : (S ++ C) ++ (A ++ (B ++ Y)) = S ++ ((C ++ (A ++ B)) ++ Y) := by simp only [List.append_assoc]
theorem fl_eq {k : MK} {m : MA} {s : SA} {ms : MS} {rd : List Int} {mc : MC} {ou : List Int} {us : List V} {Y : List (Addr × HO)} : FL K k m s ms rd mc ou us Y = SL K s ms rd ++ ((C5 K k m mc ou us ++ (CaL K m.d mc.dc ++ CaL K m.c mc.fc)) ++ Y) := app5 (SL K s ms rd) (C5 K k m mc ou us) (CaL K m.d mc.dc) (CaL K m.c mc.fc) Y
section
variable {H H' : Hp} {k : MK} {m : MA} {s s2 : SA} {ms ms2 : MS} {rd rd2 : List Int} {mc : MC} {ou : List Int} {Y : List (Addr × HO)}
/-- a copy in front -/
theorem MW.copy (W : MW K H k m s ms rd mc ou Y) : ∃ L, Has H L ∧ ∀ H' s2, Same H H' → Has H' (SL K s2 ms rd ++ L) → MW K H' k m s2 ms rd mc ou (SL K s ms rd ++ Y) := by
  obtain ⟨us, M, im⟩ := W.ex
  refine ⟨_, M, fun H' s2 sm M' => ⟨⟨us, ?_, im.same sm⟩, W.r.same sm, W.v.same sm⟩⟩
  rw [fl_eq] at M' ⊢
  exact M'.perm (List.Perm.append_left _ (List.perm_append_comm_assoc _ _ _))
/-- the copy forgotten -/
theorem MW.back (W : MW K H k m s2 ms2 rd2 mc ou (SL K s ms rd ++ Y)) : MW K H k m s ms rd mc ou Y := by
  obtain ⟨us, M, im⟩ := W.ex
  refine ⟨⟨us, ?_, im⟩, W.r, W.v⟩
  rw [fl_eq] at M ⊢
  exact (M.sub (List.sublist_append_right _ _)).perm (List.perm_append_comm_assoc _ _ _)
end
theorem work_ok {b : Nat} {cov : Int → Prop} {ms : MS} {r : Row} {g : Bool} {many a : Nat} (h : MOk b cov ms) (hr : RowOkD many a r) : MOk (b + 1) cov (workS r ms g) := by
  cases r <;> first | exact h.do_ hr | skip
  unfold workS
  show MOk (b + 1) cov (if g = true then ms else _)
  split
  · exact h.same
  · exact h.do_ hr
theorem workR_len {k : MK} {r : Row} {ms : MS} {rd : List Int} {mc : MC} (h : rd.length = 16) : (workR k r ms rd mc).length = 16 := by
  cases r <;> first | exact h | (show (rd.set _ _).length = 16; rw [List.length_set]; exact h)
theorem aft_lt {many a : Nat} {r : Row} {t : Bool} (h : RowOkD many a r) (hs : isStop r = false) : aftM r a t < many := by
  cases r with
  | const d n => exact h.2.2
  | op s d a b => exact h.2.2.2
  | select d c a b => exact h.2.2.2.2
  | load d a base mask => exact h.2.2
  | store a base mask b => exact h.2.2
  | out a => exact h.2
  | jump t => exact h
  | branch x y =>
    show (if t = true then y else a + 1) < many
    split
    · exact h.2.1
    · exact h.2.2
  | stop a => cases hs
theorem st_nm {r : Row} : r.nm = "stop" ↔ isStop r = true := by
  cases r <;> simp only [Row.nm, isStop] <;> decide +kernel
theorem wrk_of {r : Row} (h : isBr r = false) (h2 : isStop r = false) : wrkR r = true := by
  cases r <;> first | rfl | (cases h; done) | (cases h2; done)
theorem wrongM_succ {k : MK} {en : Int} {n a : Nat} {ms : MS} {rd : List Int} {mc : MC} {r : Row} (h : k.rows[a]? = some r) (hc : mc.ck < en) : wrongM k en (n + 1) a ms rd mc = (if en ≤ (waitM r rd (fetchM k mc a)).ck ∨ isStop r = true then waitM r rd (fetchM k mc a)
        else if isBr r = true then wrongM k en n (aftM r a (gueV (waitM r rd (fetchM k mc a)) a)) ms rd { gueM (waitM r rd (fetchM k mc a)) a with ck := (waitM r rd (fetchM k mc a)).ck + 1 }
        else wrongM k en n (aftM r a false) (workS r ms true) (workR k r ms rd (waitM r rd (fetchM k mc a))) { workC r ms true (waitM r rd (fetchM k mc a)) with ck := (waitM r rd (fetchM k mc a)).ck + 1 }) := by
  show (if mc.ck < en then _ else mc) = _
  rw [if_pos hc]
  show (match k.rows[a]? with | none => mc | some r => _) = _
  rw [h]
theorem wrongM_end {k : MK} {en : Int} {n a : Nat} {ms : MS} {rd : List Int} {mc : MC} (hc : ¬ mc.ck < en) : wrongM k en n a ms rd mc = mc := by
  cases n with
  | zero => rfl
  | succ n =>
    show (if mc.ck < en then _ else mc) = _
    rw [if_neg hc]
theorem gue_ck {mc : MC} {a : Nat} : (gueM mc a).ck = mc.ck := rfl
theorem work_ck {r : Row} {ms : MS} {g : Bool} {mc : MC} : (workC r ms g mc).ck = mc.ck := by
  cases r <;> first | rfl | (cases g <;> rfl)
theorem ou_guess {r : Row} {ms : MS} {ou : List Int} : ouW r ms true ou = ou := by
  cases r <;> rfl
def sp_Machine_wrong_way (K : PySem.W.Frag) : Sp := fun vs H Q _ => ∃ (k : MK) (m : MA) (s : SA) (ms : MS) (rd : List Int) (mc : MC) (ou : List Int) (Y : List (Addr × HO)) (a b N : Nat) (cov : Int → Prop) (en : Int), vs = [.ref m.M, .int (a : Int), .int en] ∧ m.St = s.S ∧ MW K H k m s ms rd mc ou Y ∧ COk k m.d m.c N mc ∧ N + 200 < 16000000 ∧ MOk b cov ms ∧ b + 100 ≤ 90000 ∧ ou.length < 90000 ∧ rd.length = 16 ∧ CodeOk k.rows ∧ a < k.rows.length ∧ 0 ≤ k.dep ∧ k.dep ≤ 64 ∧
  ∀ H', KT H H' → MW K H' k m s ms rd (wrongM k en k.dep.toNat a ms rd mc) ou Y → Q .non H'
theorem sc_Machine_wrong_way : FnScope ["self", "at", "end", "state", "done", "row", "taken"] ["self", "at", "end"] (defScope (inClass (topS 18) 13)) := ⟨rfl, rfl, rfl, by decide +kernel, rfl, by decide +kernel, by decide +kernel⟩
theorem mt_Machine_wrong_way (T : Txt fa fn K mg (XOk cs xcs K w)) : Mt P w K mg base CX0 7 "Machine" "wrong_way" ["self", "at", "end"] (sp_Machine_wrong_way K) := by
  refine mk_mt (d := mOf "Machine" "wrong_way" "Machine.wrong_way" (inClass (topS 18) 13)) T 80 rfl rfl rfl rfl sc_Machine_wrong_way (by walk_at "len") (fun _ _ _ _ _ _ us hl => match us, hl with | [_, _, _], _ => rfl) (fun cdv A outer s H vs Q E hr h => ⟨_, (pss_cons (ps_set (i := 3) sc_Machine_wrong_way.nd rfl (.inl rfl) (pe_methD0 (K := K) rfl (mt_State_copied T) (cl_State T) (T.meth 85 rfl) (hr.mono (by decide)) pass0 (pe_fldU (K := K) rfl (pv 0) rfl)))
      (pss_cons (ps_set (i := 4) sc_Machine_wrong_way.nd rfl (.inl rfl) pe_int)
      (pss_one (ps_while PassesOwn.never (PW.pt (pw_and (pt_cmpR o_lt (pv 4) (pe_fldU (K := K) rfl (pv 0) rfl) (nomark _)) (pw_and1 (pt_cmpR o_lt (pe_fldU (K := K) rfl (pv 0) rfl) (pv 2) (nomark _))))) (pss_cons (ps_set (i := 5) sc_Machine_wrong_way.nd rfl (.inl rfl) (pe_ixU (K := K) rfl (hu_of hr) (pe_fldU (K := K) rfl (pv 0) rfl) (pv 1)))
      (pss_cons (ps_expr (pe_methD (K := K) rfl (mt_Machine_fetch T) (cl_Machine T) (T.meth 95 rfl) (hr.mono (by decide)) pass0 (pv 0) (pa_cons (pv 1) pa_nil)))
      (pss_cons (ps_expr (pe_methD (K := K) rfl (mt_Machine_wait T) (cl_Machine T) (T.meth 96 rfl) (hr.mono (by decide)) pass0 (pv 0) (pa_cons (pv 5) (pa_cons (pv 3) pa_nil))))
      (pss_cons (ps_if (PW.pt (pw_or (pt_cmpR o_ge (pe_fldU (K := K) rfl (pv 0) rfl) (pv 2) (nomark _)) (pw_or1 (pt_cmpR (op_eqU (K := K) rfl hr.units) (pe_ixU (K := K) rfl (hu_of hr) (pv 5) pe_int) pe_str (nomark _))))) (pss_one ps_retN) pss_nil)
      (pss_cons (ps_set (i := 6) sc_Machine_wrong_way.nd rfl (.inl rfl) pe_bl)
      (pss_cons (ps_join (ps_if (pt_cmpR (op_eqU (K := K) rfl hr.units) (pe_ixU (K := K) rfl (hu_of hr) (pv 5) pe_int) pe_str (nomark _)) (pss_one (ps_set (i := 6) sc_Machine_wrong_way.nd rfl (.inl rfl) (pe_methD (K := K) rfl (mt_Machine_guess T) (cl_Machine T) (T.meth 102 rfl) (hr.mono (by decide)) pass0 (pv 0) (pa_cons (pv 1) pa_nil)))) (pss_one (ps_expr (pe_methD (K := K) rfl (mt_Machine_work T) (cl_Machine T) (T.meth 101 rfl) (hr.mono (by decide)) pass0 (pv 0) (pa_cons (pv 5) (pa_cons (pv 3) (pa_cons pe_bl pa_nil))))))))
      (pss_cons (ps_set (i := 1) sc_Machine_wrong_way.nd rfl (.inl rfl) (pe_methD (K := K) rfl (mt_Machine_after T) (cl_Machine T) (T.meth 103 rfl) (hr.mono (by decide)) pass0 (pv 0) (pa_cons (pv 1) (pa_cons (pv 6) pa_nil))))
      (pss_cons (ps_fldaug (pv 0) pe_int in_add)
      (pss_one (ps_aug (i := 4) sc_Machine_wrong_way.nd rfl (.inl rfl) pe_int ip_add)))))))))))))), ?_⟩)
  obtain ⟨k, m, s, ms, rd, mc, ou, Y, a, b, N, cov, en, rfl, hst, W, c, hN, ho, hb, hou, hl, co, ha, hd0, hd1, hQ⟩ := h
  obtain ⟨gS, grg, grd, gwd, gM, gO, gP, gC, gd, gc, us, gT⟩ := W.get_
  obtain ⟨L, hL, hcp⟩ := W.copy
  walk_at "go"
  rw [hst]
  walk_at "go"
  refine ⟨s, ms, rd, L, rfl, hL, gS, grg, grd, gwd, fun H1 s2 sm M1 => ?_⟩
  have W1 := hcp H1 s2 sm M1
  walk_at "go"
  refine ⟨fun n σ H' => ∃ (a' j : Nat) (ms' : MS) (rd' : List Int) (mc' : MC) (r tk : Option V), σ = [some (.ref m.M), some (.int (a' : Int)), some (.int en), some (.ref s2.S), some (.int (j : Int)), r, tk] ∧ KT H H' ∧ MW K H' k m s2 ms' rd' mc' ou (SL K s ms rd ++ Y) ∧ COk k m.d m.c (N + 2 * j) mc' ∧ MOk (b + j) cov ms' ∧ rd'.length = 16 ∧ a' < k.rows.length ∧ n = k.dep.toNat - j ∧ j ≤ k.dep.toNat ∧
    wrongM k en n a' ms' rd' mc' = wrongM k en k.dep.toNat a ms rd mc, ⟨_, a, 0, ms, rd, mc, _, _, rfl, KT.of sm, W1, c, ho, hl, ha, rfl, Nat.zero_le _, rfl⟩, ?_⟩
  rintro n σ H2 ⟨a', j, ms', rd', mc', r0, tk, rfl, k1, W2, c2, ho2, hl2, ha2, rfl, hj, hrun⟩
  obtain ⟨gS, grg, grd, gwd, gM, gO, gP, gC, gd, gc, us, gT⟩ := W2.get_
  walk_at "go"
  refine g_if (fun h1 => ?_) (fun h1 => ?_)
  · obtain ⟨q, hq⟩ : ∃ q, k.dep.toNat - j = q + 1 := ⟨k.dep.toNat - j - 1, by omega⟩
    rw [hq] at hrun
    walk_at "go"
    refine g_if (fun h2 => ?_) (fun h2 => ?_)
    · refine g_whileT ?_
      have hra : k.rows[a']? = some k.rows[a'] := List.getElem?_eq_getElem ha2
      generalize k.rows[a'] = r at hra
      have hr := co.r a' r hra
      rw [wrongM_succ hra h2] at hrun
      walk_at "go"
      refine m_ix W2.r (n := a') rfl (by rw [List.getElem?_map, hra]; rfl) (fun y hy => ?_)
      obtain ⟨ra, rfl, ht⟩ := row_tup hy
      walk_at "go"
      refine ⟨k, m, s2, ms', rd', mc', ou, _, a', N + 2 * j, rfl, W2, c2, by omega, fun H3 k3 W3 => ?_⟩
      have ht3 := k3 _ _ ht
      obtain ⟨gS, grg, grd, gwd, gM, gO, gP, gC, gd, gc, us, gT⟩ := W3.get_
      have c3 := c2.fetch (a := a')
      walk_at "go"
      refine ⟨k, m, s2, ms', rd', fetchM k mc' a', ou, _, ra, r, k.rows.length, a', rfl, W3, ht3, hr, hl2, fun H4 k4 W4 => ?_⟩
      have ht4 := k4 _ _ ht3
      have c4 := c3.wait (r := r) (rd := rd')
      obtain ⟨gS, grg, grd, gwd, gM, gO, gP, gC, gd, gc, us, gT⟩ := W4.get_
      have kk4 := (k1.trans k3).trans k4
      generalize hmm : waitM r rd' (fetchM k mc' a') = mm at W4 c4 hrun gM gP gC gd gc
      walk_at "go"
      refine g_if (fun h3 => ?_) (fun h3 => ?_)
      · rw [if_pos (.inl h3)] at hrun
        walk_at "go"
        rw [← hrun] at hQ
        exact hQ _ kk4 W4.back
      walk_at "go"
      refine g_ixT (SqT.of ht4) (n := 0) rfl row0 ?_
      walk_at "go"
      refine g_if (fun h4 => ?_) (fun h4 => ?_)
      · rw [if_pos (.inr (st_nm.mp h4))] at hrun
        walk_at "go"
        rw [← hrun] at hQ
        exact hQ _ kk4 W4.back
      have hs : isStop r = false := by
        cases e : isStop r with
        | false => rfl
        | true => exact absurd (st_nm.mpr e) h4
      rw [if_neg (by rw [hs]; rintro (z | z); exact h3 z; cases z)] at hrun
      walk_at "go"
      refine ⟨fun σ' H' => ∃ (ms'' : MS) (rd'' : List Int) (mc'' : MC) (t : Bool), σ' = [some (.ref m.M), some (.int (a' : Int)), some (.int en), some (.ref s2.S), some (.int (j : Int)), some (.ref ra), some (.bl t)] ∧ KT H H' ∧ MW K H' k m s2 ms'' rd'' mc'' ou (SL K s ms rd ++ Y) ∧ COk k m.d m.c (N + 2 * j + 2) mc'' ∧ MOk (b + j + 1) cov ms'' ∧ rd''.length = 16 ∧
        wrongM k en q (aftM r a' t) ms'' rd'' { mc'' with ck := mc''.ck + 1 } = wrongM k en k.dep.toNat a ms rd mc, ?_, ?_⟩
      · walk_at "go"
        refine g_ixT (SqT.of ht4) (n := 0) rfl row0 ?_
        walk_at "go"
        refine g_if (fun h5 => ?_) (fun h5 => ?_)
        · have hbr := br_nm.mp h5
          rw [if_pos hbr] at hrun
          walk_at "go"
          refine ⟨k, m, s2, ms', rd', mm, ou, _, a', N + 2 * j + 1, rfl, W4, c4, by omega, fun H5 k5 W5 => ?_⟩
          walk_at "go"
          exact ⟨ms', rd', gueM mm a', _, rfl, kk4.trans k5, W5, c4.gue, ho2.same, hl2, hrun⟩
        · have hbr : isBr r = false := by
            cases e : isBr r with
            | false => rfl
            | true => exact absurd (br_nm.mpr e) h5
          rw [if_neg (by rw [hbr]; exact Bool.false_ne_true)] at hrun
          walk_at "go"
          refine ⟨k, m, s2, ms', rd', mm, ou, _, ra, r, true, k.rows.length, a', b + j, N + 2 * j + 1, cov, rfl, W4, ht4, hr, wrk_of hbr hs, hl2, ho2, by omega, hou, c4, by omega, fun H5 k5 W5 => ?_⟩
          walk_at "go"
          rw [ou_guess] at W5
          refine ⟨workS r ms' true, workR k r ms' rd' mm, workC r ms' true mm, false, rfl, kk4.trans k5, W5, c4.work, work_ok ho2 hr, workR_len hl2, ?_⟩
          rw [work_ck]
          exact hrun
      · rintro σ' H5 ⟨ms'', rd'', mc'', t, rfl, k5, W5, c5, ho5, hl5, hrun5⟩
        obtain ⟨gS, grg, grd, gwd, gM, gO, gP, gC, gd, gc, us, gT⟩ := W5.get_
        walk_at "go"
        refine ⟨k, m, mc'', a', t, r, rfl, gM, W5.r, hra, ?_⟩
        walk_at "go"
        dsimp only
        refine g_fldaug ?_
        walk_at "go"
        refine w_ckA (x := 1) T W5 ⟨rfl, rfl⟩ (fun hh z => hh _ _ z) (fun H6 k6 W6 => ?_)
        walk_at "go"
        refine ⟨q, by omega, aftM r a' t, j + 1, ms'', rd'', _, _, _, rfl, k5.trans k6, W6, (c5.ck).mono (by omega), ho5, hl5, aft_lt hr hs, by omega, by omega, hrun5⟩
    · rw [wrongM_end h2] at hrun
      walk_at "go"
      rw [← hrun] at hQ
      exact hQ _ k1 W2.back
  · have e : k.dep.toNat - j = 0 := by omega
    rw [e] at hrun
    have hrun : mc' = _ := hrun
    walk_at "go"
    rw [← hrun] at hQ
    exact hQ _ k1 W2.back


/-! ### branches, the run -/
theorem w_learn {H : Hp} {k : MK} {m : MA} {s : SA} {ms : MS} {rd : List Int} {mc : MC} {ou : List Int} {Y : List (Addr × HO)} {Q : VK} {E : XK} {a : Nat} {t : Bool} (W : MW K H k m s ms rd mc ou Y) (ok : PrOk mc.pr.k mc.pr.b mc.pr.h mc.pr.cs)
    (q : ∀ H', KT H H' → MW K H' k m s ms rd (lrnM mc a t) ou Y → Q .non H') : sp_Predictor_learn K (.ref m.P :: ([.int (a : Int), .bl t] ++ [])) H Q E := by
  obtain ⟨us, M, im⟩ := W.ex
  refine use_learn M 7 8 rfl rfl (by decide) ok (fun H' kp M' => ?_)
  have kt : KT H H' := KT.keep kp (NoTup.cons (M.get 7 rfl) (fun _ e => nomatch e) (NoTup.one (M.get 8 rfl) (fun _ e => nomatch e)))
  exact q H' kt (W.upd_ (mc' := lrnM mc a t) kt rfl rfl M' (im.kt kt))
def sp_Machine_branch (K : PySem.W.Frag) : Sp := fun vs H Q _ => ∃ (k : MK) (m : MA) (s : SA) (ms : MS) (rd : List Int) (mc : MC) (ou : List Int) (Y : List (Addr × HO)) (a p t b N : Nat) (cov : Int → Prop), vs = [.ref m.M, .int (a : Int)] ∧ m.St = s.S ∧ MW K H k m s ms rd mc ou Y ∧ COk k m.d m.c N mc ∧ N + 300 < 16000000 ∧ MOk b cov ms ∧ b + 100 ≤ 90000 ∧ ou.length < 90000 ∧ rd.length = 16 ∧ CodeOk k.rows ∧ k.rows[a]? = some (.branch p t) ∧ 0 ≤ k.dep ∧ k.dep ≤ 64 ∧
  ∀ H', KT H H' → MW K H' k m s ms rd (brM k (.branch p t) a p ms rd mc) ou Y → Q (.bl (decide (¬ rgV ms p = 0))) H'
theorem sc_Machine_branch : FnScope ["self", "at", "place", "start", "guessed", "taken", "end"] ["self", "at"] (defScope (inClass (topS 18) 12)) := ⟨rfl, rfl, rfl, by decide +kernel, rfl, by decide +kernel, by decide +kernel⟩
theorem mt_Machine_branch (T : Txt fa fn K mg (XOk cs xcs K w)) : Mt P w K mg base CX0 8 "Machine" "branch" ["self", "at"] (sp_Machine_branch K) := by
  refine mk_mt (d := mOf "Machine" "branch" "Machine.branch" (inClass (topS 18) 12)) T 79 rfl rfl rfl rfl sc_Machine_branch (by walk_at "len") (fun _ _ _ _ _ _ us hl => match us, hl with | [_, _], _ => rfl) (fun cdv A outer s H vs Q E hr h => ⟨_, (pss_cons (ps_set (i := 2) sc_Machine_branch.nd rfl (.inl rfl) (pe_ixU (K := K) rfl (hu_of hr) (pe_ixU (K := K) rfl (hu_of hr) (pe_fldU (K := K) rfl (pv 0) rfl) (pv 1)) pe_int))
      (pss_cons (ps_set (i := 3) sc_Machine_branch.nd rfl (.inl rfl) (pe_fldU (K := K) rfl (pv 0) rfl))
      (pss_cons (ps_set (i := 4) sc_Machine_branch.nd rfl (.inl rfl) (pe_methD (K := K) rfl (mt_Machine_guess T) (cl_Machine T) (T.meth 102 rfl) (hr.mono (by decide)) pass0 (pv 0) (pa_cons (pv 1) pa_nil)))
      (pss_cons (ps_set (i := 5) sc_Machine_branch.nd rfl (.inl rfl) (pe_cmpR (op_neU (K := K) rfl hr.units) (pe_ixU (K := K) rfl (hu_of hr) (pe_fldU (K := K) rfl (pe_fldU (K := K) rfl (pv 0) rfl) rfl) (pv 2)) pe_int (nomark _)))
      (pss_cons (ps_fldU (K := K) rfl (pv 0) (pe_op (op_addU (K := K) rfl) (pv 3) pe_int) rfl)
      (pss_cons (ps_join (ps_if (pt_cmpR (op_neU (K := K) rfl hr.units) (pv 4) (pv 5) (nomark _)) (pss_cons (ps_set (i := 6) sc_Machine_branch.nd rfl (.inl rfl) (pe_op (op_addU (K := K) rfl) (pe_callB (c_max2 rfl) rfl (T.free 130 rfl) (by decide +kernel) (pa_cons (pv 3) (pa_cons (pe_ixU (K := K) rfl (hu_of hr) (pe_fldU (K := K) rfl (pe_fldU (K := K) rfl (pv 0) rfl) rfl) (pv 2)) pa_nil))) (pe_fldU (K := K) rfl (pv 0) rfl)))
      (pss_cons (ps_expr (pe_methD (K := K) rfl (mt_Machine_wrong_way T) (cl_Machine T) (T.meth 105 rfl) (hr.mono (by decide)) pass0 (pv 0) (pa_cons (pe_methD (K := K) rfl (mt_Machine_after T) (cl_Machine T) (T.meth 103 rfl) (hr.mono (by decide)) pass0 (pv 0) (pa_cons (pv 1) (pa_cons (pv 4) pa_nil))) (pa_cons (pv 6) pa_nil))))
      (pss_cons (ps_fldU (K := K) rfl (pv 0) (pv 6) rfl)
      (pss_one (ps_expr (pe_bm PySem.F.plainAttrs_list PySem.F.slot_list_append PySem.F.type_list_append mt_append (pe_fldU (K := K) rfl (pv 0) rfl) (pa_cons (pe_tup (pa_cons pe_str (pa_cons (pv 6) (pa_cons (pv 1) pa_nil)))) pa_nil))))))) pss_nil))
      (pss_cons (ps_expr (pe_methD (K := K) rfl (mt_Predictor_learn T) (cl_Predictor T) (T.meth 78 rfl) (hr.mono (by decide)) pass0 (pe_fldU (K := K) rfl (pv 0) rfl) (pa_cons (pv 1) (pa_cons (pv 5) pa_nil))))
      (pss_one (ps_ret (pv 5)))))))))), ?_⟩)
  obtain ⟨k, m, s, ms, rd, mc, ou, Y, a, p, t, b, N, cov, rfl, hst, W, c, hN, ho, hb, hou, hl, co, hra, hd0, hd1, hQ⟩ := h
  have hr := co.r a _ hra
  obtain ⟨gS, grg, grd, gwd, gM, gO, gP, gC, gd, gc, us, gT⟩ := W.get_
  walk_at "go"
  refine m_ix W.r (n := a) rfl (by rw [List.getElem?_map, hra]; rfl) (fun y hy => ?_)
  obtain ⟨ra, rfl, ht⟩ := row_tup hy
  have ht : H ra = some (.tup [.str "branch", .int p, .int t]) := ht
  walk_at "go"
  refine ⟨k, m, s, ms, rd, mc, ou, Y, a, N, rfl, W, c, by omega, fun H1 k1 W1 => ?_⟩
  have c1 := c.gue (a := a)
  obtain ⟨gS, grg, grd, gwd, gM, gO, gP, gC, gd, gc, us, gT⟩ := W1.get_
  have gSt : H1 m.St = some (stO K s.dx s.rg s.rd s.wd) := by rw [hst]; exact gS
  walk_at "go"
  refine w_reg W1 ho hr.1 ?_
  walk_at "go"
  have etk : (!decide (rgV ms p = 0)) = decide (¬ rgV ms p = 0) := by simp
  rw [etk]
  walk_at "go"
  refine w_ck T W1 (fun H2 k2 W2 => ?_)
  have c2 := c1.ck (x := mc.ck + 1)
  have kk2 := k1.trans k2
  obtain ⟨gS, grg, grd, gwd, gM, gO, gP, gC, gd, gc, us, gT⟩ := W2.get_
  have gSt : H2 m.St = some (stO K s.dx s.rg s.rd s.wd) := by rw [hst]; exact gS
  walk_at "go"
  refine ⟨fun σ' H' => ∃ (m3 : MC) (en : Option V), σ' = [some (.ref m.M), some (.int (a : Int)), some (.int (p : Int)), some (.int mc.ck), some (.bl (gueV mc a)), some (.bl (decide (¬ rgV ms p = 0))), en] ∧ KT H H' ∧ MW K H' k m s ms rd m3 ou Y ∧ COk k m.d m.c (N + 130) m3 ∧ lrnM m3 a (decide (¬ rgV ms p = 0)) = brM k (.branch p t) a p ms rd mc, ?_, ?_⟩
  · walk_at "go"
    refine g_ifN (fun h => ?_) (fun h => ?_)
    · have e : brM k (.branch p t) a p ms rd mc = lrnM { wrongM k (mx mc.ck (rdAt rd p) + k.wrong) k.dep.toNat (aftM (.branch p t) a (gueV mc a)) ms rd { gueM mc a with ck := mc.ck + 1 } with ck := mx mc.ck (rdAt rd p) + k.wrong, tr := (wrongM k (mx mc.ck (rdAt rd p) + k.wrong) k.dep.toNat (aftM (.branch p t) a (gueV mc a)) ms rd { gueM mc a with ck := mc.ck + 1 }).tr ++ [.back (mx mc.ck (rdAt rd p) + k.wrong) a] } a (decide (¬ rgV ms p = 0)) := by
        unfold brM
        show lrnM (if gueV mc a = decide (¬ rgV ms p = 0) then _ else _) _ _ = _
        rw [if_neg h]
      walk_at "go"
      refine w_rdy W2 hl (by omega) (by have := hr.1; omega) ?_
      walk_at "go"
      refine ⟨k, m, _, a, gueV mc a, _, rfl, gM, W2.r, hra, ?_⟩
      walk_at "go"
      refine ⟨k, m, s, ms, rd, _, ou, Y, aftM (.branch p t) a (gueV mc a), b, N + 1, cov, _, rfl, hst, W2, c2, by omega, ho, hb, hou, hl, co, aft_lt hr rfl, hd0, hd1, fun H3 k3 W3 => ?_⟩
      have c3 := COk.wrong (en := mx mc.ck (rdAt rd p) + k.wrong) k.dep.toNat (a := aftM (.branch p t) a (gueV mc a)) (ms := ms) (rd := rd) c2
      walk_at "go"
      refine w_ck T W3 (fun H4 k4 W4 => ?_)
      have c4 := c3.ck (x := mx mc.ck (rdAt rd p) + k.wrong)
      obtain ⟨gS, grg, grd, gwd, gM, gO, gP, gC, gd, gc, us, gT⟩ := W4.get_
      walk_at "go"
      refine m_new (.cons (.str _) (.cons (.int _) (.cons (.int _) .nil))) (by simp) (fun q H5 s5 hq im => ?_)
      walk_at "go"
      have hl4 := c4.len
      refine w_ev (e := .back (mx mc.ck (rdAt rd p) + k.wrong) a) (W4.same s5) (Nat.lt_of_le_of_lt hl4 (by omega)) im (fun H6 k6 W6 => ?_)
      walk_at "go"
      exact ⟨_, _, rfl, (((kk2.trans k3).trans k4).trans (KT.of s5)).trans k6, W6, c4.ev.mono (by omega), e.symm⟩
    · have e : brM k (.branch p t) a p ms rd mc = lrnM { gueM mc a with ck := mc.ck + 1 } a (decide (¬ rgV ms p = 0)) := by
        unfold brM
        show lrnM (if gueV mc a = decide (¬ rgV ms p = 0) then _ else _) _ _ = _
        rw [if_pos h]
      walk_at "go"
      exact ⟨_, _, rfl, kk2, W2, c2.mono (by omega), e.symm⟩
  · rintro σ' H3 ⟨m3, en, rfl, k3, W3, c3, e3⟩
    obtain ⟨gS, grg, grd, gwd, gM, gO, gP, gC, gd, gc, us, gT⟩ := W3.get_
    walk_at "go"
    refine w_learn W3 c3.p (fun H4 k4 W4 => ?_)
    walk_at "go"
    rw [e3] at W4
    exact hQ _ (k3.trans k4) W4
theorem ou_work {r : Row} {ms : MS} : ouW r ms false ms.ou = (workS r ms false).ou := by
  cases r <;> rfl
theorem run_stop {k : MK} {n a p : Nat} {ms : MS} {rd : List Int} {mc : MC} (h : k.rows[a]? = some (.stop p)) : runMM k (n + 1) a ms rd mc = (some (rgV ms p), ms, { waitM (.stop p) rd (fetchM k mc a) with tr := (waitM (.stop p) rd (fetchM k mc a)).tr ++ [.stop (waitM (.stop p) rd (fetchM k mc a)).ck] }) := by
  show (match k.rows[a]? with | none => _ | some r => _) = _
  rw [h]
theorem run_br {k : MK} {n a p t : Nat} {ms : MS} {rd : List Int} {mc : MC} (h : k.rows[a]? = some (.branch p t)) : runMM k (n + 1) a ms rd mc = runMM k n (aftM (.branch p t) a (decide (¬ rgV ms p = 0))) ms rd (brM k (.branch p t) a p ms rd (waitM (.branch p t) rd (fetchM k mc a))) := by
  show (match k.rows[a]? with | none => _ | some r => _) = _
  rw [h]
theorem run_wk {k : MK} {n a : Nat} {r : Row} {ms : MS} {rd : List Int} {mc : MC} (h : k.rows[a]? = some r) (hw : wrkR r = true) : runMM k (n + 1) a ms rd mc = runMM k n (aftM r a false) (workS r ms false) (workR k r ms rd (waitM r rd (fetchM k mc a))) { workC r ms false (waitM r rd (fetchM k mc a)) with ck := (waitM r rd (fetchM k mc a)).ck + 1 } := by
  show (match k.rows[a]? with | none => _ | some r => _) = _
  rw [h]
  cases r <;> first | rfl | cases hw
theorem br_inv {r : Row} (h : isBr r = true) : ∃ p t, r = .branch p t := by
  cases r <;> first | (cases h; done) | exact ⟨_, _, rfl⟩
theorem st_inv {r : Row} (h : isStop r = true) : ∃ p, r = .stop p := by
  cases r <;> first | (cases h; done) | exact ⟨_, rfl⟩
def sp_Machine_run (K : PySem.W.Frag) : Sp := fun vs H Q _ => ∃ (k : MK) (m : MA) (s : SA) (ms : MS) (rd : List Int) (mc : MC) (Y : List (Addr × HO)) (b N n : Nat) (cov : Int → Prop), vs = [.ref m.M, .int (n : Int)] ∧ m.St = s.S ∧ MW K H k m s ms rd mc ms.ou Y ∧ COk k m.d m.c N mc ∧ N + 140 * n + 400 < 16000000 ∧ MOk b cov ms ∧ b + n + 200 ≤ 90000 ∧ rd.length = 16 ∧ CodeOk k.rows ∧ 0 ≤ k.dep ∧ k.dep ≤ 64 ∧
  ∀ H' rd' b', KT H H' → MW K H' k m s (runMM k n 0 ms rd mc).2.1 rd' (runMM k n 0 ms rd mc).2.2 (runMM k n 0 ms rd mc).2.1.ou Y → MOk b' cov (runMM k n 0 ms rd mc).2.1 → (runMM k n 0 ms rd mc).2.2.tr.length ≤ 16000000 → b' ≤ 90000 → Q (rsV (runMM k n 0 ms rd mc).1) H'
theorem sc_Machine_run : FnScope ["self", "steps", "at", "step", "row", "taken"] ["self", "steps"] (defScope (inClass (topS 18) 14)) := ⟨rfl, rfl, rfl, by decide +kernel, rfl, by decide +kernel, by decide +kernel⟩
theorem mt_Machine_run (T : Txt fa fn K mg (XOk cs xcs K w)) : Mt P w K mg base CX0 9 "Machine" "run" ["self", "steps"] (sp_Machine_run K) := by
  refine mk_mt (d := mOf "Machine" "run" "Machine.run" (inClass (topS 18) 14)) T 81 rfl rfl rfl rfl sc_Machine_run (by walk_at "len") (fun _ _ _ _ _ _ us hl => match us, hl with | [_, _], _ => rfl) (fun cdv A outer s H vs Q E hr h => ⟨_, (pss_cons (ps_set (i := 2) sc_Machine_run.nd rfl (.inl rfl) pe_int)
      (pss_cons (ps_for PassesOwn.never rfl (pi_r1 rfl (T.free 132 rfl) (pa_cons (pv 1) pa_nil)) (pg_name (i := 3) sc_Machine_run.nd rfl (.inl rfl)) (pss_cons (ps_set (i := 4) sc_Machine_run.nd rfl (.inl rfl) (pe_ixU (K := K) rfl (hu_of hr) (pe_fldU (K := K) rfl (pv 0) rfl) (pv 2)))
      (pss_cons (ps_expr (pe_methD (K := K) rfl (mt_Machine_fetch T) (cl_Machine T) (T.meth 95 rfl) (hr.mono (by decide)) pass0 (pv 0) (pa_cons (pv 2) pa_nil)))
      (pss_cons (ps_expr (pe_methD (K := K) rfl (mt_Machine_wait T) (cl_Machine T) (T.meth 96 rfl) (hr.mono (by decide)) pass0 (pv 0) (pa_cons (pv 4) (pa_cons (pe_fldU (K := K) rfl (pv 0) rfl) pa_nil))))
      (pss_cons (ps_if (pt_cmpR (op_eqU (K := K) rfl hr.units) (pe_ixU (K := K) rfl (hu_of hr) (pv 4) pe_int) pe_str (nomark _)) (pss_cons (ps_expr (pe_bm PySem.F.plainAttrs_list PySem.F.slot_list_append PySem.F.type_list_append mt_append (pe_fldU (K := K) rfl (pv 0) rfl) (pa_cons (pe_tup (pa_cons pe_str (pa_cons (pe_fldU (K := K) rfl (pv 0) rfl) pa_nil))) pa_nil)))
      (pss_one (ps_ret (pe_ixU (K := K) rfl (hu_of hr) (pe_fldU (K := K) rfl (pe_fldU (K := K) rfl (pv 0) rfl) rfl) (pe_ixU (K := K) rfl (hu_of hr) (pv 4) pe_int))))) pss_nil)
      (pss_cons (ps_set (i := 5) sc_Machine_run.nd rfl (.inl rfl) pe_bl)
      (pss_cons (ps_join (ps_if (pt_cmpR (op_eqU (K := K) rfl hr.units) (pe_ixU (K := K) rfl (hu_of hr) (pv 4) pe_int) pe_str (nomark _)) (pss_one (ps_set (i := 5) sc_Machine_run.nd rfl (.inl rfl) (pe_methD (K := K) rfl (mt_Machine_branch T) (cl_Machine T) (T.meth 104 rfl) (hr.mono (by decide)) pass0 (pv 0) (pa_cons (pv 2) pa_nil)))) (pss_cons (ps_expr (pe_methD (K := K) rfl (mt_Machine_work T) (cl_Machine T) (T.meth 101 rfl) (hr.mono (by decide)) pass0 (pv 0) (pa_cons (pv 4) (pa_cons (pe_fldU (K := K) rfl (pv 0) rfl) (pa_cons pe_bl pa_nil)))))
      (pss_one (ps_fldaug (pv 0) pe_int in_add)))))
      (pss_one (ps_set (i := 2) sc_Machine_run.nd rfl (.inl rfl) (pe_methD (K := K) rfl (mt_Machine_after T) (cl_Machine T) (T.meth 103 rfl) (hr.mono (by decide)) pass0 (pv 0) (pa_cons (pv 2) (pa_cons (pv 5) pa_nil))))))))))))
      (pss_one (ps_ret pe_non)))), ?_⟩)
  obtain ⟨k, m, s, ms, rd, mc, Y, b, N, n, cov, rfl, hst, W, c, hN, ho, hb, hl, co, hd0, hd1, hQ⟩ := h
  generalize hfin : runMM k n 0 ms rd mc = fin at hQ
  walk_at "go"
  rw [Int.toNat_natCast]
  refine f_range (fun i σ H' => ∃ (a : Nat) (ms' : MS) (rd' : List Int) (mc' : MC) (st r tk : Option V), σ = [some (.ref m.M), some (.int (n : Int)), some (.int (a : Int)), st, r, tk] ∧ KT H H' ∧ MW K H' k m s ms' rd' mc' ms'.ou Y ∧ COk k m.d m.c (N + 140 * i) mc' ∧ MOk (b + i) cov ms' ∧ rd'.length = 16 ∧ a < k.rows.length ∧ i ≤ n ∧ runMM k (n - i) a ms' rd' mc' = fin)
    ⟨0, ms, rd, mc, _, _, _, rfl, KT.refl, W, c, ho, hl, co.l, Nat.zero_le _, hfin⟩ ?_ ?_
  · rintro i σ H1 hi ⟨a, ms', rd', mc', st, r0, tk, rfl, k1, W1, c1, o1, l1, ha, hin, hrun⟩
    obtain ⟨q, hq⟩ : ∃ q, n - i = q + 1 := ⟨n - i - 1, by omega⟩
    have hq2 : n - (i + 1) = q := by omega
    rw [hq] at hrun
    have hra : k.rows[a]? = some k.rows[a] := List.getElem?_eq_getElem ha
    generalize k.rows[a] = r at hra
    have hr := co.r a r hra
    obtain ⟨gS, grg, grd, gwd, gM, gO, gP, gC, gd, gc, us, gT⟩ := W1.get_
    have om := o1.m
    walk_at "go"
    refine m_ix W1.r (n := a) rfl (by rw [List.getElem?_map, hra]; rfl) (fun y hy => ?_)
    obtain ⟨ra, rfl, ht⟩ := row_tup hy
    walk_at "go"
    refine ⟨k, m, s, ms', rd', mc', ms'.ou, Y, a, N + 140 * i, rfl, W1, c1, by omega, fun H3 k3 W3 => ?_⟩
    have ht3 := k3 _ _ ht
    have c3 := c1.fetch (a := a)
    obtain ⟨gS, grg, grd, gwd, gM, gO, gP, gC, gd, gc, us, gT⟩ := W3.get_
    walk_at "go"
    rw [hst]
    refine ⟨k, m, s, ms', rd', fetchM k mc' a, ms'.ou, Y, ra, r, k.rows.length, a, rfl, W3, ht3, hr, l1, fun H4 k4 W4 => ?_⟩
    have ht4 := k4 _ _ ht3
    have c4 := c3.wait (r := r) (rd := rd')
    have kk4 := (k1.trans k3).trans k4
    obtain ⟨gS, grg, grd, gwd, gM, gO, gP, gC, gd, gc, us, gT⟩ := W4.get_
    have gSt : H4 m.St = some (stO K s.dx s.rg s.rd s.wd) := by rw [hst]; exact gS
    walk_at "go"
    refine g_ixT (SqT.of ht4) (n := 0) rfl row0 ?_
    walk_at "go"
    refine g_if (fun h4 => ?_) (fun h4 => ?_)
    · obtain ⟨p, rfl⟩ := st_inv (st_nm.mp h4)
      have hp : p < 16 := hr
      rw [run_stop hra] at hrun
      subst hrun
      have ht5 : H4 ra = some (.tup [.str "stop", .int p]) := ht4
      walk_at "go"
      refine m_new (.cons (.str _) (.cons (.int _) .nil)) (by simp) (fun q' H5 s5 hq' im => ?_)
      walk_at "go"
      have l4 := c4.len
      refine w_ev (e := .stop (waitM (.stop p) rd' (fetchM k mc' a)).ck) (W4.same s5) (by omega) im (fun H6 k6 W6 => ?_)
      have ht6 := k6 _ _ (s5 _ _ ht5)
      obtain ⟨gS, grg, grd, gwd, gM, gO, gP, gC, gd, gc, us, gT⟩ := W6.get_
      have gSt : H6 m.St = some (stO K s.dx s.rg s.rd s.wd) := by rw [hst]; exact gS
      walk_at "go"
      refine w_reg W6 o1 hp ?_
      exact hQ H6 rd' _ ((kk4.trans (KT.of s5)).trans k6) W6 o1 (Nat.le_trans (c4.ev (e := .stop (waitM (.stop p) rd' (fetchM k mc' a)).ck)).len (by omega)) (by omega)
    have hs : isStop r = false := by
      cases e : isStop r with
      | false => rfl
      | true => exact absurd (st_nm.mpr e) h4
    generalize hmm : waitM r rd' (fetchM k mc' a) = mm at W4 c4 gM gP gC gd gc
    walk_at "go"
    refine ⟨fun σ' H' => ∃ (ms'' : MS) (rd'' : List Int) (mc'' : MC) (t : Bool), σ' = [some (.ref m.M), some (.int (n : Int)), some (.int (a : Int)), some (.int (0 + (i : Int))), some (.ref ra), some (.bl t)] ∧ KT H H' ∧ MW K H' k m s ms'' rd'' mc'' ms''.ou Y ∧ COk k m.d m.c (N + 140 * (i + 1)) mc'' ∧ MOk (b + i + 1) cov ms'' ∧ rd''.length = 16 ∧ runMM k q (aftM r a t) ms'' rd'' mc'' = fin, ?_, ?_⟩
    · walk_at "go"
      refine g_ixT (SqT.of ht4) (n := 0) rfl row0 ?_
      walk_at "go"
      refine g_if (fun h5 => ?_) (fun h5 => ?_)
      · obtain ⟨p, t, rfl⟩ := br_inv (br_nm.mp h5)
        rw [run_br hra, hmm] at hrun
        walk_at "go"
        refine ⟨k, m, s, ms', rd', mm, ms'.ou, Y, a, p, t, b + i, N + 140 * i + 1, cov, rfl, hst, W4, c4, by omega, o1, by omega, by omega, l1, co, hra, hd0, hd1, fun H5 k5 W5 => ?_⟩
        walk_at "go"
        exact ⟨ms', rd', _, _, rfl, kk4.trans k5, W5, (c4.br hd1).mono (by omega), o1.same, l1, hrun⟩
      · have hbr : isBr r = false := by
          cases e : isBr r with
          | false => rfl
          | true => exact absurd (br_nm.mpr e) h5
        have hw := wrk_of hbr hs
        rw [run_wk hra hw, hmm] at hrun
        walk_at "go"
        rw [hst]
        refine ⟨k, m, s, ms', rd', mm, ms'.ou, Y, ra, r, false, k.rows.length, a, b + i, N + 140 * i + 1, cov, rfl, W4, ht4, hr, hw, l1, o1, by omega, by omega, c4, by omega, fun H5 k5 W5 => ?_⟩
        rw [ou_work] at W5
        obtain ⟨gS, grg, grd, gwd, gM, gO, gP, gC, gd, gc, us, gT⟩ := W5.get_
        walk_at "go"
        dsimp only
        refine g_fldaug ?_
        walk_at "go"
        refine w_ckA (x := 1) T W5 ⟨rfl, rfl⟩ (fun hh z => hh _ _ z) (fun H6 k6 W6 => ?_)
        rw [work_ck] at W6
        walk_at "go"
        exact ⟨_, _, _, false, rfl, (kk4.trans k5).trans k6, W6, (c4.work.ck).mono (by omega), work_ok o1 hr, workR_len l1, hrun⟩
    · rintro σ' H5 ⟨ms'', rd'', mc'', t, rfl, k5, W5, c5, o5, l5, hrun5⟩
      obtain ⟨gS, grg, grd, gwd, gM, gO, gP, gC, gd, gc, us, gT⟩ := W5.get_
      walk_at "go"
      refine ⟨k, m, mc'', a, t, r, rfl, gM, W5.r, hra, ?_⟩
      walk_at "go"
      exact ⟨aftM r a t, ms'', rd'', mc'', _, _, _, rfl, k5, W5, c5, o5, l5, aft_lt hr hs, by omega, by rw [hq2]; exact hrun5⟩
  · rintro σ H1 ⟨a, ms', rd', mc', st, r0, tk, rfl, k1, W1, c1, o1, l1, ha, hin, hrun⟩
    rw [Nat.sub_self] at hrun
    subst hrun
    walk_at "go"
    exact hQ H1 rd' _ k1 W1 o1 (Nat.le_trans c1.len (by omega)) (by omega)


/-! ### how a machine is made -/
inductive Pp
  | data (a : Int)
  | fetch (a : Int)
  | br (a : Nat) (t : Bool)
def Pp.d : Pp → PyData
  | .data a => .tuple [.str "data", .int a]
  | .fetch a => .tuple [.str "fetch", .int a]
  | .br a t => .tuple [.str "branch", nI a, .bool t]
def preM (mc : MC) : Pp → MC
  | .data a => { mc with dc := tcV mc.dc a }
  | .fetch a => { mc with fc := tcV mc.fc a }
  | .br a t => lrnM mc a t
/-- a machine under way: its fields fs -/
abbrev XI (K : PySem.W.Frag) (m : MA) (fs : List (Str × V)) (mc : MC) (Y : List (Addr × HO)) : List (Addr × HO) :=
  [(m.M, .ins (He.ga K "Machine") m.dx fs), (m.P, prO K m.pdx mc.pr.k mc.pr.b mc.pr.h m.C), (m.C, ctO mc.pr.cs)] ++ (CaL K m.d mc.dc ++ (CaL K m.c mc.fc ++ Y))
abbrev fs8 (k : MK) (m : MA) : List (Str × V) := [("rows", m.rv), ("depth", .int k.dep), ("visits", m.vv), ("miss", .int k.miss), ("wrong", .int k.wrong), ("data", .ref m.d.p), ("code", .ref m.c.p), ("predictor", .ref m.P)]
theorem nd8 : (["rows", "depth", "visits", "miss", "wrong", "data", "code", "predictor"] : List Str).Nodup := by decide +kernel
structure PIn (ad ac : CAd) (mc : MC) : Prop where
  d : CWf ad mc.dc
  c : CWf ac mc.fc
  p : PrOk mc.pr.k mc.pr.b mc.pr.h mc.pr.cs
theorem PIn.pre {ad ac : CAd} {mc : MC} (h : PIn ad ac mc) (q : Pp) : PIn ad ac (preM mc q) := by
  cases q with
  | data a => exact ⟨h.d.tc, h.c, h.p⟩
  | fetch a => exact ⟨h.d, h.c.tc, h.p⟩
  | br a t => exact ⟨h.d, h.c, h.p.learn⟩
def sp_Machine_prepare (K : PySem.W.Frag) : Sp := fun vs H Q _ => ∃ (k : MK) (m : MA) (mc : MC) (Y : List (Addr × HO)) (q : Pp) (x : V), vs = [.ref m.M, x] ∧ Has H (XI K m (fs8 k m) mc Y) ∧ PIn m.d m.c mc ∧ Im H x q.d ∧
  ∀ H', KT H H' → Has H' (XI K m (fs8 k m) (preM mc q) Y) → Q .non H'
theorem sc_Machine_prepare : FnScope ["self", "part"] ["self", "part"] (defScope (inClass (topS 18) 1)) := ⟨rfl, rfl, rfl, by decide +kernel, rfl, by decide +kernel, by decide +kernel⟩
theorem mt_Machine_prepare (T : Txt fa fn K mg (XOk cs xcs K w)) : Mt P w K mg base CX0 4 "Machine" "prepare" ["self", "part"] (sp_Machine_prepare K) := by
  refine mk_mt (d := mOf "Machine" "prepare" "Machine.prepare" (inClass (topS 18) 1)) T 68 rfl rfl rfl rfl sc_Machine_prepare (by walk_at "len") (fun _ _ _ _ _ _ us hl => match us, hl with | [_, _], _ => rfl) (fun cdv A outer s H vs Q E hr h => ⟨_, (pss_one (ps_if (pt_cmpR (op_eqU (K := K) rfl hr.units) (pe_ixU (K := K) rfl (hu_of hr) (pv 1) pe_int) pe_str (nomark _)) (pss_one (ps_expr (pe_methD (K := K) rfl (mt_Cache_touch T) (cl_Cache T) (T.meth 61 rfl) (hr.mono (by decide)) pass0 (pe_fldU (K := K) rfl (pv 0) rfl) (pa_cons (pe_ixU (K := K) rfl (hu_of hr) (pv 1) pe_int) pa_nil)))) (pss_one (ps_if (pt_cmpR (op_eqU (K := K) rfl hr.units) (pe_ixU (K := K) rfl (hu_of hr) (pv 1) pe_int) pe_str (nomark _)) (pss_one (ps_expr (pe_methD (K := K) rfl (mt_Cache_touch T) (cl_Cache T) (T.meth 61 rfl) (hr.mono (by decide)) pass0 (pe_fldU (K := K) rfl (pv 0) rfl) (pa_cons (pe_ixU (K := K) rfl (hu_of hr) (pv 1) pe_int) pa_nil)))) (pss_one (ps_expr (pe_methD (K := K) rfl (mt_Predictor_learn T) (cl_Predictor T) (T.meth 78 rfl) (hr.mono (by decide)) pass0 (pe_fldU (K := K) rfl (pv 0) rfl) (pa_cons (pe_ixU (K := K) rfl (hu_of hr) (pv 1) pe_int) (pa_cons (pe_ixU (K := K) rfl (hu_of hr) (pv 1) pe_int) pa_nil))))))))), ?_⟩)
  obtain ⟨k, m, mc, Y, q, x, rfl, M, ok, hx, hQ⟩ := h
  have gM : H m.M = some (.ins (He.ga K "Machine") m.dx (fs8 k m)) := M.get 0 rfl
  have gd : H m.d.p = some (caO K m.d mc.dc) := M.get 3 rfl
  have gc : H m.c.p = some (caO K m.c mc.fc) := M.is_ (m.c.p, caO K m.c mc.fc) (by
    refine List.mem_append_right _ (List.mem_append_right _ (List.mem_append_left _ ?_))
    exact List.mem_append_left _ List.mem_cons_self)
  have gP : H m.P = some (prO K m.pdx mc.pr.k mc.pr.b mc.pr.h m.C) := M.get 1 rfl
  cases q with
  | data a =>
    obtain ⟨xa, x1, x2, rfl, hxa, i1, i2⟩ := im2 hx
    obtain rfl := i1.str_inv
    obtain rfl := i2.int_inv
    walk_at "go"
    refine g_fld gM (cl_Machine T) (na_Machine_data T) (lk_ix 5 nd8 rfl) ?_
    walk_at "go"
    refine use_touch (X := [(m.M, .ins (He.ga K "Machine") m.dx (fs8 k m)), (m.P, prO K m.pdx mc.pr.k mc.pr.b mc.pr.h m.C), (m.C, ctO mc.pr.cs)]) M ok.d (fun H' kp M' => ?_)
    walk_at "go"
    exact hQ _ (KT.keep kp (ca_noTup M.mid ok.d)) M'
  | fetch a =>
    obtain ⟨xa, x1, x2, rfl, hxa, i1, i2⟩ := im2 hx
    obtain rfl := i1.str_inv
    obtain rfl := i2.int_inv
    have M2 : Has H (([(m.M, .ins (He.ga K "Machine") m.dx (fs8 k m)), (m.P, prO K m.pdx mc.pr.k mc.pr.b mc.pr.h m.C), (m.C, ctO mc.pr.cs)] ++ CaL K m.d mc.dc) ++ (CaL K m.c mc.fc ++ Y)) := by
      rw [List.append_assoc]
      exact M
    walk_at "go"
    refine g_fld gM (cl_Machine T) (na_Machine_code T) (lk_ix 6 nd8 rfl) ?_
    walk_at "go"
    refine use_touch M2 ok.c (fun H' kp M' => ?_)
    walk_at "go"
    rw [List.append_assoc] at M'
    exact hQ _ (KT.keep kp (ca_noTup M2.mid ok.c)) M'
  | br a t =>
    obtain ⟨xa, x1, x2, x3, rfl, hxa, i1, i2, i3⟩ := im3 hx
    obtain rfl := i1.str_inv
    obtain rfl := i2.int_inv
    obtain rfl := i3.bl_inv
    walk_at "go"
    refine g_fld gM (cl_Machine T) (na_Machine_predictor T) (lk_ix 7 nd8 rfl) ?_
    walk_at "go"
    refine use_learn M 1 2 rfl rfl (by decide) ok.p (fun H' kp M' => ?_)
    walk_at "go"
    exact hQ _ (KT.keep kp (NoTup.cons (M.get 1 rfl) (fun _ e => nomatch e) (NoTup.one (M.get 2 rfl) (fun _ e => nomatch e)))) M'
/-- settings -/
structure Cs where
  S : Nat
  W : Nat
  Z : Nat
  P : Str
def Cs.d (c : Cs) : PyData := .tuple [nI c.S, nI c.W, nI c.Z, .str c.P]
structure CsOk1 (c : Cs) : Prop where
  s0 : 0 < c.S
  s1 : c.S ≤ 1000
  w0 : 0 < c.W
  w1 : c.W ≤ 1000
  z0 : 0 < c.Z
  z1 : c.Z ≤ 1000000
inductive Gs
  | taken
  | two (n : Nat)
  | hist (n : Nat)
def Gs.d : Gs → PyData
  | .taken => .tuple [.str "taken"]
  | .two n => .tuple [.str "two", nI n]
  | .hist n => .tuple [.str "history", nI n]
def Gs.pr : Gs → PrS
  | .taken => ⟨"taken", b0V "taken" 0, 0, k0V "taken" 0⟩
  | .two n => ⟨"two", b0V "two" n, 0, k0V "two" n⟩
  | .hist n => ⟨"history", b0V "history" n, 0, k0V "history" n⟩
def GsOk : Gs → Prop
  | .taken => True
  | .two n => 1 ≤ n ∧ n ≤ 64
  | .hist n => 1 ≤ n ∧ n ≤ 6
structure Sett where
  dc : Cs
  fc : Cs
  g : Gs
  dep : Int
  miss : Int
  wrong : Int
  bef : List Pp
  vis : List Vi
def Sett.d (t : Sett) : PyData := .tuple [t.dc.d, t.fc.d, t.g.d, .int t.dep, .tuple [.int t.miss, .int t.wrong], .tuple (t.bef.map Pp.d), .tuple (t.vis.map Vi.d)]
structure SettOk (t : Sett) : Prop where
  dc : CsOk1 t.dc
  fc : CsOk1 t.fc
  g : GsOk t.g
  d0 : 0 ≤ t.dep
  d1 : t.dep ≤ 64
  v : t.vis.length ≤ 1000
def kOf (t : Sett) (rows : List Row) : MK := ⟨rows, t.dep, t.miss, t.wrong, t.vis⟩
def mc00 (t : Sett) : MC := ⟨c0V t.dc.S t.dc.W t.dc.Z t.dc.P, c0V t.fc.S t.fc.W t.fc.Z t.fc.P, t.g.pr, 0, 0, 0, []⟩
def mc0 (t : Sett) : MC := t.bef.foldl preM (mc00 t)
theorem pre_keep (mc : MC) (q : Pp) : (preM mc q).ck = mc.ck ∧ (preM mc q).fe = mc.fe ∧ (preM mc q).vi = mc.vi ∧ (preM mc q).tr = mc.tr := by
  cases q <;> exact ⟨rfl, rfl, rfl, rfl⟩
theorem pres_keep : ∀ (l : List Pp) (mc : MC), (l.foldl preM mc).ck = mc.ck ∧ (l.foldl preM mc).fe = mc.fe ∧ (l.foldl preM mc).vi = mc.vi ∧ (l.foldl preM mc).tr = mc.tr
  | [], mc => ⟨rfl, rfl, rfl, rfl⟩
  | q :: l, mc => by
    obtain ⟨h1, h2, h3, h4⟩ := pres_keep l (preM mc q)
    obtain ⟨g1, g2, g3, g4⟩ := pre_keep mc q
    exact ⟨h1.trans g1, h2.trans g2, h3.trans g3, h4.trans g4⟩
theorem pr_in {g : Gs} (h : GsOk g) : PrOk g.pr.k g.pr.b g.pr.h g.pr.cs := by
  cases g with
  | taken => exact pr_start (.taken)
  | two n => exact pr_start (.two n (by have := h.1; omega) (by have := h.2; omega))
  | hist n => exact pr_start (.hist n (by have := h.1; omega) (by have := h.2; omega))
theorem gs_tup {H : Hp} {x : V} {g : Gs} (h : Im H x g.d) (ok : GsOk g) : ∃ a xs n, x = .ref a ∧ H a = some (.tup xs) ∧ PSet_ g.pr.k n xs ∧ g.pr = ⟨g.pr.k, b0V g.pr.k n, 0, k0V g.pr.k n⟩ := by
  cases g with
  | taken =>
    obtain ⟨a, x1, rfl, h1, i1⟩ := im1 h
    obtain rfl := i1.str_inv
    exact ⟨a, _, 0, rfl, h1, .taken, rfl⟩
  | two n =>
    obtain ⟨a, x1, x2, rfl, h1, i1, i2⟩ := im2 h
    obtain rfl := i1.str_inv
    obtain rfl := i2.int_inv
    have := ok.1
    have := ok.2
    exact ⟨a, _, n, rfl, h1, .two n (by omega) (by omega), rfl⟩
  | hist n =>
    obtain ⟨a, x1, x2, rfl, h1, i1, i2⟩ := im2 h
    obtain rfl := i1.str_inv
    obtain rfl := i2.int_inv
    have := ok.1
    have := ok.2
    exact ⟨a, _, n, rfl, h1, .hist n (by omega) (by omega), rfl⟩
theorem cs_tup {H : Hp} {x : V} {c : Cs} (h : Im H x c.d) : ∃ a, x = .ref a ∧ H a = some (.tup [.int c.S, .int c.W, .int c.Z, .str c.P]) := by
  obtain ⟨a, x1, x2, x3, x4, rfl, h1, i1, i2, i3, i4⟩ := im4 h
  obtain rfl := i1.int_inv
  obtain rfl := i2.int_inv
  obtain rfl := i3.int_inv
  obtain rfl := i4.str_inv
  exact ⟨a, rfl, h1⟩
theorem im7 {H : Hp} {x : V} {d1 d2 d3 d4 d5 d6 d7 : PyData} (h : Im H x (.tuple [d1, d2, d3, d4, d5, d6, d7])) : ∃ a x1 x2 x3 x4 x5 x6 x7, x = .ref a ∧ H a = some (.tup [x1, x2, x3, x4, x5, x6, x7]) ∧ Im H x1 d1 ∧ Im H x2 d2 ∧ Im H x3 d3 ∧ Im H x4 d4 ∧ Im H x5 d5 ∧ Im H x6 d6 ∧ Im H x7 d7 := by
  obtain ⟨a, xs, rfl, h1, h2⟩ := h.tup_inv
  obtain ⟨x1, r, rfl, i1, h2⟩ := h2.cons_inv
  obtain ⟨x2, r, rfl, i2, h2⟩ := h2.cons_inv
  obtain ⟨x3, r, rfl, i3, h2⟩ := h2.cons_inv
  obtain ⟨x4, r, rfl, i4, h2⟩ := h2.cons_inv
  obtain ⟨x5, r, rfl, i5, h2⟩ := h2.cons_inv
  obtain ⟨x6, r, rfl, i6, h2⟩ := h2.cons_inv
  obtain ⟨x7, r, rfl, i7, h2⟩ := h2.cons_inv
  rw [h2.nil_inv] at h1
  exact ⟨a, x1, x2, x3, x4, x5, x6, x7, rfl, h1, i1, i2, i3, i4, i5, i6, i7⟩
theorem permI {α : Type} {a p c : α} {Y D E : List α} : (((((a :: Y) ++ D) ++ E) ++ [p]) ++ [c]).Perm ([a, p, c] ++ (D ++ (E ++ Y))) := by
  have e : ((((a :: Y) ++ D) ++ E) ++ [p]) ++ [c] = a :: (Y ++ ((D ++ E) ++ [p, c])) := by simp
  have e2 : [a, p, c] ++ (D ++ (E ++ Y)) = a :: (([p, c] ++ (D ++ E)) ++ Y) := by simp
  rw [e, e2]
  refine List.Perm.cons a ?_
  exact (List.perm_append_comm (l₁ := Y)).trans ((List.perm_append_comm (l₁ := D ++ E) (l₂ := [p, c])).append_right Y)
theorem perm9 {α : Type} {x m p c a b w o t : α} {Z : List α} : ((x :: (((([m, p, c] ++ Z) ++ [a]) ++ [b]) ++ [w])) ++ [o] ++ [t]).Perm ([x, a, b, w, m, o, t, p, c] ++ Z) := by
  have e : (x :: (((([m, p, c] ++ Z) ++ [a]) ++ [b]) ++ [w])) ++ [o] ++ [t] = x :: ([m, p, c] ++ (Z ++ [a, b, w, o, t])) := by simp
  have e2 : [x, a, b, w, m, o, t, p, c] ++ Z = x :: (([a, b, w] ++ ([m] ++ ([o, t] ++ [p, c]))) ++ Z) := by simp
  rw [e, e2]
  refine List.Perm.cons x ?_
  have h1 : ([m, p, c] ++ (Z ++ [a, b, w, o, t])).Perm (([m, p, c] ++ [a, b, w, o, t]) ++ Z) := by
    rw [List.append_assoc]
    exact (List.perm_append_comm (l₁ := Z)).append_left _
  refine h1.trans (List.Perm.append_right Z ?_)
  have e3 : [m, p, c] ++ [a, b, w, o, t] = ([m, p, c] ++ [a, b, w]) ++ [o, t] := rfl
  rw [e3]
  refine ((List.perm_append_comm (l₁ := [m, p, c])).append_right _).trans ?_
  show ([a, b, w] ++ ([m] ++ ([p, c] ++ [o, t]))).Perm _
  exact ((List.perm_append_comm (l₁ := [p, c])).append_left [m]).append_left [a, b, w]
def sp_Machine___init__ (K : PySem.W.Frag) : Sp := fun vs H Q _ => ∃ (x dx : Addr) (code cont sv : V) (t : Sett) (rows : List Row) (rgs : List Rg) (cs : List (List Int)) (Y : List (Addr × HO)), vs = [.ref x, code, cont, sv] ∧ Has H ((x, .ins (He.ga K "Machine") dx []) :: Y) ∧ Im H code (codeD rgs rows) ∧ Im H cont (contD cs) ∧ MemOk rgs cs ∧ Im H sv t.d ∧ SettOk t ∧
  ∀ H' m s, KT H H' → m.M = x → m.St = s.S → MW K H' (kOf t rows) m s (ms0 rgs cs) (List.replicate 16 0) (mc0 t) [] Y → PIn m.d m.c (mc0 t) → Q .non H'
theorem i_fld {H : Hp} {L : List (Addr × HO)} {x dx C : Addr} {fs : List (Str × V)} {f : Str} {y : V} {R : Hp → Prop} (M : Has H ((x, .ins C dx fs) :: L)) (cl : Cls K C) (na : NoAttr K C f) (hl : fs.length < 1000) (hn : f ∉ fs.map (·.1)) (q : ∀ H', KT H H' → Has H' ((x, .ins C dx (fs ++ [(f, y)])) :: L) → R H') : rSFld K f (.ref x) y H R :=
  g_setF M 0 rfl cl na hl (pt_new hn) (fun M1 => q _ (KT.set (M.get 0 rfl) (fun _ e => nomatch e)) M1)
theorem i_fldN {H : Hp} {L : List (Addr × HO)} {x dx C : Addr} {fs : List (Str × V)} {f : Str} {y : V} {R : Hp → Prop} (M : Has H L) (n : Nat) (he : L[n]? = some (x, .ins C dx fs)) (cl : Cls K C) (na : NoAttr K C f) (hl : fs.length < 1000) (hn : f ∉ fs.map (·.1)) (q : ∀ H', KT H H' → Has H' (L.set n (x, .ins C dx (fs ++ [(f, y)]))) → R H') : rSFld K f (.ref x) y H R :=
  g_setF M n he cl na hl (pt_new hn) (fun M1 => q _ (KT.set (M.get n he) (fun _ e => nomatch e)) M1)
theorem sc_Machine___init__ : FnScope ["self", "code", "contents", "settings", "data", "fetch", "guess", "costs", "before", "part"] ["self", "code", "contents", "settings"] (defScope (inClass (topS 18) 0)) := ⟨rfl, rfl, rfl, by decide +kernel, rfl, by decide +kernel, by decide +kernel⟩
theorem mt_Machine___init__ (T : Txt fa fn K mg (XOk cs xcs K w)) : Mt P w K mg base CX0 5 "Machine" "__init__" ["self", "code", "contents", "settings"] (sp_Machine___init__ K) := by
  refine mk_mt (d := mOf "Machine" "__init__" "Machine.__init__" (inClass (topS 18) 0)) T 67 rfl rfl rfl rfl sc_Machine___init__ (by walk_at "len") (fun _ _ _ _ _ _ us hl => match us, hl with | [_, _, _, _], _ => rfl) (fun cdv A outer s H vs Q E hr h => ⟨_, (pss_cons (ps_fldU (K := K) rfl (pv 0) (pe_ixU (K := K) rfl (hu_of hr) (pv 1) pe_int) rfl)
      (pss_cons (ps_asg (pv 3) (pg_tup rfl (pgs_cons (pg_name (i := 4) sc_Machine___init__.nd rfl (.inl rfl)) (pgs_cons (pg_name (i := 5) sc_Machine___init__.nd rfl (.inl rfl)) (pgs_cons (pg_name (i := 6) sc_Machine___init__.nd rfl (.inl rfl)) (pgs_cons (pg_fldU (K := K) rfl (pv 0)) (pgs_cons (pg_name (i := 7) sc_Machine___init__.nd rfl (.inl rfl)) (pgs_cons (pg_name (i := 8) sc_Machine___init__.nd rfl (.inl rfl)) (pgs_cons (pg_fldU (K := K) rfl (pv 0)) pgs_nil)))))))))
      (pss_cons (ps_asg (pv 7) (pg_tup rfl (pgs_cons (pg_fldU (K := K) rfl (pv 0)) (pgs_cons (pg_fldU (K := K) rfl (pv 0)) pgs_nil))))
      (pss_cons (ps_fldU (K := K) rfl (pv 0) (pe_makeD (K := K) rfl (mt_Cache___init__ T) (T.mkr 58 rfl) (hr.mono (by decide)) rfl (T.glo 51 rfl) pass0 (pa_cons (pv 4) pa_nil)) rfl)
      (pss_cons (ps_fldU (K := K) rfl (pv 0) (pe_makeD (K := K) rfl (mt_Cache___init__ T) (T.mkr 58 rfl) (hr.mono (by decide)) rfl (T.glo 51 rfl) pass0 (pa_cons (pv 5) pa_nil)) rfl)
      (pss_cons (ps_fldU (K := K) rfl (pv 0) (pe_makeD (K := K) rfl (mt_Predictor___init__ T) (T.mkr 75 rfl) (hr.mono (by decide)) rfl (T.glo 52 rfl) pass0 (pa_cons (pv 6) pa_nil)) rfl)
      (pss_cons (ps_for PassesOwn.never rfl (pi_seq (K := K) rfl (pv 8)) (pg_name (i := 9) sc_Machine___init__.nd rfl (.inl rfl)) (pss_one (ps_expr (pe_methD (K := K) rfl (mt_Machine_prepare T) (cl_Machine T) (T.meth 93 rfl) (hr.mono (by decide)) pass0 (pv 0) (pa_cons (pv 9) pa_nil)))))
      (pss_cons (ps_fldU (K := K) rfl (pv 0) (pe_makeD (K := K) rfl (mt_State___init__ T) (T.mkr 84 rfl) (hr.mono (by decide)) rfl (T.glo 53 rfl) pass0 (pa_cons (pe_op op_mulU (pe_lst (pa_cons pe_int pa_nil)) pe_int) (pa_cons (pe_op op_mulU (pe_lst (pa_cons pe_int pa_nil)) pe_int) (pa_cons (pe_callD (K := K) rfl (ok_words_of T) (hr.mono (by decide)) rfl pass0 (pa_cons (pv 1) (pa_cons (pv 2) pa_nil))) pa_nil)))) rfl)
      (pss_cons (ps_fldU (K := K) rfl (pv 0) pe_int rfl)
      (pss_cons (ps_fldU (K := K) rfl (pv 0) pe_int rfl)
      (pss_cons (ps_fldU (K := K) rfl (pv 0) pe_int rfl)
      (pss_cons (ps_fldU (K := K) rfl (pv 0) (pe_lst pa_nil) rfl)
      (pss_one (ps_fldU (K := K) rfl (pv 0) (pe_lst pa_nil) rfl)))))))))))))), ?_⟩)
  obtain ⟨x, dx, code, cont, sv, t, rows, rgs, cs, Y, rfl, M, ic, ik, mo, is, so, hQ⟩ := h
  obtain ⟨sa, v1, v2, v3, v4, v5, v6, v7, rfl, hsv, j1, j2, j3, j4, j5, j6, j7⟩ := im7 is
  obtain ⟨ca, rfl, hca⟩ := cs_tup j1
  obtain ⟨fa', rfl, hfa⟩ := cs_tup j2
  obtain ⟨ga, gx, gn, rfl, hga, hset, hpr⟩ := gs_tup j3 so.g
  obtain rfl := j4.int_inv
  obtain ⟨co, c1, c2, rfl, hco, i1, i2⟩ := im2 j5
  obtain rfl := i1.int_inv
  obtain rfl := i2.int_inv
  walk_at "go"
  refine m_ix ic (n := 1) rfl rfl (fun rv hrv => ?_)
  walk_at "go"
  refine i_fld M (cl_Machine T) (na_Machine_rows T) (by decide) nf_Machine_rows (fun H1 t1 M1 => ?_)
  have hsv1 := t1 _ _ hsv
  walk_at "go"
  refine i_fld M1 (cl_Machine T) (na_Machine_depth T) (by show 1 < 1000; decide) nf_Machine_depth (fun H2 t2 M2 => ?_)
  walk_at "go"
  refine i_fld M2 (cl_Machine T) (na_Machine_visits T) (by show 2 < 1000; decide) nf_Machine_visits (fun H3 t3 M3 => ?_)
  have k3 := (t1.trans t2).trans t3
  have hco3 := k3 _ _ hco
  walk_at "go"
  refine i_fld M3 (cl_Machine T) (na_Machine_miss T) (by show 3 < 1000; decide) nf_Machine_miss (fun H4 t4 M4 => ?_)
  walk_at "go"
  refine i_fld M4 (cl_Machine T) (na_Machine_wrong T) (by show 4 < 1000; decide) nf_Machine_wrong (fun H5 t5 M5 => ?_)
  have k5 := (k3.trans t4).trans t5
  walk_at "go"
  intro x1 dx1 hx1 hdx1 hne1
  refine use_cache M5 hx1 hdx1 (k5 _ _ hca) so.dc.s0 so.dc.s1 so.dc.w0 so.dc.w1 so.dc.z0 so.dc.z1 (fun H6 cd e6 s6 M6 wf6 => ?_)
  subst e6
  have k6 := k5.trans (KT.of s6)
  walk_at "go"
  refine i_fld M6 (cl_Machine T) (na_Machine_data T) (by show 5 < 1000; decide) nf_Machine_data (fun H7 t7 M7 => ?_)
  have k7 := k6.trans t7
  walk_at "go"
  intro x2 dx2 hx2 hdx2 hne2
  refine use_cache M7 hx2 hdx2 (k7 _ _ hfa) so.fc.s0 so.fc.s1 so.fc.w0 so.fc.w1 so.fc.z0 so.fc.z1 (fun H8 cc e8 s8 M8 wf8 => ?_)
  subst e8
  have k8 := k7.trans (KT.of s8)
  walk_at "go"
  refine i_fld M8 (cl_Machine T) (na_Machine_code T) (by show 6 < 1000; decide) nf_Machine_code (fun H9 t9 M9 => ?_)
  have k9 := k8.trans t9
  walk_at "go"
  intro x3 dx3 hx3 hdx3 hne3
  refine use_init M9 hx3 hdx3 (k9 _ _ hga) hset (fun H10 pc s10 M10 => ?_)
  have k10 := k9.trans (KT.of s10)
  walk_at "go"
  refine i_fld M10 (cl_Machine T) (na_Machine_predictor T) (by show 7 < 1000; decide) nf_Machine_predictor (fun H11 t11 M11 => ?_)
  have k11 := k10.trans t11
  obtain ⟨m, hm1, hm2, hm3, hm4, hm5, hm6, hm7, hm8, hm9⟩ : ∃ m : MA, m.M = x ∧ m.dx = dx ∧ m.P = x3 ∧ m.pdx = dx3 ∧ m.C = pc ∧ m.rv = rv ∧ m.vv = v7 ∧ m.d = cd ∧ m.c = cc := ⟨⟨x, dx, x, x, x, x3, dx3, pc, rv, v7, cd, cc⟩, rfl, rfl, rfl, rfl, rfl, rfl, rfl, rfl, rfl⟩
  subst hm1 hm2 hm3 hm4 hm5 hm6 hm7 hm8 hm9
  have M12 : Has H11 (XI K m (fs8 (kOf t rows) m) (mc00 t) Y) := by
    have e : (mc00 t).pr = ⟨t.g.pr.k, b0V t.g.pr.k gn, 0, k0V t.g.pr.k gn⟩ := hpr
    show Has H11 ([(m.M, .ins (He.ga K "Machine") m.dx (fs8 (kOf t rows) m)), (m.P, prO K m.pdx (mc00 t).pr.k (mc00 t).pr.b (mc00 t).pr.h m.C), (m.C, ctO (mc00 t).pr.cs)] ++ _)
    rw [e]
    exact M11.perm permI
  have pin : PIn m.d m.c (mc00 t) := ⟨wf6, wf8, pr_in so.g⟩
  walk_at "go"
  refine m_seq (j6.kt k11) (fun ba bx e hba hbs => ?_)
  subst e
  have hbl := hbs.length
  rw [List.length_map] at hbl
  refine f_tup (xs := bx) (fun i σ H' => ∃ (q : Option V), σ = [some (.ref m.M), some code, some cont, some (.ref sa), some (.ref ca), some (.ref fa'), some (.ref ga), some (.ref co), some (.ref ba), q] ∧ KT H11 H' ∧ Has H' (XI K m (fs8 (kOf t rows) m) ((t.bef.take i).foldl preM (mc00 t)) Y) ∧ PIn m.d m.c ((t.bef.take i).foldl preM (mc00 t))) ⟨_, rfl, KT.refl, M12, pin⟩ ?_ ?_ ?_
  · rintro i σ H' hi ⟨q, rfl, kt, MM, pp⟩
    exact SqT.of (kt _ _ hba)
  · rintro i y σ H' hi ⟨q, rfl, kt, MM, pp⟩
    obtain ⟨hlt, hy⟩ := List.getElem?_eq_some_iff.mp hi
    have hq : t.bef[i]? = some (t.bef[i]'(by omega)) := List.getElem?_eq_getElem _
    generalize t.bef[i]'(by omega) = pq at hq
    obtain ⟨y', hy', hiy⟩ := hbs.get (n := i) (d := pq.d) (by rw [List.getElem?_map, hq]; rfl)
    rw [hi] at hy'
    cases hy'
    have gM : H' m.M = some (.ins (He.ga K "Machine") m.dx (fs8 (kOf t rows) m)) := MM.get 0 rfl
    walk_at "go"
    refine g_rcv (m := "prepare") gM (lk_none (by show ("prepare" : Str) ∉ (["rows", "depth", "visits", "miss", "wrong", "data", "code", "predictor"] : List Str); decide +kernel)) ?_
    walk_at "go"
    refine ⟨kOf t rows, m, _, Y, pq, y, rfl, MM, pp, hiy.kt kt, fun H2 k2 M2 => ?_⟩
    walk_at "go"
    have ef : (t.bef.take (i + 1)).foldl preM (mc00 t) = preM ((t.bef.take i).foldl preM (mc00 t)) pq := foldl_take_succ hq
    refine ⟨_, rfl, kt.trans k2, ?_, ?_⟩
    · rw [ef]
      exact M2
    · rw [ef]
      exact pp.pre pq
  · rintro σ H12 ⟨q, rfl, kt, MM, pp⟩
    rw [hbl, List.take_length] at MM pp
    have MM : Has H12 (XI K m (fs8 (kOf t rows) m) (mc0 t) Y) := MM
    have pp : PIn m.d m.c (mc0 t) := pp
    obtain ⟨hck, hfe, hvi, htr⟩ := pres_keep t.bef (mc00 t)
    have hck : (mc0 t).ck = 0 := hck
    have hfe : (mc0 t).fe = 0 := hfe
    have hvi : (mc0 t).vi = 0 := hvi
    have htr : (mc0 t).tr = [] := htr
    have k12 := k11.trans kt
    generalize mc0 t = mc at MM pp hck hfe hvi htr hQ
    walk_at "go"
    refine ⟨by decide, fun u1 hu1 => ?_⟩
    walk_at "go"
    refine g_repI (x := 0) upd_same (by decide) (by decide) (fun rg hrg => ?_)
    have S2 := (Same.new (o := .lst [.int 0]) hu1).trans (Same.new (o := .lst ((List.replicate (16 : Int).toNat 0).map V.int)) hrg)
    have M13 := (MM.keep (Same.new (o := .lst [.int 0]) hu1)).new (o := .lst ((List.replicate (16 : Int).toNat 0).map V.int)) hrg
    generalize upd (upd H12 u1 (.lst [.int 0])) rg (.lst ((List.replicate (16 : Int).toNat 0).map V.int)) = H13 at S2 M13
    walk_at "go"
    refine ⟨by decide, fun u2 hu2 => ?_⟩
    walk_at "go"
    refine g_repI (x := 0) upd_same (by decide) (by decide) (fun rd hrd => ?_)
    have S3 := (Same.new (o := .lst [.int 0]) hu2).trans (Same.new (o := .lst ((List.replicate (16 : Int).toNat 0).map V.int)) hrd)
    have M14 := (M13.keep (Same.new (o := .lst [.int 0]) hu2)).new (o := .lst ((List.replicate (16 : Int).toNat 0).map V.int)) hrd
    generalize upd (upd H13 u2 (.lst [.int 0])) rd (.lst ((List.replicate (16 : Int).toNat 0).map V.int)) = H14 at S3 M14
    have k14 := (k12.trans (KT.of S2)).trans (KT.of S3)
    walk_at "go"
    refine ⟨code, cont, rgs, cs, rows, rfl, ic.kt k14, ik.kt k14, mo, fun H15 wd s15 hwd hwd5 => ?_⟩
    have M15 := has_add M14 s15 hwd hwd5
    have k15 := k14.trans (KT.of s15)
    walk_at "go"
    intro sx dx' hsx hdx' hne
    have hsx' : upd H15 dx' (.own sx) sx = none := by
      rw [upd_ne (Ne.symm hne)]
      exact hsx
    have M16 : Has (made H15 sx dx' (He.ga K "State")) _ := ((M15.new (o := .own sx) hdx').new (o := .ins (He.ga K "State") dx' []) hsx').perm (List.perm_append_comm (l₂ := [_]))
    have s16 : Same H15 (made H15 sx dx' (He.ga K "State")) := made_same hsx hdx'
    refine ⟨sx, dx', rg, rd, wd, _, rfl, M16, fun M17 => ⟨rfl, ?_⟩⟩
    have s17 := Same.mut (o := stO K dx' rg rd wd) s16 hsx
    have k17 := k15.trans (KT.of s17)
    have M18 := M17.sub (L' := (sx, stO K dx' rg rd wd) :: ((((XI K m (fs8 (kOf t rows) m) mc Y) ++ [(rg, HO.lst ((List.replicate (16 : Int).toNat 0).map V.int))]) ++ [(rd, HO.lst ((List.replicate (16 : Int).toNat 0).map V.int))]) ++ [(wd, HO.dK (mem rgs cs))])) (.cons₂ _ (List.sublist_append_left _ _))
    walk_at "go"
    refine i_fldN M18 1 rfl (cl_Machine T) (na_Machine_state T) (by show 8 < 1000; decide) nf_Machine_state (fun H19 k19 M19 => ?_)
    walk_at "go"
    refine i_fldN M19 1 rfl (cl_Machine T) (na_Machine_clock T) (by show 9 < 1000; decide) nf_Machine_clock (fun H20 k20 M20 => ?_)
    walk_at "go"
    refine i_fldN M20 1 rfl (cl_Machine T) (na_Machine_fetches T) (by show 10 < 1000; decide) nf_Machine_fetches (fun H21 k21 M21 => ?_)
    walk_at "go"
    refine i_fldN M21 1 rfl (cl_Machine T) (na_Machine_visited T) (by show 11 < 1000; decide) nf_Machine_visited (fun H22 k22 M22 => ?_)
    walk_at "go"
    refine ⟨by decide, fun o ho => ?_⟩
    have k23 : KT H22 (upd H22 o (.lst [])) := KT.new ho
    have M23 := M22.new (o := .lst []) ho
    generalize upd H22 o (.lst []) = H23 at k23 M23
    walk_at "go"
    refine i_fldN M23 1 rfl (cl_Machine T) (na_Machine_outs T) (by show 12 < 1000; decide) nf_Machine_outs (fun H24 k24 M24 => ?_)
    walk_at "go"
    refine ⟨by decide, fun tq htq => ?_⟩
    have k25 : KT H24 (upd H24 tq (.lst [])) := KT.new htq
    have M25 := M24.new (o := .lst []) htq
    generalize upd H24 tq (.lst []) = H25 at k25 M25
    walk_at "go"
    refine i_fldN M25 1 rfl (cl_Machine T) (na_Machine_trace T) (by show 13 < 1000; decide) nf_Machine_trace (fun H26 k26 M26 => ?_)
    have kz := ((((((((k17.trans k19).trans k20).trans k21).trans k22).trans k23).trans k24).trans k25).trans k26)
    walk_at "go"
    refine hQ H26 { m with St := sx, O := o, T := tq } ⟨sx, dx', rg, rd, wd⟩ kz rfl rfl ⟨⟨[], ?_, ?_⟩, hrv.kt kz, j7.kt kz⟩ pp
    · have e : maO K (kOf t rows) { m with St := sx, O := o, T := tq } mc = .ins (He.ga K "Machine") m.dx (fs_Machine m.rv (.int t.dep) m.vv (.int t.miss) (.int t.wrong) (.ref m.d.p) (.ref m.c.p) (.ref m.P) (.ref sx) (.int 0) (.int 0) (.int 0) (.ref o) (.ref tq)) := by
        show HO.ins _ _ (fs_Machine _ _ _ _ _ _ _ _ _ (.int mc.ck) (.int mc.fe) (.int (mc.vi : Int)) _ _) = _
        rw [hck, hfe, hvi]
        rfl
      show Has H26 ([(sx, stO K dx' rg rd wd), (rg, .lst ((ms0 rgs cs).rg.map V.int)), (rd, .lst ((List.replicate 16 (0 : Int)).map V.int)), (wd, .dK (ms0 rgs cs).wd), (m.M, maO K (kOf t rows) { m with St := sx, O := o, T := tq } mc), (o, .lst (([] : List Int).map V.int)), (tq, .lst []), (m.P, prO K m.pdx mc.pr.k mc.pr.b mc.pr.h m.C), (m.C, ctO mc.pr.cs)] ++ (CaL K m.d mc.dc ++ (CaL K m.c mc.fc ++ Y)))
      rw [e]
      exact M26.perm perm9
    · rw [htr]
      exact .nil
def machD (rgs : List Rg) (p : Option Int × MS × MC) : List PyData := [.tuple (p.2.1.ou.map .int), rsD p.1, .tuple (heldD rgs p.2.1), .tuple (p.2.2.tr.map Ev.d)]
def machR (t : Sett) (rows : List Row) (rgs : List Rg) (cs : List (List Int)) (n : Nat) : Option Int × MS × MC := runMM (kOf t rows) n 0 (ms0 rgs cs) (List.replicate 16 0) (mc0 t)
def sp_run_machine (K : PySem.W.Frag) : Sp := fun vs H Q _ => ∃ (code cont sv : V) (n : Nat) (t : Sett) (rows : List Row) (rgs : List Rg) (cs : List (List Int)) (Y : List (Addr × HO)), vs = [code, cont, sv, .int (n : Int)] ∧ Has H Y ∧ Im H code (codeD rgs rows) ∧ Im H cont (contD cs) ∧ MemOk rgs cs ∧ CodeOk rows ∧ Im H sv t.d ∧ SettOk t ∧ n ≤ 2500 ∧
  ∀ H' v, KT H H' → Has H' Y → Im H' v (.tuple (machD rgs (machR t rows rgs cs n))) → (machR t rows rgs cs n).2.2.tr.length ≤ 16000000 → (machR t rows rgs cs n).2.1.ou.length ≤ 90000 → Q v H'
theorem sc_run_machine : FnScope ["code", "contents", "settings", "steps", "machine", "result"] ["code", "contents", "settings", "steps"] (defScope (topS 19)) := ⟨rfl, rfl, rfl, by decide +kernel, rfl, by decide +kernel, by decide +kernel⟩
theorem ok_run_machine (T : Txt fa fn K mg (XOk cs xcs K w)) : Dn P w K mg base CX0 10 "run_machine" ["code", "contents", "settings", "steps"] (sp_run_machine K) := by
  refine mk_dn (d := dOf "run_machine" 19) T 8 8 rfl rfl rfl rfl rfl sc_run_machine (by walk_at "len") (fun _ _ _ _ _ _ us hl => match us, hl with | [_, _, _, _], _ => rfl) (fun cdv A outer s H vs Q E hr h => ⟨_, (pss_cons (ps_set (i := 4) sc_run_machine.nd rfl (.inl rfl) (pe_makeD (K := K) rfl (mt_Machine___init__ T) (T.mkr 92 rfl) (hr.mono (by decide)) rfl (T.glo 54 rfl) pass0 (pa_cons (pv 0) (pa_cons (pv 1) (pa_cons (pv 2) pa_nil)))))
      (pss_cons (ps_set (i := 5) sc_run_machine.nd rfl (.inl rfl) (pe_methD (K := K) rfl (mt_Machine_run T) (cl_Machine T) (T.meth 106 rfl) (hr.mono (by decide)) pass0 (pv 4) (pa_cons (pv 3) pa_nil)))
      (pss_one (ps_ret (pe_tup (pa_cons (pe_callTy (c_tuple (K := K) rfl) rfl (T.free 136 rfl) (by decide +kernel) (pa_cons (pe_fldU (K := K) rfl (pv 4) rfl) pa_nil)) (pa_cons (pv 5) (pa_cons (pe_methD (K := K) rfl (mt_State_contents T) (cl_State T) (T.meth 87 rfl) (hr.mono (by decide)) pass0 (pe_fldU (K := K) rfl (pv 4) rfl) (pa_cons (pe_ixU (K := K) rfl (hu_of hr) (pv 0) pe_int) pa_nil)) (pa_cons (pe_callTy (c_tuple (K := K) rfl) rfl (T.free 136 rfl) (by decide +kernel) (pa_cons (pe_fldU (K := K) rfl (pv 4) rfl) pa_nil)) pa_nil))))))))), ?_⟩)
  obtain ⟨code, cont, sv, n, t, rows, rgs, cs, Y, rfl, MY, ic, ik, mo, co, is, so, hn, hQ⟩ := h
  have hQ : ∀ H' v, KT H H' → Has H' Y → Im H' v (.tuple (machD rgs (runMM (kOf t rows) n 0 (ms0 rgs cs) (List.replicate 16 0) (mc0 t)))) → (runMM (kOf t rows) n 0 (ms0 rgs cs) (List.replicate 16 0) (mc0 t)).2.2.tr.length ≤ 16000000 → (runMM (kOf t rows) n 0 (ms0 rgs cs) (List.replicate 16 0) (mc0 t)).2.1.ou.length ≤ 90000 → Q v H' := hQ
  walk_at "go"
  intro x dx hx hdx hne
  have hx' : upd H dx (.own x) x = none := by
    rw [upd_ne (Ne.symm hne)]
    exact hx
  have M1 : Has (made H x dx (He.ga K "Machine")) _ := ((MY.new (o := .own x) hdx).new (o := .ins (He.ga K "Machine") dx []) hx').perm (List.perm_append_comm (l₂ := [_]))
  have M2 := M1.sub (L' := (x, .ins (He.ga K "Machine") dx []) :: Y) (.cons₂ _ (List.sublist_append_left _ _))
  have k1 : KT H (made H x dx (He.ga K "Machine")) := KT.of (made_same hx hdx)
  refine ⟨x, dx, code, cont, sv, t, rows, rgs, cs, Y, rfl, M2, ic.kt k1, ik.kt k1, mo, is.kt k1, so, fun H2 m s k2 hm hst W pin => ⟨rfl, ?_⟩⟩
  subst hm
  obtain ⟨hck, hfe, hvi, htr⟩ := pres_keep t.bef (mc00 t)
  have c0 : COk (kOf t rows) m.d m.c 1000 (mc0 t) := ⟨pin.d, pin.c, pin.p, by
    have : (mc0 t).vi = 0 := hvi
    omega, by
    have e1 : (mc0 t).vi = 0 := hvi
    have e2 : (mc0 t).tr = [] := htr
    unfold phi
    rw [e1, e2]
    have := so.v
    show 0 + (t.vis.length - 0) ≤ 1000
    omega⟩
  obtain ⟨gS, grg, grd, gwd, gM, gO, gP, gC, gd, gc, us, gT⟩ := W.get_
  walk_at "go"
  refine ⟨kOf t rows, m, s, ms0 rgs cs, _, mc0 t, Y, 500, 1000, n, covG rgs, rfl, hst, W, c0, by omega, ms0_ok mo, by omega, List.length_replicate, co, so.d0, so.d1, fun H3 rd' b' k3 W3 o3 t3 hb3 => ?_⟩
  have k13 := (k1.trans k2).trans k3
  have om := o3.m
  generalize runMM (kOf t rows) n 0 (ms0 rgs cs) (List.replicate 16 0) (mc0 t) = p at W3 o3 t3 om hQ
  obtain ⟨us3, M3, im3⟩ := W3.ex
  obtain ⟨gS, grg, grd, gwd, gM, gO, gP, gC, gd, gc, us, gT⟩ := W3.get_
  walk_at "go"
  refine m_tupleL (SqL.of gO) (ims_ints p.2.1.ou) (fun q1 H4 s4 hq1 i4 => ?_)
  have W4 := W3.same s4
  obtain ⟨gS, grg, grd, gwd, gM, gO, gP, gC, gd, gc, us, gT⟩ := W4.get_
  have gSt : H4 m.St = some (stO K s.dx s.rg s.rd s.wd) := by rw [hst]; exact gS
  have k4 := k13.trans (KT.of s4)
  walk_at "go"
  refine m_ix (ic.kt k4) (n := 0) rfl rfl (fun v hv => ?_)
  walk_at "go"
  refine ⟨m.St, s.rg, s.rd, s.wd, s.dx, v, rgs, p.2.1, b', rfl, gSt, gwd, hv, o3, mo.z, mo.m, fun H5 w5 s5 im5 => ?_⟩
  have W5 := W4.same s5
  obtain ⟨us5, M5, im5'⟩ := W5.ex
  have gM5 : H5 m.M = some (maO K (kOf t rows) m p.2.2) := M5.get 4 rfl
  have gT5 : H5 m.T = some (.lst us5) := M5.get 6 rfl
  walk_at "go"
  refine m_tupleL (SqL.of gT5) im5' (fun q2 H6 s6 hq2 i6 => ?_)
  walk_at "go"
  refine m_new (.cons ((i4.same s5).same s6) (.cons (im_rs p.1) (.cons (im5.same s6) (.cons i6 .nil)))) (by simp) (fun t7 H7 s7 ht7 i7 => ?_)
  have M7 := ((W5.same s6).same s7)
  obtain ⟨us7, M7, _⟩ := M7.ex
  refine hQ _ _ (((k4.trans (KT.of s5)).trans (KT.of s6)).trans (KT.of s7)) (M7.right.right.right) i7 t3 (by omega)


/-! ### the drawn settings, typed -/
def Pol (P : Str) : Prop := P = "lru" ∨ P = "fifo" ∨ P = "plru"
/-- a drawn cache -/
structure CsDr (c : Cs) : Prop where
  ok : CsOk1 c
  s : c.S ≤ 64
  w : c.W = 1 ∨ c.W = 2 ∨ c.W = 4 ∨ c.W = 8
  z : c.Z ≤ 16
  p : Pol c.P
def sp_law_cache (K : PySem.W.Frag) : Sp := fun vs H Q _ => ∃ (d : Addr) (L : List (Addr × HO)), vs = [.ref d] ∧ DrL H d L ∧ ∀ H' v c, Keep [d] H H' → DrL H' d L → Im H' v (Cs.d c) → CsDr c → Q v H'
theorem pw1 (n : Nat) : (1 : Int) * 2 ^ n = ((2 ^ n : Nat) : Int) := by simp
theorem pwS : ∀ k < 7, 0 < 2 ^ k ∧ 2 ^ k ≤ 64 := by decide
theorem pwW : ∀ k < 4, 2 ^ k = 1 ∨ 2 ^ k = 2 ∨ 2 ^ k = 4 ∨ 2 ^ k = 8 := by decide
theorem pwZ : ∀ k < 5, 0 < 2 ^ k ∧ 2 ^ k ≤ 16 := by decide
theorem sc_law_cache : FnScope ["draws", "policy"] ["draws"] (defScope (topS 47)) := ⟨rfl, rfl, rfl, by decide +kernel, rfl, by decide +kernel, by decide +kernel⟩
theorem ok_law_cache (T : Txt fa fn K mg (XOk cs xcs K w)) : Dn P w K mg base CX0 2 "_law_cache" ["draws"] (sp_law_cache K) := by
  refine mk_dn (d := dOf "_law_cache" 47) T 27 27 rfl rfl rfl rfl rfl sc_law_cache (by walk_at "len") (fun _ _ _ _ _ _ us hl => match us, hl with | [_], _ => rfl) (fun cdv A outer s H vs Q E hr h => ⟨_, (pss_cons (ps_set (i := 1) sc_law_cache.nd rfl (.inl rfl) (pe_ixU (K := K) rfl (hu_of hr) (pe_lst (pa_cons pe_str (pa_cons pe_str (pa_cons pe_str pa_nil)))) (pe_callD (K := K) rfl (ok_law_next T) (hr.mono (by decide)) rfl pass0 (pa_cons (pv 0) (pa_cons pe_int pa_nil)))))
      (pss_one (ps_ret (pe_tup (pa_cons (pe_op o_shl pe_int (pe_ixU (K := K) rfl (hu_of hr) (pe_lst (pa_cons pe_int (pa_cons pe_int (pa_cons pe_int (pa_cons pe_int (pa_cons pe_int (pa_cons pe_int (pa_cons pe_int pa_nil)))))))) (pe_callD (K := K) rfl (ok_law_next T) (hr.mono (by decide)) rfl pass0 (pa_cons (pv 0) (pa_cons pe_int pa_nil))))) (pa_cons (pe_op o_shl pe_int (pe_callD (K := K) rfl (ok_law_next T) (hr.mono (by decide)) rfl pass0 (pa_cons (pv 0) (pa_cons pe_int pa_nil)))) (pa_cons (pe_op o_shl pe_int (pe_callD (K := K) rfl (ok_law_next T) (hr.mono (by decide)) rfl pass0 (pa_cons (pv 0) (pa_cons pe_int pa_nil)))) (pa_cons (pv 1) pa_nil)))))))), ?_⟩)
  obtain ⟨d, L, rfl, D, hQ⟩ := h
  walk_at "go"
  refine use_pk D rfl rfl (by simp) (by simp) (fun H1 v k1 D1 hv => ?_)
  obtain ⟨P, rfl, hP⟩ : ∃ P : Str, v = .str P ∧ Pol P := by
    simp only [List.mem_cons, List.not_mem_nil, or_false] at hv
    rcases hv with rfl | rfl | rfl
    · exact ⟨_, rfl, .inl rfl⟩
    · exact ⟨_, rfl, .inr (.inl rfl)⟩
    · exact ⟨_, rfl, .inr (.inr rfl)⟩
  walk_at "go"
  refine use_pk D1 rfl rfl (by simp) (by simp) (fun H2 v k2 D2 hv => ?_)
  obtain ⟨k, rfl, hk⟩ : ∃ k : Nat, v = .int (k : Int) ∧ k < 7 := by
    simp only [List.mem_cons, List.not_mem_nil, or_false] at hv
    rcases hv with rfl | rfl | rfl | rfl | rfl | rfl | rfl
    · exact ⟨0, rfl, by decide⟩
    · exact ⟨0, rfl, by decide⟩
    · exact ⟨1, rfl, by decide⟩
    · exact ⟨1, rfl, by decide⟩
    · exact ⟨2, rfl, by decide⟩
    · exact ⟨3, rfl, by decide⟩
    · exact ⟨6, rfl, by decide⟩
  walk_at "go"
  refine use_nx D2 (by decide) (fun H3 v3 k3 D3 h30 h31 => ?_)
  obtain ⟨k', rfl, hk'⟩ : ∃ t : Nat, v3 = (t : Int) ∧ t < 4 := ⟨v3.toNat, by omega, by omega⟩
  walk_at "go"
  refine use_nx D3 (by decide) (fun H4 v4 k4 D4 h40 h41 => ?_)
  obtain ⟨k'', rfl, hk''⟩ : ∃ t : Nat, v4 = (t : Int) ∧ t < 5 := ⟨v4.toNat, by omega, by omega⟩
  walk_at "go"
  rw [Int.toNat_natCast, Int.toNat_natCast, Int.toNat_natCast, pw1, pw1, pw1]
  refine m_new (.cons (.int _) (.cons (.int _) (.cons (.int _) (.cons (.str P) .nil)))) (by simp) (fun p H5 s5 hp im => ?_)
  have kk := (((k1.trans k2).trans k3).trans k4).trans (Keep.of s5)
  obtain ⟨a1, a2⟩ := pwS k hk
  obtain ⟨c1, c2⟩ := pwZ k'' hk''
  have b := pwW k' hk'
  exact hQ _ _ ⟨2 ^ k, 2 ^ k', 2 ^ k'', P⟩ kk (D4.same s5) im ⟨⟨a1, by show 2 ^ k ≤ 1000; omega, by show 0 < 2 ^ k'; omega, by show 2 ^ k' ≤ 1000; omega, c1, by show 2 ^ k'' ≤ 1000000; omega⟩, a2, b, c2, hP⟩
def sp_law_predictor (K : PySem.W.Frag) : Sp := fun vs H Q _ => ∃ (d : Addr) (L : List (Addr × HO)), vs = [.ref d] ∧ DrL H d L ∧ ∀ H' v g, Keep [d] H H' → DrL H' d L → Im H' v (Gs.d g) → GsOk g → Q v H'
theorem sc_law_predictor : FnScope ["draws", "pick"] ["draws"] (defScope (topS 48)) := ⟨rfl, rfl, rfl, by decide +kernel, rfl, by decide +kernel, by decide +kernel⟩
theorem ok_law_predictor (T : Txt fa fn K mg (XOk cs xcs K w)) : Dn P w K mg base CX0 2 "_law_predictor" ["draws"] (sp_law_predictor K) := by
  refine mk_dn (d := dOf "_law_predictor" 48) T 28 28 rfl rfl rfl rfl rfl sc_law_predictor (by walk_at "len") (fun _ _ _ _ _ _ us hl => match us, hl with | [_], _ => rfl) (fun cdv A outer s H vs Q E hr h => ⟨_, (pss_cons (ps_set (i := 1) sc_law_predictor.nd rfl (.inl rfl) (pe_callD (K := K) rfl (ok_law_next T) (hr.mono (by decide)) rfl pass0 (pa_cons (pv 0) (pa_cons pe_int pa_nil))))
      (pss_cons (ps_if (pt_cmpR (op_eqU (K := K) rfl hr.units) (pv 1) pe_int (nomark _)) (pss_one (ps_ret (pe_tup (pa_cons pe_str pa_nil)))) pss_nil)
      (pss_cons (ps_if (pt_cmpR o_lt (pv 1) pe_int (nomark _)) (pss_one (ps_ret (pe_tup (pa_cons pe_str (pa_cons (pe_op o_shl pe_int (pe_callD (K := K) rfl (ok_law_next T) (hr.mono (by decide)) rfl pass0 (pa_cons (pv 0) (pa_cons pe_int pa_nil)))) pa_nil))))) pss_nil)
      (pss_one (ps_ret (pe_tup (pa_cons pe_str (pa_cons (pe_op (op_addU (K := K) rfl) pe_int (pe_callD (K := K) rfl (ok_law_next T) (hr.mono (by decide)) rfl pass0 (pa_cons (pv 0) (pa_cons pe_int pa_nil)))) pa_nil)))))))), ?_⟩)
  obtain ⟨d, L, rfl, D, hQ⟩ := h
  walk_at "go"
  refine use_nx D (by decide) (fun H1 v1 k1 D1 h10 h11 => ?_)
  walk_at "go"
  refine g_if (fun c => ?_) (fun c => ?_)
  · walk_at "go"
    refine m_new (.cons (.str _) .nil) (by simp) (fun p H5 s5 hp im => ?_)
    exact hQ _ _ .taken (k1.trans (Keep.of s5)) (D1.same s5) im trivial
  · walk_at "go"
    refine g_if (fun c => ?_) (fun c => ?_)
    · walk_at "go"
      refine use_nx D1 (by decide) (fun H3 v3 k3 D3 h30 h31 => ?_)
      obtain ⟨n, rfl, hn⟩ : ∃ t : Nat, v3 = (t : Int) ∧ t < 7 := ⟨v3.toNat, by omega, by omega⟩
      walk_at "go"
      rw [Int.toNat_natCast, pw1]
      refine m_new (.cons (.str _) (.cons (.int _) .nil)) (by simp) (fun p H5 s5 hp im => ?_)
      obtain ⟨a1, a2⟩ := pwS n hn
      exact hQ _ _ (.two (2 ^ n)) ((k1.trans k3).trans (Keep.of s5)) (D3.same s5) im ⟨a1, a2⟩
    · walk_at "go"
      refine use_nx D1 (by decide) (fun H3 v3 k3 D3 h30 h31 => ?_)
      obtain ⟨n, rfl, hn⟩ : ∃ t : Nat, v3 = (t : Int) ∧ t < 6 := ⟨v3.toNat, by omega, by omega⟩
      walk_at "go"
      refine m_new (.cons (.str _) (.cons (.int _) .nil)) (by simp) (fun p H5 s5 hp im => ?_)
      have e : (1 + (n : Int)) = ((1 + n : Nat) : Int) := by omega
      rw [e] at im
      exact hQ _ _ (.hist (1 + n)) ((k1.trans k3).trans (Keep.of s5)) (D3.same s5) im ⟨by omega, by omega⟩
def sp_law_before (K : PySem.W.Frag) : Sp := fun vs H Q _ => ∃ (d : Addr) (L : List (Addr × HO)) (rows end_ : Int), vs = [.ref d, .int rows, .int end_] ∧ DrL H d L ∧ 0 ≤ rows ∧ rows ≤ 1000 ∧ 0 ≤ end_ ∧ end_ ≤ 1000 ∧
  ∀ H' v (es : List Pp), Keep [d] H H' → DrL H' d L → Im H' v (.tuple (es.map Pp.d)) → es.length ≤ 12 → Q v H'
theorem sc_law_before : FnScope ["draws", "rows", "end", "parts", "k", "pick"] ["draws", "rows", "end"] (defScope (topS 49)) := ⟨rfl, rfl, rfl, by decide +kernel, rfl, by decide +kernel, by decide +kernel⟩
theorem ok_law_before (T : Txt fa fn K mg (XOk cs xcs K w)) : Dn P w K mg base CX0 2 "_law_before" ["draws", "rows", "end"] (sp_law_before K) := by
  refine mk_dn (d := dOf "_law_before" 49) T 29 29 rfl rfl rfl rfl rfl sc_law_before (by walk_at "len") (fun _ _ _ _ _ _ us hl => match us, hl with | [_, _, _], _ => rfl) (fun cdv A outer s H vs Q E hr h => ⟨_, (pss_cons (ps_set (i := 3) sc_law_before.nd rfl (.inl rfl) (pe_lst pa_nil))
      (pss_cons (ps_for PassesOwn.never rfl (pi_r1 rfl (T.free 132 rfl) (pa_cons (pe_ixU (K := K) rfl (hu_of hr) (pe_lst (pa_cons pe_int (pa_cons pe_int (pa_cons pe_int (pa_cons pe_int pa_nil))))) (pe_callD (K := K) rfl (ok_law_next T) (hr.mono (by decide)) rfl pass0 (pa_cons (pv 0) (pa_cons pe_int pa_nil)))) pa_nil)) (pg_name (i := 4) sc_law_before.nd rfl (.inl rfl)) (pss_cons (ps_set (i := 5) sc_law_before.nd rfl (.inl rfl) (pe_callD (K := K) rfl (ok_law_next T) (hr.mono (by decide)) rfl pass0 (pa_cons (pv 0) (pa_cons pe_int pa_nil))))
      (pss_one (ps_join (ps_if (pt_cmpR (op_eqU (K := K) rfl hr.units) (pv 5) pe_int (nomark _)) (pss_one (ps_expr (pe_bm PySem.F.plainAttrs_list PySem.F.slot_list_append PySem.F.type_list_append mt_append (pv 3) (pa_cons (pe_tup (pa_cons pe_str (pa_cons (pe_callD (K := K) rfl (ok_law_next T) (hr.mono (by decide)) rfl pass0 (pa_cons (pv 0) (pa_cons (pe_op (op_addU (K := K) rfl) (pv 2) pe_int) pa_nil))) pa_nil))) pa_nil)))) (pss_one (ps_if (pt_cmpR (op_eqU (K := K) rfl hr.units) (pv 5) pe_int (nomark _)) (pss_one (ps_expr (pe_bm PySem.F.plainAttrs_list PySem.F.slot_list_append PySem.F.type_list_append mt_append (pv 3) (pa_cons (pe_tup (pa_cons pe_str (pa_cons (pe_callD (K := K) rfl (ok_law_next T) (hr.mono (by decide)) rfl pass0 (pa_cons (pv 0) (pa_cons (pe_op (op_addU (K := K) rfl) (pv 1) pe_int) pa_nil))) pa_nil))) pa_nil)))) (pss_one (ps_expr (pe_bm PySem.F.plainAttrs_list PySem.F.slot_list_append PySem.F.type_list_append mt_append (pv 3) (pa_cons (pe_tup (pa_cons pe_str (pa_cons (pe_callD (K := K) rfl (ok_law_next T) (hr.mono (by decide)) rfl pass0 (pa_cons (pv 0) (pa_cons (pe_op (op_addU (K := K) rfl) (pv 1) pe_int) pa_nil))) (pa_cons (pe_cmpR (op_eqU (K := K) rfl hr.units) (pe_callD (K := K) rfl (ok_law_next T) (hr.mono (by decide)) rfl pass0 (pa_cons (pv 0) (pa_cons pe_int pa_nil))) pe_int (nomark _)) pa_nil)))) pa_nil)))))))))))
      (pss_one (ps_ret (pe_callTy (c_tuple (K := K) rfl) rfl (T.free 136 rfl) (by decide +kernel) (pa_cons (pv 3) pa_nil)))))), ?_⟩)
  obtain ⟨d, L, rows, end_, rfl, D, hr0, hr1, he0, he1, hQ⟩ := h
  walk_at "go"
  refine ⟨by decide, fun p hp => ?_⟩
  have D1 := D.new (o := .lst []) hp
  have kp : Keep [d] H _ := Keep.new (o := .lst []) hp
  walk_at "go"
  refine use_pk D1 rfl rfl (by simp) (by simp) (fun H2 v k2 D2 hv => ?_)
  obtain ⟨n, rfl, hn⟩ : ∃ n : Nat, v = .int (n : Int) ∧ n ≤ 12 := by
    simp only [List.mem_cons, List.not_mem_nil, or_false] at hv
    rcases hv with rfl | rfl | rfl | rfl
    · exact ⟨0, rfl, by decide⟩
    · exact ⟨0, rfl, by decide⟩
    · exact ⟨4, rfl, by decide⟩
    · exact ⟨12, rfl, by decide⟩
  walk_at "go"
  rw [Int.toNat_natCast]
  have kp2 := kp.trans k2
  refine f_range (fun i σ H' => ∃ (k pk : Option V) (xs : List V) (es : List Pp), σ = [some (.ref d), some (.int rows), some (.int end_), some (.ref p), k, pk] ∧ Keep [d] H H' ∧ DrL H' d (L ++ [(p, .lst xs)]) ∧ Ims H' xs (es.map Pp.d) ∧ es.length = i)
    ⟨_, _, [], [], rfl, kp2, D2, .nil, rfl⟩ ?_ ?_
  · rintro i σ H3 hi ⟨k, pk, xs, es, rfl, k3, D3, ims, hl⟩
    have hxs := ims.length
    rw [List.length_map] at hxs
    walk_at "go"
    refine use_nx D3 (by decide) (fun H4 v4 k4 D4 h40 h41 => ?_)
    have ims4 := D3.ims k4 ims
    have at4 : H4 p = some (.lst xs) := D4.get L.length get_last
    walk_at "go"
    have fin : ∀ (a : Addr) (e : Pp) (H5 H6 : Hp), Keep [d] H4 H5 → DrL H5 d (L ++ [(p, .lst xs)]) → Same H5 H6 → Im H6 (.ref a) e.d →
        ∀ (Q' : VK), (∀ (H7 : Hp), (∃ (xs : List V) (es : List Pp), Keep [d] H H7 ∧ DrL H7 d (L ++ [(p, .lst xs)]) ∧ Ims H7 xs (es.map Pp.d) ∧ es.length = i + 1) → Q' .non H7) → rAppend (.ref p) [.ref a] H6 Q' := by
      intro a e H5 H6 k5 D5 s6 im Q' hq
      have D6 := D5.same s6
      refine gD_append D6 L.length get_last (by omega) (fun D7 => hq _ ⟨xs ++ [.ref a], es ++ [e], ?_, ?_, ?_, ?_⟩)
      · exact ((((k3.trans k4).trans k5).trans (Keep.of s6))).mut hp
      · rw [set_last] at D7
        exact D7
      · have nt : NoTup H6 [p] := NoTup.one (D6.get L.length get_last) (fun _ e => nomatch e)
        rw [List.map_append]
        exact (((D4.ims k5 ims4).same s6).append (Ims.one im)).keep (Keep.set (List.mem_singleton.mpr rfl)) nt
      · rw [List.length_append, hl]
        rfl
    refine ⟨fun σ' H7 => ∃ (xs : List V) (es : List Pp) (pk : Option V), σ' = [some (.ref d), some (.int rows), some (.int end_), some (.ref p), some (.int (0 + i)), pk] ∧ Keep [d] H H7 ∧ DrL H7 d (L ++ [(p, .lst xs)]) ∧ Ims H7 xs (es.map Pp.d) ∧ es.length = i + 1, ?_, ?_⟩
    · walk_at "go"
      refine g_if (fun c => ?_) (fun c => ?_)
      · walk_at "go"
        refine use_nx D4 (by omega) (fun H5 v5 k5 D5 h50 h51 => ?_)
        walk_at "go"
        refine m_new (.cons (.str _) (.cons (.int _) .nil)) (by simp) (fun a H6 s6 ha im => ?_)
        walk_at "go"
        exact fin a (.data v5) H5 H6 k5 D5 s6 im _ (fun H7 ⟨xs, es, h7⟩ => ⟨xs, es, _, rfl, h7⟩)
      · walk_at "go"
        refine g_if (fun c => ?_) (fun c => ?_)
        · walk_at "go"
          refine use_nx D4 (by omega) (fun H5 v5 k5 D5 h50 h51 => ?_)
          walk_at "go"
          refine m_new (.cons (.str _) (.cons (.int _) .nil)) (by simp) (fun a H6 s6 ha im => ?_)
          walk_at "go"
          exact fin a (.fetch v5) H5 H6 k5 D5 s6 im _ (fun H7 ⟨xs, es, h7⟩ => ⟨xs, es, _, rfl, h7⟩)
        · walk_at "go"
          refine use_nx D4 (by omega) (fun H5 v5 k5 D5 h50 h51 => ?_)
          obtain ⟨q, rfl⟩ : ∃ t : Nat, v5 = (t : Int) := ⟨v5.toNat, by omega⟩
          walk_at "go"
          refine use_nx D5 (by decide) (fun H6 v6 k6 D6 h60 h61 => ?_)
          walk_at "go"
          refine m_new (.cons (.str _) (.cons (.int _) (.cons (.bl _) .nil))) (by simp) (fun a H7 s7 ha im => ?_)
          walk_at "go"
          exact fin a (.br q (decide (v6 = 0))) H6 H7 (k5.trans k6) D6 s7 im _ (fun H8 ⟨xs, es, h7⟩ => ⟨xs, es, _, rfl, h7⟩)
    · rintro σ' H7 ⟨xs, es, pk, rfl, h7⟩
      exact ⟨_, _, xs, es, rfl, h7⟩
  · rintro σ H3 ⟨k, pk, xs, es, rfl, k3, D3, ims, hl⟩
    walk_at "go"
    refine m_tupleL (SqL.of (D3.get L.length get_last)) ims (fun q H4 s4 hq im => ?_)
    exact hQ _ _ es (k3.trans (Keep.of s4)) ((D3.sub sub_last).same s4) im (by omega)
/-- drawn visits -/
structure ViDr (vs : List Vi) : Prop where
  l : vs.length ≤ 10
  a : ∀ v ∈ vs, 0 ≤ v.a
  asc : vs.Pairwise fun v u => v.n ≤ u.n
def sp_law_visits (K : PySem.W.Frag) : Sp := fun vs H Q _ => ∃ (d : Addr) (L : List (Addr × HO)) (end_ : Int), vs = [.ref d, .int end_] ∧ DrL H d L ∧ 0 ≤ end_ ∧ end_ ≤ 1000 ∧
  ∀ H' v es, Keep [d] H H' → DrL H' d L → Im H' v (.tuple (es.map Vi.d)) → ViDr es → Q v H'
theorem sc_law_visits : FnScope ["draws", "end", "visits", "n", "k"] ["draws", "end"] (defScope (topS 50)) := ⟨rfl, rfl, rfl, by decide +kernel, rfl, by decide +kernel, by decide +kernel⟩
theorem ok_law_visits (T : Txt fa fn K mg (XOk cs xcs K w)) : Dn P w K mg base CX0 2 "_law_visits" ["draws", "end"] (sp_law_visits K) := by
  refine mk_dn (d := dOf "_law_visits" 50) T 30 30 rfl rfl rfl rfl rfl sc_law_visits (by walk_at "len") (fun _ _ _ _ _ _ us hl => match us, hl with | [_, _], _ => rfl) (fun cdv A outer s H vs Q E hr h => ⟨_, (pss_cons (ps_set (i := 2) sc_law_visits.nd rfl (.inl rfl) (pe_lst pa_nil))
      (pss_cons (ps_set (i := 3) sc_law_visits.nd rfl (.inl rfl) pe_int)
      (pss_cons (ps_for PassesOwn.never rfl (pi_r1 rfl (T.free 132 rfl) (pa_cons (pe_ixU (K := K) rfl (hu_of hr) (pe_lst (pa_cons pe_int (pa_cons pe_int (pa_cons pe_int (pa_cons pe_int pa_nil))))) (pe_callD (K := K) rfl (ok_law_next T) (hr.mono (by decide)) rfl pass0 (pa_cons (pv 0) (pa_cons pe_int pa_nil)))) pa_nil)) (pg_name (i := 4) sc_law_visits.nd rfl (.inl rfl)) (pss_cons (ps_set (i := 3) sc_law_visits.nd rfl (.inl rfl) (pe_op (op_addU (K := K) rfl) (pv 3) (pe_callD (K := K) rfl (ok_law_next T) (hr.mono (by decide)) rfl pass0 (pa_cons (pv 0) (pa_cons pe_int pa_nil)))))
      (pss_one (ps_expr (pe_bm PySem.F.plainAttrs_list PySem.F.slot_list_append PySem.F.type_list_append mt_append (pv 2) (pa_cons (pe_tup (pa_cons (pv 3) (pa_cons (pe_ixU (K := K) rfl (hu_of hr) (pe_lst (pa_cons pe_str (pa_cons pe_str pa_nil))) (pe_callD (K := K) rfl (ok_law_next T) (hr.mono (by decide)) rfl pass0 (pa_cons (pv 0) (pa_cons pe_int pa_nil)))) (pa_cons (pe_callD (K := K) rfl (ok_law_next T) (hr.mono (by decide)) rfl pass0 (pa_cons (pv 0) (pa_cons (pe_op (op_addU (K := K) rfl) (pv 1) pe_int) pa_nil))) pa_nil)))) pa_nil))))))
      (pss_one (ps_ret (pe_callTy (c_tuple (K := K) rfl) rfl (T.free 136 rfl) (by decide +kernel) (pa_cons (pv 2) pa_nil))))))), ?_⟩)
  obtain ⟨d, L, end_, rfl, D, he0, he1, hQ⟩ := h
  walk_at "go"
  refine ⟨by decide, fun p hp => ?_⟩
  have D1 := D.new (o := .lst []) hp
  have kp : Keep [d] H _ := Keep.new (o := .lst []) hp
  walk_at "go"
  refine use_pk D1 rfl rfl (by simp) (by simp) (fun H2 v k2 D2 hv => ?_)
  obtain ⟨n, rfl, hn⟩ : ∃ n : Nat, v = .int (n : Int) ∧ n ≤ 10 := by
    simp only [List.mem_cons, List.not_mem_nil, or_false] at hv
    rcases hv with rfl | rfl | rfl | rfl
    · exact ⟨0, rfl, by decide⟩
    · exact ⟨0, rfl, by decide⟩
    · exact ⟨3, rfl, by decide⟩
    · exact ⟨10, rfl, by decide⟩
  walk_at "go"
  rw [Int.toNat_natCast]
  have kp2 := kp.trans k2
  refine f_range (fun i σ H' => ∃ (k : Option V) (n : Int) (xs : List V) (es : List Vi), σ = [some (.ref d), some (.int end_), some (.ref p), some (.int n), k] ∧ Keep [d] H H' ∧ DrL H' d (L ++ [(p, .lst xs)]) ∧ Ims H' xs (es.map Vi.d) ∧ es.length = i ∧ (∀ v ∈ es, 0 ≤ v.a) ∧ (∀ v ∈ es, v.n ≤ n) ∧ es.Pairwise (fun v u => v.n ≤ u.n))
    ⟨_, 0, [], [], rfl, kp2, D2, .nil, rfl, by simp, by simp, .nil⟩ ?_ ?_
  · rintro i σ H3 hi ⟨k, n0, xs, es, rfl, k3, D3, ims, hl, a0, a1, a2⟩
    have hxs := ims.length
    rw [List.length_map] at hxs
    walk_at "go"
    refine use_nx D3 (by decide) (fun H4 v4 k4 D4 h40 h41 => ?_)
    have ims4 := D3.ims k4 ims
    have at4 : H4 p = some (.lst xs) := D4.get L.length get_last
    walk_at "go"
    refine use_pk D4 rfl rfl (by simp) (by simp) (fun H5 v k5 D5 hv => ?_)
    obtain ⟨b, rfl⟩ : ∃ b : Bool, v = .str (tdS b) := by
      simp only [List.mem_cons, List.not_mem_nil, or_false] at hv
      rcases hv with rfl | rfl
      · exact ⟨true, rfl⟩
      · exact ⟨false, rfl⟩
    walk_at "go"
    refine use_nx D5 (by omega) (fun H6 v6 k6 D6 h60 h61 => ?_)
    walk_at "go"
    refine m_new (.cons (.int _) (.cons (.str _) (.cons (.int _) .nil))) (by simp) (fun a H7 s7 ha im => ?_)
    walk_at "go"
    have D7 := D6.same s7
    have nt : NoTup H7 [p] := NoTup.one (D7.get L.length get_last) (fun _ e => nomatch e)
    have ims7 := ((D5.ims k6 (D4.ims k5 ims4)).same s7).append (Ims.one im)
    refine gD_append D7 L.length get_last (by omega) (fun D8 => ?_)
    walk_at "go"
    rw [set_last] at D8
    refine ⟨_, n0 + v4, xs ++ [.ref a], es ++ [⟨n0 + v4, b, v6⟩], rfl, (((((k3.trans k4).trans k5).trans k6).trans (Keep.of s7))).mut hp, D8, by rw [List.map_append]; exact ims7.keep (Keep.set (List.mem_singleton.mpr rfl)) nt, by rw [List.length_append, hl]; rfl, all_snoc a0 h60, all_snoc (fun v hv => by have := a1 v hv; omega) (Int.le_refl _), ?_⟩
    rw [List.pairwise_append]
    refine ⟨a2, List.pairwise_singleton _ _, fun v hv u hu => ?_⟩
    rw [List.mem_singleton.mp hu]
    have := a1 v hv
    show v.n ≤ n0 + v4
    omega
  · rintro σ H3 ⟨k, n0, xs, es, rfl, k3, D3, ims, hl, a0, a1, a2⟩
    walk_at "go"
    refine m_tupleL (SqL.of (D3.get L.length get_last)) ims (fun q H4 s4 hq im => ?_)
    exact hQ _ _ es (k3.trans (Keep.of s4)) ((D3.sub sub_last).same s4) im ⟨by omega, a0, a2⟩

/-- drawn settings -/
structure SeDr (t : Sett) : Prop where
  dc : CsDr t.dc
  fc : CsDr t.fc
  g : GsOk t.g
  d0 : 0 ≤ t.dep
  d1 : t.dep ≤ 64
  m0 : 0 ≤ t.miss
  m1 : t.miss ≤ 100
  w0 : 1 ≤ t.wrong
  w1 : t.wrong ≤ 100
  b : t.bef.length ≤ 12
  v : ViDr t.vis
theorem SeDr.ok {t : Sett} (h : SeDr t) : SettOk t := ⟨h.dc.ok, h.fc.ok, h.g, h.d0, h.d1, by have := h.v.l; omega⟩
def sp_law_settings (K : PySem.W.Frag) : Sp := fun vs H Q _ => ∃ (d : Addr) (L : List (Addr × HO)) (rows end_ deep : Int), vs = [.ref d, .int rows, .int end_, .int deep] ∧ DrL H d L ∧ 0 ≤ rows ∧ rows ≤ 1000 ∧ 0 ≤ end_ ∧ end_ ≤ 1000 ∧ 0 ≤ deep ∧ deep ≤ 64 ∧
  ∀ H' v t, Keep [d] H H' → DrL H' d L → Im H' v (Sett.d t) → SeDr t → Q v H'
theorem sc_law_settings : FnScope ["draws", "rows", "end", "deepest", "data", "fetch", "guess", "depth", "costs"] ["draws", "rows", "end", "deepest"] (defScope (topS 51)) := ⟨rfl, rfl, rfl, by decide +kernel, rfl, by decide +kernel, by decide +kernel⟩
theorem ok_law_settings (T : Txt fa fn K mg (XOk cs xcs K w)) : Dn P w K mg base CX0 3 "_law_settings" ["draws", "rows", "end", "deepest"] (sp_law_settings K) := by
  refine mk_dn (d := dOf "_law_settings" 51) T 31 31 rfl rfl rfl rfl rfl sc_law_settings (by walk_at "len") (fun _ _ _ _ _ _ us hl => match us, hl with | [_, _, _, _], _ => rfl) (fun cdv A outer s H vs Q E hr h => ⟨_, (pss_cons (ps_set (i := 4) sc_law_settings.nd rfl (.inl rfl) (pe_callD (K := K) rfl (ok_law_cache T) (hr.mono (by decide)) rfl pass0 (pa_cons (pv 0) pa_nil)))
      (pss_cons (ps_set (i := 5) sc_law_settings.nd rfl (.inl rfl) (pe_callD (K := K) rfl (ok_law_cache T) (hr.mono (by decide)) rfl pass0 (pa_cons (pv 0) pa_nil)))
      (pss_cons (ps_set (i := 6) sc_law_settings.nd rfl (.inl rfl) (pe_callD (K := K) rfl (ok_law_predictor T) (hr.mono (by decide)) rfl pass0 (pa_cons (pv 0) pa_nil)))
      (pss_cons (ps_set (i := 7) sc_law_settings.nd rfl (.inl rfl) (pe_ixU (K := K) rfl (hu_of hr) (pe_lst (pa_cons pe_int (pa_cons pe_int (pa_cons pe_int (pa_cons (pv 3) pa_nil))))) (pe_callD (K := K) rfl (ok_law_next T) (hr.mono (by decide)) rfl pass0 (pa_cons (pv 0) (pa_cons pe_int pa_nil)))))
      (pss_cons (ps_set (i := 8) sc_law_settings.nd rfl (.inl rfl) (pe_tup (pa_cons (pe_ixU (K := K) rfl (hu_of hr) (pe_lst (pa_cons pe_int (pa_cons pe_int (pa_cons pe_int (pa_cons pe_int (pa_cons pe_int pa_nil)))))) (pe_callD (K := K) rfl (ok_law_next T) (hr.mono (by decide)) rfl pass0 (pa_cons (pv 0) (pa_cons pe_int pa_nil)))) (pa_cons (pe_ixU (K := K) rfl (hu_of hr) (pe_lst (pa_cons pe_int (pa_cons pe_int (pa_cons pe_int (pa_cons pe_int (pa_cons pe_int pa_nil)))))) (pe_callD (K := K) rfl (ok_law_next T) (hr.mono (by decide)) rfl pass0 (pa_cons (pv 0) (pa_cons pe_int pa_nil)))) pa_nil))))
      (pss_one (ps_ret (pe_tup (pa_cons (pv 4) (pa_cons (pv 5) (pa_cons (pv 6) (pa_cons (pv 7) (pa_cons (pv 8) (pa_cons (pe_callD (K := K) rfl (ok_law_before T) (hr.mono (by decide)) rfl pass0 (pa_cons (pv 0) (pa_cons (pv 1) (pa_cons (pv 2) pa_nil)))) (pa_cons (pe_callD (K := K) rfl (ok_law_visits T) (hr.mono (by decide)) rfl pass0 (pa_cons (pv 0) (pa_cons (pv 2) pa_nil))) pa_nil))))))))))))))), ?_⟩)
  obtain ⟨d, L, rows, end_, deep, rfl, D, hr0, hr1, he0, he1, hd0, hd1, hQ⟩ := h
  walk_at "go"
  refine ⟨d, L, rfl, D, fun H1 v1 e1 k1 D1 i1 c1 => ?_⟩
  walk_at "go"
  refine ⟨d, L, rfl, D1, fun H2 v2 e2 k2 D2 i2 c2 => ?_⟩
  walk_at "go"
  refine ⟨d, L, rfl, D2, fun H3 v3 e3 k3 D3 i3 c3 => ?_⟩
  walk_at "go"
  refine use_pk D3 rfl rfl (by simp) (by simp) (fun H4 v k4 D4 hv => ?_)
  obtain ⟨n4, rfl, h40, h41⟩ : ∃ n : Int, v = .int n ∧ 0 ≤ n ∧ n ≤ 64 := by
    simp only [List.mem_cons, List.not_mem_nil, or_false] at hv
    rcases hv with rfl | rfl | rfl | rfl
    · exact ⟨_, rfl, by decide, by decide⟩
    · exact ⟨_, rfl, by decide, by decide⟩
    · exact ⟨_, rfl, by decide, by decide⟩
    · exact ⟨_, rfl, hd0, hd1⟩
  walk_at "go"
  refine use_pk D4 rfl rfl (by simp) (by simp) (fun H5 v k5 D5 hv => ?_)
  obtain ⟨n5, rfl, h50, h51⟩ : ∃ n : Int, v = .int n ∧ 0 ≤ n ∧ n ≤ 100 := by
    simp only [List.mem_cons, List.not_mem_nil, or_false] at hv
    rcases hv with rfl | rfl | rfl | rfl | rfl <;> exact ⟨_, rfl, by decide, by decide⟩
  walk_at "go"
  refine use_pk D5 rfl rfl (by simp) (by simp) (fun H6 v k6 D6 hv => ?_)
  obtain ⟨n6, rfl, h60, h61⟩ : ∃ n : Int, v = .int n ∧ 1 ≤ n ∧ n ≤ 100 := by
    simp only [List.mem_cons, List.not_mem_nil, or_false] at hv
    rcases hv with rfl | rfl | rfl | rfl | rfl <;> exact ⟨_, rfl, by decide, by decide⟩
  walk_at "go"
  refine m_new (.cons (.int _) (.cons (.int _) .nil)) (by simp) (fun a H7 s7 ha i7 => ?_)
  have D7 := D6.same s7
  walk_at "go"
  refine ⟨d, L, rows, end_, rfl, D7, hr0, hr1, he0, he1, fun H8 v8 e8 k8 D8 i8 c8 => ?_⟩
  walk_at "go"
  refine ⟨d, L, end_, rfl, D8, he0, he1, fun H9 v9 e9 k9 D9 i9 c9 => ?_⟩
  have g1 := D8.im k9 (D7.im k8 ((D5.im k6 (D4.im k5 (D3.im k4 (D2.im k3 (D1.im k2 i1))))).same s7))
  have g2 := D8.im k9 (D7.im k8 ((D5.im k6 (D4.im k5 (D3.im k4 (D2.im k3 i2)))).same s7))
  have g3 := D8.im k9 (D7.im k8 ((D5.im k6 (D4.im k5 (D3.im k4 i3))).same s7))
  have g7 := D8.im k9 (D7.im k8 i7)
  have g8 := D8.im k9 i8
  refine m_new (.cons g1 (.cons g2 (.cons g3 (.cons (.int _) (.cons g7 (.cons g8 (.cons i9 .nil))))))) (by simp) (fun q H10 s10 hq im => ?_)
  have kk := ((((((((k1.trans k2).trans k3).trans k4).trans k5).trans k6).trans (Keep.of s7)).trans k8).trans k9).trans (Keep.of s10)
  exact hQ _ _ ⟨e1, e2, e3, n4, n5, n6, e8, e9⟩ kk (D9.same s10) im ⟨c1, c2, c3, h40, h41, h50, h51, h60, h61, c8, c9⟩


/-! ### values, events -/
theorem work_do {r : Row} {ms : MS} : workS r ms false = doRow ms r := by cases r <;> rfl
theorem aft_next {r : Row} {ms : MS} {a : Nat} (h : wrkR r = true) : aftM r a false = nextAt (doRow ms r) a r := by
  cases r <;> first | rfl | (cases h; done)
theorem aft_br {ms : MS} {a p t : Nat} : aftM (.branch p t) a (decide (¬ rgV ms p = 0)) = nextAt ms a (.branch p t) := by
  show (if decide (¬ rgV ms p = 0) = true then t else a + 1) = if rgV ms p = 0 then a + 1 else t
  by_cases h : rgV ms p = 0
  · rw [if_pos h, decide_eq_false (by simpa using h)]
    rfl
  · rw [if_neg h, decide_eq_true h]
    rfl
theorem runM_some {rows : List Row} {n a : Nat} {ms : MS} {r : Row} (h : rows[a]? = some r) (hs : isStop r = false) : runM rows (n + 1) a ms = runM rows n (nextAt (doRow ms r) a r) (doRow ms r) := by
  show (match rows[a]? with
    | some (.stop a) => (some (rgV ms a), ms)
    | some r => runM rows n (nextAt (doRow ms r) a r) (doRow ms r)
    | none => (none, ms)) = _
  rw [h]
  cases r <;> first | rfl | cases hs
theorem runM_stop {rows : List Row} {n a p : Nat} {ms : MS} (h : rows[a]? = some (.stop p)) : runM rows (n + 1) a ms = (some (rgV ms p), ms) := by
  show (match rows[a]? with
    | some (.stop a) => (some (rgV ms a), ms)
    | some r => runM rows n (nextAt (doRow ms r) a r) (doRow ms r)
    | none => (none, ms)) = _
  rw [h]
theorem runM_none {rows : List Row} {n a : Nat} {ms : MS} (h : rows[a]? = none) : runM rows (n + 1) a ms = (none, ms) := by
  show (match rows[a]? with
    | some (.stop a) => (some (rgV ms a), ms)
    | some r => runM rows n (nextAt (doRow ms r) a r) (doRow ms r)
    | none => (none, ms)) = _
  rw [h]
theorem run_none {k : MK} {n a : Nat} {ms : MS} {rd : List Int} {mc : MC} (h : k.rows[a]? = none) : runMM k (n + 1) a ms rd mc = (none, ms, mc) := by
  show (match k.rows[a]? with | none => _ | some r => _) = _
  rw [h]
theorem row_kinds (r : Row) : (∃ p, r = .stop p) ∨ (∃ p t, r = .branch p t) ∨ (wrkR r = true ∧ isStop r = false ∧ isBr r = false) := by
  cases r <;> first | exact .inl ⟨_, rfl⟩ | exact .inr (.inl ⟨_, _, rfl⟩) | exact .inr (.inr ⟨rfl, rfl, rfl⟩)
/-- the machine gives what the plain run gives -/
theorem run_vals {k : MK} : ∀ (n a : Nat) (ms : MS) (rd : List Int) (mc : MC), ((runMM k n a ms rd mc).1, (runMM k n a ms rd mc).2.1) = runM k.rows n a ms
  | 0, _, _, _, _ => rfl
  | n + 1, a, ms, rd, mc => by
    cases h : k.rows[a]? with
    | none => rw [run_none h, runM_none h]
    | some r =>
      rcases row_kinds r with ⟨p, rfl⟩ | ⟨p, t, rfl⟩ | ⟨h1, h2, h3⟩
      · rw [run_stop h, runM_stop h]
      · rw [run_br h, runM_some h rfl, run_vals n, aft_br]
        rfl
      · rw [run_wk h h1, runM_some h h2, run_vals n, work_do, aft_next h1]
def evO : Ev → Option Int
  | .out _ x => some x
  | _ => none
def evS : Ev → Bool
  | .stop _ => true
  | _ => false
def outsT (tr : List Ev) : List Int := tr.filterMap evO
/-- more events, none of which puts out or stops -/
def Qt (mc mc' : MC) : Prop := ∃ l, mc'.tr = mc.tr ++ l ∧ ∀ e ∈ l, evO e = none ∧ evS e = false
section
variable {k : MK} {mc mc' mc2 : MC} {r : Row} {ms : MS} {rd : List Int} {a : Nat} {x : Int} {t : Bool}
theorem Qt.refl : Qt mc mc := ⟨[], by simp, by simp⟩
theorem Qt.trans (h : Qt mc mc') (g : Qt mc' mc2) : Qt mc mc2 := by
  obtain ⟨l, h1, h2⟩ := h
  obtain ⟨m, g1, g2⟩ := g
  refine ⟨l ++ m, by rw [g1, h1, List.append_assoc], fun e he => ?_⟩
  rcases List.mem_append.mp he with he | he
  · exact h2 e he
  · exact g2 e he
theorem Qt.one {e : Ev} (h : mc'.tr = mc.tr ++ [e]) (h1 : evO e = none) (h2 : evS e = false) : Qt mc mc' := ⟨[e], h, fun f hf => by
  rw [List.mem_singleton.mp hf]
  exact ⟨h1, h2⟩⟩
theorem Qt.eq (h : mc'.tr = mc.tr) : Qt mc mc' := ⟨[], by rw [h, List.append_nil], by simp⟩
theorem qt_go : ∀ (l : List Vi) {mc : MC}, Qt mc (goVis l mc)
  | [], _ => Qt.refl
  | v :: l, mc => by
    rw [goVis_cons]
    split
    · exact (Qt.one (mc' := { visM mc v with vi := mc.vi + 1 }) rfl rfl rfl).trans (qt_go l)
    · exact Qt.refl
theorem qt_fetch : Qt mc (fetchM k mc a) := (qt_go _).trans (Qt.one (mc' := fetchM k mc a) rfl rfl rfl)
theorem qt_wait : Qt mc (waitM r rd mc) := Qt.eq rfl
theorem qt_tou : Qt mc (touM mc x) := Qt.one rfl rfl rfl
theorem qt_gue : Qt mc (gueM mc a) := Qt.one rfl rfl rfl
theorem qt_work : Qt mc (workC r ms true mc) := match r with
  | .load _ _ _ _ => qt_tou
  | .store _ _ _ _ => Qt.refl
  | .out _ => Qt.refl
  | .const _ _ => Qt.refl
  | .op _ _ _ _ => Qt.refl
  | .select _ _ _ _ => Qt.refl
  | .jump _ => Qt.refl
  | .branch _ _ => Qt.refl
  | .stop _ => Qt.refl
theorem qt_wrong {en : Int} : ∀ (n : Nat) {a : Nat} {ms : MS} {rd : List Int} {mc : MC}, Qt mc (wrongM k en n a ms rd mc)
  | 0, _, _, _, _ => Qt.refl
  | n + 1, a, ms, rd, mc => by
    unfold wrongM
    split
    · split
      · exact Qt.refl
      · rename_i r hr
        have h2 : Qt mc (waitM r rd (fetchM k mc a)) := qt_fetch.trans qt_wait
        show Qt mc (if _ then _ else if _ then _ else _)
        split
        · exact h2
        · split
          · exact (h2.trans (qt_gue.trans (Qt.eq rfl))).trans (qt_wrong n)
          · exact (h2.trans (qt_work.trans (Qt.eq rfl))).trans (qt_wrong n)
    · exact Qt.refl
theorem qt_lrn : Qt mc (lrnM mc a t) := Qt.eq rfl
theorem qt_br {p : Nat} : Qt mc (brM k r a p ms rd mc) := by
  unfold brM
  refine Qt.trans ?_ qt_lrn
  show Qt mc (if _ then _ else _)
  split
  · exact qt_gue.trans (Qt.eq rfl)
  · have q1 : Qt mc ({ gueM mc a with ck := mc.ck + 1 } : MC) := (qt_gue (a := a)).trans (Qt.eq rfl)
    have q2 := q1.trans (qt_wrong (k := k) (en := mx mc.ck (rdAt rd p) + k.wrong) k.dep.toNat (a := aftM r a (gueV mc a)) (ms := ms) (rd := rd))
    exact q2.trans (Qt.one (e := .back (mx mc.ck (rdAt rd p) + k.wrong) a) rfl rfl rfl)
theorem Qt.outs (h : Qt mc mc') : outsT mc'.tr = outsT mc.tr := by
  obtain ⟨l, h1, h2⟩ := h
  unfold outsT
  rw [h1, List.filterMap_append]
  have : l.filterMap evO = [] := List.filterMap_eq_nil_iff.mpr fun e he => (h2 e he).1
  rw [this, List.append_nil]
def noStop (tr : List Ev) : Prop := ∀ e ∈ tr, evS e = false
theorem Qt.stop (h : Qt mc mc') (g : noStop mc.tr) : noStop mc'.tr := fun e he => by
  obtain ⟨l, h1, h2⟩ := h
  rw [h1] at he
  rcases List.mem_append.mp he with he | he
  · exact g e he
  · exact (h2 e he).2
end
/-- the events at the end of a run -/
def EndT (p : Option Int × MS × MC) : Prop := outsT p.2.2.tr = p.2.1.ou ∧ match p.1 with
  | some _ => ∃ t c, p.2.2.tr = t ++ [.stop c] ∧ noStop t
  | none => noStop p.2.2.tr
theorem work_outs {r : Row} {ms : MS} {mc : MC} (h : outsT mc.tr = ms.ou) : outsT (workC r ms false mc).tr = (workS r ms false).ou := by
  cases r <;> first | exact h | (exact (qt_tou.outs).trans h) | skip
  show outsT (mc.tr ++ [.out mc.ck _]) = ms.ou ++ [_]
  unfold outsT
  rw [List.filterMap_append]
  show outsT mc.tr ++ _ = _
  rw [h]
  rfl
theorem work_stop {r : Row} {ms : MS} {mc : MC} (h : noStop mc.tr) : noStop (workC r ms false mc).tr := by
  cases r <;> first | exact h | exact qt_tou.stop h | skip
  intro e he
  have he : e ∈ mc.tr ++ [.out mc.ck _] := he
  rcases List.mem_append.mp he with he | he
  · exact h e he
  · rw [List.mem_singleton.mp he]
    rfl
theorem run_end {k : MK} : ∀ (n a : Nat) (ms : MS) (rd : List Int) (mc : MC), outsT mc.tr = ms.ou → noStop mc.tr → EndT (runMM k n a ms rd mc)
  | 0, _, _, _, _, h1, h2 => ⟨h1, h2⟩
  | n + 1, a, ms, rd, mc, h1, h2 => by
    cases h : k.rows[a]? with
    | none =>
      rw [run_none h]
      exact ⟨h1, h2⟩
    | some r =>
      have q : Qt mc (waitM r rd (fetchM k mc a)) := qt_fetch.trans qt_wait
      rcases row_kinds r with ⟨p, rfl⟩ | ⟨p, t, rfl⟩ | ⟨k1, k2, k3⟩
      · rw [run_stop h]
        refine ⟨?_, _, _, rfl, q.stop h2⟩
        show outsT ((waitM (.stop p) rd (fetchM k mc a)).tr ++ [_]) = ms.ou
        unfold outsT
        rw [List.filterMap_append]
        show outsT (waitM (.stop p) rd (fetchM k mc a)).tr ++ [] = ms.ou
        rw [List.append_nil, q.outs, h1]
      · rw [run_br h]
        have q2 := q.trans (qt_br (k := k) (r := .branch p t) (a := a) (p := p) (ms := ms) (rd := rd))
        exact run_end n _ _ _ _ (q2.outs.trans h1) (q2.stop h2)
      · rw [run_wk h k1]
        exact run_end n _ _ _ _ (work_outs (q.outs.trans h1)) (work_stop (q.stop h2))
theorem mach_end {t : Sett} {rows : List Row} {rgs : List Rg} {cs : List (List Int)} {n : Nat} : EndT (machR t rows rgs cs n) := by
  obtain ⟨_, _, _, htr⟩ := pres_keep t.bef (mc00 t)
  have htr : (mc0 t).tr = [] := htr
  refine run_end n 0 _ _ _ ?_ ?_
  · rw [htr]
    rfl
  · rw [htr]
    intro e he
    cases he
theorem mach_vals {t : Sett} {rows : List Row} {rgs : List Rg} {cs : List (List Int)} {n : Nat} : ((machR t rows rgs cs n).1, (machR t rows rgs cs n).2.1) = runM rows n 0 (ms0 rgs cs) := run_vals n 0 _ _ _
theorem szb {n : Nat} (h : n ≤ 16000000) : n < sizeLine := Nat.lt_of_le_of_lt h (by decide)
def Ev.nm : Ev → Str
  | .visit t _ _ _ => tdS t
  | .fetch _ _ _ => "fetch"
  | .data _ _ _ => "data"
  | .out _ _ => "out"
  | .guess _ _ _ => "guess"
  | .back _ _ => "back"
  | .stop _ => "stop"
theorem ev0 {H : Hp} {x : V} {e : Ev} (h : Im H x e.d) : ∃ ds, Im H x (.tuple (.str e.nm :: ds)) := by
  cases e <;> exact ⟨_, h⟩
theorem ev_out {e : Ev} : e.nm = "out" ↔ (evO e).isSome = true := by
  cases e with
  | visit t c l f => cases t <;> simp only [Ev.nm, evO, tdS] <;> decide +kernel
  | out c x => exact ⟨fun _ => rfl, fun _ => rfl⟩
  | _ => simp only [Ev.nm, evO] <;> decide +kernel
theorem ev_stop {e : Ev} : e.nm = "stop" ↔ evS e = true := by
  cases e with
  | visit t c l f => cases t <;> simp only [Ev.nm, evS, tdS] <;> decide +kernel
  | _ => simp only [Ev.nm, evS] <;> decide +kernel
theorem ims_int_inv {H : Hp} : ∀ {us : List V} {ns : List Int}, Ims H us (ns.map .int) → us = ns.map V.int
  | _, [], h => by
    rw [h.nil_inv]
    rfl
  | _, n :: ns, h => by
    obtain ⟨v, ws, rfl, i1, i2⟩ := h.cons_inv
    obtain rfl := i1.int_inv
    rw [ims_int_inv i2]
    rfl


/-! ### what a run leaves of the caches -/
/-- the parts that never change -/
structure ZK (mc mc' : MC) : Prop where
  d : mc'.dc.Z = mc.dc.Z
  c : mc'.fc.Z = mc.fc.Z
section
variable {k : MK} {mc mc' mc2 : MC} {r : Row} {ms : MS} {rd : List Int} {a : Nat} {x : Int} {t g : Bool}
theorem ZK.refl : ZK mc mc := ⟨rfl, rfl⟩
theorem ZK.trans (h : ZK mc mc') (k : ZK mc' mc2) : ZK mc mc2 := ⟨k.d.trans h.d, k.c.trans h.c⟩
theorem zk_go : ∀ (l : List Vi) {mc : MC}, ZK mc (goVis l mc)
  | [], _ => ZK.refl
  | v :: l, mc => by
    rw [goVis_cons]
    split
    · refine ZK.trans (mc' := { visM mc v with vi := mc.vi + 1 }) ⟨?_, rfl⟩ (zk_go l)
      show (if v.t then tcV mc.dc v.a else dpV mc.dc v.a).Z = mc.dc.Z
      split <;> rfl
    · exact ZK.refl
theorem zk_fetch : ZK mc (fetchM k mc a) := (zk_go _).trans (mc' := goVis (k.vis.drop mc.vi) mc) ⟨rfl, rfl⟩
theorem zk_wait : ZK mc (waitM r rd mc) := ⟨rfl, rfl⟩
theorem zk_tou : ZK mc (touM mc x) := ⟨rfl, rfl⟩
theorem zk_work : ZK mc (workC r ms g mc) := by
  cases r <;> first | exact ZK.refl | exact zk_tou | (cases g <;> first | exact ZK.refl | exact zk_tou | exact ⟨rfl, rfl⟩)
theorem zk_wrong {en : Int} : ∀ (n : Nat) {a : Nat} {ms : MS} {rd : List Int} {mc : MC}, ZK mc (wrongM k en n a ms rd mc)
  | 0, _, _, _, _ => ZK.refl
  | n + 1, a, ms, rd, mc => by
    unfold wrongM
    split
    · split
      · exact ZK.refl
      · rename_i r hr
        have h2 : ZK mc (waitM r rd (fetchM k mc a)) := zk_fetch.trans zk_wait
        show ZK mc (if _ then _ else if _ then _ else _)
        split
        · exact h2
        · split
          · exact h2.trans (ZK.trans (mc' := { gueM (waitM r rd (fetchM k mc a)) a with ck := (waitM r rd (fetchM k mc a)).ck + 1 }) ⟨rfl, rfl⟩ (zk_wrong n))
          · have h3 : ZK (waitM r rd (fetchM k mc a)) { workC r ms true (waitM r rd (fetchM k mc a)) with ck := (waitM r rd (fetchM k mc a)).ck + 1 } := ⟨(zk_work (r := r) (ms := ms) (g := true)).d, (zk_work (r := r) (ms := ms) (g := true)).c⟩
            exact h2.trans (h3.trans (zk_wrong n))
    · exact ZK.refl
end
theorem zk_br {k : MK} {r : Row} {a p : Nat} {ms : MS} {rd : List Int} {mc : MC} : ZK mc (brM k r a p ms rd mc) := by
  unfold brM
  refine ZK.trans (mc' := (if gueV mc a = decide (¬ rgV ms p = 0) then ({ gueM mc a with ck := mc.ck + 1 } : MC) else
    (let m := wrongM k (mx mc.ck (rdAt rd p) + k.wrong) k.dep.toNat (aftM r a (gueV mc a)) ms rd { gueM mc a with ck := mc.ck + 1 }
    { m with ck := mx mc.ck (rdAt rd p) + k.wrong, tr := m.tr ++ [.back (mx mc.ck (rdAt rd p) + k.wrong) a] }))) ?_ ⟨rfl, rfl⟩
  split
  · exact ⟨rfl, rfl⟩
  · have z := zk_wrong (k := k) (en := mx mc.ck (rdAt rd p) + k.wrong) k.dep.toNat (a := aftM r a (gueV mc a)) (ms := ms) (rd := rd) (mc := { gueM mc a with ck := mc.ck + 1 })
    exact ⟨z.d, z.c⟩

/-! ### the shape of a trace -/
def Ev.tm : Ev → Int
  | .visit _ c _ _ => c
  | .fetch c _ _ => c
  | .data c _ _ => c
  | .out c _ => c
  | .guess c _ _ => c
  | .back c _ => c
  | .stop c => c
def isV : Ev → Bool
  | .visit _ _ _ _ => true
  | _ => false
def isF : Ev → Bool
  | .fetch _ _ _ => true
  | _ => false
/-- what may stand within a wrong way -/
def kW : Ev → Bool
  | .visit _ _ _ _ => true
  | .fetch _ _ _ => true
  | .data _ _ _ => true
  | .guess _ _ _ => true
  | _ => false
def ascT (tr : List Ev) : Prop := tr.Pairwise fun e f => e.tm ≤ f.tm
theorem mx_ge {c x : Int} : c ≤ mx c x := by
  unfold mx
  split <;> omega
theorem mxL_ge {rd l : List Int} {c : Int} : c ≤ mxL rd l c := (mxL_le.mp (Int.le_refl _)).1
section
variable {k : MK} {mc mc' mc2 : MC} {r : Row} {ms : MS} {rd : List Int} {a : Nat} {x : Int} {t g : Bool}
theorem go_tr : ∀ (l : List Vi) (mc : MC), ∃ vs, (goVis l mc).tr = mc.tr ++ vs ∧ (∀ e ∈ vs, isV e = true ∧ e.tm = mc.ck) ∧ (goVis l mc).ck = mc.ck
  | [], mc => ⟨[], by simp [goVis], by simp, rfl⟩
  | v :: l, mc => by
    rw [goVis_cons]
    split
    · obtain ⟨vs, h1, h2, h3⟩ := go_tr l { visM mc v with vi := mc.vi + 1 }
      refine ⟨.visit v.t mc.ck (v.a / (mc.dc.Z : Int)) (decide (hitV mc.dc v.a)) :: vs, ?_, ?_, h3⟩
      · rw [h1]
        show (mc.tr ++ [_]) ++ vs = _
        rw [List.append_assoc]
        rfl
      · intro e he
        rcases List.mem_cons.mp he with rfl | he
        · exact ⟨rfl, rfl⟩
        · exact h2 e he
    · exact ⟨[], by simp, by simp, rfl⟩
theorem fetch_tr (hm : 0 ≤ k.miss) : ∃ vs h, (fetchM k mc a).tr = mc.tr ++ (vs ++ [.fetch mc.ck ((a : Int) / (mc.fc.Z : Int)) h]) ∧ (∀ e ∈ vs, isV e = true ∧ e.tm = mc.ck) ∧ mc.ck ≤ (fetchM k mc a).ck := by
  obtain ⟨vs, h1, h2, h3⟩ := go_tr (k.vis.drop mc.vi) mc
  have hz := (zk_go (k.vis.drop mc.vi) (mc := mc)).c
  refine ⟨vs, decide (hitV (goVis (k.vis.drop mc.vi) mc).fc a), ?_, h2, ?_⟩
  · show (goVis (k.vis.drop mc.vi) mc).tr ++ [.fetch (goVis (k.vis.drop mc.vi) mc).ck ((a : Int) / ((goVis (k.vis.drop mc.vi) mc).fc.Z : Int)) _] = _
    rw [h1, h3, hz, List.append_assoc]
  · show mc.ck ≤ (if hitV (goVis (k.vis.drop mc.vi) mc).fc a then (goVis (k.vis.drop mc.vi) mc).ck else (goVis (k.vis.drop mc.vi) mc).ck + k.miss)
    rw [h3]
    split <;> omega
theorem work_tr : ∃ S, (workC r ms true mc).tr = mc.tr ++ S ∧ (∀ e ∈ S, kW e = true ∧ isF e = false ∧ e.tm = mc.ck) ∧ ascT S := by
  have z : ∃ S, mc.tr = mc.tr ++ S ∧ (∀ e ∈ S, kW e = true ∧ isF e = false ∧ e.tm = mc.ck) ∧ ascT S := ⟨[], (List.append_nil _).symm, fun e he => (by cases he), .nil⟩
  cases r with
  | load d x ba ma => exact ⟨[.data mc.ck _ _], rfl, fun e he => by rw [List.mem_singleton.mp he]; exact ⟨rfl, rfl, rfl⟩, List.pairwise_singleton _ _⟩
  | _ => exact z
/-- a piece of a trace: all within lo, hi -/
structure Pc (lo hi : Int) (S : List Ev) : Prop where
  k : ∀ e ∈ S, kW e = true
  t : ∀ e ∈ S, lo ≤ e.tm ∧ e.tm < hi
  a : ascT S
theorem Pc.nil {lo hi : Int} : Pc lo hi [] := ⟨by simp, by simp, .nil⟩
theorem Pc.app {lo mid hi : Int} {S R : List Ev} (h : Pc lo hi S) (g : Pc mid hi R) (hm : lo ≤ mid) (hs : ∀ e ∈ S, e.tm ≤ mid) : Pc lo hi (S ++ R) := ⟨fun e he => by
    rcases List.mem_append.mp he with he | he
    · exact h.k e he
    · exact g.k e he, fun e he => by
    rcases List.mem_append.mp he with he | he
    · exact h.t e he
    · have := g.t e he
      omega, by
    unfold ascT
    rw [List.pairwise_append]
    refine ⟨h.a, g.a, fun e he f hf => ?_⟩
    have := hs e he
    have := (g.t f hf).1
    omega⟩
theorem Pc.same {c hi : Int} {S : List Ev} (h : ∀ e ∈ S, kW e = true ∧ e.tm = c) (hc : c < hi) : Pc c hi S := ⟨fun e he => (h e he).1, fun e he => by
    have := (h e he).2
    omega, by
    unfold ascT
    refine List.pairwise_of_forall_mem_list fun e he f hf => ?_
    rw [(h e he).2, (h f hf).2]
    exact Int.le_refl _⟩
theorem fil_vis {vs : List Ev} (h : ∀ e ∈ vs, isV e = true ∧ e.tm = x) : vs.filter isF = [] := by
  rw [List.filter_eq_nil_iff]
  intro e he
  have := (h e he).1
  cases e <;> first | (cases this; done) | (simp [isF])
theorem wrong_tr (hm : 0 ≤ k.miss) {en : Int} : ∀ (n : Nat) {a : Nat} {ms : MS} {rd : List Int} {mc : MC}, ∃ way, (wrongM k en n a ms rd mc).tr = mc.tr ++ way ∧ Pc mc.ck en way ∧ (way.filter isF).length ≤ n ∧ (∀ f q, way.filter isF = f :: q → ∃ h, f = .fetch mc.ck ((a : Int) / (mc.fc.Z : Int)) h)
  | 0, _, _, _, mc => ⟨[], by simp [wrongM], .nil, by simp, by simp⟩
  | n + 1, a, ms, rd, mc => by
    by_cases hc : mc.ck < en
    · cases hr : k.rows[a]? with
      | none =>
        have e : wrongM k en (n + 1) a ms rd mc = mc := by
          show (if mc.ck < en then _ else mc) = _
          rw [if_pos hc]
          show (match k.rows[a]? with | none => mc | some r => _) = _
          rw [hr]
        rw [e]
        exact ⟨[], (List.append_nil _).symm, .nil, Nat.zero_le _, fun f q e => (by cases e)⟩
      | some r =>
        rw [wrongM_succ hr hc]
        obtain ⟨vs, h, h1, h2, h3⟩ := fetch_tr (k := k) (mc := mc) (a := a) hm
        have hw : (fetchM k mc a).ck ≤ (waitM r rd (fetchM k mc a)).ck := mxL_ge
        have ht : (waitM r rd (fetchM k mc a)).tr = mc.tr ++ (vs ++ [.fetch mc.ck ((a : Int) / (mc.fc.Z : Int)) h]) := h1
        have pc1 : Pc mc.ck en (vs ++ [.fetch mc.ck ((a : Int) / (mc.fc.Z : Int)) h]) := Pc.same (fun e he => by
          rcases List.mem_append.mp he with he | he
          · have := h2 e he
            refine ⟨?_, this.2⟩
            have := this.1
            cases e <;> first | (cases this; done) | rfl
          · rw [List.mem_singleton.mp he]
            exact ⟨rfl, rfl⟩) hc
        have tm1 : ∀ e ∈ vs ++ [.fetch mc.ck ((a : Int) / (mc.fc.Z : Int)) h], e.tm = mc.ck := fun e he => by
          rcases List.mem_append.mp he with he | he
          · exact (h2 e he).2
          · rw [List.mem_singleton.mp he]
            rfl
        have fl1 : (vs ++ [Ev.fetch mc.ck ((a : Int) / (mc.fc.Z : Int)) h]).filter isF = [.fetch mc.ck ((a : Int) / (mc.fc.Z : Int)) h] := by
          rw [List.filter_append, fil_vis h2]
          rfl
        generalize hmm : waitM r rd (fetchM k mc a) = mm at hw ht
        split
        · refine ⟨_, ht, pc1, by rw [fl1]; simp, ?_⟩
          rw [fl1]
          intro f q e
          cases e
          exact ⟨h, rfl⟩
        · rename_i hnot
          have hlt : mm.ck < en := by
            by_cases z : en ≤ mm.ck
            · exact absurd (.inl z) hnot
            · omega
          have key : ∀ (S : List Ev) (mc3 : MC), mc3.tr = mm.tr ++ S → mc3.ck = mm.ck + 1 → (∀ e ∈ S, kW e = true ∧ isF e = false ∧ e.tm = mm.ck) → ∀ (a' : Nat) (ms' : MS) (rd' : List Int), ∃ way, (wrongM k en n a' ms' rd' mc3).tr = mc.tr ++ way ∧ Pc mc.ck en way ∧ (way.filter isF).length ≤ n + 1 ∧ (∀ f q, way.filter isF = f :: q → ∃ h, f = .fetch mc.ck ((a : Int) / (mc.fc.Z : Int)) h) := by
            intro S mc3 e1 e2 e3 a' ms' rd'
            obtain ⟨way, g1, g2, g3, g4⟩ := wrong_tr hm (en := en) n (a := a') (ms := ms') (rd := rd') (mc := mc3)
            have pcS : Pc mm.ck en S := Pc.same (fun e he => ⟨(e3 e he).1, (e3 e he).2.2⟩) hlt
            have flS : S.filter isF = [] := by
              rw [List.filter_eq_nil_iff]
              intro e he
              rw [(e3 e he).2.1]
              exact Bool.false_ne_true
            have ff : ((vs ++ [Ev.fetch mc.ck ((a : Int) / (mc.fc.Z : Int)) h]) ++ (S ++ way)).filter isF = [Ev.fetch mc.ck ((a : Int) / (mc.fc.Z : Int)) h] ++ way.filter isF := by
              rw [List.filter_append (vs ++ [Ev.fetch mc.ck ((a : Int) / (mc.fc.Z : Int)) h]), fl1, List.filter_append, flS, List.nil_append]
            refine ⟨(vs ++ [.fetch mc.ck ((a : Int) / (mc.fc.Z : Int)) h]) ++ (S ++ way), ?_, ?_, ?_, ?_⟩
            · rw [g1, e1, ht]
              simp only [List.append_assoc]
            · have pcW : Pc (mm.ck + 1) en way := by
                rw [e2] at g2
                exact g2
              exact pc1.app (mid := mm.ck) (pcS.app (mid := mm.ck + 1) pcW (by omega) (fun e he => by have := (e3 e he).2.2; omega)) (by omega) (fun e he => by have := tm1 e he; omega)
            · rw [ff, List.length_append, List.length_singleton]
              omega
            · rw [ff]
              intro f q e
              cases e
              exact ⟨h, rfl⟩
          split
          · exact key [.guess mm.ck a (gueV mm a)] { gueM mm a with ck := mm.ck + 1 } rfl rfl (fun e he => by
              rw [List.mem_singleton.mp he]
              exact ⟨rfl, rfl, rfl⟩) _ _ _
          · obtain ⟨S, w1, w2, w3⟩ := work_tr (r := r) (ms := ms) (mc := mm)
            exact key S { workC r ms true mm with ck := mm.ck + 1 } w1 rfl w2 _ _ _
    · rw [wrongM_end hc]
      exact ⟨[], (List.append_nil _).symm, .nil, Nat.zero_le _, fun f q e => (by cases e)⟩
end
/-- a wrong way as the law looks at it -/
structure WayOk (t : Sett) (c first en : Int) (way : List Ev) : Prop where
  p : ∀ e ∈ way, kW e = true ∧ e.tm < en
  n : ((way.filter isF).length : Int) ≤ t.dep
  f : ∀ f q, way.filter isF = f :: q → ∃ h, f = .fetch (c + 1) (first / (t.fc.Z : Int)) h
  e : c + t.wrong ≤ en
/-- the events of a row behind its fetch -/
inductive StepOk (t : Sett) (a : Nat) (ms : MS) : Row → List Ev → Prop
  | load (d x : Nat) (ba ma c : Int) (h : Bool) : StepOk t a ms (.load d x ba ma) [.data c (adr ms x ba ma / (t.dc.Z : Int)) h]
  | store (x y : Nat) (ba ma c : Int) (h : Bool) : StepOk t a ms (.store x ba ma y) [.data c (adr ms x ba ma / (t.dc.Z : Int)) h]
  | out (x : Nat) (c : Int) : StepOk t a ms (.out x) [.out c (rgV ms x)]
  | const (d : Nat) (n : Int) : StepOk t a ms (.const d n) []
  | op (s : Sg) (d x y : Nat) : StepOk t a ms (.op s d x y) []
  | select (d c x y : Nat) : StepOk t a ms (.select d c x y) []
  | jump (x : Nat) : StepOk t a ms (.jump x) []
  | right (p x : Nat) (c : Int) : StepOk t a ms (.branch p x) [.guess c a (decide (¬ rgV ms p = 0))]
  | wrong (p x : Nat) (c en : Int) (g : Bool) (way : List Ev) (hg : ¬ g = decide (¬ rgV ms p = 0)) (w : WayOk t c (aftM (.branch p x) a g : Nat) en way) : StepOk t a ms (.branch p x) ([.guess c a g] ++ (way ++ [.back en a]))
def Follow (t : Sett) (rows : List Row) : Nat → Nat → MS → List Ev → List Ev → Prop
  | 0, _, _, A, tr => tr = A
  | n + 1, a, ms, A, tr => ∃ r vs c h, rows[a]? = some r ∧ (∀ e ∈ vs, isV e = true) ∧ ((∃ p c2, r = .stop p ∧ tr = (A ++ (vs ++ [.fetch c ((a : Int) / (t.fc.Z : Int)) h])) ++ [.stop c2]) ∨
      (isStop r = false ∧ ∃ S, StepOk t a ms r S ∧ Follow t rows n (nextAt (doRow ms r) a r) (doRow ms r) ((A ++ (vs ++ [.fetch c ((a : Int) / (t.fc.Z : Int)) h])) ++ S) tr))
theorem Follow.ext {t : Sett} {rows : List Row} : ∀ (n : Nat) {a : Nat} {ms : MS} {A tr : List Ev}, Follow t rows n a ms A tr → ∃ R, tr = A ++ R
  | 0, _, _, _, _, h => ⟨[], by rw [List.append_nil]; exact h⟩
  | n + 1, a, ms, A, tr, ⟨r, vs, c, h, _, _, z⟩ => by
    rcases z with ⟨p, c2, _, e⟩ | ⟨_, S, _, f⟩
    · exact ⟨(vs ++ [.fetch c ((a : Int) / (t.fc.Z : Int)) h]) ++ [.stop c2], by rw [e, List.append_assoc]⟩
    · obtain ⟨R, e⟩ := Follow.ext n f
      exact ⟨(vs ++ [.fetch c ((a : Int) / (t.fc.Z : Int)) h]) ++ (S ++ R), by rw [e]; simp only [List.append_assoc]⟩
/-- times rise, none is behind the clock -/
structure Asc (mc : MC) : Prop where
  a : ascT mc.tr
  t : ∀ e ∈ mc.tr, e.tm ≤ mc.ck
theorem Asc.add {mc mc' : MC} {S : List Ev} (h : Asc mc) (e : mc'.tr = mc.tr ++ S) (hs : ∀ f ∈ S, mc.ck ≤ f.tm ∧ f.tm ≤ mc'.ck) (ha : ascT S) (hc : mc.ck ≤ mc'.ck) : Asc mc' := ⟨by
    unfold ascT
    rw [e, List.pairwise_append]
    refine ⟨h.a, ha, fun f hf g hg => ?_⟩
    have := h.t f hf
    have := (hs g hg).1
    omega, fun f hf => by
    rw [e] at hf
    rcases List.mem_append.mp hf with hf | hf
    · have := h.t f hf
      omega
    · exact (hs f hf).2⟩
theorem Asc.one {mc mc' : MC} {f : Ev} (h : Asc mc) (e : mc'.tr = mc.tr ++ [f]) (h1 : mc.ck ≤ f.tm) (h2 : f.tm ≤ mc'.ck) : Asc mc' := h.add e (fun g hg => by
    rw [List.mem_singleton.mp hg]
    exact ⟨h1, h2⟩) (List.pairwise_singleton _ _) (by omega)
theorem Asc.ck {mc mc' : MC} (h : Asc mc) (e : mc'.tr = mc.tr) (hc : mc.ck ≤ mc'.ck) : Asc mc' := ⟨by rw [e]; exact h.a, fun f hf => by
    rw [e] at hf
    have := h.t f hf
    omega⟩
theorem br_step {t : Sett} {rows : List Row} {a p x : Nat} {ms : MS} {rd : List Int} {mc : MC} (se : SeDr t) (hz : mc.fc.Z = t.fc.Z) : ∃ S, (brM (kOf t rows) (.branch p x) a p ms rd mc).tr = mc.tr ++ S ∧ StepOk t a ms (.branch p x) S ∧ ZK mc (brM (kOf t rows) (.branch p x) a p ms rd mc) ∧ (Asc mc → Asc (brM (kOf t rows) (.branch p x) a p ms rd mc)) := by
  have hm : 0 ≤ (kOf t rows).miss := se.m0
  have w0 : 1 ≤ (kOf t rows).wrong := se.w0
  have d0 : 0 ≤ (kOf t rows).dep := se.d0
  have hge : mc.ck ≤ mx mc.ck (rdAt rd p) := mx_ge
  by_cases hg : gueV mc a = decide (¬ rgV ms p = 0)
  · have e : brM (kOf t rows) (.branch p x) a p ms rd mc = lrnM { gueM mc a with ck := mc.ck + 1 } a (decide (¬ rgV ms p = 0)) := by
      unfold brM
      show lrnM (if gueV mc a = decide (¬ rgV ms p = 0) then _ else _) _ _ = _
      rw [if_pos hg]
    rw [e]
    refine ⟨[.guess mc.ck a (decide (¬ rgV ms p = 0))], ?_, .right p x mc.ck, ⟨rfl, rfl⟩, fun h => ?_⟩
    · rw [← hg]
      rfl
    · exact h.one (f := .guess mc.ck a (gueV mc a)) rfl (Int.le_refl _) (by show mc.ck ≤ mc.ck + 1; omega)
  · have e : brM (kOf t rows) (.branch p x) a p ms rd mc = lrnM { wrongM (kOf t rows) (mx mc.ck (rdAt rd p) + (kOf t rows).wrong) (kOf t rows).dep.toNat (aftM (.branch p x) a (gueV mc a)) ms rd { gueM mc a with ck := mc.ck + 1 } with ck := mx mc.ck (rdAt rd p) + (kOf t rows).wrong, tr := (wrongM (kOf t rows) (mx mc.ck (rdAt rd p) + (kOf t rows).wrong) (kOf t rows).dep.toNat (aftM (.branch p x) a (gueV mc a)) ms rd { gueM mc a with ck := mc.ck + 1 }).tr ++ [.back (mx mc.ck (rdAt rd p) + (kOf t rows).wrong) a] } a (decide (¬ rgV ms p = 0)) := by
      unfold brM
      show lrnM (if gueV mc a = decide (¬ rgV ms p = 0) then _ else _) _ _ = _
      rw [if_neg hg]
    rw [e]
    generalize hen : mx mc.ck (rdAt rd p) + (kOf t rows).wrong = en
    obtain ⟨way, h1, h2, h3, h4⟩ := wrong_tr (k := kOf t rows) hm (en := en) (kOf t rows).dep.toNat (a := aftM (.branch p x) a (gueV mc a)) (ms := ms) (rd := rd) (mc := { gueM mc a with ck := mc.ck + 1 })
    have hz2 := zk_wrong (k := kOf t rows) (en := en) (kOf t rows).dep.toNat (a := aftM (.branch p x) a (gueV mc a)) (ms := ms) (rd := rd) (mc := { gueM mc a with ck := mc.ck + 1 })
    generalize wrongM (kOf t rows) en (kOf t rows).dep.toNat (aftM (.branch p x) a (gueV mc a)) ms rd { gueM mc a with ck := mc.ck + 1 } = wm at h1 hz2
    have h1 : wm.tr = (mc.tr ++ [.guess mc.ck a (gueV mc a)]) ++ way := h1
    refine ⟨[.guess mc.ck a (gueV mc a)] ++ (way ++ [.back en a]), ?_, .wrong p x mc.ck en (gueV mc a) way hg ⟨fun f hf => ⟨h2.k f hf, (h2.t f hf).2⟩, ?_, fun f q e => ?_, ?_⟩, ⟨hz2.d, hz2.c⟩, fun h => ?_⟩
    · show wm.tr ++ [.back en a] = _
      rw [h1]
      simp only [List.append_assoc]
    · have : (kOf t rows).dep = t.dep := rfl
      omega
    · obtain ⟨h, e⟩ := h4 f q e
      refine ⟨h, ?_⟩
      rw [e]
      show Ev.fetch (mc.ck + 1) ((aftM (.branch p x) a (gueV mc a) : Nat) / (mc.fc.Z : Int)) h = _
      rw [hz]
    · have : (kOf t rows).wrong = t.wrong := rfl
      omega
    · have A1 : Asc { gueM mc a with ck := mc.ck + 1 } := h.one (f := .guess mc.ck a (gueV mc a)) rfl (Int.le_refl _) (by show mc.ck ≤ mc.ck + 1; omega)
      have A2 : Asc { wm with ck := en } := A1.add (S := way) h1 (fun f hf => by
        have := h2.t f hf
        have e1 : (({ gueM mc a with ck := mc.ck + 1 } : MC)).ck = mc.ck + 1 := rfl
        constructor
        · exact this.1
        · show f.tm ≤ en
          omega) h2.a (by show mc.ck + 1 ≤ en; omega)
      exact A2.one (mc' := lrnM { wm with ck := en, tr := wm.tr ++ [.back en a] } a (decide (¬ rgV ms p = 0))) (f := .back en a) rfl (Int.le_refl _) (Int.le_refl _)
theorem work_step {t : Sett} {a : Nat} {r : Row} {ms : MS} {mc : MC} (hw : wrkR r = true) (hz : mc.dc.Z = t.dc.Z) : ∃ S, (workC r ms false mc).tr = mc.tr ++ S ∧ StepOk t a ms r S ∧ (Asc mc → Asc { workC r ms false mc with ck := mc.ck + 1 }) := by
  cases r with
  | const d n => exact ⟨[], by simp [workC], .const d n, fun h => h.ck rfl (by show mc.ck ≤ mc.ck + 1; omega)⟩
  | op s d x y => exact ⟨[], by simp [workC], .op s d x y, fun h => h.ck rfl (by show mc.ck ≤ mc.ck + 1; omega)⟩
  | select d c x y => exact ⟨[], by simp [workC], .select d c x y, fun h => h.ck rfl (by show mc.ck ≤ mc.ck + 1; omega)⟩
  | jump x => exact ⟨[], by simp [workC], .jump x, fun h => h.ck rfl (by show mc.ck ≤ mc.ck + 1; omega)⟩
  | load d x ba ma =>
    refine ⟨[.data mc.ck (adr ms x ba ma / (t.dc.Z : Int)) (decide (hitV mc.dc (adr ms x ba ma)))], ?_, .load d x ba ma _ _, fun h => h.one (f := .data mc.ck (adr ms x ba ma / (mc.dc.Z : Int)) (decide (hitV mc.dc (adr ms x ba ma)))) rfl (Int.le_refl _) (by show mc.ck ≤ mc.ck + 1; omega)⟩
    rw [← hz]
    rfl
  | store x ba ma y =>
    refine ⟨[.data mc.ck (adr ms x ba ma / (t.dc.Z : Int)) (decide (hitV mc.dc (adr ms x ba ma)))], ?_, .store x y ba ma _ _, fun h => h.one (f := .data mc.ck (adr ms x ba ma / (mc.dc.Z : Int)) (decide (hitV mc.dc (adr ms x ba ma)))) rfl (Int.le_refl _) (by show mc.ck ≤ mc.ck + 1; omega)⟩
    rw [← hz]
    rfl
  | out x => exact ⟨[.out mc.ck (rgV ms x)], rfl, .out x _, fun h => h.one (f := .out mc.ck (rgV ms x)) rfl (Int.le_refl _) (by show mc.ck ≤ mc.ck + 1; omega)⟩
  | branch p x => cases hw
  | stop p => cases hw
theorem asc_fetch {t : Sett} {rows : List Row} {a : Nat} {mc : MC} (se : SeDr t) (h : Asc mc) : Asc (fetchM (kOf t rows) mc a) := by
  obtain ⟨vs, h', h1, h2, h3⟩ := fetch_tr (k := kOf t rows) (mc := mc) (a := a) se.m0
  have all : ∀ f ∈ vs ++ [Ev.fetch mc.ck ((a : Int) / (mc.fc.Z : Int)) h'], f.tm = mc.ck := fun f hf => by
    rcases List.mem_append.mp hf with hf | hf
    · exact (h2 f hf).2
    · rw [List.mem_singleton.mp hf]
      rfl
  refine h.add h1 (fun f hf => ?_) ?_ h3
  · rw [all f hf]
    exact ⟨Int.le_refl _, h3⟩
  · refine List.pairwise_of_forall_mem_list fun e he f hf => ?_
    rw [all e he, all f hf]
    exact Int.le_refl _
theorem run_follow {t : Sett} {rows : List Row} (se : SeDr t) (co : CodeOk rows) : ∀ (n a : Nat) (ms : MS) (rd : List Int) (mc : MC), a < rows.length → mc.dc.Z = t.dc.Z → mc.fc.Z = t.fc.Z → Asc mc → Follow t rows n a ms mc.tr (runMM (kOf t rows) n a ms rd mc).2.2.tr ∧ Asc (runMM (kOf t rows) n a ms rd mc).2.2
  | 0, _, _, _, _, _, _, _, h => ⟨rfl, h⟩
  | n + 1, a, ms, rd, mc, ha, z1, z2, h => by
    have hra : (kOf t rows).rows[a]? = some rows[a] := List.getElem?_eq_getElem ha
    have hra2 : rows[a]? = some rows[a] := hra
    generalize rows[a] = r at hra hra2
    have hr := co.r a r hra2
    obtain ⟨vs, h', h1, h2, h3⟩ := fetch_tr (k := kOf t rows) (mc := mc) (a := a) se.m0
    rw [z2] at h1
    have zf := (zk_fetch (k := kOf t rows) (mc := mc) (a := a)).trans (zk_wait (r := r) (rd := rd))
    have A1 : Asc (waitM r rd (fetchM (kOf t rows) mc a)) := (asc_fetch se h).ck rfl mxL_ge
    have e1 : (waitM r rd (fetchM (kOf t rows) mc a)).tr = mc.tr ++ (vs ++ [.fetch mc.ck ((a : Int) / (t.fc.Z : Int)) h']) := h1
    have hv : ∀ e ∈ vs, isV e = true := fun e he => (h2 e he).1
    have z1' := zf.d.trans z1
    have z2' := zf.c.trans z2
    rcases row_kinds r with ⟨p, rfl⟩ | ⟨p, x, rfl⟩ | ⟨k1, k2, k3⟩
    · rw [run_stop hra]
      generalize waitM (.stop p) rd (fetchM (kOf t rows) mc a) = mm at A1 e1
      refine ⟨⟨_, vs, mc.ck, h', hra2, hv, .inl ⟨p, mm.ck, rfl, ?_⟩⟩, A1.one (f := .stop mm.ck) rfl (Int.le_refl _) (Int.le_refl _)⟩
      show mm.tr ++ [.stop mm.ck] = _
      rw [e1]
    · rw [run_br hra]
      generalize waitM (.branch p x) rd (fetchM (kOf t rows) mc a) = mm at A1 e1 z1' z2'
      obtain ⟨S, b1, b2, b3, b4⟩ := br_step (rows := rows) (a := a) (p := p) (x := x) (ms := ms) (rd := rd) se z2'
      have na : nextAt ms a (.branch p x) < rows.length := next_lt hr (fun _ e => nomatch e)
      rw [aft_br]
      obtain ⟨f1, f2⟩ := run_follow se co n (nextAt ms a (.branch p x)) ms rd (brM (kOf t rows) (.branch p x) a p ms rd mm) na (b3.d.trans z1') (b3.c.trans z2') (b4 A1)
      refine ⟨⟨_, vs, mc.ck, h', hra2, hv, .inr ⟨rfl, S, b2, ?_⟩⟩, f2⟩
      rw [b1, e1] at f1
      exact f1
    · rw [run_wk hra k1]
      generalize waitM r rd (fetchM (kOf t rows) mc a) = mm at A1 e1 z1' z2'
      obtain ⟨S, b1, b2, b4⟩ := work_step (t := t) (a := a) (ms := ms) k1 z1'
      have zw := zk_work (r := r) (ms := ms) (g := false) (mc := mm)
      have na : nextAt (doRow ms r) a r < rows.length := next_lt hr (fun _ e => by subst e; cases k2)
      rw [work_do, aft_next (ms := ms) k1]
      obtain ⟨f1, f2⟩ := run_follow se co n (nextAt (doRow ms r) a r) (doRow ms r) (workR (kOf t rows) r ms rd mm) { workC r ms false mm with ck := mm.ck + 1 } na (zw.d.trans z1') (zw.c.trans z2') (b4 A1)
      refine ⟨⟨_, vs, mc.ck, h', hra2, hv, .inr ⟨k2, S, b2, ?_⟩⟩, f2⟩
      have f1 : Follow t rows n (nextAt (doRow ms r) a r) (doRow ms r) (workC r ms false mm).tr _ := f1
      rw [b1, e1] at f1
      exact f1
theorem pre_zk (mc : MC) (q : Pp) : ZK mc (preM mc q) := by
  cases q <;> exact ⟨rfl, rfl⟩
theorem pres_zk : ∀ (l : List Pp) (mc : MC), ZK mc (l.foldl preM mc)
  | [], mc => ZK.refl
  | q :: l, mc => (pre_zk mc q).trans (pres_zk l _)
theorem mach_follow {t : Sett} {rows : List Row} {rgs : List Rg} {cs : List (List Int)} {n : Nat} (se : SeDr t) (co : CodeOk rows) : Follow t rows n 0 (ms0 rgs cs) [] (machR t rows rgs cs n).2.2.tr ∧ ascT (machR t rows rgs cs n).2.2.tr := by
  obtain ⟨_, _, _, htr⟩ := pres_keep t.bef (mc00 t)
  have htr : (mc0 t).tr = [] := htr
  have z := pres_zk t.bef (mc00 t)
  have A0 : Asc (mc0 t) := ⟨by rw [htr]; exact .nil, by rw [htr]; simp⟩
  obtain ⟨f1, f2⟩ := run_follow se co n 0 (ms0 rgs cs) (List.replicate 16 0) (mc0 t) co.l z.d z.c A0
  rw [htr] at f1
  exact ⟨f1, f2.a⟩


/-! ### a cache looks at lines only -/
section
variable {c : CSt} {x y : Int}
theorem nm_ln (h : lnO c x = lnO c y) : nmO c x = nmO c y := by
  unfold nmO
  rw [h]
theorem hit_ln (h : lnO c x = lnO c y) : hitV c x ↔ hitV c y := by
  unfold hitV
  rw [h, nm_ln h]
theorem pl_ln (h : lnO c x = lnO c y) : plO c x = plO c y := by
  unfold plO
  simp only [hit_ln h, h, nm_ln h]
theorem tc_ln (h : lnO c x = lnO c y) : tcV c x = tcV c y := by
  unfold tcV
  simp only [hit_ln h, h, nm_ln h, pl_ln h]
theorem dp_ln (h : lnO c x = lnO c y) : dpV c x = dpV c y := by
  unfold dpV
  simp only [hit_ln h, h, nm_ln h]
theorem ln_mul (hz : 0 < c.Z) : lnO c (x / (c.Z : Int) * (c.Z : Int)) = lnO c x := by
  unfold lnO
  exact Int.mul_ediv_cancel _ (by omega)
end

/-! ### two runs that look alike -/
/-- what one row shows of two states, and where they go -/
structure NiOk (k : MK) (Z : Nat) (R : Nat → MS → MS → Prop) : Prop where
  ld : ∀ {a d x base mask m1 m2}, k.rows[a]? = some (.load d x base mask) → R a m1 m2 → adr m1 x base mask / (Z : Int) = adr m2 x base mask / (Z : Int)
  st : ∀ {a x y base mask m1 m2}, k.rows[a]? = some (.store x base mask y) → R a m1 m2 → adr m1 x base mask / (Z : Int) = adr m2 x base mask / (Z : Int)
  ou : ∀ {a x m1 m2}, k.rows[a]? = some (.out x) → R a m1 m2 → rgV m1 x = rgV m2 x
  br : ∀ {a p t m1 m2}, k.rows[a]? = some (.branch p t) → R a m1 m2 → (rgV m1 p = 0 ↔ rgV m2 p = 0)
  op : ∀ {a s d x y m1 m2}, k.rows[a]? = some (.op s d x y) → R a m1 m2 → costS s (rgV m1 x) (rgV m1 y) = costS s (rgV m2 x) (rgV m2 y)
  go : ∀ {a r m1 m2} (g : Bool) (t : Bool), k.rows[a]? = some r → isStop r = false → R a m1 m2 → R (aftM r a t) (workS r m1 g) (workS r m2 g)
section
variable {k : MK} {Z : Nat} {R : Nat → MS → MS → Prop} {a : Nat} {r : Row} {m1 m2 : MS} {rd : List Int} {mc : MC} {x y : Int} {g : Bool}
theorem tou_eq (hz : 0 < mc.dc.Z) (h : x / (mc.dc.Z : Int) = y / (mc.dc.Z : Int)) : touM mc x = touM mc y ∧ touC k mc x = touC k mc y := by
  have e : lnO mc.dc x = lnO mc.dc y := h
  unfold touM touC
  simp only [tc_ln e, hit_ln e, h]
  exact ⟨trivial, trivial⟩
theorem ni_work (N : NiOk k Z R) (hz : mc.dc.Z = Z) (h0 : 0 < Z) (hr : k.rows[a]? = some r) (h : R a m1 m2) : workC r m1 g mc = workC r m2 g mc ∧ workR k r m1 rd mc = workR k r m2 rd mc := by
  cases r with
  | load d x base mask =>
    have e := N.ld hr h
    rw [← hz] at e
    obtain ⟨e1, e2⟩ := tou_eq (k := k) (mc := mc) (by omega) e
    exact ⟨e1, by show rd.set d (mc.ck + (2 + touC k mc _)) = rd.set d (mc.ck + (2 + touC k mc _)); rw [e2]⟩
  | store x base mask y =>
    have e := N.st hr h
    rw [← hz] at e
    obtain ⟨e1, e2⟩ := tou_eq (k := k) (mc := mc) (by omega) e
    refine ⟨?_, rfl⟩
    show (if g = true then mc else touM mc _) = if g = true then mc else touM mc _
    rw [e1]
  | out x =>
    refine ⟨?_, rfl⟩
    show (if g = true then mc else _) = if g = true then mc else _
    rw [N.ou hr h]
  | op s d x y =>
    refine ⟨rfl, ?_⟩
    show rd.set d (mc.ck + costS s _ _) = rd.set d (mc.ck + costS s _ _)
    rw [N.op hr h]
  | _ => exact ⟨rfl, rfl⟩
theorem work_br {r : Row} (h : isBr r = true) (ms : MS) : workS r ms g = ms := by
  cases r <;> first | (cases h; done) | (cases g <;> rfl)
theorem ni_wrong (N : NiOk k Z R) (h0 : 0 < Z) {en : Int} : ∀ (n a : Nat) (m1 m2 : MS) (rd : List Int) (mc : MC), mc.dc.Z = Z → R a m1 m2 → wrongM k en n a m1 rd mc = wrongM k en n a m2 rd mc
  | 0, _, _, _, _, _, _, _ => rfl
  | n + 1, a, m1, m2, rd, mc, hz, h => by
    by_cases hc : mc.ck < en
    · cases hr : k.rows[a]? with
      | none =>
        show (if mc.ck < en then (match k.rows[a]? with | none => mc | some r => _) else mc) = (if mc.ck < en then (match k.rows[a]? with | none => mc | some r => _) else mc)
        rw [if_pos hc, if_pos hc, hr]
      | some r =>
        rw [wrongM_succ hr hc, wrongM_succ hr hc]
        have zz := (zk_fetch (k := k) (mc := mc) (a := a)).trans (zk_wait (r := r) (rd := rd))
        generalize waitM r rd (fetchM k mc a) = mm at zz
        have hz2 : mm.dc.Z = Z := zz.d.trans hz
        split
        · rfl
        · rename_i hns
          have hs : isStop r = false := by
            cases e : isStop r with
            | false => rfl
            | true => exact absurd (.inr e) hns
          split
          · rename_i hb
            have hg := N.go true (gueV mm a) hr hs h
            rw [work_br hb, work_br hb] at hg
            exact ni_wrong N h0 n _ m1 m2 rd _ hz2 hg
          · have hg := N.go true false hr hs h
            obtain ⟨e1, e2⟩ := ni_work (g := true) (rd := rd) N hz2 h0 hr h
            rw [e1, e2]
            refine ni_wrong N h0 n _ _ _ _ _ ?_ hg
            show (workC r m2 true mm).dc.Z = Z
            rw [(zk_work (r := r) (ms := m2) (g := true) (mc := mm)).d]
            exact hz2
    · rw [wrongM_end hc, wrongM_end hc]
theorem ni_br (N : NiOk k Z R) (h0 : 0 < Z) {p t : Nat} (hz : mc.dc.Z = Z) (hr : k.rows[a]? = some (.branch p t)) (h : R a m1 m2) : brM k (.branch p t) a p m1 rd mc = brM k (.branch p t) a p m2 rd mc ∧ decide (¬ rgV m1 p = 0) = decide (¬ rgV m2 p = 0) := by
  have e : decide (¬ rgV m1 p = 0) = decide (¬ rgV m2 p = 0) := by
    have := N.br hr h
    rw [Bool.eq_iff_iff, decide_eq_true_eq, decide_eq_true_eq]
    exact not_congr this
  refine ⟨?_, e⟩
  have hg := N.go true (gueV mc a) hr rfl h
  rw [work_br rfl, work_br rfl] at hg
  have hw : ∀ en, wrongM k en k.dep.toNat (aftM (.branch p t) a (gueV mc a)) m1 rd { gueM mc a with ck := mc.ck + 1 } = wrongM k en k.dep.toNat (aftM (.branch p t) a (gueV mc a)) m2 rd { gueM mc a with ck := mc.ck + 1 } := fun en => ni_wrong N h0 (en := en) k.dep.toNat _ m1 m2 rd { gueM mc a with ck := mc.ck + 1 } hz hg
  unfold brM
  simp only [e, hw]
theorem ni_run (N : NiOk k Z R) (h0 : 0 < Z) : ∀ (n a : Nat) (m1 m2 : MS) (rd : List Int) (mc : MC), mc.dc.Z = Z → R a m1 m2 → (runMM k n a m1 rd mc).2.2 = (runMM k n a m2 rd mc).2.2 ∧ (runMM k n a m1 rd mc).1.isSome = (runMM k n a m2 rd mc).1.isSome ∧ ∃ a', R a' (runMM k n a m1 rd mc).2.1 (runMM k n a m2 rd mc).2.1
  | 0, a, _, _, _, _, _, h => ⟨rfl, rfl, a, h⟩
  | n + 1, a, m1, m2, rd, mc, hz, h => by
    cases hr : k.rows[a]? with
    | none =>
      rw [run_none hr, run_none hr]
      exact ⟨rfl, rfl, a, h⟩
    | some r =>
      have zz := (zk_fetch (k := k) (mc := mc) (a := a)).trans (zk_wait (r := r) (rd := rd))
      have hz2 : (waitM r rd (fetchM k mc a)).dc.Z = Z := zz.d.trans hz
      rcases row_kinds r with ⟨p, rfl⟩ | ⟨p, t, rfl⟩ | ⟨k1, k2, k3⟩
      · rw [run_stop hr, run_stop hr]
        exact ⟨rfl, rfl, a, h⟩
      · rw [run_br hr, run_br hr]
        obtain ⟨e1, e2⟩ := ni_br (rd := rd) N h0 hz2 hr h
        have hg := N.go false (decide (¬ rgV m2 p = 0)) hr rfl h
        rw [work_br rfl, work_br rfl] at hg
        rw [e1, e2]
        refine ni_run N h0 n _ m1 m2 rd _ ?_ hg
        obtain ⟨Wz⟩ : Nonempty (ZK (waitM (.branch p t) rd (fetchM k mc a)) (brM k (.branch p t) a p m2 rd (waitM (.branch p t) rd (fetchM k mc a)))) := ⟨zk_br⟩
        exact Wz.d.trans hz2
      · rw [run_wk hr k1, run_wk hr k1]
        obtain ⟨e1, e2⟩ := ni_work (g := false) (rd := rd) N hz2 h0 hr h
        have hg := N.go false false hr k2 h
        rw [e1, e2]
        refine ni_run N h0 n _ _ _ _ _ ?_ hg
        show (workC r m2 false _).dc.Z = Z
        rw [(zk_work (r := r) (ms := m2) (g := false)).d]
        exact hz2
end

/-! ### events as data: == is sameness -/
def unE : PyData → Option Ev
  | .tuple [.str k, .int c, .int l, .bool f] => if k = "touch" then some (.visit true c l f) else if k = "drop" then some (.visit false c l f) else if k = "fetch" then some (.fetch c l f) else if k = "data" then some (.data c l f) else some (.guess c l.toNat f)
  | .tuple [.str k, .int c, .int x] => if k = "out" then some (.out c x) else some (.back c x.toNat)
  | .tuple [.str _, .int c] => some (.stop c)
  | _ => none
theorem unE_d (e : Ev) : unE e.d = some e := by
  have n1 : ¬ ("drop" : Str) = "touch" := by decide +kernel
  have n2 : ¬ ("fetch" : Str) = "touch" := by decide +kernel
  have n3 : ¬ ("fetch" : Str) = "drop" := by decide +kernel
  have n4 : ¬ ("data" : Str) = "touch" := by decide +kernel
  have n5 : ¬ ("data" : Str) = "drop" := by decide +kernel
  have n6 : ¬ ("data" : Str) = "fetch" := by decide +kernel
  have n7 : ¬ ("guess" : Str) = "touch" := by decide +kernel
  have n8 : ¬ ("guess" : Str) = "drop" := by decide +kernel
  have n9 : ¬ ("guess" : Str) = "fetch" := by decide +kernel
  have m1 : ¬ ("guess" : Str) = "data" := by decide +kernel
  have m2 : ¬ ("back" : Str) = "out" := by decide +kernel
  cases e with
  | visit t c l f =>
    cases t with
    | true => simp [unE, Ev.d, tdS]
    | false => simp [unE, Ev.d, tdS, n1]
  | fetch c l f => simp [unE, Ev.d, n2, n3]
  | data c l f => simp [unE, Ev.d, n4, n5, n6]
  | guess c a f => simp [unE, Ev.d, n7, n8, n9, m1]
  | out c x => simp [unE, Ev.d]
  | back c a => simp [unE, Ev.d, m2]
  | stop c => rfl
theorem Ev.d_inj {e f : Ev} (h : e.d = f.d) : e = f := by
  have := unE_d e
  rw [h, unE_d f] at this
  exact (Option.some.inj this).symm
theorem map_d_inj : ∀ {l m : List Ev}, l.map Ev.d = m.map Ev.d → l = m
  | [], [], _ => rfl
  | [], _ :: _, h => by cases h
  | _ :: _, [], h => by cases h
  | e :: l, f :: m, h => by
    rw [List.map_cons, List.map_cons] at h
    injection h with h1 h2
    rw [Ev.d_inj h1, map_d_inj h2]
/-- items of an event behind its kind -/
inductive RKe : List PyData → Prop
  | z (t : Int) : RKe [.int t]
  | o (t x : Int) : RKe [.int t, .int x]
  | t (t x : Int) (b : Bool) : RKe [.int t, .int x, .bool b]
theorem rke_eq {r r' : List PyData} (h : RKe r) (g : RKe r') (e : PyData.eqvAll r r' = true) : r = r' := by
  cases h with
  | z a =>
    cases g with
    | z b => simp only [PyData.eqvAll, PyData.eqv, Bool.and_true, beq_iff_eq] at e; rw [e]
    | o b y => simp [PyData.eqvAll, PyData.eqv] at e
    | t b y c => simp [PyData.eqvAll, PyData.eqv] at e
  | o a x =>
    cases g with
    | z b => simp [PyData.eqvAll, PyData.eqv] at e
    | o b y => simp only [PyData.eqvAll, PyData.eqv, Bool.and_true, Bool.and_eq_true, beq_iff_eq] at e; rw [e.1, e.2]
    | t b y c => simp [PyData.eqvAll, PyData.eqv] at e
  | t a x p =>
    cases g with
    | z b => simp [PyData.eqvAll, PyData.eqv] at e
    | o b y => simp [PyData.eqvAll, PyData.eqv] at e
    | t b y c => simp only [PyData.eqvAll, PyData.eqv, Bool.and_true, Bool.and_eq_true, beq_iff_eq] at e; rw [e.1, e.2.1, e.2.2]
theorem ev_rk (e : Ev) : ∃ (k : Str) (r : List PyData), e.d = .tuple (.str k :: r) ∧ PyData.strOk k = true ∧ RKe r := by
  cases e with
  | visit t c l f => exact ⟨tdS t, _, rfl, by cases t <;> decide +kernel, .t c l f⟩
  | fetch c l f => exact ⟨_, _, rfl, by decide +kernel, .t c l f⟩
  | data c l f => exact ⟨_, _, rfl, by decide +kernel, .t c l f⟩
  | out c x => exact ⟨_, _, rfl, by decide +kernel, .o c x⟩
  | guess c a t => exact ⟨_, _, rfl, by decide +kernel, .t c a t⟩
  | back c a => exact ⟨_, _, rfl, by decide +kernel, .o c a⟩
  | stop c => exact ⟨_, _, rfl, by decide +kernel, .z c⟩
theorem ev_eqv {e f : Ev} : PyData.eqv e.d f.d = true ↔ e = f := by
  obtain ⟨k, r, h1, h2, h3⟩ := ev_rk e
  obtain ⟨k', r', g1, g2, g3⟩ := ev_rk f
  constructor
  · intro h
    rw [h1, g1, PyData.eqv, PyData.eqvAll, Bool.and_eq_true, PyData.eqv, beq_iff_eq] at h
    obtain ⟨rfl, h⟩ := h
    refine Ev.d_inj ?_
    rw [h1, g1, rke_eq h3 g3 h]
  · rintro rfl
    rw [h1, PyData.eqv, PyData.eqvAll, Bool.and_eq_true, PyData.eqv]
    refine ⟨by simp, ?_⟩
    cases h3 <;> simp [PyData.eqvAll, PyData.eqv]
theorem ev_lay (e : Ev) : Lay 1 e.d := by
  obtain ⟨k, r, h1, h2, h3⟩ := ev_rk e
  rw [h1]
  refine Lay.tup fun d hd => ?_
  rcases List.mem_cons.mp hd with rfl | hd
  · exact .str h2
  · cases h3 <;> simp only [List.mem_cons, List.not_mem_nil, or_false] at hd
    · subst hd; exact .int
    · rcases hd with rfl | rfl <;> exact .int
    · rcases hd with rfl | rfl | rfl
      · exact .int
      · exact .int
      · exact .bl

/-! ### registers, words and clocks -/
theorem rgp {ms : MS} {d a : Nat} {x : Int} (hl : ms.rg.length = 16) (hd : d < 16) : rgV (put ms d x) a = if d = a then x else rgV ms a := by
  unfold rgV put
  show (ms.rg.set d x).getD a 0 = _
  rw [List.getD_eq_getElem?_getD, List.getElem?_set, List.getD_eq_getElem?_getD]
  by_cases h : d = a
  · subst h
    rw [if_pos rfl, if_pos (by omega), if_pos rfl]
    rfl
  · rw [if_neg h, if_neg h]
theorem rg_len {ms : MS} {d : Nat} {x : Int} (hl : ms.rg.length = 16) : (put ms d x).rg.length = 16 := by
  show (ms.rg.set d x).length = 16
  rw [List.length_set]
  exact hl
theorem memK_ne {base i : Int} {row : List Int} {kvs : List (Key × V)} : ∀ {n : Nat}, (i < base ∨ base + (n : Int) ≤ i) → valV (memK base row n kvs) (.inl i) = valV kvs (.inl i)
  | 0, _ => rfl
  | n + 1, h => by
    rw [memK_succ, valV_put, if_neg (fun e => by have := Sum.inl.inj e; omega)]
    exact memK_ne (by omega)
theorem memK_eq {base : Int} {row : List Int} {kvs : List (Key × V)} {j : Nat} : ∀ {n : Nat}, j < n → valV (memK base row n kvs) (.inl (base + (j : Int))) = some (.int (row.getD j 0))
  | 0, h => absurd h (by omega)
  | n + 1, h => by
    rw [memK_succ, valV_put]
    by_cases e : j = n
    · subst e
      rw [if_pos rfl]
    · rw [if_neg (fun z => by have := Sum.inl.inj z; omega)]
      exact memK_eq (by omega)
theorem and0 : Builtin.bitAnd 0 0 = 0 := by decide +kernel
theorem and_m {x : Int} {j n : Nat} (h : n = 2 ^ j) (hx : 0 ≤ x) : Builtin.bitAnd x ((n : Int) - 1) = x % (n : Int) := by
  have e : ((n : Nat) : Int) = 2 ^ j := by
    rw [h]
    exact Int.natCast_pow 2 j
  rw [e]
  exact Bits.bitAnd_mask j hx
theorem and_0 {x : Int} (hx : 0 ≤ x) : Builtin.bitAnd x 0 = 0 := by
  have := and_m (j := 0) (n := 1) rfl hx
  rw [show ((1 : Nat) : Int) - 1 = 0 by omega] at this
  rw [this]
  omega
theorem mx_eq {c x : Int} (h : c ≤ x) : mx c x = x := by
  unfold mx
  split <;> omega
theorem fetch_ck {k : MK} {mc : MC} {a : Nat} (h0 : 0 ≤ k.miss) : mc.ck ≤ (fetchM k mc a).ck ∧ (fetchM k mc a).ck ≤ mc.ck + k.miss := by
  obtain ⟨vs, h1, h2, h3⟩ := go_tr (k.vis.drop mc.vi) mc
  show mc.ck ≤ (if hitV (goVis (k.vis.drop mc.vi) mc).fc a then (goVis (k.vis.drop mc.vi) mc).ck else (goVis (k.vis.drop mc.vi) mc).ck + k.miss) ∧ (if hitV (goVis (k.vis.drop mc.vi) mc).fc a then (goVis (k.vis.drop mc.vi) mc).ck else (goVis (k.vis.drop mc.vi) mc).ck + k.miss) ≤ _
  rw [h3]
  split <;> omega


theorem takes0 {X : Cx} : Takes X (fun _ _ _ _ => False) := fun _ _ ⟨_, _, _, _, _, _, _, _, _, _, _, _, _, _, _, _, w⟩ => w.elim
theorem bhd_w {rgs : List Rg} {p : Mb} {row : Row} {d x : Nat} {b : Bool} (h : wrP rgs p row = some (d, b)) : bhd rgs row p x = if x = d then b else p x := by
  unfold bhd
  rw [h]
theorem bhd_n {rgs : List Rg} {p : Mb} {row : Row} {x : Nat} (h : wrP rgs p row = none) : bhd rgs row p x = p x := by
  unfold bhd
  rw [h]
theorem ways_of {k w : Nat} {r : Row} (h : w ∈ waysR k r) : w = k + 1 ∨ r = .jump w ∨ ∃ p, r = .branch p w := by
  have one : ∀ {a : Nat}, w ∈ [a] → w = a := fun h => List.mem_singleton.mp h
  cases r with
  | stop a => cases h
  | jump t => exact .inr (.inl (by rw [one h]))
  | branch p t =>
    have h : w ∈ (if k + 1 = t then [t] else if k + 1 < t then [k + 1, t] else [t, k + 1]) := h
    have : w = t ∨ w = k + 1 := by
      split at h
      · exact .inl (one h)
      · split at h
        · simp only [List.mem_cons, List.not_mem_nil, or_false] at h
          exact h.symm
        · simp only [List.mem_cons, List.not_mem_nil, or_false] at h
          exact h
    rcases this with rfl | e
    · exact .inr (.inr ⟨p, rfl⟩)
    · exact .inl e
  | _ => exact .inl (one h)
/-! ### what is refused, for the greatest paper -/
section
variable {rgs : List Rg} {rows : List Row} {P P' : Nat → Mb} {n r r0 : Nat} {p q : Mb} {row : Row} {o : Option (Int × Str)} {w : Str}
theorem refW_ext (h : ∀ x, x < 16 → p x = q x) (hr : RowOkD n r row) : refW rgs row p = refW rgs row q := by
  cases row with
  | branch a t => show (if p a = true then _ else _) = if q a = true then _ else _; rw [h a hr.1]
  | out a => show (if p a = true then _ else _) = if q a = true then _ else _; rw [h a hr.1]
  | load d a b m => show spanW rgs p a b m none = spanW rgs q a b m none; unfold spanW; rw [h a hr.2.1]
  | store a b m c => show spanW rgs p a b m (some c) = spanW rgs q a b m (some c); unfold spanW; simp only [h a hr.1, h c hr.2.1]
  | op s d a b =>
    cases s <;> first | rfl | (show (if p a = true then (if p b = true then _ else _) else _) = if q a = true then (if q b = true then _ else _) else _; rw [h a hr.2.1, h b hr.2.2.1])
  | _ => rfl
theorem due_ext (jo : JOk rows) (h : ∀ r x, r < rows.length → x < 16 → P r x = P' r x) : ∀ {n : Nat}, n ≤ rows.length → dueD rgs rows P n = dueD rgs rows P' n
  | 0, _ => rfl
  | n + 1, hn => by
    rw [due_succ, due_succ, due_ext jo h (by omega)]
    cases e : rows[n]? with
    | none => rfl
    | some row =>
      congr 1
      show (refW rgs row (P n)).map _ = (refW rgs row (P' n)).map _
      rw [refW_ext (fun x hx => h n x (by omega) hx) (jo.r n row e)]
theorem JudR.of (jo : JOk rows) (hP : Hold rgs rows P) (h : JudR rgs rows (papD P rows.length) o) : o = (dueD rgs rows P rows.length).map fun q => ((q.1 : Int), q.2) := by
  rcases h with ⟨P', e, hP', ho⟩ | ⟨hn, _⟩
  · rw [ho, due_ext jo (papD_inj e) (Nat.le_refl _)]
  · exact absurd ⟨P, rfl, hP⟩ hn
theorem due_none : ∀ {n : Nat}, (∀ r row, r < n → rows[r]? = some row → refW rgs row (P r) = none) → dueD rgs rows P n = none
  | 0, _ => rfl
  | n + 1, h => by
    rw [due_succ, due_none fun r row hr => h r row (by omega)]
    cases e : rows[n]? with
    | none => rfl
    | some row =>
      show (refW rgs row (P n)).map _ = none
      rw [h n row (by omega) e]
      rfl
theorem due_of (hb : ∀ r row, r < r0 → rows[r]? = some row → refW rgs row (P r) = none) (hr : rows[r0]? = some row) (hw : refW rgs row (P r0) = some w) : ∀ {n : Nat}, r0 < n → dueD rgs rows P n = some (r0, w)
  | 0, h => absurd h (by omega)
  | n + 1, h => by
    rw [due_succ]
    by_cases e : r0 = n
    · subst e
      rw [due_none hb, hr]
      show (refW rgs row (P r0)).map _ = _
      rw [hw]
      rfl
    · rw [due_of hb hr hw (n := n) (by omega)]
      rfl
theorem Grt.uniq (h : Grt rgs rows P) (g : Grt rgs rows P') : ∀ r x, r < rows.length → x < 16 → P r x = P' r x := fun r x hr hx => by
  rw [Bool.eq_iff_iff]
  exact ⟨g.2 P h.1 r x hr hx, h.2 P' g.1 r x hr hx⟩
theorem papD_wd {k : Nat} (hn : n ≤ 50000) : Wd 50000 (k + 2) (papD P n) := wd_t (by rw [List.length_map, List.length_range]; exact hn) fun d hd => by
  obtain ⟨r, _, rfl⟩ := List.mem_map.mp hd
  refine wd_t (by show (nDs (mL (P r))).length ≤ 50000; rw [show (nDs (mL (P r))).length = (mL (P r)).length from List.length_map _]; exact Nat.le_trans mL_len (by decide)) fun d hd => ?_
  obtain ⟨m, _, rfl⟩ := List.mem_map.mp hd
  exact wd_i
end
theorem g_xf {a C : Addr} {cls : Value} {d : Option Addr} {f : Str} {te : TE} {σ : L2.St} {H : Hp} {Q : VK} (h : te σ H fun x H1 => x = .ref a ∧ cls = .ref C ∧ ∃ (dd : Addr) (fs : List (Str × V)) (v : V), d = some dd ∧ H1 dd = some (.xd fs) ∧ fs.lookup f = some v ∧ Q v H1) : tXf a cls d C f te σ H Q := h
theorem CodeOk.jo {rows : List Row} (h : CodeOk rows) : JOk rows := ⟨by have := h.u; omega, h.r⟩

/-! ### code that the judge takes looks the same for all secrets -/
def mskOk : Row → Prop
  | .load _ _ _ m => 0 ≤ m
  | .store _ _ m _ => 0 ≤ m
  | _ => True
/-- no region reaches into another one -/
def Dsj (rgs : List Rg) : Prop := rgs.Pairwise fun g h => g.b + (g.n : Int) ≤ h.b
/-- taken with a paper -/
structure Jd (rgs : List Rg) (rows : List Row) (P : Nat → Mb) : Prop where
  h : Hold rgs rows P
  n : ∀ r row, rows[r]? = some row → refW rgs row (P r) = none
  k : ∀ (k : Nat) (r : Row), rows[k]? = some r → RowOkD rows.length k r
  m : ∀ (r : Nat) (row : Row), rows[r]? = some row → mskOk row
  d : Dsj rgs
def inR (g : Rg) (a : Int) : Prop := g.b ≤ a ∧ a < g.b + (g.n : Int)
structure RT (rgs : List Rg) (p : Mb) (m1 m2 : MS) : Prop where
  l1 : m1.rg.length = 16
  l2 : m2.rg.length = 16
  e : ∀ x, x < 16 → p x = true → rgV m1 x = rgV m2 x
  w : ∀ g ∈ rgs, g.l = "public" → ∀ a : Int, inR g a → wdV m1.wd a = wdV m2.wd a
theorem and_bd {x m : Int} (hm : 0 ≤ m) : 0 ≤ Builtin.bitAnd x m ∧ Builtin.bitAnd x m ≤ m := by
  by_cases hx : 0 ≤ x
  · rw [bitAnd_pp hx hm]
    have := Nat.and_le_right (n := x.toNat) (m := m.toNat)
    omega
  · rw [bitAnd_np hx hm]
    have := Nat.and_le_left (n := m.toNat) (m := (Builtin.bitNot x).toNat)
    omega
theorem dsj_eq : ∀ {rgs : List Rg}, Dsj rgs → ∀ {g h : Rg} {a : Int}, g ∈ rgs → h ∈ rgs → inR g a → inR h a → g = h
  | [], _, g, h, a, hg, _, _, _ => by cases hg
  | r :: rgs, d, g, h, a, hg, hh, ag, ah => by
    obtain ⟨d1, d2⟩ := List.pairwise_cons.mp d
    obtain ⟨a1, a2⟩ := ag
    obtain ⟨b1, b2⟩ := ah
    rcases List.mem_cons.mp hg with e | hg'
    · rcases List.mem_cons.mp hh with e' | hh'
      · rw [e, e']
      · have := d1 h hh'
        rw [← e] at this
        omega
    · rcases List.mem_cons.mp hh with e' | hh'
      · have := d1 g hg'
        rw [← e'] at this
        omega
      · exact dsj_eq d2 hg' hh' ⟨a1, a2⟩ ⟨b1, b2⟩
theorem reg_in {rgs : List Rg} {base mask : Int} {g : Rg} (h : regOf rgs base mask = some g) : g ∈ rgs ∧ ∀ x, 0 ≤ mask → inR g (base + Builtin.bitAnd x mask) := by
  have h1 := List.mem_of_find?_eq_some h
  have h2 := List.find?_some h
  simp only [Bool.and_eq_true, decide_eq_true_eq] at h2
  refine ⟨h1, fun x hm => ?_⟩
  obtain ⟨b1, b2⟩ := and_bd (x := x) hm
  exact ⟨by omega, by omega⟩
theorem span_none {rgs : List Rg} {p : Mb} {a : Nat} {base mask : Int} {st : Option Nat} (h : spanW rgs p a base mask st = none) : p a = true ∧ ∃ g, regOf rgs base mask = some g ∧ ∀ b, st = some b → g.l = "public" → p b = true := by
  unfold spanW at h
  split at h
  · rename_i ha
    refine ⟨ha, ?_⟩
    cases hr : regOf rgs base mask with
    | none => rw [hr] at h; cases h
    | some g =>
      refine ⟨g, rfl, fun b hb hg => ?_⟩
      subst hb
      rw [hr] at h
      have h : (if p b = true then (none : Option Str) else if g.l = "public" then some "store" else none) = none := h
      split at h
      · assumption
      · first
          | (cases h; done)
          | (rw [if_pos hg] at h; cases h)
  · cases h
theorem aft_ways {r : Row} {a : Nat} {t : Bool} (h : isStop r = false) : aftM r a t ∈ waysR a r := by
  cases r with
  | stop p => cases h
  | jump x => exact List.mem_singleton.mpr rfl
  | branch p x =>
    show (if t = true then x else a + 1) ∈ (if a + 1 = x then [x] else if a + 1 < x then [a + 1, x] else [x, a + 1])
    cases t <;> split <;> (try split) <;> simp_all
  | _ => exact List.mem_singleton.mpr rfl
theorem wd_putK {wd : List (Key × V)} {a b v : Int} : wdV (putK wd (.inl a) (.int v)) b = if b = a then v else wdV wd b := by
  unfold wdV
  rw [valV_put]
  by_cases c : b = a
  · subst c
    rw [if_pos rfl, if_pos rfl]
  · rw [if_neg (fun z => c (Sum.inl.inj z)), if_neg c]
section
variable {k : MK} {rgs : List Rg} {P : Nat → Mb} {Z : Nat} {m1 m2 : MS} {p q : Mb} {d : Nat} {x y : Int}
theorem RT.put (h : RT rgs p m1 m2) (hd : d < 16) {b : Bool} (hq : ∀ x, x < 16 → q x = true → (if x = d then b else p x) = true) (hx : b = true → x = y) : RT rgs q (put m1 d x) (put m2 d y) := by
  refine ⟨rg_len h.l1, rg_len h.l2, fun a ha hp => ?_, h.w⟩
  have z := hq a ha hp
  rw [rgp h.l1 hd, rgp h.l2 hd]
  by_cases c : a = d
  · subst c
    rw [if_pos rfl] at z
    rw [if_pos rfl, if_pos rfl, hx z]
  · rw [if_neg c] at z
    rw [if_neg (Ne.symm c), if_neg (Ne.symm c)]
    exact h.e a ha z
theorem RT.mono (h : RT rgs p m1 m2) (hq : ∀ x, x < 16 → q x = true → p x = true) : RT rgs q m1 m2 := ⟨h.l1, h.l2, fun a ha hp => h.e a ha (hq a ha hp), h.w⟩
theorem niT (J : Jd rgs k.rows P) : NiOk k Z fun a => RT rgs (P a) := by
  have adq : ∀ {m1 m2 : MS} {p : Mb} {x : Nat} {base mask : Int}, RT rgs p m1 m2 → x < 16 → p x = true → adr m1 x base mask = adr m2 x base mask := fun h hx hp => by
    unfold adr
    rw [h.e _ hx hp]
  refine ⟨fun {a d x base mask m1 m2} hr hh => ?_, fun {a x y base mask m1 m2} hr hh => ?_, fun {a x m1 m2} hr hh => ?_, fun {a p t m1 m2} hr hh => ?_, fun {a s d x y m1 m2} hr hh => ?_, fun {a r m1 m2} g tk hr hs hh => ?_⟩
  · have n : spanW rgs (P a) x base mask none = none := J.n a _ hr
    rw [adq hh (J.k a _ hr).2.1 (span_none n).1]
  · have n : spanW rgs (P a) x base mask (some y) = none := J.n a _ hr
    rw [adq hh (J.k a _ hr).1 (span_none n).1]
  · have n : (if P a x = true then (none : Option Str) else some "out") = none := J.n a _ hr
    split at n
    · exact hh.e x (J.k a _ hr).1 (by assumption)
    · cases n
  · have n : (if P a p = true then (none : Option Str) else some "branch") = none := J.n a _ hr
    split at n
    · rw [hh.e p (J.k a _ hr).1 (by assumption)]
    · cases n
  · obtain ⟨_, kx, ky, _⟩ := J.k a _ hr
    have n := J.n a _ hr
    have dm : (if P a x = true then (if P a y = true then (none : Option Str) else some "cost") else some "cost") = none → rgV m1 x = rgV m2 x ∧ rgV m1 y = rgV m2 y := fun n => by
      split at n
      · split at n
        · exact ⟨hh.e x kx (by assumption), hh.e y ky (by assumption)⟩
        · cases n
      · cases n
    cases s with
    | div => obtain ⟨e1, e2⟩ := dm n; rw [e1, e2]
    | mod => obtain ⟨e1, e2⟩ := dm n; rw [e1, e2]
    | _ => rfl
  · have ho : ∀ x, x < 16 → P (aftM r a tk) x = true → bhd rgs r (P a) x = true := fun x hx hp => J.h a r hr _ (aft_ways hs) x hx hp
    have ko := J.k a r hr
    have no := J.n a r hr
    have mo := J.m a r hr
    cases r with
    | const d n => exact hh.put (b := true) ko.1 (fun x hx hp => by have := ho x hx hp; rwa [bhd_w (d := d) (b := true) rfl] at this) (fun _ => rfl)
    | op s d x y =>
      refine hh.put (b := P a x && P a y) ko.1 (fun x' hx hp => by have := ho x' hx hp; rwa [bhd_w (d := d) (b := P a x && P a y) rfl] at this) (fun hb => ?_)
      rw [Bool.and_eq_true] at hb
      rw [hh.e x ko.2.1 hb.1, hh.e y ko.2.2.1 hb.2]
    | select d c x y =>
      refine hh.put (b := P a c && (P a x && P a y)) ko.1 (fun x' hx hp => by have := ho x' hx hp; rwa [bhd_w (d := d) (b := P a c && (P a x && P a y)) rfl] at this) (fun hb => ?_)
      rw [Bool.and_eq_true, Bool.and_eq_true] at hb
      rw [hh.e c ko.2.1 hb.1, hh.e x ko.2.2.1 hb.2.1, hh.e y ko.2.2.2.1 hb.2.2]
    | load d x base mask =>
      have no : spanW rgs (P a) x base mask none = none := no
      obtain ⟨px, gg, hg, _⟩ := span_none no
      refine hh.put (b := pubR rgs base mask) ko.1 (fun x' hx hp => by have := ho x' hx hp; rwa [bhd_w (d := d) (b := pubR rgs base mask) rfl] at this) (fun hb => ?_)
      rw [hh.e x ko.2.1 px]
      obtain ⟨g1, g2⟩ := reg_in hg
      refine hh.w gg g1 ?_ _ (g2 _ mo)
      unfold pubR at hb
      rw [hg] at hb
      exact of_decide_eq_true hb
    | store x base mask y =>
      have no : spanW rgs (P a) x base mask (some y) = none := no
      obtain ⟨px, gg, hg, hst⟩ := span_none no
      obtain ⟨g1, g2⟩ := reg_in hg
      refine ⟨hh.l1, hh.l2, fun x' hx hp => ?_, fun g' hg' hpub b hb => ?_⟩
      · have := ho x' hx hp
        rw [bhd_n rfl] at this
        exact hh.e x' hx this
      · show wdV (putK m1.wd (.inl (base + Builtin.bitAnd (rgV m1 x) mask)) (.int (rgV m1 y))) b = wdV (putK m2.wd (.inl (base + Builtin.bitAnd (rgV m2 x) mask)) (.int (rgV m2 y))) b
        rw [wd_putK, wd_putK, hh.e x ko.1 px]
        by_cases c : b = base + Builtin.bitAnd (rgV m2 x) mask
        · rw [if_pos c, if_pos c]
          have e := dsj_eq J.d hg' g1 hb (by rw [c]; exact g2 _ mo)
          subst e
          exact hh.e y ko.2.1 (hst y rfl hpub)
        · rw [if_neg c, if_neg c]
          exact hh.w g' hg' hpub b hb
    | out x =>
      have hm : RT rgs (P (aftM (.out x) a tk)) m1 m2 := hh.mono fun x' hx hp => by have := ho x' hx hp; rwa [bhd_n rfl] at this
      cases g
      · exact ⟨hm.l1, hm.l2, hm.e, hm.w⟩
      · exact hm
    | jump t => exact hh.mono fun x' hx hp => by have := ho x' hx hp; rwa [bhd_n rfl] at this
    | branch p t => exact hh.mono fun x' hx hp => by have := ho x' hx hp; rwa [bhd_n rfl] at this
    | stop p => cases hs
end
/-! ### the memory at the beginning -/
theorem fold_ne {a : Int} : ∀ {rgs : List Rg} {cs : List (List Int)} {acc : List (Key × V)}, (∀ g ∈ rgs, a < g.b) → valV ((rgs.zip cs).foldl stepR acc) (.inl a) = valV acc (.inl a)
  | [], _, _, _ => rfl
  | g :: rgs, [], _, _ => rfl
  | g :: rgs, c :: cs, acc, h => by
    show valV ((rgs.zip cs).foldl stepR (memK g.b c g.n acc)) (.inl a) = _
    rw [fold_ne fun g' hg' => h g' (List.mem_cons_of_mem _ hg'), memK_ne (.inl (h g List.mem_cons_self))]
theorem fold_at {j : Nat} : ∀ {rgs : List Rg} {cs : List (List Int)} {acc : List (Key × V)} {i : Nat} {g : Rg} {c : List Int}, Dsj rgs → rgs[i]? = some g → cs[i]? = some c → j < g.n → valV ((rgs.zip cs).foldl stepR acc) (.inl (g.b + (j : Int))) = some (.int (c.getD j 0))
  | [], _, _, i, _, _, _, h, _, _ => by simp at h
  | _ :: _, [], _, i, _, _, _, _, h, _ => by simp at h
  | r :: rgs, c0 :: cs, acc, 0, g, c, d, hg, hc, hj => by
    cases hg
    cases hc
    obtain ⟨d1, _⟩ := List.pairwise_cons.mp d
    show valV ((rgs.zip cs).foldl stepR (memK r.b c0 r.n acc)) _ = _
    rw [fold_ne fun g' hg' => by have := d1 g' hg'; omega]
    exact memK_eq hj
  | r :: rgs, c0 :: cs, acc, i + 1, g, c, d, hg, hc, hj => by
    obtain ⟨_, d2⟩ := List.pairwise_cons.mp d
    exact fold_at (rgs := rgs) (cs := cs) (acc := stepR acc (r, c0)) d2 hg hc hj
/-- contents that agree on what is public -/
def Agr (rgs : List Rg) (cs os : List (List Int)) : Prop := ∀ (i : Nat) (g : Rg), rgs[i]? = some g → g.l = "public" → cs[i]? = os[i]?
theorem rt_0 {rgs : List Rg} {cs os : List (List Int)} {p : Mb} (d : Dsj rgs) (h1 : cs.length = rgs.length) (h2 : os.length = rgs.length) (h : Agr rgs cs os) : RT rgs p (ms0 rgs cs) (ms0 rgs os) := by
  refine ⟨List.length_replicate, List.length_replicate, fun x _ _ => rfl, fun g hg hp a ha => ?_⟩
  obtain ⟨i, hi⟩ := List.getElem?_of_mem hg
  have hil := (List.getElem?_eq_some_iff.mp hi).1
  obtain ⟨a1, a2⟩ := ha
  obtain ⟨j, rfl⟩ : ∃ j : Nat, a = g.b + (j : Int) := ⟨(a - g.b).toNat, by omega⟩
  have hc : cs[i]? = some (cs[i]'(by omega)) := List.getElem?_eq_getElem _
  have ho : os[i]? = some (cs[i]'(by omega)) := by rw [← h i g hi hp]; exact hc
  show wdV (mem rgs cs) _ = wdV (mem rgs os) _
  unfold wdV mem
  rw [fold_at d hi hc (by omega), fold_at d hi ho (by omega)]
/-- what the machine shows -/
theorem shown_eq {t : Sett} {rows : List Row} {rgs : List Rg} {P : Nat → Mb} {cs os : List (List Int)} {n : Nat} (J : Jd rgs rows P) (hz : 0 < t.dc.Z) (h1 : cs.length = rgs.length) (h2 : os.length = rgs.length) (h : Agr rgs cs os) :
    (machR t rows rgs cs n).2.2.tr = (machR t rows rgs os n).2.2.tr ∧ (machR t rows rgs cs n).1.isSome = (machR t rows rgs os n).1.isSome ∧ (machR t rows rgs cs n).2.1.ou = (machR t rows rgs os n).2.1.ou ∧
    ∀ g ∈ rgs, g.l = "public" → ∀ a, inR g a → wdV (machR t rows rgs cs n).2.1.wd a = wdV (machR t rows rgs os n).2.1.wd a := by
  have zk0 : (mc0 t).dc.Z = t.dc.Z := (pres_zk t.bef (mc00 t)).d
  obtain ⟨e1, e2, a', hR⟩ := ni_run (k := kOf t rows) (niT (k := kOf t rows) (Z := t.dc.Z) J) hz n 0 (ms0 rgs cs) (ms0 rgs os) (List.replicate 16 0) (mc0 t) zk0 (rt_0 J.d h1 h2 h)
  have et : (machR t rows rgs cs n).2.2.tr = (machR t rows rgs os n).2.2.tr := congrArg MC.tr e1
  refine ⟨et, e2, ?_, hR.w⟩
  have o1 : EndT (machR t rows rgs cs n) := mach_end
  have o2 : EndT (machR t rows rgs os n) := mach_end
  rw [← o1.1, ← o2.1, et]


/-! ### events, views (long traces) -/
/-- an event: a kind, a time, more -/
structure Evd (d : PyData) : Prop where
  ex : ∃ (k : Str) (t : Int) (rest : List PyData), d = .tuple (.str k :: .int t :: rest) ∧ PyData.strOk k = true ∧ (∀ x ∈ rest, Lay 0 x) ∧ rest.length ≤ 2
theorem Evd.lay {d : PyData} (h : Evd d) : Lay 1 d := by
  obtain ⟨k, t, rest, rfl, h1, h2, _⟩ := h.ex
  refine Lay.tup fun x hx => ?_
  rcases List.mem_cons.mp hx with rfl | hx
  · exact .str h1
  · rcases List.mem_cons.mp hx with rfl | hx
    · exact .int
    · exact h2 x hx
def wt : PyData → PyData
  | .tuple (k :: _ :: rest) => .tuple (k :: rest)
  | d => d
theorem wt_lay {d : PyData} (h : Evd d) : Lay 1 (wt d) := by
  obtain ⟨k, t, rest, rfl, h1, h2, _⟩ := h.ex
  refine Lay.tup fun x hx => ?_
  rcases List.mem_cons.mp hx with rfl | hx
  · exact .str h1
  · exact h2 x hx
def sp_without_time (K : PySem.W.Frag) : Sp := fun vs H Q _ => ∃ (x : V) (d : PyData), vs = [x] ∧ Im H x d ∧ Evd d ∧ ∀ p H', Same H H' → Im H' (.ref p) (wt d) → Q (.ref p) H'
theorem sc_without_time : FnScope ["event"] ["event"] (defScope (topS 39)) := ⟨rfl, rfl, rfl, by decide +kernel, rfl, by decide +kernel, by decide +kernel⟩
theorem ok_without_time (T : Txt fa fn K mg (XOk cs xcs K w)) : Dn P w K mg base CX0 1 "without_time" ["event"] (sp_without_time K) := by
  refine mk_dn (d := dOf "without_time" 39) T 20 20 rfl rfl rfl rfl rfl sc_without_time (by walk_at "len") (fun _ _ _ _ _ _ us hl => match us, hl with | [_], _ => rfl) (fun cdv A outer s H vs Q E hr h => ⟨_, (pss_one (ps_ret (pe_op (op_addU (K := K) rfl) (pe_tup (pa_cons (pe_ixU (K := K) rfl (hu_of hr) (pv 0) pe_int) pa_nil)) (pe_slice (sl_U (K := K) rfl) (pv 0) (po_some pe_int) po_none)))), ?_⟩)
  obtain ⟨x, d, rfl, hx, he, hQ⟩ := h
  obtain ⟨k, t, rest, rfl, hk, hr, hl⟩ := he.ex
  walk_at "go"
  refine m_ix hx (n := 0) rfl rfl (fun v hv => ?_)
  walk_at "go"
  refine m_new (Ims.one hv) (by show 1 ≤ 100000; decide) (fun p H1 s1 _ hp => ?_)
  walk_at "go"
  refine m_sl (hx.same s1) (fun q H2 s2 hq => ?_)
  have e : cutD (.str k :: .int t :: rest) (some 2) none = rest := cutD_from (n := 2)
  rw [e] at hq
  refine m_cat (hp.same s2) hq (by simp; omega) (fun u H3 s3 hu => ?_)
  exact hQ u H3 ((s1.trans s2).trans s3) hu
def kin (ks : List Str) : PyData → Bool
  | .tuple (.str k :: _) => ks.contains k
  | _ => false
def viewD (ds : List PyData) (what : Str) : List PyData :=
  if what = "all" then ds else if what = "lines" then ds.map wt else if what = "times" then ds.filter (kin ["out", "touch", "drop", "stop"]) else (ds.filter (kin ["touch", "drop"])).map wt
def sp_view (K : PySem.W.Frag) : Sp := fun vs H Q _ => ∃ (x : V) (ds : List PyData) (what : Str), vs = [x, .str what] ∧ Im H x (.tuple ds) ∧ (∀ d ∈ ds, Evd d) ∧ ds.length ≤ 16000000 ∧ ∀ p H', Same H H' → Im H' (.ref p) (.tuple (viewD ds what)) → Q (.ref p) H'
theorem sc_view : FnScope ["trace", "what", "event"] ["trace", "what"] (defScope (topS 40)) := ⟨rfl, rfl, rfl, by decide +kernel, rfl, by decide +kernel, by decide +kernel⟩
theorem ok_view (T : Txt fa fn K mg (XOk cs xcs K w)) : Dn P w K mg base CX0 2 "view" ["trace", "what"] (sp_view K) := by
  refine mk_dn (d := dOf "view" 40) T 21 21 rfl rfl rfl rfl rfl sc_view (by walk_at "len") (fun _ _ _ _ _ _ us hl => match us, hl with | [_, _], _ => rfl) (fun cdv A outer s H vs Q E hr h => ⟨_, (pss_cons (ps_if (pt_cmpR (op_eqU (K := K) rfl hr.units) (pv 1) pe_str (nomark _)) (pss_one (ps_ret (pe_callTy (c_tuple (K := K) rfl) rfl (T.free 136 rfl) (by decide +kernel) (pa_cons (pv 0) pa_nil)))) pss_nil)
      (pss_cons (ps_if (pt_cmpR (op_eqU (K := K) rfl hr.units) (pv 1) pe_str (nomark _)) (pss_one (ps_ret (pe_callTy (c_tuple (K := K) rfl) rfl (T.free 136 rfl) (by decide +kernel) (pa_cons (pe_lc rfl sc_view.nd (pi_seq (K := K) rfl (pv 0)) (blkOk_by (own := [("event", 2)]) (N := ["trace", "what", "event"]) (sc := defScope (topS 40)) (by decide +kernel)) (fun _ _ _ _ _ => (pg_name (i := 2) sc_view.nd rfl (.inl rfl))) (fun _ _ _ _ _ => pts_nil) (fun _ _ _ _ _ => (pe_callD (K := K) rfl (ok_without_time T) (hr.mono (by decide)) rfl pass0 (pa_cons (pv 2) pa_nil)))) pa_nil)))) pss_nil)
      (pss_cons (ps_if (pt_cmpR (op_eqU (K := K) rfl hr.units) (pv 1) pe_str (nomark _)) (pss_one (ps_ret (pe_callTy (c_tuple (K := K) rfl) rfl (T.free 136 rfl) (by decide +kernel) (pa_cons (pe_lc rfl sc_view.nd (pi_seq (K := K) rfl (pv 0)) (blkOk_by (own := [("event", 2)]) (N := ["trace", "what", "event"]) (sc := defScope (topS 40)) (by decide +kernel)) (fun _ _ _ _ _ => (pg_name (i := 2) sc_view.nd rfl (.inl rfl))) (fun _ _ _ _ _ => (pts_one (pt_cmpR (op_inU (K := K) rfl (hu65 hr)) (pe_ixU (K := K) rfl (hu_of hr) (pv 2) pe_int) (pe_tup (pa_cons pe_str (pa_cons pe_str (pa_cons pe_str (pa_cons pe_str pa_nil))))) (by rfl)))) (fun _ _ _ _ _ => (pv 2))) pa_nil)))) pss_nil)
      (pss_one (ps_ret (pe_callTy (c_tuple (K := K) rfl) rfl (T.free 136 rfl) (by decide +kernel) (pa_cons (pe_lc rfl sc_view.nd (pi_seq (K := K) rfl (pv 0)) (blkOk_by (own := [("event", 2)]) (N := ["trace", "what", "event"]) (sc := defScope (topS 40)) (by decide +kernel)) (fun _ _ _ _ _ => (pg_name (i := 2) sc_view.nd rfl (.inl rfl))) (fun _ _ _ _ _ => (pts_one (pt_cmpR (op_inU (K := K) rfl (hu65 hr)) (pe_ixU (K := K) rfl (hu_of hr) (pv 2) pe_int) (pe_tup (pa_cons pe_str (pa_cons pe_str pa_nil))) (by rfl)))) (fun _ _ _ _ _ => (pe_callD (K := K) rfl (ok_without_time T) (hr.mono (by decide)) rfl pass0 (pa_cons (pv 2) pa_nil)))) pa_nil))))))), ?_⟩)
  obtain ⟨x, ds, what, rfl, hx, he, hl, hQ⟩ := h
  walk_at "go"
  refine g_if (fun h1 => ?_) (fun h1 => ?_)
  · walk_at "go"
    obtain ⟨a, xs, rfl, _, _⟩ := hx.tup_inv
    refine m_tupleT hx ?_
    have e : viewD ds what = ds := by unfold viewD; rw [if_pos h1]
    rw [e] at hQ
    exact hQ a H (Same.refl H) hx
  walk_at "go"
  refine g_if (fun h2 => ?_) (fun h2 => ?_)
  · walk_at "go"
    refine m_seq hx (fun a ys ex ha hys => ?_)
    have hyl := hys.length
    refine l_tup (xs := ys) (fun D i H' => ∃ xs, H' D = some (.lst xs) ∧ Ims H' xs ((ds.take i).map wt) ∧ Same H H') (fun D hD => ⟨[], upd_same, .nil, Same.new hD⟩) (fun D hD i H' _ ⟨_, _, _, s1⟩ => SqT.of (s1 _ _ ha)) ?_ ?_
    · rintro D hD i v H' hi ⟨xs, hDl, hxs, s1⟩
      have hi' := (List.getElem?_eq_some_iff.mp hi).1
      obtain ⟨d, hd⟩ : ∃ d, ds[i]? = some d := ⟨_, List.getElem?_eq_getElem (by omega)⟩
      obtain ⟨v', hv', hvd⟩ := hys.get hd
      rw [hi] at hv'
      cases hv'
      have hed := he d (List.mem_of_getElem? hd)
      walk_at "go"
      refine ⟨v, d, rfl, hvd.same s1, hed, fun p H2 s2 hp => ?_⟩
      walk_at "go"
      refine ⟨xs, s2 _ _ hDl, szb (by rw [hxs.length, List.length_map, List.length_take]; omega), xs ++ [.ref p], upd_same, ?_, Same.mut (s1.trans s2) hD⟩
      rw [map_take_succ hd]
      exact ((hxs.same s2).append (Ims.one hp)).keep (Keep.set (List.mem_singleton.mpr rfl)) (NoTup.one (s2 _ _ hDl) (fun _ z => by cases z))
    · rintro D hD H' ⟨xs, hDl, hxs, s1⟩
      walk_at "go"
      rw [hyl, List.take_length] at hxs
      refine m_tupleL (SqL.of hDl) hxs (fun p H2 s2 _ hp => ?_)
      have e : viewD ds what = ds.map wt := by unfold viewD; rw [if_neg h1, if_pos h2]
      rw [e] at hQ
      exact hQ p H2 (s1.trans s2) hp
  walk_at "go"
  refine g_if (fun h3 => ?_) (fun h3 => ?_)
  · walk_at "go"
    refine m_seq hx (fun a ys ex ha hys => ?_)
    have hyl := hys.length
    refine l_tup (xs := ys) (fun D i H' => ∃ xs, H' D = some (.lst xs) ∧ Ims H' xs ((ds.take i).filter (kin ["out", "touch", "drop", "stop"])) ∧ Same H H') (fun D hD => ⟨[], upd_same, .nil, Same.new hD⟩) (fun D hD i H' _ ⟨_, _, _, s1⟩ => SqT.of (s1 _ _ ha)) ?_ ?_
    · rintro D hD i v H' hi ⟨xs, hDl, hxs, s1⟩
      have hi' := (List.getElem?_eq_some_iff.mp hi).1
      obtain ⟨d, hd⟩ : ∃ d, ds[i]? = some d := ⟨_, List.getElem?_eq_getElem (by omega)⟩
      obtain ⟨v', hv', hvd⟩ := hys.get hd
      rw [hi] at hv'
      cases hv'
      have hed := he d (List.mem_of_getElem? hd)
      obtain ⟨k, t, rest, rfl, hk, hr, hrl⟩ := hed.ex
      walk_at "go"
      refine m_ix (hvd.same s1) (n := 0) rfl rfl (fun u hu => ?_)
      rw [hu.str_inv]
      walk_at "go"
      refine ⟨by show 4 ≤ sizeLine; decide, fun p hp => ?_⟩
      refine g_inTs (ks := ["out", "touch", "drop", "stop"]) (.inl upd_same) ?_
      walk_at "go"
      have s2 := s1.trans (Same.new (o := .tup ((["out", "touch", "drop", "stop"] : List Str).map V.str)) hp)
      have hDl2 := keep_new (o' := .tup ((["out", "touch", "drop", "stop"] : List Str).map V.str)) hDl hp
      have hxs2 := hxs.same (Same.new (o := .tup ((["out", "touch", "drop", "stop"] : List Str).map V.str)) hp)
      rw [filter_take_succ hd]
      refine g_ifB (fun h4 => ?_) (fun h4 => ?_)
      · walk_at "go"
        have e4 : kin ["out", "touch", "drop", "stop"] (.tuple (.str k :: .int t :: rest)) = true := h4
        rw [e4, if_pos rfl]
        refine ⟨xs, hDl2, szb (by rw [hxs.length]; have := List.length_filter_le (kin ["out", "touch", "drop", "stop"]) (ds.take i); rw [List.length_take] at this; omega), xs ++ [v], upd_same, ?_, Same.mut s2 hD⟩
        exact (hxs2.append (Ims.one (hvd.same s2))).keep (Keep.set (List.mem_singleton.mpr rfl)) (NoTup.one hDl2 (fun _ z => by cases z))
      · have e4 : kin ["out", "touch", "drop", "stop"] (.tuple (.str k :: .int t :: rest)) = false := h4
        rw [e4, if_neg Bool.false_ne_true, List.append_nil]
        exact ⟨xs, hDl2, hxs2, s2⟩
    · rintro D hD H' ⟨xs, hDl, hxs, s1⟩
      walk_at "go"
      rw [hyl, List.take_length] at hxs
      refine m_tupleL (SqL.of hDl) hxs (fun p H2 s2 _ hp => ?_)
      have e : viewD ds what = ds.filter (kin ["out", "touch", "drop", "stop"]) := by unfold viewD; rw [if_neg h1, if_neg h2, if_pos h3]
      rw [e] at hQ
      exact hQ p H2 (s1.trans s2) hp
  · walk_at "go"
    refine m_seq hx (fun a ys ex ha hys => ?_)
    have hyl := hys.length
    refine l_tup (xs := ys) (fun D i H' => ∃ xs, H' D = some (.lst xs) ∧ Ims H' xs (((ds.take i).filter (kin ["touch", "drop"])).map wt) ∧ Same H H') (fun D hD => ⟨[], upd_same, .nil, Same.new hD⟩) (fun D hD i H' _ ⟨_, _, _, s1⟩ => SqT.of (s1 _ _ ha)) ?_ ?_
    · rintro D hD i v H' hi ⟨xs, hDl, hxs, s1⟩
      have hi' := (List.getElem?_eq_some_iff.mp hi).1
      obtain ⟨d, hd⟩ : ∃ d, ds[i]? = some d := ⟨_, List.getElem?_eq_getElem (by omega)⟩
      obtain ⟨v', hv', hvd⟩ := hys.get hd
      rw [hi] at hv'
      cases hv'
      have hed := he d (List.mem_of_getElem? hd)
      obtain ⟨k, t, rest, rfl, hk, hr, hrl⟩ := hed.ex
      walk_at "go"
      refine m_ix (hvd.same s1) (n := 0) rfl rfl (fun u hu => ?_)
      rw [hu.str_inv]
      walk_at "go"
      refine ⟨by show 2 ≤ sizeLine; decide, fun p hp => ?_⟩
      refine g_inTs (ks := ["touch", "drop"]) (.inl upd_same) ?_
      walk_at "go"
      have s2 := s1.trans (Same.new (o := .tup ((["touch", "drop"] : List Str).map V.str)) hp)
      have hDl2 := keep_new (o' := .tup ((["touch", "drop"] : List Str).map V.str)) hDl hp
      have hxs2 := hxs.same (Same.new (o := .tup ((["touch", "drop"] : List Str).map V.str)) hp)
      rw [filter_take_succ hd]
      refine g_ifB (fun h4 => ?_) (fun h4 => ?_)
      · walk_at "go"
        have e4 : kin ["touch", "drop"] (.tuple (.str k :: .int t :: rest)) = true := h4
        rw [e4, if_pos rfl]
        refine ⟨v, _, rfl, hvd.same s2, hed, fun q H3 s3 hq => ?_⟩
        walk_at "go"
        refine ⟨xs, s3 _ _ hDl2, szb (by rw [hxs.length, List.length_map]; have := List.length_filter_le (kin ["touch", "drop"]) (ds.take i); rw [List.length_take] at this; omega), xs ++ [.ref q], upd_same, ?_, Same.mut (s2.trans s3) hD⟩
        rw [List.map_append]
        exact ((hxs2.same s3).append (Ims.one hq)).keep (Keep.set (List.mem_singleton.mpr rfl)) (NoTup.one (s3 _ _ hDl2) (fun _ z => by cases z))
      · have e4 : kin ["touch", "drop"] (.tuple (.str k :: .int t :: rest)) = false := h4
        rw [e4, if_neg Bool.false_ne_true, List.append_nil]
        exact ⟨xs, hDl2, hxs2, s2⟩
    · rintro D hD H' ⟨xs, hDl, hxs, s1⟩
      walk_at "go"
      rw [hyl, List.take_length] at hxs
      refine m_tupleL (SqL.of hDl) hxs (fun p H2 s2 _ hp => ?_)
      have e : viewD ds what = (ds.filter (kin ["touch", "drop"])).map wt := by unfold viewD; rw [if_neg h1, if_neg h2, if_neg h3]
      rw [e] at hQ
      exact hQ p H2 (s1.trans s2) hp



/-! ### classes of numbers below n -/
section
variable (E : Nat → Nat → Bool)
def ldE (l : Nat) : Bool := (List.range l).all fun j => !E j l
def leads (n : Nat) : List Nat := (List.range n).filter (ldE E)
def clsE (n l : Nat) : List Nat := (List.range n).filter fun j => E j l
def grpE (n : Nat) : List (List Nat) := (leads E n).map (clsE E n)
end
structure EqB (E : Nat → Nat → Bool) : Prop where
  r : ∀ i, E i i = true
  s : ∀ i j, E i j = true → E j i = true
  t : ∀ i j k, E i j = true → E j k = true → E i k = true
section
variable {E : Nat → Nat → Bool} {n i l : Nat}
theorem ldE_ff : ldE E l = false → ∃ j, j < l ∧ E j l = true := fun h => by
  unfold ldE at h
  rw [List.all_eq_false] at h
  obtain ⟨j, h1, h2⟩ := h
  rw [List.mem_range] at h1
  refine ⟨j, h1, ?_⟩
  cases e : E j l with
  | true => rfl
  | false => rw [e] at h2; exact absurd rfl h2
theorem ldE_tt : ldE E l = true → ∀ j, j < l → E j l = false := fun h j hj => by
  unfold ldE at h
  rw [List.all_eq_true] at h
  have := h j (List.mem_range.mpr hj)
  cases e : E j l with
  | true => rw [e] at this; exact absurd this (by decide)
  | false => rfl
theorem mem_leads : l ∈ leads E n ↔ l < n ∧ ldE E l = true := by
  unfold leads
  rw [List.mem_filter, List.mem_range]
/-- each has a leader -/
theorem lead_of (h : EqB E) : ∀ i, ∃ l, l ≤ i ∧ ldE E l = true ∧ E l i = true := fun i => by
  induction i using Nat.strongRecOn with
  | ind i ih =>
    cases e : ldE E i with
    | true => exact ⟨i, Nat.le_refl _, e, h.r i⟩
    | false =>
      obtain ⟨j, hj, hE⟩ := ldE_ff e
      obtain ⟨l, h1, h2, h3⟩ := ih j hj
      exact ⟨l, by omega, h2, h.t _ _ _ h3 hE⟩
theorem lead_one (h : EqB E) {l m i : Nat} (hl : ldE E l = true) (hm : ldE E m = true) (e1 : E l i = true) (e2 : E m i = true) : l = m := by
  have e : E l m = true := h.t _ _ _ e1 (h.s _ _ e2)
  rcases Nat.lt_trichotomy l m with c | c | c
  · rw [ldE_tt hm l c] at e; cases e
  · exact c
  · have e' := h.s _ _ e
    rw [ldE_tt hl m c] at e'; cases e'
theorem leads_nd : (leads E n).Nodup := List.Nodup.sublist List.filter_sublist List.nodup_range
theorem leads_succ : leads E (i + 1) = leads E i ++ if ldE E i then [i] else [] := by
  unfold leads
  rw [List.range_succ, List.filter_append]
  cases e : ldE E i with
  | true => rw [List.filter_cons_of_pos e]; rfl
  | false => rw [List.filter_cons_of_neg (by rw [e]; decide)]; rfl
theorem cls_succ : clsE E (i + 1) l = clsE E i l ++ if E i l then [i] else [] := by
  unfold clsE
  rw [List.range_succ, List.filter_append]
  cases e : E i l <;> simp [List.filter, e]
/-- one that is like an earlier one -/
theorem grp_old (h : EqB E) (hi : ldE E i = false) : ∃ p l, (leads E i)[p]? = some l ∧ E l i = true ∧ (∀ m l', m < p → (leads E i)[m]? = some l' → E l' i = false) ∧
    leads E (i + 1) = leads E i ∧ (grpE E i)[p]? = some (clsE E i l) ∧ grpE E (i + 1) = (grpE E i).set p (clsE E i l ++ [i]) := by
  obtain ⟨j, hj, hE⟩ := ldE_ff hi
  obtain ⟨l, h1, h2, h3⟩ := lead_of h j
  have hl : E l i = true := h.t _ _ _ h3 hE
  obtain ⟨p, hp⟩ := List.getElem?_of_mem (mem_leads.mpr ⟨by omega, h2⟩ : l ∈ leads E i)
  have hls : leads E (i + 1) = leads E i := by rw [leads_succ, hi]; simp
  have only : ∀ m l', (leads E i)[m]? = some l' → E l' i = true → m = p := fun m l' hm he => by
    have e := lead_one h (mem_leads.mp (List.mem_of_getElem? hm)).2 h2 he hl
    subst e
    obtain ⟨a1, b1⟩ := List.getElem?_eq_some_iff.mp hm
    obtain ⟨a2, b2⟩ := List.getElem?_eq_some_iff.mp hp
    exact (List.getElem_inj (h₀ := a1) (h₁ := a2) leads_nd).mp (b1.trans b2.symm)
  refine ⟨p, l, hp, hl, fun m l' hmp hm => ?_, hls, ?_, ?_⟩
  · cases e : E l' i with
    | false => rfl
    | true => exact absurd (only m l' hm e) (by omega)
  · unfold grpE
    rw [List.getElem?_map, hp]
    rfl
  · refine List.ext_getElem? fun m => ?_
    have hpl := (List.getElem?_eq_some_iff.mp hp).1
    unfold grpE
    rw [hls, List.getElem?_map, List.getElem?_set, List.length_map]
    by_cases hm : p = m
    · subst hm
      rw [if_pos rfl, if_pos hpl, hp]
      show some (clsE E (i + 1) l) = _
      rw [cls_succ, h.s _ _ hl, if_pos rfl]
    · rw [if_neg hm, List.getElem?_map]
      cases e : (leads E i)[m]? with
      | none => rfl
      | some l' =>
        show some (clsE E (i + 1) l') = some (clsE E i l')
        have hx : E i l' = false := by
          cases e2 : E i l' with
          | false => rfl
          | true => exact absurd (only m l' e (h.s _ _ e2)).symm hm
        rw [cls_succ, hx, if_neg (by decide), List.append_nil]
/-- one that is like none -/
theorem grp_new (h : EqB E) (hi : ldE E i = true) : (∀ l ∈ leads E i, E l i = false) ∧ leads E (i + 1) = leads E i ++ [i] ∧ grpE E (i + 1) = grpE E i ++ [[i]] := by
  have no : ∀ l ∈ leads E i, E l i = false := fun l hl => ldE_tt hi l (mem_leads.mp hl).1
  have hls : leads E (i + 1) = leads E i ++ [i] := by rw [leads_succ, hi, if_pos rfl]
  refine ⟨no, hls, ?_⟩
  unfold grpE
  rw [hls, List.map_append]
  have a : (leads E i).map (clsE E (i + 1)) = (leads E i).map (clsE E i) := List.map_congr_left fun l hl => by
    have hx : E i l = false := by
      cases e2 : E i l with
      | false => rfl
      | true => exact absurd (h.s _ _ e2) (by rw [no l hl]; decide)
    rw [cls_succ, hx, if_neg (by decide), List.append_nil]
  have b : clsE E (i + 1) i = [i] := by
    rw [cls_succ, h.r i, if_pos rfl]
    have : clsE E i i = [] := List.filter_eq_nil_iff.mpr fun j hj => by
      rw [ldE_tt hi j (List.mem_range.mp hj)]
      decide
    rw [this]
    rfl
  rw [a]
  show _ ++ [clsE E (i + 1) i] = _
  rw [b]
/-- the first of a class is its leader -/
theorem cls_head (h : EqB E) (hk : i < n) : ∃ x xs, clsE E n i = x :: xs ∧ (x = i ↔ ldE E i = true) := by
  have hm : i ∈ clsE E n i := List.mem_filter.mpr ⟨List.mem_range.mpr hk, h.r i⟩
  cases e : clsE E n i with
  | nil => rw [e] at hm; cases hm
  | cons x xs =>
    refine ⟨x, xs, rfl, ?_⟩
    have hx : x ∈ clsE E n i := by rw [e]; exact List.mem_cons_self
    have hx2 : E x i = true := (List.mem_filter.mp hx).2
    have asc : (clsE E n i).Pairwise (· < ·) := List.Pairwise.sublist List.filter_sublist List.pairwise_lt_range
    rw [e] at asc hm
    constructor
    · rintro rfl
      unfold ldE
      rw [List.all_eq_true]
      intro j hj
      have hj := List.mem_range.mp hj
      cases ej : E j x with
      | false => rfl
      | true =>
        have hjm : j ∈ x :: xs := by
          rw [← e]
          exact List.mem_filter.mpr ⟨List.mem_range.mpr (by omega), ej⟩
        rcases List.mem_cons.mp hjm with hjm | hjm
        · omega
        · have := List.rel_of_pairwise_cons asc hjm
          omega
    · intro hl
      rcases List.mem_cons.mp hm with hm | hm
      · exact hm.symm
      · have := List.rel_of_pairwise_cons asc hm
        rw [ldE_tt hl x this] at hx2
        cases hx2
/-- finer classes lie within rougher ones -/
theorem grp_within {F : Nat → Nat → Bool} (h : EqB F) (hEF : ∀ j l, j < n → l < n → E j l = true → F j l = true) : ∀ g ∈ grpE E n, ∃ f ∈ grpE F n, ∀ k ∈ g, k ∈ f := fun g hg => by
  obtain ⟨l, hl, rfl⟩ := List.mem_map.mp hg
  have hln := (mem_leads.mp hl).1
  obtain ⟨m, h1, h2, h3⟩ := lead_of h l
  refine ⟨clsE F n m, List.mem_map.mpr ⟨m, mem_leads.mpr ⟨by omega, h2⟩, rfl⟩, fun k hk => ?_⟩
  obtain ⟨hk1, hk2⟩ := List.mem_filter.mp hk
  exact List.mem_filter.mpr ⟨hk1, h.t _ _ _ (hEF _ _ (List.mem_range.mp hk1) hln hk2) (h.s _ _ h3)⟩
theorem grp_len : (grpE E n).length ≤ n := by
  unfold grpE leads
  rw [List.length_map]
  exact Nat.le_trans (List.length_filter_le _ _) (by rw [List.length_range]; exact Nat.le_refl _)
theorem leads_len : (leads E n).length ≤ n := by
  unfold leads
  exact Nat.le_trans (List.length_filter_le _ _) (by rw [List.length_range]; exact Nat.le_refl _)
theorem grp_mem {g : List Nat} (h : g ∈ grpE E n) : g.length ≤ n ∧ ∀ k ∈ g, k < n := by
  obtain ⟨l, _, rfl⟩ := List.mem_map.mp h
  refine ⟨?_, fun k hk => List.mem_range.mp (List.mem_filter.mp hk).1⟩
  unfold clsE
  exact Nat.le_trans (List.length_filter_le _ _) (by rw [List.length_range]; exact Nat.le_refl _)
end
/-! ### where == is sameness -/
inductive RK : Nat → List PyData → Prop
  | z : RK 0 []
  | o (x : Int) : RK 1 [.int x]
  | t (x : Int) (b : Bool) : RK 2 [.int x, .bool b]
def shp (k : Str) : Nat := if k = "stop" then 0 else if k = "out" ∨ k = "back" then 1 else 2
theorem RK.eq {n : Nat} {r r' : List PyData} (h : RK n r) (g : RK n r') (e : PyData.eqvAll r r' = true) : r = r' := by
  cases h with
  | z => cases g; rfl
  | o x =>
    cases g with
    | o y =>
      simp only [PyData.eqvAll, PyData.eqv, Bool.and_true, beq_iff_eq] at e
      rw [e]
  | t x b =>
    cases g with
    | t y c =>
      simp only [PyData.eqvAll, PyData.eqv, Bool.and_true, Bool.and_eq_true, beq_iff_eq] at e
      rw [e.1, e.2]
theorem RK.lay {n : Nat} {r : List PyData} (h : RK n r) : (∀ x ∈ r, Lay 0 x) ∧ r.length ≤ 2 := by
  cases h with
  | z => exact ⟨by simp, by decide⟩
  | o x => exact ⟨by simp [Lay.int], by simp⟩
  | t x b =>
    refine ⟨fun y hy => ?_, by simp⟩
    simp only [List.mem_cons, List.not_mem_nil, or_false] at hy
    rcases hy with rfl | rfl
    · exact .int
    · exact .bl
/-- an event with its kind's form -/
def EvK (d : PyData) : Prop := ∃ (k : Str) (t : Int) (r : List PyData), d = .tuple (.str k :: .int t :: r) ∧ PyData.strOk k = true ∧ RK (shp k) r
theorem EvK.evd {d : PyData} (h : EvK d) : Evd d := by
  obtain ⟨k, t, r, e, h1, h2⟩ := h
  exact ⟨k, t, r, e, h1, h2.lay.1, h2.lay.2⟩
theorem rk_of {k : Str} {n : Nat} {r : List PyData} (e : shp k = n) (h : RK n r) : RK (shp k) r := by
  rw [e]
  exact h
theorem ev_k (e : Ev) : EvK e.d := by
  cases e with
  | visit t c l f => exact ⟨tdS t, c, [.int l, .bool f], rfl, by cases t <;> decide +kernel, rk_of (n := 2) (by cases t <;> decide +kernel) (.t l f)⟩
  | fetch c l f => exact ⟨_, c, [.int l, .bool f], rfl, by decide +kernel, rk_of (n := 2) (by decide +kernel) (.t l f)⟩
  | data c l f => exact ⟨_, c, [.int l, .bool f], rfl, by decide +kernel, rk_of (n := 2) (by decide +kernel) (.t l f)⟩
  | out c x => exact ⟨_, c, [.int x], rfl, by decide +kernel, rk_of (n := 1) (by decide +kernel) (.o x)⟩
  | guess c a t => exact ⟨_, c, [.int (a : Int), .bool t], rfl, by decide +kernel, rk_of (n := 2) (by decide +kernel) (.t _ t)⟩
  | back c a => exact ⟨_, c, [.int (a : Int)], rfl, by decide +kernel, rk_of (n := 1) (by decide +kernel) (.o _)⟩
  | stop c => exact ⟨_, c, [], rfl, by decide +kernel, rk_of (n := 0) (by decide +kernel) .z⟩
theorem evk_eq {d e : PyData} (h : EvK d) (g : EvK e) (q : PyData.eqv d e = true) : d = e := by
  obtain ⟨k, t, r, rfl, _, h2⟩ := h
  obtain ⟨k', t', r', rfl, _, g2⟩ := g
  simp only [PyData.eqv, PyData.eqvAll, Bool.and_eq_true, beq_iff_eq] at q
  obtain ⟨rfl, rfl, q⟩ := q
  rw [h2.eq g2 q]
theorem evk_eqW {d e : PyData} (h : EvK d) (g : EvK e) (q : PyData.eqv (wt d) (wt e) = true) : wt d = wt e := by
  obtain ⟨k, t, r, rfl, _, h2⟩ := h
  obtain ⟨k', t', r', rfl, _, g2⟩ := g
  simp only [wt, PyData.eqv, PyData.eqvAll, Bool.and_eq_true, beq_iff_eq] at q
  obtain ⟨rfl, q⟩ := q
  show PyData.tuple (.str k :: r) = .tuple (.str k :: r')
  rw [h2.eq g2 q]
theorem all_eq : ∀ {ds es : List PyData}, (∀ d ∈ ds, ∀ e ∈ es, PyData.eqv d e = true → d = e) → PyData.eqvAll ds es = true → ds = es
  | [], [], _, _ => rfl
  | [], _ :: _, _, h => by simp [PyData.eqvAll] at h
  | _ :: _, [], _, h => by simp [PyData.eqvAll] at h
  | d :: ds, e :: es, hx, h => by
    simp only [PyData.eqvAll, Bool.and_eq_true] at h
    rw [hx d List.mem_cons_self e List.mem_cons_self h.1, all_eq (fun d hd e he => hx d (List.mem_cons_of_mem _ hd) e (List.mem_cons_of_mem _ he)) h.2]
theorem viewD_c (ds : List PyData) (what : Str) : (viewD ds what = ds ∧ ∀ es, viewD es what = es) ∨ (viewD ds what = ds.map wt ∧ ∀ es, viewD es what = es.map wt) ∨ (∃ p, viewD ds what = ds.filter p ∧ ∀ es, viewD es what = es.filter p) ∨ ∃ p, viewD ds what = (ds.filter p).map wt ∧ ∀ es, viewD es what = (es.filter p).map wt := by
  unfold viewD
  by_cases h1 : what = "all"
  · rw [if_pos h1]
    exact .inl ⟨rfl, fun es => by rw [if_pos h1]⟩
  rw [if_neg h1]
  by_cases h2 : what = "lines"
  · rw [if_pos h2]
    exact .inr (.inl ⟨rfl, fun es => by rw [if_neg h1, if_pos h2]⟩)
  rw [if_neg h2]
  by_cases h3 : what = "times"
  · rw [if_pos h3]
    exact .inr (.inr (.inl ⟨_, rfl, fun es => by rw [if_neg h1, if_neg h2, if_pos h3]⟩))
  · rw [if_neg h3]
    exact .inr (.inr (.inr ⟨_, rfl, fun es => by rw [if_neg h1, if_neg h2, if_neg h3]⟩))
theorem view_eq {ds es : List PyData} {what : Str} (h : ∀ d ∈ ds, EvK d) (g : ∀ e ∈ es, EvK e) (q : PyData.eqv (.tuple (viewD ds what)) (.tuple (viewD es what)) = true) : viewD ds what = viewD es what := by
  rw [PyData.eqv] at q
  rcases viewD_c ds what with ⟨e1, e2⟩ | ⟨e1, e2⟩ | ⟨p, e1, e2⟩ | ⟨p, e1, e2⟩
  · rw [e1, e2 es] at q ⊢
    exact all_eq (fun d hd e he => evk_eq (h d hd) (g e he)) q
  · rw [e1, e2 es] at q ⊢
    refine all_eq (fun d hd e he => ?_) q
    obtain ⟨d', hd', rfl⟩ := List.mem_map.mp hd
    obtain ⟨e', he', rfl⟩ := List.mem_map.mp he
    exact evk_eqW (h d' hd') (g e' he')
  · rw [e1, e2 es] at q ⊢
    exact all_eq (fun d hd e he => evk_eq (h d (List.mem_filter.mp hd).1) (g e (List.mem_filter.mp he).1)) q
  · rw [e1, e2 es] at q ⊢
    refine all_eq (fun d hd e he => ?_) q
    obtain ⟨d', hd', rfl⟩ := List.mem_map.mp hd
    obtain ⟨e', he', rfl⟩ := List.mem_map.mp he
    exact evk_eqW (h d' (List.mem_filter.mp hd').1) (g e' (List.mem_filter.mp he').1)
theorem view_lay2 {ds : List PyData} {what : Str} (h : ∀ d ∈ ds, Evd d) : Lay 2 (.tuple (viewD ds what)) := by
  refine Lay.tup fun d hd => ?_
  rcases viewD_c ds what with ⟨e1, e2⟩ | ⟨e1, e2⟩ | ⟨p, e1, e2⟩ | ⟨p, e1, e2⟩
  · rw [e1] at hd
    exact (h d hd).lay
  · rw [e1] at hd
    obtain ⟨d', hd', rfl⟩ := List.mem_map.mp hd
    exact wt_lay (h d' hd')
  · rw [e1] at hd
    exact (h d (List.mem_filter.mp hd).1).lay
  · rw [e1] at hd
    obtain ⟨d', hd', rfl⟩ := List.mem_map.mp hd
    exact wt_lay (h d' (List.mem_filter.mp hd').1)
/-- views of some traces, which of them are equal -/
def vwT (what : Str) (tr : List Ev) : PyData := .tuple (viewD (tr.map Ev.d) what)
open Classical in
noncomputable def eqT (what : Str) (trs : List (List Ev)) (i j : Nat) : Bool := decide (vwT what (trs.getD i []) = vwT what (trs.getD j []))
theorem eqT_b {what : Str} {trs : List (List Ev)} : EqB (eqT what trs) := ⟨fun i => by simp [eqT], fun i j h => by
  simp only [eqT, decide_eq_true_eq] at h ⊢
  exact h.symm, fun i j k h g => by
  simp only [eqT, decide_eq_true_eq] at h g ⊢
  exact h.trans g⟩
theorem map_evk {tr : List Ev} : ∀ d ∈ tr.map Ev.d, EvK d := fun d hd => by
  obtain ⟨e, _, rfl⟩ := List.mem_map.mp hd
  exact ev_k e
theorem map_evd {tr : List Ev} : ∀ d ∈ tr.map Ev.d, Evd d := fun d hd => (map_evk d hd).evd
theorem vw_lay {what : Str} {tr : List Ev} : Lay 2 (vwT what tr) := view_lay2 map_evd
theorem vw_eqv {what : Str} {tr tr' : List Ev} : PyData.eqv (vwT what tr) (vwT what tr') = true ↔ vwT what tr = vwT what tr' := by
  constructor
  · intro h
    unfold vwT at h ⊢
    rw [view_eq map_evk map_evk h]
  · intro h
    rw [h]
    exact vw_lay.refl
theorem eqT_eqv {what : Str} {trs : List (List Ev)} {i j : Nat} : PyData.eqv (vwT what (trs.getD i [])) (vwT what (trs.getD j [])) = eqT what trs i j := by
  rw [Bool.eq_iff_iff, vw_eqv]
  simp [eqT]
theorem wt_nil {what : Str} : viewD [] what = [] := by
  unfold viewD
  split
  · rfl
  · split
    · rfl
    · split <;> rfl
/-- the whole trace tells most -/
theorem eqT_all {what : Str} {trs : List (List Ev)} {i j : Nat} (h : eqT "all" trs i j = true) : eqT what trs i j = true := by
  simp only [eqT, decide_eq_true_eq] at h ⊢
  have e : ∀ tr : List Ev, vwT "all" tr = .tuple (tr.map Ev.d) := fun tr => by
    unfold vwT viewD
    rw [if_pos rfl]
  rw [e, e] at h
  have h2 := PyData.tuple.inj h
  unfold vwT
  rw [h2]


/-! ### mixed, groups, learns_nothing -/
def mxAt (rgs : List Rg) (cs os : List (List Int)) (k : Nat) : List Int := match rgs[k]? with
  | some g => if g.l = "secret" then os.getD k [] else cs.getD k []
  | none => []
def mixL (rgs : List Rg) (cs os : List (List Int)) : List (List Int) := (List.range rgs.length).map (mxAt rgs cs os)
theorem mx_at {rgs : List Rg} {cs os : List (List Int)} {k : Nat} {g : Rg} (h : rgs[k]? = some g) : mxAt rgs cs os k = if g.l = "secret" then os.getD k [] else cs.getD k [] := by
  unfold mxAt
  rw [h]
theorem gAtL {cs : List (List Int)} {k : Nat} (h : k < cs.length) : cs[k]? = some (cs.getD k []) := by
  rw [List.getD_eq_getElem?_getD, List.getElem?_eq_getElem h]
  rfl
theorem mix_ok {rgs : List Rg} {cs os : List (List Int)} (h : MemOk rgs cs) (g : MemOk rgs os) : MemOk rgs (mixL rgs cs os) := by
  have hl := h.l
  have gl := g.l
  refine ⟨by unfold mixL; rw [List.length_map, List.length_range], h.m, fun i r c hr hc => ?_, h.z, fun c hc x hx => ?_, h.s⟩
  · have hi := (List.getElem?_eq_some_iff.mp hr).1
    unfold mixL at hc
    rw [List.getElem?_map, List.getElem?_range hi] at hc
    have hc : some (mxAt rgs cs os i) = some c := hc
    rw [mx_at hr] at hc
    obtain rfl := Option.some.inj hc
    split
    · exact g.n i r _ hr (gAtL (by omega))
    · exact h.n i r _ hr (gAtL (by omega))
  · unfold mixL at hc
    obtain ⟨i, hi, rfl⟩ := List.mem_map.mp hc
    have hi := List.mem_range.mp hi
    rw [mx_at (List.getElem?_eq_getElem hi)] at hx
    split at hx
    · exact g.w _ (List.mem_of_getElem? (gAtL (k := i) (by omega))) x hx
    · exact h.w _ (List.mem_of_getElem? (gAtL (k := i) (by omega))) x hx
theorem map_rsuc {α : Type} {f : Nat → α} {i : Nat} : (List.range (i + 1)).map f = (List.range i).map f ++ [f i] := by
  rw [List.range_succ, List.map_append]
  rfl
def sp_mixed (K : PySem.W.Frag) : Sp := fun vs H Q _ => ∃ (code cont oth : V) (rgs : List Rg) (rows : List Row) (cs os : List (List Int)), vs = [code, cont, oth] ∧ Im H code (codeD rgs rows) ∧ Im H cont (contD cs) ∧ Im H oth (contD os) ∧ MemOk rgs cs ∧ MemOk rgs os ∧
  ∀ H' v, Same H H' → Im H' v (contD (mixL rgs cs os)) → Q v H'
theorem sc_mixed : FnScope ["code", "contents", "others", "parts", "k"] ["code", "contents", "others"] (defScope (topS 38)) := ⟨rfl, rfl, rfl, by decide +kernel, rfl, by decide +kernel, by decide +kernel⟩
theorem ok_mixed (T : Txt fa fn K mg (XOk cs xcs K w)) : Dn P w K mg base CX0 1 "mixed" ["code", "contents", "others"] (sp_mixed K) := by
  refine mk_dn (d := dOf "mixed" 38) T 19 19 rfl rfl rfl rfl rfl sc_mixed (by walk_at "len") (fun _ _ _ _ _ _ us hl => match us, hl with | [_, _, _], _ => rfl) (fun cdv A outer s H vs Q E hr h => ⟨_, (pss_cons (ps_set (i := 3) sc_mixed.nd rfl (.inl rfl) (pe_lst pa_nil))
      (pss_cons (ps_for PassesOwn.never rfl (pi_r1 rfl (T.free 132 rfl) (pa_cons (pe_callB (c_len (K := K) rfl) rfl (T.free 128 rfl) (by decide +kernel) (pa_cons (pe_ixU (K := K) rfl (hu_of hr) (pv 0) pe_int) pa_nil)) pa_nil)) (pg_name (i := 4) sc_mixed.nd rfl (.inl rfl)) (pss_one (ps_if (pt_cmpR (op_eqU (K := K) rfl hr.units) (pe_ixU (K := K) rfl (hu_of hr) (pe_ixU (K := K) rfl (hu_of hr) (pe_ixU (K := K) rfl (hu_of hr) (pv 0) pe_int) (pv 4)) pe_int) pe_str (nomark _)) (pss_one (ps_expr (pe_bm PySem.F.plainAttrs_list PySem.F.slot_list_append PySem.F.type_list_append mt_append (pv 3) (pa_cons (pe_ixU (K := K) rfl (hu_of hr) (pv 2) (pv 4)) pa_nil)))) (pss_one (ps_expr (pe_bm PySem.F.plainAttrs_list PySem.F.slot_list_append PySem.F.type_list_append mt_append (pv 3) (pa_cons (pe_ixU (K := K) rfl (hu_of hr) (pv 1) (pv 4)) pa_nil)))))))
      (pss_one (ps_ret (pe_callTy (c_tuple (K := K) rfl) rfl (T.free 136 rfl) (by decide +kernel) (pa_cons (pv 3) pa_nil)))))), ?_⟩)
  obtain ⟨code, cont, oth, rgs, rows, cs, os, rfl, ic, ik, io, mo, mq, hQ⟩ := h
  have hm := mo.m
  have hl := mo.l
  have gl := mq.l
  walk_at "go"
  refine ⟨by decide, fun p hp => ?_⟩
  have s1 := Same.new (o := .lst []) hp
  walk_at "go"
  refine m_ix (ic.same s1) (n := 0) rfl rfl (fun v hv => ?_)
  walk_at "go"
  refine m_len hv ?_
  rw [List.length_map]
  walk_at "go"
  refine f_range (fun i σ H' => ∃ (k : Option V) (xs : List V), σ = [some code, some cont, some oth, some (.ref p), k] ∧ Same H H' ∧ H' p = some (.lst xs) ∧ Ims H' xs (((List.range i).map (mxAt rgs cs os)).map cD)) ⟨_, [], rfl, s1, upd_same, .nil⟩ ?_ ?_
  · rintro i σ H1 hi ⟨k, xs, rfl, sm, hpl, ims⟩
    have hir : i < rgs.length := by omega
    have hxl : xs.length = i := by rw [ims.length, List.length_map, List.length_map, List.length_range]
    have hg : rgs[i]? = some (rgs[i]'hir) := List.getElem?_eq_getElem _
    generalize rgs[i]'hir = g at hg
    have mg := mx_at (cs := cs) (os := os) hg
    have e0 : (0 : Int) + (i : Int) = (i : Int) := by omega
    walk_at "go"
    rw [e0]
    refine m_ix (ic.same sm) (n := 0) rfl rfl (fun v1 hv1 => ?_)
    walk_at "go"
    refine m_ix hv1 (n := i) rfl (by rw [List.getElem?_map, hg]; rfl) (fun v2 hv2 => ?_)
    walk_at "go"
    refine m_ix hv2 (n := 2) rfl rfl (fun v3 hv3 => ?_)
    rw [hv3.str_inv]
    walk_at "go"
    refine g_if (fun c => ?_) (fun c => ?_)
    · walk_at "go"
      refine m_ix (io.same sm) (n := i) rfl (by rw [List.getElem?_map, gAtL (by omega)]; rfl) (fun y hy => ?_)
      walk_at "go"
      refine ⟨p, xs, y, rfl, rfl, hpl, szl (by omega), ?_⟩
      walk_at "go"
      refine ⟨_, xs ++ [y], rfl, Same.mut sm hp, upd_same, ?_⟩
      rw [map_rsuc, List.map_append, mg, if_pos c]
      exact ims_snoc (H2 := H1) ims hy hpl
    · walk_at "go"
      refine m_ix (ik.same sm) (n := i) rfl (by rw [List.getElem?_map, gAtL (by omega)]; rfl) (fun y hy => ?_)
      walk_at "go"
      refine ⟨p, xs, y, rfl, rfl, hpl, szl (by omega), ?_⟩
      walk_at "go"
      refine ⟨_, xs ++ [y], rfl, Same.mut sm hp, upd_same, ?_⟩
      rw [map_rsuc, List.map_append, mg, if_neg c]
      exact ims_snoc (H2 := H1) ims hy hpl
  · rintro σ H1 ⟨k, xs, rfl, sm, hpl, ims⟩
    walk_at "go"
    refine m_tupleL (SqL.of hpl) ims (fun q H2 s2 _ hq => ?_)
    exact hQ _ _ (sm.trans s2) hq
def vN (g : List Nat) : List V := g.map fun (k : Nat) => V.int (k : Int)
def gD (g : List Nat) : PyData := .tuple (g.map fun (k : Nat) => PyData.int (k : Int))
def gsD (gs : List (List Nat)) : PyData := .tuple (gs.map gD)
theorem ims_vN {H : Hp} : ∀ (g : List Nat), Ims H (vN g) (g.map fun (k : Nat) => PyData.int (k : Int))
  | [] => .nil
  | n :: g => .cons (.int _) (ims_vN g)
def trsF (t : Sett) (rows : List Row) (rgs : List Rg) (cs : List (List Int)) (n : Nat) (oss : List (List (List Int))) : List (List Ev) := oss.map fun os => (machR t rows rgs (mixL rgs cs os) n).2.2.tr
theorem list_shaped {ds : List PyData} (h : ∀ d ∈ ds, Lay 2 d) : SeqAt.shaped (.list ds) = true := shaped_of (by
    rw [PyData.canLay0]
    exact layAll_mem fun d hd => (h d hd).1) (by
    rw [PyData.depth]
    have : PyData.depthAll ds ≤ 2 := depthAll_mem fun d hd => (h d hd).2
    omega)
theorem m_indexD {X : Cx} {K : PySem.W.Frag} (hK : X.K = K) (hu : X.A.units + 65 < cLine) : MtR X "list.index" (rIndexD K) := by
  subst hK
  exact mt_indexD hu
theorem m_inL {K : PySem.W.Frag} {H : Hp} {Q : VK} {x : V} {p : Addr} {d : PyData} {ds : List PyData} {xs : List V} (h : H p = some (.lst xs)) (im : Ims H xs ds) (hx : Im H x d) (sd : SeqAt.shaped d = true) (hs : ∀ d ∈ ds, Lay 2 d) (q : Q (.bl (ds.any fun z => PyData.eqv z d)) H) : rInU K false x (.ref p) H Q :=
  .inr (.inr (.inr ⟨d, ds, hx.dp, .inr (.lst (SqL.of h) im.dp), sd, layAll_mem fun d hd => (hs d hd).1, q⟩))
def vwsE (what : Str) (trs : List (List Ev)) (l : Nat) : PyData := vwT what (trs.getD l [])
theorem any_ld {what : Str} {trs : List (List Ev)} {i : Nat} : (((leads (eqT what trs) i).map (vwsE what trs)).any fun z => PyData.eqv z (vwsE what trs i)) = !ldE (eqT what trs) i := by
  rw [List.any_map]
  have e : ∀ l, ((fun z => PyData.eqv z (vwsE what trs i)) ∘ vwsE what trs) l = eqT what trs l i := fun l => eqT_eqv
  rw [Bool.eq_iff_iff, List.any_eq_true]
  cases c : ldE (eqT what trs) i with
  | true =>
    constructor
    · rintro ⟨l, hl, h⟩
      rw [e, (grp_new eqT_b c).1 l hl] at h
      cases h
    · intro h; cases h
  | false =>
    constructor
    · intro _; rfl
    · intro _
      obtain ⟨p, l, hp, hl, _⟩ := grp_old eqT_b c
      exact ⟨l, List.mem_of_getElem? hp, by rw [e]; exact hl⟩
theorem trs_at {t : Sett} {rows : List Row} {rgs : List Rg} {cs : List (List Int)} {n : Nat} {oss : List (List (List Int))} {i : Nat} {os : List (List Int)} (h : oss[i]? = some os) : (trsF t rows rgs cs n oss).getD i [] = (machR t rows rgs (mixL rgs cs os) n).2.2.tr := by
  unfold trsF
  rw [List.getD_eq_getElem?_getD, List.getElem?_map, h]
  rfl
def GW (vw f : Addr) (xs : List V) (fs : List Addr) (rs : List (List V)) (Y : List (Addr × HO)) : List (Addr × HO) := [(vw, .lst xs), (f, .lst (fs.map V.ref))] ++ (tab fs rs ++ Y)
theorem gw_perm {A T Y : List (Addr × HO)} {q : Addr × HO} : (A ++ (T ++ Y) ++ [q]).Perm (A ++ ((T ++ [q]) ++ Y)) := by
  rw [List.append_assoc, List.append_assoc, List.append_assoc]
  exact (List.perm_append_comm.append_left T).append_left A
def sp_groups (K : PySem.W.Frag) : Sp := fun vs H Q _ => ∃ (code cont ch sv : V) (what : Str) (n : Nat) (t : Sett) (rows : List Row) (rgs : List Rg) (cs : List (List Int)) (oss : List (List (List Int))) (Y : List (Addr × HO)), vs = [code, cont, ch, sv, .str what, .int (n : Int)] ∧ Has H Y ∧ Im H code (codeD rgs rows) ∧ Im H cont (contD cs) ∧ Im H ch (.tuple (oss.map fun os => contD os)) ∧ (∀ os ∈ oss, MemOk rgs os) ∧ oss.length ≤ 5 ∧ MemOk rgs cs ∧ CodeOk rows ∧ Im H sv t.d ∧ SettOk t ∧ n ≤ 2500 ∧
  ∀ H' v, KT H H' → Has H' Y → Im H' v (gsD (grpE (eqT what (trsF t rows rgs cs n oss)) oss.length)) → Q v H'
theorem sc_groups : FnScope ["code", "contents", "choices", "settings", "what", "steps", "views", "found", "k", "trace", "seen", "group"] ["code", "contents", "choices", "settings", "what", "steps"] (defScope (topS 41)) := ⟨rfl, rfl, rfl, by decide +kernel, rfl, by decide +kernel, by decide +kernel⟩
theorem ok_groups (T : Txt fa fn K mg (XOk cs xcs K w)) : Dn P w K mg base CX0 11 "groups" ["code", "contents", "choices", "settings", "what", "steps"] (sp_groups K) := by
  refine mk_dn (d := dOf "groups" 41) T 22 22 rfl rfl rfl rfl rfl sc_groups (by walk_at "len") (fun _ _ _ _ _ _ us hl => match us, hl with | [_, _, _, _, _, _], _ => rfl) (fun cdv A outer s H vs Q E hr h => ⟨_, (pss_cons (ps_set (i := 6) sc_groups.nd rfl (.inl rfl) (pe_lst pa_nil))
      (pss_cons (ps_set (i := 7) sc_groups.nd rfl (.inl rfl) (pe_lst pa_nil))
      (pss_cons (ps_for PassesOwn.never rfl (pi_r1 rfl (T.free 132 rfl) (pa_cons (pe_callB (c_len (K := K) rfl) rfl (T.free 128 rfl) (by decide +kernel) (pa_cons (pv 2) pa_nil)) pa_nil)) (pg_name (i := 8) sc_groups.nd rfl (.inl rfl)) (pss_cons (ps_set (i := 9) sc_groups.nd rfl (.inl rfl) (pe_ixU (K := K) rfl (hu_of hr) (pe_callD (K := K) rfl (ok_run_machine T) (hr.mono (by decide)) rfl pass0 (pa_cons (pv 0) (pa_cons (pe_callD (K := K) rfl (ok_mixed T) (hr.mono (by decide)) rfl pass0 (pa_cons (pv 0) (pa_cons (pv 1) (pa_cons (pe_ixU (K := K) rfl (hu_of hr) (pv 2) (pv 8)) pa_nil)))) (pa_cons (pv 3) (pa_cons (pv 5) pa_nil))))) pe_int))
      (pss_cons (ps_set (i := 10) sc_groups.nd rfl (.inl rfl) (pe_callD (K := K) rfl (ok_view T) (hr.mono (by decide)) rfl pass0 (pa_cons (pv 9) (pa_cons (pv 4) pa_nil))))
      (pss_one (ps_if (pt_cmpR (op_inU (K := K) rfl (hu65 hr)) (pv 10) (pv 6) (by rfl)) (pss_one (ps_expr (pe_bm PySem.F.plainAttrs_list PySem.F.slot_list_append PySem.F.type_list_append mt_append (pe_ixU (K := K) rfl (hu_of hr) (pv 7) (pe_bm PySem.F.plainAttrs_list PySem.F.slot_list_index PySem.F.type_list_index (m_indexD (K := K) rfl (hu65 hr)) (pv 6) (pa_cons (pv 10) pa_nil))) (pa_cons (pv 8) pa_nil)))) (pss_cons (ps_expr (pe_bm PySem.F.plainAttrs_list PySem.F.slot_list_append PySem.F.type_list_append mt_append (pv 6) (pa_cons (pv 10) pa_nil)))
      (pss_one (ps_expr (pe_bm PySem.F.plainAttrs_list PySem.F.slot_list_append PySem.F.type_list_append mt_append (pv 7) (pa_cons (pe_lst (pa_cons (pv 8) pa_nil)) pa_nil))))))))))
      (pss_one (ps_ret (pe_callTy (c_tuple (K := K) rfl) rfl (T.free 136 rfl) (by decide +kernel) (pa_cons (pe_lc rfl sc_groups.nd (pi_seq (K := K) rfl (pv 7)) (blkOk_by (own := [("group", 11)]) (N := ["code", "contents", "choices", "settings", "what", "steps", "views", "found", "k", "trace", "seen", "group"]) (sc := defScope (topS 41)) (by decide +kernel)) (fun _ _ _ _ _ => (pg_name (i := 11) sc_groups.nd rfl (.inl rfl))) (fun _ _ _ _ _ => pts_nil) (fun _ _ _ _ _ => (pe_callTy (c_tuple (K := K) rfl) rfl (T.free 136 rfl) (by decide +kernel) (pa_cons (pv 11) pa_nil)))) pa_nil))))))), ?_⟩)
  obtain ⟨code, cont, ch, sv, what, n, t, rows, rgs, cs, oss, Y, rfl, MY, ic, ik, ih, mos, hol, mo, co, is, so, hn, hQ⟩ := h
  walk_at "go"
  refine ⟨by decide, fun vw hvw => ?_⟩
  have M1 := MY.new (o := .lst []) hvw
  have s1 := Same.new (o := .lst []) hvw
  walk_at "go"
  refine ⟨by decide, fun f hf => ?_⟩
  have M2 := M1.new (o := .lst []) hf
  have s2 := Same.new' (o := .lst []) s1 hf
  have M2 : Has _ (GW vw f [] [] [] Y) := M2.perm (by
    rw [List.append_assoc]
    exact List.perm_append_comm)
  walk_at "go"
  refine m_len (ih.same s2) ?_
  rw [List.length_map]
  walk_at "go"
  refine f_range (fun i σ H' => ∃ (k tr sn : Option V) (xs : List V) (fs : List Addr), σ = [some code, some cont, some ch, some sv, some (.str what), some (.int (n : Int)), some (.ref vw), some (.ref f), k, tr, sn, none] ∧ KT H H' ∧ Has H' (GW vw f xs fs ((grpE (eqT what (trsF t rows rgs cs n oss)) i).map vN) Y) ∧ fs.length = (grpE (eqT what (trsF t rows rgs cs n oss)) i).length ∧
      Ims H' xs ((leads (eqT what (trsF t rows rgs cs n oss)) i).map (vwsE what (trsF t rows rgs cs n oss))))
    ⟨_, _, _, [], [], rfl, KT.of s2, M2, rfl, .nil⟩ ?_ ?_
  · rintro i σ H3 hi ⟨k, tr, sn, xs, fs, rfl, k3, M3, hfl, ims⟩
    have hio : i < oss.length := by omega
    have ho : oss[i]? = some (oss[i]'hio) := List.getElem?_eq_getElem _
    generalize oss[i]'hio = os at ho
    have mos' := mos os (List.mem_of_getElem? ho)
    have tat := trs_at (t := t) (rows := rows) (rgs := rgs) (cs := cs) (n := n) ho
    have lay2 : ∀ d ∈ (leads (eqT what (trsF t rows rgs cs n oss)) i).map (vwsE what (trsF t rows rgs cs n oss)), Lay 2 d := fun d hd => by
      obtain ⟨l, _, rfl⟩ := List.mem_map.mp hd
      exact vw_lay
    have hll : (leads (eqT what (trsF t rows rgs cs n oss)) i).length ≤ i := leads_len
    have hgl : (grpE (eqT what (trsF t rows rgs cs n oss)) i).length ≤ i := grp_len
    have e0 : (0 : Int) + (i : Int) = (i : Int) := by omega
    walk_at "go"
    rw [e0]
    refine m_ix (ih.kt k3) (n := i) rfl (by rw [List.getElem?_map, ho]; rfl) (fun y hy => ?_)
    walk_at "go"
    refine ⟨code, cont, y, rgs, rows, cs, os, rfl, ic.kt k3, ik.kt k3, hy, mo, mos', fun H4 v4 s4 i4 => ?_⟩
    have k4 := k3.trans (KT.of s4)
    walk_at "go"
    refine ⟨code, v4, sv, n, t, rows, rgs, mixL rgs cs os, _, rfl, M3.keep s4, ic.kt k4, i4, mix_ok mo mos', co, is.kt k4, so, hn, fun H5 v5 k5 M5 i5 hl5 _ => ?_⟩
    have ims5 := (ims.same s4).kt k5
    have k5 := k4.trans k5
    rw [← tat] at hl5
    walk_at "go"
    refine m_ix i5 (n := 3) rfl rfl (fun tv it => ?_)
    rw [← tat] at it
    generalize eT : (trsF t rows rgs cs n oss).getD i [] = tri at it hl5
    walk_at "go"
    refine ⟨tv, tri.map Ev.d, what, rfl, it, map_evd, by rw [List.length_map]; exact hl5, fun p H6 s6 hp => ?_⟩
    have M6 := M5.keep s6
    have ims6 := ims5.same s6
    have k6 := k5.trans (KT.of s6)
    have hp : Im H6 (.ref p) (vwsE what (trsF t rows rgs cs n oss) i) := by
      show Im H6 (.ref p) (vwT what _)
      rw [eT]
      exact hp
    walk_at "go"
    refine m_inL (M6.get 0 rfl) ims6 hp (vw_lay.shaped (by decide)) lay2 ?_
    rw [any_ld]
    cases c : ldE (eqT what (trsF t rows rgs cs n oss)) i with
    | false =>
      obtain ⟨q, l, hq, hl, hno, hls, hgq, hgs⟩ := grp_old eqT_b c
      have hqf : q < fs.length := by rw [hfl]; exact (List.getElem?_eq_some_iff.mp hgq).1
      have hfq : fs[q]? = some (fs[q]'hqf) := List.getElem?_eq_getElem _
      generalize fs[q]'hqf = a at hfq
      have hrq : ((grpE (eqT what (trsF t rows rgs cs n oss)) i).map vN)[q]? = some (vN (clsE (eqT what (trsF t rows rgs cs n oss)) i l)) := by rw [List.getElem?_map, hgq]; rfl
      have hcl : (vN (clsE (eqT what (trsF t rows rgs cs n oss)) i l)).length ≤ i := by
        unfold vN
        rw [List.length_map]
        exact (grp_mem (List.mem_of_getElem? hgq)).1
      walk_at "go"
      refine ⟨vw, .ref p, _, _, q, vwsE what (trsF t rows rgs cs n oss) l, rfl, rfl, .lst (SqL.of (M6.get 0 rfl)) ims6.dp, hp.dp, list_shaped lay2, vw_lay.shaped (by decide), by rw [List.getElem?_map, hq]; rfl, by
        show PyData.eqv (vwT what _) (vwT what _) = true
        rw [eqT_eqv]
        exact hl, fun m z' hm hz => ?_, ?_⟩
      · rw [List.getElem?_map] at hz
        cases e : (leads (eqT what (trsF t rows rgs cs n oss)) i)[m]? with
        | none => rw [e] at hz; cases hz
        | some l' =>
          rw [e] at hz
          obtain rfl := Option.some.inj hz
          show PyData.eqv (vwT what _) (vwT what _) = false
          rw [eqT_eqv]
          exact hno m l' hm e
      walk_at "go"
      refine g_ixL (SqL.of (M6.get 1 rfl)) (n := q) rfl (by rw [List.getElem?_map, hfq]; rfl) ?_
      have hta := Has.tabGet (X := [(vw, .lst xs), (f, .lst (fs.map V.ref))]) M6 hfq hrq
      walk_at "go"
      refine ⟨a, _, _, rfl, rfl, hta, szl (by omega), ?_⟩
      have M7 := Has.tabSet (X := [(vw, .lst xs), (f, .lst (fs.map V.ref))]) (r' := vN (clsE (eqT what (trsF t rows rgs cs n oss)) i l) ++ [.int (i : Int)]) M6 hfq hrq
      walk_at "go"
      refine ⟨_, _, _, xs, fs, rfl, k6.trans (KT.set hta (fun _ z => nomatch z)), ?_, ?_, ?_⟩
      · rw [hgs, List.map_set]
        have ev : vN (clsE (eqT what (trsF t rows rgs cs n oss)) i l ++ [i]) = vN (clsE (eqT what (trsF t rows rgs cs n oss)) i l) ++ [.int (i : Int)] := by
          unfold vN
          rw [List.map_append]
          rfl
        rw [ev]
        exact M7
      · rw [hgs, List.length_set]
        exact hfl
      · rw [hls]
        exact ims6.kt (KT.set hta (fun _ z => nomatch z))
    | true =>
      obtain ⟨_, hls, hgs⟩ := grp_new eqT_b c
      have hxl : xs.length ≤ i := by rw [ims.length, List.length_map]; exact hll
      walk_at "go"
      refine g_append M6 0 rfl (szl (by omega)) (fun M7 => ?_)
      have kt7 : KT H6 (upd H6 vw (.lst (xs ++ [.ref p]))) := KT.set (M6.get 0 rfl) (fun _ z => nomatch z)
      have ims7 := (ims6.append (Ims.one hp)).kt kt7
      have k7 := k6.trans kt7
      walk_at "go"
      refine ⟨by show 1 ≤ sizeLine; decide, fun g hg => ?_⟩
      have M8 := M7.new (o := .lst [.int (i : Int)]) hg
      have kt8 := KT.new (o := .lst [.int (i : Int)]) hg
      walk_at "go"
      refine g_append M8 1 rfl (szl (by rw [List.length_map]; omega)) (fun M9 => ?_)
      have kt9 := kt8.trans (KT.set (o' := .lst (fs.map V.ref ++ [.ref g])) (M8.get 1 rfl) (fun _ z => nomatch z))
      walk_at "go"
      refine ⟨_, _, _, xs ++ [.ref p], fs ++ [g], rfl, k7.trans kt9, ?_, by rw [hgs, List.length_append, List.length_append, hfl]; rfl, ?_⟩
      · rw [hgs, List.map_append]
        have et : tab (fs ++ [g]) ((grpE (eqT what (trsF t rows rgs cs n oss)) i).map vN ++ [[.int (i : Int)]]) = tab fs ((grpE (eqT what (trsF t rows rgs cs n oss)) i).map vN) ++ [(g, .lst [.int (i : Int)])] := tab_snoc (by rw [List.length_map]; exact hfl)
        show Has _ ([(vw, .lst (xs ++ [.ref p])), (f, .lst ((fs ++ [g]).map V.ref))] ++ (tab (fs ++ [g]) ((grpE (eqT what (trsF t rows rgs cs n oss)) i).map vN ++ [[.int (i : Int)]]) ++ Y))
        rw [et, List.map_append]
        exact Has.perm (L := ([(vw, .lst (xs ++ [.ref p])), (f, .lst (fs.map V.ref ++ [.ref g]))] ++ (tab fs ((grpE (eqT what (trsF t rows rgs cs n oss)) i).map vN) ++ Y) ++ [(g, .lst [.int (i : Int)])])) M9 gw_perm
      · rw [hls, List.map_append]
        exact ims7.kt kt9
  · rintro σ H3 ⟨k, tr, sn, xs, fs, rfl, k3, M3, hfl, ims⟩
    rw [show ((oss.length : Nat) : Int).toNat = oss.length by omega] at M3 hfl
    have hgl : (grpE (eqT what (trsF t rows rgs cs n oss)) oss.length).length ≤ oss.length := grp_len
    generalize grpE (eqT what (trsF t rows rgs cs n oss)) oss.length = gs at M3 hfl hQ hgl
    walk_at "go"
    refine l_list (xs := fs.map V.ref) (fun D i H' => ∃ us, H' D = some (.lst us) ∧ Ims H' us ((gs.take i).map gD) ∧ Same H3 H') (fun D hD => ⟨[], upd_same, .nil, Same.new hD⟩) (fun D hD i H' _ ⟨_, _, _, sm⟩ => SqL.of (sm _ _ (M3.get 1 rfl))) ?_ ?_
    · rintro D hD i v H4 hi ⟨us, hDl, im4, s4⟩
      rw [List.getElem?_map] at hi
      cases ea : fs[i]? with
      | none => rw [ea] at hi; cases hi
      | some a =>
        rw [ea] at hi
        obtain rfl := Option.some.inj hi
        have hil := (List.getElem?_eq_some_iff.mp ea).1
        have hg : gs[i]? = some (gs[i]'(by omega)) := List.getElem?_eq_getElem _
        generalize gs[i]'(by omega) = g at hg
        have hta := Has.tabGet (X := [(vw, .lst xs), (f, .lst (fs.map V.ref))]) M3 ea (r := vN g) (by rw [List.getElem?_map, hg]; rfl)
        walk_at "go"
        refine m_tupleL (SqL.of (s4 _ _ hta)) (ims_vN g) (fun p H5 s5 _ hp => ?_)
        walk_at "go"
        refine ⟨us, s5 _ _ hDl, szl (by rw [im4.length, List.length_map, List.length_take]; omega), us ++ [.ref p], upd_same, ?_, Same.mut (s4.trans s5) hD⟩
        rw [map_take_succ hg]
        exact ims_snoc (H2 := H5) (im4.same s5) hp (s5 _ _ hDl)
    · rintro D hD H4 ⟨us, hDl, im4, s4⟩
      walk_at "go"
      rw [List.length_map, hfl, List.take_length] at im4
      refine m_tupleL (SqL.of hDl) im4 (fun p H5 s5 _ hp => ?_)
      exact hQ _ _ ((k3.trans (KT.of s4)).trans (KT.of s5)) ((((M3.sub (List.sublist_append_right _ _)).sub (List.sublist_append_right _ _)).keep s4).keep s5) hp
def sp_learns_nothing (K : PySem.W.Frag) : Sp := fun vs H Q _ => ∃ (code cont ch sv : V) (n : Nat) (t : Sett) (rows : List Row) (rgs : List Rg) (cs : List (List Int)) (oss : List (List (List Int))) (Y : List (Addr × HO)), vs = [code, cont, ch, sv, .int (n : Int)] ∧ Has H Y ∧ Im H code (codeD rgs rows) ∧ Im H cont (contD cs) ∧ Im H ch (.tuple (oss.map fun os => contD os)) ∧ (∀ os ∈ oss, MemOk rgs os) ∧ oss.length ≤ 5 ∧ MemOk rgs cs ∧ CodeOk rows ∧ Im H sv t.d ∧ SettOk t ∧ n ≤ 2500 ∧
  ∀ H', KT H H' → Has H' Y → Q (.bl (decide (((grpE (eqT "all" (trsF t rows rgs cs n oss)) oss.length).length : Int) ≤ 1))) H'
theorem sc_learns_nothing : FnScope ["code", "contents", "choices", "settings", "steps"] ["code", "contents", "choices", "settings", "steps"] (defScope (topS 42)) := ⟨rfl, rfl, rfl, by decide +kernel, rfl, by decide +kernel, by decide +kernel⟩
theorem ok_learns_nothing (T : Txt fa fn K mg (XOk cs xcs K w)) : Dn P w K mg base CX0 12 "learns_nothing" ["code", "contents", "choices", "settings", "steps"] (sp_learns_nothing K) := by
  refine mk_dn (d := dOf "learns_nothing" 42) T 23 23 rfl rfl rfl rfl rfl sc_learns_nothing (by walk_at "len") (fun _ _ _ _ _ _ us hl => match us, hl with | [_, _, _, _, _], _ => rfl) (fun cdv A outer s H vs Q E hr h => ⟨_, (pss_one (ps_ret (pe_cmpR o_le (pe_callB (c_len (K := K) rfl) rfl (T.free 128 rfl) (by decide +kernel) (pa_cons (pe_callD (K := K) rfl (ok_groups T) (hr.mono (by decide)) rfl pass0 (pa_cons (pv 0) (pa_cons (pv 1) (pa_cons (pv 2) (pa_cons (pv 3) (pa_cons pe_str (pa_cons (pv 4) pa_nil))))))) pa_nil)) pe_int (nomark _)))), ?_⟩)
  obtain ⟨code, cont, ch, sv, n, t, rows, rgs, cs, oss, Y, rfl, MY, ic, ik, ih, mos, hol, mo, co, is, so, hn, hQ⟩ := h
  walk_at "go"
  refine ⟨code, cont, ch, sv, "all", n, t, rows, rgs, cs, oss, Y, rfl, MY, ic, ik, ih, mos, hol, mo, co, is, so, hn, fun H1 v1 k1 M1 i1 => ?_⟩
  walk_at "go"
  refine m_len i1 ?_
  rw [List.length_map]
  walk_at "go"
  exact hQ _ k1 M1


/-! ### taken -/
def sp_taken (K : PySem.W.Frag) : Sp := fun vs H Q _ => ∃ (code : V) (rgs : List Rg) (rows : List Row), vs = [code] ∧ Im H code (codeD rgs rows) ∧ JOk rows ∧ ∀ H' P, Same H H' → Grt rgs rows P → Q (.bl (dueD rgs rows P rows.length).isNone) H'
theorem sc_taken : FnScope ["code"] ["code"] (defScope (topS 36)) := ⟨rfl, rfl, rfl, by decide +kernel, rfl, by decide +kernel, by decide +kernel⟩
theorem ok_taken (T : Txt fa fn K mg (XOk cs xcs K w)) : Dn P w K mg base CX0 5 "taken" ["code"] (sp_taken K) := by
  refine mk_dn (d := dOf "taken" 36) T 18 18 rfl rfl rfl rfl rfl sc_taken (by walk_at "len") (fun _ _ _ _ _ _ us hl => match us, hl with | [_], _ => rfl) (fun cdv A outer s H vs Q E hr h => ⟨_, (pss_cons (ps_try_only rfl rfl ⟨rfl, by decide, .inl (T.glo 56 rfl)⟩ takes0 (fun W pn xe tk po => (pss_one (ps_expr (pe_callDX (K := K) rfl (ok_judge T) (hr.mono (by decide)) rfl tk (pa_cons (pv 0) (pa_cons (pe_callD (K := K) rfl (ok_greatest_paper T) (hr.mono (by decide)) rfl pass0 (pa_cons (pv 0) pa_nil)) pa_nil)))))) (fun a oe cls d pn hz hf => (pss_one (ps_ret pe_bl))))
      (pss_one (ps_ret pe_bl))), ?_⟩)
  obtain ⟨code, rgs, rows, rfl, ic, jo, hQ⟩ := h
  walk_at "go"
  refine g_callW ?_
  walk_at "go"
  refine ⟨code, _, _, rfl, ic, jo, fun H1 x P hP s1 hx => ?_⟩
  walk_at "go"
  refine ⟨code, x, _, _, _, rfl, ic.same s1, jo, hx, papD_wd jo.u, fun ju H2 s2 => ?_, fun r w' ju H2 e s2 he => ?_⟩
  · have e := JudR.of jo hP.1 ju
    have hn : (dueD rgs rows P rows.length).isNone = true := by
      cases c : dueD rgs rows P rows.length with
      | none => rfl
      | some q => rw [c] at e; cases e
    walk_at "go"
    rw [← hn]
    exact hQ _ _ (s1.trans s2) hP
  · have e2 := JudR.of jo hP.1 ju
    have hn : (dueD rgs rows P rows.length).isNone = false := by
      cases c : dueD rgs rows P rows.length with
      | none => rw [c] at e2; cases e2
      | some q => rfl
    refine ⟨true, exm_Refused_Refused T, fun _ a ha => ?_, fun h => nomatch h⟩
    walk_at "go"
    rw [← hn]
    exact hQ _ _ (s1.trans s2) hP

/-! ### what the law draws -/
def sp_law_word (K : PySem.W.Frag) : Sp := fun vs H Q _ => ∃ (d : Addr) (L : List (Addr × HO)), vs = [.ref d] ∧ DrL H d L ∧ ∀ H' x, Keep [d] H H' → DrL H' d L → W32 x → Q (.int x) H'
theorem sc_law_word : FnScope ["draws", "pick"] ["draws"] (defScope (topS 52)) := ⟨rfl, rfl, rfl, by decide +kernel, rfl, by decide +kernel, by decide +kernel⟩
theorem ok_law_word (T : Txt fa fn K mg (XOk cs xcs K w)) : Dn P w K mg base CX0 2 "_law_word" ["draws"] (sp_law_word K) := by
  refine mk_dn (d := dOf "_law_word" 52) T 32 32 rfl rfl rfl rfl rfl sc_law_word (by walk_at "len") (fun _ _ _ _ _ _ us hl => match us, hl with | [_], _ => rfl) (fun cdv A outer s H vs Q E hr h => ⟨_, (pss_cons (ps_set (i := 1) sc_law_word.nd rfl (.inl rfl) (pe_callD (K := K) rfl (ok_law_next T) (hr.mono (by decide)) rfl pass0 (pa_cons (pv 0) (pa_cons pe_int pa_nil))))
      (pss_cons (ps_if (pt_cmpR (op_eqU (K := K) rfl hr.units) (pv 1) pe_int (nomark _)) (pss_one (ps_ret (pe_callD (K := K) rfl (ok_law_next T) (hr.mono (by decide)) rfl pass0 (pa_cons (pv 0) (pa_cons pe_int pa_nil))))) pss_nil)
      (pss_cons (ps_if (pt_cmpR (op_eqU (K := K) rfl hr.units) (pv 1) pe_int (nomark _)) (pss_one (ps_ret (pe_callD (K := K) rfl (ok_law_next T) (hr.mono (by decide)) rfl pass0 (pa_cons (pv 0) (pa_cons pe_int pa_nil))))) pss_nil)
      (pss_cons (ps_if (pt_cmpR (op_eqU (K := K) rfl hr.units) (pv 1) pe_int (nomark _)) (pss_one (ps_ret (pe_op op_sub pe_int (pe_callD (K := K) rfl (ok_law_next T) (hr.mono (by decide)) rfl pass0 (pa_cons (pv 0) (pa_cons pe_int pa_nil)))))) pss_nil)
      (pss_one (ps_ret (pe_op o_mod (pe_callTy c_int rfl (T.free 126 rfl) (by decide +kernel) (pa_cons (pe_op (op_addU (K := K) rfl) (pe_op op_mulU (pe_callD (K := K) rfl (ok_law_next T) (hr.mono (by decide)) rfl pass0 (pa_cons (pv 0) (pa_cons pe_int pa_nil))) pe_int) (pe_op op_mulU (pe_callD (K := K) rfl (ok_law_next T) (hr.mono (by decide)) rfl pass0 (pa_cons (pv 0) (pa_cons pe_int pa_nil))) pe_int)) pa_nil)) pe_int))))))), ?_⟩)
  obtain ⟨d, L, rfl, D, hQ⟩ := h
  walk_at "go"
  refine use_nx D (by decide) (fun H1 v1 k1 D1 h10 h11 => ?_)
  walk_at "go"
  refine g_if (fun c => ?_) (fun c => ?_)
  · walk_at "go"
    refine use_nx D1 (by decide) (fun H2 v2 k2 D2 h20 h21 => ?_)
    exact hQ _ _ (k1.trans k2) D2 ⟨h20, by omega⟩
  walk_at "go"
  refine g_if (fun c => ?_) (fun c => ?_)
  · walk_at "go"
    refine use_nx D1 (by decide) (fun H2 v2 k2 D2 h20 h21 => ?_)
    exact hQ _ _ (k1.trans k2) D2 ⟨h20, by omega⟩
  walk_at "go"
  refine g_if (fun c => ?_) (fun c => ?_)
  · walk_at "go"
    refine use_nx D1 (by decide) (fun H2 v2 k2 D2 h20 h21 => ?_)
    walk_at "go"
    exact hQ _ _ (k1.trans k2) D2 ⟨by omega, by omega⟩
  walk_at "go"
  refine use_nx D1 (by decide) (fun H2 v2 k2 D2 h20 h21 => ?_)
  walk_at "go"
  refine use_nx D2 (by decide) (fun H3 v3 k3 D3 h30 h31 => ?_)
  walk_at "go"
  exact hQ _ _ ((k1.trans k2).trans k3) D3 ⟨Int.emod_nonneg _ (by decide), Int.emod_lt_of_pos _ (by decide)⟩
structure RgsOk (rgs : List Rg) : Prop where
  l : 0 < rgs.length
  u : rgs.length ≤ 4
  n : ∀ g ∈ rgs, g.n ≤ 30
  s : ∀ g ∈ rgs, PyData.strOk g.l = true
  p : ∀ g ∈ rgs, g.l = "public" ∨ g.l = "secret"
  z : ∀ g ∈ rgs, 1 ≤ g.n
  d : rgs.Pairwise fun g h => g.b + (g.n : Int) ≤ h.b
  b : ∀ g ∈ rgs, 0 ≤ g.b ∧ g.b + (g.n : Int) ≤ 30 * rgs.length
abbrev rgsD (rgs : List Rg) : PyData := .tuple (rgs.map Rg.d)
def sp_law_regions (K : PySem.W.Frag) : Sp := fun vs H Q _ => ∃ (d : Addr) (L : List (Addr × HO)), vs = [.ref d] ∧ DrL H d L ∧ ∀ H' v rgs, Keep [d] H H' → DrL H' d L → Im H' v (rgsD rgs) → RgsOk rgs → Q v H'
theorem sc_law_regions : FnScope ["draws", "regions", "base", "k", "size"] ["draws"] (defScope (topS 53)) := ⟨rfl, rfl, rfl, by decide +kernel, rfl, by decide +kernel, by decide +kernel⟩
theorem ok_law_regions (T : Txt fa fn K mg (XOk cs xcs K w)) : Dn P w K mg base CX0 2 "_law_regions" ["draws"] (sp_law_regions K) := by
  refine mk_dn (d := dOf "_law_regions" 53) T 33 33 rfl rfl rfl rfl rfl sc_law_regions (by walk_at "len") (fun _ _ _ _ _ _ us hl => match us, hl with | [_], _ => rfl) (fun cdv A outer s H vs Q E hr h => ⟨_, (pss_cons (ps_set (i := 1) sc_law_regions.nd rfl (.inl rfl) (pe_lst pa_nil))
      (pss_cons (ps_set (i := 2) sc_law_regions.nd rfl (.inl rfl) pe_int)
      (pss_cons (ps_for PassesOwn.never rfl (pi_r1 rfl (T.free 132 rfl) (pa_cons (pe_op (op_addU (K := K) rfl) pe_int (pe_callD (K := K) rfl (ok_law_next T) (hr.mono (by decide)) rfl pass0 (pa_cons (pv 0) (pa_cons pe_int pa_nil)))) pa_nil)) (pg_name (i := 3) sc_law_regions.nd rfl (.inl rfl)) (pss_cons (ps_set (i := 4) sc_law_regions.nd rfl (.inl rfl) (pe_ixU (K := K) rfl (hu_of hr) (pe_lst (pa_cons pe_int (pa_cons pe_int (pa_cons pe_int (pa_cons pe_int (pa_cons (pe_op (op_addU (K := K) rfl) pe_int (pe_callD (K := K) rfl (ok_law_next T) (hr.mono (by decide)) rfl pass0 (pa_cons (pv 0) (pa_cons pe_int pa_nil)))) pa_nil)))))) (pe_callD (K := K) rfl (ok_law_next T) (hr.mono (by decide)) rfl pass0 (pa_cons (pv 0) (pa_cons pe_int pa_nil)))))
      (pss_cons (ps_expr (pe_bm PySem.F.plainAttrs_list PySem.F.slot_list_append PySem.F.type_list_append mt_append (pv 1) (pa_cons (pe_tup (pa_cons (pv 2) (pa_cons (pv 4) (pa_cons (pe_ixU (K := K) rfl (hu_of hr) (pe_lst (pa_cons pe_str (pa_cons pe_str pa_nil))) (pe_callD (K := K) rfl (ok_law_next T) (hr.mono (by decide)) rfl pass0 (pa_cons (pv 0) (pa_cons pe_int pa_nil)))) pa_nil)))) pa_nil)))
      (pss_one (ps_set (i := 2) sc_law_regions.nd rfl (.inl rfl) (pe_op (op_addU (K := K) rfl) (pv 2) (pv 4)))))))
      (pss_one (ps_ret (pe_callTy (c_tuple (K := K) rfl) rfl (T.free 136 rfl) (by decide +kernel) (pa_cons (pv 1) pa_nil))))))), ?_⟩)
  obtain ⟨d, L, rfl, D, hQ⟩ := h
  walk_at "go"
  refine ⟨by decide, fun p hp => ?_⟩
  have D1 := D.new (o := .lst []) hp
  have kp : Keep [d] H _ := Keep.new (o := .lst []) hp
  walk_at "go"
  refine use_nx D1 (by decide) (fun H2 v2 k2 D2 h20 h21 => ?_)
  walk_at "go"
  have kp2 := kp.trans k2
  refine f_range (fun i σ H' => ∃ (base : Int) (k z : Option V) (xs : List V) (rgs : List Rg), σ = [some (.ref d), some (.ref p), some (.int base), k, z] ∧ Keep [d] H H' ∧ DrL H' d (L ++ [(p, .lst xs)]) ∧ Ims H' xs (rgs.map Rg.d) ∧ rgs.length = i ∧ (∀ g ∈ rgs, g.n ≤ 30) ∧ (∀ g ∈ rgs, PyData.strOk g.l = true) ∧ (∀ g ∈ rgs, g.l = "public" ∨ g.l = "secret") ∧ (∀ g ∈ rgs, 1 ≤ g.n) ∧ (rgs.Pairwise fun g h => g.b + (g.n : Int) ≤ h.b) ∧ (∀ g ∈ rgs, 0 ≤ g.b ∧ g.b + (g.n : Int) ≤ base) ∧ 0 ≤ base ∧ base ≤ 30 * i)
    ⟨0, _, _, [], [], rfl, kp2, D2, .nil, rfl, by simp, by simp, by simp, by simp, .nil, by simp, by decide, by decide⟩ ?_ ?_
  · rintro i σ H3 hi ⟨base, k, z, xs, rgs, rfl, k3, D3, ims, hl, a1, a2, a3, a4, a5, a6, b0, b1⟩
    have hxs := ims.length
    rw [List.length_map] at hxs
    walk_at "go"
    refine use_nx D3 (by decide) (fun H4 v4 k4 D4 h40 h41 => ?_)
    walk_at "go"
    refine use_pk D4 rfl rfl (by simp) (by simp) (fun H5 v k5 D5 hv => ?_)
    obtain ⟨n, rfl, hn, hn1⟩ : ∃ n : Nat, v = .int (n : Int) ∧ n ≤ 30 ∧ 1 ≤ n := by
      simp only [List.mem_cons, List.not_mem_nil, or_false] at hv
      rcases hv with rfl | rfl | rfl | rfl | rfl
      · exact ⟨1, rfl, by decide, by decide⟩
      · exact ⟨2, rfl, by decide, by decide⟩
      · exact ⟨4, rfl, by decide, by decide⟩
      · exact ⟨16, rfl, by decide, by decide⟩
      · exact ⟨(1 + v4).toNat, by rw [Int.toNat_of_nonneg (by omega)], by omega, by omega⟩
    have at5 : H5 p = some (.lst xs) := D5.get L.length get_last
    have ims5 := D4.ims k5 (D3.ims k4 ims)
    walk_at "go"
    refine use_pk D5 rfl rfl (by simp) (by simp) (fun H6 v k6 D6 hv => ?_)
    obtain ⟨z, rfl, hz, hz2⟩ : ∃ P : Str, v = .str P ∧ PyData.strOk P = true ∧ (P = "public" ∨ P = "secret") := by
      simp only [List.mem_cons, List.not_mem_nil, or_false] at hv
      rcases hv with rfl | rfl
      · exact ⟨_, rfl, by decide +kernel, .inl rfl⟩
      · exact ⟨_, rfl, by decide +kernel, .inr rfl⟩
    walk_at "go"
    refine m_new (.cons (.int _) (.cons (.int _) (.cons (.str _) .nil))) (by simp) (fun a H7 s7 ha im => ?_)
    walk_at "go"
    have D7 := D6.same s7
    have ims7 := (D5.ims k6 ims5).same s7
    refine gD_append D7 L.length get_last (by omega) (fun D8 => ?_)
    walk_at "go"
    rw [set_last] at D8
    refine ⟨_, _, _, xs ++ [.ref a], rgs ++ [⟨base, n, z⟩], rfl, ((((k3.trans k4).trans k5).trans k6).trans (Keep.of s7)).mut hp, D8, ?_, by rw [List.length_append, hl]; rfl, all_snoc a1 hn, all_snoc a2 hz, all_snoc a3 hz2, all_snoc a4 hn1, ?_, all_snoc (fun g hg => by have := a6 g hg; omega) ⟨b0, Int.le_refl _⟩, by omega, by omega⟩
    rotate_left
    · rw [List.pairwise_append]
      refine ⟨a5, List.pairwise_singleton _ _, fun g hg h hh => ?_⟩
      rw [List.mem_singleton.mp hh]
      exact (a6 g hg).2
    rw [List.map_append]
    exact ims_snoc (H2 := H7) ims7 im (D7.get L.length get_last)
  · rintro σ H3 ⟨base, k, z, xs, rgs, rfl, k3, D3, ims, hl, a1, a2, a3, a4, a5, a6, b0, b1⟩
    walk_at "go"
    refine m_tupleL (SqL.of (D3.get L.length get_last)) ims (fun q H4 s4 hq im => ?_)
    exact hQ _ _ rgs (k3.trans (Keep.of s4)) ((D3.sub sub_last).same s4) im ⟨by omega, by omega, a1, a2, a3, a4, a5, fun g hg => by have := a6 g hg; rw [hl]; omega⟩
def sp_law_span (K : PySem.W.Frag) : Sp := fun vs H Q _ => ∃ (d : Addr) (L : List (Addr × HO)) (x : V) (rgs : List Rg), vs = [.ref d, x] ∧ DrL H d L ∧ Im H x (rgsD rgs) ∧ RgsOk rgs ∧ ∀ H' v b m, Keep [d] H H' → DrL H' d L → Im H' v (.tuple [.int b, .int m]) → 0 ≤ m → Q v H'
theorem pw6 : ∀ n : Nat, n < 6 → 0 ≤ (1 : Int) * 2 ^ n - 1 := by decide
theorem sc_law_span : FnScope ["draws", "regions", "base", "size", "label", "mask"] ["draws", "regions"] (defScope (topS 54)) := ⟨rfl, rfl, rfl, by decide +kernel, rfl, by decide +kernel, by decide +kernel⟩
theorem ok_law_span (T : Txt fa fn K mg (XOk cs xcs K w)) : Dn P w K mg base CX0 2 "_law_span" ["draws", "regions"] (sp_law_span K) := by
  refine mk_dn (d := dOf "_law_span" 54) T 34 34 rfl rfl rfl rfl rfl sc_law_span (by walk_at "len") (fun _ _ _ _ _ _ us hl => match us, hl with | [_, _], _ => rfl) (fun cdv A outer s H vs Q E hr h => ⟨_, (pss_cons (ps_if (pt_cmpR (op_eqU (K := K) rfl hr.units) (pe_callD (K := K) rfl (ok_law_next T) (hr.mono (by decide)) rfl pass0 (pa_cons (pv 0) (pa_cons pe_int pa_nil))) pe_int (nomark _)) (pss_one (ps_ret (pe_tup (pa_cons (pe_callD (K := K) rfl (ok_law_next T) (hr.mono (by decide)) rfl pass0 (pa_cons (pv 0) (pa_cons pe_int pa_nil))) (pa_cons (pe_op op_sub (pe_op o_shl pe_int (pe_callD (K := K) rfl (ok_law_next T) (hr.mono (by decide)) rfl pass0 (pa_cons (pv 0) (pa_cons pe_int pa_nil)))) pe_int) pa_nil))))) pss_nil)
      (pss_cons (ps_asg (pe_ixU (K := K) rfl (hu_of hr) (pv 1) (pe_callD (K := K) rfl (ok_law_next T) (hr.mono (by decide)) rfl pass0 (pa_cons (pv 0) (pa_cons (pe_callB (c_len (K := K) rfl) rfl (T.free 128 rfl) (by decide +kernel) (pa_cons (pv 1) pa_nil)) pa_nil)))) (pg_tup rfl (pgs_cons (pg_name (i := 2) sc_law_span.nd rfl (.inl rfl)) (pgs_cons (pg_name (i := 3) sc_law_span.nd rfl (.inl rfl)) (pgs_cons (pg_name (i := 4) sc_law_span.nd rfl (.inl rfl)) pgs_nil)))))
      (pss_cons (ps_set (i := 5) sc_law_span.nd rfl (.inl rfl) pe_int)
      (pss_cons (ps_while PassesOwn.never (pt_cmpR o_le (pe_op (op_addU (K := K) rfl) (pe_op op_mulU pe_int (pv 5)) pe_int) (pv 3) (nomark _)) (pss_one (ps_set (i := 5) sc_law_span.nd rfl (.inl rfl) (pe_op (op_addU (K := K) rfl) (pe_op op_mulU pe_int (pv 5)) pe_int))))
      (pss_one (ps_ret (pe_tup (pa_cons (pv 2) (pa_cons (pv 5) pa_nil))))))))), ?_⟩)
  obtain ⟨d, L, x, rgs, rfl, D, ix, ro, hQ⟩ := h
  have rl := ro.l
  walk_at "go"
  refine use_nx D (by decide) (fun H1 v1 k1 D1 h10 h11 => ?_)
  walk_at "go"
  refine g_if (fun c => ?_) (fun c => ?_)
  · walk_at "go"
    refine use_nx D1 (by decide) (fun H2 v2 k2 D2 h20 h21 => ?_)
    walk_at "go"
    refine use_nx D2 (by decide) (fun H3 v3 k3 D3 h30 h31 => ?_)
    walk_at "go"
    refine m_new (.cons (.int _) (.cons (.int _) .nil)) (by simp) (fun p H4 s4 hp im => ?_)
    exact hQ _ _ _ _ (((k1.trans k2).trans k3).trans (Keep.of s4)) (D3.same s4) im (pw6 _ (by omega))
  · have ix1 := D.im k1 ix
    walk_at "go"
    refine m_len ix1 ?_
    rw [List.length_map]
    walk_at "go"
    refine use_nx D1 (by omega) (fun H2 v2 k2 D2 h20 h21 => ?_)
    have ix2 := D1.im k2 ix1
    have hg : rgs[v2.toNat]? = some (rgs[v2.toNat]'(by omega)) := List.getElem?_eq_getElem _
    generalize rgs[v2.toNat]'(by omega) = g at hg
    walk_at "go"
    refine m_ix ix2 (n := v2.toNat) (by omega) (by rw [List.getElem?_map, hg]; rfl) (fun y hy => ?_)
    obtain ⟨t, rfl, ht⟩ := im3v hy
    walk_at "go"
    refine ⟨fun m σ H' => ∃ (mask : Int), σ = [some (.ref d), some x, some (.int g.b), some (.int (g.n : Int)), some (.str g.l), some (.int mask)] ∧ H' = H2 ∧ 0 ≤ mask ∧ ((g.n : Int) - mask).toNat = m, ⟨_, _, rfl, rfl, by decide, rfl⟩, ?_⟩
    rintro m σ H' ⟨mask, rfl, rfl, h0, hm⟩
    walk_at "go"
    refine g_if (fun hc => ?_) (fun hc => ?_)
    · refine g_whileT ?_
      walk_at "go"
      exact ⟨_, by omega, 2 * mask + 1, rfl, rfl, by omega, rfl⟩
    · walk_at "go"
      refine m_new (.cons (.int _) (.cons (.int _) .nil)) (by simp) (fun p H4 s4 hp im => ?_)
      exact hQ _ _ _ _ ((k1.trans k2).trans (Keep.of s4)) (D2.same s4) im h0
def sp_law_register (K : PySem.W.Frag) : Sp := fun vs H Q _ => ∃ (d : Addr) (L : List (Addr × HO)), vs = [.ref d] ∧ DrL H d L ∧ ∀ H' (n : Nat), Keep [d] H H' → DrL H' d L → n < 16 → Q (.int (n : Int)) H'
theorem use_reg {d : Addr} {L : List (Addr × HO)} {H H' : Hp} {m : Int} {k0 : Keep [d] H H'} {Q : VK} {E : XK} (D : DrL H' d L) (hm : 0 < m) (h16 : m ≤ 16) (q : ∀ H2 (n : Nat), Keep [d] H' H2 → DrL H2 d L → n < 16 → Q (.int (n : Int)) H2) : sp_law_next K ([.ref d, .int m] ++ []) H' Q E :=
  use_nx D hm fun H2 v k2 D2 h0 h1 => by
    have e : v = ((v.toNat : Nat) : Int) := by omega
    rw [e]
    exact q H2 v.toNat k2 D2 (by omega)
theorem sc_law_register : FnScope ["draws"] ["draws"] (defScope (topS 55)) := ⟨rfl, rfl, rfl, by decide +kernel, rfl, by decide +kernel, by decide +kernel⟩
theorem ok_law_register (T : Txt fa fn K mg (XOk cs xcs K w)) : Dn P w K mg base CX0 2 "_law_register" ["draws"] (sp_law_register K) := by
  refine mk_dn (d := dOf "_law_register" 55) T 35 35 rfl rfl rfl rfl rfl sc_law_register (by walk_at "len") (fun _ _ _ _ _ _ us hl => match us, hl with | [_], _ => rfl) (fun cdv A outer s H vs Q E hr h => ⟨_, (pss_one (ps_ret (pe_callD (K := K) rfl (ok_law_next T) (hr.mono (by decide)) rfl pass0 (pa_cons (pv 0) (pa_cons (pe_ixU (K := K) rfl (hu_of hr) (pe_lst (pa_cons pe_int (pa_cons pe_int (pa_cons pe_int pa_nil)))) (pe_callD (K := K) rfl (ok_law_next T) (hr.mono (by decide)) rfl pass0 (pa_cons (pv 0) (pa_cons pe_int pa_nil)))) pa_nil))))), ?_⟩)
  obtain ⟨d, L, rfl, D, hQ⟩ := h
  walk_at "go"
  refine use_pk D rfl rfl (by simp) (by simp) (fun H1 v k1 D1 hv => ?_)
  simp only [List.mem_cons, List.not_mem_nil, or_false] at hv
  rcases hv with rfl | rfl | rfl
  · walk_at "go"
    exact use_reg (k0 := k1) D1 (by decide) (by decide) (fun H2 n k2 D2 hn => hQ _ n (k1.trans k2) D2 hn)
  · walk_at "go"
    exact use_reg (k0 := k1) D1 (by decide) (by decide) (fun H2 n k2 D2 hn => hQ _ n (k1.trans k2) D2 hn)
  · walk_at "go"
    exact use_reg (k0 := k1) D1 (by decide) (by decide) (fun H2 n k2 D2 hn => hQ _ n (k1.trans k2) D2 hn)
def sp_law_op (K : PySem.W.Frag) : Sp := fun vs H Q _ => ∃ (d : Addr) (L : List (Addr × HO)), vs = [.ref d] ∧ DrL H d L ∧ ∀ H' v s a b c, Keep [d] H H' → DrL H' d L → Im H' v (Row.op s a b c).d → a < 16 → b < 16 → c < 16 → Q v H'
theorem sc_law_op : FnScope ["draws", "sign"] ["draws"] (defScope (topS 56)) := ⟨rfl, rfl, rfl, by decide +kernel, rfl, by decide +kernel, by decide +kernel⟩
theorem ok_law_op (T : Txt fa fn K mg (XOk cs xcs K w)) : Dn P w K mg base CX0 3 "_law_op" ["draws"] (sp_law_op K) := by
  refine mk_dn (d := dOf "_law_op" 56) T 36 36 rfl rfl rfl rfl rfl sc_law_op (by walk_at "len") (fun _ _ _ _ _ _ us hl => match us, hl with | [_], _ => rfl) (fun cdv A outer s H vs Q E hr h => ⟨_, (pss_cons (ps_set (i := 1) sc_law_op.nd rfl (.inl rfl) (pe_ixU (K := K) rfl (hu_of hr) (pe_lst (pa_cons pe_str (pa_cons pe_str (pa_cons pe_str (pa_cons pe_str (pa_cons pe_str (pa_cons pe_str (pa_cons pe_str (pa_cons pe_str (pa_cons pe_str (pa_cons pe_str (pa_cons pe_str (pa_cons pe_str (pa_cons pe_str pa_nil)))))))))))))) (pe_callD (K := K) rfl (ok_law_next T) (hr.mono (by decide)) rfl pass0 (pa_cons (pv 0) (pa_cons pe_int pa_nil)))))
      (pss_one (ps_ret (pe_tup (pa_cons pe_str (pa_cons (pv 1) (pa_cons (pe_callD (K := K) rfl (ok_law_register T) (hr.mono (by decide)) rfl pass0 (pa_cons (pv 0) pa_nil)) (pa_cons (pe_callD (K := K) rfl (ok_law_register T) (hr.mono (by decide)) rfl pass0 (pa_cons (pv 0) pa_nil)) (pa_cons (pe_callD (K := K) rfl (ok_law_register T) (hr.mono (by decide)) rfl pass0 (pa_cons (pv 0) pa_nil)) pa_nil))))))))), ?_⟩)
  obtain ⟨d, L, rfl, D, hQ⟩ := h
  walk_at "go"
  refine use_pk D rfl rfl (by simp) (by simp) (fun H1 v k1 D1 hv => ?_)
  obtain ⟨s, rfl⟩ : ∃ s : Sg, v = .str s.s := by
    simp only [List.mem_cons, List.not_mem_nil, or_false] at hv
    rcases hv with rfl | rfl | rfl | rfl | rfl | rfl | rfl | rfl | rfl | rfl | rfl | rfl | rfl
    · exact ⟨.add, rfl⟩
    · exact ⟨.sub, rfl⟩
    · exact ⟨.mul, rfl⟩
    · exact ⟨.band, rfl⟩
    · exact ⟨.bor, rfl⟩
    · exact ⟨.bxor, rfl⟩
    · exact ⟨.shl, rfl⟩
    · exact ⟨.shr, rfl⟩
    · exact ⟨.eq, rfl⟩
    · exact ⟨.lt, rfl⟩
    · exact ⟨.le, rfl⟩
    · exact ⟨.div, rfl⟩
    · exact ⟨.mod, rfl⟩
  walk_at "go"
  refine ⟨d, L, rfl, D1, fun H2 a k2 D2 ha => ?_⟩
  walk_at "go"
  refine ⟨d, L, rfl, D2, fun H3 b k3 D3 hb => ?_⟩
  walk_at "go"
  refine ⟨d, L, rfl, D3, fun H4 c k4 D4 hc => ?_⟩
  walk_at "go"
  refine m_new (.cons (.str _) (.cons (.str _) (.cons (.int _) (.cons (.int _) (.cons (.int _) .nil))))) (by simp) (fun p H5 s5 hp im => ?_)
  exact hQ _ _ s a b c ((((k1.trans k2).trans k3).trans k4).trans (Keep.of s5)) (D4.same s5) im ha hb hc
theorem im2i {H : Hp} {v : V} {b m : Int} (h : Im H v (.tuple [.int b, .int m])) : ∃ t, v = .ref t ∧ H t = some (.tup [.int b, .int m]) := by
  obtain ⟨t, y1, y2, rfl, ht, i1, i2⟩ := im2 h
  obtain rfl := i1.int_inv
  obtain rfl := i2.int_inv
  exact ⟨t, rfl, ht⟩
def sp_law_row (K : PySem.W.Frag) : Sp := fun vs H Q _ => ∃ (d : Addr) (L : List (Addr × HO)) (x : V) (rgs : List Rg) (k many : Nat), vs = [.ref d, .int (k : Int), .int (many : Int), x] ∧ DrL H d L ∧ Im H x (rgsD rgs) ∧ RgsOk rgs ∧ k + 1 < many ∧
  ∀ H' v r, Keep [d] H H' → DrL H' d L → Im H' v (Row.d r) → RowOkD many k r → mskOk r → Q v H'
theorem nat_of {i : Int} {m : Nat} (h : 0 ≤ i) (h2 : i < (m : Int)) : ∃ t : Nat, i = (t : Int) ∧ t < m := ⟨i.toNat, by omega, by omega⟩
theorem sc_law_row : FnScope ["draws", "at", "many", "regions", "pick", "base", "mask"] ["draws", "at", "many", "regions"] (defScope (topS 57)) := ⟨rfl, rfl, rfl, by decide +kernel, rfl, by decide +kernel, by decide +kernel⟩
theorem ok_law_row (T : Txt fa fn K mg (XOk cs xcs K w)) : Dn P w K mg base CX0 4 "_law_row" ["draws", "at", "many", "regions"] (sp_law_row K) := by
  refine mk_dn (d := dOf "_law_row" 57) T 37 37 rfl rfl rfl rfl rfl sc_law_row (by walk_at "len") (fun _ _ _ _ _ _ us hl => match us, hl with | [_, _, _, _], _ => rfl) (fun cdv A outer s H vs Q E hr h => ⟨_, (pss_cons (ps_set (i := 4) sc_law_row.nd rfl (.inl rfl) (pe_callD (K := K) rfl (ok_law_next T) (hr.mono (by decide)) rfl pass0 (pa_cons (pv 0) (pa_cons pe_int pa_nil))))
      (pss_cons (ps_if (pt_cmpR o_lt (pv 4) pe_int (nomark _)) (pss_one (ps_ret (pe_tup (pa_cons pe_str (pa_cons (pe_callD (K := K) rfl (ok_law_register T) (hr.mono (by decide)) rfl pass0 (pa_cons (pv 0) pa_nil)) (pa_cons (pe_callD (K := K) rfl (ok_law_word T) (hr.mono (by decide)) rfl pass0 (pa_cons (pv 0) pa_nil)) pa_nil)))))) pss_nil)
      (pss_cons (ps_if (pt_cmpR o_lt (pv 4) pe_int (nomark _)) (pss_one (ps_ret (pe_callD (K := K) rfl (ok_law_op T) (hr.mono (by decide)) rfl pass0 (pa_cons (pv 0) pa_nil)))) pss_nil)
      (pss_cons (ps_if (pt_cmpR (op_eqU (K := K) rfl hr.units) (pv 4) pe_int (nomark _)) (pss_one (ps_ret (pe_tup (pa_cons pe_str (pa_cons (pe_callD (K := K) rfl (ok_law_register T) (hr.mono (by decide)) rfl pass0 (pa_cons (pv 0) pa_nil)) (pa_cons (pe_callD (K := K) rfl (ok_law_register T) (hr.mono (by decide)) rfl pass0 (pa_cons (pv 0) pa_nil)) (pa_cons (pe_callD (K := K) rfl (ok_law_register T) (hr.mono (by decide)) rfl pass0 (pa_cons (pv 0) pa_nil)) (pa_cons (pe_callD (K := K) rfl (ok_law_register T) (hr.mono (by decide)) rfl pass0 (pa_cons (pv 0) pa_nil)) pa_nil)))))))) pss_nil)
      (pss_cons (ps_if (pt_cmpR o_lt (pv 4) pe_int (nomark _)) (pss_cons (ps_asg (pe_callD (K := K) rfl (ok_law_span T) (hr.mono (by decide)) rfl pass0 (pa_cons (pv 0) (pa_cons (pv 3) pa_nil))) (pg_tup rfl (pgs_cons (pg_name (i := 5) sc_law_row.nd rfl (.inl rfl)) (pgs_cons (pg_name (i := 6) sc_law_row.nd rfl (.inl rfl)) pgs_nil))))
      (pss_one (ps_ret (pe_tup (pa_cons pe_str (pa_cons (pe_callD (K := K) rfl (ok_law_register T) (hr.mono (by decide)) rfl pass0 (pa_cons (pv 0) pa_nil)) (pa_cons (pe_callD (K := K) rfl (ok_law_register T) (hr.mono (by decide)) rfl pass0 (pa_cons (pv 0) pa_nil)) (pa_cons (pv 5) (pa_cons (pv 6) pa_nil))))))))) pss_nil)
      (pss_cons (ps_if (pt_cmpR o_lt (pv 4) pe_int (nomark _)) (pss_cons (ps_asg (pe_callD (K := K) rfl (ok_law_span T) (hr.mono (by decide)) rfl pass0 (pa_cons (pv 0) (pa_cons (pv 3) pa_nil))) (pg_tup rfl (pgs_cons (pg_name (i := 5) sc_law_row.nd rfl (.inl rfl)) (pgs_cons (pg_name (i := 6) sc_law_row.nd rfl (.inl rfl)) pgs_nil))))
      (pss_one (ps_ret (pe_tup (pa_cons pe_str (pa_cons (pe_callD (K := K) rfl (ok_law_register T) (hr.mono (by decide)) rfl pass0 (pa_cons (pv 0) pa_nil)) (pa_cons (pv 5) (pa_cons (pv 6) (pa_cons (pe_callD (K := K) rfl (ok_law_register T) (hr.mono (by decide)) rfl pass0 (pa_cons (pv 0) pa_nil)) pa_nil))))))))) pss_nil)
      (pss_cons (ps_if (pt_cmpR (op_eqU (K := K) rfl hr.units) (pv 4) pe_int (nomark _)) (pss_one (ps_ret (pe_tup (pa_cons pe_str (pa_cons (pe_callD (K := K) rfl (ok_law_register T) (hr.mono (by decide)) rfl pass0 (pa_cons (pv 0) pa_nil)) pa_nil))))) pss_nil)
      (pss_cons (ps_if (pt_cmpR (op_eqU (K := K) rfl hr.units) (pv 4) pe_int (nomark _)) (pss_one (ps_ret (pe_tup (pa_cons pe_str (pa_cons (pe_callB (c_min2 rfl) rfl (T.free 131 rfl) (by decide +kernel) (pa_cons (pe_op op_sub (pv 2) pe_int) (pa_cons (pe_op (op_addU (K := K) rfl) (pe_op (op_addU (K := K) rfl) (pv 1) pe_int) (pe_callD (K := K) rfl (ok_law_next T) (hr.mono (by decide)) rfl pass0 (pa_cons (pv 0) (pa_cons pe_int pa_nil)))) pa_nil))) pa_nil))))) pss_nil)
      (pss_cons (ps_if (PW.pt (pw_and (pt_cmpR (op_eqU (K := K) rfl hr.units) (pv 4) pe_int (nomark _)) (pw_and1 (pt_cmpR (op_eqU (K := K) rfl hr.units) (pe_callD (K := K) rfl (ok_law_next T) (hr.mono (by decide)) rfl pass0 (pa_cons (pv 0) (pa_cons pe_int pa_nil))) pe_int (nomark _))))) (pss_one (ps_ret (pe_tup (pa_cons pe_str (pa_cons (pe_callD (K := K) rfl (ok_law_register T) (hr.mono (by decide)) rfl pass0 (pa_cons (pv 0) pa_nil)) pa_nil))))) pss_nil)
      (pss_cons (ps_if (pt_cmpR (op_eqU (K := K) rfl hr.units) (pv 4) pe_int (nomark _)) (pss_one (ps_ret (pe_tup (pa_cons pe_str (pa_cons (pe_callD (K := K) rfl (ok_law_register T) (hr.mono (by decide)) rfl pass0 (pa_cons (pv 0) pa_nil)) (pa_cons (pe_callD (K := K) rfl (ok_law_next T) (hr.mono (by decide)) rfl pass0 (pa_cons (pv 0) (pa_cons (pv 2) pa_nil))) pa_nil)))))) pss_nil)
      (pss_one (ps_ret (pe_tup (pa_cons pe_str (pa_cons (pe_callD (K := K) rfl (ok_law_register T) (hr.mono (by decide)) rfl pass0 (pa_cons (pv 0) pa_nil)) (pa_cons (pe_callB (c_min2 rfl) rfl (T.free 131 rfl) (by decide +kernel) (pa_cons (pe_op op_sub (pv 2) pe_int) (pa_cons (pe_op (op_addU (K := K) rfl) (pe_op (op_addU (K := K) rfl) (pv 1) pe_int) (pe_callD (K := K) rfl (ok_law_next T) (hr.mono (by decide)) rfl pass0 (pa_cons (pv 0) (pa_cons pe_int pa_nil)))) pa_nil))) pa_nil)))))))))))))))), ?_⟩)
  obtain ⟨d, L, x, rgs, k, many, rfl, D, ix, ro, hk, hQ⟩ := h
  walk_at "go"
  refine use_nx D (by decide) (fun H1 v1 k1 D1 h10 h11 => ?_)
  have ix1 := D.im k1 ix
  have to : ∀ v : Int, 0 ≤ v → ∃ t : Nat, (if (k : Int) + 1 + v < (many : Int) - 1 then (k : Int) + 1 + v else (many : Int) - 1) = (t : Int) ∧ t < many := fun v hv => nat_of (by split <;> omega) (by split <;> omega)
  walk_at "go"
  refine g_if (fun c => ?_) (fun c => ?_)
  · walk_at "go"
    refine ⟨d, L, rfl, D1, fun H2 a k2 D2 ha => ?_⟩
    walk_at "go"
    refine ⟨d, L, rfl, D2, fun H3 w k3 D3 hw => ?_⟩
    walk_at "go"
    refine m_new (.cons (.str _) (.cons (.int _) (.cons (.int _) .nil))) (by simp) (fun p H5 s5 hp im => ?_)
    exact hQ _ _ (.const a w) (((k1.trans k2).trans k3).trans (Keep.of s5)) (D3.same s5) im ⟨ha, hw, hk⟩ trivial
  walk_at "go"
  refine g_if (fun c => ?_) (fun c => ?_)
  · walk_at "go"
    refine ⟨d, L, rfl, D1, fun H2 v s a b e k2 D2 im ha hb he => ?_⟩
    exact hQ _ _ (.op s a b e) (k1.trans k2) D2 im ⟨ha, hb, he, hk⟩ trivial
  walk_at "go"
  refine g_if (fun c => ?_) (fun c => ?_)
  · walk_at "go"
    refine ⟨d, L, rfl, D1, fun H2 a k2 D2 ha => ?_⟩
    walk_at "go"
    refine ⟨d, L, rfl, D2, fun H3 b k3 D3 hb => ?_⟩
    walk_at "go"
    refine ⟨d, L, rfl, D3, fun H4 e k4 D4 he => ?_⟩
    walk_at "go"
    refine ⟨d, L, rfl, D4, fun H5 f k5 D5 hf => ?_⟩
    walk_at "go"
    refine m_new (.cons (.str _) (.cons (.int _) (.cons (.int _) (.cons (.int _) (.cons (.int _) .nil))))) (by simp) (fun p H6 s6 hp im => ?_)
    exact hQ _ _ (.select a b e f) (((((k1.trans k2).trans k3).trans k4).trans k5).trans (Keep.of s6)) (D5.same s6) im ⟨ha, hb, he, hf, hk⟩ trivial
  walk_at "go"
  refine g_if (fun c => ?_) (fun c => ?_)
  · walk_at "go"
    refine ⟨d, L, x, rgs, rfl, D1, ix1, ro, fun H2 v b m k2 D2 im2 hm0 => ?_⟩
    obtain ⟨t, rfl, ht⟩ := im2i im2
    walk_at "go"
    refine ⟨d, L, rfl, D2, fun H3 a k3 D3 ha => ?_⟩
    walk_at "go"
    refine ⟨d, L, rfl, D3, fun H4 e k4 D4 he => ?_⟩
    walk_at "go"
    refine m_new (.cons (.str _) (.cons (.int _) (.cons (.int _) (.cons (.int _) (.cons (.int _) .nil))))) (by simp) (fun p H6 s6 hp im => ?_)
    exact hQ _ _ (.load a e b m) ((((k1.trans k2).trans k3).trans k4).trans (Keep.of s6)) (D4.same s6) im ⟨ha, he, hk⟩ hm0
  walk_at "go"
  refine g_if (fun c => ?_) (fun c => ?_)
  · walk_at "go"
    refine ⟨d, L, x, rgs, rfl, D1, ix1, ro, fun H2 v b m k2 D2 im2 hm0 => ?_⟩
    obtain ⟨t, rfl, ht⟩ := im2i im2
    walk_at "go"
    refine ⟨d, L, rfl, D2, fun H3 a k3 D3 ha => ?_⟩
    walk_at "go"
    refine ⟨d, L, rfl, D3, fun H4 e k4 D4 he => ?_⟩
    walk_at "go"
    refine m_new (.cons (.str _) (.cons (.int _) (.cons (.int _) (.cons (.int _) (.cons (.int _) .nil))))) (by simp) (fun p H6 s6 hp im => ?_)
    exact hQ _ _ (.store a b m e) ((((k1.trans k2).trans k3).trans k4).trans (Keep.of s6)) (D4.same s6) im ⟨ha, he, hk⟩ hm0
  walk_at "go"
  refine g_if (fun c => ?_) (fun c => ?_)
  · walk_at "go"
    refine ⟨d, L, rfl, D1, fun H2 a k2 D2 ha => ?_⟩
    walk_at "go"
    refine m_new (.cons (.str _) (.cons (.int _) .nil)) (by simp) (fun p H6 s6 hp im => ?_)
    exact hQ _ _ (.out a) ((k1.trans k2).trans (Keep.of s6)) (D2.same s6) im ⟨ha, hk⟩ trivial
  walk_at "go"
  refine g_if (fun c => ?_) (fun c => ?_)
  · walk_at "go"
    refine use_nx D1 (by decide) (fun H2 v2 k2 D2 h20 h21 => ?_)
    obtain ⟨t, et, ht⟩ := to v2 h20
    walk_at "go"
    rw [et]
    refine m_new (.cons (.str _) (.cons (.int _) .nil)) (by simp) (fun p H6 s6 hp im => ?_)
    exact hQ _ _ (.jump t) ((k1.trans k2).trans (Keep.of s6)) (D2.same s6) im ht trivial
  have tail : ∀ (H2 : Hp), Keep [d] H1 H2 → DrL H2 d L → v1 = v1 → True := fun _ _ _ _ => trivial
  walk_at "go"
  refine g_if (fun c16 => ?_) (fun c16 => ?_)
  · walk_at "go"
    refine use_nx D1 (by decide) (fun H2 v2 k2 D2 h20 h21 => ?_)
    walk_at "go"
    refine g_if (fun c0 => ?_) (fun c0 => ?_)
    · walk_at "go"
      refine ⟨d, L, rfl, D2, fun H3 a k3 D3 ha => ?_⟩
      walk_at "go"
      refine m_new (.cons (.str _) (.cons (.int _) .nil)) (by simp) (fun p H6 s6 hp im => ?_)
      exact hQ _ _ (.stop a) (((k1.trans k2).trans k3).trans (Keep.of s6)) (D3.same s6) im ha trivial
    · walk_at "go"
      refine g_if (fun c17 => ?_) (fun c17 => ?_)
      · omega
      · walk_at "go"
        refine ⟨d, L, rfl, D2, fun H3 a k3 D3 ha => ?_⟩
        walk_at "go"
        refine use_nx D3 (by decide) (fun H4 v4 k4 D4 h40 h41 => ?_)
        obtain ⟨t, et, ht⟩ := to v4 h40
        walk_at "go"
        rw [et]
        refine m_new (.cons (.str _) (.cons (.int _) (.cons (.int _) .nil))) (by simp) (fun p H6 s6 hp im => ?_)
        exact hQ _ _ (.branch a t) ((((k1.trans k2).trans k3).trans k4).trans (Keep.of s6)) (D4.same s6) im ⟨ha, ht, hk⟩ trivial
  · walk_at "go"
    refine g_if (fun c17 => ?_) (fun c17 => ?_)
    · walk_at "go"
      refine ⟨d, L, rfl, D1, fun H3 a k3 D3 ha => ?_⟩
      walk_at "go"
      refine use_nx D3 (by omega) (fun H4 v4 k4 D4 h40 h41 => ?_)
      obtain ⟨t, rfl, ht⟩ := nat_of h40 h41
      walk_at "go"
      refine m_new (.cons (.str _) (.cons (.int _) (.cons (.int _) .nil))) (by simp) (fun p H6 s6 hp im => ?_)
      exact hQ _ _ (.branch a t) (((k1.trans k3).trans k4).trans (Keep.of s6)) (D4.same s6) im ⟨ha, ht, hk⟩ trivial
    · walk_at "go"
      refine ⟨d, L, rfl, D1, fun H3 a k3 D3 ha => ?_⟩
      walk_at "go"
      refine use_nx D3 (by decide) (fun H4 v4 k4 D4 h40 h41 => ?_)
      obtain ⟨t, et, ht⟩ := to v4 h40
      walk_at "go"
      rw [et]
      refine m_new (.cons (.str _) (.cons (.int _) (.cons (.int _) .nil))) (by simp) (fun p H6 s6 hp im => ?_)
      exact hQ _ _ (.branch a t) (((k1.trans k3).trans k4).trans (Keep.of s6)) (D4.same s6) im ⟨ha, ht, hk⟩ trivial
theorem conts_of : ∀ (es : List PyData) (rgs : List Rg), es.length = rgs.length → (∀ (i : Nat) (e : PyData), es[i]? = some e → ∃ c, e = cD c ∧ (∀ g : Rg, rgs[i]? = some g → c.length = g.n) ∧ ∀ x ∈ c, W32 x) →
    ∃ cs : List (List Int), es = cs.map cD ∧ cs.length = rgs.length ∧ (∀ (i : Nat) (g : Rg) (c : List Int), rgs[i]? = some g → cs[i]? = some c → c.length = g.n) ∧ ∀ c ∈ cs, ∀ x ∈ c, W32 x
  | [], rgs, hl, h => ⟨[], rfl, hl, fun i g c _ e => by simp at e, fun c hc => by cases hc⟩
  | e :: es, [], hl, h => by cases hl
  | e :: es, g :: rgs, hl, h => by
    obtain ⟨c, rfl, h1, h2⟩ := h 0 e rfl
    obtain ⟨cs, rfl, i1, i2, i3⟩ := conts_of es rgs (Nat.succ.inj hl) (fun i e he => h (i + 1) e he)
    refine ⟨c :: cs, rfl, by rw [List.length_cons, List.length_cons, i1], fun i g' c' hg hc => ?_, fun c' hc' => ?_⟩
    · cases i with
      | zero =>
        cases hg
        cases hc
        exact h1 g rfl
      | succ i => exact i2 i g' c' hg hc
    · rcases List.mem_cons.mp hc' with rfl | hc'
      · exact h2
      · exact i3 c' hc'
theorem ints_of : ∀ (es : List PyData), (∀ (i : Nat) (e : PyData), es[i]? = some e → ∃ x : Int, e = PyData.int x ∧ W32 x) → ∃ c : List Int, es = c.map PyData.int ∧ c.length = es.length ∧ ∀ x ∈ c, W32 x
  | [], h => ⟨[], rfl, rfl, fun x hx => by cases hx⟩
  | e :: es, h => by
    obtain ⟨x, rfl, hx⟩ := h 0 e rfl
    obtain ⟨c, rfl, i1, i2⟩ := ints_of es (fun i e he => h (i + 1) e he)
    refine ⟨x :: c, rfl, by rw [List.length_cons, List.length_cons, i1], fun y hy => ?_⟩
    rcases List.mem_cons.mp hy with rfl | hy
    · exact hx
    · exact i2 y hy
def sp_law_contents (K : PySem.W.Frag) : Sp := fun vs H Q _ => ∃ (d : Addr) (L : List (Addr × HO)) (code : V) (rgs : List Rg) (rows : List Row), vs = [.ref d, code] ∧ DrL H d L ∧ Im H code (codeD rgs rows) ∧ RgsOk rgs ∧ ∀ H' v cs, Keep [d] H H' → DrL H' d L → Im H' v (contD cs) → MemOk rgs cs → Q v H'
theorem sc_law_contents : FnScope ["draws", "code", "base", "label", "size", "k"] ["draws", "code"] (defScope (topS 58)) := ⟨rfl, rfl, rfl, by decide +kernel, rfl, by decide +kernel, by decide +kernel⟩
theorem ok_law_contents (T : Txt fa fn K mg (XOk cs xcs K w)) : Dn P w K mg base CX0 3 "_law_contents" ["draws", "code"] (sp_law_contents K) := by
  refine mk_dn (d := dOf "_law_contents" 58) T 38 38 rfl rfl rfl rfl rfl sc_law_contents (by walk_at "len") (fun _ _ _ _ _ _ us hl => match us, hl with | [_, _], _ => rfl) (fun cdv A outer s H vs Q E hr h => ⟨_, (pss_one (ps_ret (pe_callTy (c_tuple (K := K) rfl) rfl (T.free 136 rfl) (by decide +kernel) (pa_cons (pe_lc rfl sc_law_contents.nd (pi_seq (K := K) rfl (pe_ixU (K := K) rfl (hu_of hr) (pv 1) pe_int)) (blkOk_by (own := [("base", 2), ("size", 4), ("label", 3)]) (N := ["draws", "code", "base", "label", "size", "k"]) (sc := defScope (topS 58)) (by decide +kernel)) (fun _ _ _ _ _ => (pg_tupU (K := K) (n := 3) rfl rfl (pgs_cons (pg_name (i := 2) sc_law_contents.nd rfl (.inl rfl) (.inr rfl)) (pgs_cons (pg_name (i := 4) sc_law_contents.nd rfl (.inl rfl) (.inr rfl)) (pgs_cons (pg_name (i := 3) sc_law_contents.nd rfl (.inl rfl) (.inr rfl)) pgs_nil))))) (fun _ _ _ _ _ => pts_nil) (fun _ _ _ _ _ => (pe_callTy (c_tuple (K := K) rfl) rfl (T.free 136 rfl) (by decide +kernel) (pa_cons (pe_lc rfl sc_law_contents.nd (pi_r1 rfl (T.free 132 rfl) (pa_cons (pv 4) pa_nil)) (blkOk_by (own := [("k", 5)]) (by kernel_rfl)) (fun _ _ _ _ _ => (pg_name (i := 5) sc_law_contents.nd rfl (.inl rfl))) (fun _ _ _ _ _ => pts_nil) (fun _ _ _ _ _ => (pe_callD (K := K) rfl (ok_law_word T) (hr.mono (by decide)) rfl pass0 (pa_cons (pv 0) pa_nil)))) pa_nil)))) pa_nil)))), ?_⟩)
  obtain ⟨d, L, code, rgs, rows, rfl, D, ic, ro, hQ⟩ := h
  walk_at "go"
  refine m_ix ic (n := 0) rfl rfl (fun x ix => ?_)
  walk_at "go"
  refine m_seq ix (fun a xs e ha his => ?_)
  subst e
  have ru := ro.u
  refine l_drawT (P := fun i e => ∃ c, e = cD c ∧ (∀ g : Rg, rgs[i]? = some g → c.length = g.n) ∧ ∀ x ∈ c, W32 x) (L := L) D ha his (by rw [List.length_map]; omega) (fun i e0 y H1 R L' hi k1 iy D1 hR => ?_) ?_ (fun Dl H1 us es hDl k1 D1 ims hl hp => ?_)
  · rw [List.getElem?_map] at hi
    obtain ⟨g, hg, rfl⟩ := Option.map_eq_some_iff.mp hi
    have zz := ro.n g (List.mem_of_getElem? hg)
    obtain ⟨t, rfl, ht⟩ := im3v iy
    walk_at "go"
    rw [Int.toNat_natCast]
    refine l_drawR (P := fun i e => ∃ x, e = .int x ∧ W32 x) (L := L') D1 (by omega) (fun _ => rfl) (fun j H2 R2 L2 hj k2 D2 hR2 => ?_) (fun Dm H2 us2 es2 hDm k2 D2 ims2 hl2 hp2 => ?_)
    · walk_at "go"
      refine ⟨d, L2, rfl, D2, fun H3 x k3 D3 wx => ?_⟩
      exact hR2 H3 _ _ k3 D3 (.int x) ⟨x, rfl, wx⟩
    · obtain ⟨c, rfl, lc, wc⟩ := ints_of es2 hp2
      walk_at "go"
      refine m_tupleL (SqL.of (D2.get L'.length get_last)) ims2 (fun q H3 s3 hq im3 => ?_)
      refine hR _ _ (cD c) (k2.trans (Keep.of s3)) ((D2.sub sub_last).same s3) im3 ⟨c, rfl, fun g' hg' => ?_, wc⟩
      rw [hg] at hg'
      cases hg'
      rw [lc, hl2]
  · intro y σ1 H1 R R' hh h
    obtain ⟨a, xs, e, h1, h2, h3⟩ := h
    refine ⟨a, xs, e, h1, h2, ?_⟩
    obtain ⟨v1, r1, e1, h3⟩ := h3
    refine ⟨v1, r1, e1, ?_⟩
    obtain ⟨v2, r2, e2, h3⟩ := h3
    refine ⟨v2, r2, e2, ?_⟩
    obtain ⟨v3, r3, e3, h3⟩ := h3
    refine ⟨v3, r3, e3, h3.1, hh _ _ h3.2⟩
  · rw [List.length_map] at hl
    obtain ⟨cs, rfl, i1, i2, i3⟩ := conts_of es rgs hl hp
    walk_at "go"
    refine m_tupleL (SqL.of (D1.get L.length get_last)) ims (fun q H2 s2 hq im2 => ?_)
    exact hQ _ _ cs (k1.trans (Keep.of s2)) ((D1.sub sub_last).same s2) im2 ⟨i1, ro.u, i2, fun g hg => Nat.le_trans (ro.n g hg) (by decide), i3, ro.s⟩


/-! ### k81: code that keeps its secrets by its making -/
def pK (KN : List Nat) : Mb := fun x => decide (x ≤ 8) || KN.contains x
structure KOk (KN : List Nat) : Prop where
  nd : KN.Nodup
  b : ∀ x ∈ KN, 8 < x ∧ x < 16
theorem pK_iff {KN : List Nat} {x : Nat} : pK KN x = true ↔ x ≤ 8 ∨ x ∈ KN := by
  unfold pK
  rw [Bool.or_eq_true, decide_eq_true_eq, List.contains_iff_mem]
theorem DrL.setK {H H' : Hp} {d kn : Addr} {L : List (Addr × HO)} {o o' : HO} (D : DrL H d ((kn, o) :: L)) (k : Keep [kn] H H') (e : H' kn = some o') : DrL H' d ((kn, o') :: L) := by
  obtain ⟨r, n, sd, row, M, ok, hn⟩ := D.ex
  exact ⟨r, n, sd, row, M.call1 k 2 rfl e, ok, hn⟩
theorem DrL.perm {H : Hp} {d : Addr} {L L' : List (Addr × HO)} (D : DrL H d L) (p : L.Perm L') : DrL H d L' := by
  obtain ⟨r, n, sd, row, M, ok, hn⟩ := D.ex
  exact ⟨r, n, sd, row, M.perm ((p.cons _).cons _), ok, hn⟩
theorem DrL.noTup2 {H : Hp} {d kn : Addr} {L : List (Addr × HO)} {xs : List V} (D : DrL H d ((kn, .lst xs) :: L)) : NoTup H [d, kn] := by
  obtain ⟨r, n, sd, row, M, ok, hn⟩ := D.ex
  exact NoTup.cons (M.get 0 rfl) (fun _ e => nomatch e) (NoTup.one (M.get 2 rfl) (fun _ e => nomatch e))
theorem keepL {H H' : Hp} {d kn : Addr} (k : Keep [d] H H') : Keep [d, kn] H H' := k.mono fun b hb => by simp at hb; simp [hb]
theorem keepR {H H' : Hp} {d kn : Addr} (k : Keep [kn] H H') : Keep [d, kn] H H' := k.mono fun b hb => by simp at hb; simp [hb]
section
variable {K : PySem.W.Frag} {H H' : Hp} {Q : VK} {a : Addr} {KN : List Nat} {ds : List PyData} {xs : List V}
theorem list_dp (h : H a = some (.lst xs)) (im : Ims H xs ds) : Dp K H (.ref a) (.list ds) := .lst (SqL.of h) im.dp
theorem nV_list (h : H a = some (.lst (nV KN))) : Dp K H (.ref a) (.list (nDs KN)) := list_dp h (ims_nV KN)
theorem nDs_lay {k : Nat} : ∀ d ∈ nDs KN, Lay k d := fun d hd => by
  obtain ⟨n, _, rfl⟩ := List.mem_map.mp hd
  exact Lay.int
theorem nDs_empty : (nDs KN).isEmpty = KN.isEmpty := by cases KN <;> rfl
theorem erase_ix : ∀ {l : List Nat} {j r : Nat}, l[j]? = some r → l.Nodup → (l.eraseIdx j).Nodup ∧ ∀ x, x ∈ l.eraseIdx j ↔ x ∈ l ∧ x ≠ r
  | [], j, r, h, _ => by simp at h
  | y :: l, 0, r, h, nd => by
    cases h
    obtain ⟨n1, n2⟩ := List.nodup_cons.mp nd
    refine ⟨n2, fun x => ?_⟩
    show x ∈ l ↔ _
    constructor
    · intro hx
      exact ⟨List.mem_cons_of_mem _ hx, fun e => n1 (e ▸ hx)⟩
    · rintro ⟨hx, ne⟩
      rcases List.mem_cons.mp hx with e | hx
      · exact absurd e ne
      · exact hx
  | y :: l, j + 1, r, h, nd => by
    obtain ⟨n1, n2⟩ := List.nodup_cons.mp nd
    have h : l[j]? = some r := h
    obtain ⟨e1, e2⟩ := erase_ix h n2
    have yr : y ≠ r := fun e => n1 (e ▸ List.mem_of_getElem? h)
    show (y :: l.eraseIdx j).Nodup ∧ ∀ x, x ∈ y :: l.eraseIdx j ↔ _
    refine ⟨List.nodup_cons.mpr ⟨fun z => n1 ((e2 y).mp z).1, e1⟩, fun x => ?_⟩
    rw [List.mem_cons, List.mem_cons, e2]
    constructor
    · rintro (rfl | ⟨h1, h2⟩)
      · exact ⟨.inl rfl, yr⟩
      · exact ⟨.inr h1, h2⟩
    · rintro ⟨rfl | h1, h2⟩
      · exact .inl rfl
      · exact .inr ⟨h1, h2⟩
theorem erase_map {α β : Type} {f : α → β} : ∀ {l : List α} {j : Nat}, (l.map f).eraseIdx j = (l.eraseIdx j).map f
  | [], _ => rfl
  | _ :: _, 0 => rfl
  | x :: l, j + 1 => by
    show f x :: (l.map f).eraseIdx j = f x :: (l.eraseIdx j).map f
    rw [erase_map]
theorem nV_int81 : nV KN = (KN.map fun (n : Nat) => (n : Int)).map V.int := by
  unfold nV
  rw [List.map_map]
  rfl
end
/-- what is known behind a write -/
def Ntd (KN KN' : List Nat) (reg : Nat) (pub : Bool) : Prop := ∀ x, x ∈ KN' ↔ if x = reg then (pub = true ∧ 8 < reg) else x ∈ KN
def sp_law_noted (K : PySem.W.Frag) : Sp := fun vs H Q _ => ∃ (kn : Addr) (reg : Nat) (pub : Bool) (KN : List Nat), vs = [.ref kn, .int (reg : Int), .bl pub] ∧ H kn = some (.lst (nV KN)) ∧ KOk KN ∧ reg < 16 ∧ KN.length ≤ 1000 ∧
  ∀ H' KN', Keep [kn] H H' → H' kn = some (.lst (nV KN')) → KOk KN' → Ntd KN KN' reg pub → KN'.length ≤ KN.length + 1 → Q .non H'
theorem sc_law_noted : FnScope ["known", "reg", "public"] ["known", "reg", "public"] (defScope (topS 62)) := ⟨rfl, rfl, rfl, by decide +kernel, rfl, by decide +kernel, by decide +kernel⟩
theorem ok_law_noted (T : Txt fa fn K mg (XOk cs xcs K w)) : Dn P w K mg base CX0 1 "_law_noted" ["known", "reg", "public"] (sp_law_noted K) := by
  refine mk_dn (d := dOf "_law_noted" 62) T 42 42 rfl rfl rfl rfl rfl sc_law_noted (by walk_at "len") (fun _ _ _ _ _ _ us hl => match us, hl with | [_, _, _], _ => rfl) (fun cdv A outer s H vs Q E hr h => ⟨_, (pss_cons (ps_join (ps_if (pt_cmpR (op_inU (K := K) rfl (hu65 hr)) (pv 1) (pv 0) (by rfl)) (pss_one (ps_expr (pe_bm PySem.F.plainAttrs_list PySem.F.slot_list_remove PySem.F.type_list_remove mt_remove (pv 0) (pa_cons (pv 1) pa_nil)))) pss_nil))
      (pss_one (ps_if (PW.pt (pw_and (pt_tru (K := K) rfl (pv 2)) (pw_and1 (pt_cmpR o_gt (pv 1) pe_int (nomark _))))) (pss_one (ps_expr (pe_bm PySem.F.plainAttrs_list PySem.F.slot_list_append PySem.F.type_list_append mt_append (pv 0) (pa_cons (pv 1) pa_nil)))) pss_nil))), ?_⟩)
  obtain ⟨kn, reg, pub, KN, rfl, hk, ok, hr, hl, hQ⟩ := h
  walk_at "go"
  refine ⟨fun σ H1 => ∃ KN1 : List Nat, σ = [some (.ref kn), some (.int (reg : Int)), some (.bl pub)] ∧ Keep [kn] H H1 ∧ H1 kn = some (.lst (nV KN1)) ∧ KN1.Nodup ∧ (∀ x, x ∈ KN1 ↔ x ∈ KN ∧ x ≠ reg) ∧ KN1.length ≤ KN.length, ?_, ?_⟩
  · walk_at "go"
    refine k_inN (.inr (SqL.of hk)) ?_
    walk_at "go"
    refine g_ifB (fun c => ?_) (fun c => ?_)
    · have hm : reg ∈ KN := List.contains_iff_mem.mp c
      obtain ⟨j, hj⟩ := List.getElem?_of_mem hm
      obtain ⟨e1, e2⟩ := erase_ix hj ok.nd
      have hjl := (List.getElem?_eq_some_iff.mp hj).1
      walk_at "go"
      refine ⟨kn, KN.map fun (n : Nat) => (n : Int), (reg : Int), j, rfl, rfl, by rw [← nV_int81]; exact hk, by rw [List.getElem?_map, hj]; rfl, fun m hm hz => ?_, ?_⟩
      · rw [List.getElem?_map] at hz
        obtain ⟨y, hy, e⟩ := Option.map_eq_some_iff.mp hz
        have e : y = reg := by omega
        subst e
        obtain ⟨a1, b1⟩ := List.getElem?_eq_some_iff.mp hj
        obtain ⟨a2, b2⟩ := List.getElem?_eq_some_iff.mp hy
        have := (List.getElem_inj (h₀ := a1) (h₁ := a2) ok.nd).mp (b1.trans b2.symm)
        omega
      · rw [erase_map, ← nV_int81]
        walk_at "go"
        exact ⟨KN.eraseIdx j, rfl, Keep.set (by simp), upd_same, e1, e2, by rw [List.length_eraseIdx]; split <;> omega⟩
    · walk_at "go"
      have hm : reg ∉ KN := fun z => by rw [List.contains_iff_mem.mpr z] at c; cases c
      exact ⟨KN, rfl, Keep.refl, hk, ok.nd, fun x => ⟨fun hx => ⟨hx, fun e => hm (e ▸ hx)⟩, (·.1)⟩, Nat.le_refl _⟩
  · rintro σ H1 ⟨KN1, rfl, k1, hk1, nd1, m1, l1⟩
    have b1 : ∀ x ∈ KN1, 8 < x ∧ x < 16 := fun x hx => ok.b x ((m1 x).mp hx).1
    have no : ∀ {b : Bool}, ¬ (b = true ∧ 8 < reg) → Ntd KN KN1 reg b := fun hb x => by
      rw [m1]
      by_cases c : x = reg
      · rw [if_pos c]
        exact ⟨fun z => absurd c z.2, fun z => absurd z hb⟩
      · rw [if_neg c]
        exact ⟨(·.1), fun z => ⟨z, c⟩⟩
    cases pub with
    | false =>
      walk_at "go"
      exact hQ H1 KN1 k1 hk1 ⟨nd1, b1⟩ (no (fun z => by cases z.1)) (by omega)
    | true =>
      walk_at "go"
      refine g_if (fun c => ?_) (fun c => ?_)
      · walk_at "go"
        refine ⟨kn, nV KN1, .int (reg : Int), rfl, rfl, hk1, szl (by rw [nV_len]; omega), ?_⟩
        have e : nV KN1 ++ [V.int (reg : Int)] = nV (KN1 ++ [reg]) := nV_snoc.symm
        rw [e]
        walk_at "go"
        refine hQ _ (KN1 ++ [reg]) (k1.trans (Keep.set (by simp))) upd_same ⟨?_, fun x hx => ?_⟩ (fun x => ?_) (by rw [List.length_append, List.length_singleton]; omega)
        · rw [List.nodup_append]
          refine ⟨nd1, by simp, fun x hx y hy e => ?_⟩
          rw [List.mem_singleton.mp hy] at e
          exact ((m1 x).mp hx).2 e
        · rcases List.mem_append.mp hx with hx | hx
          · exact b1 x hx
          · rw [List.mem_singleton.mp hx]
            exact ⟨by omega, hr⟩
        · rw [List.mem_append, List.mem_singleton, m1]
          by_cases c2 : x = reg
          · rw [if_pos c2]
            exact ⟨fun _ => ⟨rfl, by omega⟩, fun _ => .inr c2⟩
          · rw [if_neg c2]
            exact ⟨fun z => z.elim (·.1) fun z => absurd z c2, fun z => .inl ⟨z, c2⟩⟩
      · walk_at "go"
        exact hQ H1 KN1 k1 hk1 ⟨nd1, b1⟩ (no (fun z => by have := z.2; omega)) (by omega)
/-- a clear register -/
def sp_law_clear (K : PySem.W.Frag) : Sp := fun vs H Q _ => ∃ (d kn : Addr) (L : List (Addr × HO)) (KN : List Nat), vs = [.ref d, .ref kn] ∧ DrL H d ((kn, .lst (nV KN)) :: L) ∧ KOk KN ∧ KN.length ≤ 1000 ∧
  ∀ H' (n : Nat), Keep [d] H H' → DrL H' d ((kn, .lst (nV KN)) :: L) → n < 16 → pK KN n = true → Q (.int (n : Int)) H'
theorem sc_law_clear : FnScope ["draws", "known"] ["draws", "known"] (defScope (topS 61)) := ⟨rfl, rfl, rfl, by decide +kernel, rfl, by decide +kernel, by decide +kernel⟩
theorem ok_law_clear (T : Txt fa fn K mg (XOk cs xcs K w)) : Dn P w K mg base CX0 2 "_law_clear" ["draws", "known"] (sp_law_clear K) := by
  refine mk_dn (d := dOf "_law_clear" 61) T 41 41 rfl rfl rfl rfl rfl sc_law_clear (by walk_at "len") (fun _ _ _ _ _ _ us hl => match us, hl with | [_, _], _ => rfl) (fun cdv A outer s H vs Q E hr h => ⟨_, (pss_cons (ps_if (PW.pt (pw_and (pt_cmpR (op_neU (K := K) rfl hr.units) (pv 1) (pe_lst pa_nil) (nomark _)) (pw_and1 (pt_cmpR (op_eqU (K := K) rfl hr.units) (pe_callD (K := K) rfl (ok_law_next T) (hr.mono (by decide)) rfl pass0 (pa_cons (pv 0) (pa_cons pe_int pa_nil))) pe_int (nomark _))))) (pss_one (ps_ret (pe_ixU (K := K) rfl (hu_of hr) (pv 1) (pe_callD (K := K) rfl (ok_law_next T) (hr.mono (by decide)) rfl pass0 (pa_cons (pv 0) (pa_cons (pe_callB (c_len (K := K) rfl) rfl (T.free 128 rfl) (by decide +kernel) (pa_cons (pv 1) pa_nil)) pa_nil)))))) pss_nil)
      (pss_one (ps_ret (pe_callD (K := K) rfl (ok_law_next T) (hr.mono (by decide)) rfl pass0 (pa_cons (pv 0) (pa_cons (pe_ixU (K := K) rfl (hu_of hr) (pe_lst (pa_cons pe_int (pa_cons pe_int pa_nil))) (pe_callD (K := K) rfl (ok_law_next T) (hr.mono (by decide)) rfl pass0 (pa_cons (pv 0) (pa_cons pe_int pa_nil)))) pa_nil)))))), ?_⟩)
  obtain ⟨d, kn, L, KN, rfl, D, ok, hl, hQ⟩ := h
  have tail : ∀ H1, Keep [d] H H1 → DrL H1 d ((kn, .lst (nV KN)) :: L) → rLstN [.int 3, .int 9] H1 fun x H1 => tCall (sp_law_next K) [] (fun _ _ _ => False) (tCons (tVar 0) (tCons (tC (.int 2)) tNil)) [some (.ref d), some (.ref kn)] H1 fun y H2 => rIxU K x y H2 fun z H3 => sp_law_next K ([.ref d, z] ++ []) H3 Q (fun _ _ _ => False) := fun H1 k1 D1 => by
    refine use_pk D1 rfl rfl (by simp) (by simp) (fun H2 v k2 D2 hv => ?_)
    obtain ⟨m, rfl, hm0, hm1⟩ : ∃ m : Int, v = .int m ∧ 0 < m ∧ m ≤ 9 := by
      simp only [List.mem_cons, List.not_mem_nil, or_false] at hv
      rcases hv with rfl | rfl <;> exact ⟨_, rfl, by decide, by decide⟩
    refine use_nx D2 hm0 (fun H3 w k3 D3 h30 h31 => ?_)
    obtain ⟨n, rfl⟩ : ∃ n : Nat, w = (n : Int) := ⟨w.toNat, by omega⟩
    exact hQ H3 n ((k1.trans k2).trans k3) D3 (by omega) (pK_iff.mpr (.inl (by omega)))
  walk_at "go"
  refine ⟨by decide, fun e he => ?_⟩
  have D1 := D.same (Same.new (o := .lst []) he)
  have s1 := Same.new (o := .lst []) he
  have hk1 : upd H e (.lst []) kn = some (.lst (nV KN)) := D1.get 0 rfl
  refine g_neD (nV_list hk1) (list_dp (ds := []) upd_same .nil) (list_shaped nDs_lay) (list_shaped (by simp)) ?_
  rw [eqv_lnil, nDs_empty]
  walk_at "go"
  cases hK : KN.isEmpty with
  | true =>
    walk_at "go"
    exact tail _ (Keep.of s1) D1
  | false =>
    have kl : 0 < KN.length := by
      cases KN with
      | nil => cases hK
      | cons x l => exact Nat.succ_pos _
    walk_at "go"
    refine use_nx D1 (by decide) (fun H2 v2 k2 D2 h20 h21 => ?_)
    walk_at "go"
    refine g_if (fun c => ?_) (fun c => ?_)
    · have hk2 : H2 kn = some (.lst (nV KN)) := D2.get 0 rfl
      walk_at "go"
      refine use_nx D2 (by omega) (fun H3 v3 k3 D3 h30 h31 => ?_)
      have hk3 : H3 kn = some (.lst (nV KN)) := D3.get 0 rfl
      obtain ⟨i, rfl⟩ : ∃ i : Nat, v3 = (i : Int) := ⟨v3.toNat, by omega⟩
      have hi : KN[i]? = some (KN[i]'(by omega)) := List.getElem?_eq_getElem _
      have hm := List.mem_of_getElem? hi
      generalize KN[i]'(by omega) = n at hi hm
      refine g_ixL (SqL.of hk3) (n := i) rfl (nV_at hi) ?_
      exact hQ H3 n (((Keep.of s1).trans k2).trans k3) D3 (ok.b n hm).2 (pK_iff.mpr (.inr hm))
    · walk_at "go"
      exact tail _ ((Keep.of s1).trans k2) D2
def sp_law_source (K : PySem.W.Frag) : Sp := fun vs H Q _ => ∃ (d kn : Addr) (L : List (Addr × HO)) (KN : List Nat) (pub : Bool), vs = [.ref d, .ref kn, .bl pub] ∧ DrL H d ((kn, .lst (nV KN)) :: L) ∧ KOk KN ∧ KN.length ≤ 1000 ∧
  ∀ H' (n : Nat), Keep [d] H H' → DrL H' d ((kn, .lst (nV KN)) :: L) → n < 16 → (pub = true → pK KN n = true) → Q (.int (n : Int)) H'
theorem sc_law_source : FnScope ["draws", "known", "public"] ["draws", "known", "public"] (defScope (topS 63)) := ⟨rfl, rfl, rfl, by decide +kernel, rfl, by decide +kernel, by decide +kernel⟩
theorem ok_law_source (T : Txt fa fn K mg (XOk cs xcs K w)) : Dn P w K mg base CX0 3 "_law_source" ["draws", "known", "public"] (sp_law_source K) := by
  refine mk_dn (d := dOf "_law_source" 63) T 43 43 rfl rfl rfl rfl rfl sc_law_source (by walk_at "len") (fun _ _ _ _ _ _ us hl => match us, hl with | [_, _, _], _ => rfl) (fun cdv A outer s H vs Q E hr h => ⟨_, (pss_cons (ps_if (pt_tru (K := K) rfl (pv 2)) (pss_one (ps_ret (pe_callD (K := K) rfl (ok_law_clear T) (hr.mono (by decide)) rfl pass0 (pa_cons (pv 0) (pa_cons (pv 1) pa_nil))))) pss_nil)
      (pss_one (ps_ret (pe_op (op_addU (K := K) rfl) pe_int (pe_callD (K := K) rfl (ok_law_next T) (hr.mono (by decide)) rfl pass0 (pa_cons (pv 0) (pa_cons pe_int pa_nil))))))), ?_⟩)
  obtain ⟨d, kn, L, KN, pub, rfl, D, ok, hl, hQ⟩ := h
  cases pub with
  | true =>
    walk_at "go"
    exact ⟨d, kn, L, KN, rfl, D, ok, hl, fun H' n k D' hn hp => hQ H' n k D' hn fun _ => hp⟩
  | false =>
    walk_at "go"
    refine use_nx D (by decide) (fun H1 v k1 D1 h0 h1 => ?_)
    walk_at "go"
    obtain ⟨n, e, hn⟩ : ∃ n : Nat, 9 + v = (n : Int) ∧ n < 16 := ⟨(9 + v).toNat, by omega, by omega⟩
    rw [e]
    exact hQ H1 n k1 D1 hn (fun z => by cases z)
/-- the region that holds a span -/
theorem regOf_at {rgs : List Rg} (d : Dsj rgs) {g : Rg} {b m : Int} (hg : g ∈ rgs) (h0 : 0 ≤ m) (h1 : g.b ≤ b) (h2 : b + m < g.b + (g.n : Int)) : regOf rgs b m = some g := by
  cases e : regOf rgs b m with
  | none =>
    have := List.find?_eq_none.mp e g hg
    simp only [Bool.and_eq_true, decide_eq_true_eq, not_and] at this
    exact absurd h2 (this h1)
  | some g' =>
    obtain ⟨g1, g2⟩ := reg_in e
    have h3 := List.find?_some e
    simp only [Bool.and_eq_true, decide_eq_true_eq] at h3
    have := dsj_eq d g1 hg (a := b) ⟨h3.1, by omega⟩ ⟨h1, by omega⟩
    rw [this]
def sp_law_spans (K : PySem.W.Frag) : Sp := fun vs H Q _ => ∃ (d lb : Addr) (L : List (Addr × HO)) (x : V) (rgs : List Rg) (ls : List Str), vs = [.ref d, x, .ref lb] ∧ DrL H d L ∧ H lb = some (.lst (ls.map V.str)) ∧ Im H x (rgsD rgs) ∧ RgsOk rgs ∧
  ((∀ g ∈ rgs, g.l ∉ ls) → ∀ H', Keep [d] H H' → DrL H' d L → Q .non H') ∧
  ∀ H' v g b m, Keep [d] H H' → DrL H' d L → Im H' v (.tuple [.int b, .int m, .str g.l]) → g ∈ rgs → g.l ∈ ls → 0 ≤ m → g.b ≤ b → b + m < g.b + (g.n : Int) → v ≠ .non → Q v H'
theorem sc_law_spans : FnScope ["draws", "regions", "labels", "found", "base", "size", "label", "mask", "shift", "region"] ["draws", "regions", "labels"] (defScope (topS 60)) := ⟨rfl, rfl, rfl, by decide +kernel, rfl, by decide +kernel, by decide +kernel⟩
theorem ok_law_spans (T : Txt fa fn K mg (XOk cs xcs K w)) : Dn P w K mg base CX0 2 "_law_spans" ["draws", "regions", "labels"] (sp_law_spans K) := by
  refine mk_dn (d := dOf "_law_spans" 60) T 40 40 rfl rfl rfl rfl rfl sc_law_spans (by walk_at "len") (fun _ _ _ _ _ _ us hl => match us, hl with | [_, _, _], _ => rfl) (fun cdv A outer s H vs Q E hr h => ⟨_, (pss_cons (ps_setLc (i := 3) rfl sc_law_spans.nd rfl rfl (sw_true rfl rfl rfl (by decide +kernel)) (pi_seq (K := K) rfl (pv 1)) (blkOk_by (own := [("region", 9)]) (N := ["draws", "regions", "labels", "found", "base", "size", "label", "mask", "shift", "region"]) (sc := defScope (topS 60)) (by decide +kernel)) (fun _ _ _ _ _ => (pg_name (i := 9) sc_law_spans.nd rfl (.inl rfl))) (fun _ _ _ _ _ => (pts_one (pt_cmpR (op_inU (K := K) rfl (hu65 hr)) (pe_ixU (K := K) rfl (hu_of hr) (pv 9) pe_int) (pv 2) (by rfl)))) (fun _ _ _ _ _ => (pv 9)))
      (pss_cons (ps_if (pt_cmpR (op_eqU (K := K) rfl hr.units) (pv 3) (pe_lst pa_nil) (nomark _)) (pss_one (ps_ret pe_non)) pss_nil)
      (pss_cons (ps_asg (pe_ixU (K := K) rfl (hu_of hr) (pv 3) (pe_callD (K := K) rfl (ok_law_next T) (hr.mono (by decide)) rfl pass0 (pa_cons (pv 0) (pa_cons (pe_callB (c_len (K := K) rfl) rfl (T.free 128 rfl) (by decide +kernel) (pa_cons (pv 3) pa_nil)) pa_nil)))) (pg_tup rfl (pgs_cons (pg_name (i := 4) sc_law_spans.nd rfl (.inl rfl)) (pgs_cons (pg_name (i := 5) sc_law_spans.nd rfl (.inl rfl)) (pgs_cons (pg_name (i := 6) sc_law_spans.nd rfl (.inl rfl)) pgs_nil)))))
      (pss_cons (ps_set (i := 7) sc_law_spans.nd rfl (.inl rfl) pe_int)
      (pss_cons (ps_while PassesOwn.never (PW.pt (pw_and (pt_cmpR o_le (pe_op (op_addU (K := K) rfl) (pe_op op_mulU pe_int (pv 7)) pe_int) (pv 5) (nomark _)) (pw_and1 (pt_cmpR o_gt (pe_callD (K := K) rfl (ok_law_next T) (hr.mono (by decide)) rfl pass0 (pa_cons (pv 0) (pa_cons pe_int pa_nil))) pe_int (nomark _))))) (pss_one (ps_set (i := 7) sc_law_spans.nd rfl (.inl rfl) (pe_op (op_addU (K := K) rfl) (pe_op op_mulU pe_int (pv 7)) pe_int))))
      (pss_cons (ps_set (i := 8) sc_law_spans.nd rfl (.inl rfl) (pe_callD (K := K) rfl (ok_law_next T) (hr.mono (by decide)) rfl pass0 (pa_cons (pv 0) (pa_cons (pe_op op_sub (pv 5) (pv 7)) pa_nil))))
      (pss_one (ps_ret (pe_tup (pa_cons (pe_op (op_addU (K := K) rfl) (pv 4) (pv 8)) (pa_cons (pv 7) (pa_cons (pv 6) pa_nil)))))))))))), ?_⟩)
  obtain ⟨d, lb, L, x, rgs, ls, rfl, D, hlb, ix, ro, hN, hS⟩ := h
  walk_at "go"
  refine m_seq ix (fun a xs e ha his => ?_)
  subst e
  have hxl := his.length
  rw [List.length_map] at hxl
  have ru := ro.u
  have hne : lb ≠ d := by
    obtain ⟨r, n, sd, row, M, ok, hn⟩ := D.ex
    exact ne_of hlb (M.get 0 rfl) (by intro z; cases z)
  refine l_tup (xs := xs) (fun Dl i H' => ∃ us, H' Dl = some (.lst us) ∧ Ims H' us (((rgs.take i).filter fun g => ls.contains g.l).map Rg.d) ∧ Same H H') (fun Dl hD => ⟨[], upd_same, .nil, Same.new hD⟩) (fun Dl hD i H' _ ⟨_, _, _, s1⟩ => SqT.of (s1 _ _ ha)) ?_ ?_
  · rintro Dl hD i v H' hi ⟨us, hDl, hus, s1⟩
    have hi' := (List.getElem?_eq_some_iff.mp hi).1
    have hg : rgs[i]? = some (rgs[i]'(by omega)) := List.getElem?_eq_getElem _
    generalize rgs[i]'(by omega) = g at hg
    obtain ⟨v', hv', hvd⟩ := his.get (n := i) (d := g.d) (by rw [List.getElem?_map, hg]; rfl)
    rw [hi] at hv'
    cases hv'
    have hvd1 : Im H' v g.d := hvd.same s1
    walk_at "go"
    refine m_ix (show Im H' v (.tuple [.int g.b, nI g.n, .str g.l]) from hvd1) (n := 2) rfl rfl (fun u hu => ?_)
    rw [hu.str_inv]
    walk_at "go"
    refine g_inTs (ks := ls) (.inr (s1 _ _ hlb)) ?_
    rw [filter_take_succ hg]
    walk_at "go"
    refine g_ifB (fun h4 => ?_) (fun h4 => ?_)
    · walk_at "go"
      rw [h4, if_pos rfl]
      refine ⟨us, hDl, szl (by rw [hus.length, List.length_map]; have := List.length_filter_le (fun g : Rg => ls.contains g.l) (rgs.take i); rw [List.length_take] at this; omega), us ++ [v], upd_same, ?_, Same.mut s1 hD⟩
      rw [List.map_append]
      exact ims_snoc (H2 := H') hus hvd1 hDl
    · rw [h4, if_neg Bool.false_ne_true, List.append_nil]
      exact ⟨us, hDl, hus, s1⟩
  · rintro Dl hD H1 ⟨us, hDl, hus, s1⟩
    rw [hxl, List.take_length] at hus
    generalize hF : (rgs.filter fun g => ls.contains g.l) = F at hus
    have memF : ∀ g, g ∈ F ↔ g ∈ rgs ∧ g.l ∈ ls := fun g => by
      rw [← hF, List.mem_filter, List.contains_iff_mem]
    have hul := hus.length
    rw [List.length_map] at hul
    have D1 := D.same s1
    walk_at "go"
    refine ⟨by decide, fun e he => ?_⟩
    have s2 := Same.new (o := .lst []) he
    have hDl2 := s2 _ _ hDl
    refine g_eqD (list_dp hDl2 (hus.same s2)) (list_dp (ds := []) upd_same .nil) (list_shaped (fun dd hd => ?_)) (list_shaped (by simp)) ?_
    · obtain ⟨g, hg, rfl⟩ := List.mem_map.mp hd
      refine Lay.tup fun y hy => ?_
      simp only [List.mem_cons, List.not_mem_nil, or_false] at hy
      rcases hy with rfl | rfl | rfl
      · exact Lay.int
      · exact Lay.int
      · exact Lay.str (ro.s g ((memF g).mp hg).1)
    rw [eqv_lnil]
    have D2 := (D1.same s2)
    have hus2 := hus.same s2
    cases F with
    | nil =>
      rw [show (([] : List Rg).map Rg.d).isEmpty = true from rfl]
      walk_at "go"
      exact hN (fun g hg hl => by have := (memF g).mpr ⟨hg, hl⟩; cases this) _ (Keep.of (s1.trans s2)) D2
    | cons g0 F0 =>
      rw [show ((g0 :: F0).map Rg.d).isEmpty = false from rfl]
      walk_at "go"
      refine use_nx D2 (by rw [hul, List.length_cons]; omega) (fun H3 v3 k3 D3 h30 h31 => ?_)
      obtain ⟨i, rfl⟩ : ∃ i : Nat, v3 = (i : Int) := ⟨v3.toNat, by omega⟩
      have hDl3 := D2.at_ k3 hDl2 (fun _ e => nomatch e)
      have hus3 := D2.ims k3 hus2
      have hiF : i < (g0 :: F0).length := by omega
      have hg : (g0 :: F0)[i]? = some ((g0 :: F0)[i]'hiF) := List.getElem?_eq_getElem _
      generalize (g0 :: F0)[i]'hiF = g at hg
      obtain ⟨gm, gl⟩ := (memF g).mp (List.mem_of_getElem? hg)
      obtain ⟨y, hy, iy⟩ := hus3.get (n := i) (d := g.d) (by rw [List.getElem?_map, hg]; rfl)
      obtain ⟨t, rfl, ht⟩ := im3v iy
      have gz := ro.z g gm
      have gn := ro.n g gm
      have k03 : Keep [d] H H3 := (Keep.of (s1.trans s2)).trans k3
      refine g_ixL (SqL.of hDl3) (n := i) rfl hy ?_
      walk_at "go"
      refine ⟨fun m σ H' => ∃ (mask : Int) (o7 o8 : Option V), σ = [some (.ref d), some (.ref a), some (.ref lb), some (.ref Dl), some (.int g.b), some (.int (g.n : Int)), some (.str g.l), some (.int mask), o7, o8] ∧ Keep [d] H H' ∧ DrL H' d L ∧ 0 ≤ mask ∧ mask + 1 ≤ (g.n : Int) ∧ ((g.n : Int) - mask).toNat = m, ⟨_, _, _, _, rfl, k03, D3, by decide, by omega, rfl⟩, ?_⟩
      rintro m σ H4 ⟨mask, o7, o8, rfl, k4, D4, h0, h1, hm⟩
      have fin : ∀ H5, Keep [d] H H5 → DrL H5 d L → True := fun _ _ _ => trivial
      walk_at "go"
      refine g_if (fun hc => ?_) (fun hc => ?_)
      · walk_at "go"
        refine use_nx D4 (by decide) (fun H5 v5 k5 D5 h50 h51 => ?_)
        walk_at "go"
        refine g_if (fun hc2 => ?_) (fun hc2 => ?_)
        · refine g_whileT ?_
          walk_at "go"
          exact ⟨_, by omega, 2 * mask + 1, _, _, rfl, k4.trans k5, D5, by omega, by omega, rfl⟩
        · walk_at "go"
          refine use_nx D5 (by omega) (fun H6 v6 k6 D6 h60 h61 => ?_)
          walk_at "go"
          refine m_new (.cons (.int (g.b + v6)) (.cons (.int mask) (.cons (.str g.l) .nil))) (by show 3 ≤ 100000; decide) (fun p H7 s7 _ i7 => ?_)
          exact hS _ _ g _ _ (((k4.trans k5).trans k6).trans (Keep.of s7)) (D6.same s7) i7 gm gl h0 (by omega) (by omega) (fun z => by cases z)
      · walk_at "go"
        refine use_nx D4 (by omega) (fun H6 v6 k6 D6 h60 h61 => ?_)
        walk_at "go"
        refine m_new (.cons (.int (g.b + v6)) (.cons (.int mask) (.cons (.str g.l) .nil))) (by show 3 ≤ 100000; decide) (fun p H7 s7 _ i7 => ?_)
        exact hS _ _ g _ _ ((k4.trans k6).trans (Keep.of s7)) (D6.same s7) i7 gm gl h0 (by omega) (by omega) (fun z => by cases z)


/-! ### k81: a value, a deed -/
theorem im3s {H : Hp} {v : V} {b m : Int} {z : Str} (h : Im H v (.tuple [.int b, .int m, .str z])) : ∃ t, v = .ref t ∧ H t = some (.tup [.int b, .int m, .str z]) := by
  obtain ⟨t, x1, x2, x3, rfl, ht, i1, i2, i3⟩ := im3 h
  obtain rfl := i1.int_inv
  obtain rfl := i2.int_inv
  obtain rfl := i3.str_inv
  exact ⟨t, rfl, ht⟩
def StR : Row → Bool
  | .stop _ => false
  | .jump _ => false
  | .branch _ _ => false
  | _ => true
theorem wr_ok {rgs : List Rg} {KN KN' : List Nat} {r : Row} {reg : Nat} {W pub : Bool} (hw : wrP rgs (pK KN) r = some (reg, W)) (hn : Ntd KN KN' reg pub) (h1 : reg ≤ 8 → W = true) (h2 : pub = true → W = true) : ∀ x, x < 16 → pK KN' x = true → bhd rgs r (pK KN) x = true := fun x hx hp => by
  rw [bhd_w hw]
  rw [pK_iff] at hp
  by_cases c : x = reg
  · rw [if_pos c]
    rcases hp with hp | hp
    · exact h1 (by omega)
    · have := (hn x).mp hp
      rw [if_pos c] at this
      exact h2 this.1
  · rw [if_neg c, pK_iff]
    rcases hp with hp | hp
    · exact .inl hp
    · have := (hn x).mp hp
      rw [if_neg c] at this
      exact .inr this
/-- a row that may follow what is known, and what is known behind it -/
structure Nxt (rgs : List Rg) (KN KN' : List Nat) (r : Row) : Prop where
  m : mskOk r
  n : refW rgs r (pK KN) = none
  b : ∀ x, x < 16 → pK KN' x = true → bhd rgs r (pK KN) x = true
  k : KOk KN'
  l : KN'.length ≤ KN.length + 1
def sgL : List Sg := [.add, .sub, .mul, .band, .bor, .bxor, .shl, .shr, .eq, .lt, .le, .div, .mod]
theorem sgL_le : ∀ i < 11, (sgL[i]?).map isDM = some false := by decide
theorem ref_op {rgs : List Rg} {p : Mb} {s : Sg} {d a b : Nat} (h : isDM s = false ∨ (p a = true ∧ p b = true)) : refW rgs (.op s d a b) p = none := by
  rcases h with h | ⟨h1, h2⟩
  · cases s <;> first | rfl | cases h
  · cases s <;> first | rfl | (show (if p a = true then (if p b = true then (none : Option Str) else some "cost") else some "cost") = none; rw [h1, h2, if_pos rfl, if_pos rfl])
def sp_law_value (K : PySem.W.Frag) : Sp := fun vs H Q _ => ∃ (d kn : Addr) (L : List (Addr × HO)) (x : V) (rgs : List Rg) (KN : List Nat) (k many : Nat), vs = [.ref d, .ref kn, x] ∧ DrL H d ((kn, .lst (nV KN)) :: L) ∧ Im H x (rgsD rgs) ∧ RgsOk rgs ∧ KOk KN ∧ KN.length ≤ 999 ∧ k + 1 < many ∧
  ∀ H' v r KN', Keep [d, kn] H H' → DrL H' d ((kn, .lst (nV KN')) :: L) → Im H' v (Row.d r) → RowOkD many k r → StR r = true → Nxt rgs KN KN' r → Q v H'
theorem sc_law_value : FnScope ["draws", "known", "regions", "public", "reg", "pick", "sign", "first", "second", "span", "parts", "address"] ["draws", "known", "regions"] (defScope (topS 64)) := ⟨rfl, rfl, rfl, by decide +kernel, rfl, by decide +kernel, by decide +kernel⟩
theorem ok_law_value (T : Txt fa fn K mg (XOk cs xcs K w)) : Dn P w K mg base CX0 4 "_law_value" ["draws", "known", "regions"] (sp_law_value K) := by
  refine mk_dn (d := dOf "_law_value" 64) T 44 44 rfl rfl rfl rfl rfl sc_law_value (by walk_at "len") (fun _ _ _ _ _ _ us hl => match us, hl with | [_, _, _], _ => rfl) (fun cdv A outer s H vs Q E hr h => ⟨_, (pss_cons (ps_set (i := 3) sc_law_value.nd rfl (.inl rfl) (pe_cmpR (op_eqU (K := K) rfl hr.units) (pe_callD (K := K) rfl (ok_law_next T) (hr.mono (by decide)) rfl pass0 (pa_cons (pv 0) (pa_cons pe_int pa_nil))) pe_int (nomark _)))
      (pss_cons (ps_set (i := 4) sc_law_value.nd rfl (.inl rfl) (pe_op (op_addU (K := K) rfl) pe_int (pe_callD (K := K) rfl (ok_law_next T) (hr.mono (by decide)) rfl pass0 (pa_cons (pv 0) (pa_cons pe_int pa_nil)))))
      (pss_cons (ps_join (ps_if (PW.pt (pw_and (pt_tru (K := K) rfl (pv 3)) (pw_and1 (pt_cmpR o_gt (pe_callD (K := K) rfl (ok_law_next T) (hr.mono (by decide)) rfl pass0 (pa_cons (pv 0) (pa_cons pe_int pa_nil))) pe_int (nomark _))))) (pss_one (ps_set (i := 4) sc_law_value.nd rfl (.inl rfl) (pe_callD (K := K) rfl (ok_law_next T) (hr.mono (by decide)) rfl pass0 (pa_cons (pv 0) (pa_cons pe_int pa_nil))))) pss_nil))
      (pss_cons (ps_set (i := 5) sc_law_value.nd rfl (.inl rfl) (pe_callD (K := K) rfl (ok_law_next T) (hr.mono (by decide)) rfl pass0 (pa_cons (pv 0) (pa_cons pe_int pa_nil))))
      (pss_cons (ps_if (pt_cmpR (op_eqU (K := K) rfl hr.units) (pv 5) pe_int (nomark _)) (pss_cons (ps_expr (pe_callD (K := K) rfl (ok_law_noted T) (hr.mono (by decide)) rfl pass0 (pa_cons (pv 1) (pa_cons (pv 4) (pa_cons pe_bl pa_nil)))))
      (pss_one (ps_ret (pe_tup (pa_cons pe_str (pa_cons (pv 4) (pa_cons (pe_callD (K := K) rfl (ok_law_word T) (hr.mono (by decide)) rfl pass0 (pa_cons (pv 0) pa_nil)) pa_nil))))))) pss_nil)
      (pss_cons (ps_join (ps_if (pt_cmpR (op_eqU (K := K) rfl hr.units) (pv 5) pe_int (nomark _)) (pss_cons (ps_set (i := 9) sc_law_value.nd rfl (.inl rfl) (pe_callD (K := K) rfl (ok_law_spans T) (hr.mono (by decide)) rfl pass0 (pa_cons (pv 0) (pa_cons (pv 2) (pa_cons (pe_ixU (K := K) rfl (hu_of hr) (pe_lst (pa_cons (pe_lst (pa_cons pe_str (pa_cons pe_str pa_nil))) (pa_cons (pe_lst (pa_cons pe_str pa_nil)) pa_nil))) (pe_callTy c_int rfl (T.free 126 rfl) (by decide +kernel) (pa_cons (pv 3) pa_nil))) pa_nil)))))
      (pss_one (ps_if (pt_cmpR o_notN (pv 9) pe_non (nomark _)) (pss_cons (ps_set (i := 11) sc_law_value.nd rfl (.inl rfl) (pe_callD (K := K) rfl (ok_law_clear T) (hr.mono (by decide)) rfl pass0 (pa_cons (pv 0) (pa_cons (pv 1) pa_nil))))
      (pss_cons (ps_expr (pe_callD (K := K) rfl (ok_law_noted T) (hr.mono (by decide)) rfl pass0 (pa_cons (pv 1) (pa_cons (pv 4) (pa_cons (pe_cmpR (op_eqU (K := K) rfl hr.units) (pe_ixU (K := K) rfl (hu_of hr) (pv 9) pe_int) pe_str (nomark _)) pa_nil)))))
      (pss_one (ps_ret (pe_tup (pa_cons pe_str (pa_cons (pv 4) (pa_cons (pv 11) (pa_cons (pe_ixU (K := K) rfl (hu_of hr) (pv 9) pe_int) (pa_cons (pe_ixU (K := K) rfl (hu_of hr) (pv 9) pe_int) pa_nil)))))))))) pss_nil))) pss_nil))
      (pss_cons (ps_if (pt_cmpR (op_eqU (K := K) rfl hr.units) (pv 5) pe_int (nomark _)) (pss_cons (ps_set (i := 10) sc_law_value.nd rfl (.inl rfl) (pe_lst (pa_cons (pe_callD (K := K) rfl (ok_law_source T) (hr.mono (by decide)) rfl pass0 (pa_cons (pv 0) (pa_cons (pv 1) (pa_cons (pv 3) pa_nil)))) (pa_cons (pe_callD (K := K) rfl (ok_law_clear T) (hr.mono (by decide)) rfl pass0 (pa_cons (pv 0) (pa_cons (pv 1) pa_nil))) (pa_cons (pe_callD (K := K) rfl (ok_law_source T) (hr.mono (by decide)) rfl pass0 (pa_cons (pv 0) (pa_cons (pv 1) (pa_cons (pv 3) pa_nil)))) pa_nil)))))
      (pss_cons (ps_expr (pe_callD (K := K) rfl (ok_law_noted T) (hr.mono (by decide)) rfl pass0 (pa_cons (pv 1) (pa_cons (pv 4) (pa_cons (pv 3) pa_nil)))))
      (pss_one (ps_ret (pe_tup (pa_cons pe_str (pa_cons (pv 4) (pa_cons (pe_ixU (K := K) rfl (hu_of hr) (pv 10) pe_int) (pa_cons (pe_ixU (K := K) rfl (hu_of hr) (pv 10) pe_int) (pa_cons (pe_ixU (K := K) rfl (hu_of hr) (pv 10) pe_int) pa_nil)))))))))) pss_nil)
      (pss_cons (ps_set (i := 6) sc_law_value.nd rfl (.inl rfl) (pe_ixU (K := K) rfl (hu_of hr) (pe_lst (pa_cons pe_str (pa_cons pe_str (pa_cons pe_str (pa_cons pe_str (pa_cons pe_str (pa_cons pe_str (pa_cons pe_str (pa_cons pe_str (pa_cons pe_str (pa_cons pe_str (pa_cons pe_str (pa_cons pe_str (pa_cons pe_str pa_nil)))))))))))))) (pe_callD (K := K) rfl (ok_law_next T) (hr.mono (by decide)) rfl pass0 (pa_cons (pv 0) (pa_cons (pe_ixU (K := K) rfl (hu_of hr) (pe_lst (pa_cons pe_int (pa_cons pe_int pa_nil))) (pe_callTy c_int rfl (T.free 126 rfl) (by decide +kernel) (pa_cons (pv 3) pa_nil))) pa_nil)))))
      (pss_cons (ps_set (i := 7) sc_law_value.nd rfl (.inl rfl) (pe_callD (K := K) rfl (ok_law_source T) (hr.mono (by decide)) rfl pass0 (pa_cons (pv 0) (pa_cons (pv 1) (pa_cons (pv 3) pa_nil)))))
      (pss_cons (ps_set (i := 8) sc_law_value.nd rfl (.inl rfl) (pe_callD (K := K) rfl (ok_law_clear T) (hr.mono (by decide)) rfl pass0 (pa_cons (pv 0) (pa_cons (pv 1) pa_nil))))
      (pss_cons (ps_expr (pe_callD (K := K) rfl (ok_law_noted T) (hr.mono (by decide)) rfl pass0 (pa_cons (pv 1) (pa_cons (pv 4) (pa_cons (pv 3) pa_nil)))))
      (pss_one (ps_ret (pe_tup (pa_cons pe_str (pa_cons (pv 6) (pa_cons (pv 4) (pa_cons (pv 7) (pa_cons (pv 8) pa_nil))))))))))))))))))), ?_⟩)
  obtain ⟨d, kn, L, x, rgs, KN, k, many, rfl, D, ix, ro, ok, hl, hk, hQ⟩ := h
  walk_at "go"
  refine use_nx D (by decide) (fun H1 v1 k1 D1 h10 h11 => ?_)
  walk_at "go"
  generalize (decide (v1 = 0)) = pub
  refine use_nx D1 (by decide) (fun H2 v2 k2 D2 h20 h21 => ?_)
  obtain ⟨r0, e0, hr0, hr9⟩ : ∃ n : Nat, 9 + v2 = (n : Int) ∧ n < 16 ∧ 9 ≤ n := ⟨(9 + v2).toNat, by omega, by omega, by omega⟩
  walk_at "go"
  rw [e0]
  refine ⟨fun σ' H3 => ∃ (reg : Nat), σ' = [some (.ref d), some (.ref kn), some x, some (.bl pub), some (.int (reg : Int)), none, none, none, none, none, none, none] ∧ Keep [d] H H3 ∧ DrL H3 d ((kn, .lst (nV KN)) :: L) ∧ reg < 16 ∧ (pub = false → 9 ≤ reg), ?_, ?_⟩
  · cases pub with
    | false =>
      walk_at "go"
      exact ⟨r0, rfl, k1.trans k2, D2, hr0, fun _ => hr9⟩
    | true =>
      walk_at "go"
      refine use_nx D2 (by decide) (fun H3 v3 k3 D3 h30 h31 => ?_)
      walk_at "go"
      refine g_if (fun c => ?_) (fun c => ?_)
      · walk_at "go"
        refine use_nx D3 (by decide) (fun H4 v4 k4 D4 h40 h41 => ?_)
        obtain ⟨r1, rfl⟩ : ∃ n : Nat, v4 = (n : Int) := ⟨v4.toNat, by omega⟩
        walk_at "go"
        exact ⟨r1, rfl, ((k1.trans k2).trans k3).trans k4, D4, by omega, fun z => by cases z⟩
      · walk_at "go"
        exact ⟨r0, rfl, (k1.trans k2).trans k3, D3, hr0, fun z => by cases z⟩
  rintro σ H3 ⟨reg, rfl, k3, D3, hr, hp9⟩
  walk_at "go"
  refine use_nx D3 (by decide) (fun H4 v4 k4 D4 h40 h41 => ?_)
  have k04 := k3.trans k4
  have ix4 := D.im k04 ix
  have hkn4 : H4 kn = some (.lst (nV KN)) := D4.get 0 rfl
  have reg8 : reg ≤ 8 → pub = true := fun h => by
    cases e : pub with
    | true => rfl
    | false => have := hp9 e; omega
  walk_at "go"
  refine g_if (fun c => ?_) (fun c => ?_)
  · walk_at "go"
    refine ⟨kn, reg, true, KN, rfl, hkn4, ok, hr, by omega, fun H5 KN' k5 hk5 ok5 nt5 l5 => ?_⟩
    have D5 := D4.setK k5 hk5
    walk_at "go"
    refine ⟨d, _, rfl, D5, fun H6 wx k6 D6 ww => ?_⟩
    walk_at "go"
    refine m_new (.cons (.str "const") (.cons (.int (reg : Int)) (.cons (.int wx) .nil))) (by show 3 ≤ 100000; decide) (fun p H7 s7 _ i7 => ?_)
    exact hQ _ _ (.const reg wx) KN' ((((keepL k04).trans (keepR k5)).trans (keepL k6)).trans (Keep.of s7)) (D6.same s7) i7 ⟨hr, ww, hk⟩ rfl ⟨trivial, rfl, wr_ok (W := true) rfl nt5 (fun _ => rfl) (fun _ => rfl), ok5, l5⟩
  walk_at "go"
  refine ⟨fun σ' H5 => ∃ (o9 o11 : Option V), σ' = [some (.ref d), some (.ref kn), some x, some (.bl pub), some (.int (reg : Int)), some (.int v4), none, none, none, o9, none, o11] ∧ Keep [d] H H5 ∧ DrL H5 d ((kn, .lst (nV KN)) :: L), ?_, ?_⟩
  · walk_at "go"
    refine g_if (fun c1 => ?_) (fun c1 => ?_)
    · walk_at "go"
      refine ⟨by show 2 ≤ sizeLine; decide, fun l1 hl1 => ?_⟩
      have s1 := Same.new (o := .lst [.str "secret", .str "public"]) hl1
      walk_at "go"
      refine ⟨by show 1 ≤ sizeLine; decide, fun l2 hl2 => ?_⟩
      have s2 := Same.new (o := .lst [.str "public"]) hl2
      walk_at "go"
      refine ⟨by show 2 ≤ sizeLine; decide, fun l3 hl3 => ?_⟩
      have s3 := Same.new (o := .lst [.ref l1, .ref l2]) hl3
      have s13 := (s1.trans s2).trans s3
      have e1 := s3 _ _ (s2 _ _ (upd_same (H := H4) (a := l1) (o := HO.lst [.str "secret", .str "public"])))
      have e2 := s3 _ _ (upd_same (H := upd H4 l1 (HO.lst [.str "secret", .str "public"])) (a := l2) (o := HO.lst [.str "public"]))
      have e3 := upd_same (H := upd (upd H4 l1 (HO.lst [.str "secret", .str "public"])) l2 (HO.lst [.str "public"])) (a := l3) (o := HO.lst [.ref l1, .ref l2])
      generalize upd (upd (upd H4 l1 (HO.lst [.str "secret", .str "public"])) l2 (HO.lst [.str "public"])) l3 (HO.lst [.ref l1, .ref l2]) = H5 at s13 e1 e2 e3
      clear s1 s2 s3 hl1 hl2 hl3
      have D5 := D4.same s13
      have ix5 := ix4.same s13
      have k05 := k04.trans (Keep.of s13)
      obtain ⟨lx, ls, hlx, hls, hlp⟩ : ∃ (lx : Addr) (ls : List Str), ([V.ref l1, V.ref l2] : List V)[(if pub then 1 else 0 : Nat)]? = some (.ref lx) ∧ H5 lx = some (.lst (ls.map V.str)) ∧ (pub = true → ls = [("public" : Str)]) := by
        cases pub with
        | true => exact ⟨l2, [("public" : Str)], rfl, e2, fun _ => rfl⟩
        | false => exact ⟨l1, [("secret" : Str), ("public" : Str)], rfl, e1, fun z => by cases z⟩
      walk_at "go"
      refine g_ixL (SqL.of e3) (n := if pub then 1 else 0) (by cases pub <;> rfl) hlx ?_
      walk_at "go"
      refine ⟨d, lx, _, x, rgs, ls, rfl, D5, hls, ix5, ro, fun _ H6 k6 D6 => ?_, fun H6 v g b m k6 D6 iv gm gl h0 h1 h2 hnn => ?_⟩
      · walk_at "go"
        exact ⟨_, _, rfl, k05.trans k6, D6⟩
      obtain ⟨t, rfl, ht⟩ := im3s iv
      walk_at "go"
      refine ⟨d, kn, L, KN, rfl, D6, ok, by omega, fun H7 n k7 D7 hn hp => ?_⟩
      have iv7 := D6.im k7 iv
      obtain ⟨t', e', ht7⟩ := im3s iv7
      cases e'
      have hkn7 : H7 kn = some (.lst (nV KN)) := D7.get 0 rfl
      walk_at "go"
      refine ⟨kn, reg, decide (g.l = "public"), KN, rfl, hkn7, ok, hr, by omega, fun H8 KN' k8 hk8 ok8 nt8 l8 => ?_⟩
      have iv8 := iv7.keep k8 (NoTup.one hkn7 (fun _ e => nomatch e))
      obtain ⟨t', e', ht8⟩ := im3s iv8
      cases e'
      have D8 := D7.setK k8 hk8
      have rg := regOf_at ro.d gm h0 h1 h2
      walk_at "go"
      refine m_new (.cons (.str "load") (.cons (.int (reg : Int)) (.cons (.int (n : Int)) (.cons (.int b) (.cons (.int m) .nil))))) (by show 5 ≤ 100000; decide) (fun p H9 s9 _ i9 => ?_)
      refine hQ _ _ (.load reg n b m) KN' ((((keepL (k05.trans k6)).trans (keepL k7)).trans (keepR k8)).trans (Keep.of s9)) (D8.same s9) i9 ⟨hr, hn, hk⟩ rfl ⟨h0, ?_, wr_ok (W := decide (g.l = "public")) ?_ nt8 (fun h => ?_) (fun z => z), ok8, l8⟩
      · show spanW rgs (pK KN) n b m none = none
        unfold spanW
        rw [hp, if_pos rfl, rg]
      · show some (reg, pubR rgs b m) = _
        unfold pubR
        rw [rg]
      · have e := hlp (reg8 h)
        rw [e] at gl
        rw [List.mem_singleton.mp gl]
        exact decide_eq_true rfl
    · walk_at "go"
      exact ⟨_, _, rfl, k04, D4⟩
  rintro σ H5 ⟨o9, o11, rfl, k5, D5⟩
  walk_at "go"
  refine g_if (fun c2 => ?_) (fun c2 => ?_)
  · walk_at "go"
    refine ⟨d, kn, L, KN, pub, rfl, D5, ok, by omega, fun H6 n0 k6 D6 hn0 hp0 => ?_⟩
    walk_at "go"
    refine ⟨d, kn, L, KN, rfl, D6, ok, by omega, fun H7 n1 k7 D7 hn1 hp1 => ?_⟩
    walk_at "go"
    refine ⟨d, kn, L, KN, pub, rfl, D7, ok, by omega, fun H8 n2 k8 D8 hn2 hp2 => ?_⟩
    walk_at "go"
    refine ⟨by show 3 ≤ sizeLine; decide, fun pl hpl => ?_⟩
    have s9 := Same.new (o := .lst [.int (n0 : Int), .int (n1 : Int), .int (n2 : Int)]) hpl
    have D9 := D8.new (o := .lst [.int (n0 : Int), .int (n1 : Int), .int (n2 : Int)]) hpl
    generalize upd H8 pl (HO.lst [.int (n0 : Int), .int (n1 : Int), .int (n2 : Int)]) = H9 at s9 D9
    have hkn9 : H9 kn = some (.lst (nV KN)) := D9.get 0 rfl
    walk_at "go"
    refine ⟨kn, reg, pub, KN, rfl, hkn9, ok, hr, by omega, fun H10 KN' k10 hk10 ok10 nt10 l10 => ?_⟩
    have D10 := DrL.setK (L := L ++ [(pl, .lst [.int (n0 : Int), .int (n1 : Int), .int (n2 : Int)])]) D9 k10 hk10
    have hpl10 : H10 pl = some (.lst [.int (n0 : Int), .int (n1 : Int), .int (n2 : Int)]) := D10.get (L.length + 1) (by simp)
    walk_at "go"
    refine g_ixL (SqL.of hpl10) (n := 0) rfl rfl ?_
    walk_at "go"
    refine g_ixL (SqL.of hpl10) (n := 1) rfl rfl ?_
    walk_at "go"
    refine g_ixL (SqL.of hpl10) (n := 2) rfl rfl ?_
    walk_at "go"
    refine m_new (.cons (.str "select") (.cons (.int (reg : Int)) (.cons (.int (n0 : Int)) (.cons (.int (n1 : Int)) (.cons (.int (n2 : Int)) .nil))))) (by show 5 ≤ 100000; decide) (fun p H11 s11 _ i11 => ?_)
    have D11 : DrL H11 d ((kn, .lst (nV KN')) :: L) := (D10.same s11).sub ((sub_last (L := L)).cons₂ _)
    have allP : pub = true → (pK KN n0 && (pK KN n1 && pK KN n2)) = true := fun z => by rw [hp0 z, hp1, hp2 z]; rfl
    exact hQ _ _ (.select reg n0 n1 n2) KN' ((((keepL (((k5.trans k6).trans k7).trans k8)).trans (Keep.of s9)).trans (keepR k10)).trans (Keep.of s11)) D11 i11 ⟨hr, hn0, hn1, hn2, hk⟩ rfl ⟨trivial, rfl, wr_ok (W := pK KN n0 && (pK KN n1 && pK KN n2)) rfl nt10 (fun h => allP (reg8 h)) allP, ok10, l10⟩
  · walk_at "go"
    refine ⟨by show 13 ≤ sizeLine; decide, fun ps hps => ?_⟩
    have s6 := Same.new (o := .lst (sgL.map fun s => V.str s.s)) hps
    have D6 : DrL (upd H5 ps (.lst (sgL.map fun s => V.str s.s))) d ((kn, .lst (nV KN)) :: L) := D5.same s6
    have e6 : upd H5 ps (.lst (sgL.map fun s => V.str s.s)) ps = some (.lst (sgL.map fun s => V.str s.s)) := upd_same
    walk_at "go"
    refine ⟨by show 2 ≤ sizeLine; decide, fun pm hpm => ?_⟩
    have s7 := Same.new (o := .lst [.int 11, .int 13]) hpm
    have e7 := upd_same (H := upd H5 ps (.lst (sgL.map fun s => V.str s.s))) (a := pm) (o := HO.lst [.int 11, .int 13])
    have D7 := D6.same s7
    have e67 := s7 _ _ e6
    have s67 := s6.trans s7
    walk_at "go"
    refine g_ixL (SqL.of e7) (n := if pub then 1 else 0) (v := .int (if pub then 13 else 11)) (by cases pub <;> rfl) (by cases pub <;> rfl) ?_
    walk_at "go"
    refine use_nx D7 (by cases pub <;> decide) (fun H8 v8 k8 D8 h80 h81 => ?_)
    obtain ⟨i, rfl⟩ : ∃ i : Nat, v8 = (i : Int) := ⟨v8.toNat, by omega⟩
    have i13 : i < 13 := by cases pub <;> simp at h81 <;> omega
    obtain ⟨sg, hsg, hdm⟩ : ∃ sg, sgL[i]? = some sg ∧ (pub = false → isDM sg = false) := by
      have hs : sgL[i]? = some (sgL[i]'i13) := List.getElem?_eq_getElem _
      refine ⟨_, hs, fun z => ?_⟩
      have := sgL_le i (by rw [z] at h81; simp at h81; omega)
      rw [hs] at this
      exact Option.some.inj this
    have e8 := D7.at_ k8 e67 (fun _ e => nomatch e)
    refine g_ixL (SqL.of e8) (n := i) rfl (v := .str sg.s) (by rw [List.getElem?_map, hsg]; rfl) ?_
    walk_at "go"
    refine ⟨d, kn, L, KN, pub, rfl, D8, ok, by omega, fun H9 n0 k9 D9 hn0 hp0 => ?_⟩
    walk_at "go"
    refine ⟨d, kn, L, KN, rfl, D9, ok, by omega, fun H10 n1 k10 D10 hn1 hp1 => ?_⟩
    have hkn10 : H10 kn = some (.lst (nV KN)) := D10.get 0 rfl
    walk_at "go"
    refine ⟨kn, reg, pub, KN, rfl, hkn10, ok, hr, by omega, fun H11 KN' k11 hk11 ok11 nt11 l11 => ?_⟩
    have D11 := D10.setK k11 hk11
    walk_at "go"
    refine m_new (.cons (.str "op") (.cons (.str sg.s) (.cons (.int (reg : Int)) (.cons (.int (n0 : Int)) (.cons (.int (n1 : Int)) .nil))))) (by show 5 ≤ 100000; decide) (fun p H12 s12 _ i12 => ?_)
    have allP : pub = true → (pK KN n0 && pK KN n1) = true := fun z => by rw [hp0 z, hp1]; rfl
    refine hQ _ _ (.op sg reg n0 n1) KN' ((((((keepL k5).trans (Keep.of s67)).trans (keepL k8)).trans (keepL (k9.trans k10))).trans (keepR k11)).trans (Keep.of s12)) (D11.same s12) i12 ⟨hr, hn0, hn1, hk⟩ rfl ⟨trivial, ref_op ?_, wr_ok (W := pK KN n0 && pK KN n1) rfl nt11 (fun h => allP (reg8 h)) allP, ok11, l11⟩
    cases e : pub with
    | true => exact .inr ⟨hp0 e, hp1⟩
    | false => exact .inl (hdm e)
def sp_law_deed (K : PySem.W.Frag) : Sp := fun vs H Q _ => ∃ (d kn : Addr) (L : List (Addr × HO)) (x : V) (rgs : List Rg) (KN : List Nat) (k many : Nat), vs = [.ref d, .ref kn, x] ∧ DrL H d ((kn, .lst (nV KN)) :: L) ∧ Im H x (rgsD rgs) ∧ RgsOk rgs ∧ KOk KN ∧ KN.length ≤ 999 ∧ k + 1 < many ∧
  ∀ H' v r, Keep [d] H H' → DrL H' d ((kn, .lst (nV KN)) :: L) → Im H' v (Row.d r) → RowOkD many k r → StR r = true → Nxt rgs KN KN r → Q v H'
theorem sc_law_deed : FnScope ["draws", "known", "regions", "span", "value"] ["draws", "known", "regions"] (defScope (topS 65)) := ⟨rfl, rfl, rfl, by decide +kernel, rfl, by decide +kernel, by decide +kernel⟩
theorem ok_law_deed (T : Txt fa fn K mg (XOk cs xcs K w)) : Dn P w K mg base CX0 3 "_law_deed" ["draws", "known", "regions"] (sp_law_deed K) := by
  refine mk_dn (d := dOf "_law_deed" 65) T 45 45 rfl rfl rfl rfl rfl sc_law_deed (by walk_at "len") (fun _ _ _ _ _ _ us hl => match us, hl with | [_, _, _], _ => rfl) (fun cdv A outer s H vs Q E hr h => ⟨_, (pss_cons (ps_set (i := 3) sc_law_deed.nd rfl (.inl rfl) (pe_callD (K := K) rfl (ok_law_spans T) (hr.mono (by decide)) rfl pass0 (pa_cons (pv 0) (pa_cons (pv 2) (pa_cons (pe_lst (pa_cons pe_str (pa_cons pe_str pa_nil))) pa_nil)))))
      (pss_cons (ps_if (PW.pt (pw_or (pt_cmpR o_isN (pv 3) pe_non (nomark _)) (pw_or1 (pt_cmpR (op_eqU (K := K) rfl hr.units) (pe_callD (K := K) rfl (ok_law_next T) (hr.mono (by decide)) rfl pass0 (pa_cons (pv 0) (pa_cons pe_int pa_nil))) pe_int (nomark _))))) (pss_one (ps_ret (pe_tup (pa_cons pe_str (pa_cons (pe_callD (K := K) rfl (ok_law_clear T) (hr.mono (by decide)) rfl pass0 (pa_cons (pv 0) (pa_cons (pv 1) pa_nil))) pa_nil))))) pss_nil)
      (pss_cons (ps_set (i := 4) sc_law_deed.nd rfl (.inl rfl) (pe_callD (K := K) rfl (ok_law_clear T) (hr.mono (by decide)) rfl pass0 (pa_cons (pv 0) (pa_cons (pv 1) pa_nil))))
      (pss_cons (ps_join (ps_if (PW.pt (pw_and (pt_cmpR (op_eqU (K := K) rfl hr.units) (pe_ixU (K := K) rfl (hu_of hr) (pv 3) pe_int) pe_str (nomark _)) (pw_and1 (pt_cmpR o_gt (pe_callD (K := K) rfl (ok_law_next T) (hr.mono (by decide)) rfl pass0 (pa_cons (pv 0) (pa_cons pe_int pa_nil))) pe_int (nomark _))))) (pss_one (ps_set (i := 4) sc_law_deed.nd rfl (.inl rfl) (pe_op (op_addU (K := K) rfl) pe_int (pe_callD (K := K) rfl (ok_law_next T) (hr.mono (by decide)) rfl pass0 (pa_cons (pv 0) (pa_cons pe_int pa_nil)))))) pss_nil))
      (pss_one (ps_ret (pe_tup (pa_cons pe_str (pa_cons (pe_callD (K := K) rfl (ok_law_clear T) (hr.mono (by decide)) rfl pass0 (pa_cons (pv 0) (pa_cons (pv 1) pa_nil))) (pa_cons (pe_ixU (K := K) rfl (hu_of hr) (pv 3) pe_int) (pa_cons (pe_ixU (K := K) rfl (hu_of hr) (pv 3) pe_int) (pa_cons (pv 4) pa_nil)))))))))))), ?_⟩)
  obtain ⟨d, kn, L, x, rgs, KN, k, many, rfl, D, ix, ro, ok, hl, hk, hQ⟩ := h
  walk_at "go"
  refine ⟨by show 2 ≤ sizeLine; decide, fun l1 hl1 => ?_⟩
  have s1 := Same.new (o := .lst [.str "public", .str "secret"]) hl1
  have D1 := D.same s1
  have e1 := upd_same (H := H) (a := l1) (o := HO.lst [.str "public", .str "secret"])
  generalize upd H l1 (HO.lst [.str "public", .str "secret"]) = H1 at s1 D1 e1
  walk_at "go"
  refine ⟨d, l1, _, x, rgs, ["public", "secret"], rfl, D1, e1, ix.same s1, ro, fun hno _ _ _ => ?_, fun H2 v g b m k2 D2 iv gm gl h0 h1 h2 hnn => ?_⟩
  · exfalso
    have l0 := ro.l
    have hm : rgs[0]'l0 ∈ rgs := List.getElem_mem l0
    rcases ro.p _ hm with e | e
    · exact hno _ hm (by rw [e]; simp)
    · exact hno _ hm (by rw [e]; simp)
  have k02 : Keep [d] H H2 := (Keep.of s1).trans k2
  obtain ⟨t, rfl, ht⟩ := im3s iv
  have same : ∀ x, x < 16 → pK KN x = true → pK KN x = true := fun _ _ h => h
  have rg := regOf_at ro.d gm h0 h1 h2
  walk_at "go"
  refine use_nx D2 (by decide) (fun H3 v3 k3 D3 h30 h31 => ?_)
  have iv3 := D2.im k3 iv
  obtain ⟨t', e', ht3⟩ := im3s iv3
  cases e'
  walk_at "go"
  refine g_if (fun c => ?_) (fun c => ?_)
  · walk_at "go"
    refine ⟨d, kn, L, KN, rfl, D3, ok, by omega, fun H4 n k4 D4 hn hp => ?_⟩
    walk_at "go"
    refine m_new (.cons (.str "out") (.cons (.int (n : Int)) .nil)) (by show 2 ≤ 100000; decide) (fun p H5 s5 _ i5 => ?_)
    refine hQ _ _ (.out n) (((k02.trans k3).trans k4).trans (Keep.of s5)) (D4.same s5) i5 ⟨hn, hk⟩ rfl ⟨trivial, ?_, fun x hx h => by rw [bhd_n rfl]; exact h, ok, by omega⟩
    show (if pK KN n = true then (none : Option Str) else some "out") = none
    rw [hp, if_pos rfl]
  walk_at "go"
  refine ⟨d, kn, L, KN, rfl, D3, ok, by omega, fun H4 n k4 D4 hn hp => ?_⟩
  have iv4 := D3.im k4 iv3
  obtain ⟨t', e', ht4⟩ := im3s iv4
  cases e'
  walk_at "go"
  refine ⟨fun σ' H5 => ∃ (y : Nat), σ' = [some (.ref d), some (.ref kn), some x, some (.ref t), some (.int (y : Int))] ∧ Keep [d] H4 H5 ∧ DrL H5 d ((kn, .lst (nV KN)) :: L) ∧ y < 16 ∧ (pK KN y = true ∨ g.l = "secret"), ?_, ?_⟩
  · walk_at "go"
    refine g_if (fun c5 => ?_) (fun c5 => ?_)
    · walk_at "go"
      refine use_nx D4 (by decide) (fun H5 v5 k5 D5 h50 h51 => ?_)
      walk_at "go"
      refine g_if (fun c6 => ?_) (fun c6 => ?_)
      · walk_at "go"
        refine use_nx D5 (by decide) (fun H6 v6 k6 D6 h60 h61 => ?_)
        obtain ⟨y, e, hy⟩ : ∃ y : Nat, 9 + v6 = (y : Int) ∧ y < 16 := ⟨(9 + v6).toNat, by omega, by omega⟩
        walk_at "go"
        rw [e]
        exact ⟨y, rfl, k5.trans k6, D6, hy, .inr c5⟩
      · walk_at "go"
        exact ⟨n, rfl, k5, D5, hn, .inl hp⟩
    · walk_at "go"
      exact ⟨n, rfl, Keep.refl, D4, hn, .inl hp⟩
  rintro σ H5 ⟨y, rfl, k5, D5, hy, hyp⟩
  walk_at "go"
  refine ⟨d, kn, L, KN, rfl, D5, ok, by omega, fun H6 n6 k6 D6 hn6 hp6 => ?_⟩
  have iv6 := D5.im k6 (D4.im k5 iv4)
  obtain ⟨t', e', ht6⟩ := im3s iv6
  cases e'
  walk_at "go"
  refine m_new (.cons (.str "store") (.cons (.int (n6 : Int)) (.cons (.int b) (.cons (.int m) (.cons (.int (y : Int)) .nil))))) (by show 5 ≤ 100000; decide) (fun p H7 s7 _ i7 => ?_)
  refine hQ _ _ (.store n6 b m y) (((((k02.trans k3).trans k4).trans k5).trans k6).trans (Keep.of s7)) (D6.same s7) i7 ⟨hn6, hy, hk⟩ rfl ⟨h0, ?_, fun x hx h => by rw [bhd_n rfl]; exact h, ok, by omega⟩
  show spanW rgs (pK KN) n6 b m (some y) = none
  unfold spanW
  rw [hp6, if_pos rfl, rg]
  show (if pK KN y = true then (none : Option Str) else if g.l = "public" then some "store" else none) = none
  rcases hyp with h | h
  · rw [h, if_pos rfl]
  · split
    · rfl
    · rw [if_neg (by rw [h]; decide +kernel)]


/-! ### k81: code that is kept -/
theorem DrL.y {H : Hp} {d : Addr} {L : List (Addr × HO)} (D : DrL H d L) : ∃ Y, Has H Y ∧ ∀ H', Has H' Y → DrL H' d L := by
  obtain ⟨r, n, sd, row, M, ok, hn⟩ := D.ex
  exact ⟨_, M, fun H' M' => ⟨r, n, sd, row, M', ok, hn⟩⟩
theorem keep_drop {H G G' : Hp} {d kn : Addr} (k : Keep [d] H G) (k2 : Keep [d, kn] G G') (h : H kn = none) : Keep [d] H G' := fun b o e n => by
  refine k2 b o (k b o e n) fun z => ?_
  rcases List.mem_cons.mp z with z | z
  · exact n (List.mem_singleton.mpr z)
  · rw [List.mem_singleton.mp z, h] at e
    cases e
structure KInv (rgs : List Rg) (many : Nat) (MK : List Nat) (i : Nat) (RS : List Row) (PS : List (List Nat)) (KN : List Nat) : Prop where
  l1 : RS.length = i
  l2 : PS.length = i
  r : ∀ (j : Nat) (r : Row), RS[j]? = some r → RowOkD many j r ∧ mskOk r ∧ refW rgs r (pK (PS.getD j [])) = none
  w : ∀ (j : Nat) (r : Row), RS[j]? = some r → ∀ w ∈ waysR j r, w ≠ j + 1 → w ∈ MK
  b : ∀ (j : Nat) (r : Row), RS[j]? = some r → ∀ x, x < 16 → pK (if j + 1 < i then PS.getD (j + 1) [] else KN) x = true → bhd rgs r (pK (PS.getD j [])) x = true
  m : ∀ t ∈ MK, t < i → PS.getD t [] = []
  k : KOk KN
  kl : KN.length ≤ 7 + i
def kn0 (MK KN : List Nat) (i : Nat) : List Nat := if MK.contains i then [] else KN
theorem kn0_sub {MK KN : List Nat} {i x : Nat} (h : pK (kn0 MK KN i) x = true) : pK KN x = true := by
  unfold kn0 at h
  split at h
  · rw [pK_iff] at h ⊢
    rcases h with h | h
    · exact .inl h
    · cases h
  · exact h
theorem kn0_ok {MK KN : List Nat} {i : Nat} (h : KOk KN) : KOk (kn0 MK KN i) := by
  unfold kn0
  split
  · exact ⟨List.nodup_nil, by simp⟩
  · exact h
theorem kn0_len {MK KN : List Nat} {i : Nat} : (kn0 MK KN i).length ≤ KN.length := by
  unfold kn0
  split
  · exact Nat.zero_le _
  · exact Nat.le_refl _
theorem getD_lt {α : Type} {l m : List α} {j : Nat} {z : α} (h : j < l.length) : (l ++ m).getD j z = l.getD j z := by
  rw [List.getD_eq_getElem?_getD, List.getD_eq_getElem?_getD, List.getElem?_append_left h]
theorem getD_at81 {α : Type} {l : List α} {x z : α} : (l ++ [x]).getD l.length z = x := by
  rw [List.getD_eq_getElem?_getD, List.getElem?_append_right (Nat.le_refl _), Nat.sub_self]
  rfl
theorem getD_end {α : Type} {l : List α} {x z : α} {j : Nat} (h : j = l.length) : (l ++ [x]).getD j z = x := by rw [h, getD_at81]
theorem at_snoc {α : Type} {l : List α} {x y : α} {j : Nat} (h : (l ++ [x])[j]? = some y) : (j < l.length ∧ l[j]? = some y) ∨ (j = l.length ∧ y = x) := by
  by_cases c : j < l.length
  · rw [List.getElem?_append_left c] at h
    exact .inl ⟨c, h⟩
  · have hl := (List.getElem?_eq_some_iff.mp h).1
    rw [List.length_append, List.length_singleton] at hl
    have e : j = l.length := by omega
    subst e
    rw [List.getElem?_append_right (Nat.le_refl _), Nat.sub_self] at h
    cases h
    exact .inr ⟨rfl, rfl⟩
theorem KInv.step {rgs : List Rg} {many : Nat} {MK : List Nat} {i : Nat} {RS : List Row} {PS : List (List Nat)} {KN KN' : List Nat} {r : Row} (I : KInv rgs many MK i RS PS KN) (hr : RowOkD many i r) (hw : ∀ w ∈ waysR i r, w ≠ i + 1 → w ∈ MK) (nx : Nxt rgs (kn0 MK KN i) KN' r) :
    KInv rgs many MK (i + 1) (RS ++ [r]) (PS ++ [kn0 MK KN i]) KN' := by
  have l1 := I.l1
  have l2 := I.l2
  refine ⟨by rw [List.length_append, l1]; rfl, by rw [List.length_append, l2]; rfl, fun j r' hj => ?_, fun j r' hj => ?_, fun j r' hj x hx hp => ?_, fun t ht hti => ?_, nx.k, ?_⟩
  · rcases at_snoc hj with ⟨c, h⟩ | ⟨rfl, rfl⟩
    · rw [getD_lt (by omega)]
      exact I.r j r' h
    · rw [getD_end (by omega)]
      rw [l1]
      exact ⟨hr, nx.m, nx.n⟩
  · rcases at_snoc hj with ⟨c, h⟩ | ⟨rfl, rfl⟩
    · exact I.w j r' h
    · rw [l1]
      exact hw
  · rcases at_snoc hj with ⟨c, h⟩ | ⟨rfl, rfl⟩
    · rw [if_pos (by omega)] at hp
      rw [getD_lt (by omega)]
      refine I.b j r' h x hx ?_
      by_cases c2 : j + 1 < i
      · rw [if_pos c2]
        rw [getD_lt (by omega)] at hp
        exact hp
      · rw [if_neg c2]
        rw [getD_end (by omega)] at hp
        exact kn0_sub hp
    · rw [if_neg (by omega)] at hp
      rw [getD_end (by omega)]
      exact nx.b x hx hp
  · by_cases c : t < i
    · rw [getD_lt (by omega)]
      exact I.m t ht c
    · have e : t = i := by omega
      subst e
      rw [getD_end (by omega)]
      unfold kn0
      rw [if_pos (List.contains_iff_mem.mpr ht)]
  · have h1 := nx.l
    have h2 := kn0_len (MK := MK) (KN := KN) (i := i)
    have h3 := I.kl
    omega
theorem KInv.fin {rgs : List Rg} {many : Nat} {MK : List Nat} {RS : List Row} {PS : List (List Nat)} {KN : List Nat} {a : Nat} (hm : 0 < many) (ha : a < 16) (I : KInv rgs many MK (many - 1) RS PS KN) (hk : ∀ t ∈ MK, t < many) (d : Dsj rgs) :
    Jd rgs (RS ++ [.stop a]) fun r => pK ((PS ++ [[]]).getD r []) := by
  have l1 := I.l1
  have l2 := I.l2
  have el : (RS ++ [Row.stop a]).length = many := by rw [List.length_append, l1, List.length_singleton]; omega
  refine ⟨fun j r hj w hw x hx hp => ?_, fun j r hj => ?_, fun j r hj => ?_, fun j r hj => ?_, d⟩
  · rcases at_snoc hj with ⟨c, h⟩ | ⟨rfl, rfl⟩
    · have ko := (I.r j r h).1
      show bhd rgs r (pK ((PS ++ [[]]).getD j [])) x = true
      rw [getD_lt (by omega)]
      replace hp : pK ((PS ++ [[]]).getD w []) x = true := hp
      by_cases cw : w = j + 1
      · subst cw
        refine I.b j r h x hx ?_
        by_cases c2 : j + 1 < many - 1
        · rw [if_pos c2]
          rw [getD_lt (by omega)] at hp
          exact hp
        · rw [if_neg c2]
          rw [getD_end (by omega)] at hp
          rw [pK_iff] at hp ⊢
          rcases hp with hp | hp
          · exact .inl hp
          · cases hp
      · have wm := I.w j r h w hw cw
        have wl := hk w wm
        have x8 : x ≤ 8 := by
          have e : (PS ++ [[]]).getD w [] = [] := by
            by_cases c3 : w < many - 1
            · rw [getD_lt (by omega)]
              exact I.m w wm c3
            · rw [getD_end (by omega)]
          rw [e, pK_iff] at hp
          rcases hp with hp | hp
          · exact hp
          · cases hp
        have eb : bhd rgs r (pK (PS.getD j [])) x = pK (PS.getD j []) x := by
          rcases ways_of hw with e | e | ⟨p, e⟩
          · exact absurd e cw
          · subst e
            exact bhd_n rfl
          · subst e
            exact bhd_n rfl
        rw [eb, pK_iff]
        exact .inl x8
    · cases hw
  · rcases at_snoc hj with ⟨c, h⟩ | ⟨rfl, rfl⟩
    · show refW rgs r (pK ((PS ++ [[]]).getD j [])) = none
      rw [getD_lt (by omega)]
      exact (I.r j r h).2.2
    · rfl
  · rw [el]
    rcases at_snoc hj with ⟨c, h⟩ | ⟨rfl, rfl⟩
    · exact (I.r j r h).1
    · exact ha
  · rcases at_snoc hj with ⟨c, h⟩ | ⟨rfl, rfl⟩
    · exact (I.r j r h).2.1
    · trivial
theorem nats_of {m : Nat} : ∀ {us : List V} {es : List PyData} {H : Hp}, Ims H us es → (∀ (i : Nat) (e : PyData), es[i]? = some e → ∃ x : Nat, e = .int (x : Int) ∧ x < m) → ∃ l : List Nat, us = nV l ∧ l.length = es.length ∧ ∀ x ∈ l, x < m
  | _, _, _, .nil, _ => ⟨[], rfl, rfl, by simp⟩
  | _, _, _, .cons h t, hh => by
    obtain ⟨l, rfl, e1, e2⟩ := nats_of t fun i e hi => hh (i + 1) e hi
    obtain ⟨x, rfl, hx⟩ := hh 0 _ rfl
    refine ⟨x :: l, by rw [h.int_inv]; rfl, by rw [List.length_cons, List.length_cons, e1], fun y hy => ?_⟩
    rcases List.mem_cons.mp hy with rfl | hy
    · exact hx
    · exact e2 y hy
def sp_law_kept (K : PySem.W.Frag) : Sp := fun vs H Q _ => ∃ (d : Addr), vs = [.ref d] ∧ DrL H d [] ∧ ∀ H' v rgs rows P, Keep [d] H H' → DrL H' d [] → Im H' v (codeD rgs rows) → RgsOk rgs → CodeOk rows → 2 ≤ rows.length → rows.length ≤ 60 → Jd rgs rows P → Q v H'
theorem sc_law_kept : FnScope ["draws", "regions", "many", "marks", "known", "rows", "k", "pick"] ["draws"] (defScope (topS 66)) := ⟨rfl, rfl, rfl, by decide +kernel, rfl, by decide +kernel, by decide +kernel⟩
theorem ok_law_kept (T : Txt fa fn K mg (XOk cs xcs K w)) : Dn P w K mg base CX0 5 "_law_kept" ["draws"] (sp_law_kept K) := by
  refine mk_dn (d := dOf "_law_kept" 66) T 46 46 rfl rfl rfl rfl rfl sc_law_kept (by walk_at "len") (fun _ _ _ _ _ _ us hl => match us, hl with | [_], _ => rfl) (fun cdv A outer s H vs Q E hr h => ⟨_, (pss_cons (ps_set (i := 1) sc_law_kept.nd rfl (.inl rfl) (pe_callD (K := K) rfl (ok_law_regions T) (hr.mono (by decide)) rfl pass0 (pa_cons (pv 0) pa_nil)))
      (pss_cons (ps_set (i := 2) sc_law_kept.nd rfl (.inr rfl) (pe_op (op_addU (K := K) rfl) (pe_op (op_addU (K := K) rfl) pe_int (pe_ixU (K := K) rfl (hu_of hr) (pe_lst (pa_cons pe_int (pa_cons pe_int (pa_cons pe_int pa_nil)))) (pe_callD (K := K) rfl (ok_law_next T) (hr.mono (by decide)) rfl pass0 (pa_cons (pv 0) (pa_cons pe_int pa_nil))))) (pe_callD (K := K) rfl (ok_law_next T) (hr.mono (by decide)) rfl pass0 (pa_cons (pv 0) (pa_cons pe_int pa_nil)))))
      (pss_cons (ps_setLc (i := 3) rfl sc_law_kept.nd rfl rfl (sw_true rfl rfl rfl (by decide +kernel)) (pi_r1 rfl (T.free 132 rfl) (pa_cons (pe_op (op_addU (K := K) rfl) pe_int (pe_callD (K := K) rfl (ok_law_next T) (hr.mono (by decide)) rfl pass0 (pa_cons (pv 0) (pa_cons pe_int pa_nil)))) pa_nil)) (blkOk_by (own := [("k", 6)]) (N := ["draws", "regions", "many", "marks", "known", "rows", "k", "pick"]) (sc := defScope (topS 66)) (by decide +kernel)) (fun _ _ _ _ _ => (pg_name (i := 6) sc_law_kept.nd rfl (.inl rfl))) (fun _ _ _ _ _ => pts_nil) (fun _ _ _ _ _ => (pe_callD (K := K) rfl (ok_law_next T) (hr.mono (by decide)) rfl pass0 (pa_cons (pv 0) (pa_cons (pv 2) pa_nil)))))
      (pss_cons (ps_set (i := 4) sc_law_kept.nd rfl (.inl rfl) (pe_lst (pa_cons pe_int (pa_cons pe_int (pa_cons pe_int (pa_cons pe_int (pa_cons pe_int (pa_cons pe_int (pa_cons pe_int pa_nil)))))))))
      (pss_cons (ps_set (i := 5) sc_law_kept.nd rfl (.inl rfl) (pe_lst pa_nil))
      (pss_cons (ps_for PassesOwn.never rfl (pi_r1 rfl (T.free 132 rfl) (pa_cons (pe_op op_sub (pv 2) pe_int) pa_nil)) (pg_name (i := 6) sc_law_kept.nd rfl (.inl rfl)) (pss_cons (ps_join (ps_if (pt_cmpR (op_inU (K := K) rfl (hu65 hr)) (pv 6) (pv 3) (by rfl)) (pss_one (ps_set (i := 4) sc_law_kept.nd rfl (.inl rfl) (pe_lst pa_nil))) pss_nil))
      (pss_cons (ps_set (i := 7) sc_law_kept.nd rfl (.inl rfl) (pe_callD (K := K) rfl (ok_law_next T) (hr.mono (by decide)) rfl pass0 (pa_cons (pv 0) (pa_cons pe_int pa_nil))))
      (pss_one (ps_if (pt_cmpR o_lt (pv 7) pe_int (nomark _)) (pss_one (ps_expr (pe_bm PySem.F.plainAttrs_list PySem.F.slot_list_append PySem.F.type_list_append mt_append (pv 5) (pa_cons (pe_callD (K := K) rfl (ok_law_value T) (hr.mono (by decide)) rfl pass0 (pa_cons (pv 0) (pa_cons (pv 4) (pa_cons (pv 1) pa_nil)))) pa_nil)))) (pss_one (ps_if (pt_cmpR o_lt (pv 7) pe_int (nomark _)) (pss_one (ps_expr (pe_bm PySem.F.plainAttrs_list PySem.F.slot_list_append PySem.F.type_list_append mt_append (pv 5) (pa_cons (pe_callD (K := K) rfl (ok_law_deed T) (hr.mono (by decide)) rfl pass0 (pa_cons (pv 0) (pa_cons (pv 4) (pa_cons (pv 1) pa_nil)))) pa_nil)))) (pss_one (ps_if (pt_cmpR o_lt (pv 7) pe_int (nomark _)) (pss_one (ps_expr (pe_bm PySem.F.plainAttrs_list PySem.F.slot_list_append PySem.F.type_list_append mt_append (pv 5) (pa_cons (pe_tup (pa_cons pe_str (pa_cons (pe_callD (K := K) rfl (ok_law_clear T) (hr.mono (by decide)) rfl pass0 (pa_cons (pv 0) (pa_cons (pv 4) pa_nil))) (pa_cons (pe_ixU (K := K) rfl (hu_of hr) (pv 3) (pe_callD (K := K) rfl (ok_law_next T) (hr.mono (by decide)) rfl pass0 (pa_cons (pv 0) (pa_cons (pe_callB (c_len (K := K) rfl) rfl (T.free 128 rfl) (by decide +kernel) (pa_cons (pv 3) pa_nil)) pa_nil)))) pa_nil)))) pa_nil)))) (pss_one (ps_if (pt_cmpR (op_eqU (K := K) rfl hr.units) (pe_callD (K := K) rfl (ok_law_next T) (hr.mono (by decide)) rfl pass0 (pa_cons (pv 0) (pa_cons pe_int pa_nil))) pe_int (nomark _)) (pss_one (ps_expr (pe_bm PySem.F.plainAttrs_list PySem.F.slot_list_append PySem.F.type_list_append mt_append (pv 5) (pa_cons (pe_tup (pa_cons pe_str (pa_cons (pe_ixU (K := K) rfl (hu_of hr) (pv 3) (pe_callD (K := K) rfl (ok_law_next T) (hr.mono (by decide)) rfl pass0 (pa_cons (pv 0) (pa_cons (pe_callB (c_len (K := K) rfl) rfl (T.free 128 rfl) (by decide +kernel) (pa_cons (pv 3) pa_nil)) pa_nil)))) pa_nil))) pa_nil)))) (pss_one (ps_expr (pe_bm PySem.F.plainAttrs_list PySem.F.slot_list_append PySem.F.type_list_append mt_append (pv 5) (pa_cons (pe_callD (K := K) rfl (ok_law_value T) (hr.mono (by decide)) rfl pass0 (pa_cons (pv 0) (pa_cons (pv 4) (pa_cons (pv 1) pa_nil)))) pa_nil)))))))))))))))
      (pss_cons (ps_expr (pe_bm PySem.F.plainAttrs_list PySem.F.slot_list_append PySem.F.type_list_append mt_append (pv 5) (pa_cons (pe_tup (pa_cons pe_str (pa_cons (pe_callD (K := K) rfl (ok_law_next T) (hr.mono (by decide)) rfl pass0 (pa_cons (pv 0) (pa_cons pe_int pa_nil))) pa_nil))) pa_nil)))
      (pss_one (ps_ret (pe_tup (pa_cons (pv 1) (pa_cons (pe_callTy (c_tuple (K := K) rfl) rfl (T.free 136 rfl) (by decide +kernel) (pa_cons (pv 5) pa_nil)) pa_nil)))))))))))), ?_⟩)
  obtain ⟨d, rfl, D, hQ⟩ := h
  walk_at "go"
  refine ⟨d, [], rfl, D, fun H1 x rgs k1 D1 ix ro => ?_⟩
  walk_at "go"
  refine use_pk D1 rfl rfl (by simp) (by simp) (fun H2 v k2 D2 hv => ?_)
  obtain ⟨m0, rfl, hm0⟩ : ∃ n : Nat, v = .int (n : Int) ∧ n ≤ 30 := by
    simp only [List.mem_cons, List.not_mem_nil, or_false] at hv
    rcases hv with rfl | rfl | rfl
    · exact ⟨5, rfl, by decide⟩
    · exact ⟨15, rfl, by decide⟩
    · exact ⟨30, rfl, by decide⟩
  walk_at "go"
  refine use_nx D2 (by decide) (fun H3 v3 k3 D3 h30 h31 => ?_)
  have ix3 := D2.im k3 (D1.im k2 ix)
  obtain ⟨many, em, hm1, hm2⟩ : ∃ many : Nat, (3 : Int) + (m0 : Int) + v3 = (many : Int) ∧ 3 ≤ many ∧ many ≤ 50 := ⟨(3 + (m0 : Int) + v3).toNat, by omega, by omega, by omega⟩
  walk_at "go"
  rw [em]
  walk_at "go"
  refine use_nx D3 (by decide) (fun H4 v4 k4 D4 h40 h41 => ?_)
  walk_at "go"
  refine l_drawR (P := fun _ e => ∃ x : Nat, e = .int (x : Int) ∧ x < many) (L := []) D4 (by omega) (fun _ => rfl) (fun j G R L' hj kp E hR => ?_) (fun mk H5 us es hmk k5 D5 ims hl hp => ?_)
  · walk_at "go"
    refine use_nx E (by omega) (fun G2 v2 kk2 E2 h20 h21 => ?_)
    obtain ⟨n, rfl⟩ : ∃ n : Nat, v2 = (n : Int) := ⟨v2.toNat, by omega⟩
    exact hR _ _ _ kk2 E2 (.int _) ⟨n, rfl, by omega⟩
  obtain ⟨MK, rfl, mkl, mkb⟩ := nats_of ims hp
  have D5 : DrL H5 d [(mk, .lst (nV MK))] := D5
  have ml : 1 ≤ MK.length ∧ MK.length ≤ 6 := by omega
  walk_at "go"
  refine ⟨by show 7 ≤ sizeLine; decide, fun kn hkn => ?_⟩
  have s6 := Same.new (o := .lst (nV [9, 10, 11, 12, 13, 14, 15])) hkn
  have D6 : DrL (upd H5 kn (.lst (nV [9, 10, 11, 12, 13, 14, 15]))) d [(mk, .lst (nV MK)), (kn, .lst (nV [9, 10, 11, 12, 13, 14, 15]))] := D5.new hkn
  walk_at "go"
  refine ⟨by decide, fun rw hrw => ?_⟩
  have s7 := Same.new (o := .lst []) hrw
  have D7 : DrL (upd (upd H5 kn (.lst (nV [9, 10, 11, 12, 13, 14, 15]))) rw (.lst [])) d [(mk, .lst (nV MK)), (kn, .lst (nV [9, 10, 11, 12, 13, 14, 15])), (rw, .lst [])] := D6.new hrw
  have hrw0 : H5 rw = none := s6.free hrw
  have k15 : Keep [d] H1 H5 := ((k2.trans k3).trans k4).trans k5
  have kn1 : H1 kn = none := k15.back hkn (by simpa using D5.ne hkn)
  have rw1 : H1 rw = none := k15.back hrw0 (by simpa using D5.ne hrw0)
  have k17 : Keep [d] H1 (upd (upd H5 kn (.lst (nV [9, 10, 11, 12, 13, 14, 15]))) rw (.lst [])) := (k15.trans (Keep.of s6)).trans (Keep.of s7)
  have D7 : DrL (upd (upd H5 kn (.lst (nV [9, 10, 11, 12, 13, 14, 15]))) rw (.lst [])) d ((kn, .lst (nV [9, 10, 11, 12, 13, 14, 15])) :: [(rw, .lst []), (mk, .lst (nV MK))]) := D7.perm (by
    exact List.perm_append_comm (l₁ := [_]) (l₂ := [_, _]))
  have I0 : KInv rgs many MK 0 [] [] [9, 10, 11, 12, 13, 14, 15] := ⟨rfl, rfl, fun j r h => by simp at h, fun j r h => by simp at h, fun j r h => by simp at h, fun t _ h => absurd h (by omega), ⟨by decide, by decide⟩, by decide⟩
  have hn : (((many : Nat) : Int) - 1).toNat = many - 1 := by omega
  clear D6 D5 hkn hrw ims
  walk_at "go"
  refine f_range (fun i σ H' => ∃ (kn : Addr) (o6 o7 : Option V) (xs : List V) (RS : List Row) (PS : List (List Nat)) (KN : List Nat), σ = [some (.ref d), some x, some (.int (many : Int)), some (.ref mk), some (.ref kn), some (.ref rw), o6, o7] ∧ Keep [d] H1 H' ∧ H1 kn = none ∧ DrL H' d ((kn, .lst (nV KN)) :: [(rw, .lst xs), (mk, .lst (nV MK))]) ∧ Ims H' xs (RS.map Row.d) ∧ KInv rgs many MK i RS PS KN)
    ⟨kn, _, _, [], [], [], _, rfl, k17, kn1, D7, .nil, I0⟩ ?_ ?_
  · rintro i σ G hi ⟨kn, o6, o7, xs, RS, PS, KN, rfl, kg, kn1, E, ims, I⟩
    have hi : i < many - 1 := by omega
    have e0 : (0 : Int) + (i : Int) = (i : Int) := by omega
    have hxl := ims.length
    rw [List.length_map, I.l1] at hxl
    have hmkG : G mk = some (.lst (nV MK)) := E.get 2 rfl
    walk_at "go"
    rw [e0]
    refine ⟨fun σ' G1 => ∃ kn' : Addr, σ' = [some (.ref d), some x, some (.int (many : Int)), some (.ref mk), some (.ref kn'), some (.ref rw), some (.int (i : Int)), o7] ∧ Keep [d] H1 G1 ∧ H1 kn' = none ∧ DrL G1 d ((kn', .lst (nV (kn0 MK KN i))) :: [(rw, .lst xs), (mk, .lst (nV MK))]) ∧ Ims G1 xs (RS.map Row.d), ?_, ?_⟩
    · walk_at "go"
      refine k_inN (.inr (SqL.of hmkG)) ?_
      walk_at "go"
      refine g_ifB (fun c => ?_) (fun c => ?_)
      · walk_at "go"
        refine ⟨by decide, fun kn' hkn' => ?_⟩
        have sn := Same.new (o := .lst []) hkn'
        have E2 : DrL (upd G kn' (.lst [])) d [(kn, .lst (nV KN)), (rw, .lst xs), (mk, .lst (nV MK)), (kn', .lst [])] := E.new hkn'
        have E3 : DrL (upd G kn' (.lst [])) d ([(rw, .lst xs), (mk, .lst (nV MK))] ++ [(kn', .lst [])]) := E2.sub (List.sublist_cons_self _ _)
        have E4 : DrL (upd G kn' (.lst [])) d ([(kn', .lst [])] ++ [(rw, .lst xs), (mk, .lst (nV MK))]) := E3.perm List.perm_append_comm
        walk_at "go"
        refine ⟨kn', rfl, kg.trans (Keep.of sn), kg.back hkn' (by simpa using E.ne hkn'), ?_, ims.same sn⟩
        unfold kn0
        rw [if_pos c]
        exact E4
      · walk_at "go"
        refine ⟨kn, rfl, kg, kn1, ?_, ims⟩
        unfold kn0
        rw [c, if_neg Bool.false_ne_true]
        exact E
    rintro σ G1 ⟨kn, rfl, kg, kn1, E, ims⟩
    have ok0 := kn0_ok (MK := MK) (i := i) I.k
    have ol0 := kn0_len (MK := MK) (KN := KN) (i := i)
    have okl := I.kl
    have ix1 := D1.im kg ix
    -- what is put at the end
    have fin : ∀ (G2 G3 : Hp) (v : V) (r : Row) (KN' : List Nat), Keep [d, kn] G1 G2 → DrL G2 d ((kn, .lst (nV KN')) :: [(rw, .lst xs), (mk, .lst (nV MK))]) → Im G2 v r.d → RowOkD many i r → (∀ w ∈ waysR i r, w ≠ i + 1 → w ∈ MK) → Nxt rgs (kn0 MK KN i) KN' r → ∀ Q' : VK,
        (∀ G3, (∃ (xs : List V) (RS : List Row) (PS : List (List Nat)) (KN : List Nat), Keep [d] H1 G3 ∧ H1 kn = none ∧ DrL G3 d ((kn, .lst (nV KN)) :: [(rw, .lst xs), (mk, .lst (nV MK))]) ∧ Ims G3 xs (RS.map Row.d) ∧ KInv rgs many MK (i + 1) RS PS KN) → Q' .non G3) → rAppend (.ref rw) [v] G2 Q' := by
      intro G2 _ v r KN' k2 E2 iv rk hw nx Q' hq
      refine gD_append E2 1 rfl (by omega) (fun E3 => hq _ ⟨xs ++ [v], RS ++ [r], _, KN', ?_, kn1, E3, ?_, I.step rk hw nx⟩)
      · exact (keep_drop kg k2 kn1).mut rw1
      · rw [List.map_append]
        exact ims_snoc (H2 := G2) (ims.keep k2 E.noTup2) iv (E2.get 1 rfl)
    have sw : ∀ {r : Row}, StR r = true → ∀ w ∈ waysR i r, w ≠ i + 1 → w ∈ MK := fun hs w hw hne => by
      rcases ways_of hw with e | rfl | ⟨p, rfl⟩
      · exact absurd e hne
      · cases hs
      · cases hs
    have hrw1 : G1 rw = some (.lst xs) := E.get 1 rfl
    walk_at "go"
    refine use_nx E (by decide) (fun G2 v2 k2 E2 h20 h21 => ?_)
    have hrw2 : G2 rw = some (.lst xs) := E2.get 1 rfl
    have hmk2 : G2 mk = some (.lst (nV MK)) := E2.get 2 rfl
    have ix2 := E.im k2 ix1
    walk_at "go"
    refine g_if (fun c => ?_) (fun c => ?_)
    · walk_at "go"
      refine ⟨d, kn, _, x, rgs, kn0 MK KN i, i, many, rfl, E2, ix2, ro, ok0, by omega, by omega, fun G3 v r KN' k3 E3 iv rk st nx => ?_⟩
      walk_at "go"
      refine fin G3 G3 v r KN' ((keepL k2).trans k3) E3 iv rk (sw st) nx _ (fun G4 ⟨xs, RS, PS, KN, z⟩ => ?_)
      walk_at "go"
      exact ⟨kn, _, _, xs, RS, PS, KN, rfl, z⟩
    walk_at "go"
    refine g_if (fun c => ?_) (fun c => ?_)
    · walk_at "go"
      refine ⟨d, kn, _, x, rgs, kn0 MK KN i, i, many, rfl, E2, ix2, ro, ok0, by omega, by omega, fun G3 v r k3 E3 iv rk st nx => ?_⟩
      walk_at "go"
      refine fin G3 G3 v r _ ((keepL k2).trans (keepL k3)) E3 iv rk (sw st) nx _ (fun G4 ⟨xs, RS, PS, KN, z⟩ => ?_)
      walk_at "go"
      exact ⟨kn, _, _, xs, RS, PS, KN, rfl, z⟩
    have jn : ∀ {r : Row}, (∀ p, wrP rgs p r = none) → mskOk r → refW rgs r (pK (kn0 MK KN i)) = none → Nxt rgs (kn0 MK KN i) (kn0 MK KN i) r := fun h1 h2 h3 => ⟨h2, h3, fun x hx hp => by rw [bhd_n (h1 _)]; exact hp, ok0, by omega⟩
    walk_at "go"
    refine g_if (fun c => ?_) (fun c => ?_)
    · walk_at "go"
      refine ⟨d, kn, _, kn0 MK KN i, rfl, E2, ok0, by omega, fun G3 n k3 E3 hn hp => ?_⟩
      have hmk3 : G3 mk = some (.lst (nV MK)) := E3.get 2 rfl
      walk_at "go"
      refine use_nx E3 (by omega) (fun G4 v4 k4 E4 h40 h41 => ?_)
      have hmk4 : G4 mk = some (.lst (nV MK)) := E4.get 2 rfl
      obtain ⟨q, rfl⟩ : ∃ q : Nat, v4 = (q : Int) := ⟨v4.toNat, by omega⟩
      have hq : MK[q]? = some (MK[q]'(by omega)) := List.getElem?_eq_getElem _
      have hqm := List.mem_of_getElem? hq
      generalize MK[q]'(by omega) = t at hq hqm
      refine g_ixL (SqL.of hmk4) (n := q) rfl (nV_at hq) ?_
      walk_at "go"
      refine m_new (.cons (.str "branch") (.cons (.int (n : Int)) (.cons (.int (t : Int)) .nil))) (by show 3 ≤ 100000; decide) (fun p G5 s5 _ i5 => ?_)
      walk_at "go"
      refine fin G5 G5 _ (.branch n t) _ ((keepL ((k2.trans k3).trans k4)).trans (Keep.of s5)) (E4.same s5) i5 ⟨hn, mkb t hqm, by omega⟩ (fun w hw hne => ?_) (jn (fun _ => rfl) trivial ?_) _ (fun G4 ⟨xs, RS, PS, KN, z⟩ => ?_)
      · rcases ways_of hw with e | e | ⟨p, e⟩
        · exact absurd e hne
        · cases e
        · cases e
          exact hqm
      · show (if pK (kn0 MK KN i) n = true then (none : Option Str) else some "branch") = none
        rw [hp, if_pos rfl]
      · walk_at "go"
        exact ⟨kn, _, _, xs, RS, PS, KN, rfl, z⟩
    walk_at "go"
    refine use_nx E2 (by decide) (fun G3 v3 k3 E3 h30 h31 => ?_)
    have hrw3 : G3 rw = some (.lst xs) := E3.get 1 rfl
    have hmk3 : G3 mk = some (.lst (nV MK)) := E3.get 2 rfl
    have ix3' := E2.im k3 ix2
    walk_at "go"
    refine g_if (fun c => ?_) (fun c => ?_)
    · walk_at "go"
      refine use_nx E3 (by omega) (fun G4 v4 k4 E4 h40 h41 => ?_)
      have hmk4 : G4 mk = some (.lst (nV MK)) := E4.get 2 rfl
      obtain ⟨q, rfl⟩ : ∃ q : Nat, v4 = (q : Int) := ⟨v4.toNat, by omega⟩
      have hq : MK[q]? = some (MK[q]'(by omega)) := List.getElem?_eq_getElem _
      have hqm := List.mem_of_getElem? hq
      generalize MK[q]'(by omega) = t at hq hqm
      refine g_ixL (SqL.of hmk4) (n := q) rfl (nV_at hq) ?_
      walk_at "go"
      refine m_new (.cons (.str "jump") (.cons (.int (t : Int)) .nil)) (by show 2 ≤ 100000; decide) (fun p G5 s5 _ i5 => ?_)
      walk_at "go"
      refine fin G5 G5 _ (.jump t) _ ((keepL ((k2.trans k3).trans k4)).trans (Keep.of s5)) (E4.same s5) i5 (mkb t hqm) (fun w hw hne => ?_) (jn (fun _ => rfl) trivial rfl) _ (fun G4 ⟨xs, RS, PS, KN, z⟩ => ?_)
      · rw [List.mem_singleton.mp hw]
        exact hqm
      · walk_at "go"
        exact ⟨kn, _, _, xs, RS, PS, KN, rfl, z⟩
    · walk_at "go"
      refine ⟨d, kn, _, x, rgs, kn0 MK KN i, i, many, rfl, E3, ix3', ro, ok0, by omega, by omega, fun G4 v r KN' k4 E4 iv rk st nx => ?_⟩
      walk_at "go"
      refine fin G4 G4 v r KN' ((keepL (k2.trans k3)).trans k4) E4 iv rk (sw st) nx _ (fun G4 ⟨xs, RS, PS, KN, z⟩ => ?_)
      walk_at "go"
      exact ⟨kn, _, _, xs, RS, PS, KN, rfl, z⟩
  · rintro σ G ⟨kn, o6, o7, xs, RS, PS, KN, rfl, kg, kn1, E, ims, I⟩
    rw [hn] at I
    have hxl := ims.length
    rw [List.length_map, I.l1] at hxl
    have hrwG : G rw = some (.lst xs) := E.get 1 rfl
    walk_at "go"
    refine use_nx E (by decide) (fun G2 v2 k2 E2 h20 h21 => ?_)
    obtain ⟨a, rfl⟩ : ∃ a : Nat, v2 = (a : Int) := ⟨v2.toNat, by omega⟩
    walk_at "go"
    refine m_new (.cons (.str "stop") (.cons (.int (a : Int)) .nil)) (by show 2 ≤ 100000; decide) (fun p G3 s3 _ i3 => ?_)
    have E3 := E2.same s3
    have k13 := (kg.trans k2).trans (Keep.of s3)
    walk_at "go"
    refine gD_append E3 1 rfl (by omega) (fun E4 => ?_)
    have J := I.fin (a := a) (by omega) (by omega) mkb ro.d
    have im4 := ims_snoc (H2 := G3) (o := .lst (xs ++ [.ref p])) (((E.ims k2 ims).same s3)) (show Im G3 (.ref p) (Row.d (.stop a)) from i3) (E3.get 1 rfl)
    have ix4 := (D1.im k13 ix).keep (Keep.set (a := rw) (o := .lst (xs ++ [.ref p])) (List.mem_singleton.mpr rfl)) (NoTup.one (E3.get 1 rfl) (fun _ e => nomatch e))
    have k14 := k13.mut (a := rw) (o := .lst (xs ++ [.ref p])) rw1
    generalize upd G3 rw (HO.lst (xs ++ [.ref p])) = G4 at E4 im4 ix4 k14
    have hrw4 : G4 rw = some (.lst (xs ++ [.ref p])) := E4.get 1 rfl
    have im4 : Ims G4 (xs ++ [.ref p]) ((RS ++ [Row.stop a]).map Row.d) := by
      rw [List.map_append]
      exact im4
    have len : (RS ++ [Row.stop a]).length = many := by rw [List.length_append, I.l1, List.length_singleton]; omega
    walk_at "go"
    refine m_tupleL (SqL.of hrw4) im4 (fun t G5 s5 _ i5 => ?_)
    walk_at "go"
    refine m_new (.cons (ix4.same s5) (.cons i5 .nil)) (by show 2 ≤ 100000; decide) (fun z G6 s6 _ i6 => ?_)
    exact hQ _ _ rgs _ _ (((k1.trans k14).trans (Keep.of s5)).trans (Keep.of s6)) (((E4.same s5).same s6).sub (List.nil_sublist _)) i6 ro ⟨by omega, by omega, J.k⟩ (by omega) (by omega) J


/-! ### k81: three choices -/
theorem l_drawT0 {K : PySem.W.Frag} {σ : L2.St} {H : Hp} {te : TE} {vs : List Nat} {Q : VK} {a d : Addr} {xs : List V} {ds : List PyData} {k : Nat} {P : Nat → PyData → Prop} {L : List (Addr × HO)} (D0 : DrL H d L) (ha : H a = some (.tup xs)) (hs : Ims H xs ds) (hl : ds.length ≤ 1000) (hwp : ∀ x : V, wipe ((wipe σ vs).set k (some x)) vs = wipe σ vs)
    (step : ∀ (i : Nat) (y : V) (H' : Hp) (R : VK) (L' : List (Addr × HO)), i < ds.length → Keep [d] H H' → DrL H' d L' → (∀ H2 v e, Keep [d] H' H2 → DrL H2 d L' → Im H2 v e → P i e → R v H2) → te ((wipe σ vs).set k (some y)) H' R)
    (q : ∀ D H' us es, H D = none → Keep [d] H H' → DrL H' d (L ++ [(D, .lst us)]) → Ims H' us es → es.length = ds.length → (∀ i e, es[i]? = some e → P i e) → Q (.ref D) H') : LcW (gName k) tYes te vs σ Q (Itt K a) H :=
  l_drawT (P := P) D0 ha hs hl (fun i e0 y H' R L' hi kp iy D' hR => g_name (g_wipe (hwp _) (step i y H' R L' (List.getElem?_eq_some_iff.mp hi).1 kp D' hR))) (fun y σ1 H1 R R' hh h => hh _ _ h) q
structure ChOk (rgs : List Rg) (cs os : List (List Int)) : Prop where
  m : MemOk rgs os
  a : Agr rgs cs os
def sp_law_choices (K : PySem.W.Frag) : Sp := fun vs H Q _ => ∃ (d : Addr) (L : List (Addr × HO)) (code : V) (rgs : List Rg) (rows : List Row), vs = [.ref d, code] ∧ DrL H d L ∧ Im H code (codeD rgs rows) ∧ RgsOk rgs ∧
  ∀ H' a us cs os1 os2, Keep [d] H H' → DrL H' d (L ++ [(a, .lst us)]) → Ims H' us [contD cs, contD os1, contD os2] → MemOk rgs cs → ChOk rgs cs os1 → ChOk rgs cs os2 → Q (.ref a) H'
theorem sc_law_choices : FnScope ["draws", "code", "first", "choices", "k", "row", "region", "word"] ["draws", "code"] (defScope (topS 67)) := ⟨rfl, rfl, rfl, by decide +kernel, rfl, by decide +kernel, by decide +kernel⟩
theorem ok_law_choices (T : Txt fa fn K mg (XOk cs xcs K w)) : Dn P w K mg base CX0 4 "_law_choices" ["draws", "code"] (sp_law_choices K) := by
  refine mk_dn (d := dOf "_law_choices" 67) T 47 47 rfl rfl rfl rfl rfl sc_law_choices (by walk_at "len") (fun _ _ _ _ _ _ us hl => match us, hl with | [_, _], _ => rfl) (fun cdv A outer s H vs Q E hr h => ⟨_, (pss_cons (ps_set (i := 2) sc_law_choices.nd rfl (.inl rfl) (pe_callD (K := K) rfl (ok_law_contents T) (hr.mono (by decide)) rfl pass0 (pa_cons (pv 0) (pa_cons (pv 1) pa_nil))))
      (pss_cons (ps_set (i := 3) sc_law_choices.nd rfl (.inl rfl) (pe_lst (pa_cons (pv 2) pa_nil)))
      (pss_cons (ps_for PassesOwn.never rfl (pi_r1 rfl (T.free 132 rfl) (pa_cons pe_int pa_nil)) (pg_name (i := 4) sc_law_choices.nd rfl (.inl rfl)) (pss_cons (ps_set (i := 5) sc_law_choices.nd rfl (.inl rfl) (pe_lst pa_nil))
      (pss_cons (ps_for PassesOwn.never rfl (pi_r1 rfl (T.free 132 rfl) (pa_cons (pe_callB (c_len (K := K) rfl) rfl (T.free 128 rfl) (by decide +kernel) (pa_cons (pv 2) pa_nil)) pa_nil)) (pg_name (i := 6) sc_law_choices.nd rfl (.inl rfl)) (pss_one (ps_if (pt_cmpR (op_eqU (K := K) rfl hr.units) (pe_ixU (K := K) rfl (hu_of hr) (pe_ixU (K := K) rfl (hu_of hr) (pe_ixU (K := K) rfl (hu_of hr) (pv 1) pe_int) (pv 6)) pe_int) pe_str (nomark _)) (pss_one (ps_expr (pe_bm PySem.F.plainAttrs_list PySem.F.slot_list_append PySem.F.type_list_append mt_append (pv 5) (pa_cons (pe_ixU (K := K) rfl (hu_of hr) (pv 2) (pv 6)) pa_nil)))) (pss_one (ps_expr (pe_bm PySem.F.plainAttrs_list PySem.F.slot_list_append PySem.F.type_list_append mt_append (pv 5) (pa_cons (pe_callTy (c_tuple (K := K) rfl) rfl (T.free 136 rfl) (by decide +kernel) (pa_cons (pe_lc rfl sc_law_choices.nd (pi_seq (K := K) rfl (pe_ixU (K := K) rfl (hu_of hr) (pv 2) (pv 6))) (blkOk_by (own := [("word", 7)]) (N := ["draws", "code", "first", "choices", "k", "row", "region", "word"]) (sc := defScope (topS 67)) (by decide +kernel)) (fun _ _ _ _ _ => (pg_name (i := 7) sc_law_choices.nd rfl (.inl rfl))) (fun _ _ _ _ _ => pts_nil) (fun _ _ _ _ _ => (pe_callD (K := K) rfl (ok_law_word T) (hr.mono (by decide)) rfl pass0 (pa_cons (pv 0) pa_nil)))) pa_nil)) pa_nil)))))))
      (pss_one (ps_expr (pe_bm PySem.F.plainAttrs_list PySem.F.slot_list_append PySem.F.type_list_append mt_append (pv 3) (pa_cons (pe_callTy (c_tuple (K := K) rfl) rfl (T.free 136 rfl) (by decide +kernel) (pa_cons (pv 5) pa_nil)) pa_nil)))))))
      (pss_one (ps_ret (pv 3)))))), ?_⟩)
  obtain ⟨d, L, code, rgs, rows, rfl, D, ic, ro, hQ⟩ := h
  walk_at "go"
  refine ⟨d, L, code, rgs, rows, rfl, D, ic, ro, fun H1 fv cs k1 D1 ik mo => ?_⟩
  have ic1 := D.im k1 ic
  have ml := mo.l
  have ru := ro.u
  walk_at "go"
  refine ⟨by show 1 ≤ sizeLine; decide, fun ch hch => ?_⟩
  have s2 := Same.new (o := .lst [fv]) hch
  have D2 := D1.new (o := .lst [fv]) hch
  have i2 : Ims (upd H1 ch (.lst [fv])) [fv] ([cs].map contD) := Ims.one (ik.same s2)
  have ch0 : H ch = none := k1.back hch (by simpa using D1.ne hch)
  have k02 := k1.trans (Keep.of s2)
  generalize upd H1 ch (HO.lst [fv]) = H2 at s2 D2 i2 k02
  clear hch
  have ic2 := ic1.same s2
  have ik2 := ik.same s2
  have k12 : Keep [d] H2 H2 := Keep.refl
  have D1' := D1.same s2
  walk_at "go"
  refine f_range (fun i σ H' => ∃ (o3 o4 o5 o6 : Option V) (us : List V) (oss : List (List (List Int))), σ = [some (.ref d), some code, some fv, some (.ref ch), o3, o4, o5, o6] ∧ Keep [d] H H' ∧ Im H' code (codeD rgs rows) ∧ Im H' fv (contD cs) ∧ DrL H' d (L ++ [(ch, .lst us)]) ∧ Ims H' us ((cs :: oss).map contD) ∧ oss.length = i ∧ ∀ os ∈ oss, ChOk rgs cs os)
    ⟨_, _, _, _, [fv], [], rfl, k02, ic2, ik2, D2, i2, rfl, by simp⟩ ?_ ?_
  · rintro i σ G hi ⟨o3, o4, o5, o6, us, oss, rfl, kg, icg, ikg, E, ims, ol, okk⟩
    have hi2 : i < 2 := hi
    have usl := ims.length
    rw [List.length_map, List.length_cons, ol] at usl
    walk_at "go"
    refine ⟨by decide, fun rw hrw => ?_⟩
    have s3 := Same.new (o := .lst []) hrw
    have E3 := E.new (o := .lst []) hrw
    have rw0 : H rw = none := kg.back hrw (by simpa using E.ne hrw)
    have kg3 := kg.trans (Keep.of s3)
    have icg := icg.same s3
    have ikg := ikg.same s3
    have ims := ims.same s3
    generalize upd G rw (HO.lst []) = G3 at s3 E3 kg3 icg ikg ims
    walk_at "go"
    refine m_len ikg ?_
    rw [List.length_map]
    walk_at "go"
    refine f_range (fun j σ H' => ∃ (o5 o6 : Option V) (xs : List V) (os : List (List Int)), σ = [some (.ref d), some code, some fv, some (.ref ch), some (.int (0 + (i : Int))), some (.ref rw), o5, o6] ∧ Keep [d] H H' ∧ Im H' code (codeD rgs rows) ∧ Im H' fv (contD cs) ∧ Ims H' us ((cs :: oss).map contD) ∧ DrL H' d ((L ++ [(ch, .lst us)]) ++ [(rw, .lst xs)]) ∧ Ims H' xs (os.map cD) ∧ os.length = j ∧ (∀ (q : Nat) (g : Rg) (c : List Int), rgs[q]? = some g → os[q]? = some c → c.length = g.n) ∧ (∀ c ∈ os, ∀ x ∈ c, W32 x) ∧ (∀ (q : Nat) (g : Rg), q < os.length → rgs[q]? = some g → g.l = "public" → cs[q]? = os[q]?))
      ⟨_, _, [], [], rfl, kg3, icg, ikg, ims, E3, .nil, rfl, fun q g c _ h => by simp at h, by simp, fun q g h => absurd h (by simp)⟩ ?_ ?_
    · rintro j σ G4 hj ⟨o5, o6, xs, os, rfl, k4, ic4, ik4, im4, E4, ix4, oj, n4, w4, a4⟩
      have hj2 : j < rgs.length := by omega
      have hg : rgs[j]? = some (rgs[j]'hj2) := List.getElem?_eq_getElem _
      generalize rgs[j]'hj2 = g at hg
      have hc : cs[j]? = some (cs[j]'(by omega)) := List.getElem?_eq_getElem _
      generalize cs[j]'(by omega) = c at hc
      have cl := mo.n j g c hg hc
      have cw := mo.w c (List.mem_of_getElem? hc)
      have gz := ro.n g (List.mem_of_getElem? hg)
      have e0 : (0 : Int) + (j : Int) = (j : Int) := by omega
      have xl := ix4.length
      rw [List.length_map, oj] at xl
      have hrw4 : G4 rw = some (.lst xs) := E4.get (L ++ [(ch, HO.lst us)]).length get_last
      have fin : ∀ (G5 : Hp) (y : V) (c' : List Int), Keep [d] G4 G5 → DrL G5 d ((L ++ [(ch, .lst us)]) ++ [(rw, .lst xs)]) → Im G5 y (cD c') → c'.length = g.n → (∀ x ∈ c', W32 x) → (g.l = "public" → c' = c) → ∀ Q' : VK,
          (∀ G6, (∃ (xs : List V) (os : List (List Int)), Keep [d] H G6 ∧ Im G6 code (codeD rgs rows) ∧ Im G6 fv (contD cs) ∧ Ims G6 us ((cs :: oss).map contD) ∧ DrL G6 d ((L ++ [(ch, .lst us)]) ++ [(rw, .lst xs)]) ∧ Ims G6 xs (os.map cD) ∧ os.length = j + 1 ∧ (∀ (q : Nat) (g : Rg) (c : List Int), rgs[q]? = some g → os[q]? = some c → c.length = g.n) ∧ (∀ c ∈ os, ∀ x ∈ c, W32 x) ∧ (∀ (q : Nat) (g : Rg), q < os.length → rgs[q]? = some g → g.l = "public" → cs[q]? = os[q]?)) → Q' .non G6) → rAppend (.ref rw) [y] G5 Q' := by
        intro G5 y c' k5 E5 iy hl hw hp Q' hq
        have at5 : G5 rw = some (.lst xs) := E5.get (L ++ [(ch, HO.lst us)]).length get_last
        have nt : NoTup G5 [rw] := NoTup.one at5 (fun _ e => nomatch e)
        have kt : Keep [rw] G5 (upd G5 rw (.lst (xs ++ [y]))) := Keep.set (List.mem_singleton.mpr rfl)
        refine gD_append E5 (L ++ [(ch, HO.lst us)]).length get_last (by omega) (fun E6 => hq _ ⟨xs ++ [y], os ++ [c'], (k4.trans k5).mut rw0, (E4.im k5 ic4).keep kt nt, (E4.im k5 ik4).keep kt nt, (E4.ims k5 im4).keep kt nt, ?_, ?_, by rw [List.length_append, oj]; rfl, fun q g' c'' hg' hc'' => ?_, fun c'' hc'' => ?_, fun q g' hq' hg' hpub => ?_⟩)
        · rw [set_last] at E6
          exact E6
        · rw [List.map_append]
          exact ims_snoc (H2 := G5) (E4.ims k5 ix4) iy at5
        · rcases at_snoc hc'' with ⟨_, h⟩ | ⟨e, e2⟩
          · exact n4 q g' c'' hg' h
          · rw [e, oj, hg] at hg'
            cases hg'
            rw [e2]
            exact hl
        · rcases List.mem_append.mp hc'' with h | h
          · exact w4 c'' h
          · rw [List.mem_singleton.mp h]
            exact hw
        · by_cases cq : q < os.length
          · rw [List.getElem?_append_left cq]
            exact a4 q g' cq hg' hpub
          · rw [List.length_append, List.length_singleton] at hq'
            have e : q = os.length := by omega
            subst e
            rw [oj, hg] at hg'
            cases hg'
            rw [List.getElem?_append_right (Nat.le_refl _), Nat.sub_self, oj, hc, hp hpub]
            rfl
      walk_at "go"
      rw [e0]
      refine m_ix ic4 (n := 0) rfl rfl (fun v1 hv1 => ?_)
      walk_at "go"
      refine m_ix hv1 (n := j) rfl (by rw [List.getElem?_map, hg]; rfl) (fun v2 hv2 => ?_)
      obtain ⟨t2, e2, ht2⟩ := im3v hv2
      subst e2
      walk_at "go"
      refine g_if (fun cp => ?_) (fun cp => ?_)
      · walk_at "go"
        refine m_ix ik4 (n := j) rfl (by rw [List.getElem?_map, hc]; rfl) (fun y hy => ?_)
        walk_at "go"
        refine fin G4 y c Keep.refl E4 hy cl cw (fun _ => rfl) _ (fun G6 ⟨xs, os, z⟩ => ?_)
        walk_at "go"
        exact ⟨_, _, xs, os, rfl, z⟩
      · walk_at "go"
        refine m_ix ik4 (n := j) rfl (by rw [List.getElem?_map, hc]; rfl) (fun y hy => ?_)
        walk_at "go"
        refine m_seq hy (fun ya ys ey hya hys => ?_)
        subst ey
        refine l_drawT0 (P := fun _ e => ∃ x, e = .int x ∧ W32 x) E4 hya hys (by rw [List.length_map]; omega) (fun _ => rfl) (fun q z G5 R L5 hq k5 E5 hR => ?_) (fun Dw G5 us5 es5 hDw k5 E5 im5 hl5 hp5 => ?_)
        · walk_at "go"
          refine ⟨d, L5, rfl, E5, fun G6 wx k6 E6 ww => ?_⟩
          exact hR _ _ _ k6 E6 (.int wx) ⟨wx, rfl, ww⟩
        · obtain ⟨c', rfl, lc, wc⟩ := ints_of es5 hp5
          rw [List.length_map] at hl5
          walk_at "go"
          refine m_tupleL (SqL.of (E5.get ((L ++ [(ch, HO.lst us)]) ++ [(rw, HO.lst xs)]).length get_last)) im5 (fun p5 G6 s6 _ i6 => ?_)
          have E6 := (E5.sub sub_last).same s6
          walk_at "go"
          refine fin G6 _ c' (k5.trans (Keep.of s6)) E6 i6 (by rw [← cl]; simpa using hl5) wc (fun z => absurd z cp) _ (fun G6 ⟨xs, os, z⟩ => ?_)
          walk_at "go"
          exact ⟨_, _, xs, os, rfl, z⟩
    · rintro σ G4 ⟨o5, o6, xs, os, rfl, k4, ic4, ik4, im4, E4, ix4, oj, n4, w4, a4⟩
      rw [ml, Int.toNat_natCast] at oj
      have hrw4 : G4 rw = some (.lst xs) := E4.get (L ++ [(ch, HO.lst us)]).length get_last
      have hch4 : G4 ch = some (.lst us) := E4.get L.length (by rw [List.getElem?_append_left (by simp)]; exact get_last)
      walk_at "go"
      refine m_tupleL (SqL.of hrw4) ix4 (fun p5 G5 s5 _ i5 => ?_)
      have E5 := (E4.sub sub_last).same s5
      walk_at "go"
      have nt : NoTup G5 [ch] := NoTup.one (s5 _ _ hch4) (fun _ e => nomatch e)
      have kt : Keep [ch] G5 (upd G5 ch (.lst (us ++ [.ref p5]))) := Keep.set (List.mem_singleton.mpr rfl)
      refine gD_append E5 L.length get_last (by omega) (fun E6 => ?_)
      rw [set_last] at E6
      walk_at "go"
      refine ⟨_, _, _, _, us ++ [.ref p5], oss ++ [os], rfl, (k4.trans (Keep.of s5)).mut ch0, (ic4.same s5).keep kt nt, (ik4.same s5).keep kt nt, E6, ?_, by rw [List.length_append, ol]; rfl, all_snoc okk ⟨⟨oj, by omega, n4, fun g hg => Nat.le_trans (ro.n g hg) (by decide), w4, ro.s⟩, fun q g hg hp => a4 q g (by have := (List.getElem?_eq_some_iff.mp hg).1; omega) hg hp⟩⟩
      rw [← List.cons_append, List.map_append]
      exact ims_snoc (H2 := G5) (im4.same s5) i5 (s5 _ _ hch4)
  · rintro σ G ⟨o3, o4, o5, o6, us, oss, rfl, kg, icg, ikg, E, ims, ol, okk⟩
    have ol : oss.length = 2 := ol
    obtain ⟨os1, os2, rfl⟩ : ∃ a b, oss = [a, b] := by
      match oss, ol with
      | [a, b], _ => exact ⟨a, b, rfl⟩
    walk_at "go"
    exact hQ G ch us cs os1 os2 kg E ims mo (okk os1 (by simp)) (okk os2 (by simp))
/-! ### what is shown -/
def pubB (g : Rg) : Bool := decide (g.l = ("public" : Str))
def puD (rgs : List Rg) (ms : MS) : List PyData := (rgs.filter pubB).map fun g => .tuple ((List.range g.n).map fun (j : Nat) => .int (wdV ms.wd (g.b + (j : Int))))
def shD (rgs : List Rg) (p : Option Int × MS × MC) : PyData := .tuple [.tuple (p.2.1.ou.map .int), .bool p.1.isNone, .list (puD rgs p.2.1), .tuple (p.2.2.tr.map Ev.d)]
theorem Lay.lst {k : Nat} {ds : List PyData} (h : ∀ d ∈ ds, Lay k d) : Lay (k + 1) (.list ds) := ⟨by
  rw [PyData.canLay0]
  exact layAll_mem fun d hd => (h d hd).1, by
  rw [PyData.depth]
  have := depthAll_mem (k := k) fun d hd => (h d hd).2
  omega⟩
theorem puD_lay {rgs : List Rg} {ms : MS} : ∀ d ∈ puD rgs ms, Lay 1 d := fun d hd => by
  obtain ⟨g, _, rfl⟩ := List.mem_map.mp hd
  refine Lay.tup fun e he => ?_
  obtain ⟨j, _, rfl⟩ := List.mem_map.mp he
  exact Lay.int
theorem shD_lay {rgs : List Rg} {p : Option Int × MS × MC} : Lay 3 (shD rgs p) := Lay.tup fun d hd => by
  simp only [List.mem_cons, List.not_mem_nil, or_false] at hd
  rcases hd with rfl | rfl | rfl | rfl
  · refine (Lay.tup (k := 1) fun e he => ?_).mono (by decide)
    obtain ⟨x, _, rfl⟩ := List.mem_map.mp he
    exact Lay.int
  · exact Lay.bl
  · exact Lay.lst puD_lay
  · exact Lay.tup fun e he => by
      obtain ⟨x, _, rfl⟩ := List.mem_map.mp he
      exact ev_lay x
theorem shD_eq {t : Sett} {rows : List Row} {rgs : List Rg} {P : Nat → Mb} {cs os : List (List Int)} {n : Nat} (J : Jd rgs rows P) (hz : 0 < t.dc.Z) (h1 : cs.length = rgs.length) (h2 : os.length = rgs.length) (h : Agr rgs cs os) : shD rgs (machR t rows rgs cs n) = shD rgs (machR t rows rgs os n) := by
  obtain ⟨e1, e2, e3, e4⟩ := shown_eq (t := t) (n := n) J hz h1 h2 h
  have e5 : puD rgs (machR t rows rgs cs n).2.1 = puD rgs (machR t rows rgs os n).2.1 := by
    unfold puD
    refine List.map_congr_left fun g hg => ?_
    obtain ⟨g1, g2⟩ := List.mem_filter.mp hg
    congr 1
    refine List.map_congr_left fun j hj => ?_
    have := List.mem_range.mp hj
    rw [e4 g g1 (of_decide_eq_true g2) (g.b + (j : Int)) ⟨by omega, by omega⟩]
  have e6 : (machR t rows rgs cs n).1.isNone = (machR t rows rgs os n).1.isNone := by
    cases a : (machR t rows rgs cs n).1 <;> cases b : (machR t rows rgs os n).1 <;> rw [a, b] at e2 <;> first | rfl | cases e2
  unfold shD
  rw [e1, e3, e5, e6]
/-- what is shown, on the heap -/
def ShO (H : Hp) (x : V) (pl : Addr) (us : List V) (rgs : List Rg) (p : Option Int × MS × MC) : Prop := ∃ (t : Addr) (o tr : V), x = .ref t ∧ H t = some (.tup [o, .bl p.1.isNone, .ref pl, tr]) ∧ Im H o (.tuple (p.2.1.ou.map .int)) ∧ Im H tr (.tuple (p.2.2.tr.map Ev.d)) ∧ Ims H us (puD rgs p.2.1)
theorem ShO.kt {H H' : Hp} {x : V} {pl : Addr} {us : List V} {rgs : List Rg} {p : Option Int × MS × MC} (h : ShO H x pl us rgs p) (k : KT H H') : ShO H' x pl us rgs p := by
  obtain ⟨t, o, tr, e, h1, h2, h3, h4⟩ := h
  exact ⟨t, o, tr, e, k _ _ h1, h2.kt k, h3.kt k, h4.kt k⟩
theorem ShO.dp {K : PySem.W.Frag} {H : Hp} {x : V} {pl : Addr} {us : List V} {rgs : List Rg} {p : Option Int × MS × MC} (h : ShO H x pl us rgs p) (hl : H pl = some (.lst us)) : Dp K H x (shD rgs p) := by
  obtain ⟨t, o, tr, rfl, h1, h2, h3, h4⟩ := h
  exact .tup (SqT.of h1) (.cons h2.dp (.cons (.bl _) (.cons (.lst (SqL.of hl) h4.dp) (.cons h3.dp .nil))))
def sp_law_shown (K : PySem.W.Frag) : Sp := fun vs H Q _ => ∃ (code told : V) (rgs : List Rg) (rows : List Row) (p : Option Int × MS × MC), vs = [code, told] ∧ Im H code (codeD rgs rows) ∧ Im H told (.tuple (machD rgs p)) ∧ rgs.length ≤ 4 ∧
  ∀ H' x pl us, Same H H' → H pl = none → H' pl = some (.lst us) → ShO H' x pl us rgs p → Q x H'
theorem sc_law_shown : FnScope ["code", "told", "publics", "k"] ["code", "told"] (defScope (topS 68)) := ⟨rfl, rfl, rfl, by decide +kernel, rfl, by decide +kernel, by decide +kernel⟩
theorem ok_law_shown (T : Txt fa fn K mg (XOk cs xcs K w)) : Dn P w K mg base CX0 1 "_law_shown" ["code", "told"] (sp_law_shown K) := by
  refine mk_dn (d := dOf "_law_shown" 68) T 48 48 rfl rfl rfl rfl rfl sc_law_shown (by walk_at "len") (fun _ _ _ _ _ _ us hl => match us, hl with | [_, _], _ => rfl) (fun cdv A outer s H vs Q E hr h => ⟨_, (pss_cons (ps_setLc (i := 2) rfl sc_law_shown.nd rfl rfl (sw_true rfl rfl rfl (by decide +kernel)) (pi_r1 rfl (T.free 132 rfl) (pa_cons (pe_callB (c_len (K := K) rfl) rfl (T.free 128 rfl) (by decide +kernel) (pa_cons (pe_ixU (K := K) rfl (hu_of hr) (pv 0) pe_int) pa_nil)) pa_nil)) (blkOk_by (own := [("k", 3)]) (N := ["code", "told", "publics", "k"]) (sc := defScope (topS 68)) (by decide +kernel)) (fun _ _ _ _ _ => (pg_name (i := 3) sc_law_shown.nd rfl (.inl rfl))) (fun _ _ _ _ _ => (pts_one (pt_cmpR (op_eqU (K := K) rfl hr.units) (pe_ixU (K := K) rfl (hu_of hr) (pe_ixU (K := K) rfl (hu_of hr) (pe_ixU (K := K) rfl (hu_of hr) (pv 0) pe_int) (pv 3)) pe_int) pe_str (nomark _)))) (fun _ _ _ _ _ => (pe_ixU (K := K) rfl (hu_of hr) (pe_ixU (K := K) rfl (hu_of hr) (pv 1) pe_int) (pv 3))))
      (pss_one (ps_ret (pe_tup (pa_cons (pe_ixU (K := K) rfl (hu_of hr) (pv 1) pe_int) (pa_cons (pe_cmpR o_isN (pe_ixU (K := K) rfl (hu_of hr) (pv 1) pe_int) pe_non (nomark _)) (pa_cons (pv 2) (pa_cons (pe_ixU (K := K) rfl (hu_of hr) (pv 1) pe_int) pa_nil)))))))), ?_⟩)
  obtain ⟨code, told, rgs, rows, p, rfl, ic, it, ru, hQ⟩ := h
  have it : Im H told (.tuple [.tuple (p.2.1.ou.map .int), rsD p.1, .tuple (heldD rgs p.2.1), .tuple (p.2.2.tr.map Ev.d)]) := it
  walk_at "go"
  refine m_ix ic (n := 0) rfl rfl (fun v0 hv0 => ?_)
  walk_at "go"
  refine m_len hv0 ?_
  rw [List.length_map]
  walk_at "go"
  refine l_range (fun D i H' => ∃ us, H' D = some (.lst us) ∧ Ims H' us (((rgs.take i).filter pubB).map fun g => .tuple ((List.range g.n).map fun (j : Nat) => .int (wdV p.2.1.wd (g.b + (j : Int))))) ∧ Same H H') (fun D hD => ⟨[], upd_same, .nil, Same.new hD⟩) ?_ ?_
  · rintro D hD i H1 hi ⟨us, hDl, ims, sm⟩
    have hi2 : i < rgs.length := by omega
    have hg : rgs[i]? = some (rgs[i]'hi2) := List.getElem?_eq_getElem _
    generalize rgs[i]'hi2 = g at hg
    have e0 : (0 : Int) + (i : Int) = (i : Int) := by omega
    have xl := ims.length
    rw [List.length_map] at xl
    have fl := List.length_filter_le pubB (rgs.take i)
    rw [List.length_take] at fl
    walk_at "go"
    rw [e0]
    refine m_ix (ic.same sm) (n := 0) rfl rfl (fun v1 hv1 => ?_)
    walk_at "go"
    refine m_ix hv1 (n := i) rfl (by rw [List.getElem?_map, hg]; rfl) (fun v2 hv2 => ?_)
    obtain ⟨t2, e2, ht2⟩ := im3v hv2
    subst e2
    rw [filter_take_succ hg]
    walk_at "go"
    refine g_if (fun cp => ?_) (fun cp => ?_)
    · walk_at "go"
      refine m_ix (it.same sm) (n := 2) rfl rfl (fun v3 hv3 => ?_)
      walk_at "go"
      refine m_ix hv3 (n := i) rfl (show (heldD rgs p.2.1)[i]? = _ by unfold heldD; rw [List.getElem?_map, hg]; rfl) (fun v4 hv4 => ?_)
      rw [if_pos (show pubB g = true from decide_eq_true cp)]
      refine ⟨us, hDl, szl (by omega), us ++ [v4], upd_same, ?_, Same.mut sm hD⟩
      rw [List.map_append]
      exact ims_snoc (H2 := H1) ims hv4 hDl
    · walk_at "go"
      rw [if_neg (by rw [show pubB g = false from decide_eq_false cp]; exact Bool.false_ne_true), List.append_nil]
      exact ⟨us, hDl, ims, sm⟩
  · rintro D hD H1 ⟨us, hDl, ims, sm⟩
    rw [Int.toNat_natCast, List.take_length] at ims
    walk_at "go"
    refine m_ix (it.same sm) (n := 0) rfl rfl (fun v3 hv3 => ?_)
    walk_at "go"
    refine m_ix (it.same sm) (n := 1) rfl rfl (fun v4 hv4 => ?_)
    have fin : ∀ b : Bool, b = p.1.isNone → rIxU K told (.int 3) H1 fun z H2 => rTupN [v3, .bl b, .ref D, z] H2 Q := fun b hb => by
      refine m_ix (it.same sm) (n := 3) rfl rfl (fun v5 hv5 => ?_)
      refine ⟨by show 4 ≤ sizeLine; decide, fun q hq => ?_⟩
      have sq := Same.new (o := .tup [v3, .bl b, .ref D, v5]) hq
      refine hQ _ _ D us (sm.trans sq) hD (sq _ _ hDl) ⟨q, v3, v5, rfl, by rw [← hb]; exact upd_same, hv3.same sq, hv5.same sq, ims.same sq⟩
    cases hr : p.1 with
    | none =>
      rw [hr] at hv4
      rw [(show Im H1 v4 .none from hv4).non_inv]
      walk_at "go"
      exact fin true (by rw [hr]; rfl)
    | some r =>
      rw [hr] at hv4
      rw [(show Im H1 v4 (.int r) from hv4).int_inv]
      walk_at "go"
      exact fin false (by rw [hr]; rfl)


/-! ### k81: the law -/
def pbs (ps : List (Addr × List V)) : List (Addr × HO) := ps.map fun p => (p.1, HO.lst p.2)
theorem pbs_snoc {ps : List (Addr × List V)} {a : Addr} {xs : List V} : pbs (ps ++ [(a, xs)]) = pbs ps ++ [(a, .lst xs)] := by
  unfold pbs
  rw [List.map_append]
  rfl
theorem DrL.put2 {H : Hp} {d a : Addr} {X Y : List (Addr × HO)} {o o' : HO} (D : DrL H d (X ++ ((a, o) :: Y))) : DrL (upd H a o') d (X ++ ((a, o') :: Y)) := by
  have h : (X ++ ((a, o) :: Y))[X.length]? = some (a, o) := by
    rw [List.getElem?_append_right (Nat.le_refl _), Nat.sub_self]
    rfl
  have z := D.set (o' := o') X.length h
  have e : (X ++ ((a, o) :: Y)).set X.length (a, o') = X ++ ((a, o') :: Y) := by
    rw [List.set_append_right _ _ (Nat.le_refl _), Nat.sub_self]
    rfl
  rw [e] at z
  exact z
theorem DrL.get2 {H : Hp} {d a : Addr} {X Y : List (Addr × HO)} {o : HO} (D : DrL H d (X ++ ((a, o) :: Y))) : H a = some o := D.get X.length (by
  rw [List.getElem?_append_right (Nat.le_refl _), Nat.sub_self]
  rfl)
def sp_law_same (K : PySem.W.Frag) : Sp := fun vs H Q _ => ∃ (d : Addr) (L : List (Addr × HO)) (code sv : V) (rgs : List Rg) (rows : List Row) (P : Nat → Mb) (t : Sett) (n : Nat), vs = [.ref d, code, sv, .int (n : Int)] ∧ DrL H d L ∧ Im H code (codeD rgs rows) ∧ RgsOk rgs ∧ CodeOk rows ∧ Jd rgs rows P ∧ Im H sv t.d ∧ SettOk t ∧ n ≤ 2500 ∧
  ∀ H', KT H H' → DrL H' d L → Q (.bl true) H'
theorem sc_law_same : FnScope ["draws", "code", "settings", "steps", "choices", "shown", "contents"] ["draws", "code", "settings", "steps"] (defScope (topS 69)) := ⟨rfl, rfl, rfl, by decide +kernel, rfl, by decide +kernel, by decide +kernel⟩
theorem ok_law_same (T : Txt fa fn K mg (XOk cs xcs K w)) : Dn P w K mg base CX0 11 "_law_same" ["draws", "code", "settings", "steps"] (sp_law_same K) := by
  refine mk_dn (d := dOf "_law_same" 69) T 49 49 rfl rfl rfl rfl rfl sc_law_same (by walk_at "len") (fun _ _ _ _ _ _ us hl => match us, hl with | [_, _, _, _], _ => rfl) (fun cdv A outer s H vs Q E hr h => ⟨_, (pss_cons (ps_set (i := 4) sc_law_same.nd rfl (.inl rfl) (pe_callD (K := K) rfl (ok_law_choices T) (hr.mono (by decide)) rfl pass0 (pa_cons (pv 0) (pa_cons (pv 1) pa_nil))))
      (pss_cons (ps_setLc (i := 5) rfl sc_law_same.nd rfl rfl (sw_true rfl rfl rfl (by decide +kernel)) (pi_seq (K := K) rfl (pv 4)) (blkOk_by (own := [("contents", 6)]) (N := ["draws", "code", "settings", "steps", "choices", "shown", "contents"]) (sc := defScope (topS 69)) (by decide +kernel)) (fun _ _ _ _ _ => (pg_name (i := 6) sc_law_same.nd rfl (.inl rfl))) (fun _ _ _ _ _ => pts_nil) (fun _ _ _ _ _ => (pe_callD (K := K) rfl (ok_law_shown T) (hr.mono (by decide)) rfl pass0 (pa_cons (pv 1) (pa_cons (pe_callD (K := K) rfl (ok_run_machine T) (hr.mono (by decide)) rfl pass0 (pa_cons (pv 1) (pa_cons (pv 6) (pa_cons (pv 2) (pa_cons (pv 3) pa_nil))))) pa_nil)))))
      (pss_cons (ps_if (PW.pt (pw_or (pt_cmpR (op_neU (K := K) rfl hr.units) (pe_ixU (K := K) rfl (hu_of hr) (pv 5) pe_int) (pe_ixU (K := K) rfl (hu_of hr) (pv 5) pe_int) (nomark _)) (pw_or1 (pt_cmpR (op_neU (K := K) rfl hr.units) (pe_ixU (K := K) rfl (hu_of hr) (pv 5) pe_int) (pe_ixU (K := K) rfl (hu_of hr) (pv 5) pe_int) (nomark _))))) (pss_one (ps_ret pe_bl)) pss_nil)
      (pss_one (ps_ret pe_bl))))), ?_⟩)
  obtain ⟨d, L, code, sv, rgs, rows, P, t, n, rfl, D, ic, ro, co, J, is, so, hn, hQ⟩ := h
  have hz := so.dc.z0
  walk_at "go"
  refine ⟨d, L, code, rgs, rows, rfl, D, ic, ro, fun H1 ch cu cs os1 os2 k1 D1 imc mc ch1 ch2 => ?_⟩
  have ic1 := D.im k1 ic
  have is1 := D.im k1 is
  have kt1 : KT H H1 := KT.keep k1 D.noTup
  have hch1 : H1 ch = some (.lst cu) := D1.get2 (X := L) (Y := [])
  have cul := imc.length
  have cul : cu.length = 3 := cul
  have pick : ∀ (i : Nat) (y : V), cu[i]? = some y → ∃ os, MemOk rgs os ∧ Im H1 y (contD os) ∧ shD rgs (machR t rows rgs os n) = shD rgs (machR t rows rgs cs n) := fun i y hy => by
    obtain ⟨u0, ur, rfl, i0, h⟩ := imc.cons_inv
    obtain ⟨u1, ur2, rfl, i1, h⟩ := h.cons_inv
    obtain ⟨u2, ur3, rfl, i2, h⟩ := h.cons_inv
    have e := h.nil_inv
    subst e
    match i, hy with
    | 0, hy => cases hy; exact ⟨cs, mc, i0, rfl⟩
    | 1, hy => cases hy; exact ⟨os1, ch1.m, i1, (shD_eq J hz mc.l ch1.m.l ch1.a).symm⟩
    | 2, hy => cases hy; exact ⟨os2, ch2.m, i2, (shD_eq J hz mc.l ch2.m.l ch2.a).symm⟩
    | i + 3, hy => simp at hy
  walk_at "go"
  refine l_list (xs := cu) (fun Dl i H' => ∃ (us : List V) (ps : List (Addr × List V)), KT H1 H' ∧ DrL H' d (L ++ ((ch, .lst cu) :: ((Dl, .lst us) :: pbs ps))) ∧ us.length = i ∧ ps.length = i ∧ ∀ (m : Nat) (x : V) (p : Addr × List V), us[m]? = some x → ps[m]? = some p → ∃ q, ShO H' x p.1 p.2 rgs q ∧ shD rgs q = shD rgs (machR t rows rgs cs n)) ?_ ?_ ?_ ?_
  · intro Dl hD
    refine ⟨[], [], KT.new hD, ?_, rfl, rfl, fun m x p h => by simp at h⟩
    have := D1.new (o := .lst []) hD
    rw [List.append_assoc] at this
    exact this
  · rintro Dl hD i H' _ ⟨us, ps, _, E, _⟩
    exact SqL.of E.get2
  · rintro Dl hD i y H2 hy ⟨us, ps, kt, E, ul, pl, hs⟩
    obtain ⟨os, mo, iy, esh⟩ := pick i y hy
    have hil := (List.getElem?_eq_some_iff.mp hy).1
    obtain ⟨Y, MY, hY⟩ := E.y
    walk_at "go"
    refine ⟨code, y, sv, n, t, rows, rgs, os, Y, rfl, MY, ic1.kt kt, iy.kt kt, mo, co, is1.kt kt, so, hn, fun H3 v k3 M3 iv _ _ => ?_⟩
    have E3 := hY H3 M3
    walk_at "go"
    refine ⟨code, v, rgs, rows, machR t rows rgs os n, rfl, (ic1.kt kt).kt k3, iv, ro.u, fun H4 x pl4 us4 s4 hpl0 hpl4 sh4 => ?_⟩
    have E4 := E3.same s4
    have hDl4 : H4 Dl = some (.lst us) := DrL.get2 (X := L ++ [(ch, .lst cu)]) (Y := pbs ps) (by rw [List.append_assoc]; exact E4)
    have E5 : DrL H4 d ((L ++ ((ch, .lst cu) :: ((Dl, .lst us) :: pbs ps))) ++ [(pl4, .lst us4)]) := by
      obtain ⟨r, m, sd, row, M, ok, hn⟩ := E3.ex
      exact ⟨r, m, sd, row, has_add M s4 hpl0 hpl4, ok, hn⟩
    have E5 : DrL H4 d ((L ++ [(ch, .lst cu)]) ++ ((Dl, .lst us) :: pbs (ps ++ [(pl4, us4)]))) := by
      rw [pbs_snoc]
      simpa [List.append_assoc] using E5
    have E6 := E5.put2 (o' := .lst (us ++ [x]))
    have kt4 : KT H4 (upd H4 Dl (.lst (us ++ [x]))) := KT.set hDl4 (fun _ z => nomatch z)
    refine ⟨us, hDl4, szl (by omega), us ++ [x], ps ++ [(pl4, us4)], (((kt.trans k3).trans (KT.of s4)).trans kt4), by simpa [List.append_assoc] using E6, by rw [List.length_append, ul]; rfl, by rw [List.length_append, pl]; rfl, fun m z p hz hp => ?_⟩
    rcases at_snoc hz with ⟨c, h⟩ | ⟨e, e2⟩
    · rcases at_snoc hp with ⟨_, h2⟩ | ⟨e, _⟩
      · obtain ⟨q, sh, eq⟩ := hs m z p h h2
        exact ⟨q, ((sh.kt k3).kt (KT.of s4)).kt kt4, eq⟩
      · omega
    · rcases at_snoc hp with ⟨c, _⟩ | ⟨_, e3⟩
      · omega
      · rw [e2, e3]
        exact ⟨_, sh4.kt kt4, esh⟩
  · rintro Dl hD H2 ⟨us, ps, kt, E, ul, pl, hs⟩
    rw [cul] at ul pl
    obtain ⟨x0, x1, x2, rfl⟩ : ∃ a b c, us = [a, b, c] := by
      match us, ul with
      | [a, b, c], _ => exact ⟨a, b, c, rfl⟩
    obtain ⟨p0, p1, p2, rfl⟩ : ∃ a b c, ps = [a, b, c] := by
      match ps, pl with
      | [a, b, c], _ => exact ⟨a, b, c, rfl⟩
    have hDl : H2 Dl = some (.lst [x0, x1, x2]) := DrL.get2 (X := L ++ [(ch, .lst cu)]) (Y := pbs [p0, p1, p2]) (by rw [List.append_assoc]; exact E)
    have g0 : H2 p0.1 = some (.lst p0.2) := DrL.get2 (X := L ++ [(ch, .lst cu), (Dl, .lst [x0, x1, x2])]) (Y := pbs [p1, p2]) (by simpa [List.append_assoc, pbs] using E)
    have g1 : H2 p1.1 = some (.lst p1.2) := DrL.get2 (X := L ++ [(ch, .lst cu), (Dl, .lst [x0, x1, x2]), (p0.1, .lst p0.2)]) (Y := pbs [p2]) (by simpa [List.append_assoc, pbs] using E)
    have g2 : H2 p2.1 = some (.lst p2.2) := DrL.get2 (X := L ++ [(ch, .lst cu), (Dl, .lst [x0, x1, x2]), (p0.1, .lst p0.2), (p1.1, .lst p1.2)]) (Y := []) (by simpa [List.append_assoc, pbs] using E)
    obtain ⟨q0, sh0, e0⟩ := hs 0 x0 p0 rfl rfl
    obtain ⟨q1, sh1, e1⟩ := hs 1 x1 p1 rfl rfl
    obtain ⟨q2, sh2, e2⟩ := hs 2 x2 p2 rfl rfl
    have d0 := sh0.dp (K := K) g0
    have d1 := sh1.dp (K := K) g1
    have d2 := sh2.dp (K := K) g2
    rw [e0] at d0
    rw [e1] at d1
    rw [e2] at d2
    have EL : DrL H2 d L := E.sub (List.sublist_append_left _ _)
    have ly := shD_lay (rgs := rgs) (p := machR t rows rgs cs n)
    walk_at "go"
    refine g_ixL (SqL.of hDl) (n := 1) rfl rfl ?_
    walk_at "go"
    refine g_ixL (SqL.of hDl) (n := 0) rfl rfl ?_
    refine g_neD d1 d0 (ly.shaped (by decide)) (ly.shaped (by decide)) ?_
    rw [ly.refl]
    walk_at "go"
    refine g_ixL (SqL.of hDl) (n := 2) rfl rfl ?_
    walk_at "go"
    refine g_ixL (SqL.of hDl) (n := 0) rfl rfl ?_
    refine g_neD d2 d0 (ly.shaped (by decide)) (ly.shaped (by decide)) ?_
    rw [ly.refl]
    walk_at "go"
    exact hQ _ (kt1.trans kt) EL
theorem grp_one {E : Nat → Nat → Bool} (h : ∀ i j, E i j = true) : ∀ n, (grpE E n).length ≤ 1 := fun n => by
  unfold grpE
  rw [List.length_map]
  have key : ∀ n, leads E (n + 1) = [0] := fun n => by
    induction n with
    | zero => rw [leads_succ]; rfl
    | succ n ih =>
      have : ldE E (n + 1) = false := by
        unfold ldE
        rw [List.all_eq_false]
        exact ⟨0, by simp, by rw [h]; decide⟩
      rw [leads_succ, ih, this]
      rfl
  cases n with
  | zero => exact Nat.zero_le _
  | succ n => rw [key]; exact Nat.le_refl _
theorem all_alike {t : Sett} {rows : List Row} {rgs : List Rg} {P : Nat → Mb} {cs : List (List Int)} {oss : List (List (List Int))} {n : Nat} (J : Jd rgs rows P) (hz : 0 < t.dc.Z) (mc : MemOk rgs cs) (h : ∀ os ∈ oss, MemOk rgs os) : decide (((grpE (eqT "all" (trsF t rows rgs cs n oss)) oss.length).length : Int) ≤ 1) = true := by
  have tr : ∀ os ∈ oss, (machR t rows rgs (mixL rgs cs os) n).2.2.tr = (machR t rows rgs cs n).2.2.tr := fun os hos => by
    have mx := mix_ok mc (h os hos)
    refine ((shown_eq (t := t) (n := n) J hz mc.l mx.l (fun i g hg hp => ?_)).1).symm
    have hi := (List.getElem?_eq_some_iff.mp hg).1
    have ne : ¬ g.l = "secret" := by rw [hp]; decide +kernel
    unfold mixL
    rw [List.getElem?_map, List.getElem?_range hi]
    show _ = some (mxAt rgs cs os i)
    rw [mx_at hg, if_neg ne]
    exact gAtL (by have := mc.l; omega)
  have all : ∀ i, (trsF t rows rgs cs n oss).getD i [] = if i < oss.length then (machR t rows rgs cs n).2.2.tr else [] := fun i => by
    by_cases c : i < oss.length
    · rw [if_pos c, trs_at (List.getElem?_eq_getElem c)]
      exact tr _ (List.getElem_mem c)
    · rw [if_neg c, List.getD_eq_getElem?_getD, List.getElem?_eq_none (by unfold trsF; rw [List.length_map]; omega)]
      rfl
  rw [decide_eq_true_eq]
  have key : (grpE (eqT "all" (trsF t rows rgs cs n oss)) oss.length).length ≤ 1 := by
    have e : grpE (eqT "all" (trsF t rows rgs cs n oss)) oss.length = grpE (fun _ _ => true) oss.length := by
      have hE : ∀ i j, i < oss.length → j < oss.length → eqT "all" (trsF t rows rgs cs n oss) i j = true := fun i j hi hj => by
        simp only [eqT, decide_eq_true_eq]
        rw [all i, all j, if_pos hi, if_pos hj]
      unfold grpE leads
      have l1 : ∀ l ∈ List.range oss.length, ldE (eqT "all" (trsF t rows rgs cs n oss)) l = ldE (fun _ _ => true) l := fun l hl => by
        have hl := List.mem_range.mp hl
        unfold ldE
        rw [Bool.eq_iff_iff, List.all_eq_true, List.all_eq_true]
        constructor <;> intro hh j hj
        · have := hh j hj
          rw [hE j l (by have := List.mem_range.mp hj; omega) hl] at this
          exact this
        · have := hh j hj
          rw [hE j l (by have := List.mem_range.mp hj; omega) hl]
          exact this
      rw [List.filter_congr l1]
      refine List.map_congr_left fun l hl => ?_
      have hl := List.mem_range.mp (List.mem_filter.mp hl).1
      unfold clsE
      refine List.filter_congr fun j hj => ?_
      exact hE j l (List.mem_range.mp hj) hl
    rw [e]
    exact grp_one (fun _ _ => rfl) _
  omega
theorem due_none_inv81 {rgs : List Rg} {rows : List Row} {P : Nat → Mb} : ∀ {n : Nat}, dueD rgs rows P n = none → ∀ r row, r < n → rows[r]? = some row → refW rgs row (P r) = none
  | 0, _, r, row, hr, _ => absurd hr (by omega)
  | n + 1, h, r, row, hr, hrow => by
    rw [due_succ] at h
    rw [Option.or_eq_none_iff] at h
    by_cases c : r = n
    · subst c
      have h2 := h.2
      rw [hrow] at h2
      cases e : refW rgs row (P r) with
      | none => rfl
      | some w =>
        exfalso
        have h2 : (refW rgs row (P r)).map (fun w => (r, w)) = none := h2
        rw [e] at h2
        cases h2
    · exact due_none_inv81 h.1 r row (by omega) hrow
/-- code that the judge takes, whatever made it so -/
theorem jd_of {rgs : List Rg} {rows : List Row} {P : Nat → Mb} (co : CodeOk rows) (mk : ∀ (r : Nat) (row : Row), rows[r]? = some row → mskOk row) (d : Dsj rgs) (g : Grt rgs rows P) (h : dueD rgs rows P rows.length = none) : Jd rgs rows P :=
  ⟨g.1, fun r row hr => due_none_inv81 h r row (List.getElem?_eq_some_iff.mp hr).1 hr, co.r, mk, d⟩
def sp_law_end (K : PySem.W.Frag) : Sp := fun vs H Q _ => ∃ (code : V) (rgs : List Rg) (rows : List Row), vs = [code] ∧ Im H code (codeD rgs rows) ∧ RgsOk rgs ∧ ∀ H' (n : Int), Same H H' → 0 ≤ n → n ≤ 1000 → Q (.int n) H'
theorem sum_rgs : ∀ (rgs : List Rg) (m : Nat), (∀ g ∈ rgs, g.n ≤ 30) → rgs.length ≤ m → 0 ≤ (rgs.map fun g => (g.n : Int)).sum ∧ (rgs.map fun g => (g.n : Int)).sum ≤ 30 * m
  | [], m, _, _ => ⟨Int.le_refl _, by show (0 : Int) ≤ _; omega⟩
  | g :: rgs, m, h, hl => by
    have hg := h g List.mem_cons_self
    simp only [List.length_cons] at hl
    obtain ⟨i1, i2⟩ := sum_rgs rgs (m - 1) (fun x hx => h x (List.mem_cons_of_mem _ hx)) (by omega)
    rw [List.map_cons, List.sum_cons]
    constructor <;> omega
theorem sc_law_end : FnScope ["code", "base", "label", "size"] ["code"] (defScope (topS 59)) := ⟨rfl, rfl, rfl, by decide +kernel, rfl, by decide +kernel, by decide +kernel⟩
theorem ok_law_end (T : Txt fa fn K mg (XOk cs xcs K w)) : Dn P w K mg base CX0 1 "_law_end" ["code"] (sp_law_end K) := by
  refine mk_dn (d := dOf "_law_end" 59) T 39 39 rfl rfl rfl rfl rfl sc_law_end (by walk_at "len") (fun _ _ _ _ _ _ us hl => match us, hl with | [_], _ => rfl) (fun cdv A outer s H vs Q E hr h => ⟨_, (pss_one (ps_ret (pe_callB (c_sumK (K := K) rfl rfl) rfl (T.free 135 rfl) (by decide +kernel) (pa_cons (pe_lc rfl sc_law_end.nd (pi_seq (K := K) rfl (pe_ixU (K := K) rfl (hu_of hr) (pv 0) pe_int)) (blkOk_by (own := [("base", 1), ("size", 3), ("label", 2)]) (N := ["code", "base", "label", "size"]) (sc := defScope (topS 59)) (by decide +kernel)) (fun _ _ _ _ _ => (pg_tupU (K := K) (n := 3) rfl rfl (pgs_cons (pg_name (i := 1) sc_law_end.nd rfl (.inl rfl) (.inr rfl)) (pgs_cons (pg_name (i := 3) sc_law_end.nd rfl (.inl rfl) (.inr rfl)) (pgs_cons (pg_name (i := 2) sc_law_end.nd rfl (.inl rfl) (.inr rfl)) pgs_nil))))) (fun _ _ _ _ _ => pts_nil) (fun _ _ _ _ _ => (pv 3))) pa_nil)))), ?_⟩)
  obtain ⟨code, rgs, rows, rfl, ic, ro, hQ⟩ := h
  walk_at "go"
  refine m_ix ic (n := 0) rfl rfl (fun v hv => ?_)
  refine m_seq hv (fun a xs e ha his => ?_)
  subst e
  have hu := ro.u
  refine l_map (f := fun d => match d with | .tuple [_, .int n, _] => .int n | _ => .none) ha his (by rw [List.length_map]; omega) (fun i e y H1 R hi s1 iy hR => ?_) ?_ (fun D H1 us s1 hD im => ?_)
  · rw [List.getElem?_map] at hi
    obtain ⟨g, hg, rfl⟩ := Option.map_eq_some_iff.mp hi
    obtain ⟨t, rfl, ht⟩ := im3v iy
    walk_at "go"
    exact hR _ _ (Same.refl H1) (.int _)
  · intro y σ1 H1 R R' hh h
    obtain ⟨a, xs, e, h1, h2, h3⟩ := h
    refine ⟨a, xs, e, h1, h2, ?_⟩
    obtain ⟨v1, r1, e1, h3⟩ := h3
    refine ⟨v1, r1, e1, ?_⟩
    obtain ⟨v2, r2, e2, h3⟩ := h3
    refine ⟨v2, r2, e2, ?_⟩
    obtain ⟨v3, r3, e3, h3⟩ := h3
    refine ⟨v3, r3, e3, h3.1, hh _ _ h3.2⟩
  · walk_at "go"
    rw [List.map_map] at im
    have e : us = (rgs.map fun g => (g.n : Int)).map V.int := ims_int_inv (by
      rw [List.map_map]
      exact im)
    subst e
    refine g_sum (SqL.of hD) ?_
    obtain ⟨i1, i2⟩ := sum_rgs rgs 4 ro.n ro.u
    exact hQ _ _ s1 i1 (by omega)


set_option maxHeartbeats 40000000
theorem set_take {α : Type} : ∀ {l : List α} {i : Nat} {x : α}, i < l.length → l.set i x = l.take i ++ [x] ++ l.drop (i + 1)
  | [], i, x, h => absurd h (Nat.not_lt_zero _)
  | y :: l, 0, x, _ => rfl
  | y :: l, i + 1, x, h => by
    show y :: l.set i x = y :: (l.take i ++ [x] ++ l.drop (i + 1))
    rw [set_take (by simpa using h)]
def sp_law (K : PySem.W.Frag) : Sp := fun vs H Q _ => ∃ (a : Addr) (ns : List Int), vs = [.ref a] ∧ SqL K H a (ns.map V.int) ∧ ns.length ≤ 63 ∧ ∀ H', Q (.bl true) H'
theorem sc_law : FnScope ["script", "draws", "code", "settings", "steps", "choices", "turn", "at", "row"] ["script"] (defScope (topS 70)) := ⟨rfl, rfl, rfl, by decide +kernel, rfl, by decide +kernel, by decide +kernel⟩
theorem ok_law (T : Txt fa fn K mg (XOk cs xcs K w)) : Dn P w K mg base CX0 13 "law" ["script"] (sp_law K) := by
  refine mk_dn (d := dOf "law" 70) T 50 50 rfl rfl rfl rfl rfl sc_law (by walk_at "len") (fun _ _ _ _ _ _ us hl => match us, hl with | [_], _ => rfl) (fun cdv A outer s H vs Q E hr h => ⟨_, (pss_cons (ps_set (i := 1) sc_law.nd rfl (.inl rfl) (pe_callD (K := K) rfl (ok_law_reader T) (hr.mono (by decide)) rfl pass0 (pa_cons (pv 0) pa_nil)))
      (pss_cons (ps_set (i := 2) sc_law.nd rfl (.inl rfl) (pe_callD (K := K) rfl (ok_law_kept T) (hr.mono (by decide)) rfl pass0 (pa_cons (pv 1) pa_nil)))
      (pss_cons (ps_set (i := 3) sc_law.nd rfl (.inl rfl) (pe_callD (K := K) rfl (ok_law_settings T) (hr.mono (by decide)) rfl pass0 (pa_cons (pv 1) (pa_cons (pe_callB (c_len (K := K) rfl) rfl (T.free 128 rfl) (by decide +kernel) (pa_cons (pe_ixU (K := K) rfl (hu_of hr) (pv 2) pe_int) pa_nil)) (pa_cons (pe_callD (K := K) rfl (ok_law_end T) (hr.mono (by decide)) rfl pass0 (pa_cons (pv 2) pa_nil)) (pa_cons pe_int pa_nil))))))
      (pss_cons (ps_set (i := 4) sc_law.nd rfl (.inl rfl) (pe_ixU (K := K) rfl (hu_of hr) (pe_lst (pa_cons (pe_callD (K := K) rfl (ok_law_next T) (hr.mono (by decide)) rfl pass0 (pa_cons (pv 1) (pa_cons pe_int pa_nil))) (pa_cons pe_int pa_nil))) (pe_callD (K := K) rfl (ok_law_next T) (hr.mono (by decide)) rfl pass0 (pa_cons (pv 1) (pa_cons pe_int pa_nil)))))
      (pss_cons (ps_if (PW.pt (pw_or (pt_cmpR op_notBl (pe_callD (K := K) rfl (ok_taken T) (hr.mono (by decide)) rfl pass0 (pa_cons (pv 2) pa_nil)) pe_bl (nomark _)) (pw_or1 (pt_not (pt_tru (K := K) rfl (pe_callD (K := K) rfl (ok_law_same T) (hr.mono (by decide)) rfl pass0 (pa_cons (pv 1) (pa_cons (pv 2) (pa_cons (pv 3) (pa_cons (pv 4) pa_nil)))))))))) (pss_one (ps_ret pe_bl)) pss_nil)
      (pss_cons (ps_set (i := 5) sc_law.nd rfl (.inl rfl) (pe_callD (K := K) rfl (ok_law_choices T) (hr.mono (by decide)) rfl pass0 (pa_cons (pv 1) (pa_cons (pv 2) pa_nil))))
      (pss_cons (ps_if (pt_cmpR op_notBl (pe_callD (K := K) rfl (ok_learns_nothing T) (hr.mono (by decide)) rfl pass0 (pa_cons (pv 2) (pa_cons (pe_ixU (K := K) rfl (hu_of hr) (pv 5) pe_int) (pa_cons (pe_callTy (c_tuple (K := K) rfl) rfl (T.free 136 rfl) (by decide +kernel) (pa_cons (pv 5) pa_nil)) (pa_cons (pv 3) (pa_cons (pv 4) pa_nil)))))) pe_bl (nomark _)) (pss_one (ps_ret pe_bl)) pss_nil)
      (pss_cons (ps_for PassesOwn.never rfl (pi_r1 rfl (T.free 132 rfl) (pa_cons (pe_callD (K := K) rfl (ok_law_next T) (hr.mono (by decide)) rfl pass0 (pa_cons (pv 1) (pa_cons pe_int pa_nil))) pa_nil)) (pg_name (i := 6) sc_law.nd rfl (.inl rfl)) (pss_cons (ps_set (i := 7) sc_law.nd rfl (.inl rfl) (pe_callD (K := K) rfl (ok_law_next T) (hr.mono (by decide)) rfl pass0 (pa_cons (pv 1) (pa_cons (pe_op op_sub (pe_callB (c_len (K := K) rfl) rfl (T.free 128 rfl) (by decide +kernel) (pa_cons (pe_ixU (K := K) rfl (hu_of hr) (pv 2) pe_int) pa_nil)) pe_int) pa_nil))))
      (pss_cons (ps_set (i := 8) sc_law.nd rfl (.inl rfl) (pe_callD (K := K) rfl (ok_law_row T) (hr.mono (by decide)) rfl pass0 (pa_cons (pv 1) (pa_cons (pv 7) (pa_cons (pe_callB (c_len (K := K) rfl) rfl (T.free 128 rfl) (by decide +kernel) (pa_cons (pe_ixU (K := K) rfl (hu_of hr) (pv 2) pe_int) pa_nil)) (pa_cons (pe_ixU (K := K) rfl (hu_of hr) (pv 2) pe_int) pa_nil))))))
      (pss_cons (ps_set (i := 2) sc_law.nd rfl (.inl rfl) (pe_tup (pa_cons (pe_ixU (K := K) rfl (hu_of hr) (pv 2) pe_int) (pa_cons (pe_op (op_addU (K := K) rfl) (pe_op (op_addU (K := K) rfl) (pe_slice (sl_U (K := K) rfl) (pe_ixU (K := K) rfl (hu_of hr) (pv 2) pe_int) po_none (po_some (pv 7))) (pe_tup (pa_cons (pv 8) pa_nil))) (pe_slice (sl_U (K := K) rfl) (pe_ixU (K := K) rfl (hu_of hr) (pv 2) pe_int) (po_some (pe_op (op_addU (K := K) rfl) (pv 7) pe_int)) po_none)) pa_nil))))
      (pss_one (ps_if (PW.pt (pw_and (pt_tru (K := K) rfl (pe_callD (K := K) rfl (ok_taken T) (hr.mono (by decide)) rfl pass0 (pa_cons (pv 2) pa_nil))) (pw_and1 (pt_not (pt_tru (K := K) rfl (pe_callD (K := K) rfl (ok_law_same T) (hr.mono (by decide)) rfl pass0 (pa_cons (pv 1) (pa_cons (pv 2) (pa_cons (pv 3) (pa_cons (pv 4) pa_nil)))))))))) (pss_one (ps_ret pe_bl)) pss_nil))))))
      (pss_one (ps_ret pe_bl)))))))))), ?_⟩)
  obtain ⟨a, ns, rfl, hS, hlen, hQ⟩ := h
  walk_at "go"
  refine use_readerD hS hlen (fun H1 d s1 hd D1 => ?_)
  walk_at "go"
  refine ⟨d, rfl, D1, fun H2 code rgs rows P k2 D2 ic ro co r2 r60 J => ?_⟩
  walk_at "go"
  refine m_ix ic (n := 1) rfl rfl (fun v hv => ?_)
  walk_at "go"
  refine m_len hv ?_
  rw [List.length_map]
  walk_at "go"
  refine ⟨code, rgs, rows, rfl, ic, ro, fun H3 e3 s3 e30 e31 => ?_⟩
  have D3 := D2.same s3
  have ic3 := ic.same s3
  walk_at "go"
  refine ⟨d, [], rows.length, e3, 30, rfl, D3, by omega, by omega, e30, e31, by decide, by decide, fun H4 sv t k4 D4 is se => ?_⟩
  have ic4 := D3.im k4 ic3
  have so := se.ok
  have hz := so.dc.z0
  walk_at "go"
  refine use_nx D4 (by decide) (fun H5 v5 k5 D5 h50 h51 => ?_)
  walk_at "go"
  refine use_pk D5 rfl rfl (by simp) (by simp) (fun H6 v k6 D6 hv6 => ?_)
  obtain ⟨n, rfl, hn⟩ : ∃ n : Nat, v = .int (n : Int) ∧ n ≤ 140 := by
    simp only [List.mem_cons, List.not_mem_nil, or_false] at hv6
    rcases hv6 with rfl | rfl
    · exact ⟨v5.toNat, by rw [Int.toNat_of_nonneg h50], by omega⟩
    · exact ⟨140, rfl, by decide⟩
  have ic6 := D5.im k6 (D4.im k5 ic4)
  have is6 := D5.im k6 (D4.im k5 is)
  clear ic ic3 ic4 is hv D1 D2 D3 D4 D5
  walk_at "go"
  refine ⟨code, rgs, rows, rfl, ic6, co.jo, fun H7 P7 s7 hP7 => ?_⟩
  have hd0 : dueD rgs rows P7 rows.length = none := due_none fun r row hr hrow => by
    have h1 := J.n r row hrow
    have up : ∀ x, x < 16 → P r x = true → P7 r x = true := fun x hx hp => hP7.2 P J.h r x hr hx hp
    have ko := J.k r row hrow
    have sp : ∀ {a : Nat} {base mask : Int} {st : Option Nat}, a < 16 → (∀ b, st = some b → b < 16) → spanW rgs (P r) a base mask st = none → spanW rgs (P7 r) a base mask st = none := fun {a base mask st} ha hb h => by
      obtain ⟨pa, g, hg, hst⟩ := span_none h
      unfold spanW
      rw [up a ha pa, if_pos rfl, hg]
      cases st with
      | none => rfl
      | some b =>
        show (if P7 r b = true then (none : Option Str) else if g.l = "public" then some "store" else none) = none
        by_cases c : g.l = "public"
        · rw [up b (hb b rfl) (hst b rfl c), if_pos rfl]
        · rw [if_neg c]
          split <;> rfl
    have one : ∀ {a : Nat} {w : Str}, a < 16 → (if P r a = true then (none : Option Str) else some w) = none → (if P7 r a = true then (none : Option Str) else some w) = none := fun ha h => by
      split at h
      · rw [up _ ha (by assumption), if_pos rfl]
      · cases h
    cases row with
    | load d x base mask => exact sp (base := base) (mask := mask) (st := none) ko.2.1 (fun b hb => by cases hb) h1
    | store x base mask y => exact sp (base := base) (mask := mask) (st := some y) ko.1 (fun b hb => by cases hb; exact ko.2.1) h1
    | out x => exact one ko.1 h1
    | branch p x => exact one ko.1 h1
    | op s d x y =>
      have dm : (if P r x = true then (if P r y = true then (none : Option Str) else some "cost") else some "cost") = none → (if P7 r x = true then (if P7 r y = true then (none : Option Str) else some "cost") else some "cost") = none := fun h => by
        split at h
        · split at h
          · rw [up x ko.2.1 (by assumption), if_pos rfl, up y ko.2.2.1 (by assumption), if_pos rfl]
          · cases h
        · cases h
      cases s with
      | div => exact dm h1
      | mod => exact dm h1
      | _ => rfl
    | _ => rfl
  rw [hd0, show (none : Option (Nat × Str)).isNone = true from rfl]
  have D7 := D6.same s7
  walk_at "go"
  rw [decide_eq_true (rfl : true = true)]
  walk_at "go"
  refine ⟨d, [], code, sv, rgs, rows, P, t, n, rfl, D7, ic6.same s7, ro, co, J, is6.same s7, so, by omega, fun H8 k8 D8 => ?_⟩
  have ic8 := (ic6.same s7).kt k8
  have is8 := (is6.same s7).kt k8
  walk_at "go"
  refine ⟨d, [], code, rgs, rows, rfl, D8, ic8, ro, fun H9 ch cu cs os1 os2 k9 D9 imc mc ch1 ch2 => ?_⟩
  have ic9 := D8.im k9 ic8
  have is9 := D8.im k9 is8
  have hch : H9 ch = some (.lst cu) := D9.get 0 rfl
  obtain ⟨c0, cr, rfl, i0, _⟩ := id imc.cons_inv
  walk_at "go"
  refine g_ixL (SqL.of hch) (n := 0) rfl rfl ?_
  walk_at "go"
  refine m_tupleL (SqL.of hch) imc (fun pt H10 s10 _ it => ?_)
  obtain ⟨Y, MY, hY⟩ := (D9.same s10).y
  have mos : ∀ os ∈ [cs, os1, os2], MemOk rgs os := fun os hos => by
    simp only [List.mem_cons, List.not_mem_nil, or_false] at hos
    rcases hos with rfl | rfl | rfl
    · exact mc
    · exact ch1.m
    · exact ch2.m
  walk_at "go"
  refine ⟨code, c0, .ref pt, sv, n, t, rows, rgs, cs, [cs, os1, os2], Y, rfl, MY, ic9.same s10, i0.same s10, it, mos, (show 3 ≤ 5 by decide), mc, co, is9.same s10, so, by omega, fun H11 k11 M11 => ?_⟩
  rw [all_alike J hz mc mos]
  have D11 : DrL H11 d [] := (hY _ M11).sub (List.nil_sublist _)
  have ic11 := (ic9.same s10).kt k11
  have is11 := (is9.same s10).kt k11
  walk_at "go"
  rw [decide_eq_true (rfl : true = true)]
  walk_at "go"
  clear ic6 ic8 ic9 is6 is8 is9 imc i0 it MY hY M11 D6 D7 D8 D9 hd0 hP7
  refine use_nx D11 (by decide) (fun H12 v12 k12 D12 h120 h121 => ?_)
  have ic12 := D11.im k12 ic11
  have is12 := D11.im k12 is11
  walk_at "go"
  refine f_range (fun i σ H' => ∃ (o5 o6 o7 o8 : Option V) (code : V) (rows' : List Row), σ = [some (.ref a), some (.ref d), some code, some sv, some (.int (n : Int)), o5, o6, o7, o8] ∧ DrL H' d [] ∧ Im H' code (codeD rgs rows') ∧ Im H' sv t.d ∧ CodeOk rows' ∧ rows'.length = rows.length ∧ ∀ (r : Nat) (row : Row), rows'[r]? = some row → mskOk row)
    ⟨_, _, _, _, code, rows, rfl, D12, ic12, is12, co, rfl, J.m⟩ ?_ ?_
  · rintro i σ G hi ⟨o5, o6, o7, o8, code, rows', rfl, E, icg, isg, co', len, mk⟩
    walk_at "go"
    refine m_ix icg (n := 1) rfl rfl (fun v hv => ?_)
    walk_at "go"
    refine m_len hv ?_
    rw [List.length_map]
    walk_at "go"
    refine use_nx E (by omega) (fun G2 w k2 E2 h20 h21 => ?_)
    obtain ⟨at_, rfl⟩ : ∃ n : Nat, w = (n : Int) := ⟨w.toNat, by omega⟩
    have hal : at_ + 1 < rows'.length := by omega
    have ic2 := E.im k2 icg
    have is2 := E.im k2 isg
    walk_at "go"
    refine m_ix ic2 (n := 1) rfl rfl (fun v1 hv1 => ?_)
    walk_at "go"
    refine m_len hv1 ?_
    rw [List.length_map]
    walk_at "go"
    refine m_ix ic2 (n := 0) rfl rfl (fun v0 hv0 => ?_)
    walk_at "go"
    refine ⟨d, [], v0, rgs, at_, rows'.length, rfl, E2, hv0, ro, hal, fun G3 rv r k3 E3 ir rk rm => ?_⟩
    have ic3 := E2.im k3 ic2
    have is3 := E2.im k3 is2
    walk_at "go"
    refine m_ix ic3 (n := 0) rfl rfl (fun v3 hv3 => ?_)
    walk_at "go"
    refine m_ix ic3 (n := 1) rfl rfl (fun v4 hv4 => ?_)
    walk_at "go"
    refine m_sl hv4 (fun p5 G5 s5 i5 => ?_)
    rw [cutD_to, ← List.map_take] at i5
    walk_at "go"
    refine m_new (.cons (ir.same s5) .nil) (by show 1 ≤ 100000; decide) (fun p6 G6 s6 _ i6 => ?_)
    have cu := co'.u
    walk_at "go"
    refine m_cat (i5.same s6) i6 (by rw [List.length_map, List.length_take]; show _ + 1 ≤ 100000; omega) (fun p7 G7 s7 i7 => ?_)
    have s57 := (s5.trans s6).trans s7
    walk_at "go"
    refine m_ix (ic3.same s57) (n := 1) rfl rfl (fun v8 hv8 => ?_)
    walk_at "go"
    refine m_sl hv8 (fun p9 G9 s9 i9 => ?_)
    rw [show ((at_ : Int) + 1) = ((at_ + 1 : Nat) : Int) by omega, cutD_from, ← List.map_drop] at i9
    walk_at "go"
    refine m_cat (i7.same s9) i9 (by simp only [List.length_append, List.length_map, List.length_take, List.length_drop, List.length_cons, List.length_nil]; omega) (fun p10 G10 s10 i10 => ?_)
    have s510 := (s57.trans s9).trans s10
    have i10 : Im G10 (.ref p10) (.tuple ((rows'.set at_ r).map Row.d)) := by
      rw [set_take (by omega), List.map_append, List.map_append]
      exact i10
    walk_at "go"
    refine m_new (.cons (hv3.same s510) (.cons i10 .nil)) (by show 2 ≤ 100000; decide) (fun p11 G11 s11 _ i11 => ?_)
    have s511 := s510.trans s11
    have E11 := E3.same s511
    have is11 := is3.same s511
    have i11 : Im G11 (.ref p11) (codeD rgs (rows'.set at_ r)) := i11
    have len2 : (rows'.set at_ r).length = rows'.length := List.length_set
    have at2 : ∀ (k : Nat) (r' : Row), (rows'.set at_ r)[k]? = some r' → (k = at_ ∧ r' = r) ∨ rows'[k]? = some r' := fun k r' h => by
      rw [List.getElem?_set] at h
      split at h
      · rename_i hk
        rw [if_pos (by omega)] at h
        cases h
        exact .inl ⟨hk.symm, rfl⟩
      · exact .inr h
    have co2 : CodeOk (rows'.set at_ r) := ⟨by rw [len2]; exact co'.l, by rw [len2]; exact co'.u, fun k r' h => by
      rw [len2]
      rcases at2 k r' h with ⟨rfl, rfl⟩ | h
      · exact rk
      · exact co'.r k r' h⟩
    have mk2 : ∀ (k : Nat) (r' : Row), (rows'.set at_ r)[k]? = some r' → mskOk r' := fun k r' h => by
      rcases at2 k r' h with ⟨_, rfl⟩ | h
      · exact rm
      · exact mk k r' h
    generalize hR : rows'.set at_ r = R at i11 co2 mk2 len2
    clear i5 i6 i7 i9 i10 hv hv0 hv1 hv3 hv4 hv8 ic2 ic3 is2 is3 at2 icg isg ir
    walk_at "go"
    refine ⟨.ref p11, rgs, R, rfl, i11, co2.jo, fun G12 P12 s12 hP12 => ?_⟩
    have E12 := E11.same s12
    cases hdu : dueD rgs R P12 R.length with
    | some q =>
      rw [show (some q).isNone = false from rfl]
      walk_at "go"
      exact ⟨_, _, _, _, .ref p11, R, rfl, E12, i11.same s12, is11.same s12, co2, by omega, mk2⟩
    | none =>
      rw [show (none : Option (Nat × Str)).isNone = true from rfl]
      have J2 := jd_of co2 mk2 ro.d hP12 hdu
      walk_at "go"
      refine ⟨d, [], .ref p11, sv, rgs, R, P12, t, n, rfl, E12, i11.same s12, ro, co2, J2, is11.same s12, so, by omega, fun G13 k13 E13 => ?_⟩
      walk_at "go"
      exact ⟨_, _, _, _, .ref p11, R, rfl, E13, (i11.same s12).kt k13, (is11.same s12).kt k13, co2, by omega, mk2⟩
  · rintro σ G ⟨o5, o6, o7, o8, code, rows', rfl, E, icg, isg, co', len, mk⟩
    walk_at "go"
    exact hQ _


theorem facts {P : Program} {w : World} {K : PySem.W.Frag} {h : Heap} {mg : Str → Option Value} {f : Addr} (X : K.In h) (G : h.Ns mainGlobals mg) (hfa : mg ("law" : Str) = some (.ref f)) (c : SaysY fa fn (tabs cs) (fun K => exB cs K && xcs.all (excB K)) w K) :
    ∃ fd : FuncData, (∀ (s : Shared) (v : Value), BindsTo s fd ⟨[v], []⟩ [("script", v)]) ∧ ∀ base : Heap, K.In base → base.Ns mainGlobals mg → FnOk P w K mg base CX0 13 f fd ["script"] (sp_law K) :=
  law_facts (d := dOf "law" 70) X G hfa c.t.d (XOk.ofY c) 50 50 rfl rfl rfl rfl rfl (fun _ _ _ _ _ _ us hl => match us, hl with | [_], _ => rfl) fun _ T => ok_law T
end K81
theorem PySem.Challenge.cw_sameclock_k81_whole_judged_code_looks_th_holds : PySem.Challenge.rw_sameclock_k81_whole_judged_code_looks_th.Holds :=
  K81.fin K81.facts
#print axioms PySem.Challenge.cw_sameclock_k81_whole_judged_code_looks_th_holds

