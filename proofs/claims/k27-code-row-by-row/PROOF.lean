import PyProof.Rows.All
import Wide.All
import OpenK.AllK
import Wide.FinOn
import HandS.ForMost
import HandS.Wide
import HandS.WideMore
import HandS.IsInst
import HandS.Defaults
import HandS.Flow
import HandS.TupAny
import HandS.Conv
import HandS.Exc
import HandS.TupMul
import HandS.Zip
import HandS.Dict
import HandS.TupSets
import HandS.Style
import HandS.Head0
import HandS.Head1
import HandS.Head2
import HandS.HeadEnd
import HandS.HeadHook1
import HandS.HeadHook2
import HandS.HeadHook3
import HandS.HeadHook4
import HandS.More
import PySem.Challenge.RW_sameclock_k27_code_row_by_row
set_option Elab.async false
set_option linter.all false
set_option maxRecDepth 100000
set_option maxHeartbeats 4000000
/-! Own base: a heap told by a list of its objects, frames of calls, joins of ways, whiles by a measure, calls by one structure. -/
namespace G
open PySem PySem.Spec PyProof.Rows L2

/-- the objects one speaks of, each once -/
structure Has (H : Hp) (L : List (Addr × HO)) : Prop where
  nd : (L.map (·.1)).Nodup
  is_ : ∀ p ∈ L, H p.1 = some p.2

section
variable {H H' : Hp} {L : List (Addr × HO)} {a p : Addr} {o o' : HO}
theorem Has.nil : Has H [] := ⟨List.nodup_nil, fun _ h => nomatch h⟩
theorem Has.get (M : Has H L) (i : Nat) (h : L[i]? = some (a, o)) : H a = some o := M.is_ _ (List.mem_of_getElem? h)
theorem Has.one (h : H a = some o) : Has H [(a, o)] := ⟨by simp, fun p hp => by
  rw [List.mem_singleton.mp hp]
  exact h⟩
theorem keep_new (h : H a = some o) (hp : H p = none) : upd H p o' a = some o := by
  rw [upd_ne (ne_of_none h hp)]
  exact h
theorem Has.fresh (M : Has H L) (hp : H p = none) : p ∉ L.map (·.1) := fun h => by
  obtain ⟨q, hq, e⟩ := List.mem_map.mp h
  have := M.is_ q hq
  rw [e, hp] at this
  cases this
theorem Has.new (M : Has H L) (hp : H p = none) : Has (upd H p o) (L ++ [(p, o)]) where
  nd := by
    rw [List.map_append, List.nodup_append]
    refine ⟨M.nd, by simp, fun x hx y hy e => ?_⟩
    simp only [List.map_cons, List.map_nil, List.mem_singleton] at hy
    subst hy
    subst e
    exact M.fresh hp hx
  is_ := fun q hq => by
    rcases List.mem_append.mp hq with h | h
    · exact keep_new (M.is_ q h) hp
    · rw [List.mem_singleton.mp h]
      exact upd_same
theorem nodup_fst {L : List (Addr × HO)} (nd : (L.map (·.1)).Nodup) {i j : Nat} {a : Addr} {x y : HO} (hi : L[i]? = some (a, x)) (hj : L[j]? = some (a, y)) : i = j := by
  have h1 : (L.map (·.1))[i]? = some a := by rw [List.getElem?_map, hi]; rfl
  have h2 : (L.map (·.1))[j]? = some a := by rw [List.getElem?_map, hj]; rfl
  exact nd_ix nd h1 h2
theorem map_fst_set : ∀ {L : List (Addr × HO)} {i : Nat} {o o' : HO} {a : Addr}, L[i]? = some (a, o) → (L.set i (a, o')).map (·.1) = L.map (·.1)
  | [], _, _, _, _, h => by simp at h
  | p :: L, 0, _, _, _, h => by
    simp only [List.getElem?_cons_zero, Option.some.injEq] at h
    subst h
    rfl
  | p :: L, i + 1, o, o', a, h => by
    simp only [List.getElem?_cons_succ] at h
    simp only [List.set_cons_succ, List.map_cons, List.cons.injEq, true_and]
    exact map_fst_set h
/-- the object at place i is another one in H', the others stand -/
theorem Has.put (M : Has H L) (i : Nat) (h : L[i]? = some (a, o)) (k : ∀ b u, H b = some u → b ≠ a → H' b = some u) (e : H' a = some o') : Has H' (L.set i (a, o')) where
  nd := by
    rw [map_fst_set h]
    exact M.nd
  is_ := fun q hq => by
    obtain ⟨j, hj, e2⟩ := List.mem_iff_getElem.mp hq
    have hj' : (L.set i (a, o'))[j]? = some q := by rw [List.getElem?_eq_getElem hj, e2]
    rw [List.getElem?_set] at hj'
    split at hj'
    · split at hj'
      · cases hj'
        exact e
      · cases hj'
    · rename_i hij
      have hm := M.is_ q (List.mem_of_getElem? hj')
      refine k _ _ hm fun ea => hij ?_
      obtain ⟨b, u⟩ := q
      subst ea
      exact nodup_fst M.nd h hj'
theorem Has.set (M : Has H L) (i : Nat) (h : L[i]? = some (a, o)) : Has (upd H a o') (L.set i (a, o')) :=
  M.put i h (fun b u e n => by rw [upd_ne n]; exact e) upd_same
theorem Has.keep (M : Has H L) (k : Same H H') : Has H' L := ⟨M.nd, fun p hp => k _ _ (M.is_ p hp)⟩
theorem Has.sub (M : Has H L) {L' : List (Addr × HO)} (h : L'.Sublist L) : Has H L' := ⟨M.nd.sublist (h.map _), fun p hp => M.is_ p (h.subset hp)⟩
theorem Has.perm (M : Has H L) {L' : List (Addr × HO)} (h : L.Perm L') : Has H L' := ⟨(h.map _).nodup_iff.mp M.nd, fun p hp => M.is_ p (h.mem_iff.mpr hp)⟩
theorem Has.ne (M : Has H L) {b : Addr} {u : HO} (i j : Nat) (hi : L[i]? = some (a, o)) (hj : L[j]? = some (b, u)) (hij : i ≠ j) : a ≠ b := fun e => by
  subst e
  exact hij (nodup_fst M.nd hi hj)
end

/-- all that was tracked stands, but what stands at ms -/
def Keep (ms : List Addr) (H H' : Hp) : Prop := ∀ b o, H b = some o → b ∉ ms → H' b = some o
section
variable {ms : List Addr} {H H1 H2 : Hp} {L : List (Addr × HO)} {a p : Addr} {o o' : HO}
theorem Keep.refl : Keep ms H H := fun _ _ h _ => h
theorem Keep.trans (x : Keep ms H H1) (y : Keep ms H1 H2) : Keep ms H H2 := fun b o h n => y b o (x b o h n) n
theorem Keep.of (x : Same H H1) : Keep ms H H1 := fun b o h _ => x b o h
theorem Keep.same (x : Keep [] H H1) : Same H H1 := fun b o h => x b o h (nomatch ·)
theorem Keep.mono {ns : List Addr} (x : Keep ms H H1) (h : ∀ b ∈ ms, b ∈ ns) : Keep ns H H1 := fun b o e n => x b o e fun z => n (h b z)
theorem Same.new (hp : H p = none) : Same H (upd H p o) := fun b u h => keep_new h hp
theorem Keep.new (hp : H p = none) : Keep ms H (upd H p o) := .of (Same.new hp)
theorem Keep.set (h : a ∈ ms) : Keep ms H (upd H a o) := fun b u e n => by
  rw [upd_ne fun z => n (by rw [z]; exact h)]
  exact e
/-- an object that H does not know is changed -/
theorem Keep.mut (x : Keep ms H H1) (h : H a = none) : Keep ms H (upd H1 a o) := fun b u e n => by
  rw [upd_ne (ne_of_none e h)]
  exact x b u e n
theorem Has.call1 (M : Has H L) (k : Keep [a] H H1) (i : Nat) (h : L[i]? = some (a, o)) (e : H1 a = some o') : Has H1 (L.set i (a, o')) :=
  M.put i h (fun b u q n => k b u q (by simpa using n)) e
theorem Same.back (k : Same H H1) (h : H1 p = none) : H p = none := k.free h
theorem Keep.back (k : Keep ms H H1) (h : H1 p = none) (hm : p ∉ ms) : H p = none := by
  cases e : H p with
  | none => rfl
  | some o =>
    rw [k p o e hm] at h
    cases h
end

/-! ### joins, whiles -/
section
variable {X : Cx} {st : Stmt} {sts : List Stmt} {t : TS}
/-- behind a statement N holds, from which one goes on -/
def tJoin (t : TS) : TS := fun D σ H => ∃ N : L2.St → Hp → Prop, t { D with nx := N } σ H ∧ ∀ σ' H', N σ' H' → D.nx σ' H'
theorem SP.nx {pins : List (Addr × Obj)} {D : Ends} {N : L2.St → Hp → Prop} (h : ∀ σ' H', N σ' H' → D.nx σ' H') {f : PySem.Flow} {s' : Shared} (z : SP X pins { D with nx := N } f s') : SP X pins D f s' := by
  cases f with
  | next =>
    obtain ⟨σ', H', I, q⟩ := z
    exact ⟨σ', H', I, h _ _ q⟩
  | brk => exact z
  | cont => exact z
  | ret u => exact z
theorem ps_join (h : PS X st t) : PS X st (tJoin t) := ⟨fun pins s σ H D I ⟨N, h1, h2⟩ => thn (h.run pins s σ H _ I h1) fun _ _ z => SP.nx h2 z⟩
theorem pss_join (h : PSs X sts t) : PSs X sts (tJoin t) := ⟨fun pins s σ H D I ⟨N, h1, h2⟩ => thn (h.run pins s σ H _ I h1) fun _ _ z => SP.nx h2 z⟩
end

/-! ### the text's facts, defs by name -/
structure Txt (fa : List He.Fa) (fn : List He.DefD) (K : PySem.W.Frag) (mg : Str → Option Value) (ex : Prop := True) : Prop where
  c : He.SaysD fa fn K
  h : ∃ h : Heap, K.In h ∧ h.Ns mainGlobals mg
  m : ex
/-- a def that calls may name -/
structure Dn (P : Program) (w : World) (K : PySem.W.Frag) (mg : Str → Option Value) (base : Heap) (CX : CXT) (k : Nat) (x : Str) (ps : List Str) (sp : Sp) : Prop where
  ex : ∃ (f : Addr) (fd : FuncData), FnOk P w K mg base CX k f fd ps sp ∧ mg x = some (.ref f) ∧ PySem.W.keepIn K (.ref f) = true ∧ Binds K fd ps [] ∧ ∃ oc od osl, K.lookup f = some ⟨oc, od, .func fd, osl⟩
section
variable {fa : List He.Fa} {fn : List He.DefD} {P : Program} {w : World} {K : PySem.W.Frag} {mg : Str → Option Value} {base : Heap} {ex : Prop}
theorem Txt.glo (T : Txt fa fn K mg ex) (j : Nat) {x : Str} (h : fa[j]? = some (.glo x)) : mg x = some (.ref (He.ga K x)) := by
  obtain ⟨_, X, G⟩ := T.h
  exact He.glo_ok X G (T.c.fact j h)
theorem Txt.free (T : Txt fa fn K mg ex) (j : Nat) {x : Str} (h : fa[j]? = some (.free x)) : mg x = none := by
  obtain ⟨_, X, G⟩ := T.h
  exact He.free_ok X G (T.c.fact j h)
theorem Txt.int (T : Txt fa fn K mg ex) (j : Nat) {x : Str} {i : Int} (h : fa[j]? = some (.int x i)) : ∃ t, mg x = some (.int i t) := by
  obtain ⟨_, X, G⟩ := T.h
  exact He.int_ok X G (T.c.fact j h)
theorem Txt.def_ (T : Txt fa fn K mg ex) (i j : Nat) {d : He.DefD} (hd : fn[i]? = some d) (hg : fa[j]? = some (.glo d.at_.1)) (hm : d.at_.2 = none) (h1 : d.dfl = []) (h2 : d.kwd = []) :
    (∃ fd, FunD K d.name d.qual d.params d.body d.scope [] [] (He.ga K d.at_.1) fd) ∧ mg d.at_.1 = some (.ref (He.ga K d.at_.1)) := by
  refine ⟨?_, T.glo j hg⟩
  obtain ⟨fd, F⟩ := T.c.def_ i hd
  have e : He.fAd K d.at_ = He.ga K d.at_.1 := by
    unfold He.fAd
    rw [hm]
  have e1 : d.dvs K = [] := by
    unfold He.DefD.dvs
    rw [h1]
    rfl
  have e2 : d.kws K = [] := by
    unfold He.DefD.kws
    rw [h2]
    rfl
  rw [e, e1, e2] at F
  exact ⟨fd, F⟩
theorem Txt.str (T : Txt fa fn K mg ex) (j : Nat) {x z : Str} (h : fa[j]? = some (.str x z)) : ∃ t, mg x = some (.str z t) := by
  obtain ⟨_, X, G⟩ := T.h
  exact He.str_ok X G (T.c.fact j h)
/-- a global number, a global text -/
theorem pe_gint {X : Cx} (T : Txt fa fn K mg ex) (e : X.mg = mg) {x : Str} {i : Int} {pos : Pos} (j : Nat) (h : fa[j]? = some (.int x i)) (hg : Gl X x) (hd : (x == ("__debug__" : Str)) = false := by decide) : PE X (.Name x pos) (tC (.int i)) := by
  obtain ⟨t, ht⟩ := T.int j h
  exact pe_glob hg (by rw [e]; exact ht) ⟨t, rfl⟩ hd
theorem pe_gstr {X : Cx} (T : Txt fa fn K mg ex) (e : X.mg = mg) {x z : Str} {pos : Pos} (j : Nat) (h : fa[j]? = some (.str x z)) (hg : Gl X x) (hd : (x == ("__debug__" : Str)) = false := by decide) : PE X (.Name x pos) (tC (.str z)) := by
  obtain ⟨t, ht⟩ := T.str j h
  exact pe_glob hg (by rw [e]; exact ht) ⟨t, rfl⟩ hd
/-- a def without defaults that lets nothing out -/
theorem mk_dn (T : Txt fa fn K mg ex) (i j : Nat) {d : He.DefD} {N ps : List Str} {k : Nat} {sp : Sp} (hd : fn[i]? = some d) (hg : fa[j]? = some (.glo d.at_.1)) (hm : d.at_.2 = none) (h1 : d.dfl = []) (h2 : d.kwd = [])
    (S : FnScope N ps d.scope) (len : ∀ vs H Q E, sp vs H Q E → vs.length = ps.length)
    (hb : ∀ (kV doc pm : Value) (an : Option Addr) (cdv ct : Value) (us : List Value), us.length = ps.length → bindArgs (PySem.W.fnOf d.name d.qual d.params d.body d.scope .none kV doc pm an cdv ct) ⟨us, []⟩ = pure (ps.zip us))
    (hbody : ∀ (cdv : Value) (A : Around) (outer : List Env) (s : Shared) (H : Hp) (vs : List V) (Q : VK) (E : XK), Room k (A.deeper (envOfC d.qual d.scope s.heap.objs.size (He.ga K d.at_.1) cdv)) → sp vs H Q E →
      ∃ t, PSs (cxOf CX0 P w K mg base N d.qual d.scope (He.ga K d.at_.1) cdv A outer s H E).nox d.body t ∧ t { nx := fun _ H' => Q .non H', rt := Q } (start N vs) H) : Dn P w K mg base CX0 (k + 1) d.at_.1 ps sp := by
  obtain ⟨⟨fd, F⟩, g⟩ := T.def_ i j hd hg hm h1 h2
  refine ⟨_, fd, F.ok S len fun cdv A outer s H vs Q E hr h => ?_, g, F.kp, F.bindsN hb, by
    obtain ⟨oc, od, dV, kV, doc, pm, an, cdv, ct, osl, e, lk, _⟩ := F.ex
    exact ⟨_, _, _, lk⟩⟩
  obtain ⟨t, p, q⟩ := hbody cdv A outer s H vs Q E hr h
  exact ⟨t, p.nox, q⟩
theorem Dn.imp {CX : CXT} {k : Nat} {x : Str} {ps : List Str} {sp sp' : Sp} (D : Dn P w K mg base CX k x ps sp) (h : ∀ vs H Q E, sp' vs H Q E → sp vs H Q E) : Dn P w K mg base CX k x ps sp' := by
  obtain ⟨f, fd, F, a, b, c⟩ := D.ex
  exact ⟨f, fd, F.imp h, a, b, c⟩
theorem Dn.mono {CX : CXT} {j k : Nat} {x : Str} {ps : List Str} {sp : Sp} (D : Dn P w K mg base CX j x ps sp) (h : j ≤ k) : Dn P w K mg base CX k x ps sp := by
  obtain ⟨f, fd, F, a, b, c⟩ := D.ex
  exact ⟨f, fd, F.mono h, a, b, c⟩
end
section
variable {X : Cx} {CX : CXT} {k : Nat} {ps : List Str} {sp : Sp} {E : XK} {x : Str} {p pos : Pos} {e : Expr} {es : List Expr} {t : TA}
theorem pe_callD {K : PySem.W.Frag} (hK : X.K = K) (D : Dn X.prog X.w K X.mg X.base CX k x ps sp) (hr : Room k X.A) (hg : Gl X x) (hx : Passes CX X E)
    (ha : PA X (e :: es) t) (hdb : (x == ("__debug__" : Str)) = false := by decide) (he : starEach (e :: es) X.env = (false, eval e X.env) :: starEach es X.env := by rfl) (hpl : (backTo pos (starEach es X.env)).any (·.1) = false := by rfl) :
    PE X (.Call (.Name x p) (e :: es) [] pos) (tCall sp [] E t) := by
  subst hK
  obtain ⟨f, fd, F, m, kp, b, _⟩ := D.ex
  exact pe_call F hr hg m kp b .nil hx ha hdb he hpl
theorem pe_callD0 {K : PySem.W.Frag} (hK : X.K = K) (D : Dn X.prog X.w K X.mg X.base CX k x ps sp) (hr : Room k X.A) (hg : Gl X x) (hx : Passes CX X E)
    (hdb : (x == ("__debug__" : Str)) = false := by decide) :
    PE X (.Call (.Name x p) [] [] pos) (tCall sp [] E tNil) := by
  subst hK
  obtain ⟨f, fd, F, m, kp, b, _⟩ := D.ex
  exact pe_call0 F hr hg m kp b .nil hx hdb
end

/-! ### the law's own end -/
theorem law_facts {ex : Prop} {fa : List He.Fa} {fn : List He.DefD} {P : Program} {w : World} {K : PySem.W.Frag} {h : Heap} {mg : Str → Option Value} {f : Addr} {d : He.DefD} {k : Nat} {sp : Sp} (X : K.In h) (G : h.Ns mainGlobals mg)
    (hfa : mg d.at_.1 = some (.ref f)) (c : He.SaysD fa fn K) (m : ex) (i j : Nat) (hd : fn[i]? = some d) (hg : fa[j]? = some (.glo d.at_.1)) (hm : d.at_.2 = none) (h1 : d.dfl = []) (h2 : d.kwd = [])
    (hb : ∀ (kV doc pm : Value) (an : Option Addr) (cdv ct : Value) (us : List Value), us.length = 1 → bindArgs (PySem.W.fnOf d.name d.qual d.params d.body d.scope .none kV doc pm an cdv ct) ⟨us, []⟩ = pure ((["script"] : List Str).zip us))
    (ok : ∀ base, Txt fa fn K mg ex → Dn P w K mg base CX0 k d.at_.1 ["script"] sp) :
    ∃ fd : FuncData, (∀ (s : Shared) (v : Value), BindsTo s fd ⟨[v], []⟩ [("script", v)]) ∧ ∀ base : Heap, K.In base → base.Ns mainGlobals mg → FnOk P w K mg base CX0 k f fd ["script"] sp := by
  have T : Txt fa fn K mg ex := ⟨c, ⟨h, X, G⟩, m⟩
  obtain ⟨⟨fd, F⟩, g⟩ := T.def_ i j hd hg hm h1 h2
  rw [hfa] at g
  cases g
  have b := FunD.bindsA (ps := ["script"]) F hb
  refine ⟨fd, fun s v => b s [v] rfl, fun base _ _ => ?_⟩
  obtain ⟨f2, fd2, F2, m, _, _, oc, od, osl, lk⟩ := (ok base T).ex
  rw [hfa] at m
  cases m
  obtain ⟨oc', od', dV, kV, doc, pm, an, cdv, ct, osl', e, lk', _⟩ := F.ex
  rw [lk] at lk'
  cases lk'
  exact F2

/-! ### classes -/
section
variable {fa : List He.Fa} {fn : List He.DefD} {P : Program} {w : World} {K : PySem.W.Frag} {mg : Str → Option Value} {base : Heap} {ex : Prop}
theorem Txt.cls (T : Txt fa fn K mg ex) (j : Nat) {x : Str} (h : fa[j]? = some (.cls x)) : Cls K (He.ga K x) := He.cls_ok (T.c.fact j h)
theorem Txt.noat (T : Txt fa fn K mg ex) (j : Nat) {x f : Str} (h : fa[j]? = some (.noat x f)) : NoAttr K (He.ga K x) f := He.noat_ok (T.c.fact j h)
theorem Txt.meth (T : Txt fa fn K mg ex) (j : Nat) {x m : Str} (h : fa[j]? = some (.meth x m)) : Meth K (He.ga K x) m (He.ma K (He.ga K x) m) := He.meth_ok (T.c.fact j h)
theorem Txt.mkr (T : Txt fa fn K mg ex) (j : Nat) {x : Str} (h : fa[j]? = some (.mkr x)) : Mk K (He.ga K x) (He.ma K (He.ga K x) "__init__") := He.mkr_ok (T.c.fact j h)
/-- a method by its class's name -/
structure Mt (P : Program) (w : World) (K : PySem.W.Frag) (mg : Str → Option Value) (base : Heap) (CX : CXT) (k : Nat) (c m : Str) (ps : List Str) (sp : Sp) : Prop where
  ex : ∃ (f : Addr) (fd : FuncData), FnOk P w K mg base CX k f fd ps sp ∧ f = He.ma K (He.ga K c) m ∧ Binds K fd ps []
theorem Txt.defm (T : Txt fa fn K mg ex) (i : Nat) {d : He.DefD} {c m : Str} (hd : fn[i]? = some d) (hm : d.at_ = (c, some m)) (h1 : d.dfl = []) (h2 : d.kwd = []) :
    ∃ fd, FunD K d.name d.qual d.params d.body d.scope [] [] (He.ma K (He.ga K c) m) fd := by
  obtain ⟨fd, F⟩ := T.c.def_ i hd
  have e : He.fAd K d.at_ = He.ma K (He.ga K c) m := by
    unfold He.fAd
    rw [hm]
  have e1 : d.dvs K = [] := by
    unfold He.DefD.dvs
    rw [h1]
    rfl
  have e2 : d.kws K = [] := by
    unfold He.DefD.kws
    rw [h2]
    rfl
  rw [e, e1, e2] at F
  exact ⟨fd, F⟩
/-- a method without defaults that lets nothing out -/
theorem mk_mt (T : Txt fa fn K mg ex) (i : Nat) {d : He.DefD} {c m : Str} {N ps : List Str} {k : Nat} {sp : Sp} (hd : fn[i]? = some d) (hm : d.at_ = (c, some m)) (h1 : d.dfl = []) (h2 : d.kwd = [])
    (S : FnScope N ps d.scope) (len : ∀ vs H Q E, sp vs H Q E → vs.length = ps.length)
    (hb : ∀ (kV doc pm : Value) (an : Option Addr) (cdv ct : Value) (us : List Value), us.length = ps.length → bindArgs (PySem.W.fnOf d.name d.qual d.params d.body d.scope .none kV doc pm an cdv ct) ⟨us, []⟩ = pure (ps.zip us))
    (hbody : ∀ (cdv : Value) (A : Around) (outer : List Env) (s : Shared) (H : Hp) (vs : List V) (Q : VK) (E : XK), Room k (A.deeper (envOfC d.qual d.scope s.heap.objs.size (He.ma K (He.ga K c) m) cdv)) → sp vs H Q E →
      ∃ t, PSs (cxOf CX0 P w K mg base N d.qual d.scope (He.ma K (He.ga K c) m) cdv A outer s H E).nox d.body t ∧ t { nx := fun _ H' => Q .non H', rt := Q } (start N vs) H) : Mt P w K mg base CX0 (k + 1) c m ps sp := by
  obtain ⟨fd, F⟩ := T.defm i hd hm h1 h2
  refine ⟨_, fd, F.ok S len fun cdv A outer s H vs Q E hr h => ?_, rfl, F.bindsN hb⟩
  obtain ⟨t, p, q⟩ := hbody cdv A outer s H vs Q E hr h
  exact ⟨t, p.nox, q⟩
theorem Mt.mono {CX : CXT} {j k : Nat} {c m : Str} {ps : List Str} {sp : Sp} (D : Mt P w K mg base CX j c m ps sp) (h : j ≤ k) : Mt P w K mg base CX k c m ps sp := by
  obtain ⟨f, fd, F, a, b⟩ := D.ex
  exact ⟨f, fd, F.mono h, a, b⟩
end
section
variable {X : Cx} {CX : CXT} {k : Nat} {ps : List Str} {sp : Sp} {E : XK} {c m : Str} {p pos apos : Pos} {e o : Expr} {es : List Expr} {ta : TE} {t : TA}
theorem pe_methD {K : PySem.W.Frag} (hK : X.K = K) {pl : Sem Bool} (D : Mt X.prog X.w K X.mg X.base CX k c m ps sp) (cl : Cls K (He.ga K c)) (hm : Meth K (He.ga K c) m (He.ma K (He.ga K c) m)) (hr : Room k X.A) (hx : Passes CX X E) (he : PE X o ta) (ha : PA X (e :: es) t)
    (hst : starEach (e :: es) X.env = (false, eval e X.env) :: starEach es X.env := by rfl) (hpl : (backTo pos (starEach es X.env)).any (·.1) = false := by rfl)
    (ht : eval (.Call (.Attribute o m apos) (e :: es) [] pos) X.env = (do let ov ← eval o X.env; standAt apos.atName; let (f, first) ← holding [ov] (getMethod ov m pl); callWith pos f first (backTo pos (starEach (e :: es) X.env)) (backToKw pos (keywordEach [] X.env))) := by rfl) :
    PE X (.Call (.Attribute o m apos) (e :: es) [] pos) (tMeth (He.ga K c) m sp [] E ta t) := by
  subst hK
  obtain ⟨f, fd, F, rfl, b⟩ := D.ex
  exact pe_meth he cl hm F hr b .nil hx ha hst hpl ht
theorem pe_methD0 {K : PySem.W.Frag} (hK : X.K = K) {pl : Sem Bool} (D : Mt X.prog X.w K X.mg X.base CX k c m ps sp) (cl : Cls K (He.ga K c)) (hm : Meth K (He.ga K c) m (He.ma K (He.ga K c) m)) (hr : Room k X.A) (hx : Passes CX X E) (he : PE X o ta)
    (ht : eval (.Call (.Attribute o m apos) [] [] pos) X.env = (do let ov ← eval o X.env; standAt apos.atName; let (f, first) ← holding [ov] (getMethod ov m pl); callWith pos f first (backTo pos (starEach [] X.env)) (backToKw pos (keywordEach [] X.env))) := by rfl) :
    PE X (.Call (.Attribute o m apos) [] [] pos) (tMeth (He.ga K c) m sp [] E ta tNil) := by
  subst hK
  obtain ⟨f, fd, F, rfl, b⟩ := D.ex
  exact pe_meth0 he cl hm F hr b .nil hx ht
theorem pe_makeD {K : PySem.W.Frag} (hK : X.K = K) (D : Mt X.prog X.w K X.mg X.base CX k c "__init__" ps sp) (M : Mk K (He.ga K c) (He.ma K (He.ga K c) "__init__")) (hr : Room (k + 1) X.A) (hg : Gl X c) (hm : X.mg c = some (.ref (He.ga K c))) (hx : Passes CX X E)
    (ha : PA X (e :: es) t) (hdb : (c == ("__debug__" : Str)) = false := by decide) (he : starEach (e :: es) X.env = (false, eval e X.env) :: starEach es X.env := by rfl) (hpl : (backTo pos (starEach es X.env)).any (·.1) = false := by rfl) :
    PE X (.Call (.Name c p) (e :: es) [] pos) (tMake (He.ga K c) sp [] E t) := by
  subst hK
  obtain ⟨f, fd, F, rfl, b⟩ := D.ex
  exact pe_make M F hr hg hm b .nil hx ha hdb he hpl
end
/-! ### fields by their places -/
section
variable {fs : List (Str × V)} {f : Str} {v y : V}
theorem lk_ix : ∀ {fs : List (Str × V)} (n : Nat), (fs.map (·.1)).Nodup → fs[n]? = some (f, v) → fs.lookup f = some v
  | [], _, _, h => by simp at h
  | p :: fs, 0, _, h => by
    simp only [List.getElem?_cons_zero, Option.some.injEq] at h
    subst h
    simp [List.lookup]
  | p :: fs, n + 1, nd, h => by
    simp only [List.getElem?_cons_succ] at h
    obtain ⟨g, x⟩ := p
    rw [List.map_cons, List.nodup_cons] at nd
    have hm : f ∈ fs.map (·.1) := List.mem_map.mpr ⟨(f, v), List.mem_of_getElem? h, rfl⟩
    have ne : (f == g) = false := beq_eq_false_iff_ne.mpr fun e => nd.1 (e ▸ hm)
    simp only [List.lookup, ne]
    exact lk_ix n nd.2 h
theorem lk_none : ∀ {fs : List (Str × V)}, f ∉ fs.map (·.1) → fs.lookup f = none
  | [], _ => rfl
  | (g, x) :: fs, h => by
    rw [List.map_cons, List.mem_cons, not_or] at h
    have ne : (f == g) = false := beq_eq_false_iff_ne.mpr h.1
    simp only [List.lookup, ne]
    exact lk_none h.2
theorem pt_ix : ∀ {fs : List (Str × V)} (n : Nat), (fs.map (·.1)).Nodup → fs[n]? = some (f, v) → putF f y fs = fs.set n (f, y)
  | [], _, _, h => by simp at h
  | p :: fs, 0, _, h => by
    simp only [List.getElem?_cons_zero, Option.some.injEq] at h
    subst h
    simp [putF]
  | p :: fs, n + 1, nd, h => by
    simp only [List.getElem?_cons_succ] at h
    obtain ⟨g, x⟩ := p
    rw [List.map_cons, List.nodup_cons] at nd
    have hm : f ∈ fs.map (·.1) := List.mem_map.mpr ⟨(f, v), List.mem_of_getElem? h, rfl⟩
    have ne : ¬ g = f := fun e => nd.1 (e ▸ hm)
    simp only [putF, if_neg ne, List.set_cons_succ]
    rw [pt_ix n nd.2 h]
theorem pt_new : ∀ {fs : List (Str × V)}, f ∉ fs.map (·.1) → putF f y fs = fs ++ [(f, y)]
  | [], _ => rfl
  | (g, x) :: fs, h => by
    rw [List.map_cons, List.mem_cons, not_or] at h
    have ne : ¬ g = f := fun e => h.1 e.symm
    simp only [putF, if_neg ne, List.cons_append]
    rw [pt_new h.2]
end

section
variable {H H' : Hp} {L : List (Addr × HO)} {a : Addr} {o : HO}
theorem Has.add (M : Has H L) (h : H a = some o) (n : a ∉ L.map (·.1)) : Has H (L ++ [(a, o)]) where
  nd := by
    rw [List.map_append, List.nodup_append]
    refine ⟨M.nd, by simp, fun x hx y hy e => ?_⟩
    rw [List.map_singleton, List.mem_singleton] at hy
    have e2 : x = a := e.trans hy
    exact n (e2 ▸ hx)
  is_ := fun q hq => by
    rcases List.mem_append.mp hq with z | z
    · exact M.is_ q z
    · rw [List.mem_singleton.mp z]
      exact h
end

theorem Keep.tup {ms : List Addr} {H H' : Hp} {t : Addr} {xs : List V} (k : Keep ms H H') (hm : ∀ m ∈ ms, ∃ o, H m = some o ∧ ∀ xs, o ≠ .tup xs) (h : H t = some (.tup xs)) : H' t = some (.tup xs) :=
  k t _ h fun z => by
    obtain ⟨o, e, n⟩ := hm t z
    rw [h] at e
    exact n xs (Option.some.inj e).symm

/-! ### parts of the heap's list, tables of lists -/
section
variable {H H' : Hp} {X Y L L' : List (Addr × HO)} {a : Addr} {o o' : HO}
theorem Has.mid (M : Has H (X ++ (L ++ Y))) : Has H L := M.sub ((List.sublist_append_left L Y).trans (List.sublist_append_right X _))
/-- a part has changed, the rest stands -/
theorem Has.frame (M : Has H (X ++ (L ++ Y))) (k : Keep (L.map (·.1)) H H') (M' : Has H' L') (e : L'.map (·.1) = L.map (·.1)) : Has H' (X ++ (L' ++ Y)) where
  nd := by
    have z := M.nd
    rw [List.map_append, List.map_append] at z ⊢
    rw [e]
    exact z
  is_ := fun q hq => by
    have z := M.nd
    rw [List.map_append, List.map_append, List.nodup_append] at z
    obtain ⟨_, z2, z3⟩ := z
    rw [List.nodup_append] at z2
    obtain ⟨_, _, z4⟩ := z2
    rcases List.mem_append.mp hq with h | h
    · refine k _ _ (M.is_ q (List.mem_append_left _ h)) fun hm => ?_
      exact z3 q.1 (List.mem_map_of_mem h) q.1 (List.mem_append_left _ hm) rfl
    · rcases List.mem_append.mp h with h | h
      · exact M'.is_ q h
      · refine k _ _ (M.is_ q (List.mem_append_right _ (List.mem_append_right _ h))) fun hm => ?_
        exact z4 q.1 hm q.1 (List.mem_map_of_mem h) rfl
/-- the lists at these addresses -/
def tab : List Addr → List (List V) → List (Addr × HO)
  | a :: as, r :: rs => (a, .lst r) :: tab as rs
  | _, _ => []
theorem tab_get : ∀ {as : List Addr} {rs : List (List V)} {i : Nat} {a : Addr} {r : List V}, as[i]? = some a → rs[i]? = some r → (tab as rs)[i]? = some (a, .lst r)
  | [], _, _, _, _, h, _ => by simp at h
  | _ :: _, [], _, _, _, _, h => by simp at h
  | a :: as, r :: rs, 0, _, _, h, h2 => by
    simp only [List.getElem?_cons_zero, Option.some.injEq] at h h2
    subst h
    subst h2
    rfl
  | a :: as, r :: rs, i + 1, _, _, h, h2 => by
    simp only [List.getElem?_cons_succ] at h h2
    exact tab_get (as := as) h h2
theorem tab_set : ∀ {as : List Addr} {rs : List (List V)} {i : Nat} {a : Addr} {r : List V}, as[i]? = some a → (tab as rs).set i (a, .lst r) = tab as (rs.set i r)
  | [], _, _, _, _, h => by simp at h
  | _ :: _, [], _, _, _, _ => rfl
  | a :: as, r :: rs, 0, _, _, h => by
    simp only [List.getElem?_cons_zero, Option.some.injEq] at h
    subst h
    rfl
  | a :: as, r :: rs, i + 1, _, _, h => by
    simp only [List.getElem?_cons_succ] at h
    show (a, HO.lst r) :: (tab as rs).set i _ = _
    rw [tab_set h]
    rfl
theorem tab_fst : ∀ {as : List Addr} {rs : List (List V)}, as.length = rs.length → (tab as rs).map (·.1) = as
  | [], [], _ => rfl
  | [], _ :: _, h => by simp at h
  | _ :: _, [], h => by simp at h
  | a :: as, r :: rs, h => by
    simp only [List.length_cons, Nat.add_right_cancel_iff] at h
    show a :: (tab as rs).map (·.1) = _
    rw [tab_fst h]
variable {as : List Addr} {rs : List (List V)} {i : Nat} {r r' : List V}
theorem Has.tabGet (M : Has H (X ++ (tab as rs ++ Y))) (ha : as[i]? = some a) (hr : rs[i]? = some r) : H a = some (.lst r) := M.mid.get i (tab_get ha hr)
theorem Has.tabSet (M : Has H (X ++ (tab as rs ++ Y))) (ha : as[i]? = some a) (hr : rs[i]? = some r) : Has (upd H a (.lst r')) (X ++ (tab as (rs.set i r') ++ Y)) := by
  have h := tab_get ha hr
  have hi := (List.getElem?_eq_some_iff.mp h).1
  have h2 : (X ++ (tab as rs ++ Y))[X.length + i]? = some (a, .lst r) := by
    rw [List.getElem?_append_right (Nat.le_add_right _ _), Nat.add_sub_cancel_left, List.getElem?_append_left hi]
    exact h
  have M2 := M.set (o' := .lst r') _ h2
  have e : (X ++ (tab as rs ++ Y)).set (X.length + i) (a, .lst r') = X ++ (tab as (rs.set i r') ++ Y) := by
    rw [List.set_append_right _ _ (Nat.le_add_right _ _), Nat.add_sub_cancel_left, List.set_append_left _ _ hi, tab_set ha]
  rw [e] at M2
  exact M2
/-- one more list at the end of a table -/
theorem tab_snoc : ∀ {as : List Addr} {rs : List (List V)}, as.length = rs.length → tab (as ++ [a]) (rs ++ [r]) = tab as rs ++ [(a, .lst r)]
  | [], [], _ => rfl
  | [], _ :: _, h => by simp at h
  | _ :: _, [], h => by simp at h
  | b :: as, r' :: rs, h => by
    simp only [List.length_cons, Nat.add_right_cancel_iff] at h
    show (b, HO.lst r') :: tab (as ++ [a]) (rs ++ [r]) = _
    rw [tab_snoc h]
    rfl
end
/-! ### constants of the module: tuples, dicts with text keys -/
inductive GD
  | dat (d : PyData)
  | dic (kvs : List (Str × PyData))
mutual
def gisB (K : PySem.W.Frag) : PyData → Value → Bool
  | .none, .none => true
  | .bool a, .bool b => a == b
  | .int i, .int j _ => decide (i = j)
  | .str x, .str y _ => decide (x = y)
  | .tuple ds, .ref a => (match K.lookup a with
    | some ⟨.type c, _, .seq its _, _⟩ => decide (c = "tuple") && (decide (its.size ≤ 1000) && gisAllB K ds its.toList)
    | _ => false)
  | _, _ => false
def gisAllB (K : PySem.W.Frag) : List PyData → List Value → Bool
  | [], [] => true
  | d :: ds, u :: us => gisB K d u && gisAllB K ds us
  | _, _ => false
end
section
variable {K : PySem.W.Frag}
theorem gis_tup {ds : List PyData} {u : Value} (h : gisB K (.tuple ds) u = true) : ∃ (a : Addr) (o : Obj) (its : Array Value) (n : Nat), u = .ref a ∧ K.lookup a = some o ∧ o.cls = .type "tuple" ∧ o.data = .seq its n ∧ its.size ≤ 1000 ∧ gisAllB K ds its.toList = true := by
  cases u <;> first | (unfold gisB at h; cases h; done) | skip
  rename_i a
  unfold gisB at h
  cases q : K.lookup a with
  | none =>
    rw [q] at h
    cases h
  | some o =>
    obtain ⟨oc, od, dt, osl⟩ := o
    rw [q] at h
    cases oc <;> cases dt <;> first | (cases h; done) | skip
    rename_i c its n
    replace h : (decide (c = "tuple") && (decide (its.size ≤ 1000) && gisAllB K ds its.toList)) = true := h
    obtain ⟨h1, h2⟩ := Bool.and_eq_true_iff.mp h
    obtain ⟨h3, h4⟩ := Bool.and_eq_true_iff.mp h2
    have e : c = "tuple" := of_decide_eq_true h1
    exact ⟨a, _, its, n, rfl, q, by rw [e], rfl, of_decide_eq_true h3, h4⟩
mutual
theorem gis_ok : ∀ (d : PyData) (u : Value), gisB K d u = true → ∃ v, RelV v u ∧ ∀ H, Dp K H v d
  | .none, u, h => by
    cases u <;> first | (unfold gisB at h; cases h; done) | skip
    exact ⟨.non, rfl, fun _ => .non⟩
  | .bool a, u, h => by
    cases u <;> first | (unfold gisB at h; cases h; done) | skip
    rename_i b
    unfold gisB at h
    obtain rfl := beq_iff_eq.mp h
    exact ⟨.bl a, rfl, fun _ => .bl a⟩
  | .int i, u, h => by
    cases u <;> first | (unfold gisB at h; cases h; done) | skip
    rename_i j t
    unfold gisB at h
    obtain rfl := of_decide_eq_true h
    exact ⟨.int i, ⟨t, rfl⟩, fun _ => .int i⟩
  | .str x, u, h => by
    cases u <;> first | (unfold gisB at h; cases h; done) | skip
    rename_i y t
    unfold gisB at h
    obtain rfl := of_decide_eq_true h
    exact ⟨.str x, ⟨t, rfl⟩, fun _ => .str x⟩
  | .tuple ds, u, h => by
    obtain ⟨a, o, its, n, rfl, h1, h2, h3, h4, h5⟩ := gis_tup h
    obtain ⟨vs, r, hd⟩ := gisAll_ok ds its.toList h5
    exact ⟨.ref a, rfl, fun H => .tup (.inr ⟨o, its, n, h1, h2, h3, Nat.le_trans h4 (by decide), r⟩) (hd H)⟩
  | .list _, u, h => by unfold gisB at h; cases h
  | .dict _, u, h => by unfold gisB at h; cases h
theorem gisAll_ok : ∀ (ds : List PyData) (us : List Value), gisAllB K ds us = true → ∃ vs, Vals vs us ∧ ∀ H, DpAll K H vs ds
  | [], us, h => by
    cases us with
    | nil => exact ⟨[], .nil, fun _ => .nil⟩
    | cons => unfold gisAllB at h; cases h
  | d :: ds, us, h => by
    cases us with
    | nil => unfold gisAllB at h; cases h
    | cons u us =>
      unfold gisAllB at h
      obtain ⟨h1, h2⟩ := Bool.and_eq_true_iff.mp h
      obtain ⟨v, r, hv⟩ := gis_ok d u h1
      obtain ⟨vs, rs, hvs⟩ := gisAll_ok ds us h2
      exact ⟨v :: vs, .cons r rs, fun H => .cons (hv H) (hvs H)⟩
end
end
def gokB (K : PySem.W.Frag) (x : Str) : GD → Bool
  | .dat d => (match PySem.W.nsIn K mainGlobals x with
    | some (some u) => gisB K d u
    | _ => false)
  | .dic kvs => kvs.all fun q => match PySem.W.nsIn K (He.ga K x) q.1 with
    | some (some u) => gisB K q.2 u
    | _ => false
def exB (cs : List (Str × GD)) (K : PySem.W.Frag) : Bool := cs.all fun q => gokB K q.1 q.2
def tabs : List (Str × GD) → List He.Tab
  | [] => []
  | (x, .dic kvs) :: cs => (fun K => He.ga K x, kvs.map (·.1)) :: tabs cs
  | (_, .dat _) :: cs => tabs cs
/-- the constants stand -/
structure CsOk (cs : List (Str × GD)) (K : PySem.W.Frag) (w : World) : Prop where
  e : exB cs K = true
  t : (tabs cs).map (fun t => He.dicW K (t.1 K)) = (tabs cs).map fun t => some (He.keysIn w.params t.2)
section
variable {fa : List He.Fa} {fn : List He.DefD} {cs : List (Str × GD)} {K : PySem.W.Frag} {w : World} {x k : Str} {d : PyData} {ds : List PyData} {kvs : List (Str × PyData)} {h : Heap}
theorem CsOk.of (c : He.SaysX fa fn (tabs cs) [] (exB cs) w h K) : CsOk cs K w := ⟨c.more, congrArg (fun z : He.AlT => z.2) c.t⟩
theorem tab_eq : ∀ {cs : List (Str × GD)}, (tabs cs).map (fun t => He.dicW K (t.1 K)) = (tabs cs).map (fun t => some (He.keysIn w.params t.2)) → (x, GD.dic kvs) ∈ cs → He.dicW K (He.ga K x) = some (He.keysIn w.params (kvs.map (·.1)))
  | [], _, h => by cases h
  | (y, .dic ks) :: cs, e, h => by
    have e1 : He.dicW K (He.ga K y) :: (tabs cs).map (fun t => He.dicW K (t.1 K)) = some (He.keysIn w.params (ks.map (·.1))) :: (tabs cs).map fun t => some (He.keysIn w.params t.2) := e
    injection e1 with e2 e3
    rcases List.mem_cons.mp h with z | z
    · injection z with z1 z2
      injection z2 with z2
      subst z1
      subst z2
      exact e2
    · exact tab_eq e3 z
  | (y, .dat _) :: cs, e, h => by
    rcases List.mem_cons.mp h with z | z
    · injection z with z1 z2
      cases z2
    · exact tab_eq (cs := cs) e z
theorem CsOk.dat (c : CsOk cs K w) (h : (x, GD.dat d) ∈ cs) : ∃ u, PySem.W.nsIn K mainGlobals x = some (some u) ∧ gisB K d u = true := by
  have h1 : gokB K x (.dat d) = true := List.all_eq_true.mp c.e _ h
  unfold gokB at h1
  cases q : PySem.W.nsIn K mainGlobals x with
  | none =>
    rw [q] at h1
    cases h1
  | some r =>
    rw [q] at h1
    cases r with
    | none => cases h1
    | some u => exact ⟨u, rfl, h1⟩
theorem CsOk.tup (c : CsOk cs K w) (h : (x, GD.dat (.tuple ds)) ∈ cs) (H : Hp) : Dp K H (.ref (He.ga K x)) (.tuple ds) := by
  obtain ⟨u, h1, h2⟩ := c.dat h
  obtain ⟨v, r, hv⟩ := gis_ok _ u h2
  obtain ⟨a, _, _, _, rfl, _⟩ := gis_tup h2
  have e : He.ga K x = a := by
    unfold He.ga
    rw [h1]
  obtain rfl : v = .ref a := RelV.inj r rfl
  rw [e]
  exact hv H
theorem CsOk.kd (c : CsOk cs K w) (h : (x, GD.dic kvs) ∈ cs) : ∃ es n, KDict K w (He.ga K x) es n := He.dicW_ok (tab_eq c.t h)
theorem CsOk.key (c : CsOk cs K w) (h : (x, GD.dic kvs) ∈ cs) (hk : (k, d) ∈ kvs) : ∃ u v, PySem.W.nsIn K (He.ga K x) k = some (some u) ∧ RelV v u ∧ ∀ H, Dp K H v d := by
  have h1 : gokB K x (.dic kvs) = true := List.all_eq_true.mp c.e _ h
  unfold gokB at h1
  have h2 := List.all_eq_true.mp h1 _ hk
  cases q : PySem.W.nsIn K (He.ga K x) k with
  | none =>
    rw [q] at h2
    cases h2
  | some r =>
    rw [q] at h2
    cases r with
    | none => cases h2
    | some u =>
      obtain ⟨v, hv⟩ := gis_ok d u h2
      exact ⟨u, v, rfl, hv⟩
theorem keyOf_of {e : DictEntry} {y : Str} {i : Int} (h : He.keyOf e = some (y, i)) : ∃ t, e.key = .str y t := by
  unfold He.keyOf at h
  split at h
  · rename_i z t q
    injection h with h
    injection h with h1 h2
    subst h1
    exact ⟨t, q⟩
  · cases h
theorem keys_no {P : Params} : ∀ {l : List DictEntry} {ks : List Str}, l.map He.keyOf = He.keysIn P ks → k ∉ ks → (l.find? (·.key.isStr k)) = none ∧ (l.any (·.refKey)) = false
  | [], _, _, _ => ⟨rfl, rfl⟩
  | e :: l, [], h, _ => by cases h
  | e :: l, y :: ks, h, hk => by
    have h1 : He.keyOf e :: l.map He.keyOf = some (y, PyData.keyHash P y) :: He.keysIn P ks := h
    injection h1 with h2 h3
    obtain ⟨t, q⟩ := keyOf_of h2
    obtain ⟨i1, i2⟩ := keys_no h3 (fun z => hk (List.mem_cons_of_mem _ z))
    have n : e.key.isStr k = false := by
      rw [q]
      have : (y == k) = false := beq_eq_false_iff_ne.mpr fun z => hk (by rw [z]; exact List.mem_cons_self)
      first | exact this | (unfold Value.isStr; exact this) | simp [Value.isStr, this]
    refine ⟨by rw [List.find?_cons, n]; exact i1, ?_⟩
    rw [List.any_cons, i2, Bool.or_false]
    unfold DictEntry.refKey
    rw [q]
theorem CsOk.nokey (c : CsOk cs K w) (h : (x, GD.dic kvs) ∈ cs) (hk : k ∉ kvs.map (·.1)) : PySem.W.nsIn K (He.ga K x) k = some none := by
  have e := tab_eq c.t h
  obtain ⟨es, n, D⟩ := He.dicW_ok e
  unfold He.dicW at e
  rw [D.at_] at e
  replace e : (match decide ("dict" = "dict") && ((#[] : Array (Option Value)).isEmpty && !(He.ga K x == sysModules)) with
    | true => some (es.toList.map He.keyOf)
    | false => none) = some (He.keysIn w.params (kvs.map (·.1))) := e
  rw [D.low] at e
  replace e : some (es.toList.map He.keyOf) = some (He.keysIn w.params (kvs.map (·.1))) := e
  obtain ⟨i1, i2⟩ := keys_no (Option.some.inj e) hk
  unfold PySem.W.nsIn
  rw [D.at_]
  show (match es.toList.find? (·.key.isStr k) with
      | some e => some (some e.val)
      | none => if es.toList.any (·.refKey) then none else some none) = some none
  rw [i1, i2]
  rfl
theorem dp_strs {H : Hp} {a : Addr} {ks : List Str} (h : Dp K H (.ref a) (.tuple (ks.map .str))) : SqT K H a (ks.map V.str) := by
  have go : ∀ {ks : List Str} {xs : List V}, DpAll K H xs (ks.map .str) → xs = ks.map V.str := by
    intro ks
    induction ks with
    | nil => intro xs h; cases h; rfl
    | cons z ks ih =>
      intro xs h
      cases h with
      | cons h t =>
        cases h
        rw [ih t]
        rfl
  cases h with
  | tup h t =>
    rw [← go t]
    exact h
theorem dp_ints {H : Hp} {a : Addr} {ks : List Int} (h : Dp K H (.ref a) (.tuple (ks.map .int))) : SqT K H a (ks.map V.int) := by
  have go : ∀ {ks : List Int} {xs : List V}, DpAll K H xs (ks.map .int) → xs = ks.map V.int := by
    intro ks
    induction ks with
    | nil => intro xs h; cases h; rfl
    | cons z ks ih =>
      intro xs h
      cases h with
      | cons h t =>
        cases h
        rw [ih t]
        rfl
  cases h with
  | tup h t =>
    rw [← go t]
    exact h
end
/-! d[key], key in d of such a dict -/
def rIxG (K : PySem.W.Frag) (d : Addr) : R2 := fun x y H Q => ∃ (z : Str) (u : Value) (v : V), x = .ref d ∧ y = .str z ∧ PySem.W.nsIn K d z = some (some u) ∧ RelV v u ∧ Q v H
def rInG (K : PySem.W.Frag) (d : Addr) (neg : Bool) : R2 := fun x y H Q => ∃ (z : Str) (r : Option Value), x = .str z ∧ y = .ref d ∧ PySem.W.nsIn K d z = some r ∧ Q (.bl (if neg then !r.isSome else r.isSome)) H
section
variable {X : Cx} {cs : List (Str × GD)} {x : Str} {kvs : List (Str × PyData)}
theorem ix_G {K : PySem.W.Frag} (hK : X.K = K) (c : CsOk cs K X.w) (h : (x, GD.dic kvs) ∈ cs) : IxR X (rIxG K (He.ga K x)) := by
  subst hK
  obtain ⟨es, n, D⟩ := c.kd h
  intro value slice pins s σ H x y v u Q I rx ry h hs
  obtain ⟨z, u0, v0, rfl, rfl, e, r, q⟩ := h
  have rx' := rx
  cases rx
  exact tail_any (kd_type D I) PySem.F.slot_dict_getitem.lookup (op_item_kd D pins s σ H _ _ _ u Q I rx' ry ⟨z, u0, v0, rfl, rfl, e, r, q⟩) hs
theorem op_inG {K : PySem.W.Frag} (hK : X.K = K) (c : CsOk cs K X.w) (h : (x, GD.dic kvs) ∈ cs) : OpR X (compareOp .In) (rInG K (He.ga K x) false) := by
  subst hK
  obtain ⟨es, n, D⟩ := c.kd h
  intro pins s σ H x y v u Q I rx ry h
  obtain ⟨z, r, rfl, rfl, e, q⟩ := h
  exact op_in_kd D pins s σ H _ _ v u Q I rx ry ⟨z, r, rfl, rfl, e, q⟩
theorem op_niG {K : PySem.W.Frag} (hK : X.K = K) (c : CsOk cs K X.w) (h : (x, GD.dic kvs) ∈ cs) : OpR X (compareOp .NotIn) (rInG K (He.ga K x) true) := by
  subst hK
  obtain ⟨es, n, D⟩ := c.kd h
  intro pins s σ H x y v u Q I rx ry h
  obtain ⟨z, r, rfl, rfl, e, q⟩ := h
  exact op_notIn_kd D pins s σ H _ _ v u Q I rx ry ⟨z, r, rfl, rfl, e, q⟩
end
end G

set_option Elab.async false
set_option linter.all false
set_option maxRecDepth 100000
set_option maxHeartbeats 4000000
/-! Rules that take any kind of value, and the walk of a reading step by step. -/
namespace G
open PySem PySem.Spec PyProof.Rows L2

/-! ### a tuple, repeated -/
theorem tuple_mul1 (l : Addr) (items : Array Value) (n : Nat) (dd : Option Addr) (sl : Array (Option Value)) (u : Tok) :
    Meets (Builtin.«tuple.__mul__» ⟨[.ref l, .int 1 u], []⟩) (fun _ R s => s.heap.get? l = some { cls := .type "tuple", dict := dd, data := .seq items n, slots := sl } ∧
      R (.ok (.ret (Value.ref l))) s) :=
  .of_wp fun prog w A R s h => by
    obtain ⟨hp, g, d, tk, os⟩ := s
    obtain ⟨hl, h⟩ := h
    have f1 := AutoSeq1.idx_int
    have c0 : (decide ((1 : Int) < -(2 ^ 63)) || decide ((1 : Int) ≥ 2 ^ 63)) = false := by decide
    have c1 : (items.isEmpty || (1 : Int) == 1) = true := by rw [Bool.or_eq_true]; exact .inr rfl
    wp_walk using wpAny_loadPart' hl
    repeat (first
      | (refine wpAny_ite_false (decide_eq_false (by rw [c0]; exact Bool.false_ne_true)) ?_; wp_walk using wpAny_loadPart' hl)
      | (refine wpAny_ite_true (decide_eq_true c1) ?_; wp_walk using wpAny_loadPart' hl))
    exact ⟨_, rfl, h⟩
def rRepT1 (K : PySem.W.Frag) : R2 := fun x y H Q => ∃ l xs, x = .ref l ∧ y = .int 1 ∧ SqT K H l xs ∧ Q x H
theorem op_repT1 {X : Cx} : OpR X (binaryOp .Mult) (rRepT1 X.K) := by
  intro pins s σ H x y v u Q I rx ry h
  obtain ⟨l, xs, rfl, rfl, hT, q⟩ := h
  cases rx
  obtain ⟨t, rfl⟩ := ry
  obtain ⟨its, r, ⟨⟨cls, dd, data, sl⟩, ho, hc, n, hd⟩, hs⟩ := I.tuple hT
  simp only at hc hd
  subst hc hd
  exact wpAny_binaryOp_repeat_ref (T := "tuple") (U := "int") (by decide) ⟨_, ho, rfl⟩ (fun s' => typeIs_int s' 1 t) noFill_tuple_mul F.fills_int_mul F.slot_int_rmul repeat_tuple F.slot_int_index.lookup
    (call_meets F.slot_int_rmul (typeIs_int s 1 t) F.entry_int_rmul (F.args_int_rmul_2 _ _) (int_rmul_tuple 1 t l its.toArray n dd sl)
      ⟨ho, rfl, ⟨_, ho, rfl⟩, call_meets F.slot_tuple_mul ⟨_, ho, rfl⟩ F.entry_tuple_mul (F.args_tuple_mul_2 _ _) (tuple_mul1 l its.toArray n dd sl t) ⟨ho, ⟨.ref l, H, I, rfl, q⟩⟩⟩)
/-- t * k of a tuple, 1 to 1000 times -/
def rRepTU : R2 := fun x y H Q => ∃ l k xs, x = .ref l ∧ y = .int k ∧ H l = some (.tup xs) ∧ xs ≠ [] ∧ 1 ≤ k ∧ k ≤ 1000 ∧ xs.length ≤ 1000 ∧ ∀ p H', Same H H' → H' p = some (.tup (List.replicate k.toNat xs).flatten) → Q (.ref p) H'
theorem op_repTU {X : Cx} : OpR X (binaryOp .Mult) rRepTU := by
  intro pins s σ H x y v u Q I rx ry h
  obtain ⟨l, k, xs, rfl, rfl, hT, hne, h1, h2, hl, q⟩ := h
  by_cases hk : k = 1
  · subst hk
    refine op_repT1 pins s σ H _ _ v u Q I rx ry ⟨l, xs, rfl, rfl, SqT.of hT, q l H (Same.refl H) ?_⟩
    rw [hT]
    simp
  · exact op_repT pins s σ H _ _ v u Q I rx ry ⟨l, k, xs, rfl, rfl, SqT.of hT, hne, by omega, h2, hl, fun p hp => q p _ (Same.new hp) upd_same⟩
/-! ### rules for any kind of value -/
def rAddU (K : PySem.W.Frag) : R2 := fun x y H Q => match x, y with
  | .int i, .int j => Q (.int (i + j)) H
  | .str a, .str b => a.length + b.length ≤ sizeLine ∧ Q (.str (a ++ b)) H
  | .ref a, .ref b => rCat (.ref a) (.ref b) H Q ∨ rCatA K (.ref a) (.ref b) H Q
  | _, _ => False
def rMulU : R2 := fun x y H Q => match x, y with
  | .int i, .int j => (CMul i j ∨ CMulW i j) ∧ Q (.int (i * j)) H
  | .ref a, .int j => rRep (.ref a) (.int j) H Q ∨ rRepTU (.ref a) (.int j) H Q
  | _, _ => False
def rEqU (K : PySem.W.Frag) (neg : Bool) : R2 := fun x y H Q => (scal x y = true ∧ Q (.bl (if neg then !decide (x = y) else decide (x = y))) H) ∨ (if neg then rNeD K x y H Q else rEqD K x y H Q)
/-- the heap's dict at a holds o at y -/
def rInDT (K : PySem.W.Frag) (neg : Bool) : R2 := fun x y H Q => ∃ d ds, Dp K H x d ∧ (Dp K H y (.tuple ds) ∨ Dp K H y (.list ds)) ∧ SeqAt.shaped d = true ∧ PyData.canLayAll0 ds = true ∧ Q (.bl (if neg then !(ds.any fun z => PyData.eqv z d) else ds.any fun z => PyData.eqv z d)) H
theorem hu65 {A : Around} {k : Nat} (hr : Room k A) : A.units + 65 < cLine := by have := hr.un; omega
theorem op_inDT {X : Cx} (hu : X.A.units + 65 < cLine) : OpR X (compareOp .In) (rInDT X.K false) := by
  intro pins s σ H x y v u Q I rx ry h
  obtain ⟨d, ds, hd, he, sd, se, q⟩ := h
  obtain ⟨as, r1⟩ := Dp.reads I d x v hd rx
  rcases he with he | he
  · obtain ⟨bs, r2⟩ := Dp.reads I (.tuple ds) y u he ry
    exact SeqAt.in_tuple_reads r2 r1 se (SeqAt.canLay_of_shaped sd) (room_in_shaped sd hu) ⟨.bl _, H, I, rfl, q⟩
  · obtain ⟨bs, r2⟩ := Dp.reads I (.list ds) y u he ry
    exact SeqAt.in_list_reads r2 r1 se (SeqAt.canLay_of_shaped sd) (room_in_shaped sd hu) ⟨.bl _, H, I, rfl, q⟩
theorem op_niDT {X : Cx} (hu : X.A.units + 65 < cLine) : OpR X (compareOp .NotIn) (rInDT X.K true) := by
  intro pins s σ H x y v u Q I rx ry h
  obtain ⟨d, ds, hd, he, sd, se, q⟩ := h
  obtain ⟨as, r1⟩ := Dp.reads I d x v hd rx
  rcases he with he | he
  · obtain ⟨bs, r2⟩ := Dp.reads I (.tuple ds) y u he ry
    exact SeqAt.notIn_tuple_reads r2 r1 se (SeqAt.canLay_of_shaped sd) (room_in_shaped sd hu) ⟨.bl _, H, I, rfl, q⟩
  · obtain ⟨bs, r2⟩ := Dp.reads I (.list ds) y u he ry
    exact SeqAt.notIn_list_reads r2 r1 se (SeqAt.canLay_of_shaped sd) (room_in_shaped sd hu) ⟨.bl _, H, I, rfl, q⟩
def rInU (K : PySem.W.Frag) (neg : Bool) : R2 := fun x y H Q => rIn K neg x y H Q ∨ (∃ a o, y = .ref a ∧ DGet H a x o ∧ Q (.bl (if neg then !o.isSome else o.isSome)) H) ∨
  (∃ c z, x = .str ⟨#[c]⟩ ∧ y = .str z ∧ Q (.bl (if neg then !decide (c ∈ z.cps.toList) else decide (c ∈ z.cps.toList))) H) ∨ rInDT K neg x y H Q
def rIxU (K : PySem.W.Frag) : R2 := fun x y H Q => rIxL K x y H Q ∨ rIxT K x y H Q ∨ rIxS x y H Q ∨ ∃ a v, x = .ref a ∧ DGet H a y (some v) ∧ Q v H
def rLenU (K : PySem.W.Frag) : List V → Hp → VK → Prop := fun xs H Q => (∃ x n, xs = [x] ∧ LenV K x H n ∧ Q (.int n) H) ∨ ∃ a kvs, xs = [.ref a] ∧ H a = some (.dK kvs) ∧ Q (.int (kvs.length : Nat)) H
def rAbs : List V → Hp → VK → Prop := fun xs H Q => ∃ i, xs = [.int i] ∧ Q (.int (if i < 0 then -i else i)) H
def rMax2 : List V → Hp → VK → Prop := fun xs H Q => ∃ i j, xs = [.int i, .int j] ∧ Q (.int (if j > i then j else i)) H
def rMin2 : List V → Hp → VK → Prop := fun xs H Q => ∃ i j, xs = [.int i, .int j] ∧ Q (.int (if j < i then j else i)) H
def rInt1 : List V → Hp → VK → Prop := fun xs H Q => (∃ i, xs = [.int i] ∧ Q (.int i) H) ∨ ∃ k, xs = [.bl k] ∧ Q (.int (if k then 1 else 0)) H
def rStrI : List V → Hp → VK → Prop := fun xs H Q => ∃ i, xs = [.int i] ∧ i.natAbs.log2 < 1920 ∧ Q (.str (toString i)) H
def rCmpI (p : Int → Int → Bool) : R2 := rI0 fun i j => .bl (p i j)

section
variable {X : Cx} {a b c : Expr} {ta tb tc : TE} {pos : Pos}
theorem op_addU {K : PySem.W.Frag} (hK : X.K = K) : OpR X (binaryOp .Add) (rAddU K) := by
  subst hK
  intro pins s σ H x y v u Q I rx ry h
  cases x <;> cases y <;> first | exact h.elim | skip
  · exact op_add pins s σ H _ _ v u Q I rx ry ⟨_, _, rfl, rfl, h⟩
  · exact op_add_str pins s σ H _ _ v u Q I rx ry ⟨_, _, rfl, rfl, h.1, h.2⟩
  · rcases h with h | h
    · exact op_cat pins s σ H _ _ v u Q I rx ry h
    · exact op_catA pins s σ H _ _ v u Q I rx ry h
theorem op_mulU : OpR X (binaryOp .Mult) rMulU := by
  intro pins s σ H x y v u Q I rx ry h
  cases x <;> cases y <;> first | exact h.elim | skip
  · rcases h with ⟨h | h, q⟩
    · exact op_mul pins s σ H _ _ v u Q I rx ry ⟨_, _, rfl, rfl, h, q⟩
    · exact op_mulW pins s σ H _ _ v u Q I rx ry ⟨_, _, rfl, rfl, h, q⟩
  · rcases h with h | h
    · exact op_rep pins s σ H _ _ v u Q I rx ry h
    · exact op_repTU pins s σ H _ _ v u Q I rx ry h
theorem op_eqU {K : PySem.W.Frag} (hK : X.K = K) (hu : X.A.units + 64 < cLine) : OpR X (compareOp .Eq) (rEqU K false) := by
  subst hK
  intro pins s σ H x y v u Q I rx ry h
  rcases h with ⟨hs, q⟩ | h
  · exact op_eq pins s σ H x y v u Q I rx ry ⟨hs, q⟩
  · exact op_eqD hu pins s σ H x y v u Q I rx ry h
theorem op_neU {K : PySem.W.Frag} (hK : X.K = K) (hu : X.A.units + 64 < cLine) : OpR X (compareOp .NotEq) (rEqU K true) := by
  subst hK
  intro pins s σ H x y v u Q I rx ry h
  rcases h with ⟨hs, q⟩ | h
  · exact op_ne pins s σ H x y v u Q I rx ry ⟨hs, q⟩
  · exact op_neD hu pins s σ H x y v u Q I rx ry h
theorem op_inU {K : PySem.W.Frag} (hK : X.K = K) (hu : X.A.units + 65 < cLine) : OpR X (compareOp .In) (rInU K false) := by
  subst hK
  intro pins s σ H x y v u Q I rx ry h
  rcases h with h | ⟨a, o, rfl, g, q⟩ | ⟨c, z, rfl, rfl, q⟩ | h
  · exact op_in_seq pins s σ H x y v u Q I rx ry h
  · obtain rfl : u = Value.ref a := ry
    exact d_in (by omega) I g rx fun s1 I1 => ⟨.bl _, H, I1, rfl, q⟩
  · exact op_in_sign pins s σ H _ _ v u Q I rx ry ⟨c, z, rfl, rfl, q⟩
  · exact op_inDT hu pins s σ H x y v u Q I rx ry h
theorem op_niU {K : PySem.W.Frag} (hK : X.K = K) (hu : X.A.units + 65 < cLine) : OpR X (compareOp .NotIn) (rInU K true) := by
  subst hK
  intro pins s σ H x y v u Q I rx ry h
  rcases h with h | ⟨a, o, rfl, g, q⟩ | ⟨c, z, rfl, rfl, q⟩ | h
  · exact op_notIn_seq pins s σ H x y v u Q I rx ry h
  · obtain rfl : u = Value.ref a := ry
    exact d_notIn (by omega) I g rx fun s1 I1 => ⟨.bl _, H, I1, rfl, q⟩
  · exact op_notIn_sign pins s σ H _ _ v u Q I rx ry ⟨c, z, rfl, rfl, q⟩
  · exact op_niDT hu pins s σ H x y v u Q I rx ry h
theorem ix_dict (hu : X.A.units + 1 < cLine) : IxR X (fun x y H Q => ∃ a v, x = .ref a ∧ DGet H a y (some v) ∧ Q v H) := by
  intro value slice pins s σ H x y v u Q I rx ry h hs
  obtain ⟨a, z, rfl, g, q⟩ := h
  obtain rfl : v = Value.ref a := rx
  exact tail_any (dict_typeIs I g) PySem.F.slot_dict_getitem.lookup (d_getItem hu I g ry fun w' s' I' rw' => ⟨z, H, I', rw', q⟩) hs
theorem ix_U {K : PySem.W.Frag} (hK : X.K = K) (hu : X.A.units + 1 < cLine) : IxR X (rIxU K) := by
  subst hK
  exact ix_list.or (ix_tup.or (ix_str.or (ix_dict hu)))
theorem pe_ixU {K : PySem.W.Frag} (hK : X.K = K) {a b : Expr} {ta tb : TE} {pos : Pos} (hu : X.A.units + 1 < cLine) (ha : PE X a ta) (hb : PE X b tb) (hs : PlainIx b := by exact fun _ _ => rfl) : PE X (.Subscript a b pos) (tOp (rIxU K) ta tb) := pe_ix (ix_U hK hu) ha hb hs
theorem c_len {K : PySem.W.Frag} (hK : X.K = K) : CallR X (.builtin "len") (rLenU K) := by
  subst hK
  intro pins s σ H xs us Q I r h
  rcases h with h | ⟨a, kvs, rfl, e, q⟩
  · exact call_len pins s σ H xs us Q I r h
  · rw [Vals.ref1 r]
    exact d_len I (.inl e) fun t s1 I1 => ⟨.int _, H, I1, ⟨_, rfl⟩, q⟩
theorem c_abs : CallR X (.builtin "abs") rAbs := call_abs
theorem c_max2 (hc : X.calm = true) : CallR X (.builtin "max") rMax2 := call_max2 hc
theorem c_min2 (hc : X.calm = true) : CallR X (.builtin "min") rMin2 := call_min2 hc
theorem c_int : CallR X (.type "int") rInt1 := call_int1
theorem c_str : CallR X (.type "str") rStrI := call_str_int
theorem c_isi {K : PySem.W.Frag} (hK : X.K = K) : CallR X (.builtin "isinstance") (rIsi K) := by
  subst hK
  exact call_isi
theorem o_lt : OpR X (compareOp .Lt) (rCmpI fun i j => decide (i < j)) := op_lt
theorem o_le : OpR X (compareOp .LtE) (rCmpI fun i j => decide (i ≤ j)) := op_le
theorem o_gt : OpR X (compareOp .Gt) (rCmpI fun i j => decide (j < i)) := op_gt
theorem o_ge : OpR X (compareOp .GtE) (rCmpI fun i j => decide (j ≤ i)) := op_ge
/-- what is walked: a list or a tuple -/
def iSeq (K : PySem.W.Frag) (tl : TE) : TI := fun σ H R => tl σ H fun x H1 => (∃ a xs, x = .ref a ∧ SqL K H1 a xs ∧ R (Itl K a) H1) ∨ ∃ a xs, x = .ref a ∧ SqT K H1 a xs ∧ R (Itt K a) H1
/-- an iterator that was just laid -/
theorem pie_new {pins : List (Addr × Obj)} {σ : L2.St} {H : Hp} {s : Shared} {R : It → Hp → Prop} {tg : Expr} {o : Obj} {J : It} {tn : Nat → Heap → Prop} (I : Inv X pins σ H s)
    (tu : Turn X.prog X.w X.K tg J [s.heap.objs.size] s.heap.objs.size tn) (h0 : tn 0 (s.heap.push o)) (q : R J H) : PIE X pins σ tg R (.ref s.heap.objs.size) { s with heap := s.heap.push o } := by
  have k := I.kept (t' := s.toks) (h' := s.heap.push o) (fun b u e => Heap.get?_push_of_some _ e)
  refine ⟨_, _, tn, J, H, rfl, k, tu, h0, ?_, q⟩
  intro b hb
  rw [List.mem_singleton.mp hb]
  exact I.fpOk (Nat.le_refl _) (I.hok.fresh (Nat.le_refl _))
theorem pi_seq {K : PySem.W.Frag} (hK : X.K = K) {tg l : Expr} {tl : TE} (hl : PE X l tl) : PI X tg l (iSeq K tl) := by
  subst hK
  refine ⟨fun pins s σ H R I h => thn (hl.run pins s σ H _ I h) ?_⟩
  rintro v s1 ⟨x, H1, I1, r1, ⟨a, xs, rfl, hq, q⟩ | ⟨a, xs, rfl, hq, q⟩⟩ <;> cases r1
  · obtain ⟨its, _, p, _⟩ := I1.list hq
    exact wpAny_pyIter_list p.isList (pie_new I1 (turn_list a _) ⟨_, Heap.get?_push_size _ rfl, rfl, rfl⟩ q)
  · obtain ⟨its, _, p, _⟩ := I1.tuple hq
    exact wpAny_pyIter_tuple (show s1.heap.IsTuple a its.toArray from p) (pie_new I1 (turn_tuple a _) ⟨_, Heap.get?_push_size _ rfl, rfl, rfl⟩ q)
/-- a value's truth as a test -/
def tTru (K : PySem.W.Frag) (ta : TE) : TT := fun σ H Q => ta σ H fun x H' => ∃ k, TruV K x H' k ∧ Q k H'
theorem pt_tru {K : PySem.W.Frag} (hK : X.K = K) (ha : PE X a ta) (he : ∀ whole, isTrue a X.env whole = (do let v ← whole; standAt a.pos; holding [v] (truthy v)) := by intro _; rfl) : PT X a (tTru K ta) := by
  subst hK
  exact pt_truth ha he
end

/-! ### the steps of a reading -/
/-- a new tuple, a new list, of these -/
def rTupN (xs : List V) : Hp → VK → Prop := fun H Q => xs.length ≤ sizeLine ∧ ∀ p, H p = none → Q (.ref p) (upd H p (.tup xs))
def rLstN (xs : List V) : Hp → VK → Prop := fun H Q => xs.length ≤ sizeLine ∧ ∀ p, H p = none → Q (.ref p) (upd H p (.lst xs))
section
variable {K : PySem.W.Frag} {σ : L2.St} {H : Hp} {D : Ends} {t u : TS} {te ta tb tc : TE} {tt tt' : TT} {Q : VK} {QB : Bool → Hp → Prop} {QA : List V → Hp → Prop} {QS : L2.St → Hp → Prop} {g : TG} {r r' : R2} {v x y : V} {i j : Int} {b c : Bool} {k : Nat} {tA tA' : TA} {A B : Prop} {p q : Prop} {sp : Sp} {E : XK} {dvs vs : List V} {xs ys : List V} {a d C dx : Addr} {fs : List (Str × V)} {f : Str} {z z' : Str}
theorem g_seq (h : t { nx := u D, rt := D.rt, bk := D.bk, ct := D.ct } σ H) : tSeq t u D σ H := h
theorem g_next (h : D.nx σ H) : tNext D σ H := h
theorem g_asg (h : te σ H fun x H1 => g x σ H1 D.nx) : tAsg te g D σ H := h
theorem g_drop (h : te σ H fun _ H1 => D.nx σ H1) : tDrop te D σ H := h
theorem g_ret (h : te σ H D.rt) : tRet te D σ H := h
theorem g_retN (h : D.rt .non H) : tRetN D σ H := h
theorem g_brk (h : D.bk σ H) : tBreak D σ H := h
theorem g_ct (h : D.ct σ H) : tCont D σ H := h
theorem g_ifS (h : tt σ H fun b H1 => if b = true then t D σ H1 else u D σ H1) : tIfS tt t u D σ H := h
theorem g_name (h : QS (σ.set k (some v)) H) : gName k v σ H QS := h
theorem g_aug {ti : TIp} (e : σ[k]? = some (some x)) (h : te σ H fun y H1 => ti x y H1 fun z H2 => D.nx (σ.set k (some z)) H2) : tAug k te ti D σ H := ⟨x, e, h⟩
theorem g_ipI {f : Int → Int → Int} (h : Q (.int (f i j)) H) : ipI f (.int i) (.int j) H Q := ⟨i, j, rfl, rfl, h⟩
theorem g_var (e : σ[k]? = some (some v)) (h : Q v H) : tVar k σ H Q := ⟨v, e, h⟩
theorem g_c (h : Q v H) : tC v σ H Q := h
theorem g_op (h : ta σ H fun x H1 => tb σ H1 fun y H2 => r x y H2 Q) : tOp r ta tb σ H Q := h
theorem g_un {r : V → Hp → VK → Prop} (h : ta σ H fun x H1 => r x H1 Q) : tUn r ta σ H Q := h
theorem g_rU {g : Int → V} (h : Q (g i) H) : rU g (.int i) H Q := ⟨i, rfl, h⟩
theorem g_I0 {g : Int → Int → V} (h : Q (g i j) H) : rI0 g (.int i) (.int j) H Q := ⟨i, j, rfl, rfl, h⟩
theorem g_I {C : Int → Int → Prop} {g : Int → Int → V} (hc : C i j) (h : Q (g i j) H) : rI C g (.int i) (.int j) H Q := ⟨i, j, rfl, rfl, hc, h⟩
theorem g_cmpI {p : Int → Int → Bool} (h : Q (.bl (p i j)) H) : rCmpI p (.int i) (.int j) H Q := ⟨i, j, rfl, rfl, h⟩
theorem g_addI (h : Q (.int (i + j)) H) : rAddU K (.int i) (.int j) H Q := h
theorem g_addS (hl : z.length + z'.length ≤ sizeLine) (h : Q (.str (z ++ z')) H) : rAddU K (.str z) (.str z') H Q := ⟨hl, h⟩
theorem g_mulI (hc : CMul i j ∨ CMulW i j) (h : Q (.int (i * j)) H) : rMulU (.int i) (.int j) H Q := ⟨hc, h⟩
theorem g_eqI (h : Q (.bl (decide (i = j))) H) : rEqU K false (.int i) (.int j) H Q := .inl ⟨rfl, by
  have e : decide (V.int i = V.int j) = decide (i = j) := by simp
  show Q (.bl (decide (V.int i = V.int j))) H
  rw [e]
  exact h⟩
theorem g_neI (h : Q (.bl (!decide (i = j))) H) : rEqU K true (.int i) (.int j) H Q := .inl ⟨rfl, by
  have e : decide (V.int i = V.int j) = decide (i = j) := by simp
  show Q (.bl (!decide (V.int i = V.int j))) H
  rw [e]
  exact h⟩
theorem g_eqS (h : Q (.bl (decide (z = z'))) H) : rEqU K false (.str z) (.str z') H Q := .inl ⟨rfl, by
  have e : decide (V.str z = V.str z') = decide (z = z') := by simp
  show Q (.bl (decide (V.str z = V.str z'))) H
  rw [e]
  exact h⟩
theorem g_neS (h : Q (.bl (!decide (z = z'))) H) : rEqU K true (.str z) (.str z') H Q := .inl ⟨rfl, by
  have e : decide (V.str z = V.str z') = decide (z = z') := by simp
  show Q (.bl (!decide (V.str z = V.str z'))) H
  rw [e]
  exact h⟩
theorem g_eqB (h : Q (.bl (decide (b = c))) H) : rEqU K false (.bl b) (.bl c) H Q := .inl ⟨rfl, by
  have e : decide (V.bl b = V.bl c) = decide (b = c) := by simp
  show Q (.bl (decide (V.bl b = V.bl c))) H
  rw [e]
  exact h⟩
theorem g_neB (h : Q (.bl (!decide (b = c))) H) : rEqU K true (.bl b) (.bl c) H Q := .inl ⟨rfl, by
  have e : decide (V.bl b = V.bl c) = decide (b = c) := by simp
  show Q (.bl (!decide (V.bl b = V.bl c))) H
  rw [e]
  exact h⟩
theorem g_eqD {d e : PyData} (h1 : Dp K H x d) (h2 : Dp K H y e) (s1 : SeqAt.shaped d = true) (s2 : SeqAt.shaped e = true) (h : Q (.bl (PyData.eqv d e)) H) : rEqU K false x y H Q := .inr ⟨d, e, h1, h2, s1, s2, h⟩
theorem g_neD {d e : PyData} (h1 : Dp K H x d) (h2 : Dp K H y e) (s1 : SeqAt.shaped d = true) (s2 : SeqAt.shaped e = true) (h : Q (.bl (!PyData.eqv d e)) H) : rEqU K true x y H Q := .inr ⟨d, e, h1, h2, s1, s2, h⟩
theorem g_test (h : te σ H fun x H' => ∃ k, x = .bl k ∧ QB k H') : tTest te σ H QB := h
theorem g_B (h : te σ H fun x H' => ∃ k, x = .bl k ∧ QB k H') : tB te σ H QB := h
theorem g_exb {R : Bool → Prop} (h : R b) : ∃ k, V.bl b = V.bl k ∧ R k := ⟨b, rfl, h⟩
theorem g_tru (h : te σ H fun x H' => ∃ k, TruV K x H' k ∧ QB k H') : tTru K te σ H QB := h
theorem g_truB {R : Bool → Prop} (h : R b) : ∃ k, TruV K (.bl b) H k ∧ R k := ⟨b, rfl, h⟩
theorem g_truI {R : Bool → Prop} (h : R (i != 0)) : ∃ k, TruV K (.int i) H k ∧ R k := ⟨_, rfl, h⟩
theorem g_truN {R : Bool → Prop} (h : R false) : ∃ k, TruV K .non H k ∧ R k := ⟨_, rfl, h⟩
theorem g_not (h : tt σ H fun c H1 => QB (!c) H1) : tNot tt σ H QB := h
theorem g_and (h : tt σ H fun c H1 => if c = true then tt' σ H1 QB else QB false H1) : tAnd tt tt' σ H QB := h
theorem g_or (h : tt σ H fun c H1 => if c = true then QB true H1 else tt' σ H1 QB) : tOr tt tt' σ H QB := h
theorem g_notV (h : ta σ H fun x H1 => ∃ c, x = .bl c ∧ Q (.bl (!c)) H1) : tNotV ta σ H Q := h
theorem g_andV (h : ta σ H fun x H1 => ∃ c, x = .bl c ∧ if c = true then tb σ H1 Q else Q (.bl false) H1) : tAndV ta tb σ H Q := h
theorem g_orV (h : ta σ H fun x H1 => ∃ c, x = .bl c ∧ if c = true then Q (.bl true) H1 else tb σ H1 Q) : tOrV ta tb σ H Q := h
theorem g_ifE (h : tt σ H fun c H1 => if c = true then ta σ H1 Q else tb σ H1 Q) : tIf tt ta tb σ H Q := h
theorem g_chain (h : ta σ H fun x H1 => tb σ H1 fun y H2 => r x y H2 fun z H3 => ∃ k, z = .bl k ∧ (if k = true then tc σ H3 fun w' H4 => r' y w' H4 Q else Q (.bl false) H3)) : tChain r r' ta tb tc σ H Q := h
theorem g_nilA (h : QA [] H) : tNil σ H QA := h
theorem g_consA (h : ta σ H fun x H1 => tA σ H1 fun xs H2 => QA (x :: xs) H2) : tCons ta tA σ H QA := h
theorem g_tup (h : tA σ H fun xs H1 => rTupN xs H1 Q) : tTup tA σ H Q := h
theorem g_lst (h : tA σ H fun xs H1 => rLstN xs H1 Q) : tLst tA σ H Q := h
theorem g_cb {r : List V → Hp → VK → Prop} (h : tA σ H fun vs H1 => r vs H1 Q) : tCB r tA σ H Q := h
theorem g_call (h : tA σ H fun vs H1 => sp (vs ++ dvs) H1 Q E) : tCall sp dvs E tA σ H Q := h
theorem g_bm {T : String} {r : V → List V → Hp → VK → Prop} (h : te σ H fun x H1 => tyV K T x H1 ∧ tA σ H1 fun xs H2 => r x xs H2 Q) : tBM K T r te tA σ H Q := h
theorem g_bm0 {T : String} {r : V → List V → Hp → VK → Prop} (h : te σ H fun x H1 => tyV K T x H1 ∧ r x [] H1 Q) : tBM0 K T r te σ H Q := h
theorem g_lenL (hl : SqL K H a xs) (h : Q (.int (xs.length : Nat)) H) : rLenU K [.ref a] H Q := .inl ⟨_, _, rfl, .inl ⟨_, hl, rfl⟩, h⟩
theorem g_lenT (hl : SqT K H a xs) (h : Q (.int (xs.length : Nat)) H) : rLenU K [.ref a] H Q := .inl ⟨_, _, rfl, .inr ⟨_, hl, rfl⟩, h⟩
theorem g_lenS (hl : z.length ≤ sizeLine) (h : Q (.int (z.length : Nat)) H) : rLenU K [.str z] H Q := .inl ⟨_, _, rfl, ⟨hl, rfl⟩, h⟩
theorem g_abs (h : Q (.int (if i < 0 then -i else i)) H) : rAbs [.int i] H Q := ⟨i, rfl, h⟩
theorem g_max2 (h : Q (.int (if j > i then j else i)) H) : rMax2 [.int i, .int j] H Q := ⟨i, j, rfl, h⟩
theorem g_min2 (h : Q (.int (if j < i then j else i)) H) : rMin2 [.int i, .int j] H Q := ⟨i, j, rfl, h⟩
theorem g_intI (h : Q (.int i) H) : rInt1 [.int i] H Q := .inl ⟨i, rfl, h⟩
theorem g_intB (h : Q (.int (if b then 1 else 0)) H) : rInt1 [.bl b] H Q := .inr ⟨b, rfl, h⟩
theorem g_ixL {n : Nat} (hl : SqL K H a xs) (e : i = (n : Int)) (hv : xs[n]? = some v) (h : Q v H) : rIxU K (.ref a) (.int i) H Q := .inl ⟨_, _, _, _, rfl, rfl, hl, by rw [e]; exact atI_nat hv, h⟩
theorem g_ixL' (hl : SqL K H a xs) (hv : atI xs i = some v) (h : Q v H) : rIxU K (.ref a) (.int i) H Q := .inl ⟨_, _, _, _, rfl, rfl, hl, hv, h⟩
theorem g_ixT {n : Nat} (hl : SqT K H a xs) (e : i = (n : Int)) (hv : xs[n]? = some v) (h : Q v H) : rIxU K (.ref a) (.int i) H Q := .inr (.inl ⟨_, _, _, _, rfl, rfl, hl, by rw [e]; exact atI_nat hv, h⟩)
theorem g_ixT' (hl : SqT K H a xs) (hv : atI xs i = some v) (h : Q v H) : rIxU K (.ref a) (.int i) H Q := .inr (.inl ⟨_, _, _, _, rfl, rfl, hl, hv, h⟩)
theorem g_ixD (g : DGet H a x (some v)) (h : Q v H) : rIxU K (.ref a) x H Q := .inr (.inr (.inr ⟨_, _, rfl, g, h⟩))
theorem g_isi {t u : Value} (hc : ClsV y u) (ht : TyX K H x t) (hk : PySem.W.kitOne K t u = some b) (h : Q (.bl b) H) : rIsi K [x, y] H Q := ⟨x, y, t, u, b, rfl, hc, ht, hk, h⟩
/-- branches -/
theorem g_if [Decidable p] (h1 : p → A) (h2 : ¬ p → B) : if decide p = true then A else B := by
  by_cases h : p
  · rw [if_pos (decide_eq_true h)]
    exact h1 h
  · rw [if_neg fun z => h (of_decide_eq_true z)]
    exact h2 h
theorem g_ifN [Decidable p] (h1 : ¬ p → A) (h2 : p → B) : if (!decide p) = true then A else B := by
  by_cases h : p
  · rw [decide_eq_true h]
    exact h2 h
  · rw [decide_eq_false h]
    exact h1 h
theorem g_ifB (h1 : b = true → A) (h2 : b = false → B) : if b = true then A else B := by
  cases b with
  | true => exact h1 rfl
  | false => exact h2 rfl
theorem g_ifBn (h1 : b = false → A) (h2 : b = true → B) : if (!b) = true then A else B := by
  cases b with
  | true => exact h2 rfl
  | false => exact h1 rfl
theorem g_ifT (h : A) : if true = true then A else B := h
theorem g_ifF (h : B) : if false = true then A else B := h
theorem g_ifNT (h : B) : if (!true) = true then A else B := h
theorem g_ifNF (h : A) : if (!false) = true then A else B := h
/-- a list grown -/
theorem g_append {L : List (Addr × HO)} (M : Has H L) (n : Nat) (h : L[n]? = some (a, .lst xs)) (hl : xs.length < sizeLine) (k : Has (upd H a (.lst (xs ++ [y]))) (L.set n (a, .lst (xs ++ [y]))) → Q .non (upd H a (.lst (xs ++ [y])))) : rAppend (.ref a) [y] H Q :=
  ⟨a, xs, y, rfl, rfl, M.get n h, hl, k (M.set n h)⟩
theorem g_setL {L : List (Addr × HO)} {R : Hp → Prop} {m : Nat} (M : Has H L) (n : Nat) (h : L[n]? = some (a, .lst xs)) (hi : ixN xs.length i = some m) (k : Has (upd H a (.lst (xs.set m y))) (L.set n (a, .lst (xs.set m y))) → R (upd H a (.lst (xs.set m y)))) : rSetL (.ref a) (.int i) y H R :=
  ⟨a, xs, i, m, rfl, rfl, M.get n h, hi, k (M.set n h)⟩
/-- a new object -/
theorem g_new {L : List (Addr × HO)} {o : HO} {R : Addr → Hp → Prop} (M : Has H L) (k : ∀ p, H p = none → Has (upd H p o) (L ++ [(p, o)]) → R p (upd H p o)) : ∀ p, H p = none → R p (upd H p o) := fun p hp => k p hp (M.new hp)
end
theorem mul_ok {i j : Int} (h : -18446744073709551616 < j) (h2 : j < 18446744073709551616) : CMul i j ∨ CMulW i j := .inl (.inr ⟨h, h2⟩)
theorem mul_ok' {i j : Int} (h : -18446744073709551616 < i) (h2 : i < 18446744073709551616) : CMul i j ∨ CMulW i j := .inl (.inl ⟨h, h2⟩)
theorem cdivW_of {i j : Int} (h : 0 < j) (h2 : j < 2 ^ 64) : CDivW i j := wide_div h (b := 64) (by omega) (by decide) (by decide)
theorem cpow_of {i j : Int} (h : 0 ≤ j) (h2 : j ≤ 1000000) (h3 : i.natAbs < 2 ^ 64) : CPow i j := ⟨h, h2, h3⟩

/-! ### loops -/
/-- what a for asks once its iterator has come -/
def ForW (g : TG) (tb : TS) (D : Ends) (σ : L2.St) : It → Hp → Prop := fun J H1 => ∃ W : Nat → Nat → L2.St → Hp → Prop, (∃ m, W 0 m σ H1) ∧ ∀ i m σ H, W i m σ H →
  (J.stop i H ∧ D.nx σ H) ∨ (J.go i H ∧ ∃ N : L2.St → Hp → Prop, (∀ σ' H', N σ' H' → ∃ m', m' < m ∧ W (i + 1) m' σ' H') ∧ ∀ x H', J.yld i H x H' → g x σ H' fun σ2 H2 => tb { D with nx := N, ct := N, bk := D.nx } σ2 H2)
def rR1 : List V → Hp → (It → Hp → Prop) → Prop := fun vs H R => ∃ j : Int, vs = [.int j] ∧ -(2 ^ 62) ≤ j ∧ j < 2 ^ 62 ∧ R (Itr 0 j.toNat) H
def rR2 : List V → Hp → (It → Hp → Prop) → Prop := fun vs H R => ∃ i j : Int, vs = [.int i, .int j] ∧ (-(2 ^ 62) ≤ i ∧ i < 2 ^ 62 ∧ -(2 ^ 62) ≤ j ∧ j < 2 ^ 62) ∧ R (Itr i (j - i).toNat) H
def iR (r : List V → Hp → (It → Hp → Prop) → Prop) (ta : TA) : TI := fun σ H R => ta σ H fun vs H1 => r vs H1 R
theorem pi_r1 {X : Cx} {tg a : Expr} {ta : TA} {p pos : Pos} (hg : Gl X "range") (hm : X.mg "range" = none) (ha : PA X [a] ta) (hs : starEach [a] X.env = [(false, eval a X.env)] := by rfl) : PI X tg (.Call (.Name "range" p) [a] [] pos) (iR rR1 ta) := pi_range1 hg hm ha hs
theorem pi_r2 {X : Cx} {tg a b : Expr} {ta : TA} {p pos : Pos} (hg : Gl X "range") (hm : X.mg "range" = none) (ha : PA X [a, b] ta) (hs : starEach [a, b] X.env = [(false, eval a X.env), (false, eval b X.env)] := by rfl) (hs2 : starEach [b] X.env = [(false, eval b X.env)] := by rfl) : PI X tg (.Call (.Name "range" p) [a, b] [] pos) (iR rR2 ta) := pi_range2 hg hm ha hs hs2
section
variable {K : PySem.W.Frag} {σ : L2.St} {H : Hp} {D : Ends} {wi : TI} {g : TG} {tb : TS} {ta : TA} {te : TE} {R : It → Hp → Prop} {r : List V → Hp → (It → Hp → Prop) → Prop} {i j : Int} {a : Addr} {xs : List V} {Q : VK} {n lo : Int}
theorem g_for (h : wi σ H (ForW g tb D σ)) : tFor wi g tb D σ H := h
theorem g_iR (h : ta σ H fun vs H1 => r vs H1 R) : iR r ta σ H R := h
theorem g_rR1 (h1 : -4611686018427387904 ≤ i) (h2 : i < 4611686018427387904) (h : R (Itr 0 i.toNat) H) : rR1 [.int i] H R := ⟨i, rfl, h1, h2, h⟩
theorem g_rR2 (h1 : -4611686018427387904 ≤ i ∧ i < 4611686018427387904 ∧ -4611686018427387904 ≤ j ∧ j < 4611686018427387904) (h : R (Itr i (j - i).toNat) H) : rR2 [.int i, .int j] H R := ⟨i, j, rfl, h1, h⟩
theorem g_iSeq (h : te σ H fun x H1 => (∃ a xs, x = .ref a ∧ SqL K H1 a xs ∧ R (Itl K a) H1) ∨ ∃ a xs, x = .ref a ∧ SqT K H1 a xs ∧ R (Itt K a) H1) : iSeq K te σ H R := h
theorem g_seqL (hl : SqL K H a xs) (h : R (Itl K a) H) : (∃ b ys, V.ref a = .ref b ∧ SqL K H b ys ∧ R (Itl K b) H) ∨ ∃ b ys, V.ref a = .ref b ∧ SqT K H b ys ∧ R (Itt K b) H := .inl ⟨a, xs, rfl, hl, h⟩
theorem g_seqT (hl : SqT K H a xs) (h : R (Itt K a) H) : (∃ b ys, V.ref a = .ref b ∧ SqL K H b ys ∧ R (Itl K b) H) ∨ ∃ b ys, V.ref a = .ref b ∧ SqT K H b ys ∧ R (Itt K b) H := .inr ⟨a, xs, rfl, hl, h⟩
theorem f_range {lo : Int} {n : Nat} (Pv : Nat → L2.St → Hp → Prop) (h0 : Pv 0 σ H)
    (hs : ∀ i σ H, i < n → Pv i σ H → g (.int (lo + i)) σ H fun σ2 H2 => tb { nx := Pv (i + 1), rt := D.rt, ct := Pv (i + 1), bk := D.nx } σ2 H2) (hd : ∀ σ H, Pv n σ H → D.nx σ H) : ForW g tb D σ (Itr lo n) H := for_range Pv h0 hs hd
theorem f_list (Pv : Nat → L2.St → Hp → Prop) (h0 : Pv 0 σ H) (hl : ∀ i σ H, i ≤ xs.length → Pv i σ H → SqL K H a xs)
    (hs : ∀ i x σ H, xs[i]? = some x → Pv i σ H → g x σ H fun σ2 H2 => tb { nx := Pv (i + 1), rt := D.rt, ct := Pv (i + 1), bk := D.nx } σ2 H2) (hd : ∀ σ H, Pv xs.length σ H → D.nx σ H) : ForW g tb D σ (Itl K a) H := for_list Pv h0 hl hs hd
theorem f_tup (Pv : Nat → L2.St → Hp → Prop) (h0 : Pv 0 σ H) (hl : ∀ i σ H, i ≤ xs.length → Pv i σ H → SqT K H a xs)
    (hs : ∀ i x σ H, xs[i]? = some x → Pv i σ H → g x σ H fun σ2 H2 => tb { nx := Pv (i + 1), rt := D.rt, ct := Pv (i + 1), bk := D.nx } σ2 H2) (hd : ∀ σ H, Pv xs.length σ H → D.nx σ H) : ForW g tb D σ (Itt K a) H := for_tup Pv h0 hl hs hd
/-- while: W by a measure and the state -/
def WhileW (c : TT) (tb : TS) (D : Ends) (W : Nat → L2.St → Hp → Prop) : Prop := ∀ m σ H, W m σ H →
  c σ H fun b H1 => if b = true then ∃ N : L2.St → Hp → Prop, (∀ σ' H', N σ' H' → ∃ m', m' < m ∧ W m' σ' H') ∧ tb { D with nx := N, ct := N, bk := D.nx } σ H1 else D.nx σ H1
theorem g_whileT {m : Nat} {W : Nat → L2.St → Hp → Prop} {A : (L2.St → Hp → Prop) → Prop} (h : A fun σ' H' => ∃ m', m' < m ∧ W m' σ' H') : ∃ N : L2.St → Hp → Prop, (∀ σ' H', N σ' H' → ∃ m', m' < m ∧ W m' σ' H') ∧ A N := ⟨_, fun _ _ h => h, h⟩
/-! ### isinstance of the scalars -/
theorem isi_of {x : V} {T T' : String} {b : Bool} (ht : TyX K H x (.type T)) (hk : kitB T T' = some b) (h : Q (.bl b) H) : rIsi K [x, .ty T'] H Q := ⟨x, .ty T', .type T, .type T', b, rfl, .ty T', ht, kit_ty hk, h⟩
theorem k_ii : kitB "int" "int" = some true := by decide +kernel
theorem k_ib : kitB "int" "bool" = some false := by decide +kernel
theorem k_bi : kitB "bool" "int" = some true := by decide +kernel
theorem k_bb : kitB "bool" "bool" = some true := by decide +kernel
theorem k_is_ : kitB "int" "str" = some false := by decide +kernel
theorem k_bs : kitB "bool" "str" = some false := by decide +kernel
theorem k_it : kitB "int" "tuple" = some false := by decide +kernel
theorem k_bt : kitB "bool" "tuple" = some false := by decide +kernel
theorem k_si : kitB "str" "int" = some false := by decide +kernel
theorem k_sb : kitB "str" "bool" = some false := by decide +kernel
theorem k_ss : kitB "str" "str" = some true := by decide +kernel
theorem k_st : kitB "str" "tuple" = some false := by decide +kernel
theorem k_ni : kitB "NoneType" "int" = some false := by decide +kernel
theorem k_nb : kitB "NoneType" "bool" = some false := by decide +kernel
theorem k_ns : kitB "NoneType" "str" = some false := by decide +kernel
theorem k_nt : kitB "NoneType" "tuple" = some false := by decide +kernel
theorem k_tt : kitB "tuple" "tuple" = some true := by decide +kernel
theorem k_ti : kitB "tuple" "int" = some false := by decide +kernel
theorem k_tb : kitB "tuple" "bool" = some false := by decide +kernel
theorem k_ts : kitB "tuple" "str" = some false := by decide +kernel
variable {z : Str} {b : Bool}
theorem g_isiIi (h : Q (.bl true) H) : rIsi K [.int i, .ty "int"] H Q := isi_of (.base (.int i)) k_ii h
theorem g_isiIb (h : Q (.bl false) H) : rIsi K [.int i, .ty "bool"] H Q := isi_of (.base (.int i)) k_ib h
theorem g_isiIs (h : Q (.bl false) H) : rIsi K [.int i, .ty "str"] H Q := isi_of (.base (.int i)) k_is_ h
theorem g_isiIt (h : Q (.bl false) H) : rIsi K [.int i, .ty "tuple"] H Q := isi_of (.base (.int i)) k_it h
theorem g_isiBi (h : Q (.bl true) H) : rIsi K [.bl b, .ty "int"] H Q := isi_of (.base (.bl b)) k_bi h
theorem g_isiBb (h : Q (.bl true) H) : rIsi K [.bl b, .ty "bool"] H Q := isi_of (.base (.bl b)) k_bb h
theorem g_isiBs (h : Q (.bl false) H) : rIsi K [.bl b, .ty "str"] H Q := isi_of (.base (.bl b)) k_bs h
theorem g_isiBt (h : Q (.bl false) H) : rIsi K [.bl b, .ty "tuple"] H Q := isi_of (.base (.bl b)) k_bt h
theorem g_isiSi (h : Q (.bl false) H) : rIsi K [.str z, .ty "int"] H Q := isi_of (.base (.str z)) k_si h
theorem g_isiSb (h : Q (.bl false) H) : rIsi K [.str z, .ty "bool"] H Q := isi_of (.base (.str z)) k_sb h
theorem g_isiSs (h : Q (.bl true) H) : rIsi K [.str z, .ty "str"] H Q := isi_of (.base (.str z)) k_ss h
theorem g_isiSt (h : Q (.bl false) H) : rIsi K [.str z, .ty "tuple"] H Q := isi_of (.base (.str z)) k_st h
theorem g_isiNi (h : Q (.bl false) H) : rIsi K [.non, .ty "int"] H Q := isi_of (.base .non) k_ni h
theorem g_isiNb (h : Q (.bl false) H) : rIsi K [.non, .ty "bool"] H Q := isi_of (.base .non) k_nb h
theorem g_isiNs (h : Q (.bl false) H) : rIsi K [.non, .ty "str"] H Q := isi_of (.base .non) k_ns h
theorem g_isiNt (h : Q (.bl false) H) : rIsi K [.non, .ty "tuple"] H Q := isi_of (.base .non) k_nt h
end
section
variable {H H1 : Hp} {a : Addr} {o : HO}
theorem Same.mut (x : Same H H1) (h : H a = none) : Same H (upd H1 a o) := fun b u e => by
  rw [upd_ne (ne_of_none e h)]
  exact x b u e
theorem Same.new' (x : Same H H1) (h : H1 a = none) : Same H (upd H1 a o) := fun b u e => keep_new (x b u e) h
end
theorem q_int {Q : VK} {x y : Int} {H : Hp} (e : x = y) (h : Q (.int x) H) : Q (.int y) H := e ▸ h
theorem q_bl {Q : VK} {x y : Bool} {H : Hp} (e : x = y) (h : Q (.bl x) H) : Q (.bl y) H := e ▸ h
theorem q_str {Q : VK} {x y : Str} {H : Hp} (e : x = y) (h : Q (.str x) H) : Q (.str y) H := e ▸ h
theorem g_disp {trs : List (TE × TE)} {σ : L2.St} {H : Hp} {Q : VK} (h : ∀ p, H p = none → tPairs trs σ (upd H p (.dK [])) fun ps H2 => H2 p = some (.dK []) ∧ ∃ kvs : List (Key × V), ps = kvs.map (fun kv => (kV kv.1, kv.2)) ∧ kvs.length ≤ 15 ∧ Q (.ref p) (upd H2 p (.dK (mergeK [] kvs)))) : tDisp trs σ H Q := h
theorem g_pairN {σ : L2.St} {H : Hp} {R : List (V × V) → Hp → Prop} (h : R [] H) : tPairs [] σ H R := h
theorem g_pairC {tk tv : TE} {r : List (TE × TE)} {σ : L2.St} {H : Hp} {R : List (V × V) → Hp → Prop} (h : tk σ H fun x H1 => tv σ H1 fun y H2 => tPairs r σ H2 fun ps H3 => R ((x, y) :: ps) H3) : tPairs ((tk, tv) :: r) σ H R := h
theorem g_dput {td ty tv : TE} {D : Ends} {σ : L2.St} {H : Hp} (h : tv σ H fun v H1 => td σ H1 fun x H2 => ty σ H2 fun y H3 => ∃ a H4, x = .ref a ∧ DPut H3 a y v H4 ∧ D.nx σ H4) : sDPut td ty tv D σ H := h

/-! ### the laws' draws: a dict with a row, a place and a seed -/
theorem ne_ra : ¬ (("row" : Str) = "at") := by decide +kernel
theorem ne_rs : ¬ (("row" : Str) = "seed") := by decide +kernel
theorem ne_as : ¬ (("at" : Str) = "seed") := by decide +kernel
theorem ne_sa : ¬ (("seed" : Str) = "at") := by decide +kernel
theorem ne_ar : ¬ (("at" : Str) = "row") := by decide +kernel
theorem ne_sr : ¬ (("seed" : Str) = "row") := by decide +kernel
def drK (r : Addr) (n sd : Int) : List (Key × V) := [(.inr "row", .ref r), (.inr "at", .int n), (.inr "seed", .int sd)]
structure RowOk (row : List Int) (sd : Int) : Prop where
  dig : ∀ x ∈ row, 0 ≤ x ∧ x < 1000
  len : row.length ≤ 1260
  s0 : 0 ≤ sd
  s1 : sd < 1000003
theorem dr_row (r : Addr) (n sd : Int) : valV (drK r n sd) (.inr "row") = some (.ref r) := by
  unfold drK
  exact valV_pos rfl
theorem dr_at (r : Addr) (n sd : Int) : valV (drK r n sd) (.inr "at") = some (.int n) := by
  unfold drK
  rw [valV_neg (fun e => ne_ra (Sum.inr.inj e))]
  exact valV_pos rfl
theorem dr_seed (r : Addr) (n sd : Int) : valV (drK r n sd) (.inr "seed") = some (.int sd) := by
  unfold drK
  rw [valV_neg (fun e => ne_rs (Sum.inr.inj e)), valV_neg (fun e => ne_as (Sum.inr.inj e))]
  exact valV_pos rfl
theorem dr_put (r : Addr) (n m sd : Int) : putK (drK r n sd) (.inr "at") (.int m) = drK r m sd := by
  unfold putK
  rw [valV_any, dr_at]
  simp only [Option.isSome_some, if_true]
  unfold drK
  simp only [List.map_cons, List.map_nil]
  rw [if_neg (fun e => ne_ra (Sum.inr.inj e)), if_pos trivial, if_neg (fun e => ne_sa (Sum.inr.inj e))]
theorem dr_made (r : Addr) (n sd : Int) : mergeK [] [(.inr "row", .ref r), (.inr "at", .int n), (.inr "seed", .int sd)] = drK r n sd := by
  have h1 : putK ([] : List (Key × V)) (.inr "row") (.ref r) = [(.inr "row", .ref r)] := putK_new _ rfl
  have h2 : putK ([(.inr "row", .ref r)] : List (Key × V)) (.inr "at") (.int n) = [(.inr "row", .ref r)] ++ [(.inr "at", .int n)] := putK_new _ (by rw [valV_neg (fun e => ne_ra (Sum.inr.inj e))]; rfl)
  have h3 : putK ([(.inr "row", .ref r), (.inr "at", .int n)] : List (Key × V)) (.inr "seed") (.int sd) = [(.inr "row", .ref r), (.inr "at", .int n)] ++ [(.inr "seed", .int sd)] := putK_new _ (by
    rw [valV_neg (fun e => ne_rs (Sum.inr.inj e)), valV_neg (fun e => ne_as (Sum.inr.inj e))]; rfl)
  unfold mergeK
  simp only [List.foldl_cons, List.foldl_nil]
  rw [h1, h2]
  exact h3
theorem dg_row {H : Hp} {d r : Addr} {n sd : Int} (h : H d = some (.dK (drK r n sd))) : DGet H d (.str "row") (some (.ref r)) := by
  rw [← dr_row r n sd]
  exact DGet.k (k := .inr "row") h
theorem dg_at {H : Hp} {d r : Addr} {n sd : Int} (h : H d = some (.dK (drK r n sd))) : DGet H d (.str "at") (some (.int n)) := by
  rw [← dr_at r n sd]
  exact DGet.k (k := .inr "at") h
theorem dg_seed {H : Hp} {d r : Addr} {n sd : Int} (h : H d = some (.dK (drK r n sd))) : DGet H d (.str "seed") (some (.int sd)) := by
  rw [← dr_seed r n sd]
  exact DGet.k (k := .inr "seed") h
theorem dp_at {H : Hp} {d r : Addr} {n sd : Int} (m : Int) (h : H d = some (.dK (drK r n sd))) : DPut H d (.str "at") (.int m) (upd H d (.dK (drK r m sd))) := by
  rw [← dr_put r n m sd]
  exact DPut.k (k := .inr "at") h (by show 3 < sizeLine; decide)
theorem szl {n : Nat} (h : n ≤ 100000) : n < sizeLine := Nat.lt_of_le_of_lt h (by decide)
theorem szle {n : Nat} (h : n ≤ 100000) : n ≤ sizeLine := Nat.le_trans h (by decide)

/-! ### //, %, shifts by name -/
def rMod : R2 := rI (fun _ j => 0 < j) fun i j => .int (i % j)
def rFdiv : R2 := rI CDivW fun i j => .int (i / j)
def rShl : R2 := rI CPow fun i j => .int (i * 2 ^ j.toNat)
def rPow : R2 := rI CPow fun i j => .int (i ^ j.toNat)
def rShr : R2 := rI (fun _ j => 0 ≤ j) fun i j => .int (i / 2 ^ j.toNat)
section
variable {X : Cx} {i j : Int} {H : Hp} {Q : VK}
theorem o_mod : OpR X (binaryOp .Mod) rMod := op_mod
theorem o_fdiv : OpR X (binaryOp .FloorDiv) rFdiv := op_fdivW
theorem o_shl : OpR X (binaryOp .LShift) rShl := op_shl
theorem o_pow : OpR X (binaryOp .Pow) rPow := op_pow
theorem o_shr : OpR X (binaryOp .RShift) rShr := op_shr
theorem io_fdiv : OpR X (inplaceOp .FloorDiv) rFdiv := iop_fdivW
theorem io_mod : OpR X (inplaceOp .Mod) rMod := iop_mod
theorem g_mod (h : 0 < j) (q : Q (.int (i % j)) H) : rMod (.int i) (.int j) H Q := ⟨i, j, rfl, rfl, h, q⟩
theorem g_fdiv (h : 0 < j) (h2 : j < 18446744073709551616) (q : Q (.int (i / j)) H) : rFdiv (.int i) (.int j) H Q := ⟨i, j, rfl, rfl, cdivW_of h h2, q⟩
theorem g_shl (h : 0 ≤ j) (h2 : j ≤ 1000000) (h3 : i.natAbs < 18446744073709551616) (q : Q (.int (i * 2 ^ j.toNat)) H) : rShl (.int i) (.int j) H Q := ⟨i, j, rfl, rfl, ⟨h, h2, h3⟩, q⟩
theorem g_pow (h : 0 ≤ j) (h2 : j ≤ 1000000) (h3 : i.natAbs < 18446744073709551616) (q : Q (.int (i ^ j.toNat)) H) : rPow (.int i) (.int j) H Q := ⟨i, j, rfl, rfl, ⟨h, h2, h3⟩, q⟩
theorem g_shr (h : 0 ≤ j) (q : Q (.int (i / 2 ^ j.toNat)) H) : rShr (.int i) (.int j) H Q := ⟨i, j, rfl, rfl, h, q⟩
end

/-! ### fields, methods, makes -/
def rFld (K : PySem.W.Frag) (f : Str) : V → Hp → VK → Prop := fun x H Q => ∃ a C dx fs v, x = .ref a ∧ H a = some (.ins C dx fs) ∧ Cls K C ∧ NoAttr K C f ∧ fs.lookup f = some v ∧ Q v H
def rSFld (K : PySem.W.Frag) (f : Str) : V → V → Hp → (Hp → Prop) → Prop := fun x y H R => ∃ a C dx fs, x = .ref a ∧ H a = some (.ins C dx fs) ∧ Cls K C ∧ NoAttr K C f ∧ fs.length < 1000 ∧ R (upd H a (.ins C dx (putF f y fs)))
def tSFld (K : PySem.W.Frag) (ta tv : TE) (f : Str) : TS := fun D σ H => tv σ H fun y H1 => ta σ H1 fun x H2 => rSFld K f x y H2 (D.nx σ)
/-- the receiver of a method's call -/
def rRcv (C : Addr) (m : Str) : V → Hp → (Hp → Prop) → Prop := fun x H R => ∃ a dx fs, x = .ref a ∧ H a = some (.ins C dx fs) ∧ fs.lookup m = none ∧ R H
section
variable {X : Cx} {o e value : Expr} {f : Str} {pos pos' : Pos} {ta tv : TE}
theorem pe_fldU {K : PySem.W.Frag} (hK : X.K = K) (he : PE X e ta) (hb : attributeBase e f X.env (eval e X.env) = eval e X.env) : PE X (.Attribute e f pos) (tUn (rFld K f) ta) := by
  subst hK
  exact pe_fld he hb
theorem ps_fldU {K : PySem.W.Frag} (hK : X.K = K) (ha : PE X o ta) (hv : PE X value tv) (hs : swapsWith value (some (.Attribute o f pos')) pos.line X.env = pure false) : PS X (.Assign [.Attribute o f pos'] value pos) (tSFld K ta tv f) := by
  subst hK
  exact ps_fld ha hv hs
end
section
variable {K : PySem.W.Frag} {σ : L2.St} {H : Hp} {D : Ends} {ta tv : TE} {t : TA} {Q : VK} {v y : V} {a C dx : Addr} {fs fs' : List (Str × V)} {f m : Str} {sp : Sp} {dvs : List V} {E : XK} {L : List (Addr × HO)} {R : Hp → Prop}
theorem g_fld (he : H a = some (.ins C dx fs)) (cl : Cls K C) (na : NoAttr K C f) (l : fs.lookup f = some v) (h : Q v H) : rFld K f (.ref a) H Q := ⟨a, C, dx, fs, v, rfl, he, cl, na, l, h⟩
theorem g_sfld (h : tv σ H fun y H1 => ta σ H1 fun x H2 => rSFld K f x y H2 (D.nx σ)) : tSFld K ta tv f D σ H := h
theorem g_setF (M : Has H L) (n : Nat) (he : L[n]? = some (a, .ins C dx fs)) (cl : Cls K C) (na : NoAttr K C f) (hl : fs.length < 1000) (e : putF f y fs = fs') (k : Has (upd H a (.ins C dx fs')) (L.set n (a, .ins C dx fs')) → R (upd H a (.ins C dx fs'))) : rSFld K f (.ref a) y H R :=
  ⟨a, C, dx, fs, rfl, M.get n he, cl, na, hl, by rw [e]; exact k (M.set n he)⟩
theorem g_meth (h : ta σ H fun x H1 => ∃ a dx fs, x = .ref a ∧ H1 a = some (.ins C dx fs) ∧ fs.lookup m = none ∧ t σ H1 fun vs H2 => sp (x :: (vs ++ dvs)) H2 Q E) : tMeth C m sp dvs E ta t σ H Q := h
theorem g_rcv {A : Prop} (he : H a = some (.ins C dx fs)) (l : fs.lookup m = none) (h : A) : ∃ b dx' fs', V.ref a = .ref b ∧ H b = some (.ins C dx' fs') ∧ fs'.lookup m = none ∧ A := ⟨a, dx, fs, rfl, he, l, h⟩
theorem g_make (h : t σ H fun vs H1 => ∀ x dx, H1 x = none → H1 dx = none → dx ≠ x → sp (.ref x :: (vs ++ dvs)) (upd (upd H1 dx (.own x)) x (.ins C dx [])) (fun v H2 => v = .non ∧ Q (.ref x) H2) E) : tMake C sp dvs E t σ H Q := h
end
section
variable {H : Hp} {x dx C : Addr}
/-- the heap in which an __init__ starts -/
def made (H : Hp) (x dx C : Addr) : Hp := upd (upd H dx (.own x)) x (.ins C dx [])
theorem made_same (hx : H x = none) (hd : H dx = none) : Same H (made H x dx C) := fun b o e => by
  unfold made
  rw [upd_ne (ne_of_none e hx), upd_ne (ne_of_none e hd)]
  exact e
theorem made_at : made H x dx C x = some (.ins C dx []) := upd_same
theorem made_none {p : Addr} (h : made H x dx C p = none) : H p = none ∧ p ≠ x ∧ p ≠ dx := by
  unfold made at h
  by_cases h1 : p = x
  · subst h1; rw [upd_same] at h; cases h
  · rw [upd_ne h1] at h
    by_cases h2 : p = dx
    · subst h2; rw [upd_same] at h; cases h
    · rw [upd_ne h2] at h
      exact ⟨h, h1, h2⟩
end

/-! ### stores by place, replicated lists, slices, all and any -/
def rSetU : V → V → V → Hp → (Hp → Prop) → Prop := fun o i v H Q => rSetL o i v H Q ∨ ∃ a H', o = .ref a ∧ DPut H a i v H' ∧ Q H'
section
variable {X : Cx}
theorem set_U (hu : X.A.units + 1 < cLine) : PSet X rSetU := by
  intro pins s σ H o i v ov iv u Q I ro ri rv h
  rcases h with h | ⟨a, H', rfl, g, q⟩
  · exact set_list pins s σ H o i v ov iv u Q I ro ri rv h
  · obtain rfl : ov = Value.ref a := ro
    exact d_setItem hu I g ri rv fun s1 I1 => ⟨H', I1, q⟩
end
section
variable {K : PySem.W.Frag} {σ : L2.St} {H : Hp} {R : Hp → Prop} {RS : L2.St → Hp → Prop} {te ti : TE} {t : TSet} {v y : V} {a : Addr} {xs : List V} {i : Int} {L : List (Addr × HO)} {m : Nat} {Q : VK}
theorem g_sub (h : te σ H fun o H1 => ti σ H1 fun i H2 => t o i v H2 fun H3 => RS σ H3) : gSub te ti t v σ H RS := h
theorem g_setU (M : Has H L) (n : Nat) (h : L[n]? = some (a, .lst xs)) (hi : i = (m : Int)) (hm : m < xs.length) (k : Has (upd H a (.lst (xs.set m y))) (L.set n (a, .lst (xs.set m y))) → R (upd H a (.lst (xs.set m y)))) : rSetU (.ref a) (.int i) y H R :=
  .inl ⟨a, xs, i, m, rfl, rfl, M.get n h, by
    unfold ixN
    rw [if_pos (by omega), if_pos (by omega)]
    congr 1
    omega, k (M.set n h)⟩
theorem rep_flat {x : V} : ∀ n : Nat, (List.replicate n [x]).flatten = List.replicate n x
  | 0 => rfl
  | n + 1 => by
    rw [List.replicate_succ, List.replicate_succ, List.flatten_cons, rep_flat n]
    rfl
theorem g_rep {x : V} {k : Int} (h : H a = some (.lst [x])) (h0 : -4611686018427387904 ≤ k) (h1 : k ≤ 100000) (q : ∀ p, H p = none → Q (.ref p) (upd H p (.lst (List.replicate k.toNat x)))) : rMulU (.ref a) (.int k) H Q := by
  refine .inl ⟨a, k, [x], rfl, rfl, h, by omega, by omega, szle (by simp; omega), fun p hp => ?_⟩
  rw [rep_flat]
  exact q p hp
theorem g_repI {x : Int} {k : Int} (h : H a = some (.lst [.int x])) (h0 : -4611686018427387904 ≤ k) (h1 : k ≤ 100000) (q : ∀ p, H p = none → Q (.ref p) (upd H p (.lst ((List.replicate k.toNat x).map V.int)))) : rMulU (.ref a) (.int k) H Q :=
  g_rep h h0 h1 fun p hp => by
    have z := q p hp
    rw [List.map_replicate] at z
    exact z
end
def rAllU (K : PySem.W.Frag) : List V → Hp → VK → Prop := fun vs H Q => ∃ (a : Addr) (bs : List Bool), vs = [V.ref a] ∧ SqL K H a (bs.map V.bl) ∧ Q (.bl (bs.all id)) H
def rAnyU (K : PySem.W.Frag) : List V → Hp → VK → Prop := fun vs H Q => ∃ (a : Addr) (bs : List Bool), vs = [V.ref a] ∧ SqL K H a (bs.map V.bl) ∧ Q (.bl (bs.any id)) H
section
variable {X : Cx} {K : PySem.W.Frag} {H : Hp} {Q : VK} {a : Addr} {bs : List Bool}
theorem c_all {K : PySem.W.Frag} (hK : X.K = K) (hc : X.calm = true) : CallR X (.builtin "all") (rAllU K) := by
  subst hK
  exact cr_all hc
theorem c_any {K : PySem.W.Frag} (hK : X.K = K) (hc : X.calm = true) : CallR X (.builtin "any") (rAnyU K) := by
  subst hK
  exact cr_any hc
theorem g_all (h : SqL K H a (bs.map V.bl)) (q : Q (.bl (bs.all id)) H) : rAllU K [.ref a] H Q := ⟨a, bs, rfl, h, q⟩
theorem g_any (h : SqL K H a (bs.map V.bl)) (q : Q (.bl (bs.any id)) H) : rAnyU K [.ref a] H Q := ⟨a, bs, rfl, h, q⟩
end
/-! slices -/
def rSlU (K : PySem.W.Frag) : V → Option Int → Option Int → Hp → VK → Prop := fun x lo hi H Q => rSlL K x lo hi H Q ∨ rSlA K x lo hi H Q ∨ ∃ z, x = .str z ∧ z.length ≤ sizeLine ∧ Q (.str (cutS z lo hi)) H
theorem sl_U {X : Cx} {K : PySem.W.Frag} (hK : X.K = K) : SlR X (rSlU K) := by
  subst hK
  exact sl_list.or (sl_tupA.or sl_str)
section
variable {K : PySem.W.Frag} {σ : L2.St} {H : Hp} {Q : VK} {te : TE} {tl th : TO} {QO : Option Int → Hp → Prop} {r : V → Option Int → Option Int → Hp → VK → Prop} {a : Addr} {xs : List V} {lo hi : Option Int} {i : Int} {z : Str}
theorem g_sl (h : te σ H fun x H1 => tl σ H1 fun l H2 => th σ H2 fun u H3 => r x l u H3 Q) : tSl r te tl th σ H Q := h
theorem g_part (h : te σ H fun x H1 => ∃ i, x = .int i ∧ QO (some i) H1) : tPart te σ H QO := h
theorem g_exi {A : Int → Prop} (h : A i) : ∃ j, V.int i = .int j ∧ A j := ⟨i, rfl, h⟩
theorem g_noPart (h : QO none H) : tNoPart σ H QO := h
theorem g_slL (h : SqL K H a xs) (q : ∀ p, H p = none → Q (.ref p) (upd H p (.lst (cutV xs lo hi)))) : rSlU K (.ref a) lo hi H Q := .inl ⟨a, xs, rfl, h, q⟩
theorem g_slS (hl : z.length ≤ sizeLine) (q : Q (.str (cutS z lo hi)) H) : rSlU K (.str z) lo hi H Q := .inr (.inr ⟨z, rfl, hl, q⟩)
end
theorem cutV_from {xs : List V} {n : Nat} : cutV xs (some (n : Int)) none = xs.drop n := by
  unfold cutV
  rw [HT.sIx_nat, HT.sIx_none]
  by_cases h : n ≤ xs.length
  · rw [Nat.min_eq_left h, List.take_of_length_le (by simp)]
  · rw [Nat.min_eq_right (by omega), List.drop_of_length_le (by omega), List.drop_of_length_le (by omega)]
    simp

/-! ### methods of built-in types, own methods: the written part named -/
section
variable {X : Cx} {K : PySem.W.Frag} {o e : Expr} {es : List Expr} {to : TE} {t : TA} {name : Str} {apos cpos pos : Pos} {T id : String} {r : V → List V → Hp → VK → Prop}
def rTyV (K : PySem.W.Frag) (T : String) : V → Hp → (Hp → Prop) → Prop := fun x H R => tyV K T x H ∧ R H
def tBMU (K : PySem.W.Frag) (T : String) (r : V → List V → Hp → VK → Prop) (to : TE) (t : TA) : TE := fun σ H Q => to σ H fun x H1 => rTyV K T x H1 fun H2 => t σ H2 fun xs H3 => r x xs H3 Q
end
theorem g_lenM {K : PySem.W.Frag} {H : Hp} {a : Addr} {Q : VK} {α : Type} {f : α → V} {ns : List α} (h : SqL K H a (ns.map f)) (q : Q (.int (ns.length : Nat)) H) : rLenU K [.ref a] H Q := g_lenL h (by rw [List.length_map]; exact q)
theorem g_ty_ {K : PySem.W.Frag} {T : String} {x : V} {H : Hp} {A : Prop} (h : tyV K T x H) (q : A) : tyV K T x H ∧ A := ⟨h, q⟩

/-! ### list comprehensions -/
def LcW (g : TG) (tt : TT) (te : TE) (vs : List Nat) (σ : L2.St) (Q : VK) : It → Hp → Prop := fun J H1 => ∀ D, H1 D = none → ∃ W : Nat → Nat → Hp → Prop, (∃ m, W 0 m (upd H1 D (.lst []))) ∧ ∀ i m H, W i m H →
  (J.stop i H ∧ Q (.ref D) H) ∨ (J.go i H ∧ ∃ Nx : Hp → Prop, (∀ H', Nx H' → ∃ m', m' < m ∧ W (i + 1) m' H') ∧ ∀ x H', J.yld i H x H' → g x (wipe σ vs) H' fun σ2 H2 => wipe σ2 vs = wipe σ vs ∧ tt σ2 H2 fun b H3 =>
    if b = true then te σ2 H3 fun y H4 => ∃ acc, H4 D = some (.lst acc) ∧ acc.length < sizeLine ∧ Nx (upd H4 D (.lst (acc ++ [y]))) else Nx H3)
section
variable {K : PySem.W.Frag} {σ : L2.St} {H : Hp} {g : TG} {tt : TT} {te : TE} {wi : TI} {vs : List Nat} {Q : VK} {lo : Int} {n : Nat} {a : Addr} {xs : List V} {QB : Bool → Hp → Prop}
theorem g_lc (h : wi σ H (LcW g tt te vs σ Q)) : tLc wi g tt te vs σ H Q := h
theorem g_yes (h : QB true H) : tYes σ H QB := h
theorem g_wipe {σ1 σ2 : L2.St} {A : Prop} (e : wipe σ1 vs = wipe σ2 vs) (h : A) : wipe σ1 vs = wipe σ2 vs ∧ A := ⟨e, h⟩
theorem l_range (Pv : Addr → Nat → Hp → Prop) (h0 : ∀ D, H D = none → Pv D 0 (upd H D (.lst [])))
    (hs : ∀ D, H D = none → ∀ i H', i < n → Pv D i H' → g (.int (lo + i)) (wipe σ vs) H' fun σ2 H2 => wipe σ2 vs = wipe σ vs ∧ tt σ2 H2 fun b H3 => if b = true then te σ2 H3 fun y H4 => ∃ acc, H4 D = some (.lst acc) ∧ acc.length < sizeLine ∧ Pv D (i + 1) (upd H4 D (.lst (acc ++ [y]))) else Pv D (i + 1) H3)
    (hd : ∀ D, H D = none → ∀ H', Pv D n H' → Q (.ref D) H') : LcW g tt te vs σ Q (Itr lo n) H := fun D hD => lc_range (Pv D) (h0 D hD) (hs D hD) (hd D hD)
theorem l_list (Pv : Addr → Nat → Hp → Prop) (h0 : ∀ D, H D = none → Pv D 0 (upd H D (.lst []))) (hl : ∀ D, H D = none → ∀ i H', i ≤ xs.length → Pv D i H' → SqL K H' a xs)
    (hs : ∀ D, H D = none → ∀ i x H', xs[i]? = some x → Pv D i H' → g x (wipe σ vs) H' fun σ2 H2 => wipe σ2 vs = wipe σ vs ∧ tt σ2 H2 fun b H3 => if b = true then te σ2 H3 fun y H4 => ∃ acc, H4 D = some (.lst acc) ∧ acc.length < sizeLine ∧ Pv D (i + 1) (upd H4 D (.lst (acc ++ [y]))) else Pv D (i + 1) H3)
    (hd : ∀ D, H D = none → ∀ H', Pv D xs.length H' → Q (.ref D) H') : LcW g tt te vs σ Q (Itl K a) H := fun D hD => lc_list (Pv D) (h0 D hD) (hl D hD) (hs D hD) (hd D hD)
theorem l_tup (Pv : Addr → Nat → Hp → Prop) (h0 : ∀ D, H D = none → Pv D 0 (upd H D (.lst []))) (hl : ∀ D, H D = none → ∀ i H', i ≤ xs.length → Pv D i H' → SqT K H' a xs)
    (hs : ∀ D, H D = none → ∀ i x H', xs[i]? = some x → Pv D i H' → g x (wipe σ vs) H' fun σ2 H2 => wipe σ2 vs = wipe σ vs ∧ tt σ2 H2 fun b H3 => if b = true then te σ2 H3 fun y H4 => ∃ acc, H4 D = some (.lst acc) ∧ acc.length < sizeLine ∧ Pv D (i + 1) (upd H4 D (.lst (acc ++ [y]))) else Pv D (i + 1) H3)
    (hd : ∀ D, H D = none → ∀ H', Pv D xs.length H' → Q (.ref D) H') : LcW g tt te vs σ Q (Itt K a) H := fun D hD => lc_tup (Pv D) (h0 D hD) (hl D hD) (hs D hD) (hd D hD)
end
section
variable {H H1 : Hp} {L : List (Addr × HO)} {a b : Addr} {o o' u u' : HO}
/-- two objects have changed -/
theorem Has.call2 (M : Has H L) (k : Keep [a, b] H H1) (i j : Nat) (hi : L[i]? = some (a, o)) (hj : L[j]? = some (b, u)) (hij : i ≠ j) (e1 : H1 a = some o') (e2 : H1 b = some u') : Has H1 ((L.set i (a, o')).set j (b, u')) := by
  have nab : a ≠ b := M.ne i j hi hj hij
  have k1 : Keep [a] H (upd H1 b u) := fun x w e n => by
    by_cases hx : x = b
    · subst hx
      rw [upd_same]
      exact (M.get j hj).symm.trans e
    · rw [upd_ne hx]
      refine k x w e ?_
      simp only [List.mem_cons, List.not_mem_nil, or_false, not_or]
      exact ⟨fun z => n (List.mem_singleton.mpr z), hx⟩
  have M1 : Has (upd H1 b u) (L.set i (a, o')) := M.call1 k1 i hi (by rw [upd_ne nab]; exact e1)
  have hj' : (L.set i (a, o'))[j]? = some (b, u) := by rw [List.getElem?_set_ne hij]; exact hj
  have M2 := M1.set (o' := u') j hj'
  have e : upd (upd H1 b u) b u' = H1 := by
    rw [upd_upd]
    funext x
    by_cases hx : x = b
    · subst hx
      rw [upd_same, e2]
    · rw [upd_ne hx]
  rw [e] at M2
  exact M2
end

/-! ### None asked -/
def rIsN (neg : Bool) : R2 := fun x y H Q => y = .non ∧ Q (.bl (if neg then !decide (x = .non) else decide (x = .non))) H
theorem o_isN {X : Cx} : OpR X (compareOp .Is) (rIsN false) := op_isN
theorem o_notN {X : Cx} : OpR X (compareOp .IsNot) (rIsN true) := op_notN
section
variable {H : Hp} {Q : VK} {i : Int} {z : Str} {b : Bool} {a : Addr}
theorem g_isNn (h : Q (.bl true) H) : rIsN false .non .non H Q := ⟨rfl, h⟩
theorem g_isNi (h : Q (.bl false) H) : rIsN false (.int i) .non H Q := ⟨rfl, h⟩
theorem g_isNs (h : Q (.bl false) H) : rIsN false (.str z) .non H Q := ⟨rfl, h⟩
theorem g_isNb (h : Q (.bl false) H) : rIsN false (.bl b) .non H Q := ⟨rfl, h⟩
theorem g_isNr (h : Q (.bl false) H) : rIsN false (.ref a) .non H Q := ⟨rfl, h⟩
theorem g_noNn (h : Q (.bl false) H) : rIsN true .non .non H Q := ⟨rfl, h⟩
theorem g_noNi (h : Q (.bl true) H) : rIsN true (.int i) .non H Q := ⟨rfl, h⟩
theorem g_noNs (h : Q (.bl true) H) : rIsN true (.str z) .non H Q := ⟨rfl, h⟩
theorem g_noNb (h : Q (.bl true) H) : rIsN true (.bl b) .non H Q := ⟨rfl, h⟩
theorem g_noNr (h : Q (.bl true) H) : rIsN true (.ref a) .non H Q := ⟨rfl, h⟩
end

/-! ### list.index, min and max of a list -/
def rIndexU (K : PySem.W.Frag) : V → List V → Hp → VK → Prop := rIndex K
theorem m_index {X : Cx} {K : PySem.W.Frag} (hK : X.K = K) : MtR X "list.index" (rIndexU K) := by
  subst hK
  exact mt_index
def rMin1 (K : PySem.W.Frag) : List V → Hp → VK → Prop := rMin K
def rMax1 (K : PySem.W.Frag) : List V → Hp → VK → Prop := rMax K
theorem c_min1 {X : Cx} {K : PySem.W.Frag} (hK : X.K = K) (hc : X.calm = true) : CallR X (.builtin "min") (rMin1 K) := by
  subst hK
  exact cr_min hc
theorem c_max1 {X : Cx} {K : PySem.W.Frag} (hK : X.K = K) (hc : X.calm = true) : CallR X (.builtin "max") (rMax1 K) := by
  subst hK
  exact cr_max hc
section
variable {K : PySem.W.Frag} {H : Hp} {Q : VK} {a : Addr} {ns : List Int} {ys : List V} {y z : V} {j : Nat}
theorem g_min1 (h : SqL K H a (ns.map V.int)) (h0 : 0 < ns.length) (q : ∀ m, m ∈ ns → (∀ y, y ∈ ns → m ≤ y) → Q (.int m) H) : rMin1 K [.ref a] H Q := ⟨a, ns, rfl, h, h0, q⟩
theorem g_max1 (h : SqL K H a (ns.map V.int)) (h0 : 0 < ns.length) (q : ∀ m, m ∈ ns → (∀ y, y ∈ ns → y ≤ m) → Q (.int m) H) : rMax1 K [.ref a] H Q := ⟨a, ns, rfl, h, h0, q⟩
theorem g_index (h : SqL K H a ys) (f1 : flatV y = true) (f2 : ys.all flatV = true) (hj : ys[j]? = some z) (e : eqV z y = true) (n : ∀ (m : Nat) (z' : V), m < j → ys[m]? = some z' → eqV z' y = false) (q : Q (.int (j : Nat)) H) : rIndexU K (.ref a) [y] H Q :=
  ⟨a, ys, y, j, z, rfl, rfl, h, f1, f2, hj, e, n, q⟩
end

/-! ### unpacking -/
section
variable {K : PySem.W.Frag} {σ : L2.St} {H : Hp} {R : L2.St → Hp → Prop} {t : TGs} {g : TG} {n : Nat} {a : Addr} {xs r : List V} {v : V}
theorem g_unp (h : SqT K H a xs) (hn : xs.length = n) (k : t xs σ H R) : gTup K n t (.ref a) σ H R := ⟨a, xs, rfl, h, hn, k⟩
theorem g_gc (k : g v σ H fun σ' H' => t r σ' H' R) : gCons g t (v :: r) σ H R := ⟨v, r, rfl, k⟩
theorem g_gn (k : R σ H) : gNil [] σ H R := ⟨rfl, k⟩
end
/-! e.f += x -/
def rFA (K : PySem.W.Frag) (tv : TE) (rd : V → V → Hp → VK → Prop) (f : Str) (σ : L2.St) : V → Hp → (Hp → Prop) → Prop := fun x H1 R => ∃ a C dx fs v, x = .ref a ∧ H1 a = some (.ins C dx fs) ∧ Cls K C ∧ NoAttr K C f ∧ fs.lookup f = some v ∧
  tv σ H1 fun y H2 => rd v y H2 fun z H3 => ∃ dx' fs', H3 a = some (.ins C dx' fs') ∧ fs'.length < 1000 ∧ R (upd H3 a (.ins C dx' (putF f z fs')))
section
variable {K : PySem.W.Frag} {σ : L2.St} {H : Hp} {D : Ends} {ta tv : TE} {a C dx : Addr} {fs fs' : List (Str × V)} {f : Str} {L : List (Addr × HO)} {R : Hp → Prop} {i j : Int} {rd : V → V → Hp → VK → Prop}
theorem g_fldaug (h : ta σ H fun x H1 => rFA K tv rd f σ x H1 (D.nx σ)) : sFldAug K ta tv rd f D σ H := h
theorem g_fa1 (M : Has H L) (n : Nat) (he : L[n]? = some (a, .ins C dx fs)) (cl : Cls K C) (na : NoAttr K C f) (l : fs.lookup f = some (.int i)) (hv : tv σ H fun y H2 => y = .int j ∧ H2 = H) (hl : fs.length < 1000) (e : putF f (.int (i + j)) fs = fs')
    (hm : ∀ {Q Q' : VK}, (∀ v H, Q v H → Q' v H) → tv σ H Q → tv σ H Q' := by intro Q Q' hh z; exact hh _ _ z) (k : Has (upd H a (.ins C dx fs')) (L.set n (a, .ins C dx fs')) → R (upd H a (.ins C dx fs'))) : rFA K tv rAdd f σ (.ref a) H R := by
  refine ⟨a, C, dx, fs, .int i, rfl, M.get n he, cl, na, l, hm (fun y H2 z => ?_) hv⟩
  obtain ⟨rfl, rfl⟩ := z
  exact ⟨i, j, rfl, rfl, dx, fs, M.get n he, hl, by rw [e]; exact k (M.set n he)⟩
end
theorem g_repT {H : Hp} {Q : VK} {a : Addr} {x : V} {k : Int} (h : H a = some (.tup [x])) (h0 : 1 ≤ k) (h1 : k ≤ 1000) (q : ∀ p H', Same H H' → H' p = some (.tup (List.replicate k.toNat x)) → Q (.ref p) H') : rMulU (.ref a) (.int k) H Q :=
  .inr ⟨a, k, [x], rfl, rfl, h, by simp, h0, h1, by simp, fun p H' sm hp => q p H' sm (by rw [rep_flat] at hp; exact hp)⟩
theorem g_isB {H : Hp} {Q : VK} {a b : Bool} (h : Q (.bl (decide (a = b))) H) : rIsB (.bl a) (.bl b) H Q := ⟨a, b, rfl, rfl, h⟩
theorem g_notB {H : Hp} {Q : VK} {a b : Bool} (h : Q (.bl (!decide (a = b))) H) : rNotB (.bl a) (.bl b) H Q := ⟨a, b, rfl, rfl, h⟩
/-! len(set(xs)) of ints, each once -/
def rLS (K : PySem.W.Frag) : V → Hp → VK → Prop := fun x H1 Q => ∃ (l : Addr) (ns : List Int), x = V.ref l ∧ SqL K H1 l (ns.map V.int) ∧ ns.length < 64 ∧ ns.Nodup ∧ Q (.int ns.length) H1
def tLS (K : PySem.W.Frag) (ta : TE) : TE := fun σ H Q => ta σ H fun x H1 => rLS K x H1 Q
theorem pe_lenSetU {X : Cx} {K : PySem.W.Frag} (hK : X.K = K) {a : Expr} {ta : TE} {p p2 q pos : Pos} (hc : X.calm = true) (hg : Gl X "len") (hm : X.mg "len" = none) (hg2 : Gl X "set") (hm2 : X.mg "set" = none) (ha : PE X a ta)
    (na : starEach [a] X.env = (false, eval a X.env) :: starEach [] X.env := by rfl) : PE X (.Call (.Name "len" p) [.Call (.Name "set" p2) [a] [] q] [] pos) (tLS K ta) := by
  subst hK
  exact pe_lenSetI hc hg hm hg2 hm2 ha na
section
variable {K : PySem.W.Frag} {σ : L2.St} {H : Hp} {ta : TE} {Q : VK} {l : Addr} {ns : List Int}
theorem g_lset (h : ta σ H fun x H1 => rLS K x H1 Q) : tLS K ta σ H Q := h
theorem g_ls (h : SqL K H l (ns.map V.int)) (hl : ns.length < 64) (hn : ns.Nodup) (q : Q (.int (ns.length : Nat)) H) : rLS K (.ref l) H Q := ⟨l, ns, rfl, h, hl, hn, q⟩
end
theorem _root_.G.Has.right {H : Hp} {X C : List (Addr × HO)} (M : Has H (X ++ C)) : Has H C := M.sub (List.sublist_append_right X C)
theorem _root_.G.Has.left {H : Hp} {X C : List (Addr × HO)} (M : Has H (X ++ C)) : Has H X := M.sub (List.sublist_append_left X C)
theorem _root_.G.Has.frameR {H H' : Hp} {X C C' : List (Addr × HO)} (M : Has H (X ++ C)) (k : Keep (C.map (·.1)) H H') (M' : Has H' C') (e : C'.map (·.1) = C.map (·.1)) : Has H' (X ++ C') := by
  have z := Has.frame (X := X) (L := C) (Y := []) (L' := C') (by rw [List.append_nil]; exact M) k M' e
  rw [List.append_nil] at z
  exact z
/-! texts that stand written: equal, not equal -/
section
variable {K : PySem.W.Frag} {H : Hp} {Q : VK} {z z' : Str}
theorem g_eqSS (h : Q (.bl true) H) : rEqU K false (.str z) (.str z) H Q := g_eqS (by rw [decide_eq_true (rfl : z = z)]; exact h)
theorem g_eqSx (e : ¬ z = z') (h : Q (.bl false) H) : rEqU K false (.str z) (.str z') H Q := g_eqS (by rw [decide_eq_false e]; exact h)
theorem g_neSS (h : Q (.bl false) H) : rEqU K true (.str z) (.str z) H Q := g_neS (by rw [decide_eq_true (rfl : z = z)]; exact h)
theorem g_neSx (e : ¬ z = z') (h : Q (.bl true) H) : rEqU K true (.str z) (.str z') H Q := g_neS (by rw [decide_eq_false e]; exact h)
end
theorem pg_tupU {X : Cx} {K : PySem.W.Frag} (hK : X.K = K) {es : List Expr} {k : Nat} {t : TGs} {n : Nat} {pos : Pos} (hc : X.calm = true) (h : PGs X es t)
    (hn : (assignEach es X.env).length = n := by rfl) (hst : (assignEach es X.env).findIdx? (·.1) = none := by rfl) : PG X (.Tuple es k pos) (gTup K n t) := by
  subst hK
  exact pg_tup hc h hn hst
/-! zip of two lists, of two tuples; a tuple's item by a written place -/
def rZipU (K : PySem.W.Frag) : List V → Hp → (It → Hp → Prop) → Prop := fun vs H1 R => ∃ a b xs ys, vs = [.ref a, .ref b] ∧ ((SqL K H1 a xs ∧ SqL K H1 b ys ∧ R (Itz K a b) H1) ∨ (SqT K H1 a xs ∧ SqT K H1 b ys ∧ R (RZ.ItzT K a b) H1))
theorem pi_zipU {X : Cx} {K : PySem.W.Frag} (hK : X.K = K) {e e2 : Expr} {ta : TA} {p pos tpos : Pos} {elts : List Expr} {kk : Nat} (hg : Gl X "zip") (hm : X.mg "zip" = none) (ha : PA X [e, e2] ta)
    (hs : starEach [e, e2] X.env = (false, eval e X.env) :: starEach [e2] X.env := by rfl) (hpl : (backTo pos (starEach [e2] X.env)).any (·.1) = false := by rfl) :
    PI X (.Tuple elts kk tpos) (.Call (.Name "zip" p) [e, e2] [] pos) (iR (rZipU K) ta) := by
  subst hK
  exact RZ.pi_zipA hg hm ha hs hpl
section
variable {K : PySem.W.Frag} {H : Hp} {Q : VK} {a b : Addr} {xs ys : List V} {i : Int} {v : V} {R : It → Hp → Prop} {td ty tx : TE} {σ : L2.St} {g : TG} {tb : TS} {D : Ends}
theorem g_ixA (h : H a = some (.tup xs)) (h0 : 0 ≤ i) (hv : xs[i.toNat]? = some v) (q : Q v H) : rIxU K (.ref a) (.int i) H Q := g_ixT (SqT.of h) (n := i.toNat) (Int.toNat_of_nonneg h0).symm hv q
theorem g_zipT (h1 : SqT K H a xs) (h2 : SqT K H b ys) (h : R (RZ.ItzT K a b) H) : rZipU K [.ref a, .ref b] H R := ⟨a, b, xs, ys, rfl, .inr ⟨h1, h2, h⟩⟩
theorem f_zipT (hl : xs.length = ys.length) (Pv : Nat → L2.St → Hp → Prop) (h0 : Pv 0 σ H) (hq : ∀ i σ H, Pv i σ H → SqT K H a xs ∧ SqT K H b ys)
    (hs : ∀ (i : Nat) (x y : V) (T : Addr) (σ : L2.St) (H : Hp), xs[i]? = some x → ys[i]? = some y → Pv i σ H → H T = none → g (.ref T) σ (upd H T (.tup [x, y])) fun σ2 H2 => tb { D with nx := Pv (i + 1), ct := Pv (i + 1), bk := D.nx } σ2 H2) (hd : ∀ σ H, Pv xs.length σ H → D.nx σ H) : ForW g tb D σ (RZ.ItzT K a b) H := RZ.for_zipT hl Pv h0 hq hs hd
theorem g_dget2 (h : td σ H fun x H1 => ∃ a, x = .ref a ∧ IsD H1 a ∧ ty σ H1 fun y H2 => tx σ H2 fun z H3 => ∃ o, DGet H3 a y o ∧ Q (o.getD z) H3) : tDGet2 td ty tx σ H Q := h
theorem g_isD {kvs : List (Key × V)} {A : Addr → Prop} (h : H a = some (.dK kvs)) (q : A a) : ∃ b, V.ref a = .ref b ∧ IsD H b ∧ A b := ⟨a, rfl, .inl ⟨kvs, .inl h⟩, q⟩
end
end G

set_option Elab.async false
set_option linter.all false
set_option maxRecDepth 100000
set_option maxHeartbeats 4000000
/-! Data that never changes: None, bools, ints, texts, tuples of such. -/
namespace G
open PySem PySem.Spec PyProof.Rows L2

mutual
/-- the value v is the data d, by the heap H -/
inductive Im (H : Hp) : V → PyData → Prop
  | non : Im H .non .none
  | bl (b : Bool) : Im H (.bl b) (.bool b)
  | int (i : Int) : Im H (.int i) (.int i)
  | str (x : Str) : Im H (.str x) (.str x)
  | tup {a : Addr} {xs : List V} {ds : List PyData} : H a = some (.tup xs) → Ims H xs ds → Im H (.ref a) (.tuple ds)
inductive Ims (H : Hp) : List V → List PyData → Prop
  | nil : Ims H [] []
  | cons {v : V} {vs : List V} {d : PyData} {ds : List PyData} : Im H v d → Ims H vs ds → Ims H (v :: vs) (d :: ds)
end
section
variable {K : PySem.W.Frag} {H H' : Hp} {v x y : V} {d e : PyData} {vs xs : List V} {ds es : List PyData} {a b p : Addr} {ms : List Addr} {i : Int} {z : Str}
mutual
theorem Im.mono : ∀ {v : V} {d : PyData}, Im H v d → (∀ a xs, H a = some (.tup xs) → H' a = some (.tup xs)) → Im H' v d
  | _, _, .non, _ => .non
  | _, _, .bl b, _ => .bl b
  | _, _, .int i, _ => .int i
  | _, _, .str x, _ => .str x
  | _, _, .tup h hs, k => .tup (k _ _ h) (Ims.mono hs k)
theorem Ims.mono : ∀ {vs : List V} {ds : List PyData}, Ims H vs ds → (∀ a xs, H a = some (.tup xs) → H' a = some (.tup xs)) → Ims H' vs ds
  | _, _, .nil, _ => .nil
  | _, _, .cons h t, k => .cons (Im.mono h k) (Ims.mono t k)
end
theorem Im.same (h : Im H v d) (k : Same H H') : Im H' v d := h.mono fun a xs e => k a _ e
theorem Ims.same (h : Ims H vs ds) (k : Same H H') : Ims H' vs ds := h.mono fun a xs e => k a _ e
/-- no tuple stands at ms -/
def NoTup (H : Hp) (ms : List Addr) : Prop := ∀ m ∈ ms, ∀ xs, H m ≠ some (.tup xs)
theorem NoTup.nil : NoTup H [] := fun _ h => nomatch h
theorem NoTup.one {o : HO} (h : H a = some o) (n : ∀ xs, o ≠ .tup xs) : NoTup H [a] := fun m hm xs e => by
  rw [List.mem_singleton.mp hm, h] at e
  exact n xs (Option.some.inj e)
theorem NoTup.new (h : H a = none) : NoTup H [a] := fun m hm xs e => by
  rw [List.mem_singleton.mp hm, h] at e
  cases e
theorem NoTup.cons {o : HO} (h : H a = some o) (n : ∀ xs, o ≠ .tup xs) (t : NoTup H ms) : NoTup H (a :: ms) := fun m hm xs e => by
  rcases List.mem_cons.mp hm with z | z
  · rw [z, h] at e
    exact n xs (Option.some.inj e)
  · exact t m z xs e
theorem Im.keep (h : Im H v d) (k : Keep ms H H') (n : NoTup H ms) : Im H' v d := h.mono fun a xs e => k a _ e fun z => n a z xs e
theorem Ims.keep (h : Ims H vs ds) (k : Keep ms H H') (n : NoTup H ms) : Ims H' vs ds := h.mono fun a xs e => k a _ e fun z => n a z xs e
mutual
theorem Im.dp : ∀ {v : V} {d : PyData}, Im H v d → Dp K H v d
  | _, _, .non => .non
  | _, _, .bl b => .bl b
  | _, _, .int i => .int i
  | _, _, .str x => .str x
  | _, _, .tup h hs => .tup (SqT.of h) (Ims.dp hs)
theorem Ims.dp : ∀ {vs : List V} {ds : List PyData}, Ims H vs ds → DpAll K H vs ds
  | _, _, .nil => .nil
  | _, _, .cons h t => .cons (Im.dp h) (Ims.dp t)
end
theorem Ims.length : ∀ {vs : List V} {ds : List PyData}, Ims H vs ds → vs.length = ds.length
  | _, _, .nil => rfl
  | _, _, .cons _ t => by rw [List.length_cons, List.length_cons, t.length]
theorem Ims.get : ∀ {vs : List V} {ds : List PyData} {n : Nat} {d : PyData}, Ims H vs ds → ds[n]? = some d → ∃ v, vs[n]? = some v ∧ Im H v d
  | _, _, n, _, .nil, e => by simp at e
  | _, _, 0, _, .cons h t, e => by
    simp only [List.getElem?_cons_zero, Option.some.injEq] at e
    subst e
    exact ⟨_, rfl, h⟩
  | _, _, n + 1, _, .cons h t, e => by
    simp only [List.getElem?_cons_succ] at e
    obtain ⟨v, h1, h2⟩ := t.get e
    exact ⟨v, by simpa using h1, h2⟩
theorem Ims.append : ∀ {vs xs : List V} {ds es : List PyData}, Ims H vs ds → Ims H xs es → Ims H (vs ++ xs) (ds ++ es)
  | _, _, _, _, .nil, s => s
  | _, _, _, _, .cons h t, s => .cons h (t.append s)
theorem Ims.take : ∀ {vs : List V} {ds : List PyData} (n : Nat), Ims H vs ds → Ims H (vs.take n) (ds.take n)
  | _, _, 0, _ => .nil
  | _, _, _ + 1, .nil => .nil
  | _, _, n + 1, .cons h t => .cons h (t.take n)
theorem Ims.drop : ∀ {vs : List V} {ds : List PyData} (n : Nat), Ims H vs ds → Ims H (vs.drop n) (ds.drop n)
  | _, _, 0, h => h
  | _, _, _ + 1, .nil => .nil
  | _, _, n + 1, .cons _ t => t.drop n
theorem Ims.one (h : Im H v d) : Ims H [v] [d] := .cons h .nil
theorem Im.int_inv (h : Im H v (.int i)) : v = .int i := by cases h; rfl
theorem Im.bl_inv {b : Bool} (h : Im H v (.bool b)) : v = .bl b := by cases h; rfl
theorem Im.str_inv (h : Im H v (.str z)) : v = .str z := by cases h; rfl
theorem Im.non_inv (h : Im H v .none) : v = .non := by cases h; rfl
theorem Im.tup_inv (h : Im H v (.tuple ds)) : ∃ a xs, v = .ref a ∧ H a = some (.tup xs) ∧ Ims H xs ds := by
  cases h with
  | tup h hs => exact ⟨_, _, rfl, h, hs⟩
/-- the items of ds[lo:hi] -/
def cutD (ds : List PyData) (lo hi : Option Int) : List PyData := (ds.drop (HT.sIx ds.length 0 lo)).take (HT.sIx ds.length ds.length hi - HT.sIx ds.length 0 lo)
theorem Ims.cut {lo hi : Option Int} (h : Ims H vs ds) : Ims H (cutV vs lo hi) (cutD ds lo hi) := by
  unfold cutV cutD
  rw [h.length]
  exact (h.drop _).take _
theorem cutD_to {n : Nat} : cutD ds none (some (n : Int)) = ds.take n := by
  unfold cutD
  rw [HT.sIx_nat, HT.sIx_none, Nat.sub_zero, List.drop_zero]
  by_cases h : n ≤ ds.length
  · rw [Nat.min_eq_left h]
  · rw [Nat.min_eq_right (by omega), List.take_of_length_le (Nat.le_refl _), List.take_of_length_le (by omega)]
theorem cutD_from {n : Nat} : cutD ds (some (n : Int)) none = ds.drop n := by
  unfold cutD
  rw [HT.sIx_nat, HT.sIx_none]
  by_cases h : n ≤ ds.length
  · rw [Nat.min_eq_left h, List.take_of_length_le (by simp)]
  · rw [Nat.min_eq_right (by omega), List.drop_of_length_le (by omega), List.drop_of_length_le (by omega)]
    simp
theorem cutD_length (ds : List PyData) (lo hi : Option Int) : (cutD ds lo hi).length ≤ ds.length := by
  unfold cutD
  rw [List.length_take, List.length_drop]
  omega
end
/-! ### the steps over data -/
section
variable {K : PySem.W.Frag} {H : Hp} {Q : VK} {v x y : V} {d e : PyData} {vs xs : List V} {ds es : List PyData} {a b p : Addr} {i : Int} {z : Str} {n : Nat} {lo hi : Option Int} {R : It → Hp → Prop} {QB : Bool → Hp → Prop}
/-- a new tuple of data -/
theorem m_new (h : Ims H xs ds) (hl : ds.length ≤ 100000) (k : ∀ p H', Same H H' → H p = none → Im H' (.ref p) (.tuple ds) → Q (.ref p) H') : rTupN xs H Q :=
  ⟨szle (by rw [h.length]; exact hl), fun p hp => k p _ (Same.new hp) hp (.tup upd_same (h.same (Same.new hp)))⟩
theorem m_ix (h : Im H x (.tuple ds)) (e : i = (n : Int)) (hd : ds[n]? = some d) (k : ∀ v, Im H v d → Q v H) : rIxU K x (.int i) H Q := by
  obtain ⟨a, xs, rfl, h1, h2⟩ := h.tup_inv
  obtain ⟨v, hv, hm⟩ := h2.get hd
  exact g_ixT (SqT.of h1) e hv (k v hm)
theorem m_len (h : Im H x (.tuple ds)) (q : Q (.int (ds.length : Nat)) H) : rLenU K [x] H Q := by
  obtain ⟨a, xs, rfl, h1, h2⟩ := h.tup_inv
  refine g_lenT (SqT.of h1) ?_
  rw [h2.length]
  exact q
theorem m_eq (hx : Im H x d) (hy : Im H y e) (s1 : SeqAt.shaped d = true) (s2 : SeqAt.shaped e = true) (h : Q (.bl (PyData.eqv d e)) H) : rEqU K false x y H Q := g_eqD hx.dp hy.dp s1 s2 h
theorem m_ne (hx : Im H x d) (hy : Im H y e) (s1 : SeqAt.shaped d = true) (s2 : SeqAt.shaped e = true) (h : Q (.bl (!PyData.eqv d e)) H) : rEqU K true x y H Q := g_neD hx.dp hy.dp s1 s2 h
theorem m_cat (hx : Im H x (.tuple ds)) (hy : Im H y (.tuple es)) (hl : ds.length + es.length ≤ 100000) (k : ∀ p H', Same H H' → Im H' (.ref p) (.tuple (ds ++ es)) → Q (.ref p) H') : rAddU K x y H Q := by
  obtain ⟨a, xs, rfl, h1, h2⟩ := hx.tup_inv
  obtain ⟨b, ys, rfl, h3, h4⟩ := hy.tup_inv
  refine .inr ⟨a, b, xs, ys, rfl, rfl, SqT.of h1, SqT.of h3, szle (by rw [h2.length, h4.length]; exact hl), fun e => ?_, fun _ e => ?_, fun _ _ p hp => ?_⟩
  · subst e
    have : ds = [] := by cases h2; rfl
    subst this
    exact k b H (Same.refl H) hy
  · subst e
    have : es = [] := by cases h4; rfl
    subst this
    rw [List.append_nil] at k
    exact k a H (Same.refl H) hx
  · exact k p _ (Same.new hp) (.tup upd_same ((h2.append h4).same (Same.new hp)))
theorem m_sl (hx : Im H x (.tuple ds)) (k : ∀ p H', Same H H' → Im H' (.ref p) (.tuple (cutD ds lo hi)) → Q (.ref p) H') : rSlU K x lo hi H Q := by
  obtain ⟨a, xs, rfl, h1, h2⟩ := hx.tup_inv
  refine .inr (.inl ⟨a, xs, rfl, SqT.of h1, fun e => ?_, fun _ p hp => ?_⟩)
  · have z : cutD ds lo hi = ds := by
      unfold cutD
      rw [← h2.length, e.1, e.2, List.drop_zero, Nat.sub_zero, h2.length, List.take_length]
    rw [z] at k
    exact k a H (Same.refl H) hx
  · exact k p _ (Same.new hp) (.tup upd_same (h2.cut.same (Same.new hp)))
theorem m_isiT {T' : String} {b : Bool} (hx : Im H x (.tuple ds)) (hk : kitB "tuple" T' = some b) (h : Q (.bl b) H) : rIsi K [x, .ty T'] H Q := by
  obtain ⟨a, xs, rfl, h1, _⟩ := hx.tup_inv
  exact isi_of (.base (.tup h1)) hk h
theorem m_seq (hx : Im H x (.tuple ds)) (k : ∀ a xs, x = .ref a → H a = some (.tup xs) → Ims H xs ds → R (Itt K a) H) : (∃ b ys, x = .ref b ∧ SqL K H b ys ∧ R (Itl K b) H) ∨ ∃ b ys, x = .ref b ∧ SqT K H b ys ∧ R (Itt K b) H := by
  obtain ⟨a, xs, e, h1, h2⟩ := hx.tup_inv
  exact .inr ⟨a, xs, e, SqT.of h1, k a xs e h1 h2⟩
end
/-! tuple(..) -/
def rTupU (K : PySem.W.Frag) : List V → Hp → VK → Prop := fun vs H Q => ∃ x, vs = [x] ∧ kTup K x H Q
theorem c_tuple {X : Cx} {K : PySem.W.Frag} (hK : X.K = K) : CallR X (.type "tuple") (rTupU K) := by
  subst hK
  rintro pins s σ H _ us Q I r ⟨x, rfl, h⟩
  obtain ⟨u, rfl, ru⟩ := vals1 r
  exact rl_tuple pins s σ H x u Q I ru h
section
variable {K : PySem.W.Frag} {H : Hp} {Q : VK} {x : V} {a : Addr} {xs : List V} {ds : List PyData}
theorem m_tupleT (hx : Im H x (.tuple ds)) (q : Q x H) : rTupU K [x] H Q := by
  obtain ⟨a, xs, rfl, h1, _⟩ := hx.tup_inv
  exact ⟨_, rfl, .inr ⟨a, xs, rfl, SqT.of h1, q⟩⟩
theorem m_tupleL (h : SqL K H a xs) (hm : Ims H xs ds) (k : ∀ p H', Same H H' → H p = none → Im H' (.ref p) (.tuple ds) → Q (.ref p) H') : rTupU K [.ref a] H Q :=
  ⟨_, rfl, .inl ⟨a, xs, rfl, h, fun p hp => k p _ (Same.new hp) hp (.tup upd_same (hm.same (Same.new hp)))⟩⟩
end
/-! ### what == says -/
theorem shaped_of {d : PyData} (h : d.canLay0 = true) (h2 : d.depth ≤ 64) : SeqAt.shaped d = true := by
  unfold SeqAt.shaped
  rw [h, decide_eq_true h2]
  rfl
theorem layAll_mem : ∀ {ds : List PyData}, (∀ d ∈ ds, d.canLay0 = true) → PyData.canLayAll0 ds = true
  | [], _ => rfl
  | d :: ds, h => by
    rw [PyData.canLayAll0, h d List.mem_cons_self, layAll_mem fun x hx => h x (List.mem_cons_of_mem _ hx)]
    rfl
theorem depthAll_mem {k : Nat} : ∀ {ds : List PyData}, (∀ d ∈ ds, d.depth ≤ k) → PyData.depthAll ds ≤ k
  | [], _ => by rw [PyData.depthAll]; exact Nat.zero_le _
  | d :: ds, h => by
    rw [PyData.depthAll]
    exact Nat.max_le.mpr ⟨h d List.mem_cons_self, depthAll_mem fun x hx => h x (List.mem_cons_of_mem _ hx)⟩
/-- data of depth at most k -/
def Lay (k : Nat) (d : PyData) : Prop := d.canLay0 = true ∧ d.depth ≤ k
theorem Lay.shaped {k : Nat} {d : PyData} (h : Lay k d) (hk : k ≤ 64) : SeqAt.shaped d = true := shaped_of h.1 (Nat.le_trans h.2 hk)
theorem Lay.tup {k : Nat} {ds : List PyData} (h : ∀ d ∈ ds, Lay k d) : Lay (k + 1) (.tuple ds) :=
  ⟨by rw [PyData.canLay0]; exact layAll_mem fun d hd => (h d hd).1, by rw [PyData.depth]; exact Nat.succ_le_succ (depthAll_mem fun d hd => (h d hd).2)⟩
theorem Lay.int {k : Nat} {i : Int} : Lay k (.int i) := ⟨by rw [PyData.canLay0], by rw [PyData.depth]; exact Nat.zero_le _⟩
theorem Lay.bl {k : Nat} {b : Bool} : Lay k (.bool b) := ⟨by rw [PyData.canLay0], by rw [PyData.depth]; exact Nat.zero_le _⟩
theorem Lay.non {k : Nat} : Lay k .none := ⟨by rw [PyData.canLay0], by rw [PyData.depth]; exact Nat.zero_le _⟩
theorem Lay.str {k : Nat} {z : Str} (h : PyData.strOk z = true) : Lay k (.str z) := ⟨by rw [PyData.canLay0]; exact h, by rw [PyData.depth]; exact Nat.zero_le _⟩
theorem Lay.mono {k k' : Nat} {d : PyData} (h : Lay k d) (hk : k ≤ k') : Lay k' d := ⟨h.1, Nat.le_trans h.2 hk⟩
theorem Lay.refl {k : Nat} {d : PyData} (h : Lay k d) : PyData.eqv d d = true := SeqAt.eqv_refl d h.1
theorem inV_strs {k : Str} {ks : List Str} : inV (.str k) (ks.map V.str) = ks.contains k := by
  unfold inV
  induction ks with
  | nil => rfl
  | cons z ks ih =>
    rw [List.map_cons, List.any_cons, ih, List.contains_cons]
    congr 1
    have e : eqV (.str z) (.str k) = (z == k) := rfl
    rw [e]
    by_cases h : z = k
    · subst h; rfl
    · rw [beq_eq_false_iff_ne.mpr h, beq_eq_false_iff_ne.mpr (Ne.symm h)]
theorem flat_strs {ks : List Str} : (ks.map V.str).all flatV = true := by
  induction ks with
  | nil => rfl
  | cons z ks ih => rw [List.map_cons, List.all_cons, ih]; rfl
/-- a text within a new tuple, a new list of texts -/
theorem g_inTs {K : PySem.W.Frag} {H : Hp} {Q : VK} {k : Str} {p : Addr} {ks : List Str} (h : H p = some (.tup (ks.map V.str)) ∨ H p = some (.lst (ks.map V.str))) (q : Q (.bl (ks.contains k)) H) : rInU K false (.str k) (.ref p) H Q := by
  refine .inl ⟨p, ks.map V.str, rfl, ?_, rfl, flat_strs, ?_⟩
  · rcases h with h | h
    · exact .inr (SqT.of h)
    · exact .inl (SqL.of h)
  · rw [inV_strs]
    exact q
theorem g_niTs {K : PySem.W.Frag} {H : Hp} {Q : VK} {k : Str} {p : Addr} {ks : List Str} (h : H p = some (.tup (ks.map V.str)) ∨ H p = some (.lst (ks.map V.str))) (q : Q (.bl (!ks.contains k)) H) : rInU K true (.str k) (.ref p) H Q := by
  refine .inl ⟨p, ks.map V.str, rfl, ?_, rfl, flat_strs, ?_⟩
  · rcases h with h | h
    · exact .inr (SqT.of h)
    · exact .inl (SqL.of h)
  · rw [inV_strs]
    exact q
theorem map_take_succ {α β : Type} {f : α → β} {ds : List α} {i : Nat} {d : α} (h : ds[i]? = some d) : (ds.take (i + 1)).map f = (ds.take i).map f ++ [f d] := by
  rw [List.take_add_one, h, List.map_append]
  rfl
theorem filter_take_succ {α : Type} {f : α → Bool} {ds : List α} {i : Nat} {d : α} (h : ds[i]? = some d) : (ds.take (i + 1)).filter f = (ds.take i).filter f ++ (if f d then [d] else []) := by
  rw [List.take_add_one, h, List.filter_append]
  congr 1
  show [d].filter f = _
  rw [List.filter_cons]
  rfl
/-! ### data of any kind, looked at -/
def isI : PyData → Bool
  | .int _ => true
  | .bool _ => true
  | _ => false
def isB : PyData → Bool
  | .bool _ => true
  | _ => false
def isS : PyData → Bool
  | .str _ => true
  | _ => false
def isT : PyData → Bool
  | .tuple _ => true
  | _ => false
def strD (ks : List Str) : PyData → Bool
  | .str z => ks.contains z
  | _ => false
def numD (lo hi : Int) : PyData → Bool
  | .int i => decide (lo ≤ i) && decide (i ≤ hi)
  | _ => false
def lenI (n : Int) : PyData → Bool
  | .tuple ds => decide ((ds.length : Int) = n)
  | _ => false
section
variable {K : PySem.W.Frag} {H : Hp} {Q : VK} {x y : V} {d e : PyData} {vs xs : List V} {ds es : List PyData} {a b p : Addr} {i lo hi : Int} {z : Str} {n : Nat} {ks : List Str}
theorem m_isiI (hx : Im H x d) (q : Q (.bl (isI d)) H) : rIsi K [x, .ty "int"] H Q := by
  cases hx with
  | non => exact g_isiNi q
  | bl b => exact g_isiBi q
  | int i => exact g_isiIi q
  | str z => exact g_isiSi q
  | tup h hs => exact m_isiT (.tup h hs) k_ti q
theorem m_isiB (hx : Im H x d) (q : Q (.bl (isB d)) H) : rIsi K [x, .ty "bool"] H Q := by
  cases hx with
  | non => exact g_isiNb q
  | bl b => exact g_isiBb q
  | int i => exact g_isiIb q
  | str z => exact g_isiSb q
  | tup h hs => exact m_isiT (.tup h hs) k_tb q
theorem m_isiS (hx : Im H x d) (q : Q (.bl (isS d)) H) : rIsi K [x, .ty "str"] H Q := by
  cases hx with
  | non => exact g_isiNs q
  | bl b => exact g_isiBs q
  | int i => exact g_isiIs q
  | str z => exact g_isiSs q
  | tup h hs => exact m_isiT (.tup h hs) k_ts q
theorem m_isiU (hx : Im H x d) (q : Q (.bl (isT d)) H) : rIsi K [x, .ty "tuple"] H Q := by
  cases hx with
  | non => exact g_isiNt q
  | bl b => exact g_isiBt q
  | int i => exact g_isiIt q
  | str z => exact g_isiSt q
  | tup h hs => exact m_isiT (.tup h hs) k_tt q
theorem isT_inv (h : isT d = true) : ∃ ds, d = .tuple ds := by
  cases d <;> first | (cases h; done) | exact ⟨_, rfl⟩
theorem isS_inv (h : isS d = true) : ∃ z, d = .str z := by
  cases d <;> first | (cases h; done) | exact ⟨_, rfl⟩
theorem isB_inv (h : isB d = true) : ∃ b, d = .bool b := by
  cases d <;> first | (cases h; done) | exact ⟨_, rfl⟩
theorem num_inv (h : numD lo hi d = true) : ∃ i, d = .int i ∧ lo ≤ i ∧ i ≤ hi := by
  cases d <;> first | (cases h; done) | skip
  rename_i i
  replace h : (decide (lo ≤ i) && decide (i ≤ hi)) = true := h
  rw [Bool.and_eq_true, decide_eq_true_eq, decide_eq_true_eq] at h
  exact ⟨i, rfl, h.1, h.2⟩
theorem num_of (h1 : lo ≤ i) (h2 : i ≤ hi) : numD lo hi (.int i) = true := by
  show (decide (lo ≤ i) && decide (i ≤ hi)) = true
  rw [decide_eq_true h1, decide_eq_true h2]
  rfl
theorem str_inv (h : strD ks d = true) : ∃ z, d = .str z ∧ z ∈ ks := by
  cases d <;> first | (cases h; done) | skip
  rename_i z
  exact ⟨z, rfl, List.contains_iff_mem.mp h⟩
theorem len_inv (h : lenI (n : Int) d = true) : ∃ ds, d = .tuple ds ∧ ds.length = n := by
  cases d <;> first | (cases h; done) | skip
  rename_i ds
  replace h : decide ((ds.length : Int) = n) = true := h
  rw [decide_eq_true_eq] at h
  exact ⟨ds, rfl, by omega⟩
theorem len1 (h : lenI 1 d = true) : ∃ a, d = .tuple [a] := by
  obtain ⟨ds, rfl, hl⟩ := len_inv (n := 1) h
  match ds, hl with
  | [a], _ => exact ⟨a, rfl⟩
theorem len2 (h : lenI 2 d = true) : ∃ a b, d = .tuple [a, b] := by
  obtain ⟨ds, rfl, hl⟩ := len_inv (n := 2) h
  match ds, hl with
  | [a, b], _ => exact ⟨a, b, rfl⟩
theorem len3 (h : lenI 3 d = true) : ∃ a b c, d = .tuple [a, b, c] := by
  obtain ⟨ds, rfl, hl⟩ := len_inv (n := 3) h
  match ds, hl with
  | [a, b, c], _ => exact ⟨a, b, c, rfl⟩
theorem len4 (h : lenI 4 d = true) : ∃ a b c e, d = .tuple [a, b, c, e] := by
  obtain ⟨ds, rfl, hl⟩ := len_inv (n := 4) h
  match ds, hl with
  | [a, b, c, e], _ => exact ⟨a, b, c, e, rfl⟩
theorem len7 (h : lenI 7 d = true) : ∃ a b c e f g k, d = .tuple [a, b, c, e, f, g, k] := by
  obtain ⟨ds, rfl, hl⟩ := len_inv (n := 7) h
  match ds, hl with
  | [a, b, c, e, f, g, k], _ => exact ⟨a, b, c, e, f, g, k, rfl⟩
theorem Ims.cons_inv (h : Ims H vs (d :: ds)) : ∃ v ws, vs = v :: ws ∧ Im H v d ∧ Ims H ws ds := by
  cases h with
  | cons h t => exact ⟨_, _, rfl, h, t⟩
theorem Ims.nil_inv (h : Ims H vs []) : vs = [] := by
  cases h
  rfl
theorem Ims.mem : ∀ {vs : List V} {ds : List PyData} {v : V}, Ims H vs ds → v ∈ vs → ∃ d ∈ ds, Im H v d
  | _, _, _, .nil, h => by cases h
  | _, _, _, .cons h t, hv => by
    rcases List.mem_cons.mp hv with rfl | hv
    · exact ⟨_, List.mem_cons_self, h⟩
    · obtain ⟨d, hd, hi⟩ := t.mem hv
      exact ⟨d, List.mem_cons_of_mem _ hd, hi⟩
theorem ims_strs : ∀ (ks : List Str), Ims H (ks.map V.str) (ks.map PyData.str)
  | [] => .nil
  | z :: ks => .cons (.str z) (ims_strs ks)
theorem any_strs : ∀ (ks : List Str), ((ks.map PyData.str).any fun z => PyData.eqv z d) = strD ks d
  | [] => by cases d <;> rfl
  | z :: ks => by
    rw [List.map_cons, List.any_cons, any_strs ks]
    cases d <;> first | (unfold PyData.eqv strD; rfl) | skip
    rename_i y
    show (PyData.eqv (.str z) (.str y) || ks.contains y) = (z :: ks).contains y
    unfold PyData.eqv
    rw [List.contains_cons, Bool.beq_comm]
theorem lay_strs (h : ∀ k ∈ ks, PyData.strOk k = true) : PyData.canLayAll0 (ks.map PyData.str) = true := layAll_mem fun d hd => by
  obtain ⟨k, hk, rfl⟩ := List.mem_map.mp hd
  rw [PyData.canLay0]
  exact h k hk
/-- data within a tuple of texts -/
theorem m_inTs (h : H p = some (.tup (ks.map V.str))) (hx : Im H x d) (sd : SeqAt.shaped d = true) (hs : ∀ k ∈ ks, PyData.strOk k = true) (q : Q (.bl (strD ks d)) H) : rInU K false x (.ref p) H Q := by
  refine .inr (.inr (.inr ⟨d, ks.map PyData.str, hx.dp, .inl (Im.dp (.tup h (ims_strs ks))), sd, lay_strs hs, ?_⟩))
  rw [any_strs]
  exact q
theorem m_niTs (h : H p = some (.tup (ks.map V.str))) (hx : Im H x d) (sd : SeqAt.shaped d = true) (hs : ∀ k ∈ ks, PyData.strOk k = true) (q : Q (.bl (!strD ks d)) H) : rInU K true x (.ref p) H Q := by
  refine .inr (.inr (.inr ⟨d, ks.map PyData.str, hx.dp, .inl (Im.dp (.tup h (ims_strs ks))), sd, lay_strs hs, ?_⟩))
  rw [any_strs]
  exact q
theorem strD_eqv : PyData.eqv d (.str z) = strD [z] d := by
  cases d <;> first | (unfold PyData.eqv strD; rfl) | skip
  rename_i y
  show PyData.eqv (.str y) (.str z) = [z].contains y
  unfold PyData.eqv
  rw [List.contains_cons]
  simp
theorem m_eqS (hx : Im H x d) (sd : SeqAt.shaped d = true) (hz : PyData.strOk z = true) (q : Q (.bl (strD [z] d)) H) : rEqU K false x (.str z) H Q :=
  m_eq hx (.str z) sd ((Lay.str (k := 0) hz).shaped (by decide)) (by rw [strD_eqv]; exact q)
theorem m_neS (hx : Im H x d) (sd : SeqAt.shaped d = true) (hz : PyData.strOk z = true) (q : Q (.bl (!strD [z] d)) H) : rEqU K true x (.str z) H Q :=
  m_ne hx (.str z) sd ((Lay.str (k := 0) hz).shaped (by decide)) (by rw [strD_eqv]; exact q)
theorem im1 {d1 : PyData} (h : Im H x (.tuple [d1])) : ∃ a x1, x = .ref a ∧ H a = some (.tup [x1]) ∧ Im H x1 d1 := by
  obtain ⟨a, xs, rfl, h1, h2⟩ := h.tup_inv
  obtain ⟨x1, r, rfl, i1, h2⟩ := h2.cons_inv
  rw [h2.nil_inv] at h1
  exact ⟨a, x1, rfl, h1, i1⟩
theorem im2 {d1 d2 : PyData} (h : Im H x (.tuple [d1, d2])) : ∃ a x1 x2, x = .ref a ∧ H a = some (.tup [x1, x2]) ∧ Im H x1 d1 ∧ Im H x2 d2 := by
  obtain ⟨a, xs, rfl, h1, h2⟩ := h.tup_inv
  obtain ⟨x1, r, rfl, i1, h2⟩ := h2.cons_inv
  obtain ⟨x2, r, rfl, i2, h2⟩ := h2.cons_inv
  rw [h2.nil_inv] at h1
  exact ⟨a, x1, x2, rfl, h1, i1, i2⟩
theorem im3 {d1 d2 d3 : PyData} (h : Im H x (.tuple [d1, d2, d3])) : ∃ a x1 x2 x3, x = .ref a ∧ H a = some (.tup [x1, x2, x3]) ∧ Im H x1 d1 ∧ Im H x2 d2 ∧ Im H x3 d3 := by
  obtain ⟨a, xs, rfl, h1, h2⟩ := h.tup_inv
  obtain ⟨x1, r, rfl, i1, h2⟩ := h2.cons_inv
  obtain ⟨x2, r, rfl, i2, h2⟩ := h2.cons_inv
  obtain ⟨x3, r, rfl, i3, h2⟩ := h2.cons_inv
  rw [h2.nil_inv] at h1
  exact ⟨a, x1, x2, x3, rfl, h1, i1, i2, i3⟩
theorem im4 {d1 d2 d3 d4 : PyData} (h : Im H x (.tuple [d1, d2, d3, d4])) : ∃ a x1 x2 x3 x4, x = .ref a ∧ H a = some (.tup [x1, x2, x3, x4]) ∧ Im H x1 d1 ∧ Im H x2 d2 ∧ Im H x3 d3 ∧ Im H x4 d4 := by
  obtain ⟨a, xs, rfl, h1, h2⟩ := h.tup_inv
  obtain ⟨x1, r, rfl, i1, h2⟩ := h2.cons_inv
  obtain ⟨x2, r, rfl, i2, h2⟩ := h2.cons_inv
  obtain ⟨x3, r, rfl, i3, h2⟩ := h2.cons_inv
  obtain ⟨x4, r, rfl, i4, h2⟩ := h2.cons_inv
  rw [h2.nil_inv] at h1
  exact ⟨a, x1, x2, x3, x4, rfl, h1, i1, i2, i3, i4⟩
end
theorem layAll_inv : ∀ {ds : List PyData}, PyData.canLayAll0 ds = true → ∀ d ∈ ds, d.canLay0 = true
  | [], _, d, hd => by cases hd
  | e :: ds, h, d, hd => by
    rw [PyData.canLayAll0, Bool.and_eq_true] at h
    rcases List.mem_cons.mp hd with rfl | hd
    · exact h.1
    · exact layAll_inv h.2 d hd
theorem depthAll_inv {k : Nat} : ∀ {ds : List PyData}, PyData.depthAll ds ≤ k → ∀ d ∈ ds, d.depth ≤ k
  | [], _, d, hd => by cases hd
  | e :: ds, h, d, hd => by
    rw [PyData.depthAll] at h
    rcases List.mem_cons.mp hd with rfl | hd
    · omega
    · exact depthAll_inv (by omega) d hd
theorem Lay.items {k : Nat} {ds : List PyData} (h : Lay k (.tuple ds)) : ∀ d ∈ ds, Lay k d := fun d hd => by
  obtain ⟨h1, h2⟩ := h
  rw [PyData.canLay0] at h1
  rw [PyData.depth] at h2
  exact ⟨layAll_inv h1 d hd, depthAll_inv (by omega) d hd⟩
/-! how wide, how deep -/
def Wd (n : Nat) : Nat → PyData → Prop
  | 0, .none => True
  | 0, .bool _ => True
  | 0, .int _ => True
  | 0, .str z => PyData.strOk z = true
  | k + 1, .tuple ds => ds.length ≤ n ∧ ∀ x ∈ ds, Wd n k x
  | _ + 1, .none => True
  | _ + 1, .bool _ => True
  | _ + 1, .int _ => True
  | _ + 1, .str z => PyData.strOk z = true
  | _, _ => False
theorem Wd.lay {n : Nat} : ∀ {k : Nat} {d : PyData}, Wd n k d → Lay k d
  | 0, .none, _ => Lay.non
  | 0, .bool _, _ => Lay.bl
  | 0, .int _, _ => Lay.int
  | 0, .str _, h => Lay.str h
  | 0, .tuple _, h => h.elim
  | 0, .list _, h => h.elim
  | 0, .dict _, h => h.elim
  | _ + 1, .none, _ => Lay.non
  | _ + 1, .bool _, _ => Lay.bl
  | _ + 1, .int _, _ => Lay.int
  | _ + 1, .str _, h => Lay.str h
  | k + 1, .tuple ds, h => Lay.tup fun d hd => (h.2 d hd).lay
  | _ + 1, .list _, h => h.elim
  | _ + 1, .dict _, h => h.elim
theorem Wd.mono {n m : Nat} (hn : n ≤ m) : ∀ {k l : Nat} {d : PyData}, k ≤ l → Wd n k d → Wd m l d
  | 0, 0, .none, _, _ => trivial
  | 0, 0, .bool _, _, _ => trivial
  | 0, 0, .int _, _, _ => trivial
  | 0, 0, .str _, _, h => h
  | 0, l + 1, .none, _, _ => trivial
  | 0, l + 1, .bool _, _, _ => trivial
  | 0, l + 1, .int _, _, _ => trivial
  | 0, l + 1, .str _, _, h => h
  | 0, _, .tuple _, _, h => h.elim
  | 0, _, .list _, _, h => h.elim
  | 0, _, .dict _, _, h => h.elim
  | k + 1, 0, _, e, _ => absurd e (by omega)
  | k + 1, l + 1, .none, _, _ => trivial
  | k + 1, l + 1, .bool _, _, _ => trivial
  | k + 1, l + 1, .int _, _, _ => trivial
  | k + 1, l + 1, .str _, _, h => h
  | k + 1, l + 1, .tuple ds, e, h => ⟨Nat.le_trans h.1 hn, fun x hx => Wd.mono hn (by omega) (h.2 x hx)⟩
  | k + 1, _, .list _, _, h => h.elim
  | k + 1, _, .dict _, _, h => h.elim
theorem cutD_mem {ds : List PyData} {lo hi : Option Int} {d : PyData} (h : d ∈ cutD ds lo hi) : d ∈ ds := by
  unfold cutD at h
  exact List.mem_of_mem_drop (List.mem_of_mem_take h)
theorem Wd.cut {n k : Nat} {ds : List PyData} {lo hi : Option Int} (h : Wd n (k + 1) (.tuple ds)) : Wd n (k + 1) (.tuple (cutD ds lo hi)) := ⟨Nat.le_trans (cutD_length ds lo hi) h.1, fun x hx => h.2 x (cutD_mem hx)⟩
theorem Wd.cat {n m k : Nat} {ds es : List PyData} (h : Wd n (k + 1) (.tuple ds)) (g : Wd m (k + 1) (.tuple es)) : Wd (n + m) (k + 1) (.tuple (ds ++ es)) :=
  ⟨by rw [List.length_append]; exact Nat.add_le_add h.1 g.1, fun x hx => by
    rcases List.mem_append.mp hx with hx | hx
    · exact (h.2 x hx).mono (by omega) (Nat.le_refl _)
    · exact (g.2 x hx).mono (by omega) (Nat.le_refl _)⟩
end G

set_option Elab.async false
set_option linter.all false
set_option maxRecDepth 100000
set_option maxHeartbeats 4000000
namespace K27
open PySem PySem.Spec PyProof.Rows L2 G
local macro_rules | `(tactic| walk_at "sc") => `(tactic| first | (with_reducible assumption) | decide | omega | assumption | (simp only [List.length_cons, List.length_nil, List.length_append, List.length_map, List.length_replicate, List.length_set]; omega) | (show _ ≤ sizeLine; decide) | (show _ < sizeLine; decide))
local macro_rules | `(tactic| walk_at "sq") => `(tactic| first | assumption | exact SqL.of (by walk_at "hi") | exact SqT.of (by walk_at "hi"))
local macro_rules | `(tactic| walk_at "sd") => `(tactic| first | exact mul_ok (by first | omega | walk_at "sc") (by first | omega | walk_at "sc") | exact mul_ok' (by first | omega | walk_at "sc") (by first | omega | walk_at "sc"))
local macro_rules | `(tactic| walk_at "hi") => `(tactic| first | assumption | exact Has.get (by assumption) 0 rfl | exact Has.get (by assumption) 1 rfl | exact Has.get (by assumption) 2 rfl | exact Has.get (by assumption) 3 rfl | exact Has.get (by assumption) 4 rfl | exact Has.get (by assumption) 5 rfl | exact Has.get (by assumption) 6 rfl | exact Has.get (by assumption) 7 rfl | exact Has.get (by assumption) 8 rfl | exact Has.get (by assumption) 9 rfl)
local macro_rules | `(tactic| walk_at "s") => `(tactic| first
  | (with_reducible first
  | refine g_seq ?_ | refine g_asg ?_ | refine g_var rfl ?_ | refine g_c ?_ | refine g_op ?_ | refine g_name ?_ | refine g_consA ?_ | refine g_nilA ?_
  | refine g_test ?_ | refine g_exb ?_ | refine g_ifS ?_ | refine g_ret ?_ | refine g_call ?_ | refine g_cb ?_ | refine g_eqI ?_ | refine g_neI ?_
  | refine g_cmpI ?_ | refine g_I0 ?_ | refine g_addI ?_ | refine g_intI ?_ | refine g_abs ?_ | refine g_max2 ?_ | refine g_min2 ?_ | refine g_next ?_ | refine g_drop ?_ | refine g_aug rfl ?_ | refine g_ipI ?_
  | refine g_tru ?_ | refine g_truB ?_ | refine g_truI ?_ | refine g_truN ?_ | refine g_not ?_ | refine g_and ?_ | refine g_or ?_ | refine g_notV ?_ | refine g_andV ?_ | refine g_orV ?_ | refine g_ifE ?_ | refine g_chain ?_
  | refine g_un ?_ | refine g_rU ?_ | refine g_retN ?_ | refine g_brk ?_ | refine g_ct ?_ | refine g_B ?_ | refine g_eqB ?_ | refine g_neB ?_ | refine g_bm ?_ | refine g_bm0 ?_ | refine g_intB ?_
  | refine g_disp ?_ | refine g_dget2 ?_ | refine g_pairN ?_ | refine g_pairC ?_ | refine g_dput ?_ | refine g_isNn ?_ | refine g_isNi ?_ | refine g_isNs ?_ | refine g_isNb ?_ | refine g_isNr ?_ | refine g_isB ?_ | refine g_lset ?_ | refine g_notB ?_ | refine g_noNn ?_ | refine g_noNi ?_ | refine g_noNs ?_ | refine g_noNb ?_ | refine g_noNr ?_ | refine g_gc ?_ | refine g_gn ?_ | refine g_lc ?_ | refine g_yes ?_ | refine g_sfld ?_ | refine g_meth ?_ | refine g_make ?_ | refine g_sub ?_ | refine g_sl ?_ | refine g_part ?_ | refine g_exi ?_ | refine g_noPart ?_ | refine g_for ?_ | refine g_iR ?_ | refine g_iSeq ?_ | refine g_isiIi ?_ | refine g_isiIb ?_ | refine g_isiIs ?_ | refine g_isiIt ?_ | refine g_isiBi ?_ | refine g_isiBb ?_ | refine g_isiBs ?_ | refine g_isiBt ?_ | refine g_isiSi ?_ | refine g_isiSb ?_ | refine g_isiSs ?_ | refine g_isiSt ?_ | refine g_isiNi ?_ | refine g_isiNb ?_ | refine g_isiNs ?_ | refine g_isiNt ?_
  | refine g_ifT ?_ | refine g_ifF ?_ | refine g_ifNT ?_ | refine g_ifNF ?_ | refine g_tup ?_ | refine g_lst ?_)
  | (with_reducible refine g_eqSS ?_) | (with_reducible refine g_neSS ?_) | ((with_reducible refine g_eqSx ?c ?_); (case c => decide +kernel)) | ((with_reducible refine g_neSx ?c ?_); (case c => decide +kernel)) | (with_reducible refine g_eqS ?_) | (with_reducible refine g_neS ?_)
  | ((with_reducible refine g_mod ?c ?_); (case c => walk_at "sc")) | ((with_reducible refine g_fdiv ?c ?d ?_); (case c => walk_at "sc"); (case d => walk_at "sc")) | ((with_reducible refine g_shr ?c ?_); (case c => walk_at "sc"))
  | ((with_reducible refine g_shl ?c ?d ?e ?_); (case c => walk_at "sc"); (case d => walk_at "sc"); (case e => walk_at "sc")) | ((with_reducible refine g_pow ?c ?d ?e ?_); (case c => walk_at "sc"); (case d => walk_at "sc"); (case e => walk_at "sc")) | ((with_reducible refine g_mulI ?c ?_); (case c => walk_at "sd"))
  | ((with_reducible refine' g_unp ?h ?n ?_); (case h => walk_at "sq"); (case n => rfl)) | ((with_reducible refine g_wipe ?e ?_); (case e => rfl)) | walk_at "fld" | ((with_reducible refine g_rR1 ?c1 ?c2 ?_); (case c1 => walk_at "sc"); (case c2 => walk_at "sc")) | ((with_reducible refine g_rR2 ?c1 ?_); (case c1 => exact ⟨by walk_at "sc", by walk_at "sc", by walk_at "sc", by walk_at "sc"⟩))
  | ((with_reducible refine' g_ixA ?h ?z ?v ?_); (case h => assumption); (case z => decide); (case v => rfl)) | ((with_reducible refine' g_isD ?h ?_); (case h => walk_at "hi")) | ((with_reducible refine' g_lenM ?c ?_); (case c => walk_at "sq")) | ((with_reducible refine' g_lenL ?c ?_); (case c => walk_at "sq")) | ((with_reducible refine' g_seqL ?c ?_); (case c => walk_at "sq"))
  | ((with_reducible refine' g_ty_ ?c ?_); (case c => exact .inl ⟨rfl, _, by walk_at "sq"⟩)))
local macro_rules | `(tactic| walk_at "go") => `(tactic| repeat walk_at "s")
local macro_rules | `(tactic| walk_at "len") => `(tactic| (intro vs H Q E h; first | (obtain ⟨e, _⟩ := h; rw [e]; rfl) | (obtain ⟨_, e, _⟩ := h; rw [e]; rfl) | (obtain ⟨_, _, e, _⟩ := h; rw [e]; rfl) | (obtain ⟨_, _, _, e, _⟩ := h; rw [e]; rfl) | (obtain ⟨_, _, _, _, e, _⟩ := h; rw [e]; rfl) | (obtain ⟨_, _, _, _, _, e, _⟩ := h; rw [e]; rfl) | (obtain ⟨_, _, _, _, _, _, e, _⟩ := h; rw [e]; rfl) | (obtain ⟨_, _, _, _, _, _, _, e, _⟩ := h; rw [e]; rfl) | (obtain ⟨_, _, _, _, _, _, _, _, e, _⟩ := h; rw [e]; rfl) | (obtain ⟨_, _, _, _, _, _, _, _, _, e, _⟩ := h; rw [e]; rfl) | (obtain ⟨_, _, _, _, _, _, _, _, _, _, e, _⟩ := h; rw [e]; rfl) | (obtain ⟨_, _, _, _, _, _, _, _, _, _, _, e, _⟩ := h; rw [e]; rfl) | (obtain ⟨_, _, _, _, _, _, _, _, _, _, _, _, e, _⟩ := h; rw [e]; rfl) | (obtain ⟨_, _, _, _, _, _, _, _, _, _, _, _, _, e, _⟩ := h; rw [e]; rfl) | (obtain ⟨_, _, _, _, _, _, _, _, _, _, _, _, _, _, e, _⟩ := h; rw [e]; rfl) | (obtain ⟨_, _, _, _, _, _, _, _, _, _, _, _, _, _, _, e, _⟩ := h; rw [e]; rfl) | (obtain ⟨_, _, _, _, _, _, _, _, _, _, _, _, _, _, _, _, e, _⟩ := h; rw [e]; rfl) | (obtain ⟨_, _, _, _, _, _, _, _, _, _, _, _, _, _, _, _, _, e, _⟩ := h; rw [e]; rfl) | (obtain ⟨_, _, _, _, _, _, _, _, _, _, _, _, _, _, _, _, _, _, e, _⟩ := h; rw [e]; rfl) | (obtain ⟨_, _, _, _, _, _, _, _, _, _, _, _, _, _, _, _, _, _, _, e, _⟩ := h; rw [e]; rfl) | (obtain ⟨_, _, _, _, _, _, _, _, _, _, _, _, _, _, _, _, _, _, _, _, e, _⟩ := h; rw [e]; rfl) | (obtain ⟨_, _, _, _, _, _, _, _, _, _, _, _, _, _, _, _, _, _, _, _, _, e, _⟩ := h; rw [e]; rfl) | (obtain ⟨_, _, _, _, _, _, _, _, _, _, _, _, _, _, _, _, _, _, _, _, _, _, e, _⟩ := h; rw [e]; rfl) | (obtain ⟨_, _, _, _, _, _, _, _, _, _, _, _, _, _, _, _, _, _, _, _, _, _, _, e, _⟩ := h; rw [e]; rfl)))

def topS (i : Nat) : Stmt := PySem.Challenge.pw_sameclock_k27_code_row_by_row.main.body.getD i (.Pass ⟨0, 0, 0, 0⟩)
def dOf (x : Str) (i : Nat) : He.DefD := ⟨(x, none), x, x, defArgs (topS i), defBody (topS i), defScope (topS i), [], []⟩
def mOf (c m q : Str) (s : Stmt) : He.DefD := ⟨(c, some m), m, q, defArgs s, defBody s, defScope s, [], []⟩
def fn : List He.DefD := [dOf "_wall" 0, dOf "shifted" 3, dOf "divided" 4, dOf "apply" 5, dOf "words_of" 7, dOf "plain_row" 10, dOf "plain_run" 11, dOf "_law_draws" 13, dOf "_law_reader" 14, dOf "_law_next" 15, dOf "_law_word" 16, dOf "_law_regions" 17, dOf "_law_span" 18, dOf "_law_register" 19, dOf "_law_op" 20, dOf "_law_row" 21, dOf "_law_code" 22, dOf "_law_contents" 23, dOf "_law_apply" 24, dOf "_law_memory" 25, dOf "_law_held" 26, dOf "_law_do" 27, dOf "_law_next_row" 28, dOf "_law_plain" 29, dOf "law" 30, mOf "State" "__init__" "State.__init__" (inClass (topS 8) 0), mOf "State" "copied" "State.copied" (inClass (topS 8) 1), mOf "State" "put" "State.put" (inClass (topS 8) 2), mOf "State" "contents" "State.contents" (inClass (topS 8) 3)]
def fa : List He.Fa := [.glo "_wall", .glo "shifted", .glo "divided", .glo "apply", .glo "words_of", .glo "plain_row", .glo "plain_run", .glo "_law_draws", .glo "_law_reader", .glo "_law_next", .glo "_law_word", .glo "_law_regions", .glo "_law_span", .glo "_law_register", .glo "_law_op", .glo "_law_row", .glo "_law_code", .glo "_law_contents", .glo "_law_apply", .glo "_law_memory", .glo "_law_held", .glo "_law_do", .glo "_law_next_row", .glo "_law_plain", .glo "law", .glo "State", .cls "State", .mkr "State", .meth "State" "copied", .meth "State" "put", .meth "State" "contents", .noat "State" "registers", .noat "State" "ready", .noat "State" "words", .free "abs", .free "int", .free "isinstance", .free "len", .free "min", .free "range", .free "tuple", .free "zip", .int "WORD" 4294967296]
variable {P : Program} {w : World} {K : PySem.W.Frag} {mg : Str → Option Value} {base : Heap}
theorem nd_State : (["registers", "ready", "words"] : List Str).Nodup := by decide +kernel
abbrev fs_State (v0 v1 v2 : V) : List (Str × V) := [("registers", v0), ("ready", v1), ("words", v2)]
theorem cl_State (T : Txt fa fn K mg) : Cls K (He.ga K "State") := T.cls 26 rfl
theorem na_State_registers (T : Txt fa fn K mg) : NoAttr K (He.ga K "State") "registers" := T.noat 31 rfl
theorem nf_State_registers : ("registers" : Str) ∉ ([] : List Str) := by decide +kernel
theorem na_State_ready (T : Txt fa fn K mg) : NoAttr K (He.ga K "State") "ready" := T.noat 32 rfl
theorem nf_State_ready : ("ready" : Str) ∉ (["registers"] : List Str) := by decide +kernel
theorem na_State_words (T : Txt fa fn K mg) : NoAttr K (He.ga K "State") "words" := T.noat 33 rfl
theorem nf_State_words : ("words" : Str) ∉ (["registers", "ready"] : List Str) := by decide +kernel
theorem nm_State_copied : ("copied" : Str) ∉ (["registers", "ready", "words"] : List Str) := by decide +kernel
theorem nm_State_put : ("put" : Str) ∉ (["registers", "ready", "words"] : List Str) := by decide +kernel
theorem nm_State_contents : ("contents" : Str) ∉ (["registers", "ready", "words"] : List Str) := by decide +kernel
local macro_rules | `(tactic| walk_at "fld") => `(tactic| first | ((with_reducible refine' g_fld (f := "registers") ?h ?c ?n ?l ?_); (case h => walk_at "hi"); (case c => exact cl_State (by assumption)); (case n => exact na_State_registers (by assumption)); (case l => exact lk_ix 0 nd_State rfl)) | ((with_reducible refine' g_fld (f := "ready") ?h ?c ?n ?l ?_); (case h => walk_at "hi"); (case c => exact cl_State (by assumption)); (case n => exact na_State_ready (by assumption)); (case l => exact lk_ix 1 nd_State rfl)) | ((with_reducible refine' g_fld (f := "words") ?h ?c ?n ?l ?_); (case h => walk_at "hi"); (case c => exact cl_State (by assumption)); (case n => exact na_State_words (by assumption)); (case l => exact lk_ix 2 nd_State rfl)) | ((with_reducible refine' g_rcv (m := "copied") ?h ?l ?_); (case h => walk_at "hi"); (case l => exact lk_none nm_State_copied)) | ((with_reducible refine' g_rcv (m := "put") ?h ?l ?_); (case h => walk_at "hi"); (case l => exact lk_none nm_State_put)) | ((with_reducible refine' g_rcv (m := "contents") ?h ?l ?_); (case h => walk_at "hi"); (case l => exact lk_none nm_State_contents)))
def sp_law_draws (K : PySem.W.Frag) : Sp := fun vs H Q _ => ∃ (a : Addr) (ns : List Int), vs = [.ref a] ∧ SqL K H a (ns.map V.int) ∧ ns.length ≤ 63 ∧
  ∀ H' p (row : List Int), Same H H' → H p = none → H' p = some (.lst (row.map V.int)) → (∀ x ∈ row, 0 ≤ x ∧ x < 1000) → row.length ≤ 1260 → Q (.ref p) H'
structure DrI (H : Hp) (a p : Addr) (b : Nat) (cell : Option V → Prop) (σ : L2.St) (H' : Hp) : Prop where
  ex : ∃ (row : List Int) (k c t m : Option V), σ = [some (.ref a), some (.ref p), k, c, t, m] ∧ cell c ∧ Same H H' ∧ Has H' [(p, .lst (row.map V.int))] ∧ (∀ x ∈ row, 0 ≤ x ∧ x < 1000) ∧ row.length ≤ b
theorem app_map {row : List Int} {x : Int} : row.map V.int ++ [V.int x] = (row ++ [x]).map V.int := by simp
theorem sc_law_draws : FnScope ["script", "draws", "k", "cell", "turn", "mixed"] ["script"] (defScope (topS 13)) := ⟨rfl, rfl, rfl, by decide +kernel, rfl, by decide +kernel, by decide +kernel⟩
theorem ok_law_draws (T : Txt fa fn K mg) : Dn P w K mg base CX0 1 "_law_draws" ["script"] (sp_law_draws K) := by
  refine mk_dn (d := dOf "_law_draws" 13) T 7 7 rfl rfl rfl rfl rfl sc_law_draws (by walk_at "len") (fun _ _ _ _ _ _ us hl => match us, hl with | [_], _ => rfl) (fun cdv A outer s H vs Q E hr h => ⟨_, (pss_cons (ps_set (i := 1) sc_law_draws.nd rfl (.inl rfl) (pe_lst pa_nil))
      (pss_cons (ps_for PassesOwn.never rfl (pi_r1 rfl (T.free 39 rfl) (pa_cons (pe_callB (c_min2 rfl) rfl (T.free 38 rfl) (by decide +kernel) (pa_cons (pe_callB (c_len (K := K) rfl) rfl (T.free 37 rfl) (by decide +kernel) (pa_cons (pv 0) pa_nil)) (pa_cons pe_int pa_nil))) pa_nil)) (pg_name (i := 2) sc_law_draws.nd rfl (.inl rfl)) (pss_cons (ps_set (i := 3) sc_law_draws.nd rfl (.inl rfl) (pe_callB c_abs rfl (T.free 34 rfl) (by decide +kernel) (pa_cons (pe_ixU (K := K) rfl (hu_of hr) (pv 0) (pv 2)) pa_nil)))
      (pss_one (ps_if (pt_cmpR o_ge (pv 3) (pe_op o_pow pe_int pe_int) (nomark _)) (pss_one (ps_for PassesOwn.never rfl (pi_r1 rfl (T.free 39 rfl) (pa_cons pe_int pa_nil)) (pg_name (i := 4) sc_law_draws.nd rfl (.inl rfl)) (pss_one (ps_if (pt_cmpR o_gt (pv 3) pe_int (nomark _)) (pss_cons (ps_expr (pe_bm PySem.F.plainAttrs_list PySem.F.slot_list_append PySem.F.type_list_append mt_append (pv 1) (pa_cons (pe_op o_mod (pv 3) pe_int) pa_nil)))
      (pss_one (ps_set (i := 3) sc_law_draws.nd rfl (.inl rfl) (pe_op o_fdiv (pv 3) pe_int)))) pss_nil)))) (pss_cons (ps_set (i := 5) sc_law_draws.nd rfl (.inl rfl) (pe_op o_mod (pe_callTy c_int rfl (T.free 35 rfl) (by decide +kernel) (pa_cons (pe_op (op_addU (K := K) rfl) (pe_op (op_addU (K := K) rfl) (pe_op op_mulU (pe_ixU (K := K) rfl (hu_of hr) (pv 0) (pv 2)) pe_int) (pe_op op_mulU (pv 2) pe_int)) pe_int) pa_nil)) pe_int))
      (pss_one (ps_for PassesOwn.never rfl (pi_r1 rfl (T.free 39 rfl) (pa_cons pe_int pa_nil)) (pg_name (i := 4) sc_law_draws.nd rfl (.inl rfl)) (pss_cons (ps_set (i := 5) sc_law_draws.nd rfl (.inl rfl) (pe_op o_mod (pe_callTy c_int rfl (T.free 35 rfl) (by decide +kernel) (pa_cons (pe_op (op_addU (K := K) rfl) (pe_op (op_addU (K := K) rfl) (pe_op op_mulU (pv 5) (pv 5)) (pe_op op_mulU (pv 4) pe_int)) pe_int) pa_nil)) pe_int))
      (pss_one (ps_expr (pe_bm PySem.F.plainAttrs_list PySem.F.slot_list_append PySem.F.type_list_append mt_append (pv 1) (pa_cons (pe_op o_mod (pv 5) pe_int) pa_nil))))))))))))
      (pss_one (ps_ret (pv 1))))), ?_⟩)
  obtain ⟨a, ns, rfl, hS, hlen, hQ⟩ := h
  walk_at "go"
  refine ⟨by decide, fun p hp => ?_⟩
  walk_at "go"
  have hS1 : SqL K (upd H p (.lst [])) a (ns.map V.int) := (Same.new hp).seq hS
  refine g_lenL hS1 ?_
  walk_at "go"
  have hn : (ns.map V.int).length = ns.length := List.length_map _
  rw [hn]
  have hj : (if (63 : Int) < (ns.length : Int) then (63 : Int) else (ns.length : Int)).toNat = ns.length := by split <;> omega
  rw [hj]
  have M0 : Has (upd H p (.lst [])) [(p, .lst (([] : List Int).map V.int))] := Has.one upd_same
  refine f_range (fun i σ H' => ∃ (row : List Int) (k c t m : Option V), σ = [some (.ref a), some (.ref p), k, c, t, m] ∧ Same H H' ∧ Has H' [(p, .lst (row.map V.int))] ∧ (∀ x ∈ row, 0 ≤ x ∧ x < 1000) ∧ row.length ≤ 20 * i)
    ⟨[], _, _, _, _, rfl, Same.new hp, M0, (fun _ h => nomatch h), Nat.le_refl _⟩ ?_ ?_
  · rintro i σ H' hi ⟨row, k, c, t, m, rfl, hs, M, hr1, hr2⟩
    walk_at "go"
    have hS2 := hs.seq hS
    obtain ⟨z, hz⟩ : ∃ z, ns[i]? = some z := ⟨_, List.getElem?_eq_getElem hi⟩
    have hz' : (ns.map V.int)[i]? = some (V.int z) := by rw [List.getElem?_map, hz]; rfl
    refine g_ixL hS2 (n := i) (by omega) hz' ?_
    walk_at "go"
    have hb : 0 ≤ (if z < 0 then -z else z) := by split <;> omega
    generalize (if z < 0 then -z else z) = cell at hb
    refine g_if (fun hc => ?_) (fun hc => ?_)
    · walk_at "go"
      refine f_range (fun j σ H' => ∃ (row : List Int) (cell : Int) (k t m : Option V), σ = [some (.ref a), some (.ref p), k, some (.int cell), t, m] ∧ 0 ≤ cell ∧ Same H H' ∧ Has H' [(p, .lst (row.map V.int))] ∧ (∀ x ∈ row, 0 ≤ x ∧ x < 1000) ∧ row.length ≤ 20 * i + j)
        ⟨row, cell, _, _, _, rfl, hb, hs, M, hr1, by omega⟩ ?_ ?_
      · rintro j σ H2 hj ⟨row, cell, k, t, m, rfl, hb, hs, M, hr1, hr2⟩
        walk_at "go"
        refine g_if (fun h0 => ?_) (fun h0 => ?_)
        · walk_at "go"
          refine g_append M 0 rfl (szl (by rw [List.length_map]; have hj' : j < 20 := hj; omega)) (fun M1 => ?_)
          walk_at "go"
          refine ⟨row ++ [cell % 1000], cell / 1000, _, _, _, rfl, by omega, Same.mut hs hp, by rw [← app_map]; exact M1, ?_, by rw [List.length_append]; simp; omega⟩
          intro x hx
          rcases List.mem_append.mp hx with hx | hx
          · exact hr1 x hx
          · rw [List.mem_singleton.mp hx]
            omega
        · walk_at "go"
          exact ⟨row, cell, _, _, _, rfl, hb, hs, M, hr1, by omega⟩
      · rintro σ H2 ⟨row, cell, k, t, m, rfl, hb, hs, M, hr1, hr2⟩
        walk_at "go"
        exact ⟨row, _, _, _, _, rfl, hs, M, hr1, by have h20 : (20 : Int).toNat = 20 := rfl; omega⟩
    · walk_at "go"
      have hz2 := hs.seq hS
      refine g_ixL hz2 (n := i) (by omega) hz' ?_
      walk_at "go"
      refine f_range (fun j σ H' => ∃ (row : List Int) (mixed : Int) (k c t : Option V), σ = [some (.ref a), some (.ref p), k, c, t, some (.int mixed)] ∧ 0 ≤ mixed ∧ mixed < 2147483647 ∧ Same H H' ∧ Has H' [(p, .lst (row.map V.int))] ∧ (∀ x ∈ row, 0 ≤ x ∧ x < 1000) ∧ row.length ≤ 20 * i + j)
        ⟨row, _, _, _, _, rfl, Int.emod_nonneg _ (by decide), Int.emod_lt_of_pos _ (by decide), hs, M, hr1, by omega⟩ ?_ ?_
      · rintro j σ H2 hj ⟨row, mixed, k, c, t, rfl, hm0, hm1, hs, M, hr1, hr2⟩
        walk_at "go"
        have hj' : j < 3 := hj
        refine g_append M 0 rfl (szl (by rw [List.length_map]; omega)) (fun M1 => ?_)
        walk_at "go"
        refine ⟨row ++ [_], _, _, _, _, rfl, Int.emod_nonneg _ (by decide), Int.lt_of_lt_of_le (Int.emod_lt_of_pos _ (by decide)) (by decide), Same.mut hs hp, by rw [← app_map]; exact M1, ?_, by rw [List.length_append]; simp; omega⟩
        intro x hx
        rcases List.mem_append.mp hx with hx | hx
        · exact hr1 x hx
        · rw [List.mem_singleton.mp hx]
          exact ⟨Int.emod_nonneg _ (by decide), Int.emod_lt_of_pos _ (by decide)⟩
      · rintro σ H2 ⟨row, mixed, k, c, t, rfl, hm0, hm1, hs, M, hr1, hr2⟩
        walk_at "go"
        exact ⟨row, _, _, _, _, rfl, hs, M, hr1, by have h20 : (3 : Int).toNat = 3 := rfl; omega⟩
  · rintro σ H' ⟨row, k, c, t, m, rfl, hs, M, hr1, hr2⟩
    walk_at "go"
    exact hQ H' p row hs hp (M.get 0 rfl) hr1 (by omega)

def sp_law_reader (K : PySem.W.Frag) : Sp := fun vs H Q _ => ∃ (a : Addr) (ns : List Int), vs = [.ref a] ∧ SqL K H a (ns.map V.int) ∧ ns.length ≤ 63 ∧
  ∀ H' d r (row : List Int) (sd : Int), Same H H' → H d = none → H r = none → Has H' [(d, .dK (drK r 0 sd)), (r, .lst (row.map V.int))] → RowOk row sd → Q (.ref d) H'
theorem sc_law_reader : FnScope ["script", "row", "seed"] ["script"] (defScope (topS 14)) := ⟨rfl, rfl, rfl, by decide +kernel, rfl, by decide +kernel, by decide +kernel⟩
theorem ok_law_reader (T : Txt fa fn K mg) : Dn P w K mg base CX0 2 "_law_reader" ["script"] (sp_law_reader K) := by
  refine mk_dn (d := dOf "_law_reader" 14) T 8 8 rfl rfl rfl rfl rfl sc_law_reader (by walk_at "len") (fun _ _ _ _ _ _ us hl => match us, hl with | [_], _ => rfl) (fun cdv A outer s H vs Q E hr h => ⟨_, (pss_cons (ps_set (i := 1) sc_law_reader.nd rfl (.inl rfl) (pe_callD (K := K) rfl (ok_law_draws T) (hr.mono (by decide)) rfl pass0 (pa_cons (pv 0) pa_nil)))
      (pss_cons (ps_set (i := 2) sc_law_reader.nd rfl (.inl rfl) pe_int)
      (pss_cons (ps_if (pt_cmpR o_gt (pe_callB (c_len (K := K) rfl) rfl (T.free 37 rfl) (by decide +kernel) (pa_cons (pv 0) pa_nil)) pe_int (nomark _)) (pss_one (ps_set (i := 2) sc_law_reader.nd rfl (.inl rfl) (pe_op o_mod (pe_callB c_abs rfl (T.free 34 rfl) (by decide +kernel) (pa_cons (pe_ixU (K := K) rfl (hu_of hr) (pv 0) (pe_un un_neg pe_int)) pa_nil)) pe_int))) pss_nil)
      (pss_one (ps_ret (pe_disp (pps_cons pe_str (pv 1) (pps_cons pe_str pe_int (pps_cons pe_str (pv 2) pps_nil))) (by rfl) (by rfl) (fun z => by cases z) (by decide))))))), ?_⟩)
  obtain ⟨a, ns, rfl, hS, hlen, hQ⟩ := h
  walk_at "go"
  refine ⟨a, ns, rfl, hS, hlen, fun H1 p row s1 hp hr hr1 hr2 => ?_⟩
  walk_at "go"
  have hS1 := s1.seq hS
  refine g_lenL hS1 ?_
  walk_at "go"
  have fin : ∀ (sd : Int), 0 ≤ sd → sd < 1000003 → ∀ d, H1 d = none → upd H1 d (.dK []) d = some (.dK []) ∧ ∃ kvs : List (Key × V), [(V.str "row", V.ref p), (V.str "at", V.int 0), (V.str "seed", V.int sd)] = kvs.map (fun kv => (kV kv.1, kv.2)) ∧ kvs.length ≤ 15 ∧ Q (.ref d) (upd (upd H1 d (.dK [])) d (.dK (mergeK [] kvs))) := by
    intro sd h0 h1 d hd
    refine ⟨upd_same, [(.inr "row", .ref p), (.inr "at", .int 0), (.inr "seed", .int sd)], rfl, (by show 3 ≤ 15; decide), ?_⟩
    rw [dr_made, upd_upd]
    refine hQ _ d p row sd (Same.new' s1 hd) (s1.free hd) hp ?_ ⟨hr1, hr2, h0, h1⟩
    have M : Has (upd H1 d (.dK (drK p 0 sd))) ([(p, .lst (row.map V.int))] ++ [(d, .dK (drK p 0 sd))]) := (Has.one hr).new hd
    exact M.perm (List.perm_append_comm (l₁ := [_]) (l₂ := [_]))
  refine g_if (fun h0 => ?_) (fun h0 => ?_)
  · walk_at "go"
    have hn : (ns.map V.int).length = ns.length := List.length_map _
    rw [hn] at h0
    obtain ⟨z, hz⟩ : ∃ z, ns[ns.length - 1]? = some z := ⟨_, List.getElem?_eq_getElem (by omega)⟩
    have hz' : (ns.map V.int)[ns.length - 1]? = some (V.int z) := by rw [List.getElem?_map, hz]; rfl
    refine g_ixL' hS1 (v := .int z) ?_ ?_
    · show (ixN _ (-1)).bind _ = _
      unfold ixN
      rw [if_neg (by decide), if_pos (by omega), hn]
      have e : ((-1 : Int) + (ns.length : Int)).toNat = ns.length - 1 := by omega
      show (ns.map V.int)[((-1 : Int) + (ns.length : Int)).toNat]? = _
      rw [e]
      exact hz'
    · walk_at "go"
      intro d hd
      walk_at "go"
      exact fin _ (Int.emod_nonneg _ (by decide)) (Int.emod_lt_of_pos _ (by decide)) d hd
  · walk_at "go"
    intro d hd
    walk_at "go"
    exact fin _ (by decide) (by decide) d hd
def sp_law_next (K : PySem.W.Frag) : Sp := fun vs H Q _ => ∃ (d r : Addr) (n sd m : Int) (row : List Int), vs = [.ref d, .int m] ∧ H d = some (.dK (drK r n sd)) ∧ H r = some (.lst (row.map V.int)) ∧ RowOk row sd ∧ 0 ≤ n ∧ 0 < m ∧
  ∀ H' v, Keep [d] H H' → H' d = some (.dK (drK r (n + 1) sd)) → 0 ≤ v → v < m → Q (.int v) H'
theorem sc_law_next : FnScope ["draws", "many", "at", "mixed"] ["draws", "many"] (defScope (topS 15)) := ⟨rfl, rfl, rfl, by decide +kernel, rfl, by decide +kernel, by decide +kernel⟩
theorem ok_law_next (T : Txt fa fn K mg) : Dn P w K mg base CX0 1 "_law_next" ["draws", "many"] (sp_law_next K) := by
  refine mk_dn (d := dOf "_law_next" 15) T 9 9 rfl rfl rfl rfl rfl sc_law_next (by walk_at "len") (fun _ _ _ _ _ _ us hl => match us, hl with | [_, _], _ => rfl) (fun cdv A outer s H vs Q E hr h => ⟨_, (pss_cons (ps_set (i := 2) sc_law_next.nd rfl (.inl rfl) (pe_ixU (K := K) rfl (hu_of hr) (pv 0) pe_str))
      (pss_cons (ps_dput (hu_of hr) (pv 0) pe_str (pe_op (op_addU (K := K) rfl) (pv 2) pe_int) rfl)
      (pss_cons (ps_if (pt_cmpR o_lt (pv 2) (pe_callB (c_len (K := K) rfl) rfl (T.free 37 rfl) (by decide +kernel) (pa_cons (pe_ixU (K := K) rfl (hu_of hr) (pv 0) pe_str) pa_nil)) (nomark _)) (pss_one (ps_ret (pe_op o_mod (pe_callTy c_int rfl (T.free 35 rfl) (by decide +kernel) (pa_cons (pe_ixU (K := K) rfl (hu_of hr) (pe_ixU (K := K) rfl (hu_of hr) (pv 0) pe_str) (pv 2)) pa_nil)) (pv 1)))) pss_nil)
      (pss_cons (ps_set (i := 3) sc_law_next.nd rfl (.inl rfl) (pe_op o_mod (pe_callTy c_int rfl (T.free 35 rfl) (by decide +kernel) (pa_cons (pe_op op_mulU (pe_op (op_addU (K := K) rfl) (pe_op (op_addU (K := K) rfl) (pe_ixU (K := K) rfl (hu_of hr) (pv 0) pe_str) (pe_op op_mulU pe_int (pv 2))) pe_int) pe_int) pa_nil)) pe_int))
      (pss_one (ps_ret (pe_op o_mod (pe_op o_fdiv (pe_op o_mod (pe_callTy c_int rfl (T.free 35 rfl) (by decide +kernel) (pa_cons (pe_op (op_addU (K := K) rfl) (pe_op op_mulU (pv 3) (pv 3)) (pv 2)) pa_nil)) pe_int) pe_int) (pv 1)))))))), ?_⟩)
  obtain ⟨d, r, n, sd, m, row, rfl, hd, hr, ok, hn, hm, hQ⟩ := h
  walk_at "go"
  refine g_ixD (dg_at hd) ?_
  walk_at "go"
  refine ⟨d, _, rfl, dp_at (n + 1) hd, ?_⟩
  have ne : r ≠ d := ne_of hr hd (by intro z; cases z)
  have hd1 : upd H d (.dK (drK r (n + 1) sd)) d = some (.dK (drK r (n + 1) sd)) := upd_same
  have hr1 : upd H d (.dK (drK r (n + 1) sd)) r = some (.lst (row.map V.int)) := by rw [upd_ne ne]; exact hr
  have hk : Keep [d] H (upd H d (.dK (drK r (n + 1) sd))) := Keep.set (List.mem_singleton.mpr rfl)
  walk_at "go"
  refine g_ixD (dg_row hd1) ?_
  walk_at "go"
  refine g_if (fun h0 => ?_) (fun h0 => ?_)
  · walk_at "go"
    refine g_ixD (dg_row hd1) ?_
    walk_at "go"
    obtain ⟨z, hz⟩ : ∃ z, row[n.toNat]? = some z := ⟨_, List.getElem?_eq_getElem (by omega)⟩
    refine g_ixL (SqL.of hr1) (n := n.toNat) (by omega) (by rw [List.getElem?_map, hz]; rfl) ?_
    walk_at "go"
    exact hQ _ _ hk hd1 (Int.emod_nonneg _ (by omega)) (Int.emod_lt_of_pos _ hm)
  · walk_at "go"
    refine g_ixD (dg_seed hd1) ?_
    walk_at "go"
    exact hQ _ _ hk hd1 (Int.emod_nonneg _ (by omega)) (Int.emod_lt_of_pos _ hm)
theorem use_next {H : Hp} {d r : Addr} {n sd m : Int} {row : List Int} {Q : VK} {E : XK} (hd : H d = some (.dK (drK r n sd))) (hr : H r = some (.lst (row.map V.int))) (ok : RowOk row sd) (hn : 0 ≤ n) (hm : 0 < m)
    (k : ∀ H' v, Keep [d] H H' → H' d = some (.dK (drK r (n + 1) sd)) → H' r = some (.lst (row.map V.int)) → 0 ≤ v → v < m → Q (.int v) H') : sp_law_next K ([.ref d, .int m] ++ []) H Q E :=
  ⟨d, r, n, sd, m, row, rfl, hd, hr, ok, hn, hm, fun H' v kp h1 h2 h3 => k H' v kp h1 (kp r _ hr (by
    have ne : r ≠ d := ne_of hr hd (by intro z; cases z)
    simpa using ne)) h2 h3⟩
theorem use_nextM {H : Hp} {L : List (Addr × HO)} {d r : Addr} {n sd m : Int} {row : List Int} {Q : VK} {E : XK} (M : Has H ((d, .dK (drK r n sd)) :: (r, .lst (row.map V.int)) :: L)) (ok : RowOk row sd) (hn : 0 ≤ n) (hm : 0 < m)
    (k : ∀ H' v, Keep [d] H H' → Has H' ((d, .dK (drK r (n + 1) sd)) :: (r, .lst (row.map V.int)) :: L) → 0 ≤ v → v < m → Q (.int v) H') : sp_law_next K ([.ref d, .int m] ++ []) H Q E :=
  ⟨d, r, n, sd, m, row, rfl, M.get 0 rfl, M.get 1 rfl, ok, hn, hm, fun H' v kp h1 h2 h3 => k H' v kp (M.call1 kp 0 rfl h1) h2 h3⟩

/-! ### draws, bundled -/
/-- the draws dict stands at d, beside the objects L -/
structure DrL (H : Hp) (d : Addr) (L : List (Addr × HO)) : Prop where
  ex : ∃ (r : Addr) (n sd : Int) (row : List Int), Has H ((d, .dK (drK r n sd)) :: (r, .lst (row.map V.int)) :: L) ∧ RowOk row sd ∧ 0 ≤ n
section
variable {H H' : Hp} {d p a : Addr} {L L' : List (Addr × HO)} {o o' : HO} {Q : VK} {E : XK} {m : Int} {v : V} {e : PyData} {xs : List V} {ds : List PyData} {σ : L2.St} {j : Nat}
theorem DrL.has (D : DrL H d L) : Has H L := by
  obtain ⟨r, n, sd, row, M, _⟩ := D.ex
  exact M.sub ((List.sublist_cons_self _ _).trans (List.sublist_cons_self _ _))
theorem DrL.get (D : DrL H d L) (i : Nat) (h : L[i]? = some (a, o)) : H a = some o := D.has.get i h
theorem DrL.new (D : DrL H d L) (hp : H p = none) : DrL (upd H p o) d (L ++ [(p, o)]) := by
  obtain ⟨r, n, sd, row, M, ok, hn⟩ := D.ex
  exact ⟨r, n, sd, row, M.new hp, ok, hn⟩
theorem DrL.same (D : DrL H d L) (k : Same H H') : DrL H' d L := by
  obtain ⟨r, n, sd, row, M, ok, hn⟩ := D.ex
  exact ⟨r, n, sd, row, M.keep k, ok, hn⟩
theorem DrL.sub (D : DrL H d L) (h : L'.Sublist L) : DrL H d L' := by
  obtain ⟨r, n, sd, row, M, ok, hn⟩ := D.ex
  exact ⟨r, n, sd, row, M.sub ((h.cons₂ _).cons₂ _), ok, hn⟩
theorem DrL.set (D : DrL H d L) (i : Nat) (h : L[i]? = some (a, o)) : DrL (upd H a o') d (L.set i (a, o')) := by
  obtain ⟨r, n, sd, row, M, ok, hn⟩ := D.ex
  exact ⟨r, n, sd, row, M.set (i + 2) h, ok, hn⟩
theorem DrL.noTup (D : DrL H d L) : NoTup H [d] := by
  obtain ⟨r, n, sd, row, M, ok, hn⟩ := D.ex
  exact NoTup.one (M.get 0 rfl) (fun xs e => nomatch e)
theorem DrL.im (D : DrL H d L) (k : Keep [d] H H') (h : Im H v e) : Im H' v e := h.keep k D.noTup
theorem DrL.ims (D : DrL H d L) (k : Keep [d] H H') (h : Ims H xs ds) : Ims H' xs ds := h.keep k D.noTup
theorem DrL.ne (D : DrL H d L) (hp : H p = none) : p ≠ d := by
  obtain ⟨r, n, sd, row, M, ok, hn⟩ := D.ex
  rintro rfl
  have := M.get 0 rfl
  rw [hp] at this
  cases this
theorem DrL.at_ (D : DrL H d L) (k : Keep [d] H H') (h : H a = some o) (n : ∀ kvs, o ≠ .dK kvs) : H' a = some o := by
  obtain ⟨r, q, sd, row, M, ok, hn⟩ := D.ex
  refine k a o h fun z => ?_
  rw [List.mem_singleton.mp z, M.get 0 rfl] at h
  exact n _ (Option.some.inj h).symm
theorem use_nx (D : DrL H d L) (hm : 0 < m) (k : ∀ H' v, Keep [d] H H' → DrL H' d L → 0 ≤ v → v < m → Q (.int v) H') : sp_law_next K ([.ref d, .int m] ++ []) H Q E := by
  obtain ⟨r, n, sd, row, M, ok, hn⟩ := D.ex
  exact use_nextM M ok hn hm fun H' v kp M' h0 h1 => k H' v kp ⟨r, _, sd, row, M', ok, by omega⟩ h0 h1
/-- one of a written list, by a draw -/
theorem use_pk (D : DrL H d L) (hj : σ[j]? = some (some (.ref d))) (hm : (xs.length : Int) = m) (h0 : 0 < xs.length) (hs : xs.length ≤ 1000) (k : ∀ H' v, Keep [d] H H' → DrL H' d L → v ∈ xs → Q v H') :
    rLstN xs H fun x H1 => tCall (sp_law_next K) [] E (tCons (tVar j) (tCons (tC (.int m)) tNil)) σ H1 fun y H2 => rIxU K x y H2 Q := by
  refine ⟨szle (by omega), fun p hp => ?_⟩
  refine g_call (g_consA (g_var hj (g_consA (g_c (g_nilA ?_)))))
  have D1 := D.same (Same.new (o := .lst xs) hp)
  refine use_nx D1 (by omega) fun H2 v k2 D2 h1 h2 => ?_
  have hv : v.toNat < xs.length := by omega
  have hx : xs[v.toNat]? = some xs[v.toNat] := List.getElem?_eq_getElem hv
  exact g_ixL (SqL.of (D1.at_ k2 upd_same (fun _ e => nomatch e))) (n := v.toNat) (by omega) hx (k H2 _ ((Keep.new hp).trans k2) D2 (List.getElem_mem hv))
theorem gD_append (D : DrL H d L) (n : Nat) (h : L[n]? = some (a, .lst xs)) (hl : xs.length < 100000) (k : DrL (upd H a (.lst (xs ++ [v]))) d (L.set n (a, .lst (xs ++ [v]))) → Q .non (upd H a (.lst (xs ++ [v])))) : rAppend (.ref a) [v] H Q :=
  ⟨a, xs, v, rfl, rfl, D.get n h, szl (by omega), k (D.set n h)⟩
theorem use_readerD {a : Addr} {ns : List Int} (hS : SqL K H a (ns.map V.int)) (hl : ns.length ≤ 63) (k : ∀ H' d, Same H H' → H d = none → DrL H' d [] → Q (.ref d) H') : sp_law_reader K ([.ref a] ++ []) H Q E :=
  ⟨a, ns, rfl, hS, hl, fun H' d r row sd sm h1 h2 M ok => k H' d sm h1 ⟨r, 0, sd, row, M, ok, by decide⟩⟩
end

/-! ### comprehensions that make data -/
section
variable {K : PySem.W.Frag} {σ : L2.St} {H : Hp} {g : TG} {te : TE} {vs : List Nat} {Q : VK} {a d : Addr} {xs : List V} {ds : List PyData} {n k : Nat} {lo : Int}
theorem ims_snoc {H H2 : Hp} {us : List V} {es : List PyData} {v : V} {e : PyData} {D : Addr} {o : HO} (h : Ims H us es) (hv : Im H v e) (hD : H D = some (.lst us)) : Ims (upd H D o) (us ++ [v]) (es ++ [e]) :=
  (h.append (Ims.one hv)).keep (Keep.set (List.mem_singleton.mpr rfl)) (NoTup.one hD (fun _ e => nomatch e))
/-- over a tuple of data -/
theorem l_map {f : PyData → PyData} (ha : H a = some (.tup xs)) (hs : Ims H xs ds) (hl : ds.length ≤ 1000)
    (step : ∀ (i : Nat) (e : PyData) (y : V) (H' : Hp) (R : VK), ds[i]? = some e → Same H H' → Im H' y e → (∀ H2 v, Same H' H2 → Im H2 v (f e) → R v H2) → g y (wipe σ vs) H' fun σ2 H2 => wipe σ2 vs = wipe σ vs ∧ te σ2 H2 R)
    (hm : ∀ (y : V) (σ1 : L2.St) (H1 : Hp) (R R' : L2.St → Hp → Prop), (∀ σ2 H2, R σ2 H2 → R' σ2 H2) → g y σ1 H1 R → g y σ1 H1 R')
    (q : ∀ D H' us, Same H H' → H' D = some (.lst us) → Ims H' us (ds.map f) → Q (.ref D) H') : LcW g tYes te vs σ Q (Itt K a) H := by
  have hlen := hs.length
  refine l_tup (xs := xs) (fun D i H' => ∃ us, H' D = some (.lst us) ∧ Ims H' us ((ds.take i).map f) ∧ Same H H') (fun D hD => ⟨[], upd_same, .nil, Same.new hD⟩) ?_ ?_ ?_
  · rintro D hD i H' hi ⟨us, hD', im, sm⟩
    exact SqT.of (sm _ _ ha)
  · rintro D hD i y H' hi ⟨us, hD', im, sm⟩
    obtain ⟨hlt, _⟩ := List.getElem?_eq_some_iff.mp hi
    have hd : ds[i]? = some (ds[i]'(by omega)) := List.getElem?_eq_getElem _
    generalize ds[i]'(by omega) = dv at hd
    obtain ⟨y', hy', hiy⟩ := hs.get hd
    rw [hi] at hy'
    cases hy'
    have hul : us.length = (ds.take i).length := by rw [im.length, List.length_map]
    refine hm _ _ _ _ _ ?_ (step i dv y H' (fun v H3 => ∃ acc, H3 D = some (.lst acc) ∧ acc.length < sizeLine ∧ ∃ us, upd H3 D (.lst (acc ++ [v])) D = some (.lst us) ∧ Ims (upd H3 D (.lst (acc ++ [v]))) us ((ds.take (i + 1)).map f) ∧ Same H (upd H3 D (.lst (acc ++ [v])))) hd sm (hiy.same sm) (fun H2 v sm2 imv => ?_))
    · rintro σ2 H2 ⟨e1, e2⟩
      exact ⟨e1, g_yes (g_ifT e2)⟩
    · have hD2 := sm2 _ _ hD'
      refine ⟨us, hD2, szl (by rw [hul, List.length_take]; omega), _, upd_same, ?_, Same.mut (sm.trans sm2) hD⟩
      rw [map_take_succ hd]
      exact ims_snoc (H2 := H2) (im.same sm2) imv hD2
  · rintro D hD H' ⟨us, hD', im, sm⟩
    refine q D H' us sm hD' ?_
    rw [hlen, List.take_length] at im
    exact im
/-- over a range -/
theorem l_mapR {f : Nat → PyData} (hn : n ≤ 10000) (hwp : ∀ x : V, wipe ((wipe σ vs).set k (some x)) vs = wipe σ vs)
    (step : ∀ (i : Nat) (H' : Hp) (R : VK), i < n → Same H H' → (∀ H2 v, Same H' H2 → Im H2 v (f i) → R v H2) → te ((wipe σ vs).set k (some (.int (lo + i)))) H' R)
    (q : ∀ D H' us, Same H H' → H' D = some (.lst us) → Ims H' us ((List.range n).map f) → Q (.ref D) H') : LcW (gName k) tYes te vs σ Q (Itr lo n) H := by
  refine l_range (fun D i H' => ∃ us, H' D = some (.lst us) ∧ Ims H' us ((List.range i).map f) ∧ Same H H') (fun D hD => ⟨[], upd_same, .nil, Same.new hD⟩) ?_ ?_
  · rintro D hD i H' hi ⟨us, hD', im, sm⟩
    have hul : us.length = i := by rw [im.length, List.length_map, List.length_range]
    refine g_name (g_wipe (hwp _) (g_yes (g_ifT ?_)))
    refine step i H' _ hi sm (fun H2 v sm2 imv => ?_)
    have hD2 := sm2 _ _ hD'
    refine ⟨us, hD2, szl (by omega), _, upd_same, ?_, Same.mut (sm.trans sm2) hD⟩
    rw [List.range_succ, List.map_append]
    exact ims_snoc (H2 := H2) (im.same sm2) imv hD2
  · rintro D hD H' ⟨us, hD', im, sm⟩
    exact q D H' us sm hD' im
/-- over a range, with draws -/
theorem l_drawR {P : Nat → PyData → Prop} {L : List (Addr × HO)} (D0 : DrL H d L) (hn : n ≤ 10000) (hwp : ∀ x : V, wipe ((wipe σ vs).set k (some x)) vs = wipe σ vs)
    (step : ∀ (i : Nat) (H' : Hp) (R : VK) (L' : List (Addr × HO)), i < n → Keep [d] H H' → DrL H' d L' → (∀ H2 v e, Keep [d] H' H2 → DrL H2 d L' → Im H2 v e → P i e → R v H2) → te ((wipe σ vs).set k (some (.int (lo + i)))) H' R)
    (q : ∀ D H' us es, H D = none → Keep [d] H H' → DrL H' d (L ++ [(D, .lst us)]) → Ims H' us es → es.length = n → (∀ i e, es[i]? = some e → P i e) → Q (.ref D) H') : LcW (gName k) tYes te vs σ Q (Itr lo n) H := by
  refine l_range (fun D i H' => ∃ us es, DrL H' d (L ++ [(D, .lst us)]) ∧ Ims H' us es ∧ es.length = i ∧ (∀ j e, es[j]? = some e → P j e) ∧ Keep [d] H H') (fun D hD => ⟨[], [], D0.new hD, .nil, rfl, fun j e h => by simp at h, Keep.new hD⟩) ?_ ?_
  · rintro D hD i H' hi ⟨us, es, D1, im, hl, hp, kp⟩
    have hul : us.length = i := by rw [im.length, hl]
    refine g_name (g_wipe (hwp _) (g_yes (g_ifT ?_)))
    refine step i H' _ _ hi kp D1 (fun H2 v e k2 D2 imv pe => ?_)
    have hD2 : H2 D = some (.lst us) := D2.get L.length (by simp)
    have D3 := D2.set (o' := .lst (us ++ [v])) L.length (by simp : (L ++ [(D, HO.lst us)])[L.length]? = some (D, HO.lst us))
    refine ⟨us, hD2, szl (by omega), us ++ [v], es ++ [e], ?_, ims_snoc (H2 := H2) (D1.ims k2 im) imv hD2, by rw [List.length_append, hl]; rfl, fun j e' hj => ?_, (kp.trans k2).mut hD⟩
    · rw [show (L ++ [(D, HO.lst us)]).set L.length (D, HO.lst (us ++ [v])) = L ++ [(D, HO.lst (us ++ [v]))] by simp] at D3
      exact D3
    · by_cases hj2 : j < es.length
      · rw [List.getElem?_append_left hj2] at hj
        exact hp j e' hj
      · rw [List.getElem?_append_right (by omega)] at hj
        cases hk : j - es.length with
        | zero =>
          rw [hk] at hj
          simp only [List.getElem?_cons_zero, Option.some.injEq] at hj
          subst hj
          have : j = i := by omega
          rw [this]
          exact pe
        | succ m =>
          rw [hk] at hj
          simp at hj
  · rintro D hD H' ⟨us, es, D1, im, hl, hp, kp⟩
    exact q D H' us es hD kp D1 im hl hp
/-- over a tuple of data, with draws -/
theorem l_drawT {P : Nat → PyData → Prop} {L : List (Addr × HO)} (D0 : DrL H d L) (ha : H a = some (.tup xs)) (hs : Ims H xs ds) (hl : ds.length ≤ 1000)
    (step : ∀ (i : Nat) (e0 : PyData) (y : V) (H' : Hp) (R : VK) (L' : List (Addr × HO)), ds[i]? = some e0 → Keep [d] H H' → Im H' y e0 → DrL H' d L' → (∀ H2 v e, Keep [d] H' H2 → DrL H2 d L' → Im H2 v e → P i e → R v H2) → g y (wipe σ vs) H' fun σ2 H2 => wipe σ2 vs = wipe σ vs ∧ te σ2 H2 R)
    (hm : ∀ (y : V) (σ1 : L2.St) (H1 : Hp) (R R' : L2.St → Hp → Prop), (∀ σ2 H2, R σ2 H2 → R' σ2 H2) → g y σ1 H1 R → g y σ1 H1 R')
    (q : ∀ D H' us es, H D = none → Keep [d] H H' → DrL H' d (L ++ [(D, .lst us)]) → Ims H' us es → es.length = ds.length → (∀ i e, es[i]? = some e → P i e) → Q (.ref D) H') : LcW g tYes te vs σ Q (Itt K a) H := by
  have hlen := hs.length
  refine l_tup (xs := xs) (fun D i H' => ∃ us es, DrL H' d (L ++ [(D, .lst us)]) ∧ Ims H' us es ∧ es.length = i ∧ (∀ j e, es[j]? = some e → P j e) ∧ Keep [d] H H') (fun D hD => ⟨[], [], D0.new hD, .nil, rfl, fun j e h => by simp at h, Keep.new hD⟩) ?_ ?_ ?_
  · rintro D hD i H' hi ⟨us, es, D1, im, hl2, hp, kp⟩
    exact SqT.of (D0.at_ kp ha (fun _ e => nomatch e))
  · rintro D hD i y H' hi ⟨us, es, D1, im, hl2, hp, kp⟩
    obtain ⟨hlt, _⟩ := List.getElem?_eq_some_iff.mp hi
    have hd : ds[i]? = some (ds[i]'(by omega)) := List.getElem?_eq_getElem _
    generalize ds[i]'(by omega) = dv at hd
    obtain ⟨y', hy', hiy⟩ := hs.get hd
    rw [hi] at hy'
    cases hy'
    have hul : us.length = i := by rw [im.length, hl2]
    refine hm _ _ _ _ _ ?_ (step i dv y H' (fun v H3 => ∃ acc, H3 D = some (.lst acc) ∧ acc.length < sizeLine ∧ ∃ us es, DrL (upd H3 D (.lst (acc ++ [v]))) d (L ++ [(D, .lst us)]) ∧ Ims (upd H3 D (.lst (acc ++ [v]))) us es ∧ es.length = i + 1 ∧ (∀ j e, es[j]? = some e → P j e) ∧ Keep [d] H (upd H3 D (.lst (acc ++ [v])))) _ hd kp (D0.im kp hiy) D1 (fun H2 v e k2 D2 imv pe => ?_))
    · rintro σ2 H2 ⟨e1, e2⟩
      exact ⟨e1, g_yes (g_ifT e2)⟩
    · have hD2 : H2 D = some (.lst us) := D2.get L.length (by simp)
      have D3 := D2.set (o' := .lst (us ++ [v])) L.length (by simp : (L ++ [(D, HO.lst us)])[L.length]? = some (D, HO.lst us))
      refine ⟨us, hD2, szl (by omega), us ++ [v], es ++ [e], ?_, ims_snoc (H2 := H2) (D1.ims k2 im) imv hD2, by rw [List.length_append, hl2]; rfl, fun j e' hj => ?_, (kp.trans k2).mut hD⟩
      · rw [show (L ++ [(D, HO.lst us)]).set L.length (D, HO.lst (us ++ [v])) = L ++ [(D, HO.lst (us ++ [v]))] by simp] at D3
        exact D3
      · by_cases hj2 : j < es.length
        · rw [List.getElem?_append_left hj2] at hj
          exact hp j e' hj
        · rw [List.getElem?_append_right (by omega)] at hj
          cases hk : j - es.length with
          | zero =>
            rw [hk] at hj
            simp only [List.getElem?_cons_zero, Option.some.injEq] at hj
            subst hj
            have : j = i := by omega
            rw [this]
            exact pe
          | succ m =>
            rw [hk] at hj
            simp at hj
  · rintro D hD H' ⟨us, es, D1, im, hl2, hp, kp⟩
    exact q D H' us es hD kp D1 im (by omega) hp
end


/-! ### words, signs, what a row does -/
inductive Sg
  | add | sub | mul | band | bor | bxor | shl | shr | eq | lt | le | div | mod
def Sg.s : Sg → Str
  | .add => "+" | .sub => "-" | .mul => "*" | .band => "&" | .bor => "|" | .bxor => "^" | .shl => "<<" | .shr => ">>" | .eq => "==" | .lt => "<" | .le => "<=" | .div => "div" | .mod => "mod"
def appD : Sg → Int → Int → Int
  | .add, a, b => (a + b) % 4294967296
  | .sub, a, b => (a - b) % 4294967296
  | .mul, a, b => (a * b) % 4294967296
  | .band, a, b => Builtin.bitAnd a b
  | .bor, a, b => Builtin.bitOr a b
  | .bxor, a, b => Builtin.bitXor a b
  | .shl, a, b => a * (1 * 2 ^ (b % 32).toNat) % 4294967296
  | .shr, a, b => a / (1 * 2 ^ (b % 32).toNat)
  | .eq, a, b => if decide (a = b) then 1 else 0
  | .lt, a, b => if decide (a < b) then 1 else 0
  | .le, a, b => if decide (a ≤ b) then 1 else 0
  | .div, a, b => if b = 0 then 0 else a / b
  | .mod, a, b => if b = 0 then a else a % b
structure W32 (x : Int) : Prop where
  l : 0 ≤ x
  u : x < 4294967296
theorem nat_lt {x : Int} (h : W32 x) : x.toNat < 2 ^ 32 := by
  have h1 := h.l
  have h2 := h.u
  show x.toNat < 4294967296
  omega
theorem pow32 {b : Int} : 0 < 1 * (2 : Int) ^ (b % 32).toNat ∧ 1 * (2 : Int) ^ (b % 32).toNat < 18446744073709551616 := by
  have h1 : (b % 32).toNat < 32 := by omega
  have h2 : ∀ n : Nat, n < 32 → 0 < 1 * (2 : Int) ^ n ∧ 1 * (2 : Int) ^ n < 18446744073709551616 := by decide +kernel
  exact h2 _ h1
theorem b01 {p : Bool} : W32 (if p then 1 else 0) := by
  cases p
  · exact ⟨by decide, by decide⟩
  · exact ⟨by decide, by decide⟩
theorem appD_w {s : Sg} {a b : Int} (ha : W32 a) (hb : W32 b) : W32 (appD s a b) := by
  have a1 := ha.l
  have a2 := ha.u
  have b1 := hb.l
  have b2 := hb.u
  cases s with
  | add => exact ⟨Int.emod_nonneg _ (by decide), Int.emod_lt_of_pos _ (by decide)⟩
  | sub => exact ⟨Int.emod_nonneg _ (by decide), Int.emod_lt_of_pos _ (by decide)⟩
  | mul => exact ⟨Int.emod_nonneg _ (by decide), Int.emod_lt_of_pos _ (by decide)⟩
  | shl => exact ⟨Int.emod_nonneg _ (by decide), Int.emod_lt_of_pos _ (by decide)⟩
  | band =>
    show W32 (Builtin.bitAnd a b)
    rw [bitAnd_pp a1 b1]
    have := Nat.and_lt_two_pow a.toNat (nat_lt hb)
    refine ⟨by omega, ?_⟩
    have h : (2 : Nat) ^ 32 = 4294967296 := by decide
    omega
  | bor =>
    show W32 (Builtin.bitOr a b)
    rw [Bits.bitOr_pp a1 b1]
    have := Nat.or_lt_two_pow (nat_lt ha) (nat_lt hb)
    refine ⟨by omega, ?_⟩
    have h : (2 : Nat) ^ 32 = 4294967296 := by decide
    omega
  | bxor =>
    show W32 (Builtin.bitXor a b)
    rw [Bits.bitXor_pp a1 b1]
    have := Nat.xor_lt_two_pow (nat_lt ha) (nat_lt hb)
    refine ⟨by omega, ?_⟩
    have h : (2 : Nat) ^ 32 = 4294967296 := by decide
    omega
  | shr =>
    obtain ⟨p1, p2⟩ := pow32 (b := b)
    show W32 (a / (1 * 2 ^ (b % 32).toNat))
    generalize 1 * (2 : Int) ^ (b % 32).toNat = S at p1 p2
    exact ⟨Int.ediv_nonneg a1 (by omega), Int.lt_of_le_of_lt (Int.ediv_le_self _ a1) a2⟩
  | eq => exact b01
  | lt => exact b01
  | le => exact b01
  | div =>
    show W32 (if b = 0 then 0 else a / b)
    split
    · exact ⟨by decide, by decide⟩
    · exact ⟨Int.ediv_nonneg a1 b1, Int.lt_of_le_of_lt (Int.ediv_le_self _ a1) a2⟩
  | mod =>
    show W32 (if b = 0 then a else a % b)
    split
    · exact ha
    · have h1 := Int.emod_nonneg a (b := b) (by omega)
      have h2 := Int.emod_lt_of_pos a (b := b) (by omega)
      exact ⟨h1, by omega⟩
inductive Row
  | const (d : Nat) (n : Int)
  | op (s : Sg) (d a b : Nat)
  | select (d c a b : Nat)
  | load (d a : Nat) (base mask : Int)
  | store (a : Nat) (base mask : Int) (b : Nat)
  | out (a : Nat)
  | jump (t : Nat)
  | branch (a t : Nat)
  | stop (a : Nat)
abbrev nI (n : Nat) : PyData := .int (n : Int)
def Row.d : Row → PyData
  | .const d n => .tuple [.str "const", nI d, .int n]
  | .op s d a b => .tuple [.str "op", .str s.s, nI d, nI a, nI b]
  | .select d c a b => .tuple [.str "select", nI d, nI c, nI a, nI b]
  | .load d a base mask => .tuple [.str "load", nI d, nI a, .int base, .int mask]
  | .store a base mask b => .tuple [.str "store", nI a, .int base, .int mask, nI b]
  | .out a => .tuple [.str "out", nI a]
  | .jump t => .tuple [.str "jump", nI t]
  | .branch a t => .tuple [.str "branch", nI a, nI t]
  | .stop a => .tuple [.str "stop", nI a]
/-- a row at place k among many rows -/
def RowOkD (many k : Nat) : Row → Prop
  | .const d n => d < 16 ∧ W32 n ∧ k + 1 < many
  | .op _ d a b => d < 16 ∧ a < 16 ∧ b < 16 ∧ k + 1 < many
  | .select d c a b => d < 16 ∧ c < 16 ∧ a < 16 ∧ b < 16 ∧ k + 1 < many
  | .load d a _ _ => d < 16 ∧ a < 16 ∧ k + 1 < many
  | .store a _ _ b => a < 16 ∧ b < 16 ∧ k + 1 < many
  | .out a => a < 16 ∧ k + 1 < many
  | .jump t => t < many
  | .branch a t => a < 16 ∧ t < many ∧ k + 1 < many
  | .stop a => a < 16
structure MS where
  rg : List Int
  wd : List (Key × V)
  ou : List Int
def rgV (ms : MS) (a : Nat) : Int := ms.rg.getD a 0
def wdV (wd : List (Key × V)) (a : Int) : Int := match valV wd (.inl a) with
  | some (.int x) => x
  | _ => 0
def put (ms : MS) (d : Nat) (x : Int) : MS := { ms with rg := ms.rg.set d x }
def doRow (ms : MS) : Row → MS
  | .const d n => put ms d n
  | .op s d a b => put ms d (appD s (rgV ms a) (rgV ms b))
  | .select d c a b => put ms d (if rgV ms c = 0 then rgV ms b else rgV ms a)
  | .load d a base mask => put ms d (wdV ms.wd (base + Builtin.bitAnd (rgV ms a) mask))
  | .store a base mask b => { ms with wd := putK ms.wd (.inl (base + Builtin.bitAnd (rgV ms a) mask)) (.int (rgV ms b)) }
  | .out a => { ms with ou := ms.ou ++ [rgV ms a] }
  | _ => ms
def nextAt (ms : MS) (at_ : Nat) : Row → Nat
  | .jump t => t
  | .branch a t => if rgV ms a = 0 then at_ + 1 else t
  | _ => at_ + 1
def runM (rows : List Row) : Nat → Nat → MS → Option Int × MS
  | 0, _, ms => (none, ms)
  | n + 1, at_, ms => match rows[at_]? with
    | some (.stop a) => (some (rgV ms a), ms)
    | some r => runM rows n (nextAt (doRow ms r) at_ r) (doRow ms r)
    | none => (none, ms)
/-- the state is in order; at most b words -/
structure MOk (b : Nat) (cov : Int → Prop) (ms : MS) : Prop where
  l : ms.rg.length = 16
  r : ∀ x ∈ ms.rg, W32 x
  w : ∀ k v, valV ms.wd k = some v → ∃ x, v = .int x ∧ W32 x
  o : ∀ x ∈ ms.ou, W32 x
  c : ∀ a, cov a → (valV ms.wd (.inl a)).isSome = true
  n : ms.wd.length ≤ b
  m : ms.ou.length ≤ b
section
variable {b : Nat} {cov : Int → Prop} {ms : MS} {a d : Nat} {x : Int}
theorem MOk.at_ (h : MOk b cov ms) (ha : a < 16) : ms.rg[a]? = some (rgV ms a) := by
  unfold rgV
  rw [List.getD_eq_getElem?_getD, List.getElem?_eq_getElem (by rw [h.l]; exact ha)]
  rfl
theorem MOk.reg (h : MOk b cov ms) (ha : a < 16) : W32 (rgV ms a) := h.r _ (List.mem_of_getElem? (h.at_ ha))
theorem MOk.wv (h : MOk b cov ms) (i : Int) : W32 (wdV ms.wd i) := by
  unfold wdV
  cases e : valV ms.wd (.inl i) with
  | none => exact ⟨by decide, by decide⟩
  | some v =>
    obtain ⟨x, rfl, hx⟩ := h.w _ _ e
    exact hx
theorem MOk.put (h : MOk b cov ms) (hx : W32 x) : MOk (b + 1) cov (put ms d x) where
  l := by
    show (ms.rg.set d x).length = 16
    rw [List.length_set]
    exact h.l
  r := fun y hy => by
    rcases List.mem_or_eq_of_mem_set hy with z | z
    · exact h.r y z
    · rw [z]; exact hx
  w := h.w
  o := h.o
  c := h.c
  n := Nat.le_succ_of_le h.n
  m := Nat.le_succ_of_le h.m
theorem putK_len {κ : Type} [DecidableEq κ] (c : List (κ × V)) (k : κ) (x : V) : (putK c k x).length ≤ c.length + 1 := by
  unfold putK
  split
  · rw [List.length_map]; omega
  · rw [List.length_append]; simp
theorem MOk.same (h : MOk b cov ms) : MOk (b + 1) cov ms := ⟨h.l, h.r, h.w, h.o, h.c, Nat.le_succ_of_le h.n, Nat.le_succ_of_le h.m⟩
theorem MOk.do_ {many k : Nat} {r : Row} (h : MOk b cov ms) (hr : RowOkD many k r) : MOk (b + 1) cov (doRow ms r) := by
  cases r with
  | const d n => exact h.put hr.2.1
  | op s d a b => exact h.put (appD_w (h.reg hr.2.1) (h.reg hr.2.2.1))
  | select d c a b =>
    refine h.put ?_
    split
    · exact h.reg hr.2.2.2.1
    · exact h.reg hr.2.2.1
  | load d a base mask => exact h.put (h.wv _)
  | store a base mask b =>
    refine ⟨h.l, h.r, fun k v e => ?_, h.o, fun a ha => ?_, Nat.le_trans (putK_len _ _ _) (Nat.succ_le_succ h.n), Nat.le_succ_of_le h.m⟩
    · have e : valV (putK ms.wd (.inl _) (.int (rgV ms b))) k = some v := e
      rw [valV_put] at e
      split at e
      · cases e
        exact ⟨_, rfl, h.reg hr.2.1⟩
      · exact h.w k v e
    · show (valV (putK ms.wd (.inl _) (.int (rgV ms b))) (.inl a)).isSome = true
      rw [valV_put]
      split
      · rfl
      · exact h.c a ha
  | out a =>
    refine ⟨h.l, h.r, h.w, fun x hx => ?_, h.c, Nat.le_succ_of_le h.n, ?_⟩
    · rcases List.mem_append.mp hx with z | z
      · exact h.o x z
      · rw [List.mem_singleton.mp z]
        exact h.reg hr.1
    · show (ms.ou ++ [_]).length ≤ b + 1
      rw [List.length_append]
      exact Nat.succ_le_succ h.m
  | jump t => exact h.same
  | branch a t => exact h.same
  | stop a => exact h.same
end
theorem next_lt {many k : Nat} {r : Row} {ms : MS} (hr : RowOkD many k r) (hs : ∀ a, r ≠ .stop a) : nextAt ms k r < many := by
  cases r with
  | const d n => exact hr.2.2
  | op s d a b => exact hr.2.2.2
  | select d c a b => exact hr.2.2.2.2
  | load d a base mask => exact hr.2.2
  | store a base mask b => exact hr.2.2
  | out a => exact hr.2
  | jump t => exact hr
  | branch a t =>
    show (if rgV ms a = 0 then k + 1 else t) < many
    split
    · exact hr.2.2
    · exact hr.2.1
  | stop a => exact absurd rfl (hs a)
/-! ### apply -/
def sp_shifted (K : PySem.W.Frag) : Sp := fun vs H Q _ => ∃ (s : Sg) (z : Str) (a b : Int), vs = [.str z, .int a, .int b] ∧ z = s.s ∧ (s = .shl ∨ s = .shr) ∧ W32 a ∧ W32 b ∧ Q (.int (appD s a b)) H
theorem sc_shifted : FnScope ["sign", "a", "b", "by"] ["sign", "a", "b"] (defScope (topS 3)) := ⟨rfl, rfl, rfl, by decide +kernel, rfl, by decide +kernel, by decide +kernel⟩
theorem ok_shifted (T : Txt fa fn K mg) : Dn P w K mg base CX0 1 "shifted" ["sign", "a", "b"] (sp_shifted K) := by
  refine mk_dn (d := dOf "shifted" 3) T 1 1 rfl rfl rfl rfl rfl sc_shifted (by walk_at "len") (fun _ _ _ _ _ _ us hl => match us, hl with | [_, _, _], _ => rfl) (fun cdv A outer s H vs Q E hr h => ⟨_, (pss_cons (ps_set (i := 3) sc_shifted.nd rfl (.inl rfl) (pe_op o_mod (pe_callTy c_int rfl (T.free 35 rfl) (by decide +kernel) (pa_cons (pv 2) pa_nil)) pe_int))
      (pss_cons (ps_if (pt_cmpR (op_eqU (K := K) rfl hr.units) (pv 0) pe_str (nomark _)) (pss_one (ps_ret (pe_op o_mod (pe_callTy c_int rfl (T.free 35 rfl) (by decide +kernel) (pa_cons (pe_op op_mulU (pv 1) (pe_op o_shl pe_int (pv 3))) pa_nil)) (pe_gint T rfl 42 rfl rfl)))) pss_nil)
      (pss_one (ps_ret (pe_op o_fdiv (pv 1) (pe_op o_shl pe_int (pv 3))))))), ?_⟩)
  obtain ⟨s, z, a, b, rfl, hz, hs, wa, wb, hQ⟩ := h
  have a1 := wa.l
  have a2 := wa.u
  obtain ⟨p1, p2⟩ := pow32 (b := b)
  rcases hs with rfl | rfl <;> (simp only [Sg.s] at hz; subst hz)
  · walk_at "go"
    exact hQ
  · walk_at "go"
    exact hQ
def sp_divided (K : PySem.W.Frag) : Sp := fun vs H Q _ => ∃ (s : Sg) (z : Str) (a b : Int), vs = [.str z, .int a, .int b] ∧ z = s.s ∧ (s = .div ∨ s = .mod) ∧ W32 a ∧ W32 b ∧ Q (.int (appD s a b)) H
theorem sc_divided : FnScope ["sign", "a", "b"] ["sign", "a", "b"] (defScope (topS 4)) := ⟨rfl, rfl, rfl, by decide +kernel, rfl, by decide +kernel, by decide +kernel⟩
theorem ok_divided (T : Txt fa fn K mg) : Dn P w K mg base CX0 1 "divided" ["sign", "a", "b"] (sp_divided K) := by
  refine mk_dn (d := dOf "divided" 4) T 2 2 rfl rfl rfl rfl rfl sc_divided (by walk_at "len") (fun _ _ _ _ _ _ us hl => match us, hl with | [_, _, _], _ => rfl) (fun cdv A outer s H vs Q E hr h => ⟨_, (pss_cons (ps_if (pt_cmpR (op_eqU (K := K) rfl hr.units) (pv 0) pe_str (nomark _)) (pss_one (ps_ret (pe_ifExp (pt_cmpR (op_neU (K := K) rfl hr.units) (pv 2) pe_int (nomark _)) (pe_op o_fdiv (pv 1) (pv 2)) pe_int))) pss_nil)
      (pss_one (ps_ret (pe_ifExp (pt_cmpR (op_neU (K := K) rfl hr.units) (pv 2) pe_int (nomark _)) (pe_op op_sub (pv 1) (pe_op op_mulU (pv 2) (pe_op o_fdiv (pv 1) (pv 2)))) (pv 1))))), ?_⟩)
  obtain ⟨s, z, a, b, rfl, hz, hs, wa, wb, hQ⟩ := h
  have a1 := wa.l
  have a2 := wa.u
  have b1 := wb.l
  have b2 := wb.u
  rcases hs with rfl | rfl <;> (simp only [Sg.s] at hz; subst hz)
  · walk_at "go"
    refine g_ifN (fun c => ?_) (fun c => ?_)
    · walk_at "go"
      refine q_int ?_ hQ
      show (if b = 0 then 0 else a / b) = _
      rw [if_neg c]
    · walk_at "go"
      refine q_int ?_ hQ
      show (if b = 0 then 0 else a / b) = _
      rw [if_pos c]
  · walk_at "go"
    refine g_ifN (fun c => ?_) (fun c => ?_)
    · walk_at "go"
      refine q_int ?_ hQ
      show (if b = 0 then a else a % b) = _
      rw [if_neg c, Int.emod_def]
    · walk_at "go"
      refine q_int ?_ hQ
      show (if b = 0 then a else a % b) = _
      rw [if_pos c]
def sp_apply (K : PySem.W.Frag) : Sp := fun vs H Q _ => ∃ (s : Sg) (z : Str) (a b : Int), vs = [.str z, .int a, .int b] ∧ z = s.s ∧ W32 a ∧ W32 b ∧ ∀ H', Same H H' → Q (.int (appD s a b)) H'
theorem g_is {α : Prop} {β : Prop} {b : Bool} (h : b = true) (q : α) : if b = true then α else β := by rw [if_pos h]; exact q
theorem g_isnt {α : Prop} {β : Prop} {b : Bool} (h : b = false) (q : β) : if b = true then α else β := by rw [if_neg (by rw [h]; exact Bool.false_ne_true)]; exact q
theorem sc_apply : FnScope ["sign", "a", "b"] ["sign", "a", "b"] (defScope (topS 5)) := ⟨rfl, rfl, rfl, by decide +kernel, rfl, by decide +kernel, by decide +kernel⟩
theorem ok_apply (T : Txt fa fn K mg) : Dn P w K mg base CX0 2 "apply" ["sign", "a", "b"] (sp_apply K) := by
  refine mk_dn (d := dOf "apply" 5) T 3 3 rfl rfl rfl rfl rfl sc_apply (by walk_at "len") (fun _ _ _ _ _ _ us hl => match us, hl with | [_, _, _], _ => rfl) (fun cdv A outer s H vs Q E hr h => ⟨_, (pss_cons (ps_if (pt_cmpR (op_inU (K := K) rfl (hu65 hr)) (pv 0) (pe_tup (pa_cons pe_str (pa_cons pe_str pa_nil))) (by rfl)) (pss_one (ps_ret (pe_callD (K := K) rfl (ok_shifted T) (hr.mono (by decide)) rfl pass0 (pa_cons (pv 0) (pa_cons (pv 1) (pa_cons (pv 2) pa_nil)))))) pss_nil)
      (pss_cons (ps_if (pt_cmpR (op_inU (K := K) rfl (hu65 hr)) (pv 0) (pe_tup (pa_cons pe_str (pa_cons pe_str pa_nil))) (by rfl)) (pss_one (ps_ret (pe_callD (K := K) rfl (ok_divided T) (hr.mono (by decide)) rfl pass0 (pa_cons (pv 0) (pa_cons (pv 1) (pa_cons (pv 2) pa_nil)))))) pss_nil)
      (pss_cons (ps_if (pt_cmpR (op_eqU (K := K) rfl hr.units) (pv 0) pe_str (nomark _)) (pss_one (ps_ret (pe_callTy c_int rfl (T.free 35 rfl) (by decide +kernel) (pa_cons (pe_cmpR (op_eqU (K := K) rfl hr.units) (pv 1) (pv 2) (nomark _)) pa_nil)))) pss_nil)
      (pss_cons (ps_if (pt_cmpR (op_eqU (K := K) rfl hr.units) (pv 0) pe_str (nomark _)) (pss_one (ps_ret (pe_callTy c_int rfl (T.free 35 rfl) (by decide +kernel) (pa_cons (pe_cmpR o_lt (pv 1) (pv 2) (nomark _)) pa_nil)))) pss_nil)
      (pss_cons (ps_if (pt_cmpR (op_eqU (K := K) rfl hr.units) (pv 0) pe_str (nomark _)) (pss_one (ps_ret (pe_callTy c_int rfl (T.free 35 rfl) (by decide +kernel) (pa_cons (pe_cmpR o_le (pv 1) (pv 2) (nomark _)) pa_nil)))) pss_nil)
      (pss_cons (ps_if (pt_cmpR (op_eqU (K := K) rfl hr.units) (pv 0) pe_str (nomark _)) (pss_one (ps_ret (pe_op op_and (pv 1) (pv 2)))) pss_nil)
      (pss_cons (ps_if (pt_cmpR (op_eqU (K := K) rfl hr.units) (pv 0) pe_str (nomark _)) (pss_one (ps_ret (pe_op op_or (pv 1) (pv 2)))) pss_nil)
      (pss_cons (ps_if (pt_cmpR (op_eqU (K := K) rfl hr.units) (pv 0) pe_str (nomark _)) (pss_one (ps_ret (pe_op op_xor (pv 1) (pv 2)))) pss_nil)
      (pss_cons (ps_if (pt_cmpR (op_eqU (K := K) rfl hr.units) (pv 0) pe_str (nomark _)) (pss_one (ps_ret (pe_op o_mod (pe_callTy c_int rfl (T.free 35 rfl) (by decide +kernel) (pa_cons (pe_op (op_addU (K := K) rfl) (pv 1) (pv 2)) pa_nil)) (pe_gint T rfl 42 rfl rfl)))) pss_nil)
      (pss_cons (ps_if (pt_cmpR (op_eqU (K := K) rfl hr.units) (pv 0) pe_str (nomark _)) (pss_one (ps_ret (pe_op o_mod (pe_callTy c_int rfl (T.free 35 rfl) (by decide +kernel) (pa_cons (pe_op op_sub (pv 1) (pv 2)) pa_nil)) (pe_gint T rfl 42 rfl rfl)))) pss_nil)
      (pss_one (ps_ret (pe_op o_mod (pe_callTy c_int rfl (T.free 35 rfl) (by decide +kernel) (pa_cons (pe_op op_mulU (pv 1) (pv 2)) pa_nil)) (pe_gint T rfl 42 rfl rfl)))))))))))))), ?_⟩)
  obtain ⟨s, z, a, b, rfl, hz, wa, wb, hQ⟩ := h
  have a1 := wa.l
  have a2 := wa.u
  have b1 := wb.l
  have b2 := wb.u
  walk_at "go"
  refine ⟨by decide, fun q hq => ?_⟩
  have s1 := Same.new (o := .tup [.str "<<", .str ">>"]) hq
  refine g_inTs (ks := ["<<", ">>"]) (.inl upd_same) ?_
  walk_at "go"
  cases s <;> (simp only [Sg.s] at hz; subst hz)
  case shl =>
    refine g_is (by decide +kernel) ?_
    walk_at "go"
    exact ⟨.shl, _, a, b, rfl, rfl, .inl rfl, wa, wb, hQ _ s1⟩
  case shr =>
    refine g_is (by decide +kernel) ?_
    walk_at "go"
    exact ⟨.shr, _, a, b, rfl, rfl, .inr rfl, wa, wb, hQ _ s1⟩
  all_goals
    refine g_isnt (by decide +kernel) ?_
    walk_at "go"
    refine ⟨by decide, fun q2 hq2 => ?_⟩
    have s2 := s1.trans (Same.new (o := .tup [.str "div", .str "mod"]) hq2)
    refine g_inTs (ks := ["div", "mod"]) (.inl upd_same) ?_
    walk_at "go"
  case div =>
    refine g_is (by decide +kernel) ?_
    walk_at "go"
    exact ⟨.div, _, a, b, rfl, rfl, .inl rfl, wa, wb, hQ _ s2⟩
  case mod =>
    refine g_is (by decide +kernel) ?_
    walk_at "go"
    exact ⟨.mod, _, a, b, rfl, rfl, .inr rfl, wa, wb, hQ _ s2⟩
  all_goals
    refine g_isnt (by decide +kernel) ?_
    walk_at "go"
    exact hQ _ s2
theorem mg3 {k1 k2 k3 k : Str} {v1 v2 v3 : V} : valV (mergeK [] [(.inr k1, v1), (.inr k2, v2), (.inr k3, v3)]) (.inr k : Key) = if k = k3 then some v3 else if k = k2 then some v2 else if k = k1 then some v1 else none := by
  unfold mergeK
  simp only [List.foldl_cons, List.foldl_nil]
  rw [valV_put, valV_put, valV_put, valV_nil]
  simp only [Sum.inr.injEq]
theorem mg2 {k1 k2 k : Str} {v1 v2 : V} : valV (mergeK [] [(.inr k1, v1), (.inr k2, v2)]) (.inr k : Key) = if k = k2 then some v2 else if k = k1 then some v1 else none := by
  unfold mergeK
  simp only [List.foldl_cons, List.foldl_nil]
  rw [valV_put, valV_put, valV_nil]
  simp only [Sum.inr.injEq]
theorem dg_of {H : Hp} {a : Addr} {kvs : List (Key × V)} {k : Str} {v : V} (h : H a = some (.dK kvs)) (e : valV kvs (.inr k) = some v) : DGet H a (.str k) (some v) := by
  rw [← e]
  exact DGet.k (k := .inr k) h
def sp_law_apply (K : PySem.W.Frag) : Sp := fun vs H Q _ => ∃ (s : Sg) (z : Str) (a b : Int), vs = [.str z, .int a, .int b] ∧ z = s.s ∧ W32 a ∧ W32 b ∧ ∀ H', Same H H' → Q (.int (appD s a b)) H'
/-- a written dict of three, of two -/
theorem g_d3 {A : Prop} {R : List (Key × V) → Prop} {k1 k2 k3 : Str} {v1 v2 v3 : V} (h : A) (q : R [(.inr k1, v1), (.inr k2, v2), (.inr k3, v3)]) :
    A ∧ ∃ kvs : List (Key × V), [(V.str k1, v1), (V.str k2, v2), (V.str k3, v3)] = kvs.map (fun kv => (kV kv.1, kv.2)) ∧ kvs.length ≤ 15 ∧ R kvs :=
  ⟨h, [(.inr k1, v1), (.inr k2, v2), (.inr k3, v3)], rfl, (by show 3 ≤ 15; decide), q⟩
theorem g_d2 {A : Prop} {R : List (Key × V) → Prop} {k1 k2 : Str} {v1 v2 : V} (h : A) (q : R [(.inr k1, v1), (.inr k2, v2)]) :
    A ∧ ∃ kvs : List (Key × V), [(V.str k1, v1), (V.str k2, v2)] = kvs.map (fun kv => (kV kv.1, kv.2)) ∧ kvs.length ≤ 15 ∧ R kvs :=
  ⟨h, [(.inr k1, v1), (.inr k2, v2)], rfl, (by show 2 ≤ 15; decide), q⟩
theorem ev3a {k1 k2 k3 : Str} {v1 v2 v3 : V} (h : ¬ k1 = k3) (h2 : ¬ k1 = k2) : (if k1 = k3 then some v3 else if k1 = k2 then some v2 else if k1 = k1 then some v1 else none) = some v1 := by rw [if_neg h, if_neg h2, if_pos rfl]
theorem ev3b {k1 k2 k3 : Str} {v1 v2 v3 : V} (h : ¬ k2 = k3) : (if k2 = k3 then some v3 else if k2 = k2 then some v2 else if k2 = k1 then some v1 else none) = some v2 := by rw [if_neg h, if_pos rfl]
theorem ev3c {k1 k2 k3 : Str} {v1 v2 v3 : V} : (if k3 = k3 then some v3 else if k3 = k2 then some v2 else if k3 = k1 then some v1 else none) = some v3 := by rw [if_pos rfl]
theorem ev2a {k1 k2 : Str} {v1 v2 : V} (h : ¬ k1 = k2) : (if k1 = k2 then some v2 else if k1 = k1 then some v1 else none) = some v1 := by rw [if_neg h, if_pos rfl]
theorem ev2b {k1 k2 : Str} {v1 v2 : V} : (if k2 = k2 then some v2 else if k2 = k1 then some v1 else none) = some v2 := by rw [if_pos rfl]
theorem sc_law_apply : FnScope ["sign", "a", "b"] ["sign", "a", "b"] (defScope (topS 24)) := ⟨rfl, rfl, rfl, by decide +kernel, rfl, by decide +kernel, by decide +kernel⟩
theorem ok_law_apply (T : Txt fa fn K mg) : Dn P w K mg base CX0 1 "_law_apply" ["sign", "a", "b"] (sp_law_apply K) := by
  refine mk_dn (d := dOf "_law_apply" 24) T 18 18 rfl rfl rfl rfl rfl sc_law_apply (by walk_at "len") (fun _ _ _ _ _ _ us hl => match us, hl with | [_, _, _], _ => rfl) (fun cdv A outer s H vs Q E hr h => ⟨_, (pss_cons (ps_if (pt_cmpR (op_inU (K := K) rfl (hu65 hr)) (pv 0) (pe_lst (pa_cons pe_str (pa_cons pe_str (pa_cons pe_str pa_nil)))) (by rfl)) (pss_one (ps_ret (pe_op o_mod (pe_callTy c_int rfl (T.free 35 rfl) (by decide +kernel) (pa_cons (pe_ixU (K := K) rfl (hu_of hr) (pe_disp (pps_cons pe_str (pe_op (op_addU (K := K) rfl) (pv 1) (pv 2)) (pps_cons pe_str (pe_op op_sub (pv 1) (pv 2)) (pps_cons pe_str (pe_op op_mulU (pv 1) (pv 2)) pps_nil))) (by rfl) (by rfl) (fun z => by cases z) (by decide)) (pv 0)) pa_nil)) pe_int))) pss_nil)
      (pss_cons (ps_if (pt_cmpR (op_inU (K := K) rfl (hu65 hr)) (pv 0) (pe_lst (pa_cons pe_str (pa_cons pe_str (pa_cons pe_str pa_nil)))) (by rfl)) (pss_one (ps_ret (pe_ixU (K := K) rfl (hu_of hr) (pe_disp (pps_cons pe_str (pe_op op_and (pv 1) (pv 2)) (pps_cons pe_str (pe_op op_or (pv 1) (pv 2)) (pps_cons pe_str (pe_op op_xor (pv 1) (pv 2)) pps_nil))) (by rfl) (by rfl) (fun z => by cases z) (by decide)) (pv 0)))) pss_nil)
      (pss_cons (ps_if (pt_cmpR (op_eqU (K := K) rfl hr.units) (pv 0) pe_str (nomark _)) (pss_one (ps_ret (pe_op o_mod (pe_callTy c_int rfl (T.free 35 rfl) (by decide +kernel) (pa_cons (pe_op op_mulU (pv 1) (pe_op o_shl pe_int (pe_op o_mod (pv 2) pe_int))) pa_nil)) pe_int))) pss_nil)
      (pss_cons (ps_if (pt_cmpR (op_eqU (K := K) rfl hr.units) (pv 0) pe_str (nomark _)) (pss_one (ps_ret (pe_op o_fdiv (pv 1) (pe_op o_shl pe_int (pe_op o_mod (pv 2) pe_int))))) pss_nil)
      (pss_cons (ps_if (pt_cmpR (op_inU (K := K) rfl (hu65 hr)) (pv 0) (pe_lst (pa_cons pe_str (pa_cons pe_str (pa_cons pe_str pa_nil)))) (by rfl)) (pss_one (ps_ret (pe_callTy c_int rfl (T.free 35 rfl) (by decide +kernel) (pa_cons (pe_ixU (K := K) rfl (hu_of hr) (pe_disp (pps_cons pe_str (pe_cmpR (op_eqU (K := K) rfl hr.units) (pv 1) (pv 2) (nomark _)) (pps_cons pe_str (pe_cmpR o_lt (pv 1) (pv 2) (nomark _)) (pps_cons pe_str (pe_cmpR o_le (pv 1) (pv 2) (nomark _)) pps_nil))) (by rfl) (by rfl) (fun z => by cases z) (by decide)) (pv 0)) pa_nil)))) pss_nil)
      (pss_cons (ps_if (pt_cmpR (op_eqU (K := K) rfl hr.units) (pv 2) pe_int (nomark _)) (pss_one (ps_ret (pe_ixU (K := K) rfl (hu_of hr) (pe_disp (pps_cons pe_str pe_int (pps_cons pe_str (pv 1) pps_nil)) (by rfl) (by rfl) (fun z => by cases z) (by decide)) (pv 0)))) pss_nil)
      (pss_one (ps_ret (pe_ixU (K := K) rfl (hu_of hr) (pe_disp (pps_cons pe_str (pe_op o_fdiv (pv 1) (pv 2)) (pps_cons pe_str (pe_op o_mod (pv 1) (pv 2)) pps_nil)) (by rfl) (by rfl) (fun z => by cases z) (by decide)) (pv 0)))))))))), ?_⟩)
  obtain ⟨s, z, a, b, rfl, hz, wa, wb, hQ⟩ := h
  have a1 := wa.l
  have a2 := wa.u
  have b1 := wb.l
  have b2 := wb.u
  obtain ⟨p1, p2⟩ := pow32 (b := b)
  walk_at "go"
  refine ⟨by decide, fun q hq => ?_⟩
  have s1 := Same.new (o := .lst [.str "+", .str "-", .str "*"]) hq
  refine g_inTs (ks := ["+", "-", "*"]) (.inr upd_same) ?_
  walk_at "go"
  cases s <;> (simp only [Sg.s] at hz; subst hz)
  case add | sub | mul =>
    refine g_is (by decide +kernel) ?_
    walk_at "go"
    intro m hm
    walk_at "go"
    refine g_d3 upd_same ?_
    rw [upd_upd]
    walk_at "go"
    first
    | (refine g_ixD (dg_of upd_same (mg3.trans (ev3a (by decide) (by decide)))) ?_
       walk_at "go"
       exact hQ _ (s1.trans (Same.new hm)))
    | (refine g_ixD (dg_of upd_same (mg3.trans (ev3b (by decide)))) ?_
       walk_at "go"
       exact hQ _ (s1.trans (Same.new hm)))
    | (refine g_ixD (dg_of upd_same (mg3.trans ev3c)) ?_
       walk_at "go"
       exact hQ _ (s1.trans (Same.new hm)))
  all_goals
    refine g_isnt (by decide +kernel) ?_
    walk_at "go"
    refine ⟨by decide, fun q2 hq2 => ?_⟩
    have s2 := s1.trans (Same.new (o := .lst [.str "&", .str "|", .str "^"]) hq2)
    refine g_inTs (ks := ["&", "|", "^"]) (.inr upd_same) ?_
    walk_at "go"
  case band | bor | bxor =>
    refine g_is (by decide +kernel) ?_
    walk_at "go"
    intro m hm
    walk_at "go"
    refine g_d3 upd_same ?_
    rw [upd_upd]
    walk_at "go"
    first
    | (refine g_ixD (dg_of upd_same (mg3.trans (ev3a (by decide) (by decide)))) ?_
       exact hQ _ (s2.trans (Same.new hm)))
    | (refine g_ixD (dg_of upd_same (mg3.trans (ev3b (by decide)))) ?_
       exact hQ _ (s2.trans (Same.new hm)))
    | (refine g_ixD (dg_of upd_same (mg3.trans ev3c)) ?_
       exact hQ _ (s2.trans (Same.new hm)))
  all_goals
    refine g_isnt (by decide +kernel) ?_
    walk_at "go"
  case shl => exact hQ _ s2
  case shr => exact hQ _ s2
  all_goals
    refine ⟨by decide, fun q3 hq3 => ?_⟩
    have s3 := s2.trans (Same.new (o := .lst [.str "==", .str "<", .str "<="]) hq3)
    refine g_inTs (ks := ["==", "<", "<="]) (.inr upd_same) ?_
    walk_at "go"
  case eq | lt | le =>
    refine g_is (by decide +kernel) ?_
    walk_at "go"
    intro m hm
    walk_at "go"
    refine g_d3 upd_same ?_
    rw [upd_upd]
    walk_at "go"
    first
    | (refine g_ixD (dg_of upd_same (mg3.trans (ev3a (by decide) (by decide)))) ?_
       walk_at "go"
       exact hQ _ (s3.trans (Same.new hm)))
    | (refine g_ixD (dg_of upd_same (mg3.trans (ev3b (by decide)))) ?_
       walk_at "go"
       exact hQ _ (s3.trans (Same.new hm)))
    | (refine g_ixD (dg_of upd_same (mg3.trans ev3c)) ?_
       walk_at "go"
       exact hQ _ (s3.trans (Same.new hm)))
  case div =>
    refine g_isnt (by decide +kernel) ?_
    walk_at "go"
    refine g_if (fun c => ?_) (fun c => ?_)
    · walk_at "go"
      intro m hm
      walk_at "go"
      refine g_d2 upd_same ?_
      rw [upd_upd]
      walk_at "go"
      refine g_ixD (dg_of upd_same (mg2.trans (ev2a (by decide)))) ?_
      refine q_int ?_ (hQ _ (s3.trans (Same.new hm)))
      show (if b = 0 then 0 else a / b) = _
      rw [if_pos c]
    · walk_at "go"
      intro m hm
      walk_at "go"
      refine g_d2 upd_same ?_
      rw [upd_upd]
      walk_at "go"
      refine g_ixD (dg_of upd_same (mg2.trans (ev2a (by decide)))) ?_
      refine q_int ?_ (hQ _ (s3.trans (Same.new hm)))
      show (if b = 0 then 0 else a / b) = _
      rw [if_neg c]
  case mod =>
    refine g_isnt (by decide +kernel) ?_
    walk_at "go"
    refine g_if (fun c => ?_) (fun c => ?_)
    · walk_at "go"
      intro m hm
      walk_at "go"
      refine g_d2 upd_same ?_
      rw [upd_upd]
      walk_at "go"
      refine g_ixD (dg_of upd_same (mg2.trans ev2b)) ?_
      refine q_int ?_ (hQ _ (s3.trans (Same.new hm)))
      show (if b = 0 then a else a % b) = _
      rw [if_pos c]
    · walk_at "go"
      intro m hm
      walk_at "go"
      refine g_d2 upd_same ?_
      rw [upd_upd]
      walk_at "go"
      refine g_ixD (dg_of upd_same (mg2.trans ev2b)) ?_
      refine q_int ?_ (hQ _ (s3.trans (Same.new hm)))
      show (if b = 0 then a else a % b) = _
      rw [if_neg c]


/-! ### rows on the heap -/
def toV : PyData → V
  | .int i => .int i
  | .str z => .str z
  | _ => .non
def Row.v : Row → List V
  | .const d n => [.str "const", .int d, .int n]
  | .op s d a b => [.str "op", .str s.s, .int d, .int a, .int b]
  | .select d c a b => [.str "select", .int d, .int c, .int a, .int b]
  | .load d a base mask => [.str "load", .int d, .int a, .int base, .int mask]
  | .store a base mask b => [.str "store", .int a, .int base, .int mask, .int b]
  | .out a => [.str "out", .int a]
  | .jump t => [.str "jump", .int t]
  | .branch a t => [.str "branch", .int a, .int t]
  | .stop a => [.str "stop", .int a]
theorem ims_flat {H : Hp} : ∀ {xs : List V} {ds : List PyData}, Ims H xs ds → (∀ d ∈ ds, isI d = true ∧ isB d = false ∨ isS d = true) → xs = ds.map toV
  | _, _, .nil, _ => rfl
  | _, _, .cons h t, f => by
    rw [List.map_cons, ims_flat t fun d hd => f d (List.mem_cons_of_mem _ hd)]
    congr 1
    have := f _ List.mem_cons_self
    cases h with
    | int i => rfl
    | str z => rfl
    | non => rcases this with ⟨h, _⟩ | h <;> cases h
    | bl b => rcases this with ⟨_, h⟩ | h <;> cases h
    | tup _ _ => rcases this with ⟨h, _⟩ | h <;> cases h
theorem row_tup {H : Hp} {x : V} {r : Row} (h : Im H x r.d) : ∃ a, x = .ref a ∧ H a = some (.tup r.v) := by
  cases r <;>
  · obtain ⟨a, xs, rfl, h1, h2⟩ := h.tup_inv
    have e := ims_flat h2 (by intro d hd; simp only [List.mem_cons, List.not_mem_nil, or_false] at hd; rcases hd with rfl | rfl | rfl | rfl | rfl <;> first | exact .inl ⟨rfl, rfl⟩ | exact .inr rfl)
    subst e
    exact ⟨a, rfl, h1⟩
abbrev ML (rg wd o : Addr) (ms : MS) : List (Addr × HO) := [(rg, .lst (ms.rg.map V.int)), (wd, .dK ms.wd), (o, .lst (ms.ou.map V.int))]
section
variable {K : PySem.W.Frag} {H H' : Hp} {Q : VK} {R : Hp → Prop} {p : Addr × HO} {rg wd o ra : Addr} {ms : MS} {b : Nat} {cov : Int → Prop} {a d : Nat} {i x : Int} {xs : List V}
theorem ml_reg (M : Has H (p :: ML rg wd o ms)) (h : MOk b cov ms) (ha : a < 16) (q : Q (.int (rgV ms a)) H) : rIxU K (.ref rg) (.int (a : Int)) H Q :=
  g_ixL (SqL.of (M.get 1 rfl)) (n := a) rfl (by rw [List.getElem?_map, h.at_ ha]; rfl) q
theorem ml_set (M : Has H (p :: ML rg wd o ms)) (h : MOk b cov ms) (hd : d < 16) (q : ∀ H', Keep [rg, wd, o] H H' → Has H' (p :: ML rg wd o (put ms d x)) → R H') : rSetU (.ref rg) (.int (d : Int)) (.int x) H R := by
  have e : (ms.rg.map V.int).set d (.int x) = (put ms d x).rg.map V.int := List.map_set.symm
  refine g_setU M 1 rfl rfl (by rw [List.length_map, h.l]; exact hd) ?_
  rw [e]
  intro M'
  exact q _ (Keep.set (by simp)) M'
theorem ml_get {A : Option V → Prop} (M : Has H (p :: ML rg wd o ms)) (h : MOk b cov ms) (q : ∀ ov : Option V, ov.getD (.int 0) = .int (wdV ms.wd i) → A ov) : ∃ ov, DGet H wd (.int i) ov ∧ A ov := by
  refine ⟨valV ms.wd (.inl i), DGet.k (k := .inl i) (M.get 2 rfl), q _ ?_⟩
  unfold wdV
  cases e : valV ms.wd (.inl i) with
  | none => rfl
  | some v =>
    obtain ⟨x, rfl, _⟩ := h.w _ _ e
    rfl
theorem ml_put (M : Has H (p :: ML rg wd o ms)) (h : MOk b cov ms) (hb : b ≤ 90000) (q : ∀ H', Keep [rg, wd, o] H H' → Has H' (p :: ML rg wd o { ms with wd := putK ms.wd (.inl i) (.int x) }) → R H') : rSetU (.ref wd) (.int i) (.int x) H R := by
  refine .inr ⟨wd, _, rfl, DPut.k (k := .inl i) (M.get 2 rfl) (szl (by have := h.n; omega)), ?_⟩
  exact q _ (Keep.set (by simp)) (M.set 2 rfl)
theorem ml_out (M : Has H (p :: ML rg wd o ms)) (h : MOk b cov ms) (hb : b ≤ 90000) (q : ∀ H', Keep [rg, wd, o] H H' → Has H' (p :: ML rg wd o { ms with ou := ms.ou ++ [x] }) → Q .non H') : rAppend (.ref o) [.int x] H Q := by
  refine g_append M 3 rfl (szl (by rw [List.length_map]; have := h.m; omega)) (fun M' => ?_)
  have e : ms.ou.map V.int ++ [V.int x] = (ms.ou ++ [x]).map V.int := by simp
  rw [e] at M' ⊢
  exact q _ (Keep.set (by simp)) M'
theorem ml_tup (M : Has H (p :: ML rg wd o ms)) (k : Keep [rg, wd, o] H H') (h : H ra = some (.tup xs)) : H' ra = some (.tup xs) := by
  refine k ra _ h fun z => ?_
  simp only [List.mem_cons, List.not_mem_nil, or_false] at z
  rcases z with rfl | rfl | rfl
  · have := M.get 1 rfl; rw [h] at this; cases this
  · have := M.get 2 rfl; rw [h] at this; cases this
  · have := M.get 3 rfl; rw [h] at this; cases this
theorem ml_noTup (M : Has H (p :: ML rg wd o ms)) : NoTup H [rg, wd, o] :=
  NoTup.cons (M.get 1 rfl) (fun _ e => nomatch e) (NoTup.cons (M.get 2 rfl) (fun _ e => nomatch e) (NoTup.one (M.get 3 rfl) (fun _ e => nomatch e)))
end
def Row.plain : Row → Bool
  | .jump _ => false
  | .branch _ _ => false
  | .stop _ => false
  | _ => true
abbrev stO (K : PySem.W.Frag) (dx rg rd wd : Addr) : HO := .ins (He.ga K "State") dx (fs_State (.ref rg) (.ref rd) (.ref wd))
def sp_State___init__ (K : PySem.W.Frag) : Sp := fun vs H Q _ => ∃ (s dx rg rd wd : Addr) (L : List (Addr × HO)), vs = [.ref s, .ref rg, .ref rd, .ref wd] ∧ Has H ((s, .ins (He.ga K "State") dx []) :: L) ∧ (Has (upd H s (stO K dx rg rd wd)) ((s, stO K dx rg rd wd) :: L) → Q .non (upd H s (stO K dx rg rd wd)))
theorem sc_State___init__ : FnScope ["self", "registers", "ready", "words"] ["self", "registers", "ready", "words"] (defScope (inClass (topS 8) 0)) := ⟨rfl, rfl, rfl, by decide +kernel, rfl, by decide +kernel, by decide +kernel⟩
theorem mt_State___init__ (T : Txt fa fn K mg) : Mt P w K mg base CX0 1 "State" "__init__" ["self", "registers", "ready", "words"] (sp_State___init__ K) := by
  refine mk_mt (d := mOf "State" "__init__" "State.__init__" (inClass (topS 8) 0)) T 25 rfl rfl rfl rfl sc_State___init__ (by walk_at "len") (fun _ _ _ _ _ _ us hl => match us, hl with | [_, _, _, _], _ => rfl) (fun cdv A outer s H vs Q E hr h => ⟨_, (pss_cons (ps_fldU (K := K) rfl (pv 0) (pv 1) rfl)
      (pss_cons (ps_fldU (K := K) rfl (pv 0) (pv 2) rfl)
      (pss_one (ps_fldU (K := K) rfl (pv 0) (pv 3) rfl)))), ?_⟩)
  obtain ⟨s, dx, rg, rd, wd, L, rfl, M, hQ⟩ := h
  walk_at "go"
  refine g_setF M 0 rfl (cl_State T) (na_State_registers T) (by show 0 < 1000; decide) (pt_new nf_State_registers) (fun M1 => ?_)
  walk_at "go"
  refine g_setF M1 0 rfl (cl_State T) (na_State_ready T) (by show 1 < 1000; decide) (pt_new nf_State_ready) (fun M2 => ?_)
  walk_at "go"
  refine g_setF M2 0 rfl (cl_State T) (na_State_words T) (by show 2 < 1000; decide) (pt_new nf_State_words) (fun M3 => ?_)
  rw [upd_upd, upd_upd] at M3 ⊢
  exact hQ M3
def sp_plain_row (K : PySem.W.Frag) : Sp := fun vs H Q _ => ∃ (ra s rg rd wd o dx : Addr) (r : Row) (many k b : Nat) (cov : Int → Prop) (ms : MS), vs = [.ref ra, .ref s, .ref o] ∧ H ra = some (.tup r.v) ∧ Has H ((s, stO K dx rg rd wd) :: ML rg wd o ms) ∧ MOk b cov ms ∧ RowOkD many k r ∧ b ≤ 90000 ∧ r.plain = true ∧
  ∀ H', Keep [rg, wd, o] H H' → Has H' ((s, stO K dx rg rd wd) :: ML rg wd o (doRow ms r)) → Q .non H'
theorem sc_plain_row : FnScope ["row", "state", "outs", "held"] ["row", "state", "outs"] (defScope (topS 10)) := ⟨rfl, rfl, rfl, by decide +kernel, rfl, by decide +kernel, by decide +kernel⟩
theorem ok_plain_row (T : Txt fa fn K mg) : Dn P w K mg base CX0 3 "plain_row" ["row", "state", "outs"] (sp_plain_row K) := by
  refine mk_dn (d := dOf "plain_row" 10) T 5 5 rfl rfl rfl rfl rfl sc_plain_row (by walk_at "len") (fun _ _ _ _ _ _ us hl => match us, hl with | [_, _, _], _ => rfl) (fun cdv A outer s H vs Q E hr h => ⟨_, (pss_cons (ps_set (i := 3) sc_plain_row.nd rfl (.inl rfl) (pe_fldU (K := K) rfl (pv 1) rfl))
      (pss_one (ps_if (pt_cmpR (op_eqU (K := K) rfl hr.units) (pe_ixU (K := K) rfl (hu_of hr) (pv 0) pe_int) pe_str (nomark _)) (pss_one (ps_asg (pe_ixU (K := K) rfl (hu_of hr) (pv 0) pe_int) (pg_sub (pv 3) (pe_ixU (K := K) rfl (hu_of hr) (pv 0) pe_int) (set_U (hu_of hr))))) (pss_one (ps_if (pt_cmpR (op_eqU (K := K) rfl hr.units) (pe_ixU (K := K) rfl (hu_of hr) (pv 0) pe_int) pe_str (nomark _)) (pss_one (ps_asg (pe_callD (K := K) rfl (ok_apply T) (hr.mono (by decide)) rfl pass0 (pa_cons (pe_ixU (K := K) rfl (hu_of hr) (pv 0) pe_int) (pa_cons (pe_ixU (K := K) rfl (hu_of hr) (pv 3) (pe_ixU (K := K) rfl (hu_of hr) (pv 0) pe_int)) (pa_cons (pe_ixU (K := K) rfl (hu_of hr) (pv 3) (pe_ixU (K := K) rfl (hu_of hr) (pv 0) pe_int)) pa_nil)))) (pg_sub (pv 3) (pe_ixU (K := K) rfl (hu_of hr) (pv 0) pe_int) (set_U (hu_of hr))))) (pss_one (ps_if (pt_cmpR (op_eqU (K := K) rfl hr.units) (pe_ixU (K := K) rfl (hu_of hr) (pv 0) pe_int) pe_str (nomark _)) (pss_one (ps_if (pt_cmpR (op_neU (K := K) rfl hr.units) (pe_ixU (K := K) rfl (hu_of hr) (pv 3) (pe_ixU (K := K) rfl (hu_of hr) (pv 0) pe_int)) pe_int (nomark _)) (pss_one (ps_asg (pe_ixU (K := K) rfl (hu_of hr) (pv 3) (pe_ixU (K := K) rfl (hu_of hr) (pv 0) pe_int)) (pg_sub (pv 3) (pe_ixU (K := K) rfl (hu_of hr) (pv 0) pe_int) (set_U (hu_of hr))))) (pss_one (ps_asg (pe_ixU (K := K) rfl (hu_of hr) (pv 3) (pe_ixU (K := K) rfl (hu_of hr) (pv 0) pe_int)) (pg_sub (pv 3) (pe_ixU (K := K) rfl (hu_of hr) (pv 0) pe_int) (set_U (hu_of hr))))))) (pss_one (ps_if (pt_cmpR (op_eqU (K := K) rfl hr.units) (pe_ixU (K := K) rfl (hu_of hr) (pv 0) pe_int) pe_str (nomark _)) (pss_one (ps_asg (pe_dget2 (hu_of hr) (pe_fldU (K := K) rfl (pv 1) rfl) (pe_op (op_addU (K := K) rfl) (pe_ixU (K := K) rfl (hu_of hr) (pv 0) pe_int) (pe_op op_and (pe_ixU (K := K) rfl (hu_of hr) (pv 3) (pe_ixU (K := K) rfl (hu_of hr) (pv 0) pe_int)) (pe_ixU (K := K) rfl (hu_of hr) (pv 0) pe_int))) pe_int ⟨by rfl, by rfl, by rfl, by rfl⟩) (pg_sub (pv 3) (pe_ixU (K := K) rfl (hu_of hr) (pv 0) pe_int) (set_U (hu_of hr))))) (pss_one (ps_if (pt_cmpR (op_eqU (K := K) rfl hr.units) (pe_ixU (K := K) rfl (hu_of hr) (pv 0) pe_int) pe_str (nomark _)) (pss_one (ps_asg (pe_ixU (K := K) rfl (hu_of hr) (pv 3) (pe_ixU (K := K) rfl (hu_of hr) (pv 0) pe_int)) (pg_sub (pe_fldU (K := K) rfl (pv 1) rfl) (pe_op (op_addU (K := K) rfl) (pe_ixU (K := K) rfl (hu_of hr) (pv 0) pe_int) (pe_op op_and (pe_ixU (K := K) rfl (hu_of hr) (pv 3) (pe_ixU (K := K) rfl (hu_of hr) (pv 0) pe_int)) (pe_ixU (K := K) rfl (hu_of hr) (pv 0) pe_int))) (set_U (hu_of hr))))) (pss_one (ps_expr (pe_bm PySem.F.plainAttrs_list PySem.F.slot_list_append PySem.F.type_list_append mt_append (pv 2) (pa_cons (pe_ixU (K := K) rfl (hu_of hr) (pv 3) (pe_ixU (K := K) rfl (hu_of hr) (pv 0) pe_int)) pa_nil))))))))))))))), ?_⟩)
  obtain ⟨ra, s, rg, rd, wd, o, dx, r, many, k, b, cov, ms, rfl, ht, M, hm, hr, hb, hp, hQ⟩ := h
  cases r with
  | jump t => cases hp
  | branch a t => cases hp
  | stop a => cases hp
  | const d n =>
    have ht : H ra = some (.tup [.str "const", .int d, .int n]) := ht
    walk_at "go"
    refine ml_set M hm hr.1 (fun H1 k1 M1 => ?_)
    walk_at "go"
    exact hQ _ k1 M1
  | op sg d a b' =>
    have ht : H ra = some (.tup [.str "op", .str sg.s, .int d, .int a, .int b']) := ht
    walk_at "go"
    refine ml_reg M hm hr.2.1 ?_
    walk_at "go"
    refine ml_reg M hm hr.2.2.1 ?_
    walk_at "go"
    refine ⟨sg, _, _, _, rfl, rfl, hm.reg hr.2.1, hm.reg hr.2.2.1, fun H1 s1 => ?_⟩
    have ht1 : H1 ra = some (.tup [.str "op", .str sg.s, .int d, .int a, .int b']) := s1 _ _ ht
    walk_at "go"
    refine ml_set (M.keep s1) hm hr.1 (fun H2 k2 M2 => ?_)
    walk_at "go"
    exact hQ _ ((Keep.of s1).trans k2) M2
  | select d c a b' =>
    have ht : H ra = some (.tup [.str "select", .int d, .int c, .int a, .int b']) := ht
    walk_at "go"
    refine ml_reg M hm hr.2.1 ?_
    walk_at "go"
    refine g_ifN (fun c0 => ?_) (fun c0 => ?_)
    · walk_at "go"
      refine ml_reg M hm hr.2.2.1 ?_
      walk_at "go"
      refine ml_set M hm hr.1 (fun H2 k2 M2 => ?_)
      walk_at "go"
      refine hQ _ k2 ?_
      show Has H2 (_ :: ML rg wd o (put ms d (if rgV ms c = 0 then rgV ms b' else rgV ms a)))
      rw [if_neg c0]
      exact M2
    · walk_at "go"
      refine ml_reg M hm hr.2.2.2.1 ?_
      walk_at "go"
      refine ml_set M hm hr.1 (fun H2 k2 M2 => ?_)
      walk_at "go"
      refine hQ _ k2 ?_
      show Has H2 (_ :: ML rg wd o (put ms d (if rgV ms c = 0 then rgV ms b' else rgV ms a)))
      rw [if_pos c0]
      exact M2
  | load d a base mask =>
    have ht : H ra = some (.tup [.str "load", .int d, .int a, .int base, .int mask]) := ht
    walk_at "go"
    refine ml_reg M hm hr.2.1 ?_
    walk_at "go"
    refine ml_get M hm (fun ov e => ?_)
    rw [e]
    walk_at "go"
    refine ml_set M hm hr.1 (fun H2 k2 M2 => ?_)
    walk_at "go"
    exact hQ _ k2 M2
  | store a base mask b' =>
    have ht : H ra = some (.tup [.str "store", .int a, .int base, .int mask, .int b']) := ht
    walk_at "go"
    refine ml_reg M hm hr.2.1 ?_
    walk_at "go"
    refine ml_reg M hm hr.1 ?_
    walk_at "go"
    refine ml_put M hm hb (fun H2 k2 M2 => ?_)
    walk_at "go"
    exact hQ _ k2 M2
  | out a =>
    have ht : H ra = some (.tup [.str "out", .int a]) := ht
    walk_at "go"
    refine ml_reg M hm hr.1 ?_
    walk_at "go"
    refine ml_out M hm hb (fun H2 k2 M2 => ?_)
    walk_at "go"
    exact hQ _ k2 M2
/-! ### the memory -/
structure Rg where
  b : Int
  n : Nat
  l : Str
def Rg.d (g : Rg) : PyData := .tuple [.int g.b, nI g.n, .str g.l]
def memK (base : Int) (row : List Int) (n : Nat) (kvs : List (Key × V)) : List (Key × V) := (List.range n).foldl (fun acc (k : Nat) => putK acc (.inl (base + (k : Int))) (.int (row.getD k 0))) kvs
def stepR (acc : List (Key × V)) (p : Rg × List Int) : List (Key × V) := memK p.1.b p.2 p.1.n acc
def mem (rgs : List Rg) (cs : List (List Int)) : List (Key × V) := (rgs.zip cs).foldl stepR []
theorem memK_succ {base : Int} {row : List Int} {n : Nat} {kvs : List (Key × V)} : memK base row (n + 1) kvs = putK (memK base row n kvs) (.inl (base + (n : Int))) (.int (row.getD n 0)) := by
  unfold memK
  rw [List.range_succ, List.foldl_append]
  rfl
theorem memK_len {base : Int} {row : List Int} {kvs : List (Key × V)} : ∀ n : Nat, (memK base row n kvs).length ≤ kvs.length + n
  | 0 => Nat.le_refl _
  | n + 1 => by
    rw [memK_succ]
    have h1 := memK_len (base := base) (row := row) (kvs := kvs) n
    have h2 := putK_len (memK base row n kvs) (.inl (base + n)) (.int (row.getD n 0))
    omega
theorem foldl_take_succ {α β : Type} {f : β → α → β} {ds : List α} {i : Nat} {e : α} {z : β} (h : ds[i]? = some e) : (ds.take (i + 1)).foldl f z = f ((ds.take i).foldl f z) e := by
  rw [List.take_add_one, h, List.foldl_append]
  rfl
/-- regions and contents in order -/
structure MemOk (rgs : List Rg) (cs : List (List Int)) : Prop where
  l : cs.length = rgs.length
  m : rgs.length ≤ 4
  n : ∀ (i : Nat) (g : Rg) (c : List Int), rgs[i]? = some g → cs[i]? = some c → c.length = g.n
  z : ∀ g ∈ rgs, g.n ≤ 30
  w : ∀ c ∈ cs, ∀ x ∈ c, W32 x
  s : ∀ g ∈ rgs, PyData.strOk g.l = true
theorem mem_len {rgs : List Rg} {cs : List (List Int)} (h : MemOk rgs cs) : ∀ i : Nat, (((rgs.zip cs).take i).foldl stepR []).length ≤ 30 * i
  | 0 => Nat.le_refl _
  | i + 1 => by
    have ih := mem_len h i
    cases e : (rgs.zip cs)[i]? with
    | none =>
      rw [List.take_add_one, e]
      simp only [Option.toList_none, List.append_nil]
      omega
    | some p =>
      rw [foldl_take_succ e]
      have h1 := memK_len (base := p.1.b) (row := p.2) (kvs := ((rgs.zip cs).take i).foldl stepR []) p.1.n
      have h2 := h.z p.1 (List.of_mem_zip (List.mem_of_getElem? e)).1
      show (memK _ _ _ _).length ≤ _
      omega
def cD (c : List Int) : PyData := .tuple (c.map .int)
abbrev codeD (rgs : List Rg) (rows : List Row) : PyData := .tuple [.tuple (rgs.map Rg.d), .tuple (rows.map Row.d)]
abbrev contD (cs : List (List Int)) : PyData := .tuple (cs.map cD)
def sp_words_of (K : PySem.W.Frag) : Sp := fun vs H Q _ => ∃ (code cont : V) (rgs : List Rg) (cs : List (List Int)) (rows : List Row), vs = [code, cont] ∧ Im H code (codeD rgs rows) ∧ Im H cont (contD cs) ∧ MemOk rgs cs ∧
  ∀ H' wd, Same H H' → H wd = none → H' wd = some (.dK (mem rgs cs)) → Q (.ref wd) H'
theorem im3v {H : Hp} {x : V} {g : Rg} (h : Im H x g.d) : ∃ a, x = .ref a ∧ H a = some (.tup [.int g.b, .int g.n, .str g.l]) := by
  obtain ⟨a, x1, x2, x3, rfl, h1, i1, i2, i3⟩ := im3 h
  obtain rfl := i1.int_inv
  obtain rfl := i2.int_inv
  obtain rfl := i3.str_inv
  exact ⟨a, rfl, h1⟩
theorem zip_at {α β : Type} {xs : List α} {ys : List β} {i : Nat} {x : α} {y : β} (hx : xs[i]? = some x) (hy : ys[i]? = some y) : (xs.zip ys)[i]? = some (x, y) := by
  rw [List.getElem?_zip_eq_some]
  exact ⟨hx, hy⟩
theorem sc_words_of : FnScope ["code", "contents", "words", "region", "row", "k"] ["code", "contents"] (defScope (topS 7)) := ⟨rfl, rfl, rfl, by decide +kernel, rfl, by decide +kernel, by decide +kernel⟩
theorem ok_words_of (T : Txt fa fn K mg) : Dn P w K mg base CX0 1 "words_of" ["code", "contents"] (sp_words_of K) := by
  refine mk_dn (d := dOf "words_of" 7) T 4 4 rfl rfl rfl rfl rfl sc_words_of (by walk_at "len") (fun _ _ _ _ _ _ us hl => match us, hl with | [_, _], _ => rfl) (fun cdv A outer s H vs Q E hr h => ⟨_, (pss_cons (ps_set (i := 2) sc_words_of.nd rfl (.inl rfl) pe_dnewK)
      (pss_cons (ps_for PassesOwn.never rfl (pi_zipU (K := K) rfl rfl (T.free 41 rfl) (pa_cons (pe_ixU (K := K) rfl (hu_of hr) (pv 0) pe_int) (pa_cons (pv 1) pa_nil))) (pg_tup rfl (pgs_cons (pg_name (i := 3) sc_words_of.nd rfl (.inl rfl)) (pgs_cons (pg_name (i := 4) sc_words_of.nd rfl (.inl rfl)) pgs_nil))) (pss_one (ps_for PassesOwn.never rfl (pi_r1 rfl (T.free 39 rfl) (pa_cons (pe_ixU (K := K) rfl (hu_of hr) (pv 3) pe_int) pa_nil)) (pg_name (i := 5) sc_words_of.nd rfl (.inl rfl)) (pss_one (ps_asg (pe_ixU (K := K) rfl (hu_of hr) (pv 4) (pv 5)) (pg_sub (pv 2) (pe_op (op_addU (K := K) rfl) (pe_ixU (K := K) rfl (hu_of hr) (pv 3) pe_int) (pv 5)) (set_U (hu_of hr))))))))
      (pss_one (ps_ret (pv 2))))), ?_⟩)
  obtain ⟨code, cont, rgs, cs, rows, rfl, ic, ik, ok, hQ⟩ := h
  walk_at "go"
  intro wd hwd
  walk_at "go"
  have s0 : Same H (upd H wd (.dK [])) := Same.new hwd
  refine m_ix (ic.same s0) (n := 0) rfl rfl (fun v hv => ?_)
  walk_at "go"
  obtain ⟨a1, xs1, rfl, h1, hs1⟩ := hv.tup_inv
  obtain ⟨a2, xs2, rfl, h2, hs2⟩ := (ik.same s0).tup_inv
  have l1 := hs1.length
  have l2 := hs2.length
  rw [List.length_map] at l1 l2
  have lk := ok.l
  refine g_zipT (SqT.of h1) (SqT.of h2) ?_
  refine f_zipT (xs := xs1) (ys := xs2) (by omega) (fun i σ H' => ∃ (r1 r2 k : Option V), σ = [some code, some (.ref a2), some (.ref wd), r1, r2, k] ∧ Keep [wd] (upd H wd (.dK [])) H' ∧ H' wd = some (.dK (((rgs.zip cs).take i).foldl stepR [])) ∧ i ≤ rgs.length) ⟨_, _, _, rfl, Keep.refl, upd_same, Nat.zero_le _⟩ ?_ ?_ ?_
  · rintro i σ H' ⟨r1, r2, k, rfl, kp, hw, _⟩
    have nt : NoTup (upd H wd (.dK [])) [wd] := NoTup.one upd_same (fun _ e => nomatch e)
    exact ⟨SqT.of (kp _ _ h1 (fun z => nt a1 z _ h1)), SqT.of (kp _ _ h2 (fun z => nt a2 z _ h2))⟩
  · rintro i x y Tp σ H' hx hy ⟨r1, r2, k, rfl, kp, hw, hil⟩ hT
    have nt : NoTup (upd H wd (.dK [])) [wd] := NoTup.one upd_same (fun _ e => nomatch e)
    obtain ⟨hlt, _⟩ := List.getElem?_eq_some_iff.mp hx
    have hg : rgs[i]? = some (rgs[i]'(by omega)) := List.getElem?_eq_getElem _
    generalize rgs[i]'(by omega) = rgn at hg
    have hc : cs[i]? = some (cs[i]'(by omega)) := List.getElem?_eq_getElem _
    generalize cs[i]'(by omega) = c at hc
    obtain ⟨x', hx', hix⟩ := hs1.get (n := i) (d := rgn.d) (by rw [List.getElem?_map, hg]; rfl)
    rw [hx] at hx'
    cases hx'
    obtain ⟨y', hy', hiy⟩ := hs2.get (n := i) (d := cD c) (by rw [List.getElem?_map, hc]; rfl)
    rw [hy] at hy'
    cases hy'
    have sT : Same H' (upd H' Tp (.tup [x, y])) := Same.new hT
    have hix := (hix.keep kp nt).same sT
    have hiy := (hiy.keep kp nt).same sT
    obtain ⟨ax, rfl, hax⟩ := im3v hix
    have hTT : upd H' Tp (.tup [.ref ax, y]) Tp = some (.tup [.ref ax, y]) := upd_same
    have hw1 := sT _ _ hw
    have cl := ok.n i rgn c hg hc
    have ml := mem_len ok i
    have zl := ok.z rgn (List.mem_of_getElem? hg)
    have m4 := ok.m
    walk_at "go"
    rw [Int.toNat_natCast]
    refine f_range (fun j σ H2 => ∃ (k : Option V), σ = [some code, some (.ref a2), some (.ref wd), some (.ref ax), some y, k] ∧ Keep [wd] (upd H' Tp (.tup [.ref ax, y])) H2 ∧ H2 wd = some (.dK (memK rgn.b c j (((rgs.zip cs).take i).foldl stepR [])))) ⟨_, rfl, Keep.refl, hw1⟩ ?_ ?_
    · rintro j σ H2 hj ⟨k, rfl, k2, hw2⟩
      have nt2 : NoTup (upd H' Tp (.tup [.ref ax, y])) [wd] := NoTup.one hw1 (fun _ e => nomatch e)
      have hax2 : H2 ax = some (.tup [.int rgn.b, .int rgn.n, .str rgn.l]) := k2 _ _ hax (fun z => nt2 ax z _ hax)
      have hiy2 := hiy.keep k2 nt2
      have hcj : c[j]? = some (c.getD j 0) := by rw [List.getD_eq_getElem?_getD, List.getElem?_eq_getElem (by omega)]; rfl
      walk_at "go"
      refine m_ix hiy2 (n := j) (by omega) (by rw [List.getElem?_map, hcj]; rfl) (fun v hv => ?_)
      obtain rfl := hv.int_inv
      walk_at "go"
      have e0 : (0 : Int) + (j : Int) = (j : Int) := by omega
      rw [e0]
      refine .inr ⟨wd, _, rfl, DPut.k (k := .inl (rgn.b + j)) hw2 (szl ?_), ?_⟩
      · have := memK_len (base := rgn.b) (row := c) (kvs := ((rgs.zip cs).take i).foldl stepR []) j
        omega
      · walk_at "go"
        refine ⟨_, rfl, k2.trans (Keep.set (by simp)), ?_⟩
        rw [memK_succ]
        exact upd_same
    · rintro σ H2 ⟨k, rfl, k2, hw2⟩
      walk_at "go"
      refine ⟨_, _, _, rfl, (kp.trans (Keep.of sT)).trans k2, ?_, by omega⟩
      rw [foldl_take_succ (zip_at hg hc)]
      exact hw2
  · rintro σ H' ⟨r1, r2, k, rfl, kp, hw, hil⟩
    walk_at "go"
    have e : ((rgs.zip cs).take xs1.length) = rgs.zip cs := List.take_of_length_le (by rw [List.length_zip]; omega)
    rw [e] at hw
    exact hQ H' wd (fun bb u hb => kp bb u (s0 bb u hb) (fun z => by
      rw [List.mem_singleton] at z
      subst z
      rw [hwd] at hb
      cases hb)) hwd hw
/-! ### the contents at the end -/
def heldD (rgs : List Rg) (ms : MS) : List PyData := rgs.map fun g => .tuple ((List.range g.n).map fun (j : Nat) => .int (wdV ms.wd (g.b + (j : Int))))
def covG (rgs : List Rg) (a : Int) : Prop := ∃ g ∈ rgs, ∃ j : Nat, j < g.n ∧ a = g.b + j
def sp_State_contents (K : PySem.W.Frag) : Sp := fun vs H Q _ => ∃ (s rg rd wd dx : Addr) (x : V) (rgs : List Rg) (ms : MS) (b : Nat), vs = [.ref s, x] ∧ H s = some (stO K dx rg rd wd) ∧ H wd = some (.dK ms.wd) ∧ Im H x (.tuple (rgs.map Rg.d)) ∧ MOk b (covG rgs) ms ∧ (∀ g ∈ rgs, g.n ≤ 30) ∧ rgs.length ≤ 4 ∧
  ∀ H' v, Same H H' → Im H' v (.tuple (heldD rgs ms)) → Q v H'
theorem ml_at {wd : Addr} {H : Hp} {ms : MS} {b : Nat} {cov : Int → Prop} {i : Int} (hw : H wd = some (.dK ms.wd)) (h : MOk b cov ms) (hc : cov i) : DGet H wd (.int i) (some (.int (wdV ms.wd i))) := by
  have e : valV ms.wd (.inl i) = some (.int (wdV ms.wd i)) := by
    unfold wdV
    cases e : valV ms.wd (.inl i) with
    | none =>
      have := h.c i hc
      rw [e] at this
      cases this
    | some v =>
      obtain ⟨x, rfl, _⟩ := h.w _ _ e
      rfl
  rw [← e]
  exact DGet.k (k := .inl i) hw
theorem sc_State_contents : FnScope ["self", "regions", "base", "label", "size", "k"] ["self", "regions"] (defScope (inClass (topS 8) 3)) := ⟨rfl, rfl, rfl, by decide +kernel, rfl, by decide +kernel, by decide +kernel⟩
theorem mt_State_contents (T : Txt fa fn K mg) : Mt P w K mg base CX0 1 "State" "contents" ["self", "regions"] (sp_State_contents K) := by
  refine mk_mt (d := mOf "State" "contents" "State.contents" (inClass (topS 8) 3)) T 28 rfl rfl rfl rfl sc_State_contents (by walk_at "len") (fun _ _ _ _ _ _ us hl => match us, hl with | [_, _], _ => rfl) (fun cdv A outer s H vs Q E hr h => ⟨_, (pss_one (ps_ret (pe_callTy (c_tuple (K := K) rfl) rfl (T.free 40 rfl) (by decide +kernel) (pa_cons (pe_lc rfl sc_State_contents.nd (pi_seq (K := K) rfl (pv 1)) (blkOk_by (own := [("base", 2), ("size", 4), ("label", 3)]) (N := ["self", "regions", "base", "label", "size", "k"]) (sc := defScope (inClass (topS 8) 3)) (by decide +kernel)) (fun _ _ _ _ _ => (pg_tupU (K := K) (n := 3) rfl rfl (pgs_cons (pg_name (i := 2) sc_State_contents.nd rfl (.inr rfl) (.inl rfl)) (pgs_cons (pg_name (i := 4) sc_State_contents.nd rfl (.inl rfl) (.inr rfl)) (pgs_cons (pg_name (i := 3) sc_State_contents.nd rfl (.inl rfl) (.inr rfl)) pgs_nil))))) (fun _ _ _ _ _ => pts_nil) (fun _ _ _ _ _ => (pe_callTy (c_tuple (K := K) rfl) rfl (T.free 40 rfl) (by decide +kernel) (pa_cons (pe_lc rfl sc_State_contents.nd (pi_r1 rfl (T.free 39 rfl) (pa_cons (pv 4) pa_nil)) (blkOk_by (own := [("k", 5)]) (by kernel_rfl)) (fun _ _ _ _ _ => (pg_name (i := 5) sc_State_contents.nd rfl (.inl rfl))) (fun _ _ _ _ _ => pts_nil) (fun _ _ _ _ _ => (pe_ixU (K := K) rfl (hu_of hr) (pe_fldU (K := K) rfl (pv 0) rfl) (pe_op (op_addU (K := K) rfl) (pv 2) (pv 5))))) pa_nil)))) pa_nil)))), ?_⟩)
  obtain ⟨s, rg, rd, wd, dx, x, rgs, ms, b, rfl, hs, hw, ix, hm, hz, hl, hQ⟩ := h
  walk_at "go"
  refine m_seq ix (fun a xs e ha his => ?_)
  subst e
  refine l_map (f := fun d => match d with | .tuple [.int b, .int n, _] => .tuple ((List.range n.toNat).map fun (j : Nat) => .int (wdV ms.wd (b + (j : Int)))) | _ => .none) ha his (by rw [List.length_map]; omega) (fun i e y H1 R hi s1 iy hR => ?_) ?_ (fun D H1 us s1 hD im => ?_)
  · rw [List.getElem?_map] at hi
    obtain ⟨g, hg, rfl⟩ := Option.map_eq_some_iff.mp hi
    have gm := List.mem_of_getElem? hg
    have zz := hz g gm
    obtain ⟨t, rfl, ht⟩ := im3v iy
    walk_at "go"
    rw [Int.toNat_natCast]
    have hs1 := s1 _ _ hs
    have hw1 := s1 _ _ hw
    refine l_mapR (f := fun (j : Nat) => .int (wdV ms.wd (g.b + (j : Int)))) (by omega) (fun _ => rfl) (fun j H2 R2 hj s2 hR2 => ?_) (fun D2 H2 us2 s2 hD2 im2 => ?_)
    · have hs2 := s2 _ _ hs1
      have hw2 := s2 _ _ hw1
      walk_at "go"
      have e0 : (0 : Int) + (j : Int) = (j : Int) := by omega
      rw [e0]
      refine g_ixD (ml_at hw2 hm ⟨g, gm, j, hj, rfl⟩) ?_
      exact hR2 _ _ (Same.refl H2) (.int _)
    · walk_at "go"
      refine m_tupleL (SqL.of hD2) im2 (fun q H3 s3 hq im3 => ?_)
      refine hR _ _ (s2.trans s3) ?_
      exact im3
  · intro y σ1 H1 R R' hh h
    obtain ⟨a, xs, e, h1, h2, h3⟩ := h
    refine ⟨a, xs, e, h1, h2, ?_⟩
    obtain ⟨v1, r1, e1, h3⟩ := h3
    refine ⟨v1, r1, e1, ?_⟩
    obtain ⟨v2, r2, e2, h3⟩ := h3
    refine ⟨v2, r2, e2, ?_⟩
    obtain ⟨v3, r3, e3, h3⟩ := h3
    refine ⟨v3, r3, e3, h3.1, hh _ _ h3.2⟩
  · walk_at "go"
    refine m_tupleL (SqL.of hD) im (fun q H2 s2 hq im2 => ?_)
    refine hQ _ _ (s1.trans s2) ?_
    rw [List.map_map] at im2
    exact im2


/-! ### the whole plain run -/
def ms0 (rgs : List Rg) (cs : List (List Int)) : MS := ⟨List.replicate 16 0, mem rgs cs, []⟩
def GoodK (kvs : List (Key × V)) : Prop := ∀ k v, valV kvs k = some v → ∃ x, v = .int x ∧ W32 x
theorem memK_good {base : Int} {row : List Int} {kvs : List (Key × V)} (h : GoodK kvs) (hr : ∀ x ∈ row, W32 x) : ∀ n : Nat, GoodK (memK base row n kvs)
  | 0 => h
  | n + 1 => by
    rw [memK_succ]
    intro k v e
    rw [valV_put] at e
    split at e
    · cases e
      refine ⟨_, rfl, ?_⟩
      rw [List.getD_eq_getElem?_getD]
      cases q : row[n]? with
      | none => exact ⟨by decide, by decide⟩
      | some x => exact hr x (List.mem_of_getElem? q)
    · exact memK_good h hr n k v e
theorem memK_mono {base a : Int} {row : List Int} {kvs : List (Key × V)} (h : (valV kvs (.inl a)).isSome = true) : ∀ n : Nat, (valV (memK base row n kvs) (.inl a)).isSome = true
  | 0 => h
  | n + 1 => by
    rw [memK_succ, valV_put]
    split
    · rfl
    · exact memK_mono h n
theorem memK_has {base : Int} {row : List Int} {kvs : List (Key × V)} {j : Nat} : ∀ n : Nat, j < n → (valV (memK base row n kvs) (.inl (base + (j : Int)))).isSome = true
  | 0, h => absurd h (by omega)
  | n + 1, h => by
    rw [memK_succ, valV_put]
    split
    · rfl
    · rename_i hne
      refine memK_has n ?_
      by_cases e : j = n
      · subst e
        exact absurd rfl hne
      · omega
theorem mem_good {rgs : List Rg} {cs : List (List Int)} (h : MemOk rgs cs) : ∀ i : Nat, GoodK (((rgs.zip cs).take i).foldl stepR [])
  | 0 => fun k v e => by cases e
  | i + 1 => by
    cases e : (rgs.zip cs)[i]? with
    | none =>
      rw [List.take_add_one, e]
      simp only [Option.toList_none, List.append_nil]
      exact mem_good h i
    | some p =>
      rw [foldl_take_succ e]
      exact memK_good (mem_good h i) (h.w p.2 (List.of_mem_zip (List.mem_of_getElem? e)).2) _
theorem mem_cov {rgs : List Rg} {cs : List (List Int)} : ∀ (i : Nat) (t : Nat) (g : Rg) (c : List Int) (j : Nat), t < i → (rgs.zip cs)[t]? = some (g, c) → j < g.n → (valV (((rgs.zip cs).take i).foldl stepR []) (.inl (g.b + (j : Int)))).isSome = true
  | 0, t, _, _, _, h, _, _ => absurd h (by omega)
  | i + 1, t, g, c, j, h, hg, hj => by
    cases e : (rgs.zip cs)[i]? with
    | none =>
      rw [List.take_add_one, e]
      simp only [Option.toList_none, List.append_nil]
      by_cases q : t = i
      · subst q
        rw [hg] at e
        cases e
      · exact mem_cov i t g c j (by omega) hg hj
    | some p =>
      rw [foldl_take_succ e]
      by_cases q : t = i
      · subst q
        rw [hg] at e
        cases e
        exact memK_has _ hj
      · exact memK_mono (mem_cov i t g c j (by omega) hg hj) _
theorem ms0_ok {rgs : List Rg} {cs : List (List Int)} (h : MemOk rgs cs) : MOk 200 (covG rgs) (ms0 rgs cs) where
  l := by
    show (List.replicate 16 (0 : Int)).length = 16
    rw [List.length_replicate]
  r := fun x hx => by
    rw [(List.mem_replicate.mp hx).2]
    exact ⟨by decide, by decide⟩
  w := by
    have z := mem_good h (rgs.zip cs).length
    rw [List.take_length] at z
    exact z
  o := fun x hx => by cases hx
  c := fun a ⟨g, hg, j, hj, e⟩ => by
    subst e
    obtain ⟨t, ht, eg⟩ := List.mem_iff_getElem.mp hg
    have l := h.l
    have z := mem_cov (rgs := rgs) (cs := cs) (rgs.zip cs).length t g (cs[t]'(by omega)) j (by rw [List.length_zip]; omega) (zip_at (by rw [List.getElem?_eq_getElem ht, eg]) (List.getElem?_eq_getElem _)) hj
    rw [List.take_length] at z
    exact z
  n := by
    have z := mem_len h (rgs.zip cs).length
    rw [List.take_length] at z
    have m := h.m
    have l := h.l
    rw [List.length_zip] at z
    show ((rgs.zip cs).foldl stepR []).length ≤ 200
    omega
  m := by
    show ([] : List Int).length ≤ 200
    decide
def rsD : Option Int → PyData
  | none => .none
  | some i => .int i
def rsV : Option Int → V
  | none => .non
  | some i => .int i
def resD (rgs : List Rg) (p : Option Int × MS) : List PyData := [.tuple (p.2.ou.map .int), rsD p.1, .tuple (heldD rgs p.2)]
theorem im_rs {H : Hp} (r : Option Int) : Im H (rsV r) (rsD r) := by
  cases r
  · exact .non
  · exact .int _
theorem ims_ints {H : Hp} : ∀ (ns : List Int), Ims H (ns.map V.int) (ns.map .int)
  | [] => .nil
  | n :: ns => .cons (.int n) (ims_ints ns)
theorem has_add {H H' : Hp} {L : List (Addr × HO)} {p : Addr} {o : HO} (M : Has H L) (sm : Same H H') (hn : H p = none) (hp : H' p = some o) : Has H' (L ++ [(p, o)]) where
  nd := by
    have z := (M.new (o := o) hn).nd
    exact z
  is_ := fun q hq => by
    rcases List.mem_append.mp hq with h | h
    · exact sm _ _ (M.is_ q h)
    · rw [List.mem_singleton.mp h]
      exact hp
theorem same_keep {H H1 H2 : Hp} {ms : List Addr} (s : Same H H1) (k : Keep ms H1 H2) (hn : ∀ m ∈ ms, H m = none) : Same H H2 := fun b u e => k b u (s b u e) fun z => by
  rw [hn b z] at e
  cases e
def Row.nm : Row → Str
  | .const _ _ => "const"
  | .op _ _ _ _ => "op"
  | .select _ _ _ _ => "select"
  | .load _ _ _ _ => "load"
  | .store _ _ _ _ => "store"
  | .out _ => "out"
  | .jump _ => "jump"
  | .branch _ _ => "branch"
  | .stop _ => "stop"
theorem row0 {r : Row} : r.v[0]? = some (.str r.nm) := by cases r <;> rfl
theorem pl_stop {r : Row} (h : r.plain = true) : ¬ r.nm = "stop" := by
  cases r <;> first | (cases h; done) | (simp only [Row.nm]; decide +kernel)
theorem pl_jump {r : Row} (h : r.plain = true) : ¬ r.nm = "jump" := by
  cases r <;> first | (cases h; done) | (simp only [Row.nm]; decide +kernel)
theorem pl_branch {r : Row} (h : r.plain = true) : ¬ r.nm = "branch" := by
  cases r <;> first | (cases h; done) | (simp only [Row.nm]; decide +kernel)
theorem pl_next {r : Row} {ms : MS} {a : Nat} (h : r.plain = true) : nextAt ms a r = a + 1 := by
  cases r <;> first | (cases h; done) | rfl
theorem pl_run {rows : List Row} {r : Row} {n a : Nat} {ms : MS} (h : r.plain = true) (hr : rows[a]? = some r) : runM rows (n + 1) a ms = runM rows n (a + 1) (doRow ms r) := by
  show (match rows[a]? with
    | some (.stop a) => (some (rgV ms a), ms)
    | some r => runM rows n (nextAt (doRow ms r) a r) (doRow ms r)
    | none => (none, ms)) = _
  rw [hr]
  cases r <;> first | (cases h; done) | rfl
structure CodeOk (rows : List Row) : Prop where
  l : 0 < rows.length
  u : rows.length ≤ 1000
  r : ∀ (k : Nat) (r : Row), rows[k]? = some r → RowOkD rows.length k r
def sp_plain_run (K : PySem.W.Frag) : Sp := fun vs H Q _ => ∃ (code cont : V) (n : Nat) (rgs : List Rg) (cs : List (List Int)) (rows : List Row), vs = [code, cont, .int (n : Int)] ∧ Im H code (codeD rgs rows) ∧ Im H cont (contD cs) ∧ MemOk rgs cs ∧ CodeOk rows ∧ n ≤ 2500 ∧
  ∀ H' v, Same H H' → Im H' v (.tuple (resD rgs (runM rows n 0 (ms0 rgs cs)))) → Q v H'
theorem sc_plain_run : FnScope ["code", "contents", "steps", "state", "outs", "result", "at", "step", "row"] ["code", "contents", "steps"] (defScope (topS 11)) := ⟨rfl, rfl, rfl, by decide +kernel, rfl, by decide +kernel, by decide +kernel⟩
theorem ok_plain_run (T : Txt fa fn K mg) : Dn P w K mg base CX0 4 "plain_run" ["code", "contents", "steps"] (sp_plain_run K) := by
  refine mk_dn (d := dOf "plain_run" 11) T 6 6 rfl rfl rfl rfl rfl sc_plain_run (by walk_at "len") (fun _ _ _ _ _ _ us hl => match us, hl with | [_, _, _], _ => rfl) (fun cdv A outer s H vs Q E hr h => ⟨_, (pss_cons (ps_set (i := 3) sc_plain_run.nd rfl (.inl rfl) (pe_makeD (K := K) rfl (mt_State___init__ T) (T.mkr 27 rfl) (hr.mono (by decide)) rfl (T.glo 25 rfl) pass0 (pa_cons (pe_op op_mulU (pe_lst (pa_cons pe_int pa_nil)) pe_int) (pa_cons (pe_op op_mulU (pe_lst (pa_cons pe_int pa_nil)) pe_int) (pa_cons (pe_callD (K := K) rfl (ok_words_of T) (hr.mono (by decide)) rfl pass0 (pa_cons (pv 0) (pa_cons (pv 1) pa_nil))) pa_nil)))))
      (pss_cons (ps_set (i := 4) sc_plain_run.nd rfl (.inl rfl) (pe_lst pa_nil))
      (pss_cons (ps_set (i := 5) sc_plain_run.nd rfl (.inl rfl) pe_non)
      (pss_cons (ps_set (i := 6) sc_plain_run.nd rfl (.inl rfl) pe_int)
      (pss_cons (ps_join (ps_for PassesOwn.never rfl (pi_r1 rfl (T.free 39 rfl) (pa_cons (pv 2) pa_nil)) (pg_name (i := 7) sc_plain_run.nd rfl (.inl rfl)) (pss_cons (ps_set (i := 8) sc_plain_run.nd rfl (.inl rfl) (pe_ixU (K := K) rfl (hu_of hr) (pe_ixU (K := K) rfl (hu_of hr) (pv 0) pe_int) (pv 6)))
      (pss_cons (ps_aug (i := 6) sc_plain_run.nd rfl (.inl rfl) pe_int ip_add)
      (pss_cons (ps_if (pt_cmpR (op_eqU (K := K) rfl hr.units) (pe_ixU (K := K) rfl (hu_of hr) (pv 8) pe_int) pe_str (nomark _)) (pss_cons (ps_set (i := 5) sc_plain_run.nd rfl (.inl rfl) (pe_ixU (K := K) rfl (hu_of hr) (pe_fldU (K := K) rfl (pv 3) rfl) (pe_ixU (K := K) rfl (hu_of hr) (pv 8) pe_int)))
      (pss_one ps_break)) pss_nil)
      (pss_one (ps_if (pt_cmpR (op_eqU (K := K) rfl hr.units) (pe_ixU (K := K) rfl (hu_of hr) (pv 8) pe_int) pe_str (nomark _)) (pss_one (ps_set (i := 6) sc_plain_run.nd rfl (.inl rfl) (pe_ixU (K := K) rfl (hu_of hr) (pv 8) pe_int))) (pss_one (ps_if (pt_cmpR (op_eqU (K := K) rfl hr.units) (pe_ixU (K := K) rfl (hu_of hr) (pv 8) pe_int) pe_str (nomark _)) (pss_one (ps_if (pt_cmpR (op_neU (K := K) rfl hr.units) (pe_ixU (K := K) rfl (hu_of hr) (pe_fldU (K := K) rfl (pv 3) rfl) (pe_ixU (K := K) rfl (hu_of hr) (pv 8) pe_int)) pe_int (nomark _)) (pss_one (ps_set (i := 6) sc_plain_run.nd rfl (.inl rfl) (pe_ixU (K := K) rfl (hu_of hr) (pv 8) pe_int))) pss_nil)) (pss_one (ps_expr (pe_callD (K := K) rfl (ok_plain_row T) (hr.mono (by decide)) rfl pass0 (pa_cons (pv 8) (pa_cons (pv 3) (pa_cons (pv 4) pa_nil)))))))))))))))
      (pss_one (ps_ret (pe_tup (pa_cons (pe_callTy (c_tuple (K := K) rfl) rfl (T.free 40 rfl) (by decide +kernel) (pa_cons (pv 4) pa_nil)) (pa_cons (pv 5) (pa_cons (pe_methD (K := K) rfl (mt_State_contents T) (cl_State T) (T.meth 30 rfl) (hr.mono (by decide)) pass0 (pv 3) (pa_cons (pe_ixU (K := K) rfl (hu_of hr) (pv 0) pe_int) pa_nil)) pa_nil))))))))))), ?_⟩)
  obtain ⟨code, cont, n, rgs, cs, rows, rfl, ic, ik, ok, co, hn, hQ⟩ := h
  have col := co.l
  walk_at "go"
  refine ⟨by decide, fun u1 hu1 => ?_⟩
  walk_at "go"
  have s1 := Same.new (o := .lst [.int 0]) hu1
  refine g_repI (x := 0) upd_same (by decide) (by decide) (fun rg hrg => ?_)
  have s2 := s1.trans (Same.new (o := .lst ((List.replicate (16 : Int).toNat 0).map V.int)) hrg)
  have M2 := Has.one (H := upd (upd H u1 (.lst [.int 0])) rg (.lst ((List.replicate (16 : Int).toNat 0).map V.int))) (a := rg) upd_same
  have f2 := Same.back s1 hrg
  walk_at "go"
  refine ⟨by decide, fun u3 hu3 => ?_⟩
  walk_at "go"
  have s3 := s2.trans (Same.new (o := .lst [.int 0]) hu3)
  have M3 := M2.keep (Same.new (o := .lst [.int 0]) hu3)
  refine g_repI (x := 0) upd_same (by decide) (by decide) (fun rd hrd => ?_)
  have s4 := s3.trans (Same.new (o := .lst ((List.replicate (16 : Int).toNat 0).map V.int)) hrd)
  have M4 := M3.new (o := .lst ((List.replicate (16 : Int).toNat 0).map V.int)) hrd
  walk_at "go"
  refine ⟨code, cont, rgs, cs, rows, rfl, ic.same s4, ik.same s4, ok, fun H5 wd s5 hwd5 hwd => ?_⟩
  have s5' := s4.trans s5
  have f5 := Same.back s4 hwd5
  have M5 := has_add M4 s5 hwd5 hwd
  walk_at "go"
  intro x dx hx hdx hne
  have hx' : upd H5 dx (.own x) x = none := by
    rw [upd_ne (Ne.symm hne)]
    exact hx
  have M6 : Has (made H5 x dx (He.ga K "State")) _ := ((M5.new (o := .own x) hdx).new (o := .ins (He.ga K "State") dx []) hx').perm (List.perm_append_comm (l₂ := [_]))
  have s6 : Same H (made H5 x dx (He.ga K "State")) := s5'.trans (made_same hx hdx)
  have f6 := Same.back s5' hx
  refine ⟨x, dx, rg, rd, wd, _, rfl, M6, fun M7 => ⟨rfl, ?_⟩⟩
  have s7 := Same.mut (o := stO K dx rg rd wd) s6 f6
  walk_at "go"
  refine ⟨by decide, fun o ho => ?_⟩
  have s8 := Same.new' (o := .lst []) s7 ho
  have fo := Same.back s7 ho
  have M8 := M7.new (o := .lst []) ho
  have M9 := M8.sub (L' := (x, stO K dx rg rd wd) :: ML rg wd o (ms0 rgs cs)) (by
    show List.Sublist [(x, stO K dx rg rd wd), (rg, HO.lst ((List.replicate (16 : Int).toNat 0).map V.int)), (wd, HO.dK (mem rgs cs)), (o, HO.lst [])]
      [(x, stO K dx rg rd wd), (rg, HO.lst ((List.replicate (16 : Int).toNat 0).map V.int)), (rd, HO.lst ((List.replicate (16 : Int).toNat 0).map V.int)), (wd, HO.dK (mem rgs cs)), (dx, .own x), (o, HO.lst [])]
    exact .cons₂ _ (.cons₂ _ (.cons _ (.cons₂ _ (.cons _ (.cons₂ _ .slnil))))))
  have fr : ∀ m ∈ [rg, wd, o], H m = none := fun m hm => by
    simp only [List.mem_cons, List.not_mem_nil, or_false] at hm
    rcases hm with rfl | rfl | rfl
    · exact f2
    · exact f5
    · exact fo
  walk_at "go"
  refine ⟨fun σ' H' => ∃ (at_ k rw_ : Option V) (p : Option Int × MS) (b : Nat), σ' = [some code, some cont, some (.int (n : Int)), some (.ref x), some (.ref o), some (rsV p.1), at_, k, rw_] ∧ Same H H' ∧ Has H' ((x, stO K dx rg rd wd) :: ML rg wd o p.2) ∧ MOk b (covG rgs) p.2 ∧ p = runM rows n 0 (ms0 rgs cs), ?_, ?_⟩
  · walk_at "go"
    rw [Int.toNat_natCast]
    refine f_range (fun i σ H' => ∃ (at_ : Nat) (k rw_ : Option V) (ms : MS), σ = [some code, some cont, some (.int (n : Int)), some (.ref x), some (.ref o), some .non, some (.int (at_ : Int)), k, rw_] ∧ Same H H' ∧ Has H' ((x, stO K dx rg rd wd) :: ML rg wd o ms) ∧ MOk (200 + i) (covG rgs) ms ∧ at_ < rows.length ∧ runM rows (n - i) at_ ms = runM rows n 0 (ms0 rgs cs) ∧ i ≤ n)
      ⟨0, _, _, _, rfl, s8, M9, ms0_ok ok, col, rfl, Nat.zero_le _⟩ ?_ ?_
    · rintro i σ H1 hi ⟨at_, k, rw_, ms, rfl, sm, M, hm, hat, hrun, _⟩
      obtain ⟨m, hm1⟩ : ∃ m, n - i = m + 1 := ⟨n - i - 1, by omega⟩
      have hm2 : n - (i + 1) = m := by omega
      rw [hm1] at hrun
      have hra : rows[at_]? = some rows[at_] := List.getElem?_eq_getElem hat
      generalize rows[at_] = r at hra
      have hr := co.r at_ r hra
      walk_at "go"
      refine m_ix (ic.same sm) (n := 1) rfl rfl (fun v hv => ?_)
      walk_at "go"
      refine m_ix hv (n := at_) rfl (by rw [List.getElem?_map, hra]; rfl) (fun y hy => ?_)
      obtain ⟨ra, rfl, ht⟩ := row_tup hy
      walk_at "go"
      by_cases hp : r.plain = true
      · refine g_ixT (SqT.of ht) (n := 0) rfl row0 ?_
        walk_at "go"
        refine g_isnt (decide_eq_false (pl_stop hp)) ?_
        walk_at "go"
        refine g_ixT (SqT.of ht) (n := 0) rfl row0 ?_
        walk_at "go"
        refine g_isnt (decide_eq_false (pl_jump hp)) ?_
        walk_at "go"
        refine g_ixT (SqT.of ht) (n := 0) rfl row0 ?_
        walk_at "go"
        refine g_isnt (decide_eq_false (pl_branch hp)) ?_
        walk_at "go"
        refine ⟨ra, x, rg, rd, wd, o, dx, r, rows.length, at_, 200 + i, covG rgs, ms, rfl, ht, M, hm, hr, by omega, hp, fun H2 k2 M2 => ?_⟩
        walk_at "go"
        have hnx := next_lt (ms := ms) hr (fun a e => by subst e; cases hp)
        rw [pl_next hp] at hnx
        rw [pl_run hp hra] at hrun
        exact ⟨at_ + 1, _, _, _, rfl, same_keep sm k2 fr, M2, hm.do_ hr, hnx, by rw [hm2]; exact hrun, by omega⟩
      · cases r <;> first | exact absurd rfl hp | skip
        · rename_i t
          have ht : H1 ra = some (.tup [.str "jump", .int t]) := ht
          walk_at "go"
          have e : runM rows (m + 1) at_ ms = runM rows m t ms := by
            show (match rows[at_]? with
              | some (.stop a) => (some (rgV ms a), ms)
              | some r => runM rows m (nextAt (doRow ms r) at_ r) (doRow ms r)
              | none => (none, ms)) = _
            rw [hra]
            rfl
          rw [e] at hrun
          exact ⟨t, _, _, ms, rfl, sm, M, hm.same, hr, by rw [hm2]; exact hrun, by omega⟩
        · rename_i a t
          have ht : H1 ra = some (.tup [.str "branch", .int a, .int t]) := ht
          have e : runM rows (m + 1) at_ ms = runM rows m (nextAt ms at_ (.branch a t)) ms := by
            show (match rows[at_]? with
              | some (.stop a) => (some (rgV ms a), ms)
              | some r => runM rows m (nextAt (doRow ms r) at_ r) (doRow ms r)
              | none => (none, ms)) = _
            rw [hra]
            rfl
          rw [e] at hrun
          have hnx := next_lt (ms := ms) hr (fun a e => by cases e)
          walk_at "go"
          refine ml_reg M hm hr.1 ?_
          walk_at "go"
          refine g_ifN (fun c0 => ?_) (fun c0 => ?_)
          · walk_at "go"
            have e2 : nextAt ms at_ (.branch a t) = t := by
              show (if rgV ms a = 0 then at_ + 1 else t) = _
              rw [if_neg c0]
            rw [e2] at hrun hnx
            exact ⟨t, _, _, ms, rfl, sm, M, hm.same, hnx, by rw [hm2]; exact hrun, by omega⟩
          · walk_at "go"
            have e2 : nextAt ms at_ (.branch a t) = at_ + 1 := by
              show (if rgV ms a = 0 then at_ + 1 else t) = _
              rw [if_pos c0]
            rw [e2] at hrun hnx
            exact ⟨at_ + 1, _, _, ms, rfl, sm, M, hm.same, hnx, by rw [hm2]; exact hrun, by omega⟩
        · rename_i a
          have ht : H1 ra = some (.tup [.str "stop", .int a]) := ht
          have e : runM rows (m + 1) at_ ms = (some (rgV ms a), ms) := by
            show (match rows[at_]? with
              | some (.stop a) => (some (rgV ms a), ms)
              | some r => runM rows m (nextAt (doRow ms r) at_ r) (doRow ms r)
              | none => (none, ms)) = _
            rw [hra]
          rw [e] at hrun
          walk_at "go"
          refine ml_reg M hm hr ?_
          walk_at "go"
          exact ⟨_, _, _, (some (rgV ms a), ms), _, rfl, sm, M, hm, hrun⟩
    · rintro σ H1 ⟨at_, k, rw_, ms, rfl, sm, M, hm, hat, hrun, _⟩
      rw [Nat.sub_self] at hrun
      exact ⟨_, _, _, (none, ms), _, rfl, sm, M, hm, hrun⟩
  · rintro σ H1 ⟨at_, k, rw_, p, b, rfl, sm, M, hm, hp⟩
    walk_at "go"
    refine m_tupleL (SqL.of (M.get 3 rfl)) (ims_ints p.2.ou) (fun q H2 s2 hq im2 => ?_)
    have M2 := M.keep s2
    walk_at "go"
    refine m_ix (ic.same (sm.trans s2)) (n := 0) rfl rfl (fun v hv => ?_)
    walk_at "go"
    refine ⟨x, rg, rd, wd, dx, v, rgs, p.2, b, rfl, M2.get 0 rfl, M2.get 2 rfl, hv, hm, ok.z, ok.m, fun H3 w3 s3 im3 => ?_⟩
    walk_at "go"
    refine m_new (.cons (im2.same s3) (.cons (im_rs p.1) (.cons im3 .nil))) (by simp) (fun t H4 s4 ht im4 => ?_)
    refine hQ _ _ (((sm.trans s2).trans s3).trans s4) ?_
    rw [← hp]
    exact im4


/-! ### the law's own run -/
def mK (rg wd o : Addr) (t : Int) : List (Key × V) := [(.inr "held", .ref rg), (.inr "words", .ref wd), (.inr "outs", .ref o), (.inr "at", .int t)]
theorem n_hw : ¬ (("held" : Str) = "words") := by decide +kernel
theorem n_ho : ¬ (("held" : Str) = "outs") := by decide +kernel
theorem n_ha : ¬ (("held" : Str) = "at") := by decide +kernel
theorem n_wo : ¬ (("words" : Str) = "outs") := by decide +kernel
theorem n_wa : ¬ (("words" : Str) = "at") := by decide +kernel
theorem n_oa : ¬ (("outs" : Str) = "at") := by decide +kernel
section
variable {rg wd o : Addr} {t t' : Int} {H : Hp} {m : Addr}
theorem mk_held : valV (mK rg wd o t) (.inr "held") = some (.ref rg) := by
  unfold mK
  exact valV_pos rfl
theorem mk_words : valV (mK rg wd o t) (.inr "words") = some (.ref wd) := by
  unfold mK
  rw [valV_neg (fun e => n_hw (Sum.inr.inj e))]
  exact valV_pos rfl
theorem mk_outs : valV (mK rg wd o t) (.inr "outs") = some (.ref o) := by
  unfold mK
  rw [valV_neg (fun e => n_ho (Sum.inr.inj e)), valV_neg (fun e => n_wo (Sum.inr.inj e))]
  exact valV_pos rfl
theorem mk_at : valV (mK rg wd o t) (.inr "at") = some (.int t) := by
  unfold mK
  rw [valV_neg (fun e => n_ha (Sum.inr.inj e)), valV_neg (fun e => n_wa (Sum.inr.inj e)), valV_neg (fun e => n_oa (Sum.inr.inj e))]
  exact valV_pos rfl
theorem mk_put : putK (mK rg wd o t) (.inr "at") (.int t') = mK rg wd o t' := by
  unfold putK
  rw [valV_any, mk_at]
  simp only [Option.isSome_some, if_true]
  unfold mK
  simp only [List.map_cons, List.map_nil]
  rw [if_neg (fun e => n_ha (Sum.inr.inj e)), if_neg (fun e => n_wa (Sum.inr.inj e)), if_neg (fun e => n_oa (Sum.inr.inj e)), if_pos trivial]
theorem mk_made : mergeK [] [(.inr "held", .ref rg), (.inr "words", .ref wd), (.inr "outs", .ref o), (.inr "at", .int t)] = mK rg wd o t := by
  unfold mergeK
  simp only [List.foldl_cons, List.foldl_nil]
  rw [putK_new (kvs := ([] : List (Key × V))) _ rfl]
  rw [putK_new (kvs := ([] : List (Key × V)) ++ [((.inr "held" : Key), V.ref rg)]) _ (by rw [List.nil_append, valV_neg (fun e => n_hw (Sum.inr.inj e))]; rfl)]
  rw [putK_new (kvs := ([] : List (Key × V)) ++ [((.inr "held" : Key), V.ref rg)] ++ [((.inr "words" : Key), V.ref wd)]) _ (by
    show valV [((.inr "held" : Key), V.ref rg), (.inr "words", V.ref wd)] _ = _
    rw [valV_neg (fun e => n_ho (Sum.inr.inj e)), valV_neg (fun e => n_wo (Sum.inr.inj e))]; rfl)]
  rw [putK_new (kvs := ([] : List (Key × V)) ++ [((.inr "held" : Key), V.ref rg)] ++ [((.inr "words" : Key), V.ref wd)] ++ [((.inr "outs" : Key), V.ref o)]) _ (by
    show valV [((.inr "held" : Key), V.ref rg), (.inr "words", V.ref wd), (.inr "outs", V.ref o)] _ = _
    rw [valV_neg (fun e => n_ha (Sum.inr.inj e)), valV_neg (fun e => n_wa (Sum.inr.inj e)), valV_neg (fun e => n_oa (Sum.inr.inj e))]; rfl)]
  rfl
theorem dp_m (h : H m = some (.dK (mK rg wd o t))) : DPut H m (.str "at") (.int t') (upd H m (.dK (mK rg wd o t'))) := by
  rw [← mk_put (t := t)]
  exact DPut.k (k := .inr "at") h (by show 4 < sizeLine; decide)
end
def sp_law_memory (K : PySem.W.Frag) : Sp := fun vs H Q _ => ∃ (code cont : V) (rgs : List Rg) (cs : List (List Int)) (rows : List Row), vs = [code, cont] ∧ Im H code (codeD rgs rows) ∧ Im H cont (contD cs) ∧ MemOk rgs cs ∧
  ∀ H' wd, Same H H' → H wd = none → H' wd = some (.dK (mem rgs cs)) → Q (.ref wd) H'
theorem sc_law_memory : FnScope ["code", "contents", "words", "k", "j"] ["code", "contents"] (defScope (topS 25)) := ⟨rfl, rfl, rfl, by decide +kernel, rfl, by decide +kernel, by decide +kernel⟩
theorem ok_law_memory (T : Txt fa fn K mg) : Dn P w K mg base CX0 1 "_law_memory" ["code", "contents"] (sp_law_memory K) := by
  refine mk_dn (d := dOf "_law_memory" 25) T 19 19 rfl rfl rfl rfl rfl sc_law_memory (by walk_at "len") (fun _ _ _ _ _ _ us hl => match us, hl with | [_, _], _ => rfl) (fun cdv A outer s H vs Q E hr h => ⟨_, (pss_cons (ps_set (i := 2) sc_law_memory.nd rfl (.inl rfl) pe_dnewK)
      (pss_cons (ps_for PassesOwn.never rfl (pi_r1 rfl (T.free 39 rfl) (pa_cons (pe_callB (c_len (K := K) rfl) rfl (T.free 37 rfl) (by decide +kernel) (pa_cons (pe_ixU (K := K) rfl (hu_of hr) (pv 0) pe_int) pa_nil)) pa_nil)) (pg_name (i := 3) sc_law_memory.nd rfl (.inl rfl)) (pss_one (ps_for PassesOwn.never rfl (pi_r1 rfl (T.free 39 rfl) (pa_cons (pe_ixU (K := K) rfl (hu_of hr) (pe_ixU (K := K) rfl (hu_of hr) (pe_ixU (K := K) rfl (hu_of hr) (pv 0) pe_int) (pv 3)) pe_int) pa_nil)) (pg_name (i := 4) sc_law_memory.nd rfl (.inl rfl)) (pss_one (ps_asg (pe_ixU (K := K) rfl (hu_of hr) (pe_ixU (K := K) rfl (hu_of hr) (pv 1) (pv 3)) (pv 4)) (pg_sub (pv 2) (pe_op (op_addU (K := K) rfl) (pe_ixU (K := K) rfl (hu_of hr) (pe_ixU (K := K) rfl (hu_of hr) (pe_ixU (K := K) rfl (hu_of hr) (pv 0) pe_int) (pv 3)) pe_int) (pv 4)) (set_U (hu_of hr))))))))
      (pss_one (ps_ret (pv 2))))), ?_⟩)
  obtain ⟨code, cont, rgs, cs, rows, rfl, ic, ik, ok, hQ⟩ := h
  walk_at "go"
  intro wd hwd
  walk_at "go"
  have s0 : Same H (upd H wd (.dK [])) := Same.new hwd
  have nt : NoTup (upd H wd (.dK [])) [wd] := NoTup.one upd_same (fun _ e => nomatch e)
  refine m_ix (ic.same s0) (n := 0) rfl rfl (fun v hv => ?_)
  walk_at "go"
  refine m_len hv ?_
  have lk := ok.l
  have m4 := ok.m
  rw [List.length_map]
  walk_at "go"
  rw [Int.toNat_natCast]
  refine f_range (fun i σ H' => ∃ (k j : Option V), σ = [some code, some cont, some (.ref wd), k, j] ∧ Keep [wd] (upd H wd (.dK [])) H' ∧ H' wd = some (.dK (((rgs.zip cs).take i).foldl stepR []))) ⟨_, _, rfl, Keep.refl, upd_same⟩ ?_ ?_
  · rintro i σ H' hi ⟨k, j, rfl, kp, hw⟩
    have hg : rgs[i]? = some (rgs[i]'(by omega)) := List.getElem?_eq_getElem _
    generalize rgs[i]'(by omega) = rgn at hg
    have hc : cs[i]? = some (cs[i]'(by omega)) := List.getElem?_eq_getElem _
    generalize cs[i]'(by omega) = c at hc
    have ic1 := (ic.same s0).keep kp nt
    have cl := ok.n i rgn c hg hc
    have ml := mem_len ok i
    have zl := ok.z rgn (List.mem_of_getElem? hg)
    walk_at "go"
    refine m_ix ic1 (n := 0) rfl rfl (fun v hv => ?_)
    walk_at "go"
    refine m_ix hv (n := i) (by omega) (by rw [List.getElem?_map, hg]; rfl) (fun y hy => ?_)
    walk_at "go"
    refine m_ix hy (n := 1) rfl rfl (fun v1 hv1 => ?_)
    obtain rfl := hv1.int_inv
    walk_at "go"
    rw [Int.toNat_natCast]
    refine f_range (fun j σ H2 => ∃ (jj : Option V), σ = [some code, some cont, some (.ref wd), some (.int (0 + i)), jj] ∧ Keep [wd] H' H2 ∧ H2 wd = some (.dK (memK rgn.b c j (((rgs.zip cs).take i).foldl stepR [])))) ⟨_, rfl, Keep.refl, hw⟩ ?_ ?_
    · rintro j σ H2 hj ⟨jj, rfl, k2, hw2⟩
      have nt1 : NoTup H' [wd] := NoTup.one hw (fun _ e => nomatch e)
      have ic2 := ic1.keep k2 nt1
      have ik2 := (((ik.same s0).keep kp nt)).keep k2 nt1
      have hcj : c[j]? = some (c.getD j 0) := by rw [List.getD_eq_getElem?_getD, List.getElem?_eq_getElem (by omega)]; rfl
      walk_at "go"
      refine m_ix ik2 (n := i) (by omega) (by rw [List.getElem?_map, hc]; rfl) (fun v hv => ?_)
      walk_at "go"
      refine m_ix hv (n := j) (by omega) (by rw [List.getElem?_map, hcj]; rfl) (fun v hv => ?_)
      obtain rfl := hv.int_inv
      walk_at "go"
      refine m_ix ic2 (n := 0) rfl rfl (fun v hv => ?_)
      walk_at "go"
      refine m_ix hv (n := i) (by omega) (by rw [List.getElem?_map, hg]; rfl) (fun y hy => ?_)
      walk_at "go"
      refine m_ix hy (n := 0) rfl rfl (fun v1 hv1 => ?_)
      obtain rfl := hv1.int_inv
      walk_at "go"
      have e0 : (0 : Int) + (j : Int) = (j : Int) := by omega
      rw [e0]
      refine .inr ⟨wd, _, rfl, DPut.k (k := .inl (rgn.b + j)) hw2 (szl ?_), ?_⟩
      · have := memK_len (base := rgn.b) (row := c) (kvs := ((rgs.zip cs).take i).foldl stepR []) j
        omega
      · walk_at "go"
        refine ⟨_, rfl, k2.trans (Keep.set (by simp)), ?_⟩
        rw [memK_succ]
        exact upd_same
    · rintro σ H2 ⟨jj, rfl, k2, hw2⟩
      walk_at "go"
      refine ⟨_, _, rfl, kp.trans k2, ?_⟩
      rw [foldl_take_succ (zip_at hg hc)]
      exact hw2
  · rintro σ H' ⟨k, j, rfl, kp, hw⟩
    walk_at "go"
    have e : ((rgs.zip cs).take rgs.length) = rgs.zip cs := List.take_of_length_le (by rw [List.length_zip]; omega)
    rw [e] at hw
    exact hQ H' wd (fun bb u hb => kp bb u (s0 bb u hb) (fun z => by
      rw [List.mem_singleton] at z
      subst z
      rw [hwd] at hb
      cases hb)) hwd hw
def sp_law_held (K : PySem.W.Frag) : Sp := fun vs H Q _ => ∃ (code : V) (wd : Addr) (rgs : List Rg) (rows : List Row) (ms : MS) (b : Nat), vs = [code, .ref wd] ∧ H wd = some (.dK ms.wd) ∧ Im H code (codeD rgs rows) ∧ MOk b (covG rgs) ms ∧ (∀ g ∈ rgs, g.n ≤ 30) ∧ rgs.length ≤ 4 ∧
  ∀ H' v, Same H H' → Im H' v (.tuple (heldD rgs ms)) → Q v H'
theorem sc_law_held : FnScope ["code", "words", "base", "label", "size", "j"] ["code", "words"] (defScope (topS 26)) := ⟨rfl, rfl, rfl, by decide +kernel, rfl, by decide +kernel, by decide +kernel⟩
theorem ok_law_held (T : Txt fa fn K mg) : Dn P w K mg base CX0 1 "_law_held" ["code", "words"] (sp_law_held K) := by
  refine mk_dn (d := dOf "_law_held" 26) T 20 20 rfl rfl rfl rfl rfl sc_law_held (by walk_at "len") (fun _ _ _ _ _ _ us hl => match us, hl with | [_, _], _ => rfl) (fun cdv A outer s H vs Q E hr h => ⟨_, (pss_one (ps_ret (pe_callTy (c_tuple (K := K) rfl) rfl (T.free 40 rfl) (by decide +kernel) (pa_cons (pe_lc rfl sc_law_held.nd (pi_seq (K := K) rfl (pe_ixU (K := K) rfl (hu_of hr) (pv 0) pe_int)) (blkOk_by (own := [("base", 2), ("size", 4), ("label", 3)]) (N := ["code", "words", "base", "label", "size", "j"]) (sc := defScope (topS 26)) (by decide +kernel)) (fun _ _ _ _ _ => (pg_tupU (K := K) (n := 3) rfl rfl (pgs_cons (pg_name (i := 2) sc_law_held.nd rfl (.inr rfl) (.inl rfl)) (pgs_cons (pg_name (i := 4) sc_law_held.nd rfl (.inl rfl) (.inr rfl)) (pgs_cons (pg_name (i := 3) sc_law_held.nd rfl (.inl rfl) (.inr rfl)) pgs_nil))))) (fun _ _ _ _ _ => pts_nil) (fun _ _ _ _ _ => (pe_callTy (c_tuple (K := K) rfl) rfl (T.free 40 rfl) (by decide +kernel) (pa_cons (pe_lc rfl sc_law_held.nd (pi_r1 rfl (T.free 39 rfl) (pa_cons (pv 4) pa_nil)) (blkOk_by (own := [("j", 5)]) (by kernel_rfl)) (fun _ _ _ _ _ => (pg_name (i := 5) sc_law_held.nd rfl (.inl rfl))) (fun _ _ _ _ _ => pts_nil) (fun _ _ _ _ _ => (pe_ixU (K := K) rfl (hu_of hr) (pv 1) (pe_op (op_addU (K := K) rfl) (pv 2) (pv 5))))) pa_nil)))) pa_nil)))), ?_⟩)
  obtain ⟨code, wd, rgs, rows, ms, b, rfl, hw, ic, hm, hz, hl, hQ⟩ := h
  walk_at "go"
  refine m_ix ic (n := 0) rfl rfl (fun x ix => ?_)
  walk_at "go"
  refine m_seq ix (fun a xs e ha his => ?_)
  subst e
  refine l_map (f := fun d => match d with | .tuple [.int b, .int n, _] => .tuple ((List.range n.toNat).map fun (j : Nat) => .int (wdV ms.wd (b + (j : Int)))) | _ => .none) ha his (by rw [List.length_map]; omega) (fun i e y H1 R hi s1 iy hR => ?_) ?_ (fun D H1 us s1 hD im => ?_)
  · rw [List.getElem?_map] at hi
    obtain ⟨g, hg, rfl⟩ := Option.map_eq_some_iff.mp hi
    have gm := List.mem_of_getElem? hg
    have zz := hz g gm
    obtain ⟨t, rfl, ht⟩ := im3v iy
    walk_at "go"
    rw [Int.toNat_natCast]
    have hw1 := s1 _ _ hw
    refine l_mapR (f := fun (j : Nat) => .int (wdV ms.wd (g.b + (j : Int)))) (by omega) (fun _ => rfl) (fun j H2 R2 hj s2 hR2 => ?_) (fun D2 H2 us2 s2 hD2 im2 => ?_)
    · have hw2 := s2 _ _ hw1
      walk_at "go"
      have e0 : (0 : Int) + (j : Int) = (j : Int) := by omega
      rw [e0]
      refine g_ixD (ml_at hw2 hm ⟨g, gm, j, hj, rfl⟩) ?_
      exact hR2 _ _ (Same.refl H2) (.int _)
    · walk_at "go"
      refine m_tupleL (SqL.of hD2) im2 (fun q H3 s3 hq im3 => ?_)
      refine hR _ _ (s2.trans s3) ?_
      exact im3
  · intro y σ1 H1 R R' hh h
    obtain ⟨a, xs, e, h1, h2, h3⟩ := h
    refine ⟨a, xs, e, h1, h2, ?_⟩
    obtain ⟨v1, r1, e1, h3⟩ := h3
    refine ⟨v1, r1, e1, ?_⟩
    obtain ⟨v2, r2, e2, h3⟩ := h3
    refine ⟨v2, r2, e2, ?_⟩
    obtain ⟨v3, r3, e3, h3⟩ := h3
    refine ⟨v3, r3, e3, h3.1, hh _ _ h3.2⟩
  · walk_at "go"
    refine m_tupleL (SqL.of hD) im (fun q H2 s2 hq im2 => ?_)
    refine hQ _ _ (s1.trans s2) ?_
    rw [List.map_map] at im2
    exact im2
def sp_law_do (K : PySem.W.Frag) : Sp := fun vs H Q _ => ∃ (ra m rg wd o : Addr) (t : Int) (r : Row) (many k b : Nat) (cov : Int → Prop) (ms : MS), vs = [.ref m, .ref ra] ∧ H ra = some (.tup r.v) ∧ Has H ((m, .dK (mK rg wd o t)) :: ML rg wd o ms) ∧ MOk b cov ms ∧ RowOkD many k r ∧ b ≤ 90000 ∧ (∀ a, r ≠ .stop a) ∧
  ∀ H', Keep [rg, wd, o] H H' → Has H' ((m, .dK (mK rg wd o t)) :: ML rg wd o (doRow ms r)) → Q .non H'
theorem int_if0 : (if decide ((0 : Int) = 0) = true then (1 : Int) else 0) = 1 := rfl
theorem sc_law_do : FnScope ["m", "row", "held"] ["m", "row"] (defScope (topS 27)) := ⟨rfl, rfl, rfl, by decide +kernel, rfl, by decide +kernel, by decide +kernel⟩
theorem ok_law_do (T : Txt fa fn K mg) : Dn P w K mg base CX0 2 "_law_do" ["m", "row"] (sp_law_do K) := by
  refine mk_dn (d := dOf "_law_do" 27) T 21 21 rfl rfl rfl rfl rfl sc_law_do (by walk_at "len") (fun _ _ _ _ _ _ us hl => match us, hl with | [_, _], _ => rfl) (fun cdv A outer s H vs Q E hr h => ⟨_, (pss_cons (ps_set (i := 2) sc_law_do.nd rfl (.inl rfl) (pe_ixU (K := K) rfl (hu_of hr) (pv 0) pe_str))
      (pss_cons (ps_if (pt_cmpR (op_eqU (K := K) rfl hr.units) (pe_ixU (K := K) rfl (hu_of hr) (pv 1) pe_int) pe_str (nomark _)) (pss_one (ps_asg (pe_ixU (K := K) rfl (hu_of hr) (pv 1) pe_int) (pg_sub (pv 2) (pe_ixU (K := K) rfl (hu_of hr) (pv 1) pe_int) (set_U (hu_of hr))))) pss_nil)
      (pss_cons (ps_if (pt_cmpR (op_eqU (K := K) rfl hr.units) (pe_ixU (K := K) rfl (hu_of hr) (pv 1) pe_int) pe_str (nomark _)) (pss_one (ps_asg (pe_callD (K := K) rfl (ok_law_apply T) (hr.mono (by decide)) rfl pass0 (pa_cons (pe_ixU (K := K) rfl (hu_of hr) (pv 1) pe_int) (pa_cons (pe_ixU (K := K) rfl (hu_of hr) (pv 2) (pe_ixU (K := K) rfl (hu_of hr) (pv 1) pe_int)) (pa_cons (pe_ixU (K := K) rfl (hu_of hr) (pv 2) (pe_ixU (K := K) rfl (hu_of hr) (pv 1) pe_int)) pa_nil)))) (pg_sub (pv 2) (pe_ixU (K := K) rfl (hu_of hr) (pv 1) pe_int) (set_U (hu_of hr))))) pss_nil)
      (pss_cons (ps_if (pt_cmpR (op_eqU (K := K) rfl hr.units) (pe_ixU (K := K) rfl (hu_of hr) (pv 1) pe_int) pe_str (nomark _)) (pss_one (ps_asg (pe_ixU (K := K) rfl (hu_of hr) (pv 2) (pe_ixU (K := K) rfl (hu_of hr) (pv 1) (pe_op (op_addU (K := K) rfl) pe_int (pe_callTy c_int rfl (T.free 35 rfl) (by decide +kernel) (pa_cons (pe_cmpR (op_eqU (K := K) rfl hr.units) (pe_ixU (K := K) rfl (hu_of hr) (pv 2) (pe_ixU (K := K) rfl (hu_of hr) (pv 1) pe_int)) pe_int (nomark _)) pa_nil))))) (pg_sub (pv 2) (pe_ixU (K := K) rfl (hu_of hr) (pv 1) pe_int) (set_U (hu_of hr))))) pss_nil)
      (pss_cons (ps_if (pt_cmpR (op_eqU (K := K) rfl hr.units) (pe_ixU (K := K) rfl (hu_of hr) (pv 1) pe_int) pe_str (nomark _)) (pss_one (ps_asg (pe_dget2 (hu_of hr) (pe_ixU (K := K) rfl (hu_of hr) (pv 0) pe_str) (pe_op (op_addU (K := K) rfl) (pe_ixU (K := K) rfl (hu_of hr) (pv 1) pe_int) (pe_op op_and (pe_ixU (K := K) rfl (hu_of hr) (pv 2) (pe_ixU (K := K) rfl (hu_of hr) (pv 1) pe_int)) (pe_ixU (K := K) rfl (hu_of hr) (pv 1) pe_int))) pe_int ⟨by rfl, by rfl, by rfl, by rfl⟩) (pg_sub (pv 2) (pe_ixU (K := K) rfl (hu_of hr) (pv 1) pe_int) (set_U (hu_of hr))))) pss_nil)
      (pss_cons (ps_if (pt_cmpR (op_eqU (K := K) rfl hr.units) (pe_ixU (K := K) rfl (hu_of hr) (pv 1) pe_int) pe_str (nomark _)) (pss_one (ps_asg (pe_ixU (K := K) rfl (hu_of hr) (pv 2) (pe_ixU (K := K) rfl (hu_of hr) (pv 1) pe_int)) (pg_sub (pe_ixU (K := K) rfl (hu_of hr) (pv 0) pe_str) (pe_op (op_addU (K := K) rfl) (pe_ixU (K := K) rfl (hu_of hr) (pv 1) pe_int) (pe_op op_and (pe_ixU (K := K) rfl (hu_of hr) (pv 2) (pe_ixU (K := K) rfl (hu_of hr) (pv 1) pe_int)) (pe_ixU (K := K) rfl (hu_of hr) (pv 1) pe_int))) (set_U (hu_of hr))))) pss_nil)
      (pss_one (ps_if (pt_cmpR (op_eqU (K := K) rfl hr.units) (pe_ixU (K := K) rfl (hu_of hr) (pv 1) pe_int) pe_str (nomark _)) (pss_one (ps_expr (pe_bm PySem.F.plainAttrs_list PySem.F.slot_list_append PySem.F.type_list_append mt_append (pe_ixU (K := K) rfl (hu_of hr) (pv 0) pe_str) (pa_cons (pe_ixU (K := K) rfl (hu_of hr) (pv 2) (pe_ixU (K := K) rfl (hu_of hr) (pv 1) pe_int)) pa_nil)))) pss_nil)))))))), ?_⟩)
  obtain ⟨ra, m, rg, wd, o, t, r, many, k, b, cov, ms, rfl, ht, M, hm, hr, hb, hs, hQ⟩ := h
  walk_at "go"
  refine g_ixD (dg_of (M.get 0 rfl) mk_held) ?_
  walk_at "go"
  cases r with
  | stop a => exact absurd rfl (hs a)
  | jump t' =>
    have ht : H ra = some (.tup [.str "jump", .int t']) := ht
    walk_at "go"
    exact hQ _ Keep.refl M
  | branch a t' =>
    have ht : H ra = some (.tup [.str "branch", .int a, .int t']) := ht
    walk_at "go"
    exact hQ _ Keep.refl M
  | const d n =>
    have ht : H ra = some (.tup [.str "const", .int d, .int n]) := ht
    walk_at "go"
    refine ml_set M hm hr.1 (fun H1 k1 M1 => ?_)
    have ht1 := ml_tup M k1 ht
    walk_at "go"
    exact hQ _ k1 M1
  | op sg d a b' =>
    have ht : H ra = some (.tup [.str "op", .str sg.s, .int d, .int a, .int b']) := ht
    walk_at "go"
    refine ml_reg M hm hr.2.1 ?_
    walk_at "go"
    refine ml_reg M hm hr.2.2.1 ?_
    walk_at "go"
    refine ⟨sg, _, _, _, rfl, rfl, hm.reg hr.2.1, hm.reg hr.2.2.1, fun H1 s1 => ?_⟩
    have ht1 : H1 ra = some (.tup [.str "op", .str sg.s, .int d, .int a, .int b']) := s1 _ _ ht
    walk_at "go"
    refine ml_set (M.keep s1) hm hr.1 (fun H2 k2 M2 => ?_)
    have ht2 := ml_tup (M.keep s1) k2 ht1
    walk_at "go"
    exact hQ _ ((Keep.of s1).trans k2) M2
  | select d c a b' =>
    have ht : H ra = some (.tup [.str "select", .int d, .int c, .int a, .int b']) := ht
    walk_at "go"
    refine ml_reg M hm hr.2.1 ?_
    walk_at "go"
    by_cases c0 : rgV ms c = 0
    · rw [decide_eq_true c0]
      refine g_ixT (SqT.of ht) (n := 4) rfl rfl ?_
      walk_at "go"
      refine ml_reg M hm hr.2.2.2.1 ?_
      walk_at "go"
      refine ml_set M hm hr.1 (fun H2 k2 M2 => ?_)
      have ht2 := ml_tup M k2 ht
      walk_at "go"
      refine hQ _ k2 ?_
      show Has H2 (_ :: ML rg wd o (put ms d (if rgV ms c = 0 then rgV ms b' else rgV ms a)))
      rw [if_pos c0]
      exact M2
    · rw [decide_eq_false c0]
      refine g_ixT (SqT.of ht) (n := 3) rfl rfl ?_
      walk_at "go"
      refine ml_reg M hm hr.2.2.1 ?_
      walk_at "go"
      refine ml_set M hm hr.1 (fun H2 k2 M2 => ?_)
      have ht2 := ml_tup M k2 ht
      walk_at "go"
      refine hQ _ k2 ?_
      show Has H2 (_ :: ML rg wd o (put ms d (if rgV ms c = 0 then rgV ms b' else rgV ms a)))
      rw [if_neg c0]
      exact M2
  | load d a base mask =>
    have ht : H ra = some (.tup [.str "load", .int d, .int a, .int base, .int mask]) := ht
    walk_at "go"
    refine g_ixD (dg_of (M.get 0 rfl) mk_words) ?_
    walk_at "go"
    refine ml_reg M hm hr.2.1 ?_
    walk_at "go"
    refine ml_get M hm (fun ov e => ?_)
    rw [e]
    walk_at "go"
    refine ml_set M hm hr.1 (fun H2 k2 M2 => ?_)
    have ht2 := ml_tup M k2 ht
    walk_at "go"
    exact hQ _ k2 M2
  | store a base mask b' =>
    have ht : H ra = some (.tup [.str "store", .int a, .int base, .int mask, .int b']) := ht
    walk_at "go"
    refine ml_reg M hm hr.2.1 ?_
    walk_at "go"
    refine g_ixD (dg_of (M.get 0 rfl) mk_words) ?_
    walk_at "go"
    refine ml_reg M hm hr.1 ?_
    walk_at "go"
    refine ml_put M hm hb (fun H2 k2 M2 => ?_)
    have ht2 := ml_tup M k2 ht
    walk_at "go"
    exact hQ _ k2 M2
  | out a =>
    have ht : H ra = some (.tup [.str "out", .int a]) := ht
    walk_at "go"
    refine g_ixD (dg_of (M.get 0 rfl) mk_outs) ?_
    walk_at "go"
    refine ml_reg M hm hr.1 ?_
    walk_at "go"
    refine ml_out M hm hb (fun H2 k2 M2 => ?_)
    walk_at "go"
    exact hQ _ k2 M2
def sp_law_next_row (K : PySem.W.Frag) : Sp := fun vs H Q _ => ∃ (ra m rg wd o : Addr) (t : Nat) (r : Row) (many k b : Nat) (cov : Int → Prop) (ms : MS), vs = [.ref m, .ref ra] ∧ H ra = some (.tup r.v) ∧ Has H ((m, .dK (mK rg wd o (t : Int))) :: ML rg wd o ms) ∧ MOk b cov ms ∧ RowOkD many k r ∧ (∀ a, r ≠ .stop a) ∧
  Q (.int ((nextAt ms t r : Nat) : Int)) H
theorem sc_law_next_row : FnScope ["m", "row"] ["m", "row"] (defScope (topS 28)) := ⟨rfl, rfl, rfl, by decide +kernel, rfl, by decide +kernel, by decide +kernel⟩
theorem ok_law_next_row (T : Txt fa fn K mg) : Dn P w K mg base CX0 1 "_law_next_row" ["m", "row"] (sp_law_next_row K) := by
  refine mk_dn (d := dOf "_law_next_row" 28) T 22 22 rfl rfl rfl rfl rfl sc_law_next_row (by walk_at "len") (fun _ _ _ _ _ _ us hl => match us, hl with | [_, _], _ => rfl) (fun cdv A outer s H vs Q E hr h => ⟨_, (pss_cons (ps_if (pt_cmpR (op_eqU (K := K) rfl hr.units) (pe_ixU (K := K) rfl (hu_of hr) (pv 1) pe_int) pe_str (nomark _)) (pss_one (ps_ret (pe_ixU (K := K) rfl (hu_of hr) (pv 1) pe_int))) pss_nil)
      (pss_cons (ps_if (PW.pt (pw_and (pt_cmpR (op_eqU (K := K) rfl hr.units) (pe_ixU (K := K) rfl (hu_of hr) (pv 1) pe_int) pe_str (nomark _)) (pw_and1 (pt_cmpR (op_neU (K := K) rfl hr.units) (pe_ixU (K := K) rfl (hu_of hr) (pe_ixU (K := K) rfl (hu_of hr) (pv 0) pe_str) (pe_ixU (K := K) rfl (hu_of hr) (pv 1) pe_int)) pe_int (nomark _))))) (pss_one (ps_ret (pe_ixU (K := K) rfl (hu_of hr) (pv 1) pe_int))) pss_nil)
      (pss_one (ps_ret (pe_op (op_addU (K := K) rfl) (pe_ixU (K := K) rfl (hu_of hr) (pv 0) pe_str) pe_int))))), ?_⟩)
  obtain ⟨ra, m, rg, wd, o, t, r, many, k, b, cov, ms, rfl, ht, M, hm, hr, hs, hQ⟩ := h
  walk_at "go"
  by_cases hp : r.plain = true
  · rw [pl_next hp] at hQ
    refine g_ixT (SqT.of ht) (n := 0) rfl row0 ?_
    walk_at "go"
    refine g_isnt (decide_eq_false (pl_jump hp)) ?_
    walk_at "go"
    refine g_ixT (SqT.of ht) (n := 0) rfl row0 ?_
    walk_at "go"
    refine g_isnt (decide_eq_false (pl_branch hp)) ?_
    walk_at "go"
    refine g_ixD (dg_of (M.get 0 rfl) mk_at) ?_
    walk_at "go"
    exact hQ
  · cases r <;> first | exact absurd rfl hp | skip
    · rename_i t'
      have ht : H ra = some (.tup [.str "jump", .int t']) := ht
      walk_at "go"
      exact hQ
    · rename_i a t'
      have ht : H ra = some (.tup [.str "branch", .int a, .int t']) := ht
      walk_at "go"
      refine g_ixD (dg_of (M.get 0 rfl) mk_held) ?_
      walk_at "go"
      refine ml_reg M hm hr.1 ?_
      walk_at "go"
      refine g_ifN (fun c0 => ?_) (fun c0 => ?_)
      · walk_at "go"
        refine q_int ?_ hQ
        show (((if rgV ms a = 0 then t + 1 else t') : Nat) : Int) = _
        rw [if_neg c0]
      · walk_at "go"
        refine g_ixD (dg_of (M.get 0 rfl) mk_at) ?_
        walk_at "go"
        refine q_int ?_ hQ
        show (((if rgV ms a = 0 then t + 1 else t') : Nat) : Int) = _
        rw [if_pos c0]
        rfl
    · rename_i a
      exact absurd rfl (hs a)
def sp_law_plain (K : PySem.W.Frag) : Sp := fun vs H Q _ => ∃ (code cont : V) (n : Nat) (rgs : List Rg) (cs : List (List Int)) (rows : List Row), vs = [code, cont, .int (n : Int)] ∧ Im H code (codeD rgs rows) ∧ Im H cont (contD cs) ∧ MemOk rgs cs ∧ CodeOk rows ∧ n ≤ 2500 ∧
  ∀ H' v, Same H H' → Im H' v (.tuple (resD rgs (runM rows n 0 (ms0 rgs cs)))) → Q v H'
theorem g_d4 {A : Prop} {R : List (Key × V) → Prop} {k1 k2 k3 k4 : Str} {v1 v2 v3 v4 : V} (h : A) (q : R [(.inr k1, v1), (.inr k2, v2), (.inr k3, v3), (.inr k4, v4)]) :
    A ∧ ∃ kvs : List (Key × V), [(V.str k1, v1), (V.str k2, v2), (V.str k3, v3), (V.str k4, v4)] = kvs.map (fun kv => (kV kv.1, kv.2)) ∧ kvs.length ≤ 15 ∧ R kvs :=
  ⟨h, [(.inr k1, v1), (.inr k2, v2), (.inr k3, v3), (.inr k4, v4)], rfl, (by show 4 ≤ 15; decide), q⟩
theorem run_go {rows : List Row} {r : Row} {n a : Nat} {ms : MS} (hs : ∀ x, r ≠ .stop x) (hr : rows[a]? = some r) : runM rows (n + 1) a ms = runM rows n (nextAt (doRow ms r) a r) (doRow ms r) := by
  show (match rows[a]? with
    | some (.stop a) => (some (rgV ms a), ms)
    | some r => runM rows n (nextAt (doRow ms r) a r) (doRow ms r)
    | none => (none, ms)) = _
  rw [hr]
  cases r <;> first | rfl | exact absurd rfl (hs _)
theorem nm_stop {r : Row} (hs : ∀ x, r ≠ .stop x) : ¬ r.nm = "stop" := by
  cases r <;> first | exact absurd rfl (hs _) | (simp only [Row.nm]; decide +kernel)
theorem sc_law_plain : FnScope ["code", "contents", "steps", "m", "result", "step", "row"] ["code", "contents", "steps"] (defScope (topS 29)) := ⟨rfl, rfl, rfl, by decide +kernel, rfl, by decide +kernel, by decide +kernel⟩
theorem ok_law_plain (T : Txt fa fn K mg) : Dn P w K mg base CX0 3 "_law_plain" ["code", "contents", "steps"] (sp_law_plain K) := by
  refine mk_dn (d := dOf "_law_plain" 29) T 23 23 rfl rfl rfl rfl rfl sc_law_plain (by walk_at "len") (fun _ _ _ _ _ _ us hl => match us, hl with | [_, _, _], _ => rfl) (fun cdv A outer s H vs Q E hr h => ⟨_, (pss_cons (ps_set (i := 3) sc_law_plain.nd rfl (.inl rfl) (pe_disp (pps_cons pe_str (pe_op op_mulU (pe_lst (pa_cons pe_int pa_nil)) pe_int) (pps_cons pe_str (pe_callD (K := K) rfl (ok_law_memory T) (hr.mono (by decide)) rfl pass0 (pa_cons (pv 0) (pa_cons (pv 1) pa_nil))) (pps_cons pe_str (pe_lst pa_nil) (pps_cons pe_str pe_int pps_nil)))) (by rfl) (by rfl) (fun z => by cases z) (by decide)))
      (pss_cons (ps_set (i := 4) sc_law_plain.nd rfl (.inl rfl) pe_non)
      (pss_cons (ps_join (ps_for PassesOwn.never rfl (pi_r1 rfl (T.free 39 rfl) (pa_cons (pv 2) pa_nil)) (pg_name (i := 5) sc_law_plain.nd rfl (.inl rfl)) (pss_cons (ps_set (i := 6) sc_law_plain.nd rfl (.inl rfl) (pe_ixU (K := K) rfl (hu_of hr) (pe_ixU (K := K) rfl (hu_of hr) (pv 0) pe_int) (pe_ixU (K := K) rfl (hu_of hr) (pv 3) pe_str)))
      (pss_cons (ps_if (pt_cmpR (op_eqU (K := K) rfl hr.units) (pe_ixU (K := K) rfl (hu_of hr) (pv 6) pe_int) pe_str (nomark _)) (pss_cons (ps_set (i := 4) sc_law_plain.nd rfl (.inl rfl) (pe_ixU (K := K) rfl (hu_of hr) (pe_ixU (K := K) rfl (hu_of hr) (pv 3) pe_str) (pe_ixU (K := K) rfl (hu_of hr) (pv 6) pe_int)))
      (pss_one ps_break)) pss_nil)
      (pss_cons (ps_expr (pe_callD (K := K) rfl (ok_law_do T) (hr.mono (by decide)) rfl pass0 (pa_cons (pv 3) (pa_cons (pv 6) pa_nil))))
      (pss_one (ps_dput (hu_of hr) (pv 3) pe_str (pe_callD (K := K) rfl (ok_law_next_row T) (hr.mono (by decide)) rfl pass0 (pa_cons (pv 3) (pa_cons (pv 6) pa_nil))) rfl)))))))
      (pss_one (ps_ret (pe_tup (pa_cons (pe_callTy (c_tuple (K := K) rfl) rfl (T.free 40 rfl) (by decide +kernel) (pa_cons (pe_ixU (K := K) rfl (hu_of hr) (pv 3) pe_str) pa_nil)) (pa_cons (pv 4) (pa_cons (pe_callD (K := K) rfl (ok_law_held T) (hr.mono (by decide)) rfl pass0 (pa_cons (pv 0) (pa_cons (pe_ixU (K := K) rfl (hu_of hr) (pv 3) pe_str) pa_nil))) pa_nil))))))))), ?_⟩)
  obtain ⟨code, cont, n, rgs, cs, rows, rfl, ic, ik, ok, co, hn, hQ⟩ := h
  have col := co.l
  walk_at "go"
  intro m hm0
  walk_at "go"
  have s0 := Same.new (o := .dK []) hm0
  refine ⟨by decide, fun u1 hu1 => ?_⟩
  walk_at "go"
  have s1 := Same.new' (o := .lst [.int 0]) s0 hu1
  refine g_repI (x := 0) upd_same (by decide) (by decide) (fun rg hrg => ?_)
  have s2 := Same.new' (o := .lst ((List.replicate (16 : Int).toNat 0).map V.int)) s1 hrg
  have f2 := Same.back s1 hrg
  have M2 : Has _ [(m, HO.dK []), (u1, .lst [.int 0]), (rg, .lst ((List.replicate (16 : Int).toNat 0).map V.int))] := ((Has.one (H := upd H m (.dK [])) (a := m) upd_same).new (o := .lst [.int 0]) hu1).new (o := .lst ((List.replicate (16 : Int).toNat 0).map V.int)) hrg
  walk_at "go"
  refine ⟨code, cont, rgs, cs, rows, rfl, ic.same s2, ik.same s2, ok, fun H5 wd s5 hwd5 hwd => ?_⟩
  have s5' := s2.trans s5
  have f5 := Same.back s2 hwd5
  have M5 := has_add M2 s5 hwd5 hwd
  walk_at "go"
  refine ⟨by decide, fun o ho => ?_⟩
  have s8 := Same.new' (o := .lst []) s5' ho
  have fo := Same.back s5' ho
  have M8 := M5.new (o := .lst []) ho
  walk_at "go"
  refine g_d4 (M8.get 0 rfl) ?_
  rw [mk_made]
  have M9 := (M8.set (o' := .dK (mK rg wd o 0)) 0 rfl)
  have s9 := Same.mut (o := .dK (mK rg wd o 0)) s8 hm0
  have M9 := M9.sub (L' := (m, .dK (mK rg wd o ((0 : Nat) : Int))) :: ML rg wd o (ms0 rgs cs)) (by
    show List.Sublist [(m, HO.dK (mK rg wd o 0)), (rg, HO.lst ((List.replicate (16 : Int).toNat 0).map V.int)), (wd, HO.dK (mem rgs cs)), (o, HO.lst [])]
      [(m, HO.dK (mK rg wd o 0)), (u1, .lst [.int 0]), (rg, HO.lst ((List.replicate (16 : Int).toNat 0).map V.int)), (wd, HO.dK (mem rgs cs)), (o, HO.lst [])]
    exact .cons₂ _ (.cons _ (.cons₂ _ (.cons₂ _ (.cons₂ _ .slnil)))))
  have fr : ∀ x ∈ [m, rg, wd, o], H x = none := fun x hx => by
    simp only [List.mem_cons, List.not_mem_nil, or_false] at hx
    rcases hx with rfl | rfl | rfl | rfl
    · exact hm0
    · exact f2
    · exact f5
    · exact fo
  walk_at "go"
  refine ⟨fun σ' H' => ∃ (k rw_ : Option V) (p : Option Int × MS) (b t : Nat), σ' = [some code, some cont, some (.int (n : Int)), some (.ref m), some (rsV p.1), k, rw_] ∧ Same H H' ∧ Has H' ((m, .dK (mK rg wd o (t : Int))) :: ML rg wd o p.2) ∧ MOk b (covG rgs) p.2 ∧ p = runM rows n 0 (ms0 rgs cs), ?_, ?_⟩
  · walk_at "go"
    rw [Int.toNat_natCast]
    refine f_range (fun i σ H' => ∃ (at_ : Nat) (k rw_ : Option V) (ms : MS), σ = [some code, some cont, some (.int (n : Int)), some (.ref m), some .non, k, rw_] ∧ Same H H' ∧ Has H' ((m, .dK (mK rg wd o (at_ : Int))) :: ML rg wd o ms) ∧ MOk (200 + i) (covG rgs) ms ∧ at_ < rows.length ∧ runM rows (n - i) at_ ms = runM rows n 0 (ms0 rgs cs) ∧ i ≤ n)
      ⟨0, _, _, _, rfl, s9, M9, ms0_ok ok, col, rfl, Nat.zero_le _⟩ ?_ ?_
    · rintro i σ H1 hi ⟨at_, k, rw_, ms, rfl, sm, M, hm, hat, hrun, _⟩
      obtain ⟨q, hm1⟩ : ∃ q, n - i = q + 1 := ⟨n - i - 1, by omega⟩
      have hm2 : n - (i + 1) = q := by omega
      rw [hm1] at hrun
      have hra : rows[at_]? = some rows[at_] := List.getElem?_eq_getElem hat
      generalize rows[at_] = r at hra
      have hr := co.r at_ r hra
      walk_at "go"
      refine m_ix (ic.same sm) (n := 1) rfl rfl (fun v hv => ?_)
      walk_at "go"
      refine g_ixD (dg_of (M.get 0 rfl) mk_at) ?_
      refine m_ix hv (n := at_) rfl (by rw [List.getElem?_map, hra]; rfl) (fun y hy => ?_)
      obtain ⟨ra, rfl, ht⟩ := row_tup hy
      walk_at "go"
      by_cases hst : ∃ a, r = .stop a
      · obtain ⟨a, rfl⟩ := hst
        have ht : H1 ra = some (.tup [.str "stop", .int a]) := ht
        have e : runM rows (q + 1) at_ ms = (some (rgV ms a), ms) := by
          show (match rows[at_]? with
            | some (.stop a) => (some (rgV ms a), ms)
            | some r => runM rows q (nextAt (doRow ms r) at_ r) (doRow ms r)
            | none => (none, ms)) = _
          rw [hra]
        rw [e] at hrun
        walk_at "go"
        refine g_ixD (dg_of (M.get 0 rfl) mk_held) ?_
        walk_at "go"
        refine ml_reg M hm hr ?_
        walk_at "go"
        exact ⟨_, _, (some (rgV ms a), ms), _, at_, rfl, sm, M, hm, hrun⟩
      · have hs : ∀ x, r ≠ .stop x := fun x e => hst ⟨x, e⟩
        rw [run_go hs hra] at hrun
        refine g_ixT (SqT.of ht) (n := 0) rfl row0 ?_
        walk_at "go"
        refine g_isnt (decide_eq_false (nm_stop hs)) ?_
        walk_at "go"
        refine ⟨ra, m, rg, wd, o, _, r, rows.length, at_, 200 + i, covG rgs, ms, rfl, ht, M, hm, hr, by omega, hs, fun H2 k2 M2 => ?_⟩
        have ht2 := ml_tup M k2 ht
        have hm' := hm.do_ hr
        walk_at "go"
        refine ⟨ra, m, rg, wd, o, at_, r, rows.length, at_, 200 + i + 1, covG rgs, doRow ms r, rfl, ht2, M2, hm', hr, hs, ?_⟩
        walk_at "go"
        refine ⟨m, _, rfl, dp_m (M2.get 0 rfl), ?_⟩
        have M3 := M2.set (o' := .dK (mK rg wd o ((nextAt (doRow ms r) at_ r : Nat) : Int))) 0 rfl
        refine ⟨_, _, _, _, rfl, ?_, M3, hm', next_lt hr hs, by rw [hm2]; exact hrun, by omega⟩
        refine Same.mut (same_keep sm k2 (fun x hx => fr x (List.mem_cons_of_mem _ hx))) hm0
    · rintro σ H1 ⟨at_, k, rw_, ms, rfl, sm, M, hm, hat, hrun, _⟩
      rw [Nat.sub_self] at hrun
      exact ⟨_, _, (none, ms), _, at_, rfl, sm, M, hm, hrun⟩
  · rintro σ H1 ⟨k, rw_, p, b, t, rfl, sm, M, hm, hp⟩
    walk_at "go"
    refine g_ixD (dg_of (M.get 0 rfl) mk_outs) ?_
    walk_at "go"
    refine m_tupleL (SqL.of (M.get 3 rfl)) (ims_ints p.2.ou) (fun q H2 s2 hq im2 => ?_)
    have M2 := M.keep s2
    walk_at "go"
    refine g_ixD (dg_of (M2.get 0 rfl) mk_words) ?_
    walk_at "go"
    refine ⟨code, wd, rgs, rows, p.2, b, rfl, M2.get 2 rfl, ic.same (sm.trans s2), hm, ok.z, ok.m, fun H3 w3 s3 im3 => ?_⟩
    walk_at "go"
    refine m_new (.cons (im2.same s3) (.cons (im_rs p.1) (.cons im3 .nil))) (by simp) (fun t H4 s4 ht im4 => ?_)
    refine hQ _ _ (((sm.trans s2).trans s3).trans s4) ?_
    rw [← hp]
    exact im4


/-! ### what the law draws -/
def sp_law_word (K : PySem.W.Frag) : Sp := fun vs H Q _ => ∃ (d : Addr) (L : List (Addr × HO)), vs = [.ref d] ∧ DrL H d L ∧ ∀ H' x, Keep [d] H H' → DrL H' d L → W32 x → Q (.int x) H'
theorem sc_law_word : FnScope ["draws", "pick"] ["draws"] (defScope (topS 16)) := ⟨rfl, rfl, rfl, by decide +kernel, rfl, by decide +kernel, by decide +kernel⟩
theorem ok_law_word (T : Txt fa fn K mg) : Dn P w K mg base CX0 2 "_law_word" ["draws"] (sp_law_word K) := by
  refine mk_dn (d := dOf "_law_word" 16) T 10 10 rfl rfl rfl rfl rfl sc_law_word (by walk_at "len") (fun _ _ _ _ _ _ us hl => match us, hl with | [_], _ => rfl) (fun cdv A outer s H vs Q E hr h => ⟨_, (pss_cons (ps_set (i := 1) sc_law_word.nd rfl (.inl rfl) (pe_callD (K := K) rfl (ok_law_next T) (hr.mono (by decide)) rfl pass0 (pa_cons (pv 0) (pa_cons pe_int pa_nil))))
      (pss_cons (ps_if (pt_cmpR (op_eqU (K := K) rfl hr.units) (pv 1) pe_int (nomark _)) (pss_one (ps_ret (pe_callD (K := K) rfl (ok_law_next T) (hr.mono (by decide)) rfl pass0 (pa_cons (pv 0) (pa_cons pe_int pa_nil))))) pss_nil)
      (pss_cons (ps_if (pt_cmpR (op_eqU (K := K) rfl hr.units) (pv 1) pe_int (nomark _)) (pss_one (ps_ret (pe_callD (K := K) rfl (ok_law_next T) (hr.mono (by decide)) rfl pass0 (pa_cons (pv 0) (pa_cons pe_int pa_nil))))) pss_nil)
      (pss_cons (ps_if (pt_cmpR (op_eqU (K := K) rfl hr.units) (pv 1) pe_int (nomark _)) (pss_one (ps_ret (pe_op op_sub pe_int (pe_callD (K := K) rfl (ok_law_next T) (hr.mono (by decide)) rfl pass0 (pa_cons (pv 0) (pa_cons pe_int pa_nil)))))) pss_nil)
      (pss_one (ps_ret (pe_op o_mod (pe_callTy c_int rfl (T.free 35 rfl) (by decide +kernel) (pa_cons (pe_op (op_addU (K := K) rfl) (pe_op op_mulU (pe_callD (K := K) rfl (ok_law_next T) (hr.mono (by decide)) rfl pass0 (pa_cons (pv 0) (pa_cons pe_int pa_nil))) pe_int) (pe_op op_mulU (pe_callD (K := K) rfl (ok_law_next T) (hr.mono (by decide)) rfl pass0 (pa_cons (pv 0) (pa_cons pe_int pa_nil))) pe_int)) pa_nil)) pe_int))))))), ?_⟩)
  obtain ⟨d, L, rfl, D, hQ⟩ := h
  walk_at "go"
  refine use_nx D (by decide) (fun H1 v1 k1 D1 h10 h11 => ?_)
  walk_at "go"
  refine g_if (fun c => ?_) (fun c => ?_)
  · walk_at "go"
    refine use_nx D1 (by decide) (fun H2 v2 k2 D2 h20 h21 => ?_)
    exact hQ _ _ (k1.trans k2) D2 ⟨h20, by omega⟩
  walk_at "go"
  refine g_if (fun c => ?_) (fun c => ?_)
  · walk_at "go"
    refine use_nx D1 (by decide) (fun H2 v2 k2 D2 h20 h21 => ?_)
    exact hQ _ _ (k1.trans k2) D2 ⟨h20, by omega⟩
  walk_at "go"
  refine g_if (fun c => ?_) (fun c => ?_)
  · walk_at "go"
    refine use_nx D1 (by decide) (fun H2 v2 k2 D2 h20 h21 => ?_)
    walk_at "go"
    exact hQ _ _ (k1.trans k2) D2 ⟨by omega, by omega⟩
  walk_at "go"
  refine use_nx D1 (by decide) (fun H2 v2 k2 D2 h20 h21 => ?_)
  walk_at "go"
  refine use_nx D2 (by decide) (fun H3 v3 k3 D3 h30 h31 => ?_)
  walk_at "go"
  exact hQ _ _ ((k1.trans k2).trans k3) D3 ⟨Int.emod_nonneg _ (by decide), Int.emod_lt_of_pos _ (by decide)⟩
structure RgsOk (rgs : List Rg) : Prop where
  l : 0 < rgs.length
  u : rgs.length ≤ 4
  n : ∀ g ∈ rgs, g.n ≤ 30
  s : ∀ g ∈ rgs, PyData.strOk g.l = true
abbrev rgsD (rgs : List Rg) : PyData := .tuple (rgs.map Rg.d)
def sp_law_regions (K : PySem.W.Frag) : Sp := fun vs H Q _ => ∃ (d : Addr) (L : List (Addr × HO)), vs = [.ref d] ∧ DrL H d L ∧ ∀ H' v rgs, Keep [d] H H' → DrL H' d L → Im H' v (rgsD rgs) → RgsOk rgs → Q v H'
theorem all_snoc {α : Type} {p : α → Prop} {l : List α} {y : α} (h : ∀ x ∈ l, p x) (hy : p y) : ∀ x ∈ l ++ [y], p x := fun x hx => by
  rcases List.mem_append.mp hx with hx | hx
  · exact h x hx
  · rw [List.mem_singleton.mp hx]
    exact hy
theorem sub_last {L : List (Addr × HO)} {x : Addr × HO} : L.Sublist (L ++ [x]) := List.sublist_append_left L [x]
theorem get_last {L : List (Addr × HO)} {x : Addr × HO} : (L ++ [x])[L.length]? = some x := by simp
theorem set_last {L : List (Addr × HO)} {x y : Addr × HO} : (L ++ [x]).set L.length y = L ++ [y] := by simp
theorem sc_law_regions : FnScope ["draws", "regions", "base", "k", "size"] ["draws"] (defScope (topS 17)) := ⟨rfl, rfl, rfl, by decide +kernel, rfl, by decide +kernel, by decide +kernel⟩
theorem ok_law_regions (T : Txt fa fn K mg) : Dn P w K mg base CX0 2 "_law_regions" ["draws"] (sp_law_regions K) := by
  refine mk_dn (d := dOf "_law_regions" 17) T 11 11 rfl rfl rfl rfl rfl sc_law_regions (by walk_at "len") (fun _ _ _ _ _ _ us hl => match us, hl with | [_], _ => rfl) (fun cdv A outer s H vs Q E hr h => ⟨_, (pss_cons (ps_set (i := 1) sc_law_regions.nd rfl (.inl rfl) (pe_lst pa_nil))
      (pss_cons (ps_set (i := 2) sc_law_regions.nd rfl (.inl rfl) pe_int)
      (pss_cons (ps_for PassesOwn.never rfl (pi_r1 rfl (T.free 39 rfl) (pa_cons (pe_op (op_addU (K := K) rfl) pe_int (pe_callD (K := K) rfl (ok_law_next T) (hr.mono (by decide)) rfl pass0 (pa_cons (pv 0) (pa_cons pe_int pa_nil)))) pa_nil)) (pg_name (i := 3) sc_law_regions.nd rfl (.inl rfl)) (pss_cons (ps_set (i := 4) sc_law_regions.nd rfl (.inl rfl) (pe_ixU (K := K) rfl (hu_of hr) (pe_lst (pa_cons pe_int (pa_cons pe_int (pa_cons pe_int (pa_cons pe_int (pa_cons (pe_op (op_addU (K := K) rfl) pe_int (pe_callD (K := K) rfl (ok_law_next T) (hr.mono (by decide)) rfl pass0 (pa_cons (pv 0) (pa_cons pe_int pa_nil)))) pa_nil)))))) (pe_callD (K := K) rfl (ok_law_next T) (hr.mono (by decide)) rfl pass0 (pa_cons (pv 0) (pa_cons pe_int pa_nil)))))
      (pss_cons (ps_expr (pe_bm PySem.F.plainAttrs_list PySem.F.slot_list_append PySem.F.type_list_append mt_append (pv 1) (pa_cons (pe_tup (pa_cons (pv 2) (pa_cons (pv 4) (pa_cons (pe_ixU (K := K) rfl (hu_of hr) (pe_lst (pa_cons pe_str (pa_cons pe_str pa_nil))) (pe_callD (K := K) rfl (ok_law_next T) (hr.mono (by decide)) rfl pass0 (pa_cons (pv 0) (pa_cons pe_int pa_nil)))) pa_nil)))) pa_nil)))
      (pss_one (ps_set (i := 2) sc_law_regions.nd rfl (.inl rfl) (pe_op (op_addU (K := K) rfl) (pv 2) (pv 4)))))))
      (pss_one (ps_ret (pe_callTy (c_tuple (K := K) rfl) rfl (T.free 40 rfl) (by decide +kernel) (pa_cons (pv 1) pa_nil))))))), ?_⟩)
  obtain ⟨d, L, rfl, D, hQ⟩ := h
  walk_at "go"
  refine ⟨by decide, fun p hp => ?_⟩
  have D1 := D.new (o := .lst []) hp
  have kp : Keep [d] H _ := Keep.new (o := .lst []) hp
  walk_at "go"
  refine use_nx D1 (by decide) (fun H2 v2 k2 D2 h20 h21 => ?_)
  walk_at "go"
  have kp2 := kp.trans k2
  refine f_range (fun i σ H' => ∃ (base : Int) (k z : Option V) (xs : List V) (rgs : List Rg), σ = [some (.ref d), some (.ref p), some (.int base), k, z] ∧ Keep [d] H H' ∧ DrL H' d (L ++ [(p, .lst xs)]) ∧ Ims H' xs (rgs.map Rg.d) ∧ rgs.length = i ∧ (∀ g ∈ rgs, g.n ≤ 30) ∧ ∀ g ∈ rgs, PyData.strOk g.l = true)
    ⟨0, _, _, [], [], rfl, kp2, D2, .nil, rfl, by simp, by simp⟩ ?_ ?_
  · rintro i σ H3 hi ⟨base, k, z, xs, rgs, rfl, k3, D3, ims, hl, a1, a2⟩
    have hxs := ims.length
    rw [List.length_map] at hxs
    walk_at "go"
    refine use_nx D3 (by decide) (fun H4 v4 k4 D4 h40 h41 => ?_)
    walk_at "go"
    refine use_pk D4 rfl rfl (by simp) (by simp) (fun H5 v k5 D5 hv => ?_)
    obtain ⟨n, rfl, hn⟩ : ∃ n : Nat, v = .int (n : Int) ∧ n ≤ 30 := by
      simp only [List.mem_cons, List.not_mem_nil, or_false] at hv
      rcases hv with rfl | rfl | rfl | rfl | rfl
      · exact ⟨1, rfl, by decide⟩
      · exact ⟨2, rfl, by decide⟩
      · exact ⟨4, rfl, by decide⟩
      · exact ⟨16, rfl, by decide⟩
      · exact ⟨(1 + v4).toNat, by rw [Int.toNat_of_nonneg (by omega)], by omega⟩
    have at5 : H5 p = some (.lst xs) := D5.get L.length get_last
    have ims5 := D4.ims k5 (D3.ims k4 ims)
    walk_at "go"
    refine use_pk D5 rfl rfl (by simp) (by simp) (fun H6 v k6 D6 hv => ?_)
    obtain ⟨z, rfl, hz⟩ : ∃ P : Str, v = .str P ∧ PyData.strOk P = true := by
      simp only [List.mem_cons, List.not_mem_nil, or_false] at hv
      rcases hv with rfl | rfl
      · exact ⟨_, rfl, by decide +kernel⟩
      · exact ⟨_, rfl, by decide +kernel⟩
    walk_at "go"
    refine m_new (.cons (.int _) (.cons (.int _) (.cons (.str _) .nil))) (by simp) (fun a H7 s7 ha im => ?_)
    walk_at "go"
    have D7 := D6.same s7
    have ims7 := (D5.ims k6 ims5).same s7
    refine gD_append D7 L.length get_last (by omega) (fun D8 => ?_)
    walk_at "go"
    rw [set_last] at D8
    refine ⟨_, _, _, xs ++ [.ref a], rgs ++ [⟨base, n, z⟩], rfl, ((((k3.trans k4).trans k5).trans k6).trans (Keep.of s7)).mut hp, D8, ?_, by rw [List.length_append, hl]; rfl, all_snoc a1 hn, all_snoc a2 hz⟩
    rw [List.map_append]
    exact ims_snoc (H2 := H7) ims7 im (D7.get L.length get_last)
  · rintro σ H3 ⟨base, k, z, xs, rgs, rfl, k3, D3, ims, hl, a1, a2⟩
    walk_at "go"
    refine m_tupleL (SqL.of (D3.get L.length get_last)) ims (fun q H4 s4 hq im => ?_)
    exact hQ _ _ rgs (k3.trans (Keep.of s4)) ((D3.sub sub_last).same s4) im ⟨by omega, by omega, a1, a2⟩
def sp_law_span (K : PySem.W.Frag) : Sp := fun vs H Q _ => ∃ (d : Addr) (L : List (Addr × HO)) (x : V) (rgs : List Rg), vs = [.ref d, x] ∧ DrL H d L ∧ Im H x (rgsD rgs) ∧ RgsOk rgs ∧ ∀ H' v b m, Keep [d] H H' → DrL H' d L → Im H' v (.tuple [.int b, .int m]) → Q v H'
theorem sc_law_span : FnScope ["draws", "regions", "base", "size", "label", "mask"] ["draws", "regions"] (defScope (topS 18)) := ⟨rfl, rfl, rfl, by decide +kernel, rfl, by decide +kernel, by decide +kernel⟩
theorem ok_law_span (T : Txt fa fn K mg) : Dn P w K mg base CX0 2 "_law_span" ["draws", "regions"] (sp_law_span K) := by
  refine mk_dn (d := dOf "_law_span" 18) T 12 12 rfl rfl rfl rfl rfl sc_law_span (by walk_at "len") (fun _ _ _ _ _ _ us hl => match us, hl with | [_, _], _ => rfl) (fun cdv A outer s H vs Q E hr h => ⟨_, (pss_cons (ps_if (pt_cmpR (op_eqU (K := K) rfl hr.units) (pe_callD (K := K) rfl (ok_law_next T) (hr.mono (by decide)) rfl pass0 (pa_cons (pv 0) (pa_cons pe_int pa_nil))) pe_int (nomark _)) (pss_one (ps_ret (pe_tup (pa_cons (pe_callD (K := K) rfl (ok_law_next T) (hr.mono (by decide)) rfl pass0 (pa_cons (pv 0) (pa_cons pe_int pa_nil))) (pa_cons (pe_op op_sub (pe_op o_shl pe_int (pe_callD (K := K) rfl (ok_law_next T) (hr.mono (by decide)) rfl pass0 (pa_cons (pv 0) (pa_cons pe_int pa_nil)))) pe_int) pa_nil))))) pss_nil)
      (pss_cons (ps_asg (pe_ixU (K := K) rfl (hu_of hr) (pv 1) (pe_callD (K := K) rfl (ok_law_next T) (hr.mono (by decide)) rfl pass0 (pa_cons (pv 0) (pa_cons (pe_callB (c_len (K := K) rfl) rfl (T.free 37 rfl) (by decide +kernel) (pa_cons (pv 1) pa_nil)) pa_nil)))) (pg_tup rfl (pgs_cons (pg_name (i := 2) sc_law_span.nd rfl (.inl rfl)) (pgs_cons (pg_name (i := 3) sc_law_span.nd rfl (.inl rfl)) (pgs_cons (pg_name (i := 4) sc_law_span.nd rfl (.inl rfl)) pgs_nil)))))
      (pss_cons (ps_set (i := 5) sc_law_span.nd rfl (.inl rfl) pe_int)
      (pss_cons (ps_while PassesOwn.never (pt_cmpR o_le (pe_op (op_addU (K := K) rfl) (pe_op op_mulU pe_int (pv 5)) pe_int) (pv 3) (nomark _)) (pss_one (ps_set (i := 5) sc_law_span.nd rfl (.inl rfl) (pe_op (op_addU (K := K) rfl) (pe_op op_mulU pe_int (pv 5)) pe_int))))
      (pss_one (ps_ret (pe_tup (pa_cons (pv 2) (pa_cons (pv 5) pa_nil))))))))), ?_⟩)
  obtain ⟨d, L, x, rgs, rfl, D, ix, ro, hQ⟩ := h
  have rl := ro.l
  walk_at "go"
  refine use_nx D (by decide) (fun H1 v1 k1 D1 h10 h11 => ?_)
  walk_at "go"
  refine g_if (fun c => ?_) (fun c => ?_)
  · walk_at "go"
    refine use_nx D1 (by decide) (fun H2 v2 k2 D2 h20 h21 => ?_)
    walk_at "go"
    refine use_nx D2 (by decide) (fun H3 v3 k3 D3 h30 h31 => ?_)
    walk_at "go"
    refine m_new (.cons (.int _) (.cons (.int _) .nil)) (by simp) (fun p H4 s4 hp im => ?_)
    exact hQ _ _ _ _ (((k1.trans k2).trans k3).trans (Keep.of s4)) (D3.same s4) im
  · have ix1 := D.im k1 ix
    walk_at "go"
    refine m_len ix1 ?_
    rw [List.length_map]
    walk_at "go"
    refine use_nx D1 (by omega) (fun H2 v2 k2 D2 h20 h21 => ?_)
    have ix2 := D1.im k2 ix1
    have hg : rgs[v2.toNat]? = some (rgs[v2.toNat]'(by omega)) := List.getElem?_eq_getElem _
    generalize rgs[v2.toNat]'(by omega) = g at hg
    walk_at "go"
    refine m_ix ix2 (n := v2.toNat) (by omega) (by rw [List.getElem?_map, hg]; rfl) (fun y hy => ?_)
    obtain ⟨t, rfl, ht⟩ := im3v hy
    walk_at "go"
    refine ⟨fun m σ H' => ∃ (mask : Int), σ = [some (.ref d), some x, some (.int g.b), some (.int (g.n : Int)), some (.str g.l), some (.int mask)] ∧ H' = H2 ∧ 0 ≤ mask ∧ ((g.n : Int) - mask).toNat = m, ⟨_, _, rfl, rfl, by decide, rfl⟩, ?_⟩
    rintro m σ H' ⟨mask, rfl, rfl, h0, hm⟩
    walk_at "go"
    refine g_if (fun hc => ?_) (fun hc => ?_)
    · refine g_whileT ?_
      walk_at "go"
      exact ⟨_, by omega, 2 * mask + 1, rfl, rfl, by omega, rfl⟩
    · walk_at "go"
      refine m_new (.cons (.int _) (.cons (.int _) .nil)) (by simp) (fun p H4 s4 hp im => ?_)
      exact hQ _ _ _ _ ((k1.trans k2).trans (Keep.of s4)) (D2.same s4) im
def sp_law_register (K : PySem.W.Frag) : Sp := fun vs H Q _ => ∃ (d : Addr) (L : List (Addr × HO)), vs = [.ref d] ∧ DrL H d L ∧ ∀ H' (n : Nat), Keep [d] H H' → DrL H' d L → n < 16 → Q (.int (n : Int)) H'
theorem use_reg {d : Addr} {L : List (Addr × HO)} {H H' : Hp} {m : Int} {k0 : Keep [d] H H'} {Q : VK} {E : XK} (D : DrL H' d L) (hm : 0 < m) (h16 : m ≤ 16) (q : ∀ H2 (n : Nat), Keep [d] H' H2 → DrL H2 d L → n < 16 → Q (.int (n : Int)) H2) : sp_law_next K ([.ref d, .int m] ++ []) H' Q E :=
  use_nx D hm fun H2 v k2 D2 h0 h1 => by
    have e : v = ((v.toNat : Nat) : Int) := by omega
    rw [e]
    exact q H2 v.toNat k2 D2 (by omega)
theorem sc_law_register : FnScope ["draws"] ["draws"] (defScope (topS 19)) := ⟨rfl, rfl, rfl, by decide +kernel, rfl, by decide +kernel, by decide +kernel⟩
theorem ok_law_register (T : Txt fa fn K mg) : Dn P w K mg base CX0 2 "_law_register" ["draws"] (sp_law_register K) := by
  refine mk_dn (d := dOf "_law_register" 19) T 13 13 rfl rfl rfl rfl rfl sc_law_register (by walk_at "len") (fun _ _ _ _ _ _ us hl => match us, hl with | [_], _ => rfl) (fun cdv A outer s H vs Q E hr h => ⟨_, (pss_one (ps_ret (pe_callD (K := K) rfl (ok_law_next T) (hr.mono (by decide)) rfl pass0 (pa_cons (pv 0) (pa_cons (pe_ixU (K := K) rfl (hu_of hr) (pe_lst (pa_cons pe_int (pa_cons pe_int (pa_cons pe_int pa_nil)))) (pe_callD (K := K) rfl (ok_law_next T) (hr.mono (by decide)) rfl pass0 (pa_cons (pv 0) (pa_cons pe_int pa_nil)))) pa_nil))))), ?_⟩)
  obtain ⟨d, L, rfl, D, hQ⟩ := h
  walk_at "go"
  refine use_pk D rfl rfl (by simp) (by simp) (fun H1 v k1 D1 hv => ?_)
  simp only [List.mem_cons, List.not_mem_nil, or_false] at hv
  rcases hv with rfl | rfl | rfl
  · walk_at "go"
    exact use_reg (k0 := k1) D1 (by decide) (by decide) (fun H2 n k2 D2 hn => hQ _ n (k1.trans k2) D2 hn)
  · walk_at "go"
    exact use_reg (k0 := k1) D1 (by decide) (by decide) (fun H2 n k2 D2 hn => hQ _ n (k1.trans k2) D2 hn)
  · walk_at "go"
    exact use_reg (k0 := k1) D1 (by decide) (by decide) (fun H2 n k2 D2 hn => hQ _ n (k1.trans k2) D2 hn)
def sp_law_op (K : PySem.W.Frag) : Sp := fun vs H Q _ => ∃ (d : Addr) (L : List (Addr × HO)), vs = [.ref d] ∧ DrL H d L ∧ ∀ H' v s a b c, Keep [d] H H' → DrL H' d L → Im H' v (Row.op s a b c).d → a < 16 → b < 16 → c < 16 → Q v H'
theorem sc_law_op : FnScope ["draws", "sign"] ["draws"] (defScope (topS 20)) := ⟨rfl, rfl, rfl, by decide +kernel, rfl, by decide +kernel, by decide +kernel⟩
theorem ok_law_op (T : Txt fa fn K mg) : Dn P w K mg base CX0 3 "_law_op" ["draws"] (sp_law_op K) := by
  refine mk_dn (d := dOf "_law_op" 20) T 14 14 rfl rfl rfl rfl rfl sc_law_op (by walk_at "len") (fun _ _ _ _ _ _ us hl => match us, hl with | [_], _ => rfl) (fun cdv A outer s H vs Q E hr h => ⟨_, (pss_cons (ps_set (i := 1) sc_law_op.nd rfl (.inl rfl) (pe_ixU (K := K) rfl (hu_of hr) (pe_lst (pa_cons pe_str (pa_cons pe_str (pa_cons pe_str (pa_cons pe_str (pa_cons pe_str (pa_cons pe_str (pa_cons pe_str (pa_cons pe_str (pa_cons pe_str (pa_cons pe_str (pa_cons pe_str (pa_cons pe_str (pa_cons pe_str pa_nil)))))))))))))) (pe_callD (K := K) rfl (ok_law_next T) (hr.mono (by decide)) rfl pass0 (pa_cons (pv 0) (pa_cons pe_int pa_nil)))))
      (pss_one (ps_ret (pe_tup (pa_cons pe_str (pa_cons (pv 1) (pa_cons (pe_callD (K := K) rfl (ok_law_register T) (hr.mono (by decide)) rfl pass0 (pa_cons (pv 0) pa_nil)) (pa_cons (pe_callD (K := K) rfl (ok_law_register T) (hr.mono (by decide)) rfl pass0 (pa_cons (pv 0) pa_nil)) (pa_cons (pe_callD (K := K) rfl (ok_law_register T) (hr.mono (by decide)) rfl pass0 (pa_cons (pv 0) pa_nil)) pa_nil))))))))), ?_⟩)
  obtain ⟨d, L, rfl, D, hQ⟩ := h
  walk_at "go"
  refine use_pk D rfl rfl (by simp) (by simp) (fun H1 v k1 D1 hv => ?_)
  obtain ⟨s, rfl⟩ : ∃ s : Sg, v = .str s.s := by
    simp only [List.mem_cons, List.not_mem_nil, or_false] at hv
    rcases hv with rfl | rfl | rfl | rfl | rfl | rfl | rfl | rfl | rfl | rfl | rfl | rfl | rfl
    · exact ⟨.add, rfl⟩
    · exact ⟨.sub, rfl⟩
    · exact ⟨.mul, rfl⟩
    · exact ⟨.band, rfl⟩
    · exact ⟨.bor, rfl⟩
    · exact ⟨.bxor, rfl⟩
    · exact ⟨.shl, rfl⟩
    · exact ⟨.shr, rfl⟩
    · exact ⟨.eq, rfl⟩
    · exact ⟨.lt, rfl⟩
    · exact ⟨.le, rfl⟩
    · exact ⟨.div, rfl⟩
    · exact ⟨.mod, rfl⟩
  walk_at "go"
  refine ⟨d, L, rfl, D1, fun H2 a k2 D2 ha => ?_⟩
  walk_at "go"
  refine ⟨d, L, rfl, D2, fun H3 b k3 D3 hb => ?_⟩
  walk_at "go"
  refine ⟨d, L, rfl, D3, fun H4 c k4 D4 hc => ?_⟩
  walk_at "go"
  refine m_new (.cons (.str _) (.cons (.str _) (.cons (.int _) (.cons (.int _) (.cons (.int _) .nil))))) (by simp) (fun p H5 s5 hp im => ?_)
  exact hQ _ _ s a b c ((((k1.trans k2).trans k3).trans k4).trans (Keep.of s5)) (D4.same s5) im ha hb hc
theorem im2i {H : Hp} {v : V} {b m : Int} (h : Im H v (.tuple [.int b, .int m])) : ∃ t, v = .ref t ∧ H t = some (.tup [.int b, .int m]) := by
  obtain ⟨t, y1, y2, rfl, ht, i1, i2⟩ := im2 h
  obtain rfl := i1.int_inv
  obtain rfl := i2.int_inv
  exact ⟨t, rfl, ht⟩
def sp_law_row (K : PySem.W.Frag) : Sp := fun vs H Q _ => ∃ (d : Addr) (L : List (Addr × HO)) (x : V) (rgs : List Rg) (k many : Nat), vs = [.ref d, .int (k : Int), .int (many : Int), x] ∧ DrL H d L ∧ Im H x (rgsD rgs) ∧ RgsOk rgs ∧ k + 1 < many ∧
  ∀ H' v r, Keep [d] H H' → DrL H' d L → Im H' v (Row.d r) → RowOkD many k r → Q v H'
theorem nat_of {i : Int} {m : Nat} (h : 0 ≤ i) (h2 : i < (m : Int)) : ∃ t : Nat, i = (t : Int) ∧ t < m := ⟨i.toNat, by omega, by omega⟩
theorem sc_law_row : FnScope ["draws", "at", "many", "regions", "pick", "base", "mask"] ["draws", "at", "many", "regions"] (defScope (topS 21)) := ⟨rfl, rfl, rfl, by decide +kernel, rfl, by decide +kernel, by decide +kernel⟩
theorem ok_law_row (T : Txt fa fn K mg) : Dn P w K mg base CX0 4 "_law_row" ["draws", "at", "many", "regions"] (sp_law_row K) := by
  refine mk_dn (d := dOf "_law_row" 21) T 15 15 rfl rfl rfl rfl rfl sc_law_row (by walk_at "len") (fun _ _ _ _ _ _ us hl => match us, hl with | [_, _, _, _], _ => rfl) (fun cdv A outer s H vs Q E hr h => ⟨_, (pss_cons (ps_set (i := 4) sc_law_row.nd rfl (.inl rfl) (pe_callD (K := K) rfl (ok_law_next T) (hr.mono (by decide)) rfl pass0 (pa_cons (pv 0) (pa_cons pe_int pa_nil))))
      (pss_cons (ps_if (pt_cmpR o_lt (pv 4) pe_int (nomark _)) (pss_one (ps_ret (pe_tup (pa_cons pe_str (pa_cons (pe_callD (K := K) rfl (ok_law_register T) (hr.mono (by decide)) rfl pass0 (pa_cons (pv 0) pa_nil)) (pa_cons (pe_callD (K := K) rfl (ok_law_word T) (hr.mono (by decide)) rfl pass0 (pa_cons (pv 0) pa_nil)) pa_nil)))))) pss_nil)
      (pss_cons (ps_if (pt_cmpR o_lt (pv 4) pe_int (nomark _)) (pss_one (ps_ret (pe_callD (K := K) rfl (ok_law_op T) (hr.mono (by decide)) rfl pass0 (pa_cons (pv 0) pa_nil)))) pss_nil)
      (pss_cons (ps_if (pt_cmpR (op_eqU (K := K) rfl hr.units) (pv 4) pe_int (nomark _)) (pss_one (ps_ret (pe_tup (pa_cons pe_str (pa_cons (pe_callD (K := K) rfl (ok_law_register T) (hr.mono (by decide)) rfl pass0 (pa_cons (pv 0) pa_nil)) (pa_cons (pe_callD (K := K) rfl (ok_law_register T) (hr.mono (by decide)) rfl pass0 (pa_cons (pv 0) pa_nil)) (pa_cons (pe_callD (K := K) rfl (ok_law_register T) (hr.mono (by decide)) rfl pass0 (pa_cons (pv 0) pa_nil)) (pa_cons (pe_callD (K := K) rfl (ok_law_register T) (hr.mono (by decide)) rfl pass0 (pa_cons (pv 0) pa_nil)) pa_nil)))))))) pss_nil)
      (pss_cons (ps_if (pt_cmpR o_lt (pv 4) pe_int (nomark _)) (pss_cons (ps_asg (pe_callD (K := K) rfl (ok_law_span T) (hr.mono (by decide)) rfl pass0 (pa_cons (pv 0) (pa_cons (pv 3) pa_nil))) (pg_tup rfl (pgs_cons (pg_name (i := 5) sc_law_row.nd rfl (.inl rfl)) (pgs_cons (pg_name (i := 6) sc_law_row.nd rfl (.inl rfl)) pgs_nil))))
      (pss_one (ps_ret (pe_tup (pa_cons pe_str (pa_cons (pe_callD (K := K) rfl (ok_law_register T) (hr.mono (by decide)) rfl pass0 (pa_cons (pv 0) pa_nil)) (pa_cons (pe_callD (K := K) rfl (ok_law_register T) (hr.mono (by decide)) rfl pass0 (pa_cons (pv 0) pa_nil)) (pa_cons (pv 5) (pa_cons (pv 6) pa_nil))))))))) pss_nil)
      (pss_cons (ps_if (pt_cmpR o_lt (pv 4) pe_int (nomark _)) (pss_cons (ps_asg (pe_callD (K := K) rfl (ok_law_span T) (hr.mono (by decide)) rfl pass0 (pa_cons (pv 0) (pa_cons (pv 3) pa_nil))) (pg_tup rfl (pgs_cons (pg_name (i := 5) sc_law_row.nd rfl (.inl rfl)) (pgs_cons (pg_name (i := 6) sc_law_row.nd rfl (.inl rfl)) pgs_nil))))
      (pss_one (ps_ret (pe_tup (pa_cons pe_str (pa_cons (pe_callD (K := K) rfl (ok_law_register T) (hr.mono (by decide)) rfl pass0 (pa_cons (pv 0) pa_nil)) (pa_cons (pv 5) (pa_cons (pv 6) (pa_cons (pe_callD (K := K) rfl (ok_law_register T) (hr.mono (by decide)) rfl pass0 (pa_cons (pv 0) pa_nil)) pa_nil))))))))) pss_nil)
      (pss_cons (ps_if (pt_cmpR (op_eqU (K := K) rfl hr.units) (pv 4) pe_int (nomark _)) (pss_one (ps_ret (pe_tup (pa_cons pe_str (pa_cons (pe_callD (K := K) rfl (ok_law_register T) (hr.mono (by decide)) rfl pass0 (pa_cons (pv 0) pa_nil)) pa_nil))))) pss_nil)
      (pss_cons (ps_if (pt_cmpR (op_eqU (K := K) rfl hr.units) (pv 4) pe_int (nomark _)) (pss_one (ps_ret (pe_tup (pa_cons pe_str (pa_cons (pe_callB (c_min2 rfl) rfl (T.free 38 rfl) (by decide +kernel) (pa_cons (pe_op op_sub (pv 2) pe_int) (pa_cons (pe_op (op_addU (K := K) rfl) (pe_op (op_addU (K := K) rfl) (pv 1) pe_int) (pe_callD (K := K) rfl (ok_law_next T) (hr.mono (by decide)) rfl pass0 (pa_cons (pv 0) (pa_cons pe_int pa_nil)))) pa_nil))) pa_nil))))) pss_nil)
      (pss_cons (ps_if (PW.pt (pw_and (pt_cmpR (op_eqU (K := K) rfl hr.units) (pv 4) pe_int (nomark _)) (pw_and1 (pt_cmpR (op_eqU (K := K) rfl hr.units) (pe_callD (K := K) rfl (ok_law_next T) (hr.mono (by decide)) rfl pass0 (pa_cons (pv 0) (pa_cons pe_int pa_nil))) pe_int (nomark _))))) (pss_one (ps_ret (pe_tup (pa_cons pe_str (pa_cons (pe_callD (K := K) rfl (ok_law_register T) (hr.mono (by decide)) rfl pass0 (pa_cons (pv 0) pa_nil)) pa_nil))))) pss_nil)
      (pss_cons (ps_if (pt_cmpR (op_eqU (K := K) rfl hr.units) (pv 4) pe_int (nomark _)) (pss_one (ps_ret (pe_tup (pa_cons pe_str (pa_cons (pe_callD (K := K) rfl (ok_law_register T) (hr.mono (by decide)) rfl pass0 (pa_cons (pv 0) pa_nil)) (pa_cons (pe_callD (K := K) rfl (ok_law_next T) (hr.mono (by decide)) rfl pass0 (pa_cons (pv 0) (pa_cons (pv 2) pa_nil))) pa_nil)))))) pss_nil)
      (pss_one (ps_ret (pe_tup (pa_cons pe_str (pa_cons (pe_callD (K := K) rfl (ok_law_register T) (hr.mono (by decide)) rfl pass0 (pa_cons (pv 0) pa_nil)) (pa_cons (pe_callB (c_min2 rfl) rfl (T.free 38 rfl) (by decide +kernel) (pa_cons (pe_op op_sub (pv 2) pe_int) (pa_cons (pe_op (op_addU (K := K) rfl) (pe_op (op_addU (K := K) rfl) (pv 1) pe_int) (pe_callD (K := K) rfl (ok_law_next T) (hr.mono (by decide)) rfl pass0 (pa_cons (pv 0) (pa_cons pe_int pa_nil)))) pa_nil))) pa_nil)))))))))))))))), ?_⟩)
  obtain ⟨d, L, x, rgs, k, many, rfl, D, ix, ro, hk, hQ⟩ := h
  walk_at "go"
  refine use_nx D (by decide) (fun H1 v1 k1 D1 h10 h11 => ?_)
  have ix1 := D.im k1 ix
  have to : ∀ v : Int, 0 ≤ v → ∃ t : Nat, (if (k : Int) + 1 + v < (many : Int) - 1 then (k : Int) + 1 + v else (many : Int) - 1) = (t : Int) ∧ t < many := fun v hv => nat_of (by split <;> omega) (by split <;> omega)
  walk_at "go"
  refine g_if (fun c => ?_) (fun c => ?_)
  · walk_at "go"
    refine ⟨d, L, rfl, D1, fun H2 a k2 D2 ha => ?_⟩
    walk_at "go"
    refine ⟨d, L, rfl, D2, fun H3 w k3 D3 hw => ?_⟩
    walk_at "go"
    refine m_new (.cons (.str _) (.cons (.int _) (.cons (.int _) .nil))) (by simp) (fun p H5 s5 hp im => ?_)
    exact hQ _ _ (.const a w) (((k1.trans k2).trans k3).trans (Keep.of s5)) (D3.same s5) im ⟨ha, hw, hk⟩
  walk_at "go"
  refine g_if (fun c => ?_) (fun c => ?_)
  · walk_at "go"
    refine ⟨d, L, rfl, D1, fun H2 v s a b e k2 D2 im ha hb he => ?_⟩
    exact hQ _ _ (.op s a b e) (k1.trans k2) D2 im ⟨ha, hb, he, hk⟩
  walk_at "go"
  refine g_if (fun c => ?_) (fun c => ?_)
  · walk_at "go"
    refine ⟨d, L, rfl, D1, fun H2 a k2 D2 ha => ?_⟩
    walk_at "go"
    refine ⟨d, L, rfl, D2, fun H3 b k3 D3 hb => ?_⟩
    walk_at "go"
    refine ⟨d, L, rfl, D3, fun H4 e k4 D4 he => ?_⟩
    walk_at "go"
    refine ⟨d, L, rfl, D4, fun H5 f k5 D5 hf => ?_⟩
    walk_at "go"
    refine m_new (.cons (.str _) (.cons (.int _) (.cons (.int _) (.cons (.int _) (.cons (.int _) .nil))))) (by simp) (fun p H6 s6 hp im => ?_)
    exact hQ _ _ (.select a b e f) (((((k1.trans k2).trans k3).trans k4).trans k5).trans (Keep.of s6)) (D5.same s6) im ⟨ha, hb, he, hf, hk⟩
  walk_at "go"
  refine g_if (fun c => ?_) (fun c => ?_)
  · walk_at "go"
    refine ⟨d, L, x, rgs, rfl, D1, ix1, ro, fun H2 v b m k2 D2 im2 => ?_⟩
    obtain ⟨t, rfl, ht⟩ := im2i im2
    walk_at "go"
    refine ⟨d, L, rfl, D2, fun H3 a k3 D3 ha => ?_⟩
    walk_at "go"
    refine ⟨d, L, rfl, D3, fun H4 e k4 D4 he => ?_⟩
    walk_at "go"
    refine m_new (.cons (.str _) (.cons (.int _) (.cons (.int _) (.cons (.int _) (.cons (.int _) .nil))))) (by simp) (fun p H6 s6 hp im => ?_)
    exact hQ _ _ (.load a e b m) ((((k1.trans k2).trans k3).trans k4).trans (Keep.of s6)) (D4.same s6) im ⟨ha, he, hk⟩
  walk_at "go"
  refine g_if (fun c => ?_) (fun c => ?_)
  · walk_at "go"
    refine ⟨d, L, x, rgs, rfl, D1, ix1, ro, fun H2 v b m k2 D2 im2 => ?_⟩
    obtain ⟨t, rfl, ht⟩ := im2i im2
    walk_at "go"
    refine ⟨d, L, rfl, D2, fun H3 a k3 D3 ha => ?_⟩
    walk_at "go"
    refine ⟨d, L, rfl, D3, fun H4 e k4 D4 he => ?_⟩
    walk_at "go"
    refine m_new (.cons (.str _) (.cons (.int _) (.cons (.int _) (.cons (.int _) (.cons (.int _) .nil))))) (by simp) (fun p H6 s6 hp im => ?_)
    exact hQ _ _ (.store a b m e) ((((k1.trans k2).trans k3).trans k4).trans (Keep.of s6)) (D4.same s6) im ⟨ha, he, hk⟩
  walk_at "go"
  refine g_if (fun c => ?_) (fun c => ?_)
  · walk_at "go"
    refine ⟨d, L, rfl, D1, fun H2 a k2 D2 ha => ?_⟩
    walk_at "go"
    refine m_new (.cons (.str _) (.cons (.int _) .nil)) (by simp) (fun p H6 s6 hp im => ?_)
    exact hQ _ _ (.out a) ((k1.trans k2).trans (Keep.of s6)) (D2.same s6) im ⟨ha, hk⟩
  walk_at "go"
  refine g_if (fun c => ?_) (fun c => ?_)
  · walk_at "go"
    refine use_nx D1 (by decide) (fun H2 v2 k2 D2 h20 h21 => ?_)
    obtain ⟨t, et, ht⟩ := to v2 h20
    walk_at "go"
    rw [et]
    refine m_new (.cons (.str _) (.cons (.int _) .nil)) (by simp) (fun p H6 s6 hp im => ?_)
    exact hQ _ _ (.jump t) ((k1.trans k2).trans (Keep.of s6)) (D2.same s6) im ht
  have tail : ∀ (H2 : Hp), Keep [d] H1 H2 → DrL H2 d L → v1 = v1 → True := fun _ _ _ _ => trivial
  walk_at "go"
  refine g_if (fun c16 => ?_) (fun c16 => ?_)
  · walk_at "go"
    refine use_nx D1 (by decide) (fun H2 v2 k2 D2 h20 h21 => ?_)
    walk_at "go"
    refine g_if (fun c0 => ?_) (fun c0 => ?_)
    · walk_at "go"
      refine ⟨d, L, rfl, D2, fun H3 a k3 D3 ha => ?_⟩
      walk_at "go"
      refine m_new (.cons (.str _) (.cons (.int _) .nil)) (by simp) (fun p H6 s6 hp im => ?_)
      exact hQ _ _ (.stop a) (((k1.trans k2).trans k3).trans (Keep.of s6)) (D3.same s6) im ha
    · walk_at "go"
      refine g_if (fun c17 => ?_) (fun c17 => ?_)
      · omega
      · walk_at "go"
        refine ⟨d, L, rfl, D2, fun H3 a k3 D3 ha => ?_⟩
        walk_at "go"
        refine use_nx D3 (by decide) (fun H4 v4 k4 D4 h40 h41 => ?_)
        obtain ⟨t, et, ht⟩ := to v4 h40
        walk_at "go"
        rw [et]
        refine m_new (.cons (.str _) (.cons (.int _) (.cons (.int _) .nil))) (by simp) (fun p H6 s6 hp im => ?_)
        exact hQ _ _ (.branch a t) ((((k1.trans k2).trans k3).trans k4).trans (Keep.of s6)) (D4.same s6) im ⟨ha, ht, hk⟩
  · walk_at "go"
    refine g_if (fun c17 => ?_) (fun c17 => ?_)
    · walk_at "go"
      refine ⟨d, L, rfl, D1, fun H3 a k3 D3 ha => ?_⟩
      walk_at "go"
      refine use_nx D3 (by omega) (fun H4 v4 k4 D4 h40 h41 => ?_)
      obtain ⟨t, rfl, ht⟩ := nat_of h40 h41
      walk_at "go"
      refine m_new (.cons (.str _) (.cons (.int _) (.cons (.int _) .nil))) (by simp) (fun p H6 s6 hp im => ?_)
      exact hQ _ _ (.branch a t) (((k1.trans k3).trans k4).trans (Keep.of s6)) (D4.same s6) im ⟨ha, ht, hk⟩
    · walk_at "go"
      refine ⟨d, L, rfl, D1, fun H3 a k3 D3 ha => ?_⟩
      walk_at "go"
      refine use_nx D3 (by decide) (fun H4 v4 k4 D4 h40 h41 => ?_)
      obtain ⟨t, et, ht⟩ := to v4 h40
      walk_at "go"
      rw [et]
      refine m_new (.cons (.str _) (.cons (.int _) (.cons (.int _) .nil))) (by simp) (fun p H6 s6 hp im => ?_)
      exact hQ _ _ (.branch a t) (((k1.trans k3).trans k4).trans (Keep.of s6)) (D4.same s6) im ⟨ha, ht, hk⟩


/-! ### code, contents, the law -/
theorem rows_of {many : Nat} : ∀ (es : List PyData) (off : Nat), (∀ i e, es[i]? = some e → ∃ r, e = Row.d r ∧ RowOkD many (off + i) r) → ∃ rows : List Row, es = rows.map Row.d ∧ ∀ (k : Nat) (r : Row), rows[k]? = some r → RowOkD many (off + k) r
  | [], off, h => ⟨[], rfl, fun k r e => by simp at e⟩
  | e :: es, off, h => by
    obtain ⟨r, rfl, hr⟩ := h 0 e rfl
    obtain ⟨rows, rfl, hrows⟩ := rows_of es (off + 1) (fun i e he => by
      obtain ⟨r, h1, h2⟩ := h (i + 1) e he
      exact ⟨r, h1, by rw [show off + 1 + i = off + (i + 1) by omega]; exact h2⟩)
    refine ⟨r :: rows, rfl, fun k r' hk => ?_⟩
    cases k with
    | zero =>
      cases hk
      exact hr
    | succ k =>
      have := hrows k r' hk
      rw [show off + 1 + k = off + (k + 1) by omega] at this
      exact this
theorem conts_of : ∀ (es : List PyData) (rgs : List Rg), es.length = rgs.length → (∀ (i : Nat) (e : PyData), es[i]? = some e → ∃ c, e = cD c ∧ (∀ g : Rg, rgs[i]? = some g → c.length = g.n) ∧ ∀ x ∈ c, W32 x) →
    ∃ cs : List (List Int), es = cs.map cD ∧ cs.length = rgs.length ∧ (∀ (i : Nat) (g : Rg) (c : List Int), rgs[i]? = some g → cs[i]? = some c → c.length = g.n) ∧ ∀ c ∈ cs, ∀ x ∈ c, W32 x
  | [], rgs, hl, h => ⟨[], rfl, hl, fun i g c _ e => by simp at e, fun c hc => by cases hc⟩
  | e :: es, [], hl, h => by cases hl
  | e :: es, g :: rgs, hl, h => by
    obtain ⟨c, rfl, h1, h2⟩ := h 0 e rfl
    obtain ⟨cs, rfl, i1, i2, i3⟩ := conts_of es rgs (Nat.succ.inj hl) (fun i e he => h (i + 1) e he)
    refine ⟨c :: cs, rfl, by rw [List.length_cons, List.length_cons, i1], fun i g' c' hg hc => ?_, fun c' hc' => ?_⟩
    · cases i with
      | zero =>
        cases hg
        cases hc
        exact h1 g rfl
      | succ i => exact i2 i g' c' hg hc
    · rcases List.mem_cons.mp hc' with rfl | hc'
      · exact h2
      · exact i3 c' hc'
theorem ints_of : ∀ (es : List PyData), (∀ (i : Nat) (e : PyData), es[i]? = some e → ∃ x : Int, e = PyData.int x ∧ W32 x) → ∃ c : List Int, es = c.map PyData.int ∧ c.length = es.length ∧ ∀ x ∈ c, W32 x
  | [], h => ⟨[], rfl, rfl, fun x hx => by cases hx⟩
  | e :: es, h => by
    obtain ⟨x, rfl, hx⟩ := h 0 e rfl
    obtain ⟨c, rfl, i1, i2⟩ := ints_of es (fun i e he => h (i + 1) e he)
    refine ⟨x :: c, rfl, by rw [List.length_cons, List.length_cons, i1], fun y hy => ?_⟩
    rcases List.mem_cons.mp hy with rfl | hy
    · exact hx
    · exact i2 y hy
def sp_law_code (K : PySem.W.Frag) : Sp := fun vs H Q _ => ∃ (d : Addr) (L : List (Addr × HO)), vs = [.ref d] ∧ DrL H d L ∧ ∀ H' v rgs rows, Keep [d] H H' → DrL H' d L → Im H' v (codeD rgs rows) → RgsOk rgs → CodeOk rows → Q v H'
theorem sc_law_code : FnScope ["draws", "regions", "many", "rows", "k"] ["draws"] (defScope (topS 22)) := ⟨rfl, rfl, rfl, by decide +kernel, rfl, by decide +kernel, by decide +kernel⟩
theorem ok_law_code (T : Txt fa fn K mg) : Dn P w K mg base CX0 5 "_law_code" ["draws"] (sp_law_code K) := by
  refine mk_dn (d := dOf "_law_code" 22) T 16 16 rfl rfl rfl rfl rfl sc_law_code (by walk_at "len") (fun _ _ _ _ _ _ us hl => match us, hl with | [_], _ => rfl) (fun cdv A outer s H vs Q E hr h => ⟨_, (pss_cons (ps_set (i := 1) sc_law_code.nd rfl (.inr rfl) (pe_callD (K := K) rfl (ok_law_regions T) (hr.mono (by decide)) rfl pass0 (pa_cons (pv 0) pa_nil)))
      (pss_cons (ps_set (i := 2) sc_law_code.nd rfl (.inr rfl) (pe_op (op_addU (K := K) rfl) (pe_op (op_addU (K := K) rfl) pe_int (pe_ixU (K := K) rfl (hu_of hr) (pe_lst (pa_cons pe_int (pa_cons pe_int (pa_cons pe_int pa_nil)))) (pe_callD (K := K) rfl (ok_law_next T) (hr.mono (by decide)) rfl pass0 (pa_cons (pv 0) (pa_cons pe_int pa_nil))))) (pe_callD (K := K) rfl (ok_law_next T) (hr.mono (by decide)) rfl pass0 (pa_cons (pv 0) (pa_cons pe_int pa_nil)))))
      (pss_cons (ps_setLc (i := 3) rfl sc_law_code.nd rfl rfl (sw_true rfl rfl rfl (by decide +kernel)) (pi_r1 rfl (T.free 39 rfl) (pa_cons (pe_op op_sub (pv 2) pe_int) pa_nil)) (blkOk_by (own := [("k", 4)]) (N := ["draws", "regions", "many", "rows", "k"]) (sc := defScope (topS 22)) (by decide +kernel)) (fun _ _ _ _ _ => (pg_name (i := 4) sc_law_code.nd rfl (.inl rfl))) (fun _ _ _ _ _ => pts_nil) (fun _ _ _ _ _ => (pe_callD (K := K) rfl (ok_law_row T) (hr.mono (by decide)) rfl pass0 (pa_cons (pv 0) (pa_cons (pv 4) (pa_cons (pv 2) (pa_cons (pv 1) pa_nil)))))))
      (pss_cons (ps_if (pt_cmpR (op_eqU (K := K) rfl hr.units) (pe_callD (K := K) rfl (ok_law_next T) (hr.mono (by decide)) rfl pass0 (pa_cons (pv 0) (pa_cons pe_int pa_nil))) pe_int (nomark _)) (pss_one (ps_expr (pe_bm PySem.F.plainAttrs_list PySem.F.slot_list_append PySem.F.type_list_append mt_append (pv 3) (pa_cons (pe_tup (pa_cons pe_str (pa_cons (pe_callD (K := K) rfl (ok_law_next T) (hr.mono (by decide)) rfl pass0 (pa_cons (pv 0) (pa_cons (pv 2) pa_nil))) pa_nil))) pa_nil)))) (pss_one (ps_expr (pe_bm PySem.F.plainAttrs_list PySem.F.slot_list_append PySem.F.type_list_append mt_append (pv 3) (pa_cons (pe_tup (pa_cons pe_str (pa_cons (pe_callD (K := K) rfl (ok_law_register T) (hr.mono (by decide)) rfl pass0 (pa_cons (pv 0) pa_nil)) pa_nil))) pa_nil)))))
      (pss_one (ps_ret (pe_tup (pa_cons (pv 1) (pa_cons (pe_callTy (c_tuple (K := K) rfl) rfl (T.free 40 rfl) (by decide +kernel) (pa_cons (pv 3) pa_nil)) pa_nil))))))))), ?_⟩)
  obtain ⟨d, L, rfl, D, hQ⟩ := h
  walk_at "go"
  refine ⟨d, L, rfl, D, fun H1 x rgs k1 D1 ix ro => ?_⟩
  walk_at "go"
  refine use_pk D1 rfl rfl (by simp) (by simp) (fun H2 v k2 D2 hv => ?_)
  obtain ⟨m0, rfl, hm0⟩ : ∃ n : Nat, v = .int (n : Int) ∧ n ≤ 30 := by
    simp only [List.mem_cons, List.not_mem_nil, or_false] at hv
    rcases hv with rfl | rfl | rfl
    · exact ⟨2, rfl, by decide⟩
    · exact ⟨8, rfl, by decide⟩
    · exact ⟨30, rfl, by decide⟩
  walk_at "go"
  refine use_nx D2 (by decide) (fun H3 v3 k3 D3 h30 h31 => ?_)
  have ix3 := D2.im k3 (D1.im k2 ix)
  obtain ⟨many, em, hm1, hm2⟩ : ∃ many : Nat, (1 : Int) + (m0 : Int) + v3 = (many : Int) ∧ 1 ≤ many ∧ many ≤ 50 := ⟨(1 + (m0 : Int) + v3).toNat, by omega, by omega, by omega⟩
  walk_at "go"
  rw [em]
  walk_at "go"
  have e1 : (((many : Nat) : Int) - 1).toNat = many - 1 := by omega
  rw [e1]
  refine l_drawR (P := fun i e => ∃ r, e = Row.d r ∧ RowOkD many i r) (L := L) D3 (by omega) (fun _ => rfl) (fun i H' R L' hi kp D' hR => ?_) (fun Dl H4 us es hDl k4 D4 ims hl hp => ?_)
  · have ix' := D3.im kp ix3
    walk_at "go"
    have e0 : (0 : Int) + (i : Int) = (i : Int) := by omega
    rw [e0]
    refine ⟨d, L', x, rgs, i, many, rfl, D', ix', ro, by omega, fun H5 v5 r k5 D5 i5 r5 => ?_⟩
    exact hR H5 v5 _ k5 D5 i5 ⟨r, rfl, r5⟩
  · obtain ⟨rows, rfl, hrows⟩ := rows_of es 0 (fun i e he => by
      obtain ⟨r, h1, h2⟩ := hp i e he
      exact ⟨r, h1, by rw [Nat.zero_add]; exact h2⟩)
    rw [List.length_map] at hl
    have ix4 := D3.im k4 ix3
    have hus : us.length = many - 1 := by rw [ims.length, List.length_map, hl]
    have kk := ((k1.trans k2).trans k3).trans k4
    have hDl0 : H Dl = none := ((k1.trans k2).trans k3).back hDl (by simpa using D3.ne hDl)
    have at4 := D4.get L.length get_last
    have fin : ∀ (H5 H6 : Hp) (a : Addr) (r : Row), Keep [d] H4 H5 → DrL H5 d (L ++ [(Dl, .lst us)]) → Same H5 H6 → Im H6 (.ref a) r.d → RowOkD many (many - 1) r →
        ∀ (Q' : VK), (∀ (H7 : Hp), Keep [d] H H7 → DrL H7 d (L ++ [(Dl, .lst (us ++ [.ref a]))]) → Im H7 x (rgsD rgs) → Ims H7 (us ++ [.ref a]) ((rows ++ [r]).map Row.d) → CodeOk (rows ++ [r]) → Q' .non H7) → rAppend (.ref Dl) [.ref a] H6 Q' := by
      intro H5 H6 a r k5 D5 s6 im hr Q' hq
      have D6 := D5.same s6
      refine gD_append D6 L.length get_last (by omega) (fun D7 => ?_)
      rw [set_last] at D7
      have nt : NoTup H6 [Dl] := NoTup.one (D6.get L.length get_last) (fun _ e => nomatch e)
      have kD : Keep [Dl] H6 (upd H6 Dl (.lst (us ++ [.ref a]))) := Keep.set (by simp)
      refine hq _ ?_ D7 ?_ ?_ ?_
      · exact ((kk.trans k5).trans (Keep.of s6)).mut hDl0
      · exact ((D4.im k5 ix4).same s6).keep kD nt
      · rw [List.map_append]
        exact ims_snoc (H2 := H6) ((D4.ims k5 ims).same s6) im (D6.get L.length get_last)
      · refine ⟨by simp, by simp; omega, fun k r' hk => ?_⟩
        have el : (rows ++ [r]).length = many := by rw [List.length_append, hl]; simp; omega
        rw [el]
        by_cases hkl : k < rows.length
        · rw [List.getElem?_append_left hkl] at hk
          have := hrows k r' hk
          rw [Nat.zero_add] at this
          exact this
        · have hk2 := (List.getElem?_eq_some_iff.mp hk).1
          rw [el] at hk2
          have ek : k = many - 1 := by omega
          subst ek
          rw [List.getElem?_append_right (by omega), hl, Nat.sub_self] at hk
          cases hk
          exact hr
    walk_at "go"
    refine use_nx D4 (by decide) (fun H5 v5 k5 D5 h50 h51 => ?_)
    have at5 : H5 Dl = some (.lst us) := D5.get L.length get_last
    walk_at "go"
    refine g_if (fun c => ?_) (fun c => ?_)
    · walk_at "go"
      refine use_nx D5 (by omega) (fun H6 v6 k6 D6 h60 h61 => ?_)
      obtain ⟨t, rfl, ht⟩ := nat_of h60 h61
      walk_at "go"
      refine m_new (.cons (.str _) (.cons (.int _) .nil)) (by simp) (fun p H7 s7 hp im => ?_)
      walk_at "go"
      refine fin H6 H7 p (.jump t) (k5.trans k6) D6 s7 im ht _ (fun H8 k8 D8 ix8 ims8 co => ?_)
      walk_at "go"
      refine m_tupleL (SqL.of (D8.get L.length get_last)) ims8 (fun q H9 s9 hq im9 => ?_)
      refine m_new (.cons (ix8.same s9) (.cons im9 .nil)) (by simp) (fun z H10 s10 hz im10 => ?_)
      exact hQ _ _ rgs _ ((k8.trans (Keep.of s9)).trans (Keep.of s10)) (((D8.sub sub_last).same s9).same s10) im10 ro co
    · walk_at "go"
      refine ⟨d, _, rfl, D5, fun H6 a k6 D6 ha => ?_⟩
      walk_at "go"
      refine m_new (.cons (.str _) (.cons (.int _) .nil)) (by simp) (fun p H7 s7 hp im => ?_)
      walk_at "go"
      refine fin H6 H7 p (.stop a) (k5.trans k6) D6 s7 im ha _ (fun H8 k8 D8 ix8 ims8 co => ?_)
      walk_at "go"
      refine m_tupleL (SqL.of (D8.get L.length get_last)) ims8 (fun q H9 s9 hq im9 => ?_)
      refine m_new (.cons (ix8.same s9) (.cons im9 .nil)) (by simp) (fun z H10 s10 hz im10 => ?_)
      exact hQ _ _ rgs _ ((k8.trans (Keep.of s9)).trans (Keep.of s10)) (((D8.sub sub_last).same s9).same s10) im10 ro co
def sp_law_contents (K : PySem.W.Frag) : Sp := fun vs H Q _ => ∃ (d : Addr) (L : List (Addr × HO)) (code : V) (rgs : List Rg) (rows : List Row), vs = [.ref d, code] ∧ DrL H d L ∧ Im H code (codeD rgs rows) ∧ RgsOk rgs ∧ ∀ H' v cs, Keep [d] H H' → DrL H' d L → Im H' v (contD cs) → MemOk rgs cs → Q v H'
theorem sc_law_contents : FnScope ["draws", "code", "base", "label", "size", "k"] ["draws", "code"] (defScope (topS 23)) := ⟨rfl, rfl, rfl, by decide +kernel, rfl, by decide +kernel, by decide +kernel⟩
theorem ok_law_contents (T : Txt fa fn K mg) : Dn P w K mg base CX0 3 "_law_contents" ["draws", "code"] (sp_law_contents K) := by
  refine mk_dn (d := dOf "_law_contents" 23) T 17 17 rfl rfl rfl rfl rfl sc_law_contents (by walk_at "len") (fun _ _ _ _ _ _ us hl => match us, hl with | [_, _], _ => rfl) (fun cdv A outer s H vs Q E hr h => ⟨_, (pss_one (ps_ret (pe_callTy (c_tuple (K := K) rfl) rfl (T.free 40 rfl) (by decide +kernel) (pa_cons (pe_lc rfl sc_law_contents.nd (pi_seq (K := K) rfl (pe_ixU (K := K) rfl (hu_of hr) (pv 1) pe_int)) (blkOk_by (own := [("base", 2), ("size", 4), ("label", 3)]) (N := ["draws", "code", "base", "label", "size", "k"]) (sc := defScope (topS 23)) (by decide +kernel)) (fun _ _ _ _ _ => (pg_tupU (K := K) (n := 3) rfl rfl (pgs_cons (pg_name (i := 2) sc_law_contents.nd rfl (.inl rfl) (.inr rfl)) (pgs_cons (pg_name (i := 4) sc_law_contents.nd rfl (.inl rfl) (.inr rfl)) (pgs_cons (pg_name (i := 3) sc_law_contents.nd rfl (.inl rfl) (.inr rfl)) pgs_nil))))) (fun _ _ _ _ _ => pts_nil) (fun _ _ _ _ _ => (pe_callTy (c_tuple (K := K) rfl) rfl (T.free 40 rfl) (by decide +kernel) (pa_cons (pe_lc rfl sc_law_contents.nd (pi_r1 rfl (T.free 39 rfl) (pa_cons (pv 4) pa_nil)) (blkOk_by (own := [("k", 5)]) (by kernel_rfl)) (fun _ _ _ _ _ => (pg_name (i := 5) sc_law_contents.nd rfl (.inl rfl))) (fun _ _ _ _ _ => pts_nil) (fun _ _ _ _ _ => (pe_callD (K := K) rfl (ok_law_word T) (hr.mono (by decide)) rfl pass0 (pa_cons (pv 0) pa_nil)))) pa_nil)))) pa_nil)))), ?_⟩)
  obtain ⟨d, L, code, rgs, rows, rfl, D, ic, ro, hQ⟩ := h
  walk_at "go"
  refine m_ix ic (n := 0) rfl rfl (fun x ix => ?_)
  walk_at "go"
  refine m_seq ix (fun a xs e ha his => ?_)
  subst e
  have ru := ro.u
  refine l_drawT (P := fun i e => ∃ c, e = cD c ∧ (∀ g : Rg, rgs[i]? = some g → c.length = g.n) ∧ ∀ x ∈ c, W32 x) (L := L) D ha his (by rw [List.length_map]; omega) (fun i e0 y H1 R L' hi k1 iy D1 hR => ?_) ?_ (fun Dl H1 us es hDl k1 D1 ims hl hp => ?_)
  · rw [List.getElem?_map] at hi
    obtain ⟨g, hg, rfl⟩ := Option.map_eq_some_iff.mp hi
    have zz := ro.n g (List.mem_of_getElem? hg)
    obtain ⟨t, rfl, ht⟩ := im3v iy
    walk_at "go"
    rw [Int.toNat_natCast]
    refine l_drawR (P := fun i e => ∃ x, e = .int x ∧ W32 x) (L := L') D1 (by omega) (fun _ => rfl) (fun j H2 R2 L2 hj k2 D2 hR2 => ?_) (fun Dm H2 us2 es2 hDm k2 D2 ims2 hl2 hp2 => ?_)
    · walk_at "go"
      refine ⟨d, L2, rfl, D2, fun H3 x k3 D3 wx => ?_⟩
      exact hR2 H3 _ _ k3 D3 (.int x) ⟨x, rfl, wx⟩
    · obtain ⟨c, rfl, lc, wc⟩ := ints_of es2 hp2
      walk_at "go"
      refine m_tupleL (SqL.of (D2.get L'.length get_last)) ims2 (fun q H3 s3 hq im3 => ?_)
      refine hR _ _ (cD c) (k2.trans (Keep.of s3)) ((D2.sub sub_last).same s3) im3 ⟨c, rfl, fun g' hg' => ?_, wc⟩
      rw [hg] at hg'
      cases hg'
      rw [lc, hl2]
  · intro y σ1 H1 R R' hh h
    obtain ⟨a, xs, e, h1, h2, h3⟩ := h
    refine ⟨a, xs, e, h1, h2, ?_⟩
    obtain ⟨v1, r1, e1, h3⟩ := h3
    refine ⟨v1, r1, e1, ?_⟩
    obtain ⟨v2, r2, e2, h3⟩ := h3
    refine ⟨v2, r2, e2, ?_⟩
    obtain ⟨v3, r3, e3, h3⟩ := h3
    refine ⟨v3, r3, e3, h3.1, hh _ _ h3.2⟩
  · rw [List.length_map] at hl
    obtain ⟨cs, rfl, i1, i2, i3⟩ := conts_of es rgs hl hp
    walk_at "go"
    refine m_tupleL (SqL.of (D1.get L.length get_last)) ims (fun q H2 s2 hq im2 => ?_)
    exact hQ _ _ cs (k1.trans (Keep.of s2)) ((D1.sub sub_last).same s2) im2 ⟨i1, ro.u, i2, ro.n, i3, ro.s⟩
theorem lay_held {rgs : List Rg} {ms : MS} : Lay 2 (.tuple (heldD rgs ms)) := Lay.tup fun d hd => by
  obtain ⟨g, _, rfl⟩ := List.mem_map.mp hd
  refine Lay.tup fun e he => ?_
  obtain ⟨j, _, rfl⟩ := List.mem_map.mp he
  exact Lay.int
theorem lay_res {rgs : List Rg} {p : Option Int × MS} : Lay 3 (.tuple (resD rgs p)) := Lay.tup fun d hd => by
  unfold resD at hd
  simp only [List.mem_cons, List.not_mem_nil, or_false] at hd
  rcases hd with rfl | rfl | rfl
  · refine (Lay.tup (k := 1) fun e he => ?_).mono (by decide)
    obtain ⟨x, _, rfl⟩ := List.mem_map.mp he
    exact Lay.int
  · cases p.1
    · exact Lay.non
    · exact Lay.int
  · exact lay_held
def sp_law (K : PySem.W.Frag) : Sp := fun vs H Q _ => ∃ (a : Addr) (ns : List Int), vs = [.ref a] ∧ SqL K H a (ns.map V.int) ∧ ns.length ≤ 63 ∧ ∀ H', Q (.bl true) H'
theorem sc_law : FnScope ["script", "draws", "code", "contents", "steps", "told", "due"] ["script"] (defScope (topS 30)) := ⟨rfl, rfl, rfl, by decide +kernel, rfl, by decide +kernel, by decide +kernel⟩
theorem ok_law (T : Txt fa fn K mg) : Dn P w K mg base CX0 6 "law" ["script"] (sp_law K) := by
  refine mk_dn (d := dOf "law" 30) T 24 24 rfl rfl rfl rfl rfl sc_law (by walk_at "len") (fun _ _ _ _ _ _ us hl => match us, hl with | [_], _ => rfl) (fun cdv A outer s H vs Q E hr h => ⟨_, (pss_cons (ps_set (i := 1) sc_law.nd rfl (.inl rfl) (pe_callD (K := K) rfl (ok_law_reader T) (hr.mono (by decide)) rfl pass0 (pa_cons (pv 0) pa_nil)))
      (pss_cons (ps_set (i := 2) sc_law.nd rfl (.inl rfl) (pe_callD (K := K) rfl (ok_law_code T) (hr.mono (by decide)) rfl pass0 (pa_cons (pv 1) pa_nil)))
      (pss_cons (ps_set (i := 3) sc_law.nd rfl (.inl rfl) (pe_callD (K := K) rfl (ok_law_contents T) (hr.mono (by decide)) rfl pass0 (pa_cons (pv 1) (pa_cons (pv 2) pa_nil))))
      (pss_cons (ps_set (i := 4) sc_law.nd rfl (.inl rfl) (pe_ixU (K := K) rfl (hu_of hr) (pe_lst (pa_cons (pe_callD (K := K) rfl (ok_law_next T) (hr.mono (by decide)) rfl pass0 (pa_cons (pv 1) (pa_cons pe_int pa_nil))) (pa_cons pe_int (pa_cons pe_int (pa_cons pe_int (pa_cons pe_int (pa_cons pe_int pa_nil))))))) (pe_callD (K := K) rfl (ok_law_next T) (hr.mono (by decide)) rfl pass0 (pa_cons (pv 1) (pa_cons pe_int pa_nil)))))
      (pss_cons (ps_set (i := 5) sc_law.nd rfl (.inl rfl) (pe_callD (K := K) rfl (ok_plain_run T) (hr.mono (by decide)) rfl pass0 (pa_cons (pv 2) (pa_cons (pv 3) (pa_cons (pv 4) pa_nil)))))
      (pss_cons (ps_set (i := 6) sc_law.nd rfl (.inl rfl) (pe_callD (K := K) rfl (ok_law_plain T) (hr.mono (by decide)) rfl pass0 (pa_cons (pv 2) (pa_cons (pv 3) (pa_cons (pv 4) pa_nil)))))
      (pss_one (ps_ret (pe_and (pe_callB (c_isi (K := K) rfl) rfl (T.free 36 rfl) (by decide +kernel) (pa_cons (pv 5) (pa_cons (pe_bltn (v := .ty "tuple") rfl (T.free 40 rfl) (by decide +kernel) rfl) pa_nil))) (pe_and (pe_cmpR (op_eqU (K := K) rfl hr.units) (pv 5) (pv 6) (nomark _)) (pe_one (pe_cmpR (op_eqU (K := K) rfl hr.units) (pe_callD (K := K) rfl (ok_plain_run T) (hr.mono (by decide)) rfl pass0 (pa_cons (pv 2) (pa_cons (pv 3) (pa_cons (pv 4) pa_nil)))) (pv 6) (nomark _))))))))))))), ?_⟩)
  obtain ⟨a, ns, rfl, hS, hlen, hQ⟩ := h
  walk_at "go"
  refine use_readerD hS hlen (fun H1 d s1 hd D1 => ?_)
  walk_at "go"
  refine ⟨d, [], rfl, D1, fun H2 code rgs rows k2 D2 ic ro co => ?_⟩
  walk_at "go"
  refine ⟨d, [], code, rgs, rows, rfl, D2, ic, ro, fun H3 cont cs k3 D3 ik mo => ?_⟩
  have ic3 := D2.im k3 ic
  walk_at "go"
  refine use_nx D3 (by decide) (fun H4 v4 k4 D4 h40 h41 => ?_)
  walk_at "go"
  refine use_pk D4 rfl rfl (by simp) (by simp) (fun H5 v k5 D5 hv => ?_)
  obtain ⟨n, rfl, hn⟩ : ∃ n : Nat, v = .int (n : Int) ∧ n ≤ 2500 := by
    simp only [List.mem_cons, List.not_mem_nil, or_false] at hv
    rcases hv with rfl | rfl | rfl | rfl | rfl | rfl
    · exact ⟨v4.toNat, by rw [Int.toNat_of_nonneg h40], by omega⟩
    · exact ⟨150, rfl, by decide⟩
    · exact ⟨150, rfl, by decide⟩
    · exact ⟨150, rfl, by decide⟩
    · exact ⟨150, rfl, by decide⟩
    · exact ⟨2500, rfl, by decide⟩
  have ic5 := D4.im k5 (D3.im k4 ic3)
  have ik5 := D4.im k5 (D3.im k4 ik)
  walk_at "go"
  refine ⟨code, cont, n, rgs, cs, rows, rfl, ic5, ik5, mo, co, hn, fun H6 told s6 it => ?_⟩
  walk_at "go"
  refine ⟨code, cont, n, rgs, cs, rows, rfl, ic5.same s6, ik5.same s6, mo, co, hn, fun H7 due s7 id => ?_⟩
  walk_at "go"
  refine m_isiU (it.same s7) ?_
  rw [show isT (.tuple (resD rgs (runM rows n 0 (ms0 rgs cs)))) = true from rfl]
  walk_at "go"
  have ly := lay_res (rgs := rgs) (p := runM rows n 0 (ms0 rgs cs))
  refine m_eq (it.same s7) id (ly.shaped (by decide)) (ly.shaped (by decide)) ?_
  rw [ly.refl]
  walk_at "go"
  refine ⟨code, cont, n, rgs, cs, rows, rfl, (ic5.same s6).same s7, (ik5.same s6).same s7, mo, co, hn, fun H8 told2 s8 it2 => ?_⟩
  walk_at "go"
  refine m_eq it2 (id.same s8) (ly.shaped (by decide)) (ly.shaped (by decide)) ?_
  rw [ly.refl]
  walk_at "go"
  exact hQ _

/-! ### the head -/
abbrev R : PySem.W.OpenRow := PySem.W.OpenLaw.row PySem.Challenge.rw_sameclock_k27_code_row_by_row
abbrev hk : PySem.W.Hook := He.hookD 5 fa fn
def ob (s : PySem.W.SharedT) : He.AlD := He.obsDG 5 fa fn (HandSHeadRun.getT s)
theorem ob_eq (s : PySem.W.SharedT) : ob s = hk.obs s.abs := He.obsDG_eq (HandSHeadRun.getT_eq s)
theorem run (w : World) : HandSHeadRun.RunEq R (PySem.W.view R.prog [30]) hk ob 3000 ["_wall", "WORD", "shifted", "divided", "apply", "words_of", "State", "plain_row", "plain_run", "_law_draws", "_law_reader", "_law_next", "_law_word", "_law_regions", "_law_span", "_law_register", "_law_op", "_law_row", "_law_code", "_law_contents", "_law_apply", "_law_memory", "_law_held", "_law_do", "_law_next_row", "_law_plain"] w := by
  intro os
  kernel_rfl
theorem facts {P : Program} {w : World} {K : PySem.W.Frag} {h : Heap} {mg : Str → Option Value} {f : Addr} (X : K.In h) (G : h.Ns mainGlobals mg) (hfa : mg ("law" : Str) = some (.ref f)) (c : He.SaysD fa fn K) :
    ∃ fd : FuncData, (∀ (s : Shared) (v : Value), BindsTo s fd ⟨[v], []⟩ [("script", v)]) ∧ ∀ base : Heap, K.In base → base.Ns mainGlobals mg → FnOk P w K mg base CX0 6 f fd ["script"] (sp_law K) :=
  law_facts (d := dOf "law" 30) X G hfa c trivial 24 24 rfl rfl rfl rfl rfl (fun _ _ _ _ _ _ us hl => match us, hl with | [_], _ => rfl) fun _ T => ok_law T
end K27
open PySem PySem.W PySem.Calls PyProof.Rows
theorem PySem.Challenge.cw_sameclock_k27_code_row_by_row_holds : PySem.Challenge.rw_sameclock_k27_code_row_by_row.Holds := by
  w_on; o_law
  refine HandSHeadRun.head_any (r := OpenLaw.row PySem.Challenge.rw_sameclock_k27_code_row_by_row) (q := view (OpenLaw.row PySem.Challenge.rw_sameclock_k27_code_row_by_row).prog [30]) (H := K27.hk) (ob := K27.ob) (M := 3000) (loose := ["_wall", "WORD", "shifted", "divided", "apply", "words_of", "State", "plain_row", "plain_run", "_law_draws", "_law_reader", "_law_next", "_law_word", "_law_regions", "_law_span", "_law_register", "_law_op", "_law_row", "_law_code", "_law_contents", "_law_apply", "_law_memory", "_law_held", "_law_do", "_law_next_row", "_law_plain"]) (d := HandSHeadRun.topDef (OpenLaw.row PySem.Challenge.rw_sameclock_k27_code_row_by_row).prog 30) (kwd := []) K27.ob_eq
    (by kernel_rfl) (fun s => by kernel_rfl) K27.run (by kernel_rfl) (by kernel_rfl) (by kernel_rfl) (by rfl) (by first | assumption | decide +kernel) (by decide +kernel) ⟨rfl, rfl, rfl, rfl, rfl, by decide +kernel⟩ ?hw ?hc
  case hw => w_witness2
  case hc =>
    refine L2.walk_ofE (l := PySem.Challenge.rw_sameclock_k27_code_row_by_row) (n := 63) (k := 6) (x := "script") (CX := L2.CX0) rfl (by decide) (by kernel_rfl) ⟨rfl, by decide, by decide⟩ ?F (fun _ _ _ _ z => z)
    intro w mg fa h Y G hmg0
    obtain ⟨K, KX, c⟩ := Y
    have hmg : mg ("law" : PySem.Str) = some (.ref fa) := by
      have e : (HandSHeadRun.topDef (OpenLaw.row PySem.Challenge.rw_sameclock_k27_code_row_by_row).prog 30).name = ("law" : PySem.Str) := by kernel_rfl
      rw [← e]
      exact hmg0
    obtain ⟨fd, hb, hF⟩ := K27.facts (P := (PySem.Challenge.rw_sameclock_k27_code_row_by_row).prog) (w := w) KX G hmg c
    exact ⟨K, fd, K27.sp_law K, KX, hb, fun H a ns hl _ hS => ⟨a, ns, rfl, hS, hl, fun _ => rfl⟩, hF⟩
#print axioms PySem.Challenge.cw_sameclock_k27_code_row_by_row_holds

