import PyProof.Rows.All
import Wide.All
import OpenK.AllK
import Wide.FinOn
import HandS.ForMost
import HandS.Wide
import HandS.WideMore
import HandS.IsInst
import HandS.Defaults
import HandS.Flow
import HandS.TupAny
import HandS.Conv
import HandS.Exc
import HandS.TupMul
import HandS.Zip
import HandS.SetFor
import HandS.Strs
import HandS.Dict
import HandS.TupSets
import HandS.Style
import HandS.Head0
import HandS.Head1
import HandS.Head2
import HandS.HeadEnd
import HandS.HeadHook1
import HandS.HeadHook2
import HandS.HeadHook3
import HandS.HeadHook4
import HandS.More
import HandS.ExcOwn
import HandS.ExcInit
import HandS.ExcField
import HandS.TryOnly
import HandS.HeadNt
import HandS.Text
import HandS.SortInts
import PyProof.ReprRoads
import PySem.Challenge.RW_sameclock_k65_what_the_judge_refuses
set_option Elab.async false
set_option linter.all false
set_option maxRecDepth 100000
set_option maxHeartbeats 4000000
/-! Own base: a heap told by a list of its objects, frames of calls, joins of ways, whiles by a measure, calls by one structure. -/
namespace G
open PySem PySem.Spec PyProof.Rows L2

/-- the objects one speaks of, each once -/
structure Has (H : Hp) (L : List (Addr × HO)) : Prop where
  nd : (L.map (·.1)).Nodup
  is_ : ∀ p ∈ L, H p.1 = some p.2

section
variable {H H' : Hp} {L : List (Addr × HO)} {a p : Addr} {o o' : HO}
theorem Has.nil : Has H [] := ⟨List.nodup_nil, fun _ h => nomatch h⟩
theorem Has.get (M : Has H L) (i : Nat) (h : L[i]? = some (a, o)) : H a = some o := M.is_ _ (List.mem_of_getElem? h)
theorem Has.one (h : H a = some o) : Has H [(a, o)] := ⟨by simp, fun p hp => by
  rw [List.mem_singleton.mp hp]
  exact h⟩
theorem keep_new (h : H a = some o) (hp : H p = none) : upd H p o' a = some o := by
  rw [upd_ne (ne_of_none h hp)]
  exact h
theorem Has.fresh (M : Has H L) (hp : H p = none) : p ∉ L.map (·.1) := fun h => by
  obtain ⟨q, hq, e⟩ := List.mem_map.mp h
  have := M.is_ q hq
  rw [e, hp] at this
  cases this
theorem Has.new (M : Has H L) (hp : H p = none) : Has (upd H p o) (L ++ [(p, o)]) where
  nd := by
    rw [List.map_append, List.nodup_append]
    refine ⟨M.nd, by simp, fun x hx y hy e => ?_⟩
    simp only [List.map_cons, List.map_nil, List.mem_singleton] at hy
    subst hy
    subst e
    exact M.fresh hp hx
  is_ := fun q hq => by
    rcases List.mem_append.mp hq with h | h
    · exact keep_new (M.is_ q h) hp
    · rw [List.mem_singleton.mp h]
      exact upd_same
theorem nodup_fst {L : List (Addr × HO)} (nd : (L.map (·.1)).Nodup) {i j : Nat} {a : Addr} {x y : HO} (hi : L[i]? = some (a, x)) (hj : L[j]? = some (a, y)) : i = j := by
  have h1 : (L.map (·.1))[i]? = some a := by rw [List.getElem?_map, hi]; rfl
  have h2 : (L.map (·.1))[j]? = some a := by rw [List.getElem?_map, hj]; rfl
  exact nd_ix nd h1 h2
theorem map_fst_set : ∀ {L : List (Addr × HO)} {i : Nat} {o o' : HO} {a : Addr}, L[i]? = some (a, o) → (L.set i (a, o')).map (·.1) = L.map (·.1)
  | [], _, _, _, _, h => by simp at h
  | p :: L, 0, _, _, _, h => by
    simp only [List.getElem?_cons_zero, Option.some.injEq] at h
    subst h
    rfl
  | p :: L, i + 1, o, o', a, h => by
    simp only [List.getElem?_cons_succ] at h
    simp only [List.set_cons_succ, List.map_cons, List.cons.injEq, true_and]
    exact map_fst_set h
/-- the object at place i is another one in H', the others stand -/
theorem Has.put (M : Has H L) (i : Nat) (h : L[i]? = some (a, o)) (k : ∀ b u, H b = some u → b ≠ a → H' b = some u) (e : H' a = some o') : Has H' (L.set i (a, o')) where
  nd := by
    rw [map_fst_set h]
    exact M.nd
  is_ := fun q hq => by
    obtain ⟨j, hj, e2⟩ := List.mem_iff_getElem.mp hq
    have hj' : (L.set i (a, o'))[j]? = some q := by rw [List.getElem?_eq_getElem hj, e2]
    rw [List.getElem?_set] at hj'
    split at hj'
    · split at hj'
      · cases hj'
        exact e
      · cases hj'
    · rename_i hij
      have hm := M.is_ q (List.mem_of_getElem? hj')
      refine k _ _ hm fun ea => hij ?_
      obtain ⟨b, u⟩ := q
      subst ea
      exact nodup_fst M.nd h hj'
theorem Has.set (M : Has H L) (i : Nat) (h : L[i]? = some (a, o)) : Has (upd H a o') (L.set i (a, o')) :=
  M.put i h (fun b u e n => by rw [upd_ne n]; exact e) upd_same
theorem Has.keep (M : Has H L) (k : Same H H') : Has H' L := ⟨M.nd, fun p hp => k _ _ (M.is_ p hp)⟩
theorem Has.sub (M : Has H L) {L' : List (Addr × HO)} (h : L'.Sublist L) : Has H L' := ⟨M.nd.sublist (h.map _), fun p hp => M.is_ p (h.subset hp)⟩
theorem Has.perm (M : Has H L) {L' : List (Addr × HO)} (h : L.Perm L') : Has H L' := ⟨(h.map _).nodup_iff.mp M.nd, fun p hp => M.is_ p (h.mem_iff.mpr hp)⟩
theorem Has.ne (M : Has H L) {b : Addr} {u : HO} (i j : Nat) (hi : L[i]? = some (a, o)) (hj : L[j]? = some (b, u)) (hij : i ≠ j) : a ≠ b := fun e => by
  subst e
  exact hij (nodup_fst M.nd hi hj)
end

/-- all that was tracked stands, but what stands at ms -/
def Keep (ms : List Addr) (H H' : Hp) : Prop := ∀ b o, H b = some o → b ∉ ms → H' b = some o
section
variable {ms : List Addr} {H H1 H2 : Hp} {L : List (Addr × HO)} {a p : Addr} {o o' : HO}
theorem Keep.refl : Keep ms H H := fun _ _ h _ => h
theorem Keep.trans (x : Keep ms H H1) (y : Keep ms H1 H2) : Keep ms H H2 := fun b o h n => y b o (x b o h n) n
theorem Keep.of (x : Same H H1) : Keep ms H H1 := fun b o h _ => x b o h
theorem Keep.same (x : Keep [] H H1) : Same H H1 := fun b o h => x b o h (nomatch ·)
theorem Keep.mono {ns : List Addr} (x : Keep ms H H1) (h : ∀ b ∈ ms, b ∈ ns) : Keep ns H H1 := fun b o e n => x b o e fun z => n (h b z)
theorem Same.new (hp : H p = none) : Same H (upd H p o) := fun b u h => keep_new h hp
theorem Keep.new (hp : H p = none) : Keep ms H (upd H p o) := .of (Same.new hp)
theorem Keep.set (h : a ∈ ms) : Keep ms H (upd H a o) := fun b u e n => by
  rw [upd_ne fun z => n (by rw [z]; exact h)]
  exact e
/-- an object that H does not know is changed -/
theorem Keep.mut (x : Keep ms H H1) (h : H a = none) : Keep ms H (upd H1 a o) := fun b u e n => by
  rw [upd_ne (ne_of_none e h)]
  exact x b u e n
theorem Has.call1 (M : Has H L) (k : Keep [a] H H1) (i : Nat) (h : L[i]? = some (a, o)) (e : H1 a = some o') : Has H1 (L.set i (a, o')) :=
  M.put i h (fun b u q n => k b u q (by simpa using n)) e
theorem Same.back (k : Same H H1) (h : H1 p = none) : H p = none := k.free h
theorem Keep.back (k : Keep ms H H1) (h : H1 p = none) (hm : p ∉ ms) : H p = none := by
  cases e : H p with
  | none => rfl
  | some o =>
    rw [k p o e hm] at h
    cases h
end

/-! ### joins, whiles -/
section
variable {X : Cx} {st : Stmt} {sts : List Stmt} {t : TS}
/-- behind a statement N holds, from which one goes on -/
def tJoin (t : TS) : TS := fun D σ H => ∃ N : L2.St → Hp → Prop, t { D with nx := N } σ H ∧ ∀ σ' H', N σ' H' → D.nx σ' H'
theorem SP.nx {pins : List (Addr × Obj)} {D : Ends} {N : L2.St → Hp → Prop} (h : ∀ σ' H', N σ' H' → D.nx σ' H') {f : PySem.Flow} {s' : Shared} (z : SP X pins { D with nx := N } f s') : SP X pins D f s' := by
  cases f with
  | next =>
    obtain ⟨σ', H', I, q⟩ := z
    exact ⟨σ', H', I, h _ _ q⟩
  | brk => exact z
  | cont => exact z
  | ret u => exact z
theorem ps_join (h : PS X st t) : PS X st (tJoin t) := ⟨fun pins s σ H D I ⟨N, h1, h2⟩ => thn (h.run pins s σ H _ I h1) fun _ _ z => SP.nx h2 z⟩
theorem pss_join (h : PSs X sts t) : PSs X sts (tJoin t) := ⟨fun pins s σ H D I ⟨N, h1, h2⟩ => thn (h.run pins s σ H _ I h1) fun _ _ z => SP.nx h2 z⟩
end

/-! ### the text's facts, defs by name -/
structure Txt (fa : List He.Fa) (fn : List He.DefD) (K : PySem.W.Frag) (mg : Str → Option Value) (ex : Prop := True) : Prop where
  c : He.SaysD fa fn K
  h : ∃ h : Heap, K.In h ∧ h.Ns mainGlobals mg
  m : ex
/-- a def that calls may name -/
structure Dn (P : Program) (w : World) (K : PySem.W.Frag) (mg : Str → Option Value) (base : Heap) (CX : CXT) (k : Nat) (x : Str) (ps : List Str) (sp : Sp) : Prop where
  ex : ∃ (f : Addr) (fd : FuncData), FnOk P w K mg base CX k f fd ps sp ∧ mg x = some (.ref f) ∧ PySem.W.keepIn K (.ref f) = true ∧ Binds K fd ps [] ∧ ∃ oc od osl, K.lookup f = some ⟨oc, od, .func fd, osl⟩
section
variable {fa : List He.Fa} {fn : List He.DefD} {P : Program} {w : World} {K : PySem.W.Frag} {mg : Str → Option Value} {base : Heap} {ex : Prop}
theorem Txt.glo (T : Txt fa fn K mg ex) (j : Nat) {x : Str} (h : fa[j]? = some (.glo x)) : mg x = some (.ref (He.ga K x)) := by
  obtain ⟨_, X, G⟩ := T.h
  exact He.glo_ok X G (T.c.fact j h)
theorem Txt.free (T : Txt fa fn K mg ex) (j : Nat) {x : Str} (h : fa[j]? = some (.free x)) : mg x = none := by
  obtain ⟨_, X, G⟩ := T.h
  exact He.free_ok X G (T.c.fact j h)
theorem Txt.int (T : Txt fa fn K mg ex) (j : Nat) {x : Str} {i : Int} (h : fa[j]? = some (.int x i)) : ∃ t, mg x = some (.int i t) := by
  obtain ⟨_, X, G⟩ := T.h
  exact He.int_ok X G (T.c.fact j h)
theorem Txt.def_ (T : Txt fa fn K mg ex) (i j : Nat) {d : He.DefD} (hd : fn[i]? = some d) (hg : fa[j]? = some (.glo d.at_.1)) (hm : d.at_.2 = none) (h1 : d.dfl = []) (h2 : d.kwd = []) :
    (∃ fd, FunD K d.name d.qual d.params d.body d.scope [] [] (He.ga K d.at_.1) fd) ∧ mg d.at_.1 = some (.ref (He.ga K d.at_.1)) := by
  refine ⟨?_, T.glo j hg⟩
  obtain ⟨fd, F⟩ := T.c.def_ i hd
  have e : He.fAd K d.at_ = He.ga K d.at_.1 := by
    unfold He.fAd
    rw [hm]
  have e1 : d.dvs K = [] := by
    unfold He.DefD.dvs
    rw [h1]
    rfl
  have e2 : d.kws K = [] := by
    unfold He.DefD.kws
    rw [h2]
    rfl
  rw [e, e1, e2] at F
  exact ⟨fd, F⟩
theorem Txt.str (T : Txt fa fn K mg ex) (j : Nat) {x z : Str} (h : fa[j]? = some (.str x z)) : ∃ t, mg x = some (.str z t) := by
  obtain ⟨_, X, G⟩ := T.h
  exact He.str_ok X G (T.c.fact j h)
/-- a global number, a global text -/
theorem pe_gint {X : Cx} (T : Txt fa fn K mg ex) (e : X.mg = mg) {x : Str} {i : Int} {pos : Pos} (j : Nat) (h : fa[j]? = some (.int x i)) (hg : Gl X x) (hd : (x == ("__debug__" : Str)) = false := by decide) : PE X (.Name x pos) (tC (.int i)) := by
  obtain ⟨t, ht⟩ := T.int j h
  exact pe_glob hg (by rw [e]; exact ht) ⟨t, rfl⟩ hd
theorem pe_gstr {X : Cx} (T : Txt fa fn K mg ex) (e : X.mg = mg) {x z : Str} {pos : Pos} (j : Nat) (h : fa[j]? = some (.str x z)) (hg : Gl X x) (hd : (x == ("__debug__" : Str)) = false := by decide) : PE X (.Name x pos) (tC (.str z)) := by
  obtain ⟨t, ht⟩ := T.str j h
  exact pe_glob hg (by rw [e]; exact ht) ⟨t, rfl⟩ hd
/-- a def without defaults that lets nothing out -/
theorem mk_dn (T : Txt fa fn K mg ex) (i j : Nat) {d : He.DefD} {N ps : List Str} {k : Nat} {sp : Sp} (hd : fn[i]? = some d) (hg : fa[j]? = some (.glo d.at_.1)) (hm : d.at_.2 = none) (h1 : d.dfl = []) (h2 : d.kwd = [])
    (S : FnScope N ps d.scope) (len : ∀ vs H Q E, sp vs H Q E → vs.length = ps.length)
    (hb : ∀ (kV doc pm : Value) (an : Option Addr) (cdv ct : Value) (us : List Value), us.length = ps.length → bindArgs (PySem.W.fnOf d.name d.qual d.params d.body d.scope .none kV doc pm an cdv ct) ⟨us, []⟩ = pure (ps.zip us))
    (hbody : ∀ (cdv : Value) (A : Around) (outer : List Env) (s : Shared) (H : Hp) (vs : List V) (Q : VK) (E : XK), Room k (A.deeper (envOfC d.qual d.scope s.heap.objs.size (He.ga K d.at_.1) cdv)) → sp vs H Q E →
      ∃ t, PSs (cxOf CX0 P w K mg base N d.qual d.scope (He.ga K d.at_.1) cdv A outer s H E).nox d.body t ∧ t { nx := fun _ H' => Q .non H', rt := Q } (start N vs) H) : Dn P w K mg base CX0 (k + 1) d.at_.1 ps sp := by
  obtain ⟨⟨fd, F⟩, g⟩ := T.def_ i j hd hg hm h1 h2
  refine ⟨_, fd, F.ok S len fun cdv A outer s H vs Q E hr h => ?_, g, F.kp, F.bindsN hb, by
    obtain ⟨oc, od, dV, kV, doc, pm, an, cdv, ct, osl, e, lk, _⟩ := F.ex
    exact ⟨_, _, _, lk⟩⟩
  obtain ⟨t, p, q⟩ := hbody cdv A outer s H vs Q E hr h
  exact ⟨t, p.nox, q⟩
theorem Dn.imp {CX : CXT} {k : Nat} {x : Str} {ps : List Str} {sp sp' : Sp} (D : Dn P w K mg base CX k x ps sp) (h : ∀ vs H Q E, sp' vs H Q E → sp vs H Q E) : Dn P w K mg base CX k x ps sp' := by
  obtain ⟨f, fd, F, a, b, c⟩ := D.ex
  exact ⟨f, fd, F.imp h, a, b, c⟩
theorem Dn.mono {CX : CXT} {j k : Nat} {x : Str} {ps : List Str} {sp : Sp} (D : Dn P w K mg base CX j x ps sp) (h : j ≤ k) : Dn P w K mg base CX k x ps sp := by
  obtain ⟨f, fd, F, a, b, c⟩ := D.ex
  exact ⟨f, fd, F.mono h, a, b, c⟩
end
section
variable {X : Cx} {CX : CXT} {k : Nat} {ps : List Str} {sp : Sp} {E : XK} {x : Str} {p pos : Pos} {e : Expr} {es : List Expr} {t : TA}
theorem pe_callD {K : PySem.W.Frag} (hK : X.K = K) (D : Dn X.prog X.w K X.mg X.base CX k x ps sp) (hr : Room k X.A) (hg : Gl X x) (hx : Passes CX X E)
    (ha : PA X (e :: es) t) (hdb : (x == ("__debug__" : Str)) = false := by decide) (he : starEach (e :: es) X.env = (false, eval e X.env) :: starEach es X.env := by rfl) (hpl : (backTo pos (starEach es X.env)).any (·.1) = false := by rfl) :
    PE X (.Call (.Name x p) (e :: es) [] pos) (tCall sp [] E t) := by
  subst hK
  obtain ⟨f, fd, F, m, kp, b, _⟩ := D.ex
  exact pe_call F hr hg m kp b .nil hx ha hdb he hpl
theorem pe_callD0 {K : PySem.W.Frag} (hK : X.K = K) (D : Dn X.prog X.w K X.mg X.base CX k x ps sp) (hr : Room k X.A) (hg : Gl X x) (hx : Passes CX X E)
    (hdb : (x == ("__debug__" : Str)) = false := by decide) :
    PE X (.Call (.Name x p) [] [] pos) (tCall sp [] E tNil) := by
  subst hK
  obtain ⟨f, fd, F, m, kp, b, _⟩ := D.ex
  exact pe_call0 F hr hg m kp b .nil hx hdb
end

/-! ### the law's own end -/
theorem law_facts {ex : Prop} {fa : List He.Fa} {fn : List He.DefD} {P : Program} {w : World} {K : PySem.W.Frag} {h : Heap} {mg : Str → Option Value} {f : Addr} {d : He.DefD} {k : Nat} {sp : Sp} (X : K.In h) (G : h.Ns mainGlobals mg)
    (hfa : mg d.at_.1 = some (.ref f)) (c : He.SaysD fa fn K) (m : ex) (i j : Nat) (hd : fn[i]? = some d) (hg : fa[j]? = some (.glo d.at_.1)) (hm : d.at_.2 = none) (h1 : d.dfl = []) (h2 : d.kwd = [])
    (hb : ∀ (kV doc pm : Value) (an : Option Addr) (cdv ct : Value) (us : List Value), us.length = 1 → bindArgs (PySem.W.fnOf d.name d.qual d.params d.body d.scope .none kV doc pm an cdv ct) ⟨us, []⟩ = pure ((["script"] : List Str).zip us))
    (ok : ∀ base, Txt fa fn K mg ex → Dn P w K mg base CX0 k d.at_.1 ["script"] sp) :
    ∃ fd : FuncData, (∀ (s : Shared) (v : Value), BindsTo s fd ⟨[v], []⟩ [("script", v)]) ∧ ∀ base : Heap, K.In base → base.Ns mainGlobals mg → FnOk P w K mg base CX0 k f fd ["script"] sp := by
  have T : Txt fa fn K mg ex := ⟨c, ⟨h, X, G⟩, m⟩
  obtain ⟨⟨fd, F⟩, g⟩ := T.def_ i j hd hg hm h1 h2
  rw [hfa] at g
  cases g
  have b := FunD.bindsA (ps := ["script"]) F hb
  refine ⟨fd, fun s v => b s [v] rfl, fun base _ _ => ?_⟩
  obtain ⟨f2, fd2, F2, m, _, _, oc, od, osl, lk⟩ := (ok base T).ex
  rw [hfa] at m
  cases m
  obtain ⟨oc', od', dV, kV, doc, pm, an, cdv, ct, osl', e, lk', _⟩ := F.ex
  rw [lk] at lk'
  cases lk'
  exact F2

/-! ### classes -/
section
variable {fa : List He.Fa} {fn : List He.DefD} {P : Program} {w : World} {K : PySem.W.Frag} {mg : Str → Option Value} {base : Heap} {ex : Prop}
theorem Txt.cls (T : Txt fa fn K mg ex) (j : Nat) {x : Str} (h : fa[j]? = some (.cls x)) : Cls K (He.ga K x) := He.cls_ok (T.c.fact j h)
theorem Txt.noat (T : Txt fa fn K mg ex) (j : Nat) {x f : Str} (h : fa[j]? = some (.noat x f)) : NoAttr K (He.ga K x) f := He.noat_ok (T.c.fact j h)
theorem Txt.meth (T : Txt fa fn K mg ex) (j : Nat) {x m : Str} (h : fa[j]? = some (.meth x m)) : Meth K (He.ga K x) m (He.ma K (He.ga K x) m) := He.meth_ok (T.c.fact j h)
theorem Txt.mkr (T : Txt fa fn K mg ex) (j : Nat) {x : Str} (h : fa[j]? = some (.mkr x)) : Mk K (He.ga K x) (He.ma K (He.ga K x) "__init__") := He.mkr_ok (T.c.fact j h)
/-- a method by its class's name -/
structure Mt (P : Program) (w : World) (K : PySem.W.Frag) (mg : Str → Option Value) (base : Heap) (CX : CXT) (k : Nat) (c m : Str) (ps : List Str) (sp : Sp) : Prop where
  ex : ∃ (f : Addr) (fd : FuncData), FnOk P w K mg base CX k f fd ps sp ∧ f = He.ma K (He.ga K c) m ∧ Binds K fd ps []
theorem Txt.defm (T : Txt fa fn K mg ex) (i : Nat) {d : He.DefD} {c m : Str} (hd : fn[i]? = some d) (hm : d.at_ = (c, some m)) (h1 : d.dfl = []) (h2 : d.kwd = []) :
    ∃ fd, FunD K d.name d.qual d.params d.body d.scope [] [] (He.ma K (He.ga K c) m) fd := by
  obtain ⟨fd, F⟩ := T.c.def_ i hd
  have e : He.fAd K d.at_ = He.ma K (He.ga K c) m := by
    unfold He.fAd
    rw [hm]
  have e1 : d.dvs K = [] := by
    unfold He.DefD.dvs
    rw [h1]
    rfl
  have e2 : d.kws K = [] := by
    unfold He.DefD.kws
    rw [h2]
    rfl
  rw [e, e1, e2] at F
  exact ⟨fd, F⟩
/-- a method without defaults that lets nothing out -/
theorem mk_mt (T : Txt fa fn K mg ex) (i : Nat) {d : He.DefD} {c m : Str} {N ps : List Str} {k : Nat} {sp : Sp} (hd : fn[i]? = some d) (hm : d.at_ = (c, some m)) (h1 : d.dfl = []) (h2 : d.kwd = [])
    (S : FnScope N ps d.scope) (len : ∀ vs H Q E, sp vs H Q E → vs.length = ps.length)
    (hb : ∀ (kV doc pm : Value) (an : Option Addr) (cdv ct : Value) (us : List Value), us.length = ps.length → bindArgs (PySem.W.fnOf d.name d.qual d.params d.body d.scope .none kV doc pm an cdv ct) ⟨us, []⟩ = pure (ps.zip us))
    (hbody : ∀ (cdv : Value) (A : Around) (outer : List Env) (s : Shared) (H : Hp) (vs : List V) (Q : VK) (E : XK), Room k (A.deeper (envOfC d.qual d.scope s.heap.objs.size (He.ma K (He.ga K c) m) cdv)) → sp vs H Q E →
      ∃ t, PSs (cxOf CX0 P w K mg base N d.qual d.scope (He.ma K (He.ga K c) m) cdv A outer s H E).nox d.body t ∧ t { nx := fun _ H' => Q .non H', rt := Q } (start N vs) H) : Mt P w K mg base CX0 (k + 1) c m ps sp := by
  obtain ⟨fd, F⟩ := T.defm i hd hm h1 h2
  refine ⟨_, fd, F.ok S len fun cdv A outer s H vs Q E hr h => ?_, rfl, F.bindsN hb⟩
  obtain ⟨t, p, q⟩ := hbody cdv A outer s H vs Q E hr h
  exact ⟨t, p.nox, q⟩
theorem Mt.mono {CX : CXT} {j k : Nat} {c m : Str} {ps : List Str} {sp : Sp} (D : Mt P w K mg base CX j c m ps sp) (h : j ≤ k) : Mt P w K mg base CX k c m ps sp := by
  obtain ⟨f, fd, F, a, b⟩ := D.ex
  exact ⟨f, fd, F.mono h, a, b⟩
end
section
variable {X : Cx} {CX : CXT} {k : Nat} {ps : List Str} {sp : Sp} {E : XK} {c m : Str} {p pos apos : Pos} {e o : Expr} {es : List Expr} {ta : TE} {t : TA}
theorem pe_methD {K : PySem.W.Frag} (hK : X.K = K) {pl : Sem Bool} (D : Mt X.prog X.w K X.mg X.base CX k c m ps sp) (cl : Cls K (He.ga K c)) (hm : Meth K (He.ga K c) m (He.ma K (He.ga K c) m)) (hr : Room k X.A) (hx : Passes CX X E) (he : PE X o ta) (ha : PA X (e :: es) t)
    (hst : starEach (e :: es) X.env = (false, eval e X.env) :: starEach es X.env := by rfl) (hpl : (backTo pos (starEach es X.env)).any (·.1) = false := by rfl)
    (ht : eval (.Call (.Attribute o m apos) (e :: es) [] pos) X.env = (do let ov ← eval o X.env; standAt apos.atName; let (f, first) ← holding [ov] (getMethod ov m pl); callWith pos f first (backTo pos (starEach (e :: es) X.env)) (backToKw pos (keywordEach [] X.env))) := by rfl) :
    PE X (.Call (.Attribute o m apos) (e :: es) [] pos) (tMeth (He.ga K c) m sp [] E ta t) := by
  subst hK
  obtain ⟨f, fd, F, rfl, b⟩ := D.ex
  exact pe_meth he cl hm F hr b .nil hx ha hst hpl ht
theorem pe_methD0 {K : PySem.W.Frag} (hK : X.K = K) {pl : Sem Bool} (D : Mt X.prog X.w K X.mg X.base CX k c m ps sp) (cl : Cls K (He.ga K c)) (hm : Meth K (He.ga K c) m (He.ma K (He.ga K c) m)) (hr : Room k X.A) (hx : Passes CX X E) (he : PE X o ta)
    (ht : eval (.Call (.Attribute o m apos) [] [] pos) X.env = (do let ov ← eval o X.env; standAt apos.atName; let (f, first) ← holding [ov] (getMethod ov m pl); callWith pos f first (backTo pos (starEach [] X.env)) (backToKw pos (keywordEach [] X.env))) := by rfl) :
    PE X (.Call (.Attribute o m apos) [] [] pos) (tMeth (He.ga K c) m sp [] E ta tNil) := by
  subst hK
  obtain ⟨f, fd, F, rfl, b⟩ := D.ex
  exact pe_meth0 he cl hm F hr b .nil hx ht
theorem pe_makeD {K : PySem.W.Frag} (hK : X.K = K) (D : Mt X.prog X.w K X.mg X.base CX k c "__init__" ps sp) (M : Mk K (He.ga K c) (He.ma K (He.ga K c) "__init__")) (hr : Room (k + 1) X.A) (hg : Gl X c) (hm : X.mg c = some (.ref (He.ga K c))) (hx : Passes CX X E)
    (ha : PA X (e :: es) t) (hdb : (c == ("__debug__" : Str)) = false := by decide) (he : starEach (e :: es) X.env = (false, eval e X.env) :: starEach es X.env := by rfl) (hpl : (backTo pos (starEach es X.env)).any (·.1) = false := by rfl) :
    PE X (.Call (.Name c p) (e :: es) [] pos) (tMake (He.ga K c) sp [] E t) := by
  subst hK
  obtain ⟨f, fd, F, rfl, b⟩ := D.ex
  exact pe_make M F hr hg hm b .nil hx ha hdb he hpl
end
/-! ### fields by their places -/
section
variable {fs : List (Str × V)} {f : Str} {v y : V}
theorem lk_ix : ∀ {fs : List (Str × V)} (n : Nat), (fs.map (·.1)).Nodup → fs[n]? = some (f, v) → fs.lookup f = some v
  | [], _, _, h => by simp at h
  | p :: fs, 0, _, h => by
    simp only [List.getElem?_cons_zero, Option.some.injEq] at h
    subst h
    simp [List.lookup]
  | p :: fs, n + 1, nd, h => by
    simp only [List.getElem?_cons_succ] at h
    obtain ⟨g, x⟩ := p
    rw [List.map_cons, List.nodup_cons] at nd
    have hm : f ∈ fs.map (·.1) := List.mem_map.mpr ⟨(f, v), List.mem_of_getElem? h, rfl⟩
    have ne : (f == g) = false := beq_eq_false_iff_ne.mpr fun e => nd.1 (e ▸ hm)
    simp only [List.lookup, ne]
    exact lk_ix n nd.2 h
theorem lk_none : ∀ {fs : List (Str × V)}, f ∉ fs.map (·.1) → fs.lookup f = none
  | [], _ => rfl
  | (g, x) :: fs, h => by
    rw [List.map_cons, List.mem_cons, not_or] at h
    have ne : (f == g) = false := beq_eq_false_iff_ne.mpr h.1
    simp only [List.lookup, ne]
    exact lk_none h.2
theorem pt_ix : ∀ {fs : List (Str × V)} (n : Nat), (fs.map (·.1)).Nodup → fs[n]? = some (f, v) → putF f y fs = fs.set n (f, y)
  | [], _, _, h => by simp at h
  | p :: fs, 0, _, h => by
    simp only [List.getElem?_cons_zero, Option.some.injEq] at h
    subst h
    simp [putF]
  | p :: fs, n + 1, nd, h => by
    simp only [List.getElem?_cons_succ] at h
    obtain ⟨g, x⟩ := p
    rw [List.map_cons, List.nodup_cons] at nd
    have hm : f ∈ fs.map (·.1) := List.mem_map.mpr ⟨(f, v), List.mem_of_getElem? h, rfl⟩
    have ne : ¬ g = f := fun e => nd.1 (e ▸ hm)
    simp only [putF, if_neg ne, List.set_cons_succ]
    rw [pt_ix n nd.2 h]
theorem pt_new : ∀ {fs : List (Str × V)}, f ∉ fs.map (·.1) → putF f y fs = fs ++ [(f, y)]
  | [], _ => rfl
  | (g, x) :: fs, h => by
    rw [List.map_cons, List.mem_cons, not_or] at h
    have ne : ¬ g = f := fun e => h.1 e.symm
    simp only [putF, if_neg ne, List.cons_append]
    rw [pt_new h.2]
end

section
variable {H H' : Hp} {L : List (Addr × HO)} {a : Addr} {o : HO}
theorem Has.add (M : Has H L) (h : H a = some o) (n : a ∉ L.map (·.1)) : Has H (L ++ [(a, o)]) where
  nd := by
    rw [List.map_append, List.nodup_append]
    refine ⟨M.nd, by simp, fun x hx y hy e => ?_⟩
    rw [List.map_singleton, List.mem_singleton] at hy
    have e2 : x = a := e.trans hy
    exact n (e2 ▸ hx)
  is_ := fun q hq => by
    rcases List.mem_append.mp hq with z | z
    · exact M.is_ q z
    · rw [List.mem_singleton.mp z]
      exact h
end

theorem Keep.tup {ms : List Addr} {H H' : Hp} {t : Addr} {xs : List V} (k : Keep ms H H') (hm : ∀ m ∈ ms, ∃ o, H m = some o ∧ ∀ xs, o ≠ .tup xs) (h : H t = some (.tup xs)) : H' t = some (.tup xs) :=
  k t _ h fun z => by
    obtain ⟨o, e, n⟩ := hm t z
    rw [h] at e
    exact n xs (Option.some.inj e).symm

/-! ### parts of the heap's list, tables of lists -/
section
variable {H H' : Hp} {X Y L L' : List (Addr × HO)} {a : Addr} {o o' : HO}
theorem Has.mid (M : Has H (X ++ (L ++ Y))) : Has H L := M.sub ((List.sublist_append_left L Y).trans (List.sublist_append_right X _))
/-- a part has changed, the rest stands -/
theorem Has.frame (M : Has H (X ++ (L ++ Y))) (k : Keep (L.map (·.1)) H H') (M' : Has H' L') (e : L'.map (·.1) = L.map (·.1)) : Has H' (X ++ (L' ++ Y)) where
  nd := by
    have z := M.nd
    rw [List.map_append, List.map_append] at z ⊢
    rw [e]
    exact z
  is_ := fun q hq => by
    have z := M.nd
    rw [List.map_append, List.map_append, List.nodup_append] at z
    obtain ⟨_, z2, z3⟩ := z
    rw [List.nodup_append] at z2
    obtain ⟨_, _, z4⟩ := z2
    rcases List.mem_append.mp hq with h | h
    · refine k _ _ (M.is_ q (List.mem_append_left _ h)) fun hm => ?_
      exact z3 q.1 (List.mem_map_of_mem h) q.1 (List.mem_append_left _ hm) rfl
    · rcases List.mem_append.mp h with h | h
      · exact M'.is_ q h
      · refine k _ _ (M.is_ q (List.mem_append_right _ (List.mem_append_right _ h))) fun hm => ?_
        exact z4 q.1 hm q.1 (List.mem_map_of_mem h) rfl
/-- the lists at these addresses -/
def tab : List Addr → List (List V) → List (Addr × HO)
  | a :: as, r :: rs => (a, .lst r) :: tab as rs
  | _, _ => []
theorem tab_get : ∀ {as : List Addr} {rs : List (List V)} {i : Nat} {a : Addr} {r : List V}, as[i]? = some a → rs[i]? = some r → (tab as rs)[i]? = some (a, .lst r)
  | [], _, _, _, _, h, _ => by simp at h
  | _ :: _, [], _, _, _, _, h => by simp at h
  | a :: as, r :: rs, 0, _, _, h, h2 => by
    simp only [List.getElem?_cons_zero, Option.some.injEq] at h h2
    subst h
    subst h2
    rfl
  | a :: as, r :: rs, i + 1, _, _, h, h2 => by
    simp only [List.getElem?_cons_succ] at h h2
    exact tab_get (as := as) h h2
theorem tab_set : ∀ {as : List Addr} {rs : List (List V)} {i : Nat} {a : Addr} {r : List V}, as[i]? = some a → (tab as rs).set i (a, .lst r) = tab as (rs.set i r)
  | [], _, _, _, _, h => by simp at h
  | _ :: _, [], _, _, _, _ => rfl
  | a :: as, r :: rs, 0, _, _, h => by
    simp only [List.getElem?_cons_zero, Option.some.injEq] at h
    subst h
    rfl
  | a :: as, r :: rs, i + 1, _, _, h => by
    simp only [List.getElem?_cons_succ] at h
    show (a, HO.lst r) :: (tab as rs).set i _ = _
    rw [tab_set h]
    rfl
theorem tab_fst : ∀ {as : List Addr} {rs : List (List V)}, as.length = rs.length → (tab as rs).map (·.1) = as
  | [], [], _ => rfl
  | [], _ :: _, h => by simp at h
  | _ :: _, [], h => by simp at h
  | a :: as, r :: rs, h => by
    simp only [List.length_cons, Nat.add_right_cancel_iff] at h
    show a :: (tab as rs).map (·.1) = _
    rw [tab_fst h]
variable {as : List Addr} {rs : List (List V)} {i : Nat} {r r' : List V}
theorem Has.tabGet (M : Has H (X ++ (tab as rs ++ Y))) (ha : as[i]? = some a) (hr : rs[i]? = some r) : H a = some (.lst r) := M.mid.get i (tab_get ha hr)
theorem Has.tabSet (M : Has H (X ++ (tab as rs ++ Y))) (ha : as[i]? = some a) (hr : rs[i]? = some r) : Has (upd H a (.lst r')) (X ++ (tab as (rs.set i r') ++ Y)) := by
  have h := tab_get ha hr
  have hi := (List.getElem?_eq_some_iff.mp h).1
  have h2 : (X ++ (tab as rs ++ Y))[X.length + i]? = some (a, .lst r) := by
    rw [List.getElem?_append_right (Nat.le_add_right _ _), Nat.add_sub_cancel_left, List.getElem?_append_left hi]
    exact h
  have M2 := M.set (o' := .lst r') _ h2
  have e : (X ++ (tab as rs ++ Y)).set (X.length + i) (a, .lst r') = X ++ (tab as (rs.set i r') ++ Y) := by
    rw [List.set_append_right _ _ (Nat.le_add_right _ _), Nat.add_sub_cancel_left, List.set_append_left _ _ hi, tab_set ha]
  rw [e] at M2
  exact M2
/-- one more list at the end of a table -/
theorem tab_snoc : ∀ {as : List Addr} {rs : List (List V)}, as.length = rs.length → tab (as ++ [a]) (rs ++ [r]) = tab as rs ++ [(a, .lst r)]
  | [], [], _ => rfl
  | [], _ :: _, h => by simp at h
  | _ :: _, [], h => by simp at h
  | b :: as, r' :: rs, h => by
    simp only [List.length_cons, Nat.add_right_cancel_iff] at h
    show (b, HO.lst r') :: tab (as ++ [a]) (rs ++ [r]) = _
    rw [tab_snoc h]
    rfl
end
/-! ### constants of the module: tuples, dicts with text keys -/
inductive GD
  | dat (d : PyData)
  | dic (kvs : List (Str × PyData))
mutual
def gisB (K : PySem.W.Frag) : PyData → Value → Bool
  | .none, .none => true
  | .bool a, .bool b => a == b
  | .int i, .int j _ => decide (i = j)
  | .str x, .str y _ => decide (x = y)
  | .tuple ds, .ref a => (match K.lookup a with
    | some ⟨.type c, _, .seq its _, _⟩ => decide (c = "tuple") && (decide (its.size ≤ 1000) && gisAllB K ds its.toList)
    | _ => false)
  | _, _ => false
def gisAllB (K : PySem.W.Frag) : List PyData → List Value → Bool
  | [], [] => true
  | d :: ds, u :: us => gisB K d u && gisAllB K ds us
  | _, _ => false
end
section
variable {K : PySem.W.Frag}
theorem gis_tup {ds : List PyData} {u : Value} (h : gisB K (.tuple ds) u = true) : ∃ (a : Addr) (o : Obj) (its : Array Value) (n : Nat), u = .ref a ∧ K.lookup a = some o ∧ o.cls = .type "tuple" ∧ o.data = .seq its n ∧ its.size ≤ 1000 ∧ gisAllB K ds its.toList = true := by
  cases u <;> first | (unfold gisB at h; cases h; done) | skip
  rename_i a
  unfold gisB at h
  cases q : K.lookup a with
  | none =>
    rw [q] at h
    cases h
  | some o =>
    obtain ⟨oc, od, dt, osl⟩ := o
    rw [q] at h
    cases oc <;> cases dt <;> first | (cases h; done) | skip
    rename_i c its n
    replace h : (decide (c = "tuple") && (decide (its.size ≤ 1000) && gisAllB K ds its.toList)) = true := h
    obtain ⟨h1, h2⟩ := Bool.and_eq_true_iff.mp h
    obtain ⟨h3, h4⟩ := Bool.and_eq_true_iff.mp h2
    have e : c = "tuple" := of_decide_eq_true h1
    exact ⟨a, _, its, n, rfl, q, by rw [e], rfl, of_decide_eq_true h3, h4⟩
mutual
theorem gis_ok : ∀ (d : PyData) (u : Value), gisB K d u = true → ∃ v, RelV v u ∧ ∀ H, Dp K H v d
  | .none, u, h => by
    cases u <;> first | (unfold gisB at h; cases h; done) | skip
    exact ⟨.non, rfl, fun _ => .non⟩
  | .bool a, u, h => by
    cases u <;> first | (unfold gisB at h; cases h; done) | skip
    rename_i b
    unfold gisB at h
    obtain rfl := beq_iff_eq.mp h
    exact ⟨.bl a, rfl, fun _ => .bl a⟩
  | .int i, u, h => by
    cases u <;> first | (unfold gisB at h; cases h; done) | skip
    rename_i j t
    unfold gisB at h
    obtain rfl := of_decide_eq_true h
    exact ⟨.int i, ⟨t, rfl⟩, fun _ => .int i⟩
  | .str x, u, h => by
    cases u <;> first | (unfold gisB at h; cases h; done) | skip
    rename_i y t
    unfold gisB at h
    obtain rfl := of_decide_eq_true h
    exact ⟨.str x, ⟨t, rfl⟩, fun _ => .str x⟩
  | .tuple ds, u, h => by
    obtain ⟨a, o, its, n, rfl, h1, h2, h3, h4, h5⟩ := gis_tup h
    obtain ⟨vs, r, hd⟩ := gisAll_ok ds its.toList h5
    exact ⟨.ref a, rfl, fun H => .tup (.inr ⟨o, its, n, h1, h2, h3, Nat.le_trans h4 (by decide), r⟩) (hd H)⟩
  | .list _, u, h => by unfold gisB at h; cases h
  | .dict _, u, h => by unfold gisB at h; cases h
theorem gisAll_ok : ∀ (ds : List PyData) (us : List Value), gisAllB K ds us = true → ∃ vs, Vals vs us ∧ ∀ H, DpAll K H vs ds
  | [], us, h => by
    cases us with
    | nil => exact ⟨[], .nil, fun _ => .nil⟩
    | cons => unfold gisAllB at h; cases h
  | d :: ds, us, h => by
    cases us with
    | nil => unfold gisAllB at h; cases h
    | cons u us =>
      unfold gisAllB at h
      obtain ⟨h1, h2⟩ := Bool.and_eq_true_iff.mp h
      obtain ⟨v, r, hv⟩ := gis_ok d u h1
      obtain ⟨vs, rs, hvs⟩ := gisAll_ok ds us h2
      exact ⟨v :: vs, .cons r rs, fun H => .cons (hv H) (hvs H)⟩
end
end
def gokB (K : PySem.W.Frag) (x : Str) : GD → Bool
  | .dat d => (match PySem.W.nsIn K mainGlobals x with
    | some (some u) => gisB K d u
    | _ => false)
  | .dic kvs => kvs.all fun q => match PySem.W.nsIn K (He.ga K x) q.1 with
    | some (some u) => gisB K q.2 u
    | _ => false
def exB (cs : List (Str × GD)) (K : PySem.W.Frag) : Bool := cs.all fun q => gokB K q.1 q.2
def tabs : List (Str × GD) → List He.Tab
  | [] => []
  | (x, .dic kvs) :: cs => (fun K => He.ga K x, kvs.map (·.1)) :: tabs cs
  | (_, .dat _) :: cs => tabs cs
/-- the constants stand -/
structure CsOk (cs : List (Str × GD)) (K : PySem.W.Frag) (w : World) : Prop where
  e : exB cs K = true
  t : (tabs cs).map (fun t => He.dicW K (t.1 K)) = (tabs cs).map fun t => some (He.keysIn w.params t.2)
section
variable {fa : List He.Fa} {fn : List He.DefD} {cs : List (Str × GD)} {K : PySem.W.Frag} {w : World} {x k : Str} {d : PyData} {ds : List PyData} {kvs : List (Str × PyData)} {h : Heap}
theorem CsOk.of (c : He.SaysX fa fn (tabs cs) [] (exB cs) w h K) : CsOk cs K w := ⟨c.more, congrArg (fun z : He.AlT => z.2) c.t⟩
theorem tab_eq : ∀ {cs : List (Str × GD)}, (tabs cs).map (fun t => He.dicW K (t.1 K)) = (tabs cs).map (fun t => some (He.keysIn w.params t.2)) → (x, GD.dic kvs) ∈ cs → He.dicW K (He.ga K x) = some (He.keysIn w.params (kvs.map (·.1)))
  | [], _, h => by cases h
  | (y, .dic ks) :: cs, e, h => by
    have e1 : He.dicW K (He.ga K y) :: (tabs cs).map (fun t => He.dicW K (t.1 K)) = some (He.keysIn w.params (ks.map (·.1))) :: (tabs cs).map fun t => some (He.keysIn w.params t.2) := e
    injection e1 with e2 e3
    rcases List.mem_cons.mp h with z | z
    · injection z with z1 z2
      injection z2 with z2
      subst z1
      subst z2
      exact e2
    · exact tab_eq e3 z
  | (y, .dat _) :: cs, e, h => by
    rcases List.mem_cons.mp h with z | z
    · injection z with z1 z2
      cases z2
    · exact tab_eq (cs := cs) e z
theorem CsOk.dat (c : CsOk cs K w) (h : (x, GD.dat d) ∈ cs) : ∃ u, PySem.W.nsIn K mainGlobals x = some (some u) ∧ gisB K d u = true := by
  have h1 : gokB K x (.dat d) = true := List.all_eq_true.mp c.e _ h
  unfold gokB at h1
  cases q : PySem.W.nsIn K mainGlobals x with
  | none =>
    rw [q] at h1
    cases h1
  | some r =>
    rw [q] at h1
    cases r with
    | none => cases h1
    | some u => exact ⟨u, rfl, h1⟩
theorem CsOk.tup (c : CsOk cs K w) (h : (x, GD.dat (.tuple ds)) ∈ cs) (H : Hp) : Dp K H (.ref (He.ga K x)) (.tuple ds) := by
  obtain ⟨u, h1, h2⟩ := c.dat h
  obtain ⟨v, r, hv⟩ := gis_ok _ u h2
  obtain ⟨a, _, _, _, rfl, _⟩ := gis_tup h2
  have e : He.ga K x = a := by
    unfold He.ga
    rw [h1]
  obtain rfl : v = .ref a := RelV.inj r rfl
  rw [e]
  exact hv H
theorem CsOk.kd (c : CsOk cs K w) (h : (x, GD.dic kvs) ∈ cs) : ∃ es n, KDict K w (He.ga K x) es n := He.dicW_ok (tab_eq c.t h)
theorem CsOk.key (c : CsOk cs K w) (h : (x, GD.dic kvs) ∈ cs) (hk : (k, d) ∈ kvs) : ∃ u v, PySem.W.nsIn K (He.ga K x) k = some (some u) ∧ RelV v u ∧ ∀ H, Dp K H v d := by
  have h1 : gokB K x (.dic kvs) = true := List.all_eq_true.mp c.e _ h
  unfold gokB at h1
  have h2 := List.all_eq_true.mp h1 _ hk
  cases q : PySem.W.nsIn K (He.ga K x) k with
  | none =>
    rw [q] at h2
    cases h2
  | some r =>
    rw [q] at h2
    cases r with
    | none => cases h2
    | some u =>
      obtain ⟨v, hv⟩ := gis_ok d u h2
      exact ⟨u, v, rfl, hv⟩
theorem keyOf_of {e : DictEntry} {y : Str} {i : Int} (h : He.keyOf e = some (y, i)) : ∃ t, e.key = .str y t := by
  unfold He.keyOf at h
  split at h
  · rename_i z t q
    injection h with h
    injection h with h1 h2
    subst h1
    exact ⟨t, q⟩
  · cases h
theorem keys_no {P : Params} : ∀ {l : List DictEntry} {ks : List Str}, l.map He.keyOf = He.keysIn P ks → k ∉ ks → (l.find? (·.key.isStr k)) = none ∧ (l.any (·.refKey)) = false
  | [], _, _, _ => ⟨rfl, rfl⟩
  | e :: l, [], h, _ => by cases h
  | e :: l, y :: ks, h, hk => by
    have h1 : He.keyOf e :: l.map He.keyOf = some (y, PyData.keyHash P y) :: He.keysIn P ks := h
    injection h1 with h2 h3
    obtain ⟨t, q⟩ := keyOf_of h2
    obtain ⟨i1, i2⟩ := keys_no h3 (fun z => hk (List.mem_cons_of_mem _ z))
    have n : e.key.isStr k = false := by
      rw [q]
      have : (y == k) = false := beq_eq_false_iff_ne.mpr fun z => hk (by rw [z]; exact List.mem_cons_self)
      first | exact this | (unfold Value.isStr; exact this) | simp [Value.isStr, this]
    refine ⟨by rw [List.find?_cons, n]; exact i1, ?_⟩
    rw [List.any_cons, i2, Bool.or_false]
    unfold DictEntry.refKey
    rw [q]
theorem CsOk.nokey (c : CsOk cs K w) (h : (x, GD.dic kvs) ∈ cs) (hk : k ∉ kvs.map (·.1)) : PySem.W.nsIn K (He.ga K x) k = some none := by
  have e := tab_eq c.t h
  obtain ⟨es, n, D⟩ := He.dicW_ok e
  unfold He.dicW at e
  rw [D.at_] at e
  replace e : (match decide ("dict" = "dict") && ((#[] : Array (Option Value)).isEmpty && !(He.ga K x == sysModules)) with
    | true => some (es.toList.map He.keyOf)
    | false => none) = some (He.keysIn w.params (kvs.map (·.1))) := e
  rw [D.low] at e
  replace e : some (es.toList.map He.keyOf) = some (He.keysIn w.params (kvs.map (·.1))) := e
  obtain ⟨i1, i2⟩ := keys_no (Option.some.inj e) hk
  unfold PySem.W.nsIn
  rw [D.at_]
  show (match es.toList.find? (·.key.isStr k) with
      | some e => some (some e.val)
      | none => if es.toList.any (·.refKey) then none else some none) = some none
  rw [i1, i2]
  rfl
theorem dp_strs {H : Hp} {a : Addr} {ks : List Str} (h : Dp K H (.ref a) (.tuple (ks.map .str))) : SqT K H a (ks.map V.str) := by
  have go : ∀ {ks : List Str} {xs : List V}, DpAll K H xs (ks.map .str) → xs = ks.map V.str := by
    intro ks
    induction ks with
    | nil => intro xs h; cases h; rfl
    | cons z ks ih =>
      intro xs h
      cases h with
      | cons h t =>
        cases h
        rw [ih t]
        rfl
  cases h with
  | tup h t =>
    rw [← go t]
    exact h
theorem dp_ints {H : Hp} {a : Addr} {ks : List Int} (h : Dp K H (.ref a) (.tuple (ks.map .int))) : SqT K H a (ks.map V.int) := by
  have go : ∀ {ks : List Int} {xs : List V}, DpAll K H xs (ks.map .int) → xs = ks.map V.int := by
    intro ks
    induction ks with
    | nil => intro xs h; cases h; rfl
    | cons z ks ih =>
      intro xs h
      cases h with
      | cons h t =>
        cases h
        rw [ih t]
        rfl
  cases h with
  | tup h t =>
    rw [← go t]
    exact h
end
/-! d[key], key in d of such a dict -/
def rIxG (K : PySem.W.Frag) (d : Addr) : R2 := fun x y H Q => ∃ (z : Str) (u : Value) (v : V), x = .ref d ∧ y = .str z ∧ PySem.W.nsIn K d z = some (some u) ∧ RelV v u ∧ Q v H
def rInG (K : PySem.W.Frag) (d : Addr) (neg : Bool) : R2 := fun x y H Q => ∃ (z : Str) (r : Option Value), x = .str z ∧ y = .ref d ∧ PySem.W.nsIn K d z = some r ∧ Q (.bl (if neg then !r.isSome else r.isSome)) H
section
variable {X : Cx} {cs : List (Str × GD)} {x : Str} {kvs : List (Str × PyData)}
theorem ix_G {K : PySem.W.Frag} {w0 : World} (hK : X.K = K) (hw : X.w = w0) (c : CsOk cs K w0) (h : (x, GD.dic kvs) ∈ cs) : IxR X (rIxG K (He.ga K x)) := by
  subst hK
  subst hw
  obtain ⟨es, n, D⟩ := c.kd h
  intro value slice pins s σ H x y v u Q I rx ry h hs
  obtain ⟨z, u0, v0, rfl, rfl, e, r, q⟩ := h
  have rx' := rx
  cases rx
  exact tail_any (kd_type D I) PySem.F.slot_dict_getitem.lookup (op_item_kd D pins s σ H _ _ _ u Q I rx' ry ⟨z, u0, v0, rfl, rfl, e, r, q⟩) hs
theorem op_inG {K : PySem.W.Frag} {w0 : World} (hK : X.K = K) (hw : X.w = w0) (c : CsOk cs K w0) (h : (x, GD.dic kvs) ∈ cs) : OpR X (compareOp .In) (rInG K (He.ga K x) false) := by
  subst hK
  subst hw
  obtain ⟨es, n, D⟩ := c.kd h
  intro pins s σ H x y v u Q I rx ry h
  obtain ⟨z, r, rfl, rfl, e, q⟩ := h
  exact op_in_kd D pins s σ H _ _ v u Q I rx ry ⟨z, r, rfl, rfl, e, q⟩
theorem op_niG {K : PySem.W.Frag} {w0 : World} (hK : X.K = K) (hw : X.w = w0) (c : CsOk cs K w0) (h : (x, GD.dic kvs) ∈ cs) : OpR X (compareOp .NotIn) (rInG K (He.ga K x) true) := by
  subst hK
  subst hw
  obtain ⟨es, n, D⟩ := c.kd h
  intro pins s σ H x y v u Q I rx ry h
  obtain ⟨z, r, rfl, rfl, e, q⟩ := h
  exact op_notIn_kd D pins s σ H _ _ v u Q I rx ry ⟨z, r, rfl, rfl, e, q⟩
theorem pe_ixG {K : PySem.W.Frag} {w0 : World} (hK : X.K = K) (hw : X.w = w0) (c : CsOk cs K w0) (h : (x, GD.dic kvs) ∈ cs) {a b : Expr} {ta tb : TE} {pos : Pos} (ha : PE X a ta) (hb : PE X b tb) (hs : PlainIx b := by exact fun _ _ => rfl) :
    PE X (.Subscript a b pos) (tOp (rIxG K (He.ga K x)) ta tb) := pe_ix (ix_G hK hw c h) ha hb hs
end
end G

set_option Elab.async false
set_option linter.all false
set_option maxRecDepth 100000
set_option maxHeartbeats 4000000
/-! Rules that take any kind of value, and the walk of a reading step by step. -/
namespace G
open PySem PySem.Spec PyProof.Rows L2

/-! ### a tuple, repeated -/
theorem tuple_mul1 (l : Addr) (items : Array Value) (n : Nat) (dd : Option Addr) (sl : Array (Option Value)) (u : Tok) :
    Meets (Builtin.«tuple.__mul__» ⟨[.ref l, .int 1 u], []⟩) (fun _ R s => s.heap.get? l = some { cls := .type "tuple", dict := dd, data := .seq items n, slots := sl } ∧
      R (.ok (.ret (Value.ref l))) s) :=
  .of_wp fun prog w A R s h => by
    obtain ⟨hp, g, d, tk, os⟩ := s
    obtain ⟨hl, h⟩ := h
    have f1 := AutoSeq1.idx_int
    have c0 : (decide ((1 : Int) < -(2 ^ 63)) || decide ((1 : Int) ≥ 2 ^ 63)) = false := by decide
    have c1 : (items.isEmpty || (1 : Int) == 1) = true := by rw [Bool.or_eq_true]; exact .inr rfl
    wp_walk using wpAny_loadPart' hl
    repeat (first
      | (refine wpAny_ite_false (decide_eq_false (by rw [c0]; exact Bool.false_ne_true)) ?_; wp_walk using wpAny_loadPart' hl)
      | (refine wpAny_ite_true (decide_eq_true c1) ?_; wp_walk using wpAny_loadPart' hl))
    exact ⟨_, rfl, h⟩
def rRepT1 (K : PySem.W.Frag) : R2 := fun x y H Q => ∃ l xs, x = .ref l ∧ y = .int 1 ∧ SqT K H l xs ∧ Q x H
theorem op_repT1 {X : Cx} : OpR X (binaryOp .Mult) (rRepT1 X.K) := by
  intro pins s σ H x y v u Q I rx ry h
  obtain ⟨l, xs, rfl, rfl, hT, q⟩ := h
  cases rx
  obtain ⟨t, rfl⟩ := ry
  obtain ⟨its, r, ⟨⟨cls, dd, data, sl⟩, ho, hc, n, hd⟩, hs⟩ := I.tuple hT
  simp only at hc hd
  subst hc hd
  exact wpAny_binaryOp_repeat_ref (T := "tuple") (U := "int") (by decide) ⟨_, ho, rfl⟩ (fun s' => typeIs_int s' 1 t) noFill_tuple_mul F.fills_int_mul F.slot_int_rmul repeat_tuple F.slot_int_index.lookup
    (call_meets F.slot_int_rmul (typeIs_int s 1 t) F.entry_int_rmul (F.args_int_rmul_2 _ _) (int_rmul_tuple 1 t l its.toArray n dd sl)
      ⟨ho, rfl, ⟨_, ho, rfl⟩, call_meets F.slot_tuple_mul ⟨_, ho, rfl⟩ F.entry_tuple_mul (F.args_tuple_mul_2 _ _) (tuple_mul1 l its.toArray n dd sl t) ⟨ho, ⟨.ref l, H, I, rfl, q⟩⟩⟩)
/-- t * k of a tuple, 1 to 1000 times -/
def rRepTU : R2 := fun x y H Q => ∃ l k xs, x = .ref l ∧ y = .int k ∧ H l = some (.tup xs) ∧ xs ≠ [] ∧ 1 ≤ k ∧ k ≤ 1000 ∧ xs.length ≤ 1000 ∧ ∀ p H', Same H H' → H' p = some (.tup (List.replicate k.toNat xs).flatten) → Q (.ref p) H'
theorem op_repTU {X : Cx} : OpR X (binaryOp .Mult) rRepTU := by
  intro pins s σ H x y v u Q I rx ry h
  obtain ⟨l, k, xs, rfl, rfl, hT, hne, h1, h2, hl, q⟩ := h
  by_cases hk : k = 1
  · subst hk
    refine op_repT1 pins s σ H _ _ v u Q I rx ry ⟨l, xs, rfl, rfl, SqT.of hT, q l H (Same.refl H) ?_⟩
    rw [hT]
    simp
  · exact op_repT pins s σ H _ _ v u Q I rx ry ⟨l, k, xs, rfl, rfl, SqT.of hT, hne, by omega, h2, hl, fun p hp => q p _ (Same.new hp) upd_same⟩
/-! ### rules for any kind of value -/
def rAddU (K : PySem.W.Frag) : R2 := fun x y H Q => match x, y with
  | .int i, .int j => Q (.int (i + j)) H
  | .str a, .str b => a.length + b.length ≤ sizeLine ∧ Q (.str (a ++ b)) H
  | .ref a, .ref b => rCat (.ref a) (.ref b) H Q ∨ rCatA K (.ref a) (.ref b) H Q
  | _, _ => False
def rMulU : R2 := fun x y H Q => match x, y with
  | .int i, .int j => (CMul i j ∨ CMulW i j) ∧ Q (.int (i * j)) H
  | .ref a, .int j => rRep (.ref a) (.int j) H Q ∨ rRepTU (.ref a) (.int j) H Q
  | _, _ => False
def rEqU (K : PySem.W.Frag) (neg : Bool) : R2 := fun x y H Q => (scal x y = true ∧ Q (.bl (if neg then !decide (x = y) else decide (x = y))) H) ∨ (if neg then rNeD K x y H Q else rEqD K x y H Q)
/-- the heap's dict at a holds o at y -/
def rInDT (K : PySem.W.Frag) (neg : Bool) : R2 := fun x y H Q => ∃ d ds, Dp K H x d ∧ (Dp K H y (.tuple ds) ∨ Dp K H y (.list ds)) ∧ SeqAt.shaped d = true ∧ PyData.canLayAll0 ds = true ∧ Q (.bl (if neg then !(ds.any fun z => PyData.eqv z d) else ds.any fun z => PyData.eqv z d)) H
theorem hu65 {A : Around} {k : Nat} (hr : Room k A) : A.units + 65 < cLine := by have := hr.un; omega
theorem op_inDT {X : Cx} (hu : X.A.units + 65 < cLine) : OpR X (compareOp .In) (rInDT X.K false) := by
  intro pins s σ H x y v u Q I rx ry h
  obtain ⟨d, ds, hd, he, sd, se, q⟩ := h
  obtain ⟨as, r1⟩ := Dp.reads I d x v hd rx
  rcases he with he | he
  · obtain ⟨bs, r2⟩ := Dp.reads I (.tuple ds) y u he ry
    exact SeqAt.in_tuple_reads r2 r1 se (SeqAt.canLay_of_shaped sd) (room_in_shaped sd hu) ⟨.bl _, H, I, rfl, q⟩
  · obtain ⟨bs, r2⟩ := Dp.reads I (.list ds) y u he ry
    exact SeqAt.in_list_reads r2 r1 se (SeqAt.canLay_of_shaped sd) (room_in_shaped sd hu) ⟨.bl _, H, I, rfl, q⟩
theorem op_niDT {X : Cx} (hu : X.A.units + 65 < cLine) : OpR X (compareOp .NotIn) (rInDT X.K true) := by
  intro pins s σ H x y v u Q I rx ry h
  obtain ⟨d, ds, hd, he, sd, se, q⟩ := h
  obtain ⟨as, r1⟩ := Dp.reads I d x v hd rx
  rcases he with he | he
  · obtain ⟨bs, r2⟩ := Dp.reads I (.tuple ds) y u he ry
    exact SeqAt.notIn_tuple_reads r2 r1 se (SeqAt.canLay_of_shaped sd) (room_in_shaped sd hu) ⟨.bl _, H, I, rfl, q⟩
  · obtain ⟨bs, r2⟩ := Dp.reads I (.list ds) y u he ry
    exact SeqAt.notIn_list_reads r2 r1 se (SeqAt.canLay_of_shaped sd) (room_in_shaped sd hu) ⟨.bl _, H, I, rfl, q⟩
def rInU (K : PySem.W.Frag) (neg : Bool) : R2 := fun x y H Q => rIn K neg x y H Q ∨ (∃ a o, y = .ref a ∧ DGet H a x o ∧ Q (.bl (if neg then !o.isSome else o.isSome)) H) ∨
  (∃ c z, x = .str ⟨#[c]⟩ ∧ y = .str z ∧ Q (.bl (if neg then !decide (c ∈ z.cps.toList) else decide (c ∈ z.cps.toList))) H) ∨ rInDT K neg x y H Q
def rIxU (K : PySem.W.Frag) : R2 := fun x y H Q => rIxL K x y H Q ∨ rIxT K x y H Q ∨ rIxS x y H Q ∨ ∃ a v, x = .ref a ∧ DGet H a y (some v) ∧ Q v H
def rLenU (K : PySem.W.Frag) : List V → Hp → VK → Prop := fun xs H Q => (∃ x n, xs = [x] ∧ LenV K x H n ∧ Q (.int n) H) ∨ ∃ a kvs, xs = [.ref a] ∧ H a = some (.dK kvs) ∧ Q (.int (kvs.length : Nat)) H
def rAbs : List V → Hp → VK → Prop := fun xs H Q => ∃ i, xs = [.int i] ∧ Q (.int (if i < 0 then -i else i)) H
def rMax2 : List V → Hp → VK → Prop := fun xs H Q => ∃ i j, xs = [.int i, .int j] ∧ Q (.int (if j > i then j else i)) H
def rMin2 : List V → Hp → VK → Prop := fun xs H Q => ∃ i j, xs = [.int i, .int j] ∧ Q (.int (if j < i then j else i)) H
def rInt1 : List V → Hp → VK → Prop := fun xs H Q => (∃ i, xs = [.int i] ∧ Q (.int i) H) ∨ ∃ k, xs = [.bl k] ∧ Q (.int (if k then 1 else 0)) H
def rStrI : List V → Hp → VK → Prop := fun xs H Q => ∃ i, xs = [.int i] ∧ i.natAbs.log2 < 1920 ∧ Q (.str (toString i)) H
def rCmpI (p : Int → Int → Bool) : R2 := rI0 fun i j => .bl (p i j)

section
variable {X : Cx} {a b c : Expr} {ta tb tc : TE} {pos : Pos}
theorem op_addU {K : PySem.W.Frag} (hK : X.K = K) : OpR X (binaryOp .Add) (rAddU K) := by
  subst hK
  intro pins s σ H x y v u Q I rx ry h
  cases x <;> cases y <;> first | exact h.elim | skip
  · exact op_add pins s σ H _ _ v u Q I rx ry ⟨_, _, rfl, rfl, h⟩
  · exact op_add_str pins s σ H _ _ v u Q I rx ry ⟨_, _, rfl, rfl, h.1, h.2⟩
  · rcases h with h | h
    · exact op_cat pins s σ H _ _ v u Q I rx ry h
    · exact op_catA pins s σ H _ _ v u Q I rx ry h
theorem op_mulU : OpR X (binaryOp .Mult) rMulU := by
  intro pins s σ H x y v u Q I rx ry h
  cases x <;> cases y <;> first | exact h.elim | skip
  · rcases h with ⟨h | h, q⟩
    · exact op_mul pins s σ H _ _ v u Q I rx ry ⟨_, _, rfl, rfl, h, q⟩
    · exact op_mulW pins s σ H _ _ v u Q I rx ry ⟨_, _, rfl, rfl, h, q⟩
  · rcases h with h | h
    · exact op_rep pins s σ H _ _ v u Q I rx ry h
    · exact op_repTU pins s σ H _ _ v u Q I rx ry h
theorem op_eqU {K : PySem.W.Frag} (hK : X.K = K) (hu : X.A.units + 64 < cLine) : OpR X (compareOp .Eq) (rEqU K false) := by
  subst hK
  intro pins s σ H x y v u Q I rx ry h
  rcases h with ⟨hs, q⟩ | h
  · exact op_eq pins s σ H x y v u Q I rx ry ⟨hs, q⟩
  · exact op_eqD hu pins s σ H x y v u Q I rx ry h
theorem op_neU {K : PySem.W.Frag} (hK : X.K = K) (hu : X.A.units + 64 < cLine) : OpR X (compareOp .NotEq) (rEqU K true) := by
  subst hK
  intro pins s σ H x y v u Q I rx ry h
  rcases h with ⟨hs, q⟩ | h
  · exact op_ne pins s σ H x y v u Q I rx ry ⟨hs, q⟩
  · exact op_neD hu pins s σ H x y v u Q I rx ry h
theorem op_inU {K : PySem.W.Frag} (hK : X.K = K) (hu : X.A.units + 65 < cLine) : OpR X (compareOp .In) (rInU K false) := by
  subst hK
  intro pins s σ H x y v u Q I rx ry h
  rcases h with h | ⟨a, o, rfl, g, q⟩ | ⟨c, z, rfl, rfl, q⟩ | h
  · exact op_in_seq pins s σ H x y v u Q I rx ry h
  · obtain rfl : u = Value.ref a := ry
    exact d_in (by omega) I g rx fun s1 I1 => ⟨.bl _, H, I1, rfl, q⟩
  · exact op_in_sign pins s σ H _ _ v u Q I rx ry ⟨c, z, rfl, rfl, q⟩
  · exact op_inDT hu pins s σ H x y v u Q I rx ry h
theorem op_niU {K : PySem.W.Frag} (hK : X.K = K) (hu : X.A.units + 65 < cLine) : OpR X (compareOp .NotIn) (rInU K true) := by
  subst hK
  intro pins s σ H x y v u Q I rx ry h
  rcases h with h | ⟨a, o, rfl, g, q⟩ | ⟨c, z, rfl, rfl, q⟩ | h
  · exact op_notIn_seq pins s σ H x y v u Q I rx ry h
  · obtain rfl : u = Value.ref a := ry
    exact d_notIn (by omega) I g rx fun s1 I1 => ⟨.bl _, H, I1, rfl, q⟩
  · exact op_notIn_sign pins s σ H _ _ v u Q I rx ry ⟨c, z, rfl, rfl, q⟩
  · exact op_niDT hu pins s σ H x y v u Q I rx ry h
theorem ix_dict (hu : X.A.units + 1 < cLine) : IxR X (fun x y H Q => ∃ a v, x = .ref a ∧ DGet H a y (some v) ∧ Q v H) := by
  intro value slice pins s σ H x y v u Q I rx ry h hs
  obtain ⟨a, z, rfl, g, q⟩ := h
  obtain rfl : v = Value.ref a := rx
  exact tail_any (dict_typeIs I g) PySem.F.slot_dict_getitem.lookup (d_getItem hu I g ry fun w' s' I' rw' => ⟨z, H, I', rw', q⟩) hs
theorem ix_U {K : PySem.W.Frag} (hK : X.K = K) (hu : X.A.units + 1 < cLine) : IxR X (rIxU K) := by
  subst hK
  exact ix_list.or (ix_tup.or (ix_str.or (ix_dict hu)))
theorem pe_ixU {K : PySem.W.Frag} (hK : X.K = K) {a b : Expr} {ta tb : TE} {pos : Pos} (hu : X.A.units + 1 < cLine) (ha : PE X a ta) (hb : PE X b tb) (hs : PlainIx b := by exact fun _ _ => rfl) : PE X (.Subscript a b pos) (tOp (rIxU K) ta tb) := pe_ix (ix_U hK hu) ha hb hs
theorem c_len {K : PySem.W.Frag} (hK : X.K = K) : CallR X (.builtin "len") (rLenU K) := by
  subst hK
  intro pins s σ H xs us Q I r h
  rcases h with h | ⟨a, kvs, rfl, e, q⟩
  · exact call_len pins s σ H xs us Q I r h
  · rw [Vals.ref1 r]
    exact d_len I (.inl e) fun t s1 I1 => ⟨.int _, H, I1, ⟨_, rfl⟩, q⟩
theorem c_abs : CallR X (.builtin "abs") rAbs := call_abs
theorem c_max2 (hc : X.calm = true) : CallR X (.builtin "max") rMax2 := call_max2 hc
theorem c_min2 (hc : X.calm = true) : CallR X (.builtin "min") rMin2 := call_min2 hc
theorem c_int : CallR X (.type "int") rInt1 := call_int1
theorem c_str : CallR X (.type "str") rStrI := call_str_int
theorem c_isi {K : PySem.W.Frag} (hK : X.K = K) : CallR X (.builtin "isinstance") (rIsi K) := by
  subst hK
  exact call_isi
theorem o_lt : OpR X (compareOp .Lt) (rCmpI fun i j => decide (i < j)) := op_lt
theorem o_le : OpR X (compareOp .LtE) (rCmpI fun i j => decide (i ≤ j)) := op_le
theorem o_gt : OpR X (compareOp .Gt) (rCmpI fun i j => decide (j < i)) := op_gt
theorem o_ge : OpR X (compareOp .GtE) (rCmpI fun i j => decide (j ≤ i)) := op_ge
/-- what is walked: a list or a tuple -/
def iSeq (K : PySem.W.Frag) (tl : TE) : TI := fun σ H R => tl σ H fun x H1 => (∃ a xs, x = .ref a ∧ SqL K H1 a xs ∧ R (Itl K a) H1) ∨ ∃ a xs, x = .ref a ∧ SqT K H1 a xs ∧ R (Itt K a) H1
/-- an iterator that was just laid -/
theorem pie_new {pins : List (Addr × Obj)} {σ : L2.St} {H : Hp} {s : Shared} {R : It → Hp → Prop} {tg : Expr} {o : Obj} {J : It} {tn : Nat → Heap → Prop} (I : Inv X pins σ H s)
    (tu : Turn X.prog X.w X.K tg J [s.heap.objs.size] s.heap.objs.size tn) (h0 : tn 0 (s.heap.push o)) (q : R J H) : PIE X pins σ tg R (.ref s.heap.objs.size) { s with heap := s.heap.push o } := by
  have k := I.kept (t' := s.toks) (h' := s.heap.push o) (fun b u e => Heap.get?_push_of_some _ e)
  refine ⟨_, _, tn, J, H, rfl, k, tu, h0, ?_, q⟩
  intro b hb
  rw [List.mem_singleton.mp hb]
  exact I.fpOk (Nat.le_refl _) (I.hok.fresh (Nat.le_refl _))
theorem pi_seq {K : PySem.W.Frag} (hK : X.K = K) {tg l : Expr} {tl : TE} (hl : PE X l tl) : PI X tg l (iSeq K tl) := by
  subst hK
  refine ⟨fun pins s σ H R I h => thn (hl.run pins s σ H _ I h) ?_⟩
  rintro v s1 ⟨x, H1, I1, r1, ⟨a, xs, rfl, hq, q⟩ | ⟨a, xs, rfl, hq, q⟩⟩ <;> cases r1
  · obtain ⟨its, _, p, _⟩ := I1.list hq
    exact wpAny_pyIter_list p.isList (pie_new I1 (turn_list a _) ⟨_, Heap.get?_push_size _ rfl, rfl, rfl⟩ q)
  · obtain ⟨its, _, p, _⟩ := I1.tuple hq
    exact wpAny_pyIter_tuple (show s1.heap.IsTuple a its.toArray from p) (pie_new I1 (turn_tuple a _) ⟨_, Heap.get?_push_size _ rfl, rfl, rfl⟩ q)
/-- a value's truth as a test -/
def tTru (K : PySem.W.Frag) (ta : TE) : TT := fun σ H Q => ta σ H fun x H' => ∃ k, TruV K x H' k ∧ Q k H'
theorem pt_tru {K : PySem.W.Frag} (hK : X.K = K) (ha : PE X a ta) (he : ∀ whole, isTrue a X.env whole = (do let v ← whole; standAt a.pos; holding [v] (truthy v)) := by intro _; rfl) : PT X a (tTru K ta) := by
  subst hK
  exact pt_truth ha he
end

/-! ### the steps of a reading -/
/-- a new tuple, a new list, of these -/
def rTupN (xs : List V) : Hp → VK → Prop := fun H Q => xs.length ≤ sizeLine ∧ ∀ p, H p = none → Q (.ref p) (upd H p (.tup xs))
def rLstN (xs : List V) : Hp → VK → Prop := fun H Q => xs.length ≤ sizeLine ∧ ∀ p, H p = none → Q (.ref p) (upd H p (.lst xs))
section
variable {K : PySem.W.Frag} {σ : L2.St} {H : Hp} {D : Ends} {t u : TS} {te ta tb tc : TE} {tt tt' : TT} {Q : VK} {QB : Bool → Hp → Prop} {QA : List V → Hp → Prop} {QS : L2.St → Hp → Prop} {g : TG} {r r' : R2} {v x y : V} {i j : Int} {b c : Bool} {k : Nat} {tA tA' : TA} {A B : Prop} {p q : Prop} {sp : Sp} {E : XK} {dvs vs : List V} {xs ys : List V} {a d C dx : Addr} {fs : List (Str × V)} {f : Str} {z z' : Str}
theorem g_seq (h : t { nx := u D, rt := D.rt, bk := D.bk, ct := D.ct } σ H) : tSeq t u D σ H := h
theorem g_next (h : D.nx σ H) : tNext D σ H := h
theorem g_asg (h : te σ H fun x H1 => g x σ H1 D.nx) : tAsg te g D σ H := h
theorem g_drop (h : te σ H fun _ H1 => D.nx σ H1) : tDrop te D σ H := h
theorem g_ret (h : te σ H D.rt) : tRet te D σ H := h
theorem g_retN (h : D.rt .non H) : tRetN D σ H := h
theorem g_brk (h : D.bk σ H) : tBreak D σ H := h
theorem g_ct (h : D.ct σ H) : tCont D σ H := h
theorem g_ifS (h : tt σ H fun b H1 => if b = true then t D σ H1 else u D σ H1) : tIfS tt t u D σ H := h
theorem g_name (h : QS (σ.set k (some v)) H) : gName k v σ H QS := h
theorem g_aug {ti : TIp} (e : σ[k]? = some (some x)) (h : te σ H fun y H1 => ti x y H1 fun z H2 => D.nx (σ.set k (some z)) H2) : tAug k te ti D σ H := ⟨x, e, h⟩
theorem g_ipI {f : Int → Int → Int} (h : Q (.int (f i j)) H) : ipI f (.int i) (.int j) H Q := ⟨i, j, rfl, rfl, h⟩
theorem g_var (e : σ[k]? = some (some v)) (h : Q v H) : tVar k σ H Q := ⟨v, e, h⟩
theorem g_c (h : Q v H) : tC v σ H Q := h
theorem g_op (h : ta σ H fun x H1 => tb σ H1 fun y H2 => r x y H2 Q) : tOp r ta tb σ H Q := h
theorem g_un {r : V → Hp → VK → Prop} (h : ta σ H fun x H1 => r x H1 Q) : tUn r ta σ H Q := h
theorem g_rU {g : Int → V} (h : Q (g i) H) : rU g (.int i) H Q := ⟨i, rfl, h⟩
theorem g_I0 {g : Int → Int → V} (h : Q (g i j) H) : rI0 g (.int i) (.int j) H Q := ⟨i, j, rfl, rfl, h⟩
theorem g_I {C : Int → Int → Prop} {g : Int → Int → V} (hc : C i j) (h : Q (g i j) H) : rI C g (.int i) (.int j) H Q := ⟨i, j, rfl, rfl, hc, h⟩
theorem g_cmpI {p : Int → Int → Bool} (h : Q (.bl (p i j)) H) : rCmpI p (.int i) (.int j) H Q := ⟨i, j, rfl, rfl, h⟩
theorem g_addI (h : Q (.int (i + j)) H) : rAddU K (.int i) (.int j) H Q := h
theorem g_addS (hl : z.length + z'.length ≤ sizeLine) (h : Q (.str (z ++ z')) H) : rAddU K (.str z) (.str z') H Q := ⟨hl, h⟩
theorem g_mulI (hc : CMul i j ∨ CMulW i j) (h : Q (.int (i * j)) H) : rMulU (.int i) (.int j) H Q := ⟨hc, h⟩
theorem g_eqI (h : Q (.bl (decide (i = j))) H) : rEqU K false (.int i) (.int j) H Q := .inl ⟨rfl, by
  have e : decide (V.int i = V.int j) = decide (i = j) := by simp
  show Q (.bl (decide (V.int i = V.int j))) H
  rw [e]
  exact h⟩
theorem g_neI (h : Q (.bl (!decide (i = j))) H) : rEqU K true (.int i) (.int j) H Q := .inl ⟨rfl, by
  have e : decide (V.int i = V.int j) = decide (i = j) := by simp
  show Q (.bl (!decide (V.int i = V.int j))) H
  rw [e]
  exact h⟩
theorem g_eqS (h : Q (.bl (decide (z = z'))) H) : rEqU K false (.str z) (.str z') H Q := .inl ⟨rfl, by
  have e : decide (V.str z = V.str z') = decide (z = z') := by simp
  show Q (.bl (decide (V.str z = V.str z'))) H
  rw [e]
  exact h⟩
theorem g_neS (h : Q (.bl (!decide (z = z'))) H) : rEqU K true (.str z) (.str z') H Q := .inl ⟨rfl, by
  have e : decide (V.str z = V.str z') = decide (z = z') := by simp
  show Q (.bl (!decide (V.str z = V.str z'))) H
  rw [e]
  exact h⟩
theorem g_eqB (h : Q (.bl (decide (b = c))) H) : rEqU K false (.bl b) (.bl c) H Q := .inl ⟨rfl, by
  have e : decide (V.bl b = V.bl c) = decide (b = c) := by simp
  show Q (.bl (decide (V.bl b = V.bl c))) H
  rw [e]
  exact h⟩
theorem g_neB (h : Q (.bl (!decide (b = c))) H) : rEqU K true (.bl b) (.bl c) H Q := .inl ⟨rfl, by
  have e : decide (V.bl b = V.bl c) = decide (b = c) := by simp
  show Q (.bl (!decide (V.bl b = V.bl c))) H
  rw [e]
  exact h⟩
theorem g_eqD {d e : PyData} (h1 : Dp K H x d) (h2 : Dp K H y e) (s1 : SeqAt.shaped d = true) (s2 : SeqAt.shaped e = true) (h : Q (.bl (PyData.eqv d e)) H) : rEqU K false x y H Q := .inr ⟨d, e, h1, h2, s1, s2, h⟩
theorem g_neD {d e : PyData} (h1 : Dp K H x d) (h2 : Dp K H y e) (s1 : SeqAt.shaped d = true) (s2 : SeqAt.shaped e = true) (h : Q (.bl (!PyData.eqv d e)) H) : rEqU K true x y H Q := .inr ⟨d, e, h1, h2, s1, s2, h⟩
theorem g_test (h : te σ H fun x H' => ∃ k, x = .bl k ∧ QB k H') : tTest te σ H QB := h
theorem g_B (h : te σ H fun x H' => ∃ k, x = .bl k ∧ QB k H') : tB te σ H QB := h
theorem g_exb {R : Bool → Prop} (h : R b) : ∃ k, V.bl b = V.bl k ∧ R k := ⟨b, rfl, h⟩
theorem g_tru (h : te σ H fun x H' => ∃ k, TruV K x H' k ∧ QB k H') : tTru K te σ H QB := h
theorem g_truB {R : Bool → Prop} (h : R b) : ∃ k, TruV K (.bl b) H k ∧ R k := ⟨b, rfl, h⟩
theorem g_truI {R : Bool → Prop} (h : R (i != 0)) : ∃ k, TruV K (.int i) H k ∧ R k := ⟨_, rfl, h⟩
theorem g_truN {R : Bool → Prop} (h : R false) : ∃ k, TruV K .non H k ∧ R k := ⟨_, rfl, h⟩
theorem g_not (h : tt σ H fun c H1 => QB (!c) H1) : tNot tt σ H QB := h
theorem g_and (h : tt σ H fun c H1 => if c = true then tt' σ H1 QB else QB false H1) : tAnd tt tt' σ H QB := h
theorem g_or (h : tt σ H fun c H1 => if c = true then QB true H1 else tt' σ H1 QB) : tOr tt tt' σ H QB := h
theorem g_notV (h : ta σ H fun x H1 => ∃ c, x = .bl c ∧ Q (.bl (!c)) H1) : tNotV ta σ H Q := h
theorem g_andV (h : ta σ H fun x H1 => ∃ c, x = .bl c ∧ if c = true then tb σ H1 Q else Q (.bl false) H1) : tAndV ta tb σ H Q := h
theorem g_orV (h : ta σ H fun x H1 => ∃ c, x = .bl c ∧ if c = true then Q (.bl true) H1 else tb σ H1 Q) : tOrV ta tb σ H Q := h
theorem g_ifE (h : tt σ H fun c H1 => if c = true then ta σ H1 Q else tb σ H1 Q) : tIf tt ta tb σ H Q := h
theorem g_chain (h : ta σ H fun x H1 => tb σ H1 fun y H2 => r x y H2 fun z H3 => ∃ k, z = .bl k ∧ (if k = true then tc σ H3 fun w' H4 => r' y w' H4 Q else Q (.bl false) H3)) : tChain r r' ta tb tc σ H Q := h
theorem g_nilA (h : QA [] H) : tNil σ H QA := h
theorem g_consA (h : ta σ H fun x H1 => tA σ H1 fun xs H2 => QA (x :: xs) H2) : tCons ta tA σ H QA := h
theorem g_tup (h : tA σ H fun xs H1 => rTupN xs H1 Q) : tTup tA σ H Q := h
theorem g_lst (h : tA σ H fun xs H1 => rLstN xs H1 Q) : tLst tA σ H Q := h
theorem g_cb {r : List V → Hp → VK → Prop} (h : tA σ H fun vs H1 => r vs H1 Q) : tCB r tA σ H Q := h
theorem g_call (h : tA σ H fun vs H1 => sp (vs ++ dvs) H1 Q E) : tCall sp dvs E tA σ H Q := h
theorem g_bm {T : String} {r : V → List V → Hp → VK → Prop} (h : te σ H fun x H1 => tyV K T x H1 ∧ tA σ H1 fun xs H2 => r x xs H2 Q) : tBM K T r te tA σ H Q := h
theorem g_bm0 {T : String} {r : V → List V → Hp → VK → Prop} (h : te σ H fun x H1 => tyV K T x H1 ∧ r x [] H1 Q) : tBM0 K T r te σ H Q := h
theorem g_lenL (hl : SqL K H a xs) (h : Q (.int (xs.length : Nat)) H) : rLenU K [.ref a] H Q := .inl ⟨_, _, rfl, .inl ⟨_, hl, rfl⟩, h⟩
theorem g_lenT (hl : SqT K H a xs) (h : Q (.int (xs.length : Nat)) H) : rLenU K [.ref a] H Q := .inl ⟨_, _, rfl, .inr ⟨_, hl, rfl⟩, h⟩
theorem g_lenS (hl : z.length ≤ sizeLine) (h : Q (.int (z.length : Nat)) H) : rLenU K [.str z] H Q := .inl ⟨_, _, rfl, ⟨hl, rfl⟩, h⟩
theorem g_abs (h : Q (.int (if i < 0 then -i else i)) H) : rAbs [.int i] H Q := ⟨i, rfl, h⟩
theorem g_max2 (h : Q (.int (if j > i then j else i)) H) : rMax2 [.int i, .int j] H Q := ⟨i, j, rfl, h⟩
theorem g_min2 (h : Q (.int (if j < i then j else i)) H) : rMin2 [.int i, .int j] H Q := ⟨i, j, rfl, h⟩
theorem g_intI (h : Q (.int i) H) : rInt1 [.int i] H Q := .inl ⟨i, rfl, h⟩
theorem g_intB (h : Q (.int (if b then 1 else 0)) H) : rInt1 [.bl b] H Q := .inr ⟨b, rfl, h⟩
theorem g_ixL {n : Nat} (hl : SqL K H a xs) (e : i = (n : Int)) (hv : xs[n]? = some v) (h : Q v H) : rIxU K (.ref a) (.int i) H Q := .inl ⟨_, _, _, _, rfl, rfl, hl, by rw [e]; exact atI_nat hv, h⟩
theorem g_ixL' (hl : SqL K H a xs) (hv : atI xs i = some v) (h : Q v H) : rIxU K (.ref a) (.int i) H Q := .inl ⟨_, _, _, _, rfl, rfl, hl, hv, h⟩
theorem g_ixT {n : Nat} (hl : SqT K H a xs) (e : i = (n : Int)) (hv : xs[n]? = some v) (h : Q v H) : rIxU K (.ref a) (.int i) H Q := .inr (.inl ⟨_, _, _, _, rfl, rfl, hl, by rw [e]; exact atI_nat hv, h⟩)
theorem g_ixT' (hl : SqT K H a xs) (hv : atI xs i = some v) (h : Q v H) : rIxU K (.ref a) (.int i) H Q := .inr (.inl ⟨_, _, _, _, rfl, rfl, hl, hv, h⟩)
theorem g_ixD (g : DGet H a x (some v)) (h : Q v H) : rIxU K (.ref a) x H Q := .inr (.inr (.inr ⟨_, _, rfl, g, h⟩))
theorem g_isi {t u : Value} (hc : ClsV y u) (ht : TyX K H x t) (hk : PySem.W.kitOne K t u = some b) (h : Q (.bl b) H) : rIsi K [x, y] H Q := ⟨x, y, t, u, b, rfl, hc, ht, hk, h⟩
/-- branches -/
theorem g_if [Decidable p] (h1 : p → A) (h2 : ¬ p → B) : if decide p = true then A else B := by
  by_cases h : p
  · rw [if_pos (decide_eq_true h)]
    exact h1 h
  · rw [if_neg fun z => h (of_decide_eq_true z)]
    exact h2 h
theorem g_ifN [Decidable p] (h1 : ¬ p → A) (h2 : p → B) : if (!decide p) = true then A else B := by
  by_cases h : p
  · rw [decide_eq_true h]
    exact h2 h
  · rw [decide_eq_false h]
    exact h1 h
theorem g_ifB (h1 : b = true → A) (h2 : b = false → B) : if b = true then A else B := by
  cases b with
  | true => exact h1 rfl
  | false => exact h2 rfl
theorem g_ifBn (h1 : b = false → A) (h2 : b = true → B) : if (!b) = true then A else B := by
  cases b with
  | true => exact h2 rfl
  | false => exact h1 rfl
theorem g_ifT (h : A) : if true = true then A else B := h
theorem g_ifF (h : B) : if false = true then A else B := h
theorem g_ifNT (h : B) : if (!true) = true then A else B := h
theorem g_ifNF (h : A) : if (!false) = true then A else B := h
/-- a list grown -/
theorem g_append {L : List (Addr × HO)} (M : Has H L) (n : Nat) (h : L[n]? = some (a, .lst xs)) (hl : xs.length < sizeLine) (k : Has (upd H a (.lst (xs ++ [y]))) (L.set n (a, .lst (xs ++ [y]))) → Q .non (upd H a (.lst (xs ++ [y])))) : rAppend (.ref a) [y] H Q :=
  ⟨a, xs, y, rfl, rfl, M.get n h, hl, k (M.set n h)⟩
theorem g_setL {L : List (Addr × HO)} {R : Hp → Prop} {m : Nat} (M : Has H L) (n : Nat) (h : L[n]? = some (a, .lst xs)) (hi : ixN xs.length i = some m) (k : Has (upd H a (.lst (xs.set m y))) (L.set n (a, .lst (xs.set m y))) → R (upd H a (.lst (xs.set m y)))) : rSetL (.ref a) (.int i) y H R :=
  ⟨a, xs, i, m, rfl, rfl, M.get n h, hi, k (M.set n h)⟩
/-- a new object -/
theorem g_new {L : List (Addr × HO)} {o : HO} {R : Addr → Hp → Prop} (M : Has H L) (k : ∀ p, H p = none → Has (upd H p o) (L ++ [(p, o)]) → R p (upd H p o)) : ∀ p, H p = none → R p (upd H p o) := fun p hp => k p hp (M.new hp)
end
theorem mul_ok {i j : Int} (h : -18446744073709551616 < j) (h2 : j < 18446744073709551616) : CMul i j ∨ CMulW i j := .inl (.inr ⟨h, h2⟩)
theorem mul_ok' {i j : Int} (h : -18446744073709551616 < i) (h2 : i < 18446744073709551616) : CMul i j ∨ CMulW i j := .inl (.inl ⟨h, h2⟩)
theorem cdivW_of {i j : Int} (h : 0 < j) (h2 : j < 2 ^ 64) : CDivW i j := wide_div h (b := 64) (by omega) (by decide) (by decide)
theorem cpow_of {i j : Int} (h : 0 ≤ j) (h2 : j ≤ 1000000) (h3 : i.natAbs < 2 ^ 64) : CPow i j := ⟨h, h2, h3⟩

/-! ### loops -/
/-- what a for asks once its iterator has come -/
def ForW (g : TG) (tb : TS) (D : Ends) (σ : L2.St) : It → Hp → Prop := fun J H1 => ∃ W : Nat → Nat → L2.St → Hp → Prop, (∃ m, W 0 m σ H1) ∧ ∀ i m σ H, W i m σ H →
  (J.stop i H ∧ D.nx σ H) ∨ (J.go i H ∧ ∃ N : L2.St → Hp → Prop, (∀ σ' H', N σ' H' → ∃ m', m' < m ∧ W (i + 1) m' σ' H') ∧ ∀ x H', J.yld i H x H' → g x σ H' fun σ2 H2 => tb { D with nx := N, ct := N, bk := D.nx } σ2 H2)
def rR1 : List V → Hp → (It → Hp → Prop) → Prop := fun vs H R => ∃ j : Int, vs = [.int j] ∧ -(2 ^ 62) ≤ j ∧ j < 2 ^ 62 ∧ R (Itr 0 j.toNat) H
def rR2 : List V → Hp → (It → Hp → Prop) → Prop := fun vs H R => ∃ i j : Int, vs = [.int i, .int j] ∧ (-(2 ^ 62) ≤ i ∧ i < 2 ^ 62 ∧ -(2 ^ 62) ≤ j ∧ j < 2 ^ 62) ∧ R (Itr i (j - i).toNat) H
def iR (r : List V → Hp → (It → Hp → Prop) → Prop) (ta : TA) : TI := fun σ H R => ta σ H fun vs H1 => r vs H1 R
theorem pi_r1 {X : Cx} {tg a : Expr} {ta : TA} {p pos : Pos} (hg : Gl X "range") (hm : X.mg "range" = none) (ha : PA X [a] ta) (hs : starEach [a] X.env = [(false, eval a X.env)] := by rfl) : PI X tg (.Call (.Name "range" p) [a] [] pos) (iR rR1 ta) := pi_range1 hg hm ha hs
theorem pi_r2 {X : Cx} {tg a b : Expr} {ta : TA} {p pos : Pos} (hg : Gl X "range") (hm : X.mg "range" = none) (ha : PA X [a, b] ta) (hs : starEach [a, b] X.env = [(false, eval a X.env), (false, eval b X.env)] := by rfl) (hs2 : starEach [b] X.env = [(false, eval b X.env)] := by rfl) : PI X tg (.Call (.Name "range" p) [a, b] [] pos) (iR rR2 ta) := pi_range2 hg hm ha hs hs2
section
variable {K : PySem.W.Frag} {σ : L2.St} {H : Hp} {D : Ends} {wi : TI} {g : TG} {tb : TS} {ta : TA} {te : TE} {R : It → Hp → Prop} {r : List V → Hp → (It → Hp → Prop) → Prop} {i j : Int} {a : Addr} {xs : List V} {Q : VK} {n lo : Int}
theorem g_for (h : wi σ H (ForW g tb D σ)) : tFor wi g tb D σ H := h
theorem g_iR (h : ta σ H fun vs H1 => r vs H1 R) : iR r ta σ H R := h
theorem g_rR1 (h1 : -4611686018427387904 ≤ i) (h2 : i < 4611686018427387904) (h : R (Itr 0 i.toNat) H) : rR1 [.int i] H R := ⟨i, rfl, h1, h2, h⟩
theorem g_rR2 (h1 : -4611686018427387904 ≤ i ∧ i < 4611686018427387904 ∧ -4611686018427387904 ≤ j ∧ j < 4611686018427387904) (h : R (Itr i (j - i).toNat) H) : rR2 [.int i, .int j] H R := ⟨i, j, rfl, h1, h⟩
theorem g_iSeq (h : te σ H fun x H1 => (∃ a xs, x = .ref a ∧ SqL K H1 a xs ∧ R (Itl K a) H1) ∨ ∃ a xs, x = .ref a ∧ SqT K H1 a xs ∧ R (Itt K a) H1) : iSeq K te σ H R := h
theorem g_seqL (hl : SqL K H a xs) (h : R (Itl K a) H) : (∃ b ys, V.ref a = .ref b ∧ SqL K H b ys ∧ R (Itl K b) H) ∨ ∃ b ys, V.ref a = .ref b ∧ SqT K H b ys ∧ R (Itt K b) H := .inl ⟨a, xs, rfl, hl, h⟩
theorem g_seqT (hl : SqT K H a xs) (h : R (Itt K a) H) : (∃ b ys, V.ref a = .ref b ∧ SqL K H b ys ∧ R (Itl K b) H) ∨ ∃ b ys, V.ref a = .ref b ∧ SqT K H b ys ∧ R (Itt K b) H := .inr ⟨a, xs, rfl, hl, h⟩
theorem f_range {lo : Int} {n : Nat} (Pv : Nat → L2.St → Hp → Prop) (h0 : Pv 0 σ H)
    (hs : ∀ i σ H, i < n → Pv i σ H → g (.int (lo + i)) σ H fun σ2 H2 => tb { nx := Pv (i + 1), rt := D.rt, ct := Pv (i + 1), bk := D.nx } σ2 H2) (hd : ∀ σ H, Pv n σ H → D.nx σ H) : ForW g tb D σ (Itr lo n) H := for_range Pv h0 hs hd
theorem f_list (Pv : Nat → L2.St → Hp → Prop) (h0 : Pv 0 σ H) (hl : ∀ i σ H, i ≤ xs.length → Pv i σ H → SqL K H a xs)
    (hs : ∀ i x σ H, xs[i]? = some x → Pv i σ H → g x σ H fun σ2 H2 => tb { nx := Pv (i + 1), rt := D.rt, ct := Pv (i + 1), bk := D.nx } σ2 H2) (hd : ∀ σ H, Pv xs.length σ H → D.nx σ H) : ForW g tb D σ (Itl K a) H := for_list Pv h0 hl hs hd
theorem f_tup (Pv : Nat → L2.St → Hp → Prop) (h0 : Pv 0 σ H) (hl : ∀ i σ H, i ≤ xs.length → Pv i σ H → SqT K H a xs)
    (hs : ∀ i x σ H, xs[i]? = some x → Pv i σ H → g x σ H fun σ2 H2 => tb { nx := Pv (i + 1), rt := D.rt, ct := Pv (i + 1), bk := D.nx } σ2 H2) (hd : ∀ σ H, Pv xs.length σ H → D.nx σ H) : ForW g tb D σ (Itt K a) H := for_tup Pv h0 hl hs hd
/-- while: W by a measure and the state -/
def WhileW (c : TT) (tb : TS) (D : Ends) (W : Nat → L2.St → Hp → Prop) : Prop := ∀ m σ H, W m σ H →
  c σ H fun b H1 => if b = true then ∃ N : L2.St → Hp → Prop, (∀ σ' H', N σ' H' → ∃ m', m' < m ∧ W m' σ' H') ∧ tb { D with nx := N, ct := N, bk := D.nx } σ H1 else D.nx σ H1
theorem g_whileT {m : Nat} {W : Nat → L2.St → Hp → Prop} {A : (L2.St → Hp → Prop) → Prop} (h : A fun σ' H' => ∃ m', m' < m ∧ W m' σ' H') : ∃ N : L2.St → Hp → Prop, (∀ σ' H', N σ' H' → ∃ m', m' < m ∧ W m' σ' H') ∧ A N := ⟨_, fun _ _ h => h, h⟩
/-! ### isinstance of the scalars -/
theorem isi_of {x : V} {T T' : String} {b : Bool} (ht : TyX K H x (.type T)) (hk : kitB T T' = some b) (h : Q (.bl b) H) : rIsi K [x, .ty T'] H Q := ⟨x, .ty T', .type T, .type T', b, rfl, .ty T', ht, kit_ty hk, h⟩
theorem k_ii : kitB "int" "int" = some true := by decide +kernel
theorem k_ib : kitB "int" "bool" = some false := by decide +kernel
theorem k_bi : kitB "bool" "int" = some true := by decide +kernel
theorem k_bb : kitB "bool" "bool" = some true := by decide +kernel
theorem k_is_ : kitB "int" "str" = some false := by decide +kernel
theorem k_bs : kitB "bool" "str" = some false := by decide +kernel
theorem k_it : kitB "int" "tuple" = some false := by decide +kernel
theorem k_bt : kitB "bool" "tuple" = some false := by decide +kernel
theorem k_si : kitB "str" "int" = some false := by decide +kernel
theorem k_sb : kitB "str" "bool" = some false := by decide +kernel
theorem k_ss : kitB "str" "str" = some true := by decide +kernel
theorem k_st : kitB "str" "tuple" = some false := by decide +kernel
theorem k_ni : kitB "NoneType" "int" = some false := by decide +kernel
theorem k_nb : kitB "NoneType" "bool" = some false := by decide +kernel
theorem k_ns : kitB "NoneType" "str" = some false := by decide +kernel
theorem k_nt : kitB "NoneType" "tuple" = some false := by decide +kernel
theorem k_tt : kitB "tuple" "tuple" = some true := by decide +kernel
theorem k_ti : kitB "tuple" "int" = some false := by decide +kernel
theorem k_tb : kitB "tuple" "bool" = some false := by decide +kernel
theorem k_ts : kitB "tuple" "str" = some false := by decide +kernel
variable {z : Str} {b : Bool}
theorem g_isiIi (h : Q (.bl true) H) : rIsi K [.int i, .ty "int"] H Q := isi_of (.base (.int i)) k_ii h
theorem g_isiIb (h : Q (.bl false) H) : rIsi K [.int i, .ty "bool"] H Q := isi_of (.base (.int i)) k_ib h
theorem g_isiIs (h : Q (.bl false) H) : rIsi K [.int i, .ty "str"] H Q := isi_of (.base (.int i)) k_is_ h
theorem g_isiIt (h : Q (.bl false) H) : rIsi K [.int i, .ty "tuple"] H Q := isi_of (.base (.int i)) k_it h
theorem g_isiBi (h : Q (.bl true) H) : rIsi K [.bl b, .ty "int"] H Q := isi_of (.base (.bl b)) k_bi h
theorem g_isiBb (h : Q (.bl true) H) : rIsi K [.bl b, .ty "bool"] H Q := isi_of (.base (.bl b)) k_bb h
theorem g_isiBs (h : Q (.bl false) H) : rIsi K [.bl b, .ty "str"] H Q := isi_of (.base (.bl b)) k_bs h
theorem g_isiBt (h : Q (.bl false) H) : rIsi K [.bl b, .ty "tuple"] H Q := isi_of (.base (.bl b)) k_bt h
theorem g_isiSi (h : Q (.bl false) H) : rIsi K [.str z, .ty "int"] H Q := isi_of (.base (.str z)) k_si h
theorem g_isiSb (h : Q (.bl false) H) : rIsi K [.str z, .ty "bool"] H Q := isi_of (.base (.str z)) k_sb h
theorem g_isiSs (h : Q (.bl true) H) : rIsi K [.str z, .ty "str"] H Q := isi_of (.base (.str z)) k_ss h
theorem g_isiSt (h : Q (.bl false) H) : rIsi K [.str z, .ty "tuple"] H Q := isi_of (.base (.str z)) k_st h
theorem g_isiNi (h : Q (.bl false) H) : rIsi K [.non, .ty "int"] H Q := isi_of (.base .non) k_ni h
theorem g_isiNb (h : Q (.bl false) H) : rIsi K [.non, .ty "bool"] H Q := isi_of (.base .non) k_nb h
theorem g_isiNs (h : Q (.bl false) H) : rIsi K [.non, .ty "str"] H Q := isi_of (.base .non) k_ns h
theorem g_isiNt (h : Q (.bl false) H) : rIsi K [.non, .ty "tuple"] H Q := isi_of (.base .non) k_nt h
end
section
variable {H H1 : Hp} {a : Addr} {o : HO}
theorem Same.mut (x : Same H H1) (h : H a = none) : Same H (upd H1 a o) := fun b u e => by
  rw [upd_ne (ne_of_none e h)]
  exact x b u e
theorem Same.new' (x : Same H H1) (h : H1 a = none) : Same H (upd H1 a o) := fun b u e => keep_new (x b u e) h
end
theorem q_int {Q : VK} {x y : Int} {H : Hp} (e : x = y) (h : Q (.int x) H) : Q (.int y) H := e ▸ h
theorem q_bl {Q : VK} {x y : Bool} {H : Hp} (e : x = y) (h : Q (.bl x) H) : Q (.bl y) H := e ▸ h
theorem q_str {Q : VK} {x y : Str} {H : Hp} (e : x = y) (h : Q (.str x) H) : Q (.str y) H := e ▸ h
theorem g_disp {trs : List (TE × TE)} {σ : L2.St} {H : Hp} {Q : VK} (h : ∀ p, H p = none → tPairs trs σ (upd H p (.dK [])) fun ps H2 => H2 p = some (.dK []) ∧ ∃ kvs : List (Key × V), ps = kvs.map (fun kv => (kV kv.1, kv.2)) ∧ kvs.length ≤ 15 ∧ Q (.ref p) (upd H2 p (.dK (mergeK [] kvs)))) : tDisp trs σ H Q := h
theorem g_pairN {σ : L2.St} {H : Hp} {R : List (V × V) → Hp → Prop} (h : R [] H) : tPairs [] σ H R := h
theorem g_pairC {tk tv : TE} {r : List (TE × TE)} {σ : L2.St} {H : Hp} {R : List (V × V) → Hp → Prop} (h : tk σ H fun x H1 => tv σ H1 fun y H2 => tPairs r σ H2 fun ps H3 => R ((x, y) :: ps) H3) : tPairs ((tk, tv) :: r) σ H R := h
theorem g_dput {td ty tv : TE} {D : Ends} {σ : L2.St} {H : Hp} (h : tv σ H fun v H1 => td σ H1 fun x H2 => ty σ H2 fun y H3 => ∃ a H4, x = .ref a ∧ DPut H3 a y v H4 ∧ D.nx σ H4) : sDPut td ty tv D σ H := h

/-! ### the laws' draws: a dict with a row, a place and a seed -/
theorem ne_ra : ¬ (("row" : Str) = "at") := by decide +kernel
theorem ne_rs : ¬ (("row" : Str) = "seed") := by decide +kernel
theorem ne_as : ¬ (("at" : Str) = "seed") := by decide +kernel
theorem ne_sa : ¬ (("seed" : Str) = "at") := by decide +kernel
theorem ne_ar : ¬ (("at" : Str) = "row") := by decide +kernel
theorem ne_sr : ¬ (("seed" : Str) = "row") := by decide +kernel
def drK (r : Addr) (n sd : Int) : List (Key × V) := [(.inr "row", .ref r), (.inr "at", .int n), (.inr "seed", .int sd)]
structure RowOk (row : List Int) (sd : Int) : Prop where
  dig : ∀ x ∈ row, 0 ≤ x ∧ x < 1000
  len : row.length ≤ 1260
  s0 : 0 ≤ sd
  s1 : sd < 1000003
theorem dr_row (r : Addr) (n sd : Int) : valV (drK r n sd) (.inr "row") = some (.ref r) := by
  unfold drK
  exact valV_pos rfl
theorem dr_at (r : Addr) (n sd : Int) : valV (drK r n sd) (.inr "at") = some (.int n) := by
  unfold drK
  rw [valV_neg (fun e => ne_ra (Sum.inr.inj e))]
  exact valV_pos rfl
theorem dr_seed (r : Addr) (n sd : Int) : valV (drK r n sd) (.inr "seed") = some (.int sd) := by
  unfold drK
  rw [valV_neg (fun e => ne_rs (Sum.inr.inj e)), valV_neg (fun e => ne_as (Sum.inr.inj e))]
  exact valV_pos rfl
theorem dr_put (r : Addr) (n m sd : Int) : putK (drK r n sd) (.inr "at") (.int m) = drK r m sd := by
  unfold putK
  rw [valV_any, dr_at]
  simp only [Option.isSome_some, if_true]
  unfold drK
  simp only [List.map_cons, List.map_nil]
  rw [if_neg (fun e => ne_ra (Sum.inr.inj e)), if_pos trivial, if_neg (fun e => ne_sa (Sum.inr.inj e))]
theorem dr_made (r : Addr) (n sd : Int) : mergeK [] [(.inr "row", .ref r), (.inr "at", .int n), (.inr "seed", .int sd)] = drK r n sd := by
  have h1 : putK ([] : List (Key × V)) (.inr "row") (.ref r) = [(.inr "row", .ref r)] := putK_new _ rfl
  have h2 : putK ([(.inr "row", .ref r)] : List (Key × V)) (.inr "at") (.int n) = [(.inr "row", .ref r)] ++ [(.inr "at", .int n)] := putK_new _ (by rw [valV_neg (fun e => ne_ra (Sum.inr.inj e))]; rfl)
  have h3 : putK ([(.inr "row", .ref r), (.inr "at", .int n)] : List (Key × V)) (.inr "seed") (.int sd) = [(.inr "row", .ref r), (.inr "at", .int n)] ++ [(.inr "seed", .int sd)] := putK_new _ (by
    rw [valV_neg (fun e => ne_rs (Sum.inr.inj e)), valV_neg (fun e => ne_as (Sum.inr.inj e))]; rfl)
  unfold mergeK
  simp only [List.foldl_cons, List.foldl_nil]
  rw [h1, h2]
  exact h3
theorem dg_row {H : Hp} {d r : Addr} {n sd : Int} (h : H d = some (.dK (drK r n sd))) : DGet H d (.str "row") (some (.ref r)) := by
  rw [← dr_row r n sd]
  exact DGet.k (k := .inr "row") h
theorem dg_at {H : Hp} {d r : Addr} {n sd : Int} (h : H d = some (.dK (drK r n sd))) : DGet H d (.str "at") (some (.int n)) := by
  rw [← dr_at r n sd]
  exact DGet.k (k := .inr "at") h
theorem dg_seed {H : Hp} {d r : Addr} {n sd : Int} (h : H d = some (.dK (drK r n sd))) : DGet H d (.str "seed") (some (.int sd)) := by
  rw [← dr_seed r n sd]
  exact DGet.k (k := .inr "seed") h
theorem dp_at {H : Hp} {d r : Addr} {n sd : Int} (m : Int) (h : H d = some (.dK (drK r n sd))) : DPut H d (.str "at") (.int m) (upd H d (.dK (drK r m sd))) := by
  rw [← dr_put r n m sd]
  exact DPut.k (k := .inr "at") h (by show 3 < sizeLine; decide)
theorem szl {n : Nat} (h : n ≤ 100000) : n < sizeLine := Nat.lt_of_le_of_lt h (by decide)
theorem szle {n : Nat} (h : n ≤ 100000) : n ≤ sizeLine := Nat.le_trans h (by decide)

/-! ### //, %, shifts by name -/
def rMod : R2 := rI (fun _ j => 0 < j) fun i j => .int (i % j)
def rFdiv : R2 := rI CDivW fun i j => .int (i / j)
def rShl : R2 := rI CPow fun i j => .int (i * 2 ^ j.toNat)
def rPow : R2 := rI CPow fun i j => .int (i ^ j.toNat)
def rShr : R2 := rI (fun _ j => 0 ≤ j) fun i j => .int (i / 2 ^ j.toNat)
section
variable {X : Cx} {i j : Int} {H : Hp} {Q : VK}
theorem o_mod : OpR X (binaryOp .Mod) rMod := op_mod
theorem o_fdiv : OpR X (binaryOp .FloorDiv) rFdiv := op_fdivW
theorem o_shl : OpR X (binaryOp .LShift) rShl := op_shl
theorem o_pow : OpR X (binaryOp .Pow) rPow := op_pow
theorem o_shr : OpR X (binaryOp .RShift) rShr := op_shr
theorem io_fdiv : OpR X (inplaceOp .FloorDiv) rFdiv := iop_fdivW
theorem io_mod : OpR X (inplaceOp .Mod) rMod := iop_mod
theorem g_mod (h : 0 < j) (q : Q (.int (i % j)) H) : rMod (.int i) (.int j) H Q := ⟨i, j, rfl, rfl, h, q⟩
theorem g_fdiv (h : 0 < j) (h2 : j < 18446744073709551616) (q : Q (.int (i / j)) H) : rFdiv (.int i) (.int j) H Q := ⟨i, j, rfl, rfl, cdivW_of h h2, q⟩
theorem g_shl (h : 0 ≤ j) (h2 : j ≤ 1000000) (h3 : i.natAbs < 18446744073709551616) (q : Q (.int (i * 2 ^ j.toNat)) H) : rShl (.int i) (.int j) H Q := ⟨i, j, rfl, rfl, ⟨h, h2, h3⟩, q⟩
theorem g_pow (h : 0 ≤ j) (h2 : j ≤ 1000000) (h3 : i.natAbs < 18446744073709551616) (q : Q (.int (i ^ j.toNat)) H) : rPow (.int i) (.int j) H Q := ⟨i, j, rfl, rfl, ⟨h, h2, h3⟩, q⟩
theorem g_shr (h : 0 ≤ j) (q : Q (.int (i / 2 ^ j.toNat)) H) : rShr (.int i) (.int j) H Q := ⟨i, j, rfl, rfl, h, q⟩
end

/-! ### fields, methods, makes -/
def rFld (K : PySem.W.Frag) (f : Str) : V → Hp → VK → Prop := fun x H Q => ∃ a C dx fs v, x = .ref a ∧ H a = some (.ins C dx fs) ∧ Cls K C ∧ NoAttr K C f ∧ fs.lookup f = some v ∧ Q v H
def rSFld (K : PySem.W.Frag) (f : Str) : V → V → Hp → (Hp → Prop) → Prop := fun x y H R => ∃ a C dx fs, x = .ref a ∧ H a = some (.ins C dx fs) ∧ Cls K C ∧ NoAttr K C f ∧ fs.length < 1000 ∧ R (upd H a (.ins C dx (putF f y fs)))
def tSFld (K : PySem.W.Frag) (ta tv : TE) (f : Str) : TS := fun D σ H => tv σ H fun y H1 => ta σ H1 fun x H2 => rSFld K f x y H2 (D.nx σ)
/-- o.f as a target within a tuple -/
def gFldU (K : PySem.W.Frag) (to : TE) (f : Str) : TG := fun v σ H Q => to σ H fun x H1 => rSFld K f x v H1 (Q σ)
theorem pg_fldU {X : Cx} {K : PySem.W.Frag} (hK : X.K = K) {o : Expr} {to : TE} {f : Str} {pos : Pos} (ho : PE X o to) : PG X (.Attribute o f pos) (gFldU K to f) := by
  subst hK
  refine ⟨fun pins s σ H v u Q I r h => ?_⟩
  rw [PySem.assign_Attribute]
  refine wpAny_bind (wpAny_holding (thn (ho.run pins s σ H _ I h) fun ov s1 ⟨x, H1, I1, rx, a, C, dx, fs, ex, ea, c, n, l, q⟩ => ?_))
  subst ex
  obtain rfl : ov = Value.ref a := rx
  refine wpAny_bind (wpAny_standAt (wpAny_bind (wpAny_holding (setattr_ok I1 ea c n l r fun s3 I3 => ?_))))
  exact wpAny_release ⟨σ, _, I3, q⟩
theorem g_gfld {K : PySem.W.Frag} {to : TE} {f : Str} {v : V} {σ : L2.St} {H : Hp} {Q : L2.St → Hp → Prop} (h : to σ H fun x H1 => rSFld K f x v H1 (Q σ)) : gFldU K to f v σ H Q := h
/-- the receiver of a method's call -/
def rRcv (C : Addr) (m : Str) : V → Hp → (Hp → Prop) → Prop := fun x H R => ∃ a dx fs, x = .ref a ∧ H a = some (.ins C dx fs) ∧ fs.lookup m = none ∧ R H
section
variable {X : Cx} {o e value : Expr} {f : Str} {pos pos' : Pos} {ta tv : TE}
theorem pe_fldU {K : PySem.W.Frag} (hK : X.K = K) (he : PE X e ta) (hb : attributeBase e f X.env (eval e X.env) = eval e X.env) : PE X (.Attribute e f pos) (tUn (rFld K f) ta) := by
  subst hK
  exact pe_fld he hb
theorem ps_fldU {K : PySem.W.Frag} (hK : X.K = K) (ha : PE X o ta) (hv : PE X value tv) (hs : swapsWith value (some (.Attribute o f pos')) pos.line X.env = pure false) : PS X (.Assign [.Attribute o f pos'] value pos) (tSFld K ta tv f) := by
  subst hK
  exact ps_fld ha hv hs
end
section
variable {K : PySem.W.Frag} {σ : L2.St} {H : Hp} {D : Ends} {ta tv : TE} {t : TA} {Q : VK} {v y : V} {a C dx : Addr} {fs fs' : List (Str × V)} {f m : Str} {sp : Sp} {dvs : List V} {E : XK} {L : List (Addr × HO)} {R : Hp → Prop}
theorem g_fld (he : H a = some (.ins C dx fs)) (cl : Cls K C) (na : NoAttr K C f) (l : fs.lookup f = some v) (h : Q v H) : rFld K f (.ref a) H Q := ⟨a, C, dx, fs, v, rfl, he, cl, na, l, h⟩
theorem g_sfld (h : tv σ H fun y H1 => ta σ H1 fun x H2 => rSFld K f x y H2 (D.nx σ)) : tSFld K ta tv f D σ H := h
theorem g_setF (M : Has H L) (n : Nat) (he : L[n]? = some (a, .ins C dx fs)) (cl : Cls K C) (na : NoAttr K C f) (hl : fs.length < 1000) (e : putF f y fs = fs') (k : Has (upd H a (.ins C dx fs')) (L.set n (a, .ins C dx fs')) → R (upd H a (.ins C dx fs'))) : rSFld K f (.ref a) y H R :=
  ⟨a, C, dx, fs, rfl, M.get n he, cl, na, hl, by rw [e]; exact k (M.set n he)⟩
theorem g_meth (h : ta σ H fun x H1 => ∃ a dx fs, x = .ref a ∧ H1 a = some (.ins C dx fs) ∧ fs.lookup m = none ∧ t σ H1 fun vs H2 => sp (x :: (vs ++ dvs)) H2 Q E) : tMeth C m sp dvs E ta t σ H Q := h
theorem g_rcv {A : Prop} (he : H a = some (.ins C dx fs)) (l : fs.lookup m = none) (h : A) : ∃ b dx' fs', V.ref a = .ref b ∧ H b = some (.ins C dx' fs') ∧ fs'.lookup m = none ∧ A := ⟨a, dx, fs, rfl, he, l, h⟩
theorem g_make (h : t σ H fun vs H1 => ∀ x dx, H1 x = none → H1 dx = none → dx ≠ x → sp (.ref x :: (vs ++ dvs)) (upd (upd H1 dx (.own x)) x (.ins C dx [])) (fun v H2 => v = .non ∧ Q (.ref x) H2) E) : tMake C sp dvs E t σ H Q := h
end
section
variable {H : Hp} {x dx C : Addr}
/-- the heap in which an __init__ starts -/
def made (H : Hp) (x dx C : Addr) : Hp := upd (upd H dx (.own x)) x (.ins C dx [])
theorem made_same (hx : H x = none) (hd : H dx = none) : Same H (made H x dx C) := fun b o e => by
  unfold made
  rw [upd_ne (ne_of_none e hx), upd_ne (ne_of_none e hd)]
  exact e
theorem made_at : made H x dx C x = some (.ins C dx []) := upd_same
theorem made_none {p : Addr} (h : made H x dx C p = none) : H p = none ∧ p ≠ x ∧ p ≠ dx := by
  unfold made at h
  by_cases h1 : p = x
  · subst h1; rw [upd_same] at h; cases h
  · rw [upd_ne h1] at h
    by_cases h2 : p = dx
    · subst h2; rw [upd_same] at h; cases h
    · rw [upd_ne h2] at h
      exact ⟨h, h1, h2⟩
end

/-! ### stores by place, replicated lists, slices, all and any -/
def rSetU : V → V → V → Hp → (Hp → Prop) → Prop := fun o i v H Q => rSetL o i v H Q ∨ ∃ a H', o = .ref a ∧ DPut H a i v H' ∧ Q H'
section
variable {X : Cx}
theorem set_U (hu : X.A.units + 1 < cLine) : PSet X rSetU := by
  intro pins s σ H o i v ov iv u Q I ro ri rv h
  rcases h with h | ⟨a, H', rfl, g, q⟩
  · exact set_list pins s σ H o i v ov iv u Q I ro ri rv h
  · obtain rfl : ov = Value.ref a := ro
    exact d_setItem hu I g ri rv fun s1 I1 => ⟨H', I1, q⟩
end
section
variable {K : PySem.W.Frag} {σ : L2.St} {H : Hp} {R : Hp → Prop} {RS : L2.St → Hp → Prop} {te ti : TE} {t : TSet} {v y : V} {a : Addr} {xs : List V} {i : Int} {L : List (Addr × HO)} {m : Nat} {Q : VK}
theorem g_sub (h : te σ H fun o H1 => ti σ H1 fun i H2 => t o i v H2 fun H3 => RS σ H3) : gSub te ti t v σ H RS := h
theorem g_setU (M : Has H L) (n : Nat) (h : L[n]? = some (a, .lst xs)) (hi : i = (m : Int)) (hm : m < xs.length) (k : Has (upd H a (.lst (xs.set m y))) (L.set n (a, .lst (xs.set m y))) → R (upd H a (.lst (xs.set m y)))) : rSetU (.ref a) (.int i) y H R :=
  .inl ⟨a, xs, i, m, rfl, rfl, M.get n h, by
    unfold ixN
    rw [if_pos (by omega), if_pos (by omega)]
    congr 1
    omega, k (M.set n h)⟩
theorem rep_flat {x : V} : ∀ n : Nat, (List.replicate n [x]).flatten = List.replicate n x
  | 0 => rfl
  | n + 1 => by
    rw [List.replicate_succ, List.replicate_succ, List.flatten_cons, rep_flat n]
    rfl
theorem g_rep {x : V} {k : Int} (h : H a = some (.lst [x])) (h0 : -4611686018427387904 ≤ k) (h1 : k ≤ 100000) (q : ∀ p, H p = none → Q (.ref p) (upd H p (.lst (List.replicate k.toNat x)))) : rMulU (.ref a) (.int k) H Q := by
  refine .inl ⟨a, k, [x], rfl, rfl, h, by omega, by omega, szle (by simp; omega), fun p hp => ?_⟩
  rw [rep_flat]
  exact q p hp
theorem g_repI {x : Int} {k : Int} (h : H a = some (.lst [.int x])) (h0 : -4611686018427387904 ≤ k) (h1 : k ≤ 100000) (q : ∀ p, H p = none → Q (.ref p) (upd H p (.lst ((List.replicate k.toNat x).map V.int)))) : rMulU (.ref a) (.int k) H Q :=
  g_rep h h0 h1 fun p hp => by
    have z := q p hp
    rw [List.map_replicate] at z
    exact z
end
def rAllU (K : PySem.W.Frag) : List V → Hp → VK → Prop := fun vs H Q => ∃ (a : Addr) (bs : List Bool), vs = [V.ref a] ∧ SqL K H a (bs.map V.bl) ∧ Q (.bl (bs.all id)) H
def rAnyU (K : PySem.W.Frag) : List V → Hp → VK → Prop := fun vs H Q => ∃ (a : Addr) (bs : List Bool), vs = [V.ref a] ∧ SqL K H a (bs.map V.bl) ∧ Q (.bl (bs.any id)) H
section
variable {X : Cx} {K : PySem.W.Frag} {H : Hp} {Q : VK} {a : Addr} {bs : List Bool}
theorem c_all {K : PySem.W.Frag} (hK : X.K = K) (hc : X.calm = true) : CallR X (.builtin "all") (rAllU K) := by
  subst hK
  exact cr_all hc
theorem c_any {K : PySem.W.Frag} (hK : X.K = K) (hc : X.calm = true) : CallR X (.builtin "any") (rAnyU K) := by
  subst hK
  exact cr_any hc
theorem g_all (h : SqL K H a (bs.map V.bl)) (q : Q (.bl (bs.all id)) H) : rAllU K [.ref a] H Q := ⟨a, bs, rfl, h, q⟩
theorem g_any (h : SqL K H a (bs.map V.bl)) (q : Q (.bl (bs.any id)) H) : rAnyU K [.ref a] H Q := ⟨a, bs, rfl, h, q⟩
end
/-! slices -/
def rSlU (K : PySem.W.Frag) : V → Option Int → Option Int → Hp → VK → Prop := fun x lo hi H Q => rSlL K x lo hi H Q ∨ rSlA K x lo hi H Q ∨ ∃ z, x = .str z ∧ z.length ≤ sizeLine ∧ Q (.str (cutS z lo hi)) H
theorem sl_U {X : Cx} {K : PySem.W.Frag} (hK : X.K = K) : SlR X (rSlU K) := by
  subst hK
  exact sl_list.or (sl_tupA.or sl_str)
section
variable {K : PySem.W.Frag} {σ : L2.St} {H : Hp} {Q : VK} {te : TE} {tl th : TO} {QO : Option Int → Hp → Prop} {r : V → Option Int → Option Int → Hp → VK → Prop} {a : Addr} {xs : List V} {lo hi : Option Int} {i : Int} {z : Str}
theorem g_sl (h : te σ H fun x H1 => tl σ H1 fun l H2 => th σ H2 fun u H3 => r x l u H3 Q) : tSl r te tl th σ H Q := h
theorem g_part (h : te σ H fun x H1 => ∃ i, x = .int i ∧ QO (some i) H1) : tPart te σ H QO := h
theorem g_exi {A : Int → Prop} (h : A i) : ∃ j, V.int i = .int j ∧ A j := ⟨i, rfl, h⟩
theorem g_noPart (h : QO none H) : tNoPart σ H QO := h
theorem g_slL (h : SqL K H a xs) (q : ∀ p, H p = none → Q (.ref p) (upd H p (.lst (cutV xs lo hi)))) : rSlU K (.ref a) lo hi H Q := .inl ⟨a, xs, rfl, h, q⟩
theorem g_slS (hl : z.length ≤ sizeLine) (q : Q (.str (cutS z lo hi)) H) : rSlU K (.str z) lo hi H Q := .inr (.inr ⟨z, rfl, hl, q⟩)
end
theorem cutV_from {xs : List V} {n : Nat} : cutV xs (some (n : Int)) none = xs.drop n := by
  unfold cutV
  rw [HT.sIx_nat, HT.sIx_none]
  by_cases h : n ≤ xs.length
  · rw [Nat.min_eq_left h, List.take_of_length_le (by simp)]
  · rw [Nat.min_eq_right (by omega), List.drop_of_length_le (by omega), List.drop_of_length_le (by omega)]
    simp

/-! ### methods of built-in types, own methods: the written part named -/
section
variable {X : Cx} {K : PySem.W.Frag} {o e : Expr} {es : List Expr} {to : TE} {t : TA} {name : Str} {apos cpos pos : Pos} {T id : String} {r : V → List V → Hp → VK → Prop}
def rTyV (K : PySem.W.Frag) (T : String) : V → Hp → (Hp → Prop) → Prop := fun x H R => tyV K T x H ∧ R H
def tBMU (K : PySem.W.Frag) (T : String) (r : V → List V → Hp → VK → Prop) (to : TE) (t : TA) : TE := fun σ H Q => to σ H fun x H1 => rTyV K T x H1 fun H2 => t σ H2 fun xs H3 => r x xs H3 Q
end
theorem g_lenM {K : PySem.W.Frag} {H : Hp} {a : Addr} {Q : VK} {α : Type} {f : α → V} {ns : List α} (h : SqL K H a (ns.map f)) (q : Q (.int (ns.length : Nat)) H) : rLenU K [.ref a] H Q := g_lenL h (by rw [List.length_map]; exact q)
theorem g_ty_ {K : PySem.W.Frag} {T : String} {x : V} {H : Hp} {A : Prop} (h : tyV K T x H) (q : A) : tyV K T x H ∧ A := ⟨h, q⟩

/-! ### list comprehensions -/
def LcW (g : TG) (tt : TT) (te : TE) (vs : List Nat) (σ : L2.St) (Q : VK) : It → Hp → Prop := fun J H1 => ∀ D, H1 D = none → ∃ W : Nat → Nat → Hp → Prop, (∃ m, W 0 m (upd H1 D (.lst []))) ∧ ∀ i m H, W i m H →
  (J.stop i H ∧ Q (.ref D) H) ∨ (J.go i H ∧ ∃ Nx : Hp → Prop, (∀ H', Nx H' → ∃ m', m' < m ∧ W (i + 1) m' H') ∧ ∀ x H', J.yld i H x H' → g x (wipe σ vs) H' fun σ2 H2 => wipe σ2 vs = wipe σ vs ∧ tt σ2 H2 fun b H3 =>
    if b = true then te σ2 H3 fun y H4 => ∃ acc, H4 D = some (.lst acc) ∧ acc.length < sizeLine ∧ Nx (upd H4 D (.lst (acc ++ [y]))) else Nx H3)
section
variable {K : PySem.W.Frag} {σ : L2.St} {H : Hp} {g : TG} {tt : TT} {te : TE} {wi : TI} {vs : List Nat} {Q : VK} {lo : Int} {n : Nat} {a : Addr} {xs : List V} {QB : Bool → Hp → Prop}
theorem g_lc (h : wi σ H (LcW g tt te vs σ Q)) : tLc wi g tt te vs σ H Q := h
theorem g_yes (h : QB true H) : tYes σ H QB := h
theorem g_wipe {σ1 σ2 : L2.St} {A : Prop} (e : wipe σ1 vs = wipe σ2 vs) (h : A) : wipe σ1 vs = wipe σ2 vs ∧ A := ⟨e, h⟩
theorem l_range (Pv : Addr → Nat → Hp → Prop) (h0 : ∀ D, H D = none → Pv D 0 (upd H D (.lst [])))
    (hs : ∀ D, H D = none → ∀ i H', i < n → Pv D i H' → g (.int (lo + i)) (wipe σ vs) H' fun σ2 H2 => wipe σ2 vs = wipe σ vs ∧ tt σ2 H2 fun b H3 => if b = true then te σ2 H3 fun y H4 => ∃ acc, H4 D = some (.lst acc) ∧ acc.length < sizeLine ∧ Pv D (i + 1) (upd H4 D (.lst (acc ++ [y]))) else Pv D (i + 1) H3)
    (hd : ∀ D, H D = none → ∀ H', Pv D n H' → Q (.ref D) H') : LcW g tt te vs σ Q (Itr lo n) H := fun D hD => lc_range (Pv D) (h0 D hD) (hs D hD) (hd D hD)
theorem l_list (Pv : Addr → Nat → Hp → Prop) (h0 : ∀ D, H D = none → Pv D 0 (upd H D (.lst []))) (hl : ∀ D, H D = none → ∀ i H', i ≤ xs.length → Pv D i H' → SqL K H' a xs)
    (hs : ∀ D, H D = none → ∀ i x H', xs[i]? = some x → Pv D i H' → g x (wipe σ vs) H' fun σ2 H2 => wipe σ2 vs = wipe σ vs ∧ tt σ2 H2 fun b H3 => if b = true then te σ2 H3 fun y H4 => ∃ acc, H4 D = some (.lst acc) ∧ acc.length < sizeLine ∧ Pv D (i + 1) (upd H4 D (.lst (acc ++ [y]))) else Pv D (i + 1) H3)
    (hd : ∀ D, H D = none → ∀ H', Pv D xs.length H' → Q (.ref D) H') : LcW g tt te vs σ Q (Itl K a) H := fun D hD => lc_list (Pv D) (h0 D hD) (hl D hD) (hs D hD) (hd D hD)
theorem l_tup (Pv : Addr → Nat → Hp → Prop) (h0 : ∀ D, H D = none → Pv D 0 (upd H D (.lst []))) (hl : ∀ D, H D = none → ∀ i H', i ≤ xs.length → Pv D i H' → SqT K H' a xs)
    (hs : ∀ D, H D = none → ∀ i x H', xs[i]? = some x → Pv D i H' → g x (wipe σ vs) H' fun σ2 H2 => wipe σ2 vs = wipe σ vs ∧ tt σ2 H2 fun b H3 => if b = true then te σ2 H3 fun y H4 => ∃ acc, H4 D = some (.lst acc) ∧ acc.length < sizeLine ∧ Pv D (i + 1) (upd H4 D (.lst (acc ++ [y]))) else Pv D (i + 1) H3)
    (hd : ∀ D, H D = none → ∀ H', Pv D xs.length H' → Q (.ref D) H') : LcW g tt te vs σ Q (Itt K a) H := fun D hD => lc_tup (Pv D) (h0 D hD) (hl D hD) (hs D hD) (hd D hD)
end
section
variable {H H1 : Hp} {L : List (Addr × HO)} {a b : Addr} {o o' u u' : HO}
/-- two objects have changed -/
theorem Has.call2 (M : Has H L) (k : Keep [a, b] H H1) (i j : Nat) (hi : L[i]? = some (a, o)) (hj : L[j]? = some (b, u)) (hij : i ≠ j) (e1 : H1 a = some o') (e2 : H1 b = some u') : Has H1 ((L.set i (a, o')).set j (b, u')) := by
  have nab : a ≠ b := M.ne i j hi hj hij
  have k1 : Keep [a] H (upd H1 b u) := fun x w e n => by
    by_cases hx : x = b
    · subst hx
      rw [upd_same]
      exact (M.get j hj).symm.trans e
    · rw [upd_ne hx]
      refine k x w e ?_
      simp only [List.mem_cons, List.not_mem_nil, or_false, not_or]
      exact ⟨fun z => n (List.mem_singleton.mpr z), hx⟩
  have M1 : Has (upd H1 b u) (L.set i (a, o')) := M.call1 k1 i hi (by rw [upd_ne nab]; exact e1)
  have hj' : (L.set i (a, o'))[j]? = some (b, u) := by rw [List.getElem?_set_ne hij]; exact hj
  have M2 := M1.set (o' := u') j hj'
  have e : upd (upd H1 b u) b u' = H1 := by
    rw [upd_upd]
    funext x
    by_cases hx : x = b
    · subst hx
      rw [upd_same, e2]
    · rw [upd_ne hx]
  rw [e] at M2
  exact M2
end

/-! ### None asked -/
def rIsN (neg : Bool) : R2 := fun x y H Q => y = .non ∧ Q (.bl (if neg then !decide (x = .non) else decide (x = .non))) H
theorem o_isN {X : Cx} : OpR X (compareOp .Is) (rIsN false) := op_isN
theorem o_notN {X : Cx} : OpR X (compareOp .IsNot) (rIsN true) := op_notN
section
variable {H : Hp} {Q : VK} {i : Int} {z : Str} {b : Bool} {a : Addr}
theorem g_isNn (h : Q (.bl true) H) : rIsN false .non .non H Q := ⟨rfl, h⟩
theorem g_isNi (h : Q (.bl false) H) : rIsN false (.int i) .non H Q := ⟨rfl, h⟩
theorem g_isNs (h : Q (.bl false) H) : rIsN false (.str z) .non H Q := ⟨rfl, h⟩
theorem g_isNb (h : Q (.bl false) H) : rIsN false (.bl b) .non H Q := ⟨rfl, h⟩
theorem g_isNr (h : Q (.bl false) H) : rIsN false (.ref a) .non H Q := ⟨rfl, h⟩
theorem g_noNn (h : Q (.bl false) H) : rIsN true .non .non H Q := ⟨rfl, h⟩
theorem g_noNi (h : Q (.bl true) H) : rIsN true (.int i) .non H Q := ⟨rfl, h⟩
theorem g_noNs (h : Q (.bl true) H) : rIsN true (.str z) .non H Q := ⟨rfl, h⟩
theorem g_noNb (h : Q (.bl true) H) : rIsN true (.bl b) .non H Q := ⟨rfl, h⟩
theorem g_noNr (h : Q (.bl true) H) : rIsN true (.ref a) .non H Q := ⟨rfl, h⟩
end

/-! ### list.index, min and max of a list -/
def rIndexU (K : PySem.W.Frag) : V → List V → Hp → VK → Prop := rIndex K
theorem m_index {X : Cx} {K : PySem.W.Frag} (hK : X.K = K) : MtR X "list.index" (rIndexU K) := by
  subst hK
  exact mt_index
def rMin1 (K : PySem.W.Frag) : List V → Hp → VK → Prop := rMin K
def rMax1 (K : PySem.W.Frag) : List V → Hp → VK → Prop := rMax K
theorem c_min1 {X : Cx} {K : PySem.W.Frag} (hK : X.K = K) (hc : X.calm = true) : CallR X (.builtin "min") (rMin1 K) := by
  subst hK
  exact cr_min hc
theorem c_max1 {X : Cx} {K : PySem.W.Frag} (hK : X.K = K) (hc : X.calm = true) : CallR X (.builtin "max") (rMax1 K) := by
  subst hK
  exact cr_max hc
section
variable {K : PySem.W.Frag} {H : Hp} {Q : VK} {a : Addr} {ns : List Int} {ys : List V} {y z : V} {j : Nat}
theorem g_min1 (h : SqL K H a (ns.map V.int)) (h0 : 0 < ns.length) (q : ∀ m, m ∈ ns → (∀ y, y ∈ ns → m ≤ y) → Q (.int m) H) : rMin1 K [.ref a] H Q := ⟨a, ns, rfl, h, h0, q⟩
theorem g_max1 (h : SqL K H a (ns.map V.int)) (h0 : 0 < ns.length) (q : ∀ m, m ∈ ns → (∀ y, y ∈ ns → y ≤ m) → Q (.int m) H) : rMax1 K [.ref a] H Q := ⟨a, ns, rfl, h, h0, q⟩
theorem g_index (h : SqL K H a ys) (f1 : flatV y = true) (f2 : ys.all flatV = true) (hj : ys[j]? = some z) (e : eqV z y = true) (n : ∀ (m : Nat) (z' : V), m < j → ys[m]? = some z' → eqV z' y = false) (q : Q (.int (j : Nat)) H) : rIndexU K (.ref a) [y] H Q :=
  ⟨a, ys, y, j, z, rfl, rfl, h, f1, f2, hj, e, n, q⟩
end

/-! ### unpacking -/
section
variable {K : PySem.W.Frag} {σ : L2.St} {H : Hp} {R : L2.St → Hp → Prop} {t : TGs} {g : TG} {n : Nat} {a : Addr} {xs r : List V} {v : V}
theorem g_unp (h : SqT K H a xs) (hn : xs.length = n) (k : t xs σ H R) : gTup K n t (.ref a) σ H R := ⟨a, xs, rfl, h, hn, k⟩
theorem g_gc (k : g v σ H fun σ' H' => t r σ' H' R) : gCons g t (v :: r) σ H R := ⟨v, r, rfl, k⟩
theorem g_gn (k : R σ H) : gNil [] σ H R := ⟨rfl, k⟩
end
/-! e.f += x -/
def rFA (K : PySem.W.Frag) (tv : TE) (rd : V → V → Hp → VK → Prop) (f : Str) (σ : L2.St) : V → Hp → (Hp → Prop) → Prop := fun x H1 R => ∃ a C dx fs v, x = .ref a ∧ H1 a = some (.ins C dx fs) ∧ Cls K C ∧ NoAttr K C f ∧ fs.lookup f = some v ∧
  tv σ H1 fun y H2 => rd v y H2 fun z H3 => ∃ dx' fs', H3 a = some (.ins C dx' fs') ∧ fs'.length < 1000 ∧ R (upd H3 a (.ins C dx' (putF f z fs')))
section
variable {K : PySem.W.Frag} {σ : L2.St} {H : Hp} {D : Ends} {ta tv : TE} {a C dx : Addr} {fs fs' : List (Str × V)} {f : Str} {L : List (Addr × HO)} {R : Hp → Prop} {i j : Int} {rd : V → V → Hp → VK → Prop}
theorem g_fldaug (h : ta σ H fun x H1 => rFA K tv rd f σ x H1 (D.nx σ)) : sFldAug K ta tv rd f D σ H := h
theorem g_fa1 (M : Has H L) (n : Nat) (he : L[n]? = some (a, .ins C dx fs)) (cl : Cls K C) (na : NoAttr K C f) (l : fs.lookup f = some (.int i)) (hv : tv σ H fun y H2 => y = .int j ∧ H2 = H) (hl : fs.length < 1000) (e : putF f (.int (i + j)) fs = fs')
    (hm : ∀ {Q Q' : VK}, (∀ v H, Q v H → Q' v H) → tv σ H Q → tv σ H Q' := by intro Q Q' hh z; exact hh _ _ z) (k : Has (upd H a (.ins C dx fs')) (L.set n (a, .ins C dx fs')) → R (upd H a (.ins C dx fs'))) : rFA K tv rAdd f σ (.ref a) H R := by
  refine ⟨a, C, dx, fs, .int i, rfl, M.get n he, cl, na, l, hm (fun y H2 z => ?_) hv⟩
  obtain ⟨rfl, rfl⟩ := z
  exact ⟨i, j, rfl, rfl, dx, fs, M.get n he, hl, by rw [e]; exact k (M.set n he)⟩
end
theorem g_repT {H : Hp} {Q : VK} {a : Addr} {x : V} {k : Int} (h : H a = some (.tup [x])) (h0 : 1 ≤ k) (h1 : k ≤ 1000) (q : ∀ p H', Same H H' → H' p = some (.tup (List.replicate k.toNat x)) → Q (.ref p) H') : rMulU (.ref a) (.int k) H Q :=
  .inr ⟨a, k, [x], rfl, rfl, h, by simp, h0, h1, by simp, fun p H' sm hp => q p H' sm (by rw [rep_flat] at hp; exact hp)⟩
theorem g_isB {H : Hp} {Q : VK} {a b : Bool} (h : Q (.bl (decide (a = b))) H) : rIsB (.bl a) (.bl b) H Q := ⟨a, b, rfl, rfl, h⟩
theorem g_notB {H : Hp} {Q : VK} {a b : Bool} (h : Q (.bl (!decide (a = b))) H) : rNotB (.bl a) (.bl b) H Q := ⟨a, b, rfl, rfl, h⟩
/-! len(set(xs)) of ints, each once -/
def rLS (K : PySem.W.Frag) : V → Hp → VK → Prop := fun x H1 Q => ∃ (l : Addr) (ns : List Int), x = V.ref l ∧ SqL K H1 l (ns.map V.int) ∧ ns.length < 64 ∧ ns.Nodup ∧ Q (.int ns.length) H1
def tLS (K : PySem.W.Frag) (ta : TE) : TE := fun σ H Q => ta σ H fun x H1 => rLS K x H1 Q
theorem pe_lenSetU {X : Cx} {K : PySem.W.Frag} (hK : X.K = K) {a : Expr} {ta : TE} {p p2 q pos : Pos} (hc : X.calm = true) (hg : Gl X "len") (hm : X.mg "len" = none) (hg2 : Gl X "set") (hm2 : X.mg "set" = none) (ha : PE X a ta)
    (na : starEach [a] X.env = (false, eval a X.env) :: starEach [] X.env := by rfl) : PE X (.Call (.Name "len" p) [.Call (.Name "set" p2) [a] [] q] [] pos) (tLS K ta) := by
  subst hK
  exact pe_lenSetI hc hg hm hg2 hm2 ha na
section
variable {K : PySem.W.Frag} {σ : L2.St} {H : Hp} {ta : TE} {Q : VK} {l : Addr} {ns : List Int}
theorem g_lset (h : ta σ H fun x H1 => rLS K x H1 Q) : tLS K ta σ H Q := h
theorem g_ls (h : SqL K H l (ns.map V.int)) (hl : ns.length < 64) (hn : ns.Nodup) (q : Q (.int (ns.length : Nat)) H) : rLS K (.ref l) H Q := ⟨l, ns, rfl, h, hl, hn, q⟩
end
theorem _root_.G.Has.right {H : Hp} {X C : List (Addr × HO)} (M : Has H (X ++ C)) : Has H C := M.sub (List.sublist_append_right X C)
theorem _root_.G.Has.left {H : Hp} {X C : List (Addr × HO)} (M : Has H (X ++ C)) : Has H X := M.sub (List.sublist_append_left X C)
theorem _root_.G.Has.frameR {H H' : Hp} {X C C' : List (Addr × HO)} (M : Has H (X ++ C)) (k : Keep (C.map (·.1)) H H') (M' : Has H' C') (e : C'.map (·.1) = C.map (·.1)) : Has H' (X ++ C') := by
  have z := Has.frame (X := X) (L := C) (Y := []) (L' := C') (by rw [List.append_nil]; exact M) k M' e
  rw [List.append_nil] at z
  exact z
/-! texts that stand written: equal, not equal -/
section
variable {K : PySem.W.Frag} {H : Hp} {Q : VK} {z z' : Str}
theorem g_eqSS (h : Q (.bl true) H) : rEqU K false (.str z) (.str z) H Q := g_eqS (by rw [decide_eq_true (rfl : z = z)]; exact h)
theorem g_eqSx (e : ¬ z = z') (h : Q (.bl false) H) : rEqU K false (.str z) (.str z') H Q := g_eqS (by rw [decide_eq_false e]; exact h)
theorem g_neSS (h : Q (.bl false) H) : rEqU K true (.str z) (.str z) H Q := g_neS (by rw [decide_eq_true (rfl : z = z)]; exact h)
theorem g_neSx (e : ¬ z = z') (h : Q (.bl true) H) : rEqU K true (.str z) (.str z') H Q := g_neS (by rw [decide_eq_false e]; exact h)
end
theorem pg_tupU {X : Cx} {K : PySem.W.Frag} (hK : X.K = K) {es : List Expr} {k : Nat} {t : TGs} {n : Nat} {pos : Pos} (hc : X.calm = true) (h : PGs X es t)
    (hn : (assignEach es X.env).length = n := by rfl) (hst : (assignEach es X.env).findIdx? (·.1) = none := by rfl) : PG X (.Tuple es k pos) (gTup K n t) := by
  subst hK
  exact pg_tup hc h hn hst
/-! zip of two lists, of two tuples; a tuple's item by a written place -/
def rZipU (K : PySem.W.Frag) : List V → Hp → (It → Hp → Prop) → Prop := fun vs H1 R => ∃ a b xs ys, vs = [.ref a, .ref b] ∧ ((SqL K H1 a xs ∧ SqL K H1 b ys ∧ R (Itz K a b) H1) ∨ (SqT K H1 a xs ∧ SqT K H1 b ys ∧ R (RZ.ItzT K a b) H1))
theorem pi_zipU {X : Cx} {K : PySem.W.Frag} (hK : X.K = K) {e e2 : Expr} {ta : TA} {p pos tpos : Pos} {elts : List Expr} {kk : Nat} (hg : Gl X "zip") (hm : X.mg "zip" = none) (ha : PA X [e, e2] ta)
    (hs : starEach [e, e2] X.env = (false, eval e X.env) :: starEach [e2] X.env := by rfl) (hpl : (backTo pos (starEach [e2] X.env)).any (·.1) = false := by rfl) :
    PI X (.Tuple elts kk tpos) (.Call (.Name "zip" p) [e, e2] [] pos) (iR (rZipU K) ta) := by
  subst hK
  exact RZ.pi_zipA hg hm ha hs hpl
section
variable {K : PySem.W.Frag} {H : Hp} {Q : VK} {a b : Addr} {xs ys : List V} {i : Int} {v : V} {R : It → Hp → Prop} {td ty tx : TE} {σ : L2.St} {g : TG} {tb : TS} {D : Ends}
theorem g_ixA (h : H a = some (.tup xs)) (h0 : 0 ≤ i) (hv : xs[i.toNat]? = some v) (q : Q v H) : rIxU K (.ref a) (.int i) H Q := g_ixT (SqT.of h) (n := i.toNat) (Int.toNat_of_nonneg h0).symm hv q
theorem g_zipT (h1 : SqT K H a xs) (h2 : SqT K H b ys) (h : R (RZ.ItzT K a b) H) : rZipU K [.ref a, .ref b] H R := ⟨a, b, xs, ys, rfl, .inr ⟨h1, h2, h⟩⟩
theorem f_zipT (hl : xs.length = ys.length) (Pv : Nat → L2.St → Hp → Prop) (h0 : Pv 0 σ H) (hq : ∀ i σ H, Pv i σ H → SqT K H a xs ∧ SqT K H b ys)
    (hs : ∀ (i : Nat) (x y : V) (T : Addr) (σ : L2.St) (H : Hp), xs[i]? = some x → ys[i]? = some y → Pv i σ H → H T = none → g (.ref T) σ (upd H T (.tup [x, y])) fun σ2 H2 => tb { D with nx := Pv (i + 1), ct := Pv (i + 1), bk := D.nx } σ2 H2) (hd : ∀ σ H, Pv xs.length σ H → D.nx σ H) : ForW g tb D σ (RZ.ItzT K a b) H := RZ.for_zipT hl Pv h0 hq hs hd
theorem g_dget2 (h : td σ H fun x H1 => ∃ a, x = .ref a ∧ IsD H1 a ∧ ty σ H1 fun y H2 => tx σ H2 fun z H3 => ∃ o, DGet H3 a y o ∧ Q (o.getD z) H3) : tDGet2 td ty tx σ H Q := h
theorem g_dget1 (h : td σ H fun x H1 => ∃ a, x = .ref a ∧ IsD H1 a ∧ ty σ H1 fun y H2 => ∃ o, DGet H2 a y o ∧ Q (o.getD .non) H2) : tDGet1 td ty σ H Q := h
theorem g_isD {kvs : List (Key × V)} {A : Addr → Prop} (h : H a = some (.dK kvs)) (q : A a) : ∃ b, V.ref a = .ref b ∧ IsD H b ∧ A b := ⟨a, rfl, .inl ⟨kvs, .inl h⟩, q⟩
end
end G

set_option Elab.async false
set_option linter.all false
set_option maxRecDepth 100000
set_option maxHeartbeats 4000000
/-! Data that never changes: None, bools, ints, texts, tuples of such. -/
namespace G
open PySem PySem.Spec PyProof.Rows L2

mutual
/-- the value v is the data d, by the heap H -/
inductive Im (H : Hp) : V → PyData → Prop
  | non : Im H .non .none
  | bl (b : Bool) : Im H (.bl b) (.bool b)
  | int (i : Int) : Im H (.int i) (.int i)
  | str (x : Str) : Im H (.str x) (.str x)
  | tup {a : Addr} {xs : List V} {ds : List PyData} : H a = some (.tup xs) → Ims H xs ds → Im H (.ref a) (.tuple ds)
inductive Ims (H : Hp) : List V → List PyData → Prop
  | nil : Ims H [] []
  | cons {v : V} {vs : List V} {d : PyData} {ds : List PyData} : Im H v d → Ims H vs ds → Ims H (v :: vs) (d :: ds)
end
section
variable {K : PySem.W.Frag} {H H' : Hp} {v x y : V} {d e : PyData} {vs xs : List V} {ds es : List PyData} {a b p : Addr} {ms : List Addr} {i : Int} {z : Str}
mutual
theorem Im.mono : ∀ {v : V} {d : PyData}, Im H v d → (∀ a xs, H a = some (.tup xs) → H' a = some (.tup xs)) → Im H' v d
  | _, _, .non, _ => .non
  | _, _, .bl b, _ => .bl b
  | _, _, .int i, _ => .int i
  | _, _, .str x, _ => .str x
  | _, _, .tup h hs, k => .tup (k _ _ h) (Ims.mono hs k)
theorem Ims.mono : ∀ {vs : List V} {ds : List PyData}, Ims H vs ds → (∀ a xs, H a = some (.tup xs) → H' a = some (.tup xs)) → Ims H' vs ds
  | _, _, .nil, _ => .nil
  | _, _, .cons h t, k => .cons (Im.mono h k) (Ims.mono t k)
end
theorem Im.same (h : Im H v d) (k : Same H H') : Im H' v d := h.mono fun a xs e => k a _ e
theorem Ims.same (h : Ims H vs ds) (k : Same H H') : Ims H' vs ds := h.mono fun a xs e => k a _ e
/-- no tuple stands at ms -/
def NoTup (H : Hp) (ms : List Addr) : Prop := ∀ m ∈ ms, ∀ xs, H m ≠ some (.tup xs)
theorem NoTup.nil : NoTup H [] := fun _ h => nomatch h
theorem NoTup.one {o : HO} (h : H a = some o) (n : ∀ xs, o ≠ .tup xs) : NoTup H [a] := fun m hm xs e => by
  rw [List.mem_singleton.mp hm, h] at e
  exact n xs (Option.some.inj e)
theorem NoTup.new (h : H a = none) : NoTup H [a] := fun m hm xs e => by
  rw [List.mem_singleton.mp hm, h] at e
  cases e
theorem NoTup.cons {o : HO} (h : H a = some o) (n : ∀ xs, o ≠ .tup xs) (t : NoTup H ms) : NoTup H (a :: ms) := fun m hm xs e => by
  rcases List.mem_cons.mp hm with z | z
  · rw [z, h] at e
    exact n xs (Option.some.inj e)
  · exact t m z xs e
theorem Im.keep (h : Im H v d) (k : Keep ms H H') (n : NoTup H ms) : Im H' v d := h.mono fun a xs e => k a _ e fun z => n a z xs e
theorem Ims.keep (h : Ims H vs ds) (k : Keep ms H H') (n : NoTup H ms) : Ims H' vs ds := h.mono fun a xs e => k a _ e fun z => n a z xs e
mutual
theorem Im.dp : ∀ {v : V} {d : PyData}, Im H v d → Dp K H v d
  | _, _, .non => .non
  | _, _, .bl b => .bl b
  | _, _, .int i => .int i
  | _, _, .str x => .str x
  | _, _, .tup h hs => .tup (SqT.of h) (Ims.dp hs)
theorem Ims.dp : ∀ {vs : List V} {ds : List PyData}, Ims H vs ds → DpAll K H vs ds
  | _, _, .nil => .nil
  | _, _, .cons h t => .cons (Im.dp h) (Ims.dp t)
end
theorem Ims.length : ∀ {vs : List V} {ds : List PyData}, Ims H vs ds → vs.length = ds.length
  | _, _, .nil => rfl
  | _, _, .cons _ t => by rw [List.length_cons, List.length_cons, t.length]
theorem Ims.get : ∀ {vs : List V} {ds : List PyData} {n : Nat} {d : PyData}, Ims H vs ds → ds[n]? = some d → ∃ v, vs[n]? = some v ∧ Im H v d
  | _, _, n, _, .nil, e => by simp at e
  | _, _, 0, _, .cons h t, e => by
    simp only [List.getElem?_cons_zero, Option.some.injEq] at e
    subst e
    exact ⟨_, rfl, h⟩
  | _, _, n + 1, _, .cons h t, e => by
    simp only [List.getElem?_cons_succ] at e
    obtain ⟨v, h1, h2⟩ := t.get e
    exact ⟨v, by simpa using h1, h2⟩
theorem Ims.append : ∀ {vs xs : List V} {ds es : List PyData}, Ims H vs ds → Ims H xs es → Ims H (vs ++ xs) (ds ++ es)
  | _, _, _, _, .nil, s => s
  | _, _, _, _, .cons h t, s => .cons h (t.append s)
theorem Ims.take : ∀ {vs : List V} {ds : List PyData} (n : Nat), Ims H vs ds → Ims H (vs.take n) (ds.take n)
  | _, _, 0, _ => .nil
  | _, _, _ + 1, .nil => .nil
  | _, _, n + 1, .cons h t => .cons h (t.take n)
theorem Ims.drop : ∀ {vs : List V} {ds : List PyData} (n : Nat), Ims H vs ds → Ims H (vs.drop n) (ds.drop n)
  | _, _, 0, h => h
  | _, _, _ + 1, .nil => .nil
  | _, _, n + 1, .cons _ t => t.drop n
theorem Ims.one (h : Im H v d) : Ims H [v] [d] := .cons h .nil
theorem Im.int_inv (h : Im H v (.int i)) : v = .int i := by cases h; rfl
theorem Im.bl_inv {b : Bool} (h : Im H v (.bool b)) : v = .bl b := by cases h; rfl
theorem Im.str_inv (h : Im H v (.str z)) : v = .str z := by cases h; rfl
theorem Im.non_inv (h : Im H v .none) : v = .non := by cases h; rfl
theorem Im.tup_inv (h : Im H v (.tuple ds)) : ∃ a xs, v = .ref a ∧ H a = some (.tup xs) ∧ Ims H xs ds := by
  cases h with
  | tup h hs => exact ⟨_, _, rfl, h, hs⟩
/-- the items of ds[lo:hi] -/
def cutD (ds : List PyData) (lo hi : Option Int) : List PyData := (ds.drop (HT.sIx ds.length 0 lo)).take (HT.sIx ds.length ds.length hi - HT.sIx ds.length 0 lo)
theorem Ims.cut {lo hi : Option Int} (h : Ims H vs ds) : Ims H (cutV vs lo hi) (cutD ds lo hi) := by
  unfold cutV cutD
  rw [h.length]
  exact (h.drop _).take _
theorem cutD_to {n : Nat} : cutD ds none (some (n : Int)) = ds.take n := by
  unfold cutD
  rw [HT.sIx_nat, HT.sIx_none, Nat.sub_zero, List.drop_zero]
  by_cases h : n ≤ ds.length
  · rw [Nat.min_eq_left h]
  · rw [Nat.min_eq_right (by omega), List.take_of_length_le (Nat.le_refl _), List.take_of_length_le (by omega)]
theorem cutD_from {n : Nat} : cutD ds (some (n : Int)) none = ds.drop n := by
  unfold cutD
  rw [HT.sIx_nat, HT.sIx_none]
  by_cases h : n ≤ ds.length
  · rw [Nat.min_eq_left h, List.take_of_length_le (by simp)]
  · rw [Nat.min_eq_right (by omega), List.drop_of_length_le (by omega), List.drop_of_length_le (by omega)]
    simp
theorem cutD_length (ds : List PyData) (lo hi : Option Int) : (cutD ds lo hi).length ≤ ds.length := by
  unfold cutD
  rw [List.length_take, List.length_drop]
  omega
end
/-! ### the steps over data -/
section
variable {K : PySem.W.Frag} {H : Hp} {Q : VK} {v x y : V} {d e : PyData} {vs xs : List V} {ds es : List PyData} {a b p : Addr} {i : Int} {z : Str} {n : Nat} {lo hi : Option Int} {R : It → Hp → Prop} {QB : Bool → Hp → Prop}
/-- a new tuple of data -/
theorem m_new (h : Ims H xs ds) (hl : ds.length ≤ 100000) (k : ∀ p H', Same H H' → H p = none → Im H' (.ref p) (.tuple ds) → Q (.ref p) H') : rTupN xs H Q :=
  ⟨szle (by rw [h.length]; exact hl), fun p hp => k p _ (Same.new hp) hp (.tup upd_same (h.same (Same.new hp)))⟩
theorem m_ix (h : Im H x (.tuple ds)) (e : i = (n : Int)) (hd : ds[n]? = some d) (k : ∀ v, Im H v d → Q v H) : rIxU K x (.int i) H Q := by
  obtain ⟨a, xs, rfl, h1, h2⟩ := h.tup_inv
  obtain ⟨v, hv, hm⟩ := h2.get hd
  exact g_ixT (SqT.of h1) e hv (k v hm)
theorem m_len (h : Im H x (.tuple ds)) (q : Q (.int (ds.length : Nat)) H) : rLenU K [x] H Q := by
  obtain ⟨a, xs, rfl, h1, h2⟩ := h.tup_inv
  refine g_lenT (SqT.of h1) ?_
  rw [h2.length]
  exact q
theorem m_eq (hx : Im H x d) (hy : Im H y e) (s1 : SeqAt.shaped d = true) (s2 : SeqAt.shaped e = true) (h : Q (.bl (PyData.eqv d e)) H) : rEqU K false x y H Q := g_eqD hx.dp hy.dp s1 s2 h
theorem m_ne (hx : Im H x d) (hy : Im H y e) (s1 : SeqAt.shaped d = true) (s2 : SeqAt.shaped e = true) (h : Q (.bl (!PyData.eqv d e)) H) : rEqU K true x y H Q := g_neD hx.dp hy.dp s1 s2 h
theorem m_cat (hx : Im H x (.tuple ds)) (hy : Im H y (.tuple es)) (hl : ds.length + es.length ≤ 100000) (k : ∀ p H', Same H H' → Im H' (.ref p) (.tuple (ds ++ es)) → Q (.ref p) H') : rAddU K x y H Q := by
  obtain ⟨a, xs, rfl, h1, h2⟩ := hx.tup_inv
  obtain ⟨b, ys, rfl, h3, h4⟩ := hy.tup_inv
  refine .inr ⟨a, b, xs, ys, rfl, rfl, SqT.of h1, SqT.of h3, szle (by rw [h2.length, h4.length]; exact hl), fun e => ?_, fun _ e => ?_, fun _ _ p hp => ?_⟩
  · subst e
    have : ds = [] := by cases h2; rfl
    subst this
    exact k b H (Same.refl H) hy
  · subst e
    have : es = [] := by cases h4; rfl
    subst this
    rw [List.append_nil] at k
    exact k a H (Same.refl H) hx
  · exact k p _ (Same.new hp) (.tup upd_same ((h2.append h4).same (Same.new hp)))
theorem m_sl (hx : Im H x (.tuple ds)) (k : ∀ p H', Same H H' → Im H' (.ref p) (.tuple (cutD ds lo hi)) → Q (.ref p) H') : rSlU K x lo hi H Q := by
  obtain ⟨a, xs, rfl, h1, h2⟩ := hx.tup_inv
  refine .inr (.inl ⟨a, xs, rfl, SqT.of h1, fun e => ?_, fun _ p hp => ?_⟩)
  · have z : cutD ds lo hi = ds := by
      unfold cutD
      rw [← h2.length, e.1, e.2, List.drop_zero, Nat.sub_zero, h2.length, List.take_length]
    rw [z] at k
    exact k a H (Same.refl H) hx
  · exact k p _ (Same.new hp) (.tup upd_same (h2.cut.same (Same.new hp)))
theorem m_isiT {T' : String} {b : Bool} (hx : Im H x (.tuple ds)) (hk : kitB "tuple" T' = some b) (h : Q (.bl b) H) : rIsi K [x, .ty T'] H Q := by
  obtain ⟨a, xs, rfl, h1, _⟩ := hx.tup_inv
  exact isi_of (.base (.tup h1)) hk h
theorem m_seq (hx : Im H x (.tuple ds)) (k : ∀ a xs, x = .ref a → H a = some (.tup xs) → Ims H xs ds → R (Itt K a) H) : (∃ b ys, x = .ref b ∧ SqL K H b ys ∧ R (Itl K b) H) ∨ ∃ b ys, x = .ref b ∧ SqT K H b ys ∧ R (Itt K b) H := by
  obtain ⟨a, xs, e, h1, h2⟩ := hx.tup_inv
  exact .inr ⟨a, xs, e, SqT.of h1, k a xs e h1 h2⟩
end
/-! tuple(..) -/
def rTupU (K : PySem.W.Frag) : List V → Hp → VK → Prop := fun vs H Q => ∃ x, vs = [x] ∧ kTup K x H Q
theorem c_tuple {X : Cx} {K : PySem.W.Frag} (hK : X.K = K) : CallR X (.type "tuple") (rTupU K) := by
  subst hK
  rintro pins s σ H _ us Q I r ⟨x, rfl, h⟩
  obtain ⟨u, rfl, ru⟩ := vals1 r
  exact rl_tuple pins s σ H x u Q I ru h
section
variable {K : PySem.W.Frag} {H : Hp} {Q : VK} {x : V} {a : Addr} {xs : List V} {ds : List PyData}
theorem m_tupleT (hx : Im H x (.tuple ds)) (q : Q x H) : rTupU K [x] H Q := by
  obtain ⟨a, xs, rfl, h1, _⟩ := hx.tup_inv
  exact ⟨_, rfl, .inr ⟨a, xs, rfl, SqT.of h1, q⟩⟩
theorem m_tupleL (h : SqL K H a xs) (hm : Ims H xs ds) (k : ∀ p H', Same H H' → H p = none → Im H' (.ref p) (.tuple ds) → Q (.ref p) H') : rTupU K [.ref a] H Q :=
  ⟨_, rfl, .inl ⟨a, xs, rfl, h, fun p hp => k p _ (Same.new hp) hp (.tup upd_same (hm.same (Same.new hp)))⟩⟩
end
/-! ### what == says -/
theorem shaped_of {d : PyData} (h : d.canLay0 = true) (h2 : d.depth ≤ 64) : SeqAt.shaped d = true := by
  unfold SeqAt.shaped
  rw [h, decide_eq_true h2]
  rfl
theorem layAll_mem : ∀ {ds : List PyData}, (∀ d ∈ ds, d.canLay0 = true) → PyData.canLayAll0 ds = true
  | [], _ => rfl
  | d :: ds, h => by
    rw [PyData.canLayAll0, h d List.mem_cons_self, layAll_mem fun x hx => h x (List.mem_cons_of_mem _ hx)]
    rfl
theorem depthAll_mem {k : Nat} : ∀ {ds : List PyData}, (∀ d ∈ ds, d.depth ≤ k) → PyData.depthAll ds ≤ k
  | [], _ => by rw [PyData.depthAll]; exact Nat.zero_le _
  | d :: ds, h => by
    rw [PyData.depthAll]
    exact Nat.max_le.mpr ⟨h d List.mem_cons_self, depthAll_mem fun x hx => h x (List.mem_cons_of_mem _ hx)⟩
/-- data of depth at most k -/
def Lay (k : Nat) (d : PyData) : Prop := d.canLay0 = true ∧ d.depth ≤ k
theorem Lay.shaped {k : Nat} {d : PyData} (h : Lay k d) (hk : k ≤ 64) : SeqAt.shaped d = true := shaped_of h.1 (Nat.le_trans h.2 hk)
theorem Lay.tup {k : Nat} {ds : List PyData} (h : ∀ d ∈ ds, Lay k d) : Lay (k + 1) (.tuple ds) :=
  ⟨by rw [PyData.canLay0]; exact layAll_mem fun d hd => (h d hd).1, by rw [PyData.depth]; exact Nat.succ_le_succ (depthAll_mem fun d hd => (h d hd).2)⟩
theorem Lay.int {k : Nat} {i : Int} : Lay k (.int i) := ⟨by rw [PyData.canLay0], by rw [PyData.depth]; exact Nat.zero_le _⟩
theorem Lay.bl {k : Nat} {b : Bool} : Lay k (.bool b) := ⟨by rw [PyData.canLay0], by rw [PyData.depth]; exact Nat.zero_le _⟩
theorem Lay.non {k : Nat} : Lay k .none := ⟨by rw [PyData.canLay0], by rw [PyData.depth]; exact Nat.zero_le _⟩
theorem Lay.str {k : Nat} {z : Str} (h : PyData.strOk z = true) : Lay k (.str z) := ⟨by rw [PyData.canLay0]; exact h, by rw [PyData.depth]; exact Nat.zero_le _⟩
theorem Lay.mono {k k' : Nat} {d : PyData} (h : Lay k d) (hk : k ≤ k') : Lay k' d := ⟨h.1, Nat.le_trans h.2 hk⟩
theorem Lay.refl {k : Nat} {d : PyData} (h : Lay k d) : PyData.eqv d d = true := SeqAt.eqv_refl d h.1
theorem inV_strs {k : Str} {ks : List Str} : inV (.str k) (ks.map V.str) = ks.contains k := by
  unfold inV
  induction ks with
  | nil => rfl
  | cons z ks ih =>
    rw [List.map_cons, List.any_cons, ih, List.contains_cons]
    congr 1
    have e : eqV (.str z) (.str k) = (z == k) := rfl
    rw [e]
    by_cases h : z = k
    · subst h; rfl
    · rw [beq_eq_false_iff_ne.mpr h, beq_eq_false_iff_ne.mpr (Ne.symm h)]
theorem flat_strs {ks : List Str} : (ks.map V.str).all flatV = true := by
  induction ks with
  | nil => rfl
  | cons z ks ih => rw [List.map_cons, List.all_cons, ih]; rfl
/-- a text within a new tuple, a new list of texts -/
theorem g_inTs {K : PySem.W.Frag} {H : Hp} {Q : VK} {k : Str} {p : Addr} {ks : List Str} (h : H p = some (.tup (ks.map V.str)) ∨ H p = some (.lst (ks.map V.str))) (q : Q (.bl (ks.contains k)) H) : rInU K false (.str k) (.ref p) H Q := by
  refine .inl ⟨p, ks.map V.str, rfl, ?_, rfl, flat_strs, ?_⟩
  · rcases h with h | h
    · exact .inr (SqT.of h)
    · exact .inl (SqL.of h)
  · rw [inV_strs]
    exact q
theorem g_niTs {K : PySem.W.Frag} {H : Hp} {Q : VK} {k : Str} {p : Addr} {ks : List Str} (h : H p = some (.tup (ks.map V.str)) ∨ H p = some (.lst (ks.map V.str))) (q : Q (.bl (!ks.contains k)) H) : rInU K true (.str k) (.ref p) H Q := by
  refine .inl ⟨p, ks.map V.str, rfl, ?_, rfl, flat_strs, ?_⟩
  · rcases h with h | h
    · exact .inr (SqT.of h)
    · exact .inl (SqL.of h)
  · rw [inV_strs]
    exact q
theorem map_take_succ {α β : Type} {f : α → β} {ds : List α} {i : Nat} {d : α} (h : ds[i]? = some d) : (ds.take (i + 1)).map f = (ds.take i).map f ++ [f d] := by
  rw [List.take_add_one, h, List.map_append]
  rfl
theorem filter_take_succ {α : Type} {f : α → Bool} {ds : List α} {i : Nat} {d : α} (h : ds[i]? = some d) : (ds.take (i + 1)).filter f = (ds.take i).filter f ++ (if f d then [d] else []) := by
  rw [List.take_add_one, h, List.filter_append]
  congr 1
  show [d].filter f = _
  rw [List.filter_cons]
  rfl
/-! ### data of any kind, looked at -/
def isI : PyData → Bool
  | .int _ => true
  | .bool _ => true
  | _ => false
def isB : PyData → Bool
  | .bool _ => true
  | _ => false
def isS : PyData → Bool
  | .str _ => true
  | _ => false
def isT : PyData → Bool
  | .tuple _ => true
  | _ => false
def strD (ks : List Str) : PyData → Bool
  | .str z => ks.contains z
  | _ => false
def numD (lo hi : Int) : PyData → Bool
  | .int i => decide (lo ≤ i) && decide (i ≤ hi)
  | _ => false
def lenI (n : Int) : PyData → Bool
  | .tuple ds => decide ((ds.length : Int) = n)
  | _ => false
section
variable {K : PySem.W.Frag} {H : Hp} {Q : VK} {x y : V} {d e : PyData} {vs xs : List V} {ds es : List PyData} {a b p : Addr} {i lo hi : Int} {z : Str} {n : Nat} {ks : List Str}
theorem m_isiI (hx : Im H x d) (q : Q (.bl (isI d)) H) : rIsi K [x, .ty "int"] H Q := by
  cases hx with
  | non => exact g_isiNi q
  | bl b => exact g_isiBi q
  | int i => exact g_isiIi q
  | str z => exact g_isiSi q
  | tup h hs => exact m_isiT (.tup h hs) k_ti q
theorem m_isiB (hx : Im H x d) (q : Q (.bl (isB d)) H) : rIsi K [x, .ty "bool"] H Q := by
  cases hx with
  | non => exact g_isiNb q
  | bl b => exact g_isiBb q
  | int i => exact g_isiIb q
  | str z => exact g_isiSb q
  | tup h hs => exact m_isiT (.tup h hs) k_tb q
theorem m_isiS (hx : Im H x d) (q : Q (.bl (isS d)) H) : rIsi K [x, .ty "str"] H Q := by
  cases hx with
  | non => exact g_isiNs q
  | bl b => exact g_isiBs q
  | int i => exact g_isiIs q
  | str z => exact g_isiSs q
  | tup h hs => exact m_isiT (.tup h hs) k_ts q
theorem m_isiU (hx : Im H x d) (q : Q (.bl (isT d)) H) : rIsi K [x, .ty "tuple"] H Q := by
  cases hx with
  | non => exact g_isiNt q
  | bl b => exact g_isiBt q
  | int i => exact g_isiIt q
  | str z => exact g_isiSt q
  | tup h hs => exact m_isiT (.tup h hs) k_tt q
theorem isT_inv (h : isT d = true) : ∃ ds, d = .tuple ds := by
  cases d <;> first | (cases h; done) | exact ⟨_, rfl⟩
theorem isS_inv (h : isS d = true) : ∃ z, d = .str z := by
  cases d <;> first | (cases h; done) | exact ⟨_, rfl⟩
theorem isB_inv (h : isB d = true) : ∃ b, d = .bool b := by
  cases d <;> first | (cases h; done) | exact ⟨_, rfl⟩
theorem num_inv (h : numD lo hi d = true) : ∃ i, d = .int i ∧ lo ≤ i ∧ i ≤ hi := by
  cases d <;> first | (cases h; done) | skip
  rename_i i
  replace h : (decide (lo ≤ i) && decide (i ≤ hi)) = true := h
  rw [Bool.and_eq_true, decide_eq_true_eq, decide_eq_true_eq] at h
  exact ⟨i, rfl, h.1, h.2⟩
theorem num_of (h1 : lo ≤ i) (h2 : i ≤ hi) : numD lo hi (.int i) = true := by
  show (decide (lo ≤ i) && decide (i ≤ hi)) = true
  rw [decide_eq_true h1, decide_eq_true h2]
  rfl
theorem str_inv (h : strD ks d = true) : ∃ z, d = .str z ∧ z ∈ ks := by
  cases d <;> first | (cases h; done) | skip
  rename_i z
  exact ⟨z, rfl, List.contains_iff_mem.mp h⟩
theorem len_inv (h : lenI (n : Int) d = true) : ∃ ds, d = .tuple ds ∧ ds.length = n := by
  cases d <;> first | (cases h; done) | skip
  rename_i ds
  replace h : decide ((ds.length : Int) = n) = true := h
  rw [decide_eq_true_eq] at h
  exact ⟨ds, rfl, by omega⟩
theorem len1 (h : lenI 1 d = true) : ∃ a, d = .tuple [a] := by
  obtain ⟨ds, rfl, hl⟩ := len_inv (n := 1) h
  match ds, hl with
  | [a], _ => exact ⟨a, rfl⟩
theorem len2 (h : lenI 2 d = true) : ∃ a b, d = .tuple [a, b] := by
  obtain ⟨ds, rfl, hl⟩ := len_inv (n := 2) h
  match ds, hl with
  | [a, b], _ => exact ⟨a, b, rfl⟩
theorem len3 (h : lenI 3 d = true) : ∃ a b c, d = .tuple [a, b, c] := by
  obtain ⟨ds, rfl, hl⟩ := len_inv (n := 3) h
  match ds, hl with
  | [a, b, c], _ => exact ⟨a, b, c, rfl⟩
theorem len4 (h : lenI 4 d = true) : ∃ a b c e, d = .tuple [a, b, c, e] := by
  obtain ⟨ds, rfl, hl⟩ := len_inv (n := 4) h
  match ds, hl with
  | [a, b, c, e], _ => exact ⟨a, b, c, e, rfl⟩
theorem len7 (h : lenI 7 d = true) : ∃ a b c e f g k, d = .tuple [a, b, c, e, f, g, k] := by
  obtain ⟨ds, rfl, hl⟩ := len_inv (n := 7) h
  match ds, hl with
  | [a, b, c, e, f, g, k], _ => exact ⟨a, b, c, e, f, g, k, rfl⟩
theorem Ims.cons_inv (h : Ims H vs (d :: ds)) : ∃ v ws, vs = v :: ws ∧ Im H v d ∧ Ims H ws ds := by
  cases h with
  | cons h t => exact ⟨_, _, rfl, h, t⟩
theorem Ims.nil_inv (h : Ims H vs []) : vs = [] := by
  cases h
  rfl
theorem Ims.mem : ∀ {vs : List V} {ds : List PyData} {v : V}, Ims H vs ds → v ∈ vs → ∃ d ∈ ds, Im H v d
  | _, _, _, .nil, h => by cases h
  | _, _, _, .cons h t, hv => by
    rcases List.mem_cons.mp hv with rfl | hv
    · exact ⟨_, List.mem_cons_self, h⟩
    · obtain ⟨d, hd, hi⟩ := t.mem hv
      exact ⟨d, List.mem_cons_of_mem _ hd, hi⟩
theorem ims_strs : ∀ (ks : List Str), Ims H (ks.map V.str) (ks.map PyData.str)
  | [] => .nil
  | z :: ks => .cons (.str z) (ims_strs ks)
theorem any_strs : ∀ (ks : List Str), ((ks.map PyData.str).any fun z => PyData.eqv z d) = strD ks d
  | [] => by cases d <;> rfl
  | z :: ks => by
    rw [List.map_cons, List.any_cons, any_strs ks]
    cases d <;> first | (unfold PyData.eqv strD; rfl) | skip
    rename_i y
    show (PyData.eqv (.str z) (.str y) || ks.contains y) = (z :: ks).contains y
    unfold PyData.eqv
    rw [List.contains_cons, Bool.beq_comm]
theorem lay_strs (h : ∀ k ∈ ks, PyData.strOk k = true) : PyData.canLayAll0 (ks.map PyData.str) = true := layAll_mem fun d hd => by
  obtain ⟨k, hk, rfl⟩ := List.mem_map.mp hd
  rw [PyData.canLay0]
  exact h k hk
/-- data within a tuple of texts -/
theorem m_inTs (h : H p = some (.tup (ks.map V.str))) (hx : Im H x d) (sd : SeqAt.shaped d = true) (hs : ∀ k ∈ ks, PyData.strOk k = true) (q : Q (.bl (strD ks d)) H) : rInU K false x (.ref p) H Q := by
  refine .inr (.inr (.inr ⟨d, ks.map PyData.str, hx.dp, .inl (Im.dp (.tup h (ims_strs ks))), sd, lay_strs hs, ?_⟩))
  rw [any_strs]
  exact q
theorem m_niTs (h : H p = some (.tup (ks.map V.str))) (hx : Im H x d) (sd : SeqAt.shaped d = true) (hs : ∀ k ∈ ks, PyData.strOk k = true) (q : Q (.bl (!strD ks d)) H) : rInU K true x (.ref p) H Q := by
  refine .inr (.inr (.inr ⟨d, ks.map PyData.str, hx.dp, .inl (Im.dp (.tup h (ims_strs ks))), sd, lay_strs hs, ?_⟩))
  rw [any_strs]
  exact q
theorem strD_eqv : PyData.eqv d (.str z) = strD [z] d := by
  cases d <;> first | (unfold PyData.eqv strD; rfl) | skip
  rename_i y
  show PyData.eqv (.str y) (.str z) = [z].contains y
  unfold PyData.eqv
  rw [List.contains_cons]
  simp
theorem m_eqS (hx : Im H x d) (sd : SeqAt.shaped d = true) (hz : PyData.strOk z = true) (q : Q (.bl (strD [z] d)) H) : rEqU K false x (.str z) H Q :=
  m_eq hx (.str z) sd ((Lay.str (k := 0) hz).shaped (by decide)) (by rw [strD_eqv]; exact q)
theorem m_neS (hx : Im H x d) (sd : SeqAt.shaped d = true) (hz : PyData.strOk z = true) (q : Q (.bl (!strD [z] d)) H) : rEqU K true x (.str z) H Q :=
  m_ne hx (.str z) sd ((Lay.str (k := 0) hz).shaped (by decide)) (by rw [strD_eqv]; exact q)
theorem im1 {d1 : PyData} (h : Im H x (.tuple [d1])) : ∃ a x1, x = .ref a ∧ H a = some (.tup [x1]) ∧ Im H x1 d1 := by
  obtain ⟨a, xs, rfl, h1, h2⟩ := h.tup_inv
  obtain ⟨x1, r, rfl, i1, h2⟩ := h2.cons_inv
  rw [h2.nil_inv] at h1
  exact ⟨a, x1, rfl, h1, i1⟩
theorem im2 {d1 d2 : PyData} (h : Im H x (.tuple [d1, d2])) : ∃ a x1 x2, x = .ref a ∧ H a = some (.tup [x1, x2]) ∧ Im H x1 d1 ∧ Im H x2 d2 := by
  obtain ⟨a, xs, rfl, h1, h2⟩ := h.tup_inv
  obtain ⟨x1, r, rfl, i1, h2⟩ := h2.cons_inv
  obtain ⟨x2, r, rfl, i2, h2⟩ := h2.cons_inv
  rw [h2.nil_inv] at h1
  exact ⟨a, x1, x2, rfl, h1, i1, i2⟩
theorem im3 {d1 d2 d3 : PyData} (h : Im H x (.tuple [d1, d2, d3])) : ∃ a x1 x2 x3, x = .ref a ∧ H a = some (.tup [x1, x2, x3]) ∧ Im H x1 d1 ∧ Im H x2 d2 ∧ Im H x3 d3 := by
  obtain ⟨a, xs, rfl, h1, h2⟩ := h.tup_inv
  obtain ⟨x1, r, rfl, i1, h2⟩ := h2.cons_inv
  obtain ⟨x2, r, rfl, i2, h2⟩ := h2.cons_inv
  obtain ⟨x3, r, rfl, i3, h2⟩ := h2.cons_inv
  rw [h2.nil_inv] at h1
  exact ⟨a, x1, x2, x3, rfl, h1, i1, i2, i3⟩
theorem im4 {d1 d2 d3 d4 : PyData} (h : Im H x (.tuple [d1, d2, d3, d4])) : ∃ a x1 x2 x3 x4, x = .ref a ∧ H a = some (.tup [x1, x2, x3, x4]) ∧ Im H x1 d1 ∧ Im H x2 d2 ∧ Im H x3 d3 ∧ Im H x4 d4 := by
  obtain ⟨a, xs, rfl, h1, h2⟩ := h.tup_inv
  obtain ⟨x1, r, rfl, i1, h2⟩ := h2.cons_inv
  obtain ⟨x2, r, rfl, i2, h2⟩ := h2.cons_inv
  obtain ⟨x3, r, rfl, i3, h2⟩ := h2.cons_inv
  obtain ⟨x4, r, rfl, i4, h2⟩ := h2.cons_inv
  rw [h2.nil_inv] at h1
  exact ⟨a, x1, x2, x3, x4, rfl, h1, i1, i2, i3, i4⟩
end
theorem layAll_inv : ∀ {ds : List PyData}, PyData.canLayAll0 ds = true → ∀ d ∈ ds, d.canLay0 = true
  | [], _, d, hd => by cases hd
  | e :: ds, h, d, hd => by
    rw [PyData.canLayAll0, Bool.and_eq_true] at h
    rcases List.mem_cons.mp hd with rfl | hd
    · exact h.1
    · exact layAll_inv h.2 d hd
theorem depthAll_inv {k : Nat} : ∀ {ds : List PyData}, PyData.depthAll ds ≤ k → ∀ d ∈ ds, d.depth ≤ k
  | [], _, d, hd => by cases hd
  | e :: ds, h, d, hd => by
    rw [PyData.depthAll] at h
    rcases List.mem_cons.mp hd with rfl | hd
    · omega
    · exact depthAll_inv (by omega) d hd
theorem Lay.items {k : Nat} {ds : List PyData} (h : Lay k (.tuple ds)) : ∀ d ∈ ds, Lay k d := fun d hd => by
  obtain ⟨h1, h2⟩ := h
  rw [PyData.canLay0] at h1
  rw [PyData.depth] at h2
  exact ⟨layAll_inv h1 d hd, depthAll_inv (by omega) d hd⟩
/-! how wide, how deep -/
def Wd (n : Nat) : Nat → PyData → Prop
  | 0, .none => True
  | 0, .bool _ => True
  | 0, .int _ => True
  | 0, .str z => PyData.strOk z = true
  | k + 1, .tuple ds => ds.length ≤ n ∧ ∀ x ∈ ds, Wd n k x
  | _ + 1, .none => True
  | _ + 1, .bool _ => True
  | _ + 1, .int _ => True
  | _ + 1, .str z => PyData.strOk z = true
  | _, _ => False
theorem Wd.lay {n : Nat} : ∀ {k : Nat} {d : PyData}, Wd n k d → Lay k d
  | 0, .none, _ => Lay.non
  | 0, .bool _, _ => Lay.bl
  | 0, .int _, _ => Lay.int
  | 0, .str _, h => Lay.str h
  | 0, .tuple _, h => h.elim
  | 0, .list _, h => h.elim
  | 0, .dict _, h => h.elim
  | _ + 1, .none, _ => Lay.non
  | _ + 1, .bool _, _ => Lay.bl
  | _ + 1, .int _, _ => Lay.int
  | _ + 1, .str _, h => Lay.str h
  | k + 1, .tuple ds, h => Lay.tup fun d hd => (h.2 d hd).lay
  | _ + 1, .list _, h => h.elim
  | _ + 1, .dict _, h => h.elim
theorem Wd.mono {n m : Nat} (hn : n ≤ m) : ∀ {k l : Nat} {d : PyData}, k ≤ l → Wd n k d → Wd m l d
  | 0, 0, .none, _, _ => trivial
  | 0, 0, .bool _, _, _ => trivial
  | 0, 0, .int _, _, _ => trivial
  | 0, 0, .str _, _, h => h
  | 0, l + 1, .none, _, _ => trivial
  | 0, l + 1, .bool _, _, _ => trivial
  | 0, l + 1, .int _, _, _ => trivial
  | 0, l + 1, .str _, _, h => h
  | 0, _, .tuple _, _, h => h.elim
  | 0, _, .list _, _, h => h.elim
  | 0, _, .dict _, _, h => h.elim
  | k + 1, 0, _, e, _ => absurd e (by omega)
  | k + 1, l + 1, .none, _, _ => trivial
  | k + 1, l + 1, .bool _, _, _ => trivial
  | k + 1, l + 1, .int _, _, _ => trivial
  | k + 1, l + 1, .str _, _, h => h
  | k + 1, l + 1, .tuple ds, e, h => ⟨Nat.le_trans h.1 hn, fun x hx => Wd.mono hn (by omega) (h.2 x hx)⟩
  | k + 1, _, .list _, _, h => h.elim
  | k + 1, _, .dict _, _, h => h.elim
theorem cutD_mem {ds : List PyData} {lo hi : Option Int} {d : PyData} (h : d ∈ cutD ds lo hi) : d ∈ ds := by
  unfold cutD at h
  exact List.mem_of_mem_drop (List.mem_of_mem_take h)
theorem Wd.cut {n k : Nat} {ds : List PyData} {lo hi : Option Int} (h : Wd n (k + 1) (.tuple ds)) : Wd n (k + 1) (.tuple (cutD ds lo hi)) := ⟨Nat.le_trans (cutD_length ds lo hi) h.1, fun x hx => h.2 x (cutD_mem hx)⟩
theorem Wd.cat {n m k : Nat} {ds es : List PyData} (h : Wd n (k + 1) (.tuple ds)) (g : Wd m (k + 1) (.tuple es)) : Wd (n + m) (k + 1) (.tuple (ds ++ es)) :=
  ⟨by rw [List.length_append]; exact Nat.add_le_add h.1 g.1, fun x hx => by
    rcases List.mem_append.mp hx with hx | hx
    · exact (h.2 x hx).mono (by omega) (Nat.le_refl _)
    · exact (g.2 x hx).mono (by omega) (Nat.le_refl _)⟩
/-! lists of ints as data -/
theorem lst_shaped {ns : List Int} : SeqAt.shaped (.list (ns.map .int)) = true := shaped_of (by
    rw [PyData.canLay0]
    exact layAll_mem fun d hd => by
      obtain ⟨x, _, rfl⟩ := List.mem_map.mp hd
      rw [PyData.canLay0]) (by
    rw [PyData.depth]
    have : PyData.depthAll (ns.map .int) ≤ 0 := depthAll_mem fun d hd => by
      obtain ⟨x, _, rfl⟩ := List.mem_map.mp hd
      rw [PyData.depth]
      exact Nat.le_refl _
    omega)
theorem lst_all {K : PySem.W.Frag} {H : Hp} : ∀ ms : List Int, DpAll K H (ms.map V.int) (ms.map .int)
  | [] => .nil
  | m :: ms => .cons (.int m) (lst_all ms)
theorem lst_dp {K : PySem.W.Frag} {H : Hp} {a : Addr} {ns : List Int} (h : H a = some (.lst (ns.map V.int))) : Dp K H (.ref a) (.list (ns.map .int)) := .lst (SqL.of h) (lst_all ns)
theorem eqv_lnil {ds : List PyData} : PyData.eqv (.list ds) (.list []) = ds.isEmpty := by
  unfold PyData.eqv
  cases ds with
  | nil => unfold PyData.eqvAll; rfl
  | cons d ds => unfold PyData.eqvAll; rfl
theorem wd_s {z : Str} {n k : Nat} (h : PyData.strOk z = true) : Wd n k (.str z) := by
  cases k <;> exact h
theorem wd_i {i : Int} {n k : Nat} : Wd n k (.int i) := by
  cases k <;> trivial
theorem wd_b {b : Bool} {n k : Nat} : Wd n k (.bool b) := by
  cases k <;> trivial
theorem wd_o {n k : Nat} : Wd n k .none := by
  cases k <;> trivial
theorem wd_t {n k : Nat} {ds : List PyData} (h : ds.length ≤ n) (g : ∀ x ∈ ds, Wd n k x) : Wd n (k + 1) (.tuple ds) := ⟨h, g⟩
theorem g_dK {H : Hp} {a : Addr} {kvs : List (Key × V)} {z : Str} {P : Option V → Prop} (h : H a = some (.dK kvs)) (q : P (valV kvs (.inr z))) : ∃ o, DGet H a (.str z) o ∧ P o := ⟨_, DGet.k (k := .inr z) h, q⟩
theorem dp_k {H : Hp} {a : Addr} {kvs : List (Key × V)} {z : Str} {v : V} (h : H a = some (.dK kvs)) (hl : kvs.length < sizeLine) : DPut H a (.str z) v (upd H a (.dK (putK kvs (.inr z) v))) := DPut.k (k := .inr z) h hl
/-- (a list) + (a list) -/
theorem g_catL {K : PySem.W.Frag} {H : Hp} {Q : VK} {a b : Addr} {xs ys : List V} (h1 : H a = some (.lst xs)) (h2 : H b = some (.lst ys)) (hl : xs.length + ys.length ≤ 100000) (k : ∀ p, H p = none → Q (.ref p) (upd H p (.lst (xs ++ ys)))) : rAddU K (.ref a) (.ref b) H Q :=
  .inl ⟨a, b, xs, ys, rfl, rfl, h1, h2, szle hl, k⟩
end G

set_option Elab.async false
set_option linter.all false
set_option maxRecDepth 100000
set_option maxHeartbeats 4000000
/-! Exceptions of the program's own classes: made by an __init__ that calls its base's, raised, caught, their fields read. -/
namespace G
open PySem PySem.Spec PyProof.Rows L2

/-! ### a head that tells of the interpreter's statics too -/
def asY (g : Addr → Option Obj) (n : Nat) : List Addr := He.asD g n ++ [cStatics]
def obsY (n : Nat) (fa : List He.Fa) (fn : List He.DefD) (ts : List He.Tab) (ex : PySem.W.Frag → Bool) (g : Addr → Option Obj) : He.AlX := (He.obsT fa fn ts (He.frG g (asY g n)), ex (He.frG g (asY g n)))
structure SaysY (fa : List He.Fa) (fn : List He.DefD) (ts : List He.Tab) (ex : PySem.W.Frag → Bool) (w : World) (K : PySem.W.Frag) : Prop where
  t : He.SaysT fa fn ts w K
  more : ex K = true
def hookY (n : Nat) (fa : List He.Fa) (fn : List He.DefD) (ts : List He.Tab) (ex : PySem.W.Frag → Bool) : PySem.W.Hook where
  α := He.AlX
  obs := fun s => obsY n fa fn ts ex s.heap.get?
  val := fun w => He.valX fn ts w
  says := fun w h => ∃ K : PySem.W.Frag, K.In h ∧ SaysY fa fn ts ex w K
  of := fun _ _ e => ⟨_, He.frG_in, ⟨congrArg (fun z : He.AlX => z.1) e, congrArg (fun z : He.AlX => z.2) e⟩⟩
  keeps := fun _ _ _ ⟨K, hK, c⟩ k => ⟨K, PySem.W.Frag.In.keeps hK k, c⟩
theorem obsY_eq {n : Nat} {fa : List He.Fa} {fn : List He.DefD} {ts : List He.Tab} {ex : PySem.W.Frag → Bool} {g : Addr → Option Obj} {s : Shared} (h : ∀ a, g a = s.heap.get? a) : obsY n fa fn ts ex g = (hookY n fa fn ts ex).obs s := by
  have e : g = s.heap.get? := funext h
  rw [e] <;> rfl

/-! ### what the written part says of such a class: its name, the class whose __init__ it has, the class whose __init__ that one calls, its fields -/
structure XcD where
  c : Str
  i : Str
  b : Str
  fs : List Str
def oexB (K : PySem.W.Frag) (C : Addr) : Bool := match K.lookup C with
  | some ⟨.type t, _, .cls cd, sl⟩ => (match cd.mro, sl.toList with
    | .ref C' :: bm, [_, _, _, _, some (.builtin n), _] => decide (t = "type") && (decide (C' = C) && (decide (n = "ValueError.__new__") && (!cd.hasDel && (cd.hasDict && PySem.HandSPX.refsVE bm))))
    | _, _ => false)
  | _ => false
def initB (K : PySem.W.Frag) (B : Addr) : Bool := match PySem.W.findCls K (.ref B) (.type "type") "__init__" with
  | some (.val (.builtin n)) => decide (n = "ValueError.__init__")
  | _ => false
def bsB (K : PySem.W.Frag) (B : Addr) : Bool := He.eqO (PySem.W.specialIn K (.ref B) "__getattribute__") (some (some (.builtin "type.__getattribute__"))) && (decide (PySem.W.typeIn K (.ref B) = some (.type "type")) && (PySem.W.readsIn K B (.type "type") && initB K B))
def excB (K : PySem.W.Frag) (x : XcD) : Bool :=
  oexB K (He.ga K x.c) && (He.eqO (PySem.W.findIn K (.ref (He.ga K x.c)) "__setattr__") (some (some (.builtin "object.__setattr__"))) && (decide (PySem.W.subIn K (.ref (He.ga K x.c)) (.type "BaseException") = some true) && (decide (PySem.W.typeIn K (.ref (He.ga K x.c)) = some (.type "type")) && (PySem.W.keepIn K (.ref (He.ga K x.c)) &&
  (He.eqO (PySem.W.findIn K (.ref (He.ga K x.c)) "__init__") (some (some (.ref (He.ma K (He.ga K x.i) "__init__")))) && (decide (PySem.W.typeIn K (.ref (He.ma K (He.ga K x.i) "__init__")) = some (.type "function")) && (xfB K (He.ga K x.c) && ((x.fs.all fun f => He.eqO (PySem.W.findIn K (.ref (He.ga K x.c)) f) (some none)) && bsB K (He.ga K x.b)))))))))
structure XcOk (K : PySem.W.Frag) (x : XcD) : Prop where
  oex : OexC K (He.ga K x.c)
  ini : PySem.W.findIn K (.ref (He.ga K x.c)) "__init__" = some (some (.ref (He.ma K (He.ga K x.i) "__init__")))
  fun_ : PySem.W.typeIn K (.ref (He.ma K (He.ga K x.i) "__init__")) = some (.type "function")
  xf : XfC K (He.ga K x.c)
  no : ∀ f ∈ x.fs, PySem.W.findIn K (.ref (He.ga K x.c)) f = some none
  b1 : PySem.W.specialIn K (.ref (He.ga K x.b)) "__getattribute__" = some (some (.builtin "type.__getattribute__"))
  b2 : PySem.W.typeIn K (.ref (He.ga K x.b)) = some (.type "type")
  b3 : PySem.W.readsIn K (He.ga K x.b) (.type "type") = true
  b4 : PySem.W.findCls K (.ref (He.ga K x.b)) (.type "type") "__init__" = some (.val (.builtin "ValueError.__init__"))
theorem oexB_ok {K : PySem.W.Frag} {C : Addr} (h : oexB K C = true) : ∃ nm q N bs bm sn sub ab col dd k0 k1 k2 k3 k5, K.lookup C = some (excClassObj nm q C N bs bm true sn sub ab col dd k0 k1 k2 k3 k5 "ValueError.__new__") ∧ PySem.HandSPX.refsVE bm = true := by
  unfold oexB at h
  split at h
  · rename_i t dd cd sl ho
    split at h
    · rename_i C' bm k0 k1 k2 k3 n k5 hm hs
      simp only [Bool.and_eq_true, decide_eq_true_eq, Bool.not_eq_true'] at h
      obtain ⟨rfl, rfl, rfl, hdel, hdic, ht⟩ := h
      obtain ⟨nm, bs, mro, ns, qn, hd, sn, sub, ab, col, del⟩ := cd
      dsimp only at hm hdel hdic
      subst hm hdel hdic
      have hsl : sl = #[k0, k1, k2, k3, some (.builtin "ValueError.__new__"), k5] := by
        obtain ⟨l⟩ := sl
        simp only at hs
        rw [hs]
      subst hsl
      exact ⟨nm, qn, ns, bs, bm, sn, sub, ab, col, dd, k0, k1, k2, k3, k5, ho, ht⟩
    · cases h
  · cases h
theorem initB_ok {K : PySem.W.Frag} {B : Addr} (h : initB K B = true) : PySem.W.findCls K (.ref B) (.type "type") "__init__" = some (.val (.builtin "ValueError.__init__")) := by
  unfold initB at h
  split at h
  · rename_i n e
    rw [e, of_decide_eq_true h]
  · cases h
theorem excB_ok {K : PySem.W.Frag} {x : XcD} (h : excB K x = true) : XcOk K x := by
  obtain ⟨h1, h⟩ := He.ba h
  obtain ⟨h2, h⟩ := He.ba h
  obtain ⟨h3, h⟩ := He.ba h
  obtain ⟨h4, h⟩ := He.ba h
  obtain ⟨h5, h⟩ := He.ba h
  obtain ⟨h6, h⟩ := He.ba h
  obtain ⟨h7, h⟩ := He.ba h
  obtain ⟨h8, h⟩ := He.ba h
  obtain ⟨h9, h⟩ := He.ba h
  obtain ⟨g1, h⟩ := He.ba h
  obtain ⟨g2, h⟩ := He.ba h
  obtain ⟨g3, g4⟩ := He.ba h
  exact ⟨⟨oexB_ok h1, He.eqO_ok h2, of_decide_eq_true h3, of_decide_eq_true h4, h5⟩, He.eqO_ok h6, of_decide_eq_true h7, xfB_ok h8, fun f hf => He.eqO_ok (List.all_eq_true.mp h9 f hf), He.eqO_ok g1, of_decide_eq_true g2, g3, initB_ok g4⟩

/-! ### B.__init__(self, ..) of an own base -/
theorem pe_oveinit {X : Cx} {K : PySem.W.Frag} (hK : X.K = K) {x : XcD} {n : Str} {e : Expr} {es : List Expr} {ta : TA} {p1 p2 pos : Pos} {pl : Sem Bool} (T : XcOk K x) (hn : n = x.b) (hg : Gl X n) (hm : X.mg n = some (.ref (He.ga K x.b))) (ha : PA X (e :: es) ta)
    (hc : eval (.Call (.Attribute (.Name n p1) "__init__" p2) (e :: es) [] pos) X.env = (do
      let ov ← eval (.Name n p1) X.env
      standAt p2.atName
      let (f, first) ← holding [ov] (getMethod ov "__init__" pl)
      callWith pos f first (backTo pos (starEach (e :: es) X.env)) (backToKw pos (keywordEach [] X.env))) := by rfl)
    (he : starEach (e :: es) X.env = (false, eval e X.env) :: starEach es X.env := by rfl) (hpl : (backTo pos (starEach es X.env)).any (·.1) = false := by rfl) (hd : (n == ("__debug__" : Str)) = false := by decide) :
    PE X (.Call (.Attribute (.Name n p1) "__init__" p2) (e :: es) [] pos) (tVeI X.K ta) := by
  subst hK
  refine ⟨fun pins s σ H Q I h => ?_⟩
  refine PySem.W.methodCall_KW (ld_glob I hg hm ?_ hd) hc
  obtain ⟨m, fr⟩ := I.fr
  refine PySem.W.method_of_cls fr I.ok.mod.kin T.b1 (PySem.W.cls_val fr I.ok.mod.kin T.b2 T.b3 T.b4 (by decide +kernel) ?_)
  show wpAny _ _ (callWith pos (Value.builtin "ValueError.__init__") [] (backTo pos (starEach (e :: es) X.env)) []) _ _ _
  refine PyProof.Rows.callWith_method1 (thn (ha.run pos pins _ σ H _ (I.tok _) h) fun us s1 ⟨vs, H1, I1, r1, a, C, ws, ev, hl, T, ea, q⟩ => ?_) he hpl
  subst ev
  cases r1 with
  | @cons _ u0 _ ur ra rw' =>
    obtain rfl : u0 = Value.ref a := ra
    have hlen : ur.length ≤ sizeLine := by
      rw [← Paired.length rw', sizeLine_eq]
      omega
    exact oinit_ok T I1 ea hlen fun s' J => ⟨.non, H1, J, rfl, q⟩
theorem ps_ostU {X : Cx} {K : PySem.W.Frag} (hK : X.K = K) {o e : Expr} {to te : TE} {f : Str} {p' pos : Pos} (ho : PE X o to) (he : PE X e te) (hs : swapsWith e (some (.Attribute o f p')) pos.line X.env = pure false := by rfl) : PS X (.Assign [.Attribute o f p'] e pos) (tOst K f to te) := by
  subst hK
  exact ps_ost ho he hs

theorem g_vei {K : PySem.W.Frag} {ta : TA} {σ : L2.St} {H : Hp} {Q : VK} (h : ta σ H fun vs H1 => ∃ (a C : Addr) (ws : List V), vs = .ref a :: ws ∧ ws.length ≤ 1000 ∧ OexC K C ∧ H1 a = some (exo a C none) ∧ Q .non H1) : tVeI K ta σ H Q := h
theorem g_ost {K : PySem.W.Frag} {to te : TE} {f : Str} {D : Ends} {σ : L2.St} {H : Hp} (h : te σ H fun y H1 => to σ H1 fun x H2 => ∃ a C : Addr, x = .ref a ∧ OexC K C ∧ PySem.W.findIn K (.ref C) f = some none ∧
  ((H2 a = some (exo a C none) ∧ ∀ dx, H2 dx = none → dx ≠ a → D.nx σ (upd (upd H2 dx (exd dx [(f, y)])) a (exo a C (some dx)))) ∨
    ∃ (dx : Addr) (fs : List (Str × V)), H2 a = some (exo a C (some dx)) ∧ H2 dx = some (exd dx fs) ∧ fs.length ≤ 900 ∧ D.nx σ (upd H2 dx (exd dx ((f, y) :: fs))))) : tOst K f to te D σ H := h
/-! ### defs that may raise -/
section
variable {fa : List He.Fa} {fn : List He.DefD} {P : Program} {w : World} {K : PySem.W.Frag} {mg : Str → Option Value} {base : Heap} {ex : Prop}
/-- a def that may raise -/
theorem mk_dnX (T : Txt fa fn K mg ex) (i j : Nat) {d : He.DefD} {N ps : List Str} {k : Nat} {sp : Sp} (hd : fn[i]? = some d) (hg : fa[j]? = some (.glo d.at_.1)) (hm : d.at_.2 = none) (h1 : d.dfl = []) (h2 : d.kwd = [])
    (S : FnScope N ps d.scope) (len : ∀ vs H Q E, sp vs H Q E → vs.length = ps.length)
    (hb : ∀ (kV doc pm : Value) (an : Option Addr) (cdv ct : Value) (us : List Value), us.length = ps.length → bindArgs (PySem.W.fnOf d.name d.qual d.params d.body d.scope .none kV doc pm an cdv ct) ⟨us, []⟩ = pure (ps.zip us))
    (hbody : ∀ (cdv : Value) (A : Around) (outer : List Env) (s : Shared) (H : Hp) (vs : List V) (Q : VK) (E : XK), Room k (A.deeper (envOfC d.qual d.scope s.heap.objs.size (He.ga K d.at_.1) cdv)) → sp vs H Q E →
      ∃ t, PSs (cxOf (L2.CX P w) P w K mg base N d.qual d.scope (He.ga K d.at_.1) cdv A outer s H E) d.body t ∧ t { nx := fun _ H' => Q .non H', rt := Q } (start N vs) H) : Dn P w K mg base (L2.CX P w) (k + 1) d.at_.1 ps sp := by
  obtain ⟨⟨fd, F⟩, g⟩ := T.def_ i j hd hg hm h1 h2
  refine ⟨_, fd, F.ok S len fun cdv A outer s H vs Q E hr h => hbody cdv A outer s H vs Q E hr h, g, F.kp, F.bindsN hb, by
    obtain ⟨oc, od, dV, kV, doc, pm, an, cdv, ct, osl, e, lk, _⟩ := F.ex
    exact ⟨_, _, _, lk⟩⟩
theorem mk_mtX (T : Txt fa fn K mg ex) (i : Nat) {d : He.DefD} {c m : Str} {N ps : List Str} {k : Nat} {sp : Sp} (hd : fn[i]? = some d) (hm : d.at_ = (c, some m)) (h1 : d.dfl = []) (h2 : d.kwd = [])
    (S : FnScope N ps d.scope) (len : ∀ vs H Q E, sp vs H Q E → vs.length = ps.length)
    (hb : ∀ (kV doc pm : Value) (an : Option Addr) (cdv ct : Value) (us : List Value), us.length = ps.length → bindArgs (PySem.W.fnOf d.name d.qual d.params d.body d.scope .none kV doc pm an cdv ct) ⟨us, []⟩ = pure (ps.zip us))
    (hbody : ∀ (cdv : Value) (A : Around) (outer : List Env) (s : Shared) (H : Hp) (vs : List V) (Q : VK) (E : XK), Room k (A.deeper (envOfC d.qual d.scope s.heap.objs.size (He.ma K (He.ga K c) m) cdv)) → sp vs H Q E →
      ∃ t, PSs (cxOf (L2.CX P w) P w K mg base N d.qual d.scope (He.ma K (He.ga K c) m) cdv A outer s H E) d.body t ∧ t { nx := fun _ H' => Q .non H', rt := Q } (start N vs) H) : Mt P w K mg base (L2.CX P w) (k + 1) c m ps sp := by
  obtain ⟨fd, F⟩ := T.defm i hd hm h1 h2
  exact ⟨_, fd, F.ok S len fun cdv A outer s H vs Q E hr h => hbody cdv A outer s H vs Q E hr h, rfl, F.bindsN hb⟩
end
section
variable {X : Cx} {k : Nat} {ps : List Str} {sp : Sp} {W : WX} {x : Str} {p pos : Pos} {e : Expr} {es : List Expr} {t : TA}
/-- a call that may raise, of a def of the module -/
def tCallW (sp : Sp) (W : WX) (t : TA) : TE := fun σ H Q => t σ H fun vs H1 => sp vs H1 Q fun cls d H' => W cls d σ H'
theorem pe_callDX {K : PySem.W.Frag} (hK : X.K = K) (D : Dn X.prog X.w K X.mg X.base (L2.CX X.prog X.w) k x ps sp) (hr : Room k X.A) (hg : Gl X x) (tk : Takes X W)
    (ha : PA X (e :: es) t) (hdb : (x == ("__debug__" : Str)) = false := by decide) (he : starEach (e :: es) X.env = (false, eval e X.env) :: starEach es X.env := by rfl) (hpl : (backTo pos (starEach es X.env)).any (·.1) = false := by rfl) :
    PE X (.Call (.Name x p) (e :: es) [] pos) (tCallW sp W t) := by
  subst hK
  obtain ⟨f, fd, F, m, kp, b, _⟩ := D.ex
  exact pe_callS F hr hg m kp b (fun σ => passAt tk σ) ha hdb he hpl
theorem g_callW {σ : L2.St} {H : Hp} {Q : VK} (h : t σ H fun vs H1 => sp vs H1 Q fun cls d H' => W cls d σ H') : tCallW sp W t σ H Q := h
/-- raise C(e, ..), C with such an __init__ -/
def sRaise (C : Addr) (sp : Sp) (W : WX) (t : TA) : TS := fun _ σ H => t σ H fun vs H1 => vs.length ≤ 1000 ∧ ∀ a, H1 a = none → sp (.ref a :: (vs ++ [])) (upd H1 a (exo a C none))
  (fun v H2 => v = .non ∧ ∃ (d : Addr) (fs : List (Str × V)), H2 a = some (exo a C (some d)) ∧ H2 d = some (exd d fs) ∧ H1 d = none ∧ W (.ref C) (some d) σ (upd (del H2 a) d (.xd fs))) (fun _ _ _ => False)
theorem g_raise {C : Addr} {D : Ends} {σ : L2.St} {H : Hp} (h : t σ H fun vs H1 => vs.length ≤ 1000 ∧ ∀ a, H1 a = none → sp (.ref a :: (vs ++ [])) (upd H1 a (exo a C none))
  (fun v H2 => v = .non ∧ ∃ (d : Addr) (fs : List (Str × V)), H2 a = some (exo a C (some d)) ∧ H2 d = some (exd d fs) ∧ H1 d = none ∧ W (.ref C) (some d) σ (upd (del H2 a) d (.xd fs))) (fun _ _ _ => False)) : sRaise C sp W t D σ H := h
theorem ps_raiseI {pos2 : Pos} {K : PySem.W.Frag} (hK : X.K = K) {xc : XcD} (T : XcOk K xc) (D : Mt X.prog X.w K X.mg X.base CX0 k xc.i "__init__" ps sp) (hr : Room (k + 1) X.A) (hc : X.calm = true) (tk : Takes X W) (hn : x = xc.c) (hg : Gl X x) (hm : X.mg x = some (.ref (He.ga K xc.c))) (ha : PA X (e :: es) t)
    (hdb : (x == ("__debug__" : Str)) = false := by decide) (he : starEach (e :: es) X.env = (false, eval e X.env) :: starEach es X.env := by rfl) (hpl : (backTo pos (starEach es X.env)).any (·.1) = false := by rfl) :
    PS X (.Raise (some (.Call (.Name x p) (e :: es) [] pos)) none pos2) (sRaise (He.ga K xc.c) sp W t) := by
  subst hK
  obtain ⟨f, fd, F, rfl, b⟩ := D.ex
  exact ps_raise (pos := pos2) hc tk (pmk_oex T.oex T.ini T.fun_ F hr b .nil pass0 hg hm ha hdb he hpl)
/-- err.f in an except suite -/
theorem pe_xfU {X : Cx} {K : PySem.W.Frag} (hK : X.K = K) {a : Addr} {oe : Obj} {cls : Value} {d : Option Addr} {pn : List (Addr × Obj)} {e : Expr} {te : TE} {pos : Pos} {n : Str} {xc : XcD} (T : XcOk K xc) (hno : n ∈ xc.fs)
    (hz : Zc cls d oe) (hf : ∃ vs, oe.data = .fields vs) (he : PE (X.suite a ((a, oe) :: pn)) e te) (hb : attributeBase e n X.env (eval e X.env) = eval e X.env := by rfl) :
    PE (X.suite a ((a, oe) :: pn)) (.Attribute e n pos) (tXf a cls d (He.ga K xc.c) n te) := by
  subst hK
  exact pe_xf T.xf (T.no n hno) hz hf he hb
end
/-! what such an __init__ leaves: the heap as it was, the error's own dict -/
theorem made_exc {H : Hp} {a d C : Addr} {fs gs : List (Str × V)} (ha : H a = none) (hd : upd H a (exo a C none) d = none) (hne : d ≠ a) :
    H d = none ∧ Same H (upd (del (upd (upd (upd (upd H a (exo a C none)) d (exd d gs)) a (exo a C (some d))) d (exd d fs)) a) d (.xd fs)) := by
  rw [upd_ne hne] at hd
  refine ⟨hd, fun b o e => ?_⟩
  have hba := ne_of_none e ha
  have hbd := ne_of_none e hd
  rw [upd_ne hbd, del_ne hba, upd_ne hbd, upd_ne hba, upd_ne hbd, upd_ne hba]
  exact e
/-- cs and xs: constants, exception classes of the module -/
structure XOk (cs : List (Str × GD)) (xs : List XcD) (K : PySem.W.Frag) (w : World) : Prop extends CsOk cs K w where
  xc : xs.all (excB K) = true
theorem XOk.at_ {cs : List (Str × GD)} {xs : List XcD} {K : PySem.W.Frag} {w : World} (m : XOk cs xs K w) {x : XcD} (h : x ∈ xs) : XcOk K x := excB_ok (List.all_eq_true.mp m.xc x h)
theorem XOk.ofY {fa : List He.Fa} {fn : List He.DefD} {cs : List (Str × GD)} {xs : List XcD} {w : World} {K : PySem.W.Frag} (c : SaysY fa fn (tabs cs) (fun K => exB cs K && xs.all (excB K)) w K) : XOk cs xs K w := by
  have h : (exB cs K && xs.all (excB K)) = true := c.more
  obtain ⟨h1, h2⟩ := He.ba h
  exact ⟨⟨h1, congrArg (fun z : He.AlT => z.2) c.t⟩, h2⟩
end G

set_option Elab.async false
set_option linter.all false
set_option maxRecDepth 100000
set_option maxHeartbeats 4000000
/-! Data of which tuples may stand in the written part; lists of small numbers; comprehensions that filter, ask, zip. -/
namespace G
open PySem PySem.Spec PyProof.Rows L2

/-- the tuple xs stands at a, in the heap or in the written part -/
def TupK (K : PySem.W.Frag) (H : Hp) (a : Addr) (xs : List V) : Prop := H a = some (.tup xs) ∨
  ∃ (o : Obj) (its : Array Value) (n : Nat), K.lookup a = some o ∧ o.cls = .type "tuple" ∧ o.data = .seq its n ∧ its.size ≤ sizeLine ∧ Vals xs its.toList
mutual
inductive Dk (K : PySem.W.Frag) (H : Hp) : V → PyData → Prop
  | non : Dk K H .non .none
  | bl (b : Bool) : Dk K H (.bl b) (.bool b)
  | int (i : Int) : Dk K H (.int i) (.int i)
  | str (x : Str) : Dk K H (.str x) (.str x)
  | tup {a : Addr} {xs : List V} {ds : List PyData} : TupK K H a xs → Dks K H xs ds → Dk K H (.ref a) (.tuple ds)
inductive Dks (K : PySem.W.Frag) (H : Hp) : List V → List PyData → Prop
  | nil : Dks K H [] []
  | cons {v : V} {vs : List V} {d : PyData} {ds : List PyData} : Dk K H v d → Dks K H vs ds → Dks K H (v :: vs) (d :: ds)
end
section
variable {K : PySem.W.Frag} {H H' : Hp} {v x y : V} {d e : PyData} {vs xs : List V} {ds es : List PyData} {a b p : Addr} {Q : VK} {i : Int} {n : Nat} {R : It → Hp → Prop} {lo hi : Option Int}
theorem TupK.sq (h : TupK K H a xs) : SqT K H a xs := h.elim SqT.of .inr
theorem TupK.mono (h : TupK K H a xs) (k : ∀ a xs, H a = some (.tup xs) → H' a = some (.tup xs)) : TupK K H' a xs := h.elim (fun h => .inl (k _ _ h)) .inr
theorem TupK.same (h : TupK K H a xs) (k : Same H H') : TupK K H' a xs := h.mono fun a xs e => k a _ e
mutual
theorem Dk.mono : ∀ {v : V} {d : PyData}, Dk K H v d → (∀ a xs, H a = some (.tup xs) → H' a = some (.tup xs)) → Dk K H' v d
  | _, _, .non, _ => .non
  | _, _, .bl b, _ => .bl b
  | _, _, .int i, _ => .int i
  | _, _, .str x, _ => .str x
  | _, _, .tup h hs, k => .tup (h.mono k) (Dks.mono hs k)
theorem Dks.mono : ∀ {vs : List V} {ds : List PyData}, Dks K H vs ds → (∀ a xs, H a = some (.tup xs) → H' a = some (.tup xs)) → Dks K H' vs ds
  | _, _, .nil, _ => .nil
  | _, _, .cons h t, k => .cons (Dk.mono h k) (Dks.mono t k)
end
theorem Dk.same (h : Dk K H v d) (k : Same H H') : Dk K H' v d := h.mono fun a xs e => k a _ e
theorem Dks.same (h : Dks K H vs ds) (k : Same H H') : Dks K H' vs ds := h.mono fun a xs e => k a _ e
mutual
theorem Dk.dp : ∀ {v : V} {d : PyData}, Dk K H v d → Dp K H v d
  | _, _, .non => .non
  | _, _, .bl b => .bl b
  | _, _, .int i => .int i
  | _, _, .str x => .str x
  | _, _, .tup h hs => .tup h.sq (Dks.dp hs)
theorem Dks.dp : ∀ {vs : List V} {ds : List PyData}, Dks K H vs ds → DpAll K H vs ds
  | _, _, .nil => .nil
  | _, _, .cons h t => .cons (Dk.dp h) (Dks.dp t)
end
mutual
theorem Im.dk : ∀ {v : V} {d : PyData}, Im H v d → Dk K H v d
  | _, _, .non => .non
  | _, _, .bl b => .bl b
  | _, _, .int i => .int i
  | _, _, .str x => .str x
  | _, _, .tup h hs => .tup (.inl h) (Ims.dk hs)
theorem Ims.dk : ∀ {vs : List V} {ds : List PyData}, Ims H vs ds → Dks K H vs ds
  | _, _, .nil => .nil
  | _, _, .cons h t => .cons (Im.dk h) (Ims.dk t)
end
theorem Dks.length : ∀ {vs : List V} {ds : List PyData}, Dks K H vs ds → vs.length = ds.length
  | _, _, .nil => rfl
  | _, _, .cons _ t => by rw [List.length_cons, List.length_cons, t.length]
theorem Dks.get : ∀ {vs : List V} {ds : List PyData} {n : Nat} {d : PyData}, Dks K H vs ds → ds[n]? = some d → ∃ v, vs[n]? = some v ∧ Dk K H v d
  | _, _, n, _, .nil, e => by simp at e
  | _, _, 0, _, .cons h t, e => by
    simp only [List.getElem?_cons_zero, Option.some.injEq] at e
    subst e
    exact ⟨_, rfl, h⟩
  | _, _, n + 1, _, .cons h t, e => by
    simp only [List.getElem?_cons_succ] at e
    obtain ⟨v, h1, h2⟩ := t.get e
    exact ⟨v, by simpa using h1, h2⟩
theorem Dks.append : ∀ {vs xs : List V} {ds es : List PyData}, Dks K H vs ds → Dks K H xs es → Dks K H (vs ++ xs) (ds ++ es)
  | _, _, _, _, .nil, s => s
  | _, _, _, _, .cons h t, s => .cons h (t.append s)
theorem Dks.one (h : Dk K H v d) : Dks K H [v] [d] := .cons h .nil
theorem Dks.drop : ∀ {vs : List V} {ds : List PyData} (n : Nat), Dks K H vs ds → Dks K H (vs.drop n) (ds.drop n)
  | _, _, 0, h => h
  | _, _, _ + 1, .nil => .nil
  | _, _, n + 1, .cons _ t => t.drop n
theorem Dks.set : ∀ {vs : List V} {ds : List PyData} (n : Nat), Dks K H vs ds → Dk K H v d → Dks K H (vs.set n v) (ds.set n d)
  | _, _, _, .nil, _ => .nil
  | _, _, 0, .cons _ t, h => .cons h t
  | _, _, n + 1, .cons g t, h => .cons g (t.set n h)
theorem Dks.rep (h : Dk K H v d) : ∀ n : Nat, Dks K H (List.replicate n v) (List.replicate n d)
  | 0 => .nil
  | n + 1 => .cons h (Dks.rep h n)
theorem Dk.int_inv (h : Dk K H v (.int i)) : v = .int i := by cases h; rfl
theorem Dk.tup_inv (h : Dk K H v (.tuple ds)) : ∃ a xs, v = .ref a ∧ TupK K H a xs ∧ Dks K H xs ds := by
  cases h with
  | tup h hs => exact ⟨_, _, rfl, h, hs⟩
theorem k_ix (h : Dk K H x (.tuple ds)) (e : i = (n : Int)) (hd : ds[n]? = some d) (k : ∀ v, Dk K H v d → Q v H) : rIxU K x (.int i) H Q := by
  obtain ⟨a, xs, rfl, h1, h2⟩ := h.tup_inv
  obtain ⟨v, hv, hm⟩ := h2.get hd
  exact g_ixT h1.sq e hv (k v hm)
theorem k_len (h : Dk K H x (.tuple ds)) (q : Q (.int (ds.length : Nat)) H) : rLenU K [x] H Q := by
  obtain ⟨a, xs, rfl, h1, h2⟩ := h.tup_inv
  refine g_lenT h1.sq ?_
  rw [h2.length]
  exact q
theorem k_eq (hx : Dk K H x d) (hy : Dk K H y e) (s1 : SeqAt.shaped d = true) (s2 : SeqAt.shaped e = true) (h : Q (.bl (PyData.eqv d e)) H) : rEqU K false x y H Q := g_eqD hx.dp hy.dp s1 s2 h
theorem k_ne (hx : Dk K H x d) (hy : Dk K H y e) (s1 : SeqAt.shaped d = true) (s2 : SeqAt.shaped e = true) (h : Q (.bl (!PyData.eqv d e)) H) : rEqU K true x y H Q := g_neD hx.dp hy.dp s1 s2 h
theorem k_seq (hx : Dk K H x (.tuple ds)) (k : ∀ a xs, x = .ref a → TupK K H a xs → Dks K H xs ds → R (Itt K a) H) : (∃ b ys, x = .ref b ∧ SqL K H b ys ∧ R (Itl K b) H) ∨ ∃ b ys, x = .ref b ∧ SqT K H b ys ∧ R (Itt K b) H := by
  obtain ⟨a, xs, e, h1, h2⟩ := hx.tup_inv
  exact .inr ⟨a, xs, e, h1.sq, k a xs e h1 h2⟩
theorem TupK.ty (h : TupK K H a xs) : TyX K H (.ref a) (.type "tuple") := h.elim (fun h => .base (.tup h)) fun ⟨o, its, n, h1, h2, _⟩ => .kTuple h1 h2
theorem k_isiT {T' : String} {b : Bool} (hx : Dk K H x (.tuple ds)) (hk : kitB "tuple" T' = some b) (h : Q (.bl b) H) : rIsi K [x, .ty T'] H Q := by
  obtain ⟨a, xs, rfl, h1, _⟩ := hx.tup_inv
  exact isi_of h1.ty hk h
theorem k_isiI (hx : Dk K H x d) (q : Q (.bl (isI d)) H) : rIsi K [x, .ty "int"] H Q := by
  cases hx with
  | non => exact g_isiNi q
  | bl b => exact g_isiBi q
  | int i => exact g_isiIi q
  | str z => exact g_isiSi q
  | tup h hs => exact k_isiT (.tup h hs) k_ti q
theorem k_isiB (hx : Dk K H x d) (q : Q (.bl (isB d)) H) : rIsi K [x, .ty "bool"] H Q := by
  cases hx with
  | non => exact g_isiNb q
  | bl b => exact g_isiBb q
  | int i => exact g_isiIb q
  | str z => exact g_isiSb q
  | tup h hs => exact k_isiT (.tup h hs) k_tb q
theorem k_isiU (hx : Dk K H x d) (q : Q (.bl (isT d)) H) : rIsi K [x, .ty "tuple"] H Q := by
  cases hx with
  | non => exact g_isiNt q
  | bl b => exact g_isiBt q
  | int i => exact g_isiIt q
  | str z => exact g_isiSt q
  | tup h hs => exact k_isiT (.tup h hs) k_tt q
theorem k_tuple (hx : Dk K H x (.tuple ds)) (q : Q x H) : rTupU K [x] H Q := by
  obtain ⟨a, xs, rfl, h1, _⟩ := hx.tup_inv
  exact ⟨_, rfl, .inr ⟨a, xs, rfl, h1.sq, q⟩⟩
theorem k_tupleL (h : SqL K H a xs) (hm : Dks K H xs ds) (k : ∀ p H', Same H H' → H p = none → Dk K H' (.ref p) (.tuple ds) → Q (.ref p) H') : rTupU K [.ref a] H Q :=
  ⟨_, rfl, .inl ⟨a, xs, rfl, h, fun p hp => k p _ (Same.new hp) hp (.tup (.inl upd_same) (hm.same (Same.new hp)))⟩⟩
/-- x[n:] -/
theorem k_from (hx : Dk K H x (.tuple ds)) (e : lo = some (n : Int)) (k : ∀ y H', Same H H' → Dk K H' y (.tuple (ds.drop n)) → Q y H') : rSlU K x lo none H Q := by
  subst e
  obtain ⟨a, xs, rfl, h1, h2⟩ := hx.tup_inv
  refine .inr (.inl ⟨a, xs, rfl, h1.sq, fun e => ?_, fun _ p hp => ?_⟩)
  · refine k (.ref a) H (Same.refl H) (.tup h1 ?_)
    have hl := h2.length
    have e1 := e.1
    rw [HT.sIx_nat] at e1
    rcases Nat.eq_zero_or_pos n with h0 | h0
    · rw [h0, List.drop_zero]
      exact h2
    · have : xs.length = 0 := by omega
      have h3 : xs = [] := List.eq_nil_of_length_eq_zero this
      have h4 : ds = [] := List.eq_nil_of_length_eq_zero (by omega)
      rw [h4, List.drop_nil, h3]
      exact .nil
  · refine k (.ref p) _ (Same.new hp) (.tup (.inl upd_same) ?_)
    rw [cutV_from]
    exact (h2.drop n).same (Same.new hp)
end
/-- a constant of the module -/
theorem dk_ints {K : PySem.W.Frag} {H : Hp} : ∀ {ks : List Int} {us : List Value}, gisAllB K (ks.map .int) us = true → ∃ vs : List V, vs = ks.map V.int ∧ Vals vs us
  | [], us, h => by
    cases us with
    | nil => exact ⟨[], rfl, .nil⟩
    | cons => unfold gisAllB at h; cases h
  | k :: ks, us, h => by
    cases us with
    | nil => unfold gisAllB at h; cases h
    | cons u us =>
      have h : gisAllB K (.int k :: ks.map .int) (u :: us) = true := h
      unfold gisAllB at h
      obtain ⟨h1, h2⟩ := Bool.and_eq_true_iff.mp h
      obtain ⟨vs, e, r⟩ := dk_ints (H := H) h2
      obtain ⟨v, rv, hv⟩ := gis_ok _ u h1
      have hv := hv H
      cases hv
      exact ⟨.int k :: vs, by rw [e]; rfl, .cons rv r⟩
theorem dks_ints {K : PySem.W.Frag} {H : Hp} : ∀ (ks : List Int), Dks K H (ks.map V.int) (ks.map .int)
  | [] => .nil
  | k :: ks => .cons (.int k) (dks_ints ks)
theorem CsOk.dk {cs : List (Str × GD)} {K : PySem.W.Frag} {w : World} {x : Str} {ks : List Int} (c : CsOk cs K w) (h : (x, GD.dat (.tuple (ks.map .int))) ∈ cs) (H : Hp) : Dk K H (.ref (He.ga K x)) (.tuple (ks.map .int)) := by
  obtain ⟨u, h1, h2⟩ := c.dat h
  obtain ⟨a, o, its, n, rfl, l1, l2, l3, l4, l5⟩ := gis_tup h2
  have e : He.ga K x = a := by
    unfold He.ga
    rw [h1]
  rw [e]
  obtain ⟨vs, ev, r⟩ := dk_ints (H := H) l5
  subst ev
  exact .tup (.inr ⟨o, its, n, l1, l2, l3, Nat.le_trans l4 (by decide), r⟩) (dks_ints ks)

/-! ### lists of numbers -/
def nV (l : List Nat) : List V := l.map fun (n : Nat) => V.int (n : Int)
def nDs (l : List Nat) : List PyData := l.map fun (n : Nat) => PyData.int (n : Int)
def nD (l : List Nat) : PyData := .tuple (nDs l)
section
variable {K : PySem.W.Frag} {H H' : Hp} {x : V} {l : List Nat} {n : Nat} {a : Addr} {Q : VK}
theorem dks_nV : ∀ (l : List Nat), Dks K H (nV l) (nDs l)
  | [] => .nil
  | n :: l => .cons (.int _) (dks_nV l)
theorem ims_nV : ∀ (l : List Nat), Ims H (nV l) (nDs l)
  | [] => .nil
  | n :: l => .cons (.int _) (ims_nV l)
theorem dks_nV_inv : ∀ {l : List Nat} {xs : List V}, Dks K H xs (nDs l) → xs = nV l
  | [], _, h => by cases h; rfl
  | n :: l, _, h => by
    cases h with
    | cons h t =>
      cases h
      rw [dks_nV_inv t]
      rfl
theorem nD_at (h : Dk K H x (nD l)) : ∃ a, x = .ref a ∧ TupK K H a (nV l) := by
  obtain ⟨a, xs, rfl, h1, h2⟩ := h.tup_inv
  rw [dks_nV_inv h2] at h1
  exact ⟨a, rfl, h1⟩
theorem nD_of (h : TupK K H a (nV l)) : Dk K H (.ref a) (nD l) := .tup h (dks_nV l)
theorem nV_at (h : l[n]? = some m) : (nV l)[n]? = some (.int (m : Int)) := by
  unfold nV
  rw [List.getElem?_map, h]
  rfl
theorem nV_len : (nV l).length = l.length := List.length_map _
theorem nD_lay : Lay 1 (nD l) := Lay.tup fun d hd => by
  obtain ⟨n, _, rfl⟩ := List.mem_map.mp hd
  exact .int
theorem nV_flat : (nV l).all flatV = true := by
  unfold nV
  rw [List.all_map]
  exact List.all_eq_true.mpr fun _ _ => rfl
theorem inV_nV {i : Int} : inV (.int i) (nV l) = decide (∃ k ∈ l, (k : Int) = i) := by
  unfold inV nV
  rw [List.any_map, Bool.eq_iff_iff, List.any_eq_true, decide_eq_true_eq]
  constructor
  · rintro ⟨k, hk, e⟩
    refine ⟨k, hk, ?_⟩
    have e : eqV (.int (k : Int)) (.int i) = true := e
    have e2 : eqV (.int (k : Int)) (.int i) = ((k : Int) == i) := rfl
    rw [e2] at e
    simpa using e
  · rintro ⟨k, hk, e⟩
    refine ⟨k, hk, ?_⟩
    show eqV (.int (k : Int)) (.int i) = true
    have e2 : eqV (.int (k : Int)) (.int i) = ((k : Int) == i) := rfl
    rw [e2]
    simpa using e
theorem k_inN (h : SqT K H a (nV l) ∨ SqL K H a (nV l)) (q : Q (.bl (l.contains n)) H) : rInU K false (.int (n : Int)) (.ref a) H Q := by
  refine .inl ⟨a, nV l, rfl, h.symm, rfl, nV_flat, ?_⟩
  rw [inV_nV]
  have e : decide (∃ k ∈ l, (k : Int) = (n : Int)) = l.contains n := by
    rw [Bool.eq_iff_iff, decide_eq_true_eq, List.contains_iff_mem]
    constructor
    · rintro ⟨k, hk, e⟩
      have : k = n := by omega
      rw [← this]
      exact hk
    · intro h
      exact ⟨n, h, rfl⟩
  simp only [Bool.false_eq_true, if_false]
  rw [e]
  exact q
theorem k_niN (h : SqT K H a (nV l) ∨ SqL K H a (nV l)) (q : Q (.bl (!l.contains n)) H) : rInU K true (.int (n : Int)) (.ref a) H Q := by
  refine .inl ⟨a, nV l, rfl, h.symm, rfl, nV_flat, ?_⟩
  rw [inV_nV]
  have e : decide (∃ k ∈ l, (k : Int) = (n : Int)) = l.contains n := by
    rw [Bool.eq_iff_iff, decide_eq_true_eq, List.contains_iff_mem]
    constructor
    · rintro ⟨k, hk, e⟩
      have : k = n := by omega
      rw [← this]
      exact hk
    · intro h
      exact ⟨n, h, rfl⟩
  simp only [if_true]
  rw [e]
  exact q
theorem nDs_inj : ∀ {l m : List Nat}, nDs l = nDs m → l = m
  | [], [], _ => rfl
  | [], _ :: _, h => by cases h
  | _ :: _, [], h => by cases h
  | n :: l, k :: m, h => by
    have h : PyData.int (n : Int) :: nDs l = PyData.int (k : Int) :: nDs m := h
    injection h with h1 h2
    injection h1 with h1
    rw [nDs_inj h2]
    have : n = k := by omega
    rw [this]
theorem eqvAll_nDs : ∀ (l m : List Nat), PyData.eqvAll (nDs l) (nDs m) = decide (l = m)
  | [], [] => by
    show PyData.eqvAll [] [] = _
    rw [PyData.eqvAll]
    simp
  | [], k :: m => by
    show PyData.eqvAll [] (_ :: _) = _
    simp [PyData.eqvAll]
  | k :: m, [] => by
    show PyData.eqvAll (_ :: _) [] = _
    simp [PyData.eqvAll]
  | n :: l, k :: m => by
    show PyData.eqvAll (.int (n : Int) :: nDs l) (.int (k : Int) :: nDs m) = _
    rw [PyData.eqvAll, eqvAll_nDs l m, PyData.eqv]
    rw [Bool.eq_iff_iff]
    simp only [Bool.and_eq_true, beq_iff_eq, decide_eq_true_eq, List.cons.injEq]
    constructor
    · rintro ⟨e, e2⟩
      exact ⟨by omega, e2⟩
    · rintro ⟨e, e2⟩
      exact ⟨by omega, e2⟩
theorem eqv_nD {l m : List Nat} : PyData.eqv (nD l) (nD m) = decide (l = m) := by
  show PyData.eqv (.tuple (nDs l)) (.tuple (nDs m)) = _
  rw [PyData.eqv, eqvAll_nDs]
end
/-! ### comprehensions -/
section
variable {K : PySem.W.Frag} {σ : L2.St} {H : Hp} {g : TG} {te : TE} {tt : TT} {vs : List Nat} {Q : VK} {a b : Addr} {xs ys : List V} {k n : Nat} {l : List Nat} {bs : List Bool}
/-- those of a tuple of numbers that a test lets by -/
theorem l_filtT {f : Nat → Bool} (ha : TupK K H a (nV l)) (hl : l.length ≤ 100000) (hwp : ∀ x : V, wipe ((wipe σ vs).set k (some x)) vs = wipe σ vs)
    (step : ∀ (i m : Nat) (H' : Hp) (QB : Bool → Hp → Prop), l[i]? = some m → Same H H' → (∀ H2, Same H' H2 → QB (f m) H2) → tt ((wipe σ vs).set k (some (.int (m : Int)))) H' QB)
    (he : ∀ (m : Nat) (H' : Hp) (R : VK), R (.int (m : Int)) H' → te ((wipe σ vs).set k (some (.int (m : Int)))) H' R)
    (q : ∀ D H', H D = none → Same H H' → H' D = some (.lst (nV (l.filter f))) → Q (.ref D) H') : LcW (gName k) tt te vs σ Q (Itt K a) H := by
  have body : ∀ D, H D = none → ∀ (i : Nat) (x : V) (H' : Hp), (nV l)[i]? = some x → (H' D = some (.lst (nV ((l.take i).filter f))) ∧ Same H H') → gName k x (wipe σ vs) H' fun σ2 H2 => wipe σ2 vs = wipe σ vs ∧ tt σ2 H2 fun b H3 => if b = true then te σ2 H3 fun y H4 => ∃ acc, H4 D = some (.lst acc) ∧ acc.length < sizeLine ∧ ((upd H4 D (.lst (acc ++ [y]))) D = some (.lst (nV ((l.take (i + 1)).filter f))) ∧ Same H (upd H4 D (.lst (acc ++ [y])))) else (H3 D = some (.lst (nV ((l.take (i + 1)).filter f))) ∧ Same H H3) := by
    rintro D hD i x H' hi ⟨hDl, sm⟩
    have hil := (List.getElem?_eq_some_iff.mp hi).1
    rw [nV_len] at hil
    have hm : l[i]? = some (l[i]'hil) := List.getElem?_eq_getElem _
    generalize l[i]'hil = m at hm
    rw [nV_at hm] at hi
    cases hi
    refine ⟨hwp _, step i m H' _ hm sm (fun H2 s2 => ?_)⟩
    have hD2 := s2 _ _ hDl
    rw [filter_take_succ hm]
    cases hf : f m with
    | true =>
      rw [if_pos rfl, if_pos rfl]
      refine he m H2 _ ⟨_, hD2, szl ?_, ?_, Same.mut (sm.trans s2) hD⟩
      · rw [nV_len]
        have := List.length_filter_le f (l.take i)
        rw [List.length_take] at this
        omega
      · rw [upd_same]
        unfold nV
        rw [List.map_append]
        rfl
    | false =>
      rw [if_neg Bool.false_ne_true, if_neg Bool.false_ne_true, List.append_nil]
      exact ⟨hD2, sm.trans s2⟩
  exact l_tup (xs := nV l) (fun D i H' => H' D = some (.lst (nV ((l.take i).filter f))) ∧ Same H H') (fun D hD => ⟨upd_same, Same.new hD⟩) (fun D hD i H' _ ⟨_, sm⟩ => (ha.same sm).sq) body fun D hD H' ⟨h1, h2⟩ => by
    rw [nV_len, List.take_length] at h1
    exact q D H' hD h2 h1
/-- over a tuple: a list of truths -/
theorem l_boolsT (ha : TupK K H a xs) (hl : xs.length = bs.length) (hb : bs.length ≤ 100000) (hwp : ∀ x : V, wipe ((wipe σ vs).set k (some x)) vs = wipe σ vs)
    (step : ∀ (D : Addr) (i : Nat) (x : V) (b : Bool) (H' : Hp) (R : VK), xs[i]? = some x → bs[i]? = some b → Same H H' → (∀ H2, Same H' H2 → R (.bl b) H2) → te ((wipe σ vs).set k (some x)) H' R)
    (q : ∀ D H', Same H H' → H' D = some (.lst (bs.map V.bl)) → Q (.ref D) H') : LcW (gName k) tYes te vs σ Q (Itt K a) H := by
  refine l_tup (xs := xs) (fun D i H' => H' D = some (.lst ((bs.take i).map V.bl)) ∧ Same H H') (fun D hD => ⟨upd_same, Same.new hD⟩) (fun D hD i H' _ ⟨_, sm⟩ => (ha.same sm).sq) ?_ ?_
  · rintro D hD i x H' hi ⟨hDl, sm⟩
    have hil := (List.getElem?_eq_some_iff.mp hi).1
    have hbi : bs[i]? = some (bs[i]'(by omega)) := List.getElem?_eq_getElem _
    generalize bs[i]'(by omega) = b at hbi
    refine ⟨hwp _, g_yes (g_ifT (step D i x b H' _ hi hbi sm (fun H2 s2 => ?_)))⟩
    refine ⟨_, s2 _ _ hDl, szl (by rw [List.length_map, List.length_take]; omega), ?_, Same.mut (sm.trans s2) hD⟩
    rw [upd_same, map_take_succ hbi]
  · rintro D hD H' ⟨hDl, sm⟩
    rw [hl, List.take_length] at hDl
    exact q D H' sm hDl
/-- over zip of two tuples -/
theorem l_zipB (ha : TupK K H a xs) (hb : TupK K H b ys) (h1 : n ≤ xs.length) (h2 : n ≤ ys.length) (h3 : xs.length ≤ n ∨ ys.length ≤ n) (hn : bs.length = n) (hl : n ≤ 100000)
    (step : ∀ (i : Nat) (x y : V) (c : Bool) (Tp : Addr) (H' : Hp) (R : VK), xs[i]? = some x → ys[i]? = some y → bs[i]? = some c → Same H H' → H' Tp = some (.tup [x, y]) → (∀ H2, Same H' H2 → R (.bl c) H2) → g (.ref Tp) (wipe σ vs) H' fun σ2 H2 => wipe σ2 vs = wipe σ vs ∧ te σ2 H2 R)
    (hm : ∀ (y : V) (σ1 : L2.St) (H1 : Hp) (R R' : L2.St → Hp → Prop), (∀ σ2 H2, R σ2 H2 → R' σ2 H2) → g y σ1 H1 R → g y σ1 H1 R')
    (q : ∀ D H', Same H H' → H' D = some (.lst (bs.map V.bl)) → Q (.ref D) H') : LcW g tYes te vs σ Q (RZ.ItzT K a b) H := by
  intro D hD
  refine ⟨fun i m H' => m = n - i ∧ i ≤ n ∧ H' D = some (.lst ((bs.take i).map V.bl)) ∧ Same H H', ⟨n, by simp, Nat.zero_le _, upd_same, Same.new hD⟩, ?_⟩
  rintro i m H' ⟨rfl, hi, hDl, sm⟩
  have qx := (ha.same sm).sq
  have qy := (hb.same sm).sq
  by_cases hlt : i < n
  · have hx : xs[i]? = some (xs[i]'(by omega)) := List.getElem?_eq_getElem _
    have hy : ys[i]? = some (ys[i]'(by omega)) := List.getElem?_eq_getElem _
    have hc : bs[i]? = some (bs[i]'(by omega)) := List.getElem?_eq_getElem _
    generalize bs[i]'(by omega) = c at hc
    refine .inr ⟨⟨xs, ys, _, _, qx, qy, hx, hy⟩, fun H2 => i + 1 ≤ n ∧ H2 D = some (.lst ((bs.take (i + 1)).map V.bl)) ∧ Same H H2, fun H2 p => ⟨n - (i + 1), by omega, rfl, p⟩, fun v H2 y => ?_⟩
    obtain ⟨T, x', y', rfl, hT, rfl, f1, f2⟩ := y
    have sT : Same H' (upd H' T (.tup [x', y'])) := Same.new hT
    refine hm _ _ _ _ _ (fun σ2 H2 h => ⟨h.1, g_yes (g_ifT h.2)⟩) (step i x' y' c T _ _ (f1 xs qx) (f2 ys qy) hc (sm.trans sT) upd_same (fun H2 s2 => ?_))
    have s3 := sT.trans s2
    refine ⟨_, s3 _ _ hDl, szl (by rw [List.length_map, List.length_take]; omega), hlt, ?_, Same.mut (sm.trans s3) hD⟩
    rw [upd_same, map_take_succ hc]
  · have e : i = n := by omega
    subst e
    rw [← hn, List.take_length] at hDl
    exact .inl ⟨⟨xs, ys, qx, qy, h3⟩, q D H' sm hDl⟩
end
/-! ### list(range(n)) -/
theorem g_lstRg {te : L2.St → Hp → (Int → Int → Hp → Prop) → Prop} {σ : L2.St} {H : Hp} {Q : VK} (h : te σ H fun a b H1 => RgOk a b ∧ ∀ q, H1 q = none → Q (.ref q) (upd H1 q (.lst (L2.rgV a b)))) : tLstRg te σ H Q := h
theorem g_rg1 {ta : TE} {σ : L2.St} {H : Hp} {R : Int → Int → Hp → Prop} (h : ta σ H fun x H1 => ∃ n, x = .int n ∧ R 0 n H1) : tRg1 ta σ H R := h
theorem g_rgI {i : Int} {A : Int → Prop} (h : A i) : ∃ n, V.int i = .int n ∧ A n := ⟨i, rfl, h⟩
/-! ### d's keys, sorted -/
def rSortDI : List V → Hp → VK → Prop := fun xs H Q => ∃ (a : Addr) (kvs : List (Key × V)) (ks : List Int), xs = [.ref a] ∧ Rd H a (.dK kvs) ∧ kvs.map (·.1) = ks.map Sum.inl ∧ ks.length < 64 ∧ ∀ (ys : List Int) (p : Addr), ys.Perm ks → ys.Pairwise (· ≤ ·) → H p = none → Q (.ref p) (upd H p (.lst (ys.map V.int)))
theorem c_sortDI {X : Cx} (hc : X.calm = true) : CallR X (.builtin "sorted") rSortDI := call_sortedDI hc
end G

set_option Elab.async false
set_option linter.all false
set_option maxRecDepth 100000
set_option maxHeartbeats 4000000
namespace K65
open PySem PySem.Spec PyProof.Rows L2 G
local macro_rules | `(tactic| walk_at "sc") => `(tactic| first | (with_reducible assumption) | decide | omega | assumption | (simp only [List.length_cons, List.length_nil, List.length_append, List.length_map, List.length_replicate, List.length_set]; omega) | (show _ ≤ sizeLine; decide) | (show _ < sizeLine; decide))
local macro_rules | `(tactic| walk_at "sq") => `(tactic| first | assumption | exact SqL.of (by walk_at "hi") | exact SqT.of (by walk_at "hi"))
local macro_rules | `(tactic| walk_at "sd") => `(tactic| first | exact mul_ok (by first | omega | walk_at "sc") (by first | omega | walk_at "sc") | exact mul_ok' (by first | omega | walk_at "sc") (by first | omega | walk_at "sc"))
local macro_rules | `(tactic| walk_at "hi") => `(tactic| first | assumption | exact Has.get (by assumption) 0 rfl | exact Has.get (by assumption) 1 rfl | exact Has.get (by assumption) 2 rfl | exact Has.get (by assumption) 3 rfl | exact Has.get (by assumption) 4 rfl | exact Has.get (by assumption) 5 rfl | exact Has.get (by assumption) 6 rfl | exact Has.get (by assumption) 7 rfl | exact Has.get (by assumption) 8 rfl | exact Has.get (by assumption) 9 rfl)
local macro_rules | `(tactic| walk_at "s") => `(tactic| first
  | (with_reducible first
  | refine g_seq ?_ | refine g_asg ?_ | refine g_var rfl ?_ | refine g_c ?_ | refine g_op ?_ | refine g_name ?_ | refine g_consA ?_ | refine g_nilA ?_
  | refine g_test ?_ | refine g_exb ?_ | refine g_ifS ?_ | refine g_ret ?_ | refine g_call ?_ | refine g_cb ?_ | refine g_eqI ?_ | refine g_neI ?_
  | refine g_cmpI ?_ | refine g_I0 ?_ | refine g_addI ?_ | refine g_intI ?_ | refine g_abs ?_ | refine g_max2 ?_ | refine g_min2 ?_ | refine g_next ?_ | refine g_drop ?_ | refine g_aug rfl ?_ | refine g_ipI ?_
  | refine g_tru ?_ | refine g_truB ?_ | refine g_truI ?_ | refine g_truN ?_ | refine g_not ?_ | refine g_and ?_ | refine g_or ?_ | refine g_notV ?_ | refine g_andV ?_ | refine g_orV ?_ | refine g_ifE ?_ | refine g_chain ?_
  | refine g_un ?_ | refine g_rU ?_ | refine g_retN ?_ | refine g_brk ?_ | refine g_ct ?_ | refine g_B ?_ | refine g_eqB ?_ | refine g_neB ?_ | refine g_bm ?_ | refine g_bm0 ?_ | refine g_intB ?_
  | refine g_disp ?_ | refine g_dget2 ?_ | refine g_dget1 ?_ | refine g_pairN ?_ | refine g_pairC ?_ | refine g_dput ?_ | refine g_isNn ?_ | refine g_isNi ?_ | refine g_isNs ?_ | refine g_isNb ?_ | refine g_isNr ?_ | refine g_isB ?_ | refine g_lset ?_ | refine g_notB ?_ | refine g_noNn ?_ | refine g_noNi ?_ | refine g_noNs ?_ | refine g_noNb ?_ | refine g_noNr ?_ | refine g_gc ?_ | refine g_gn ?_ | refine g_gfld ?_ | refine g_lc ?_ | refine g_yes ?_ | refine g_sfld ?_ | refine g_meth ?_ | refine g_make ?_ | refine g_sub ?_ | refine g_sl ?_ | refine g_part ?_ | refine g_exi ?_ | refine g_noPart ?_ | refine g_for ?_ | refine g_iR ?_ | refine g_iSeq ?_ | refine g_isiIi ?_ | refine g_isiIb ?_ | refine g_isiIs ?_ | refine g_isiIt ?_ | refine g_isiBi ?_ | refine g_isiBb ?_ | refine g_isiBs ?_ | refine g_isiBt ?_ | refine g_isiSi ?_ | refine g_isiSb ?_ | refine g_isiSs ?_ | refine g_isiSt ?_ | refine g_isiNi ?_ | refine g_isiNb ?_ | refine g_isiNs ?_ | refine g_isiNt ?_
  | refine g_ifT ?_ | refine g_ifF ?_ | refine g_ifNT ?_ | refine g_ifNF ?_ | refine g_tup ?_ | refine g_lst ?_)
  | (with_reducible refine g_eqSS ?_) | (with_reducible refine g_neSS ?_) | ((with_reducible refine g_eqSx ?c ?_); (case c => decide +kernel)) | ((with_reducible refine g_neSx ?c ?_); (case c => decide +kernel)) | (with_reducible refine g_eqS ?_) | (with_reducible refine g_neS ?_)
  | ((with_reducible refine g_mod ?c ?_); (case c => walk_at "sc")) | ((with_reducible refine g_fdiv ?c ?d ?_); (case c => walk_at "sc"); (case d => walk_at "sc")) | ((with_reducible refine g_shr ?c ?_); (case c => walk_at "sc"))
  | ((with_reducible refine g_shl ?c ?d ?e ?_); (case c => walk_at "sc"); (case d => walk_at "sc"); (case e => walk_at "sc")) | ((with_reducible refine g_pow ?c ?d ?e ?_); (case c => walk_at "sc"); (case d => walk_at "sc"); (case e => walk_at "sc")) | ((with_reducible refine g_mulI ?c ?_); (case c => walk_at "sd"))
  | ((with_reducible refine' g_unp ?h ?n ?_); (case h => walk_at "sq"); (case n => rfl)) | ((with_reducible refine g_wipe ?e ?_); (case e => rfl)) | walk_at "fld" | ((with_reducible refine g_rR1 ?c1 ?c2 ?_); (case c1 => walk_at "sc"); (case c2 => walk_at "sc")) | ((with_reducible refine g_rR2 ?c1 ?_); (case c1 => exact ⟨by walk_at "sc", by walk_at "sc", by walk_at "sc", by walk_at "sc"⟩))
  | ((with_reducible refine' g_ixA ?h ?z ?v ?_); (case h => assumption); (case z => decide); (case v => rfl)) | ((with_reducible refine' g_isD ?h ?_); (case h => walk_at "hi")) | ((with_reducible refine' g_lenM ?c ?_); (case c => walk_at "sq")) | ((with_reducible refine' g_lenL ?c ?_); (case c => walk_at "sq")) | ((with_reducible refine' g_seqL ?c ?_); (case c => walk_at "sq"))
  | ((with_reducible refine' g_ty_ ?c ?_); (case c => exact .inl ⟨rfl, _, by walk_at "sq"⟩)))
local macro_rules | `(tactic| walk_at "go") => `(tactic| repeat walk_at "s")
local macro_rules | `(tactic| walk_at "len") => `(tactic| (intro vs H Q E h; first | (obtain ⟨e, _⟩ := h; rw [e]; rfl) | (obtain ⟨_, e, _⟩ := h; rw [e]; rfl) | (obtain ⟨_, _, e, _⟩ := h; rw [e]; rfl) | (obtain ⟨_, _, _, e, _⟩ := h; rw [e]; rfl) | (obtain ⟨_, _, _, _, e, _⟩ := h; rw [e]; rfl) | (obtain ⟨_, _, _, _, _, e, _⟩ := h; rw [e]; rfl) | (obtain ⟨_, _, _, _, _, _, e, _⟩ := h; rw [e]; rfl) | (obtain ⟨_, _, _, _, _, _, _, e, _⟩ := h; rw [e]; rfl) | (obtain ⟨_, _, _, _, _, _, _, _, e, _⟩ := h; rw [e]; rfl) | (obtain ⟨_, _, _, _, _, _, _, _, _, e, _⟩ := h; rw [e]; rfl) | (obtain ⟨_, _, _, _, _, _, _, _, _, _, e, _⟩ := h; rw [e]; rfl) | (obtain ⟨_, _, _, _, _, _, _, _, _, _, _, e, _⟩ := h; rw [e]; rfl) | (obtain ⟨_, _, _, _, _, _, _, _, _, _, _, _, e, _⟩ := h; rw [e]; rfl) | (obtain ⟨_, _, _, _, _, _, _, _, _, _, _, _, _, e, _⟩ := h; rw [e]; rfl) | (obtain ⟨_, _, _, _, _, _, _, _, _, _, _, _, _, _, e, _⟩ := h; rw [e]; rfl) | (obtain ⟨_, _, _, _, _, _, _, _, _, _, _, _, _, _, _, e, _⟩ := h; rw [e]; rfl) | (obtain ⟨_, _, _, _, _, _, _, _, _, _, _, _, _, _, _, _, e, _⟩ := h; rw [e]; rfl) | (obtain ⟨_, _, _, _, _, _, _, _, _, _, _, _, _, _, _, _, _, e, _⟩ := h; rw [e]; rfl) | (obtain ⟨_, _, _, _, _, _, _, _, _, _, _, _, _, _, _, _, _, _, e, _⟩ := h; rw [e]; rfl) | (obtain ⟨_, _, _, _, _, _, _, _, _, _, _, _, _, _, _, _, _, _, _, e, _⟩ := h; rw [e]; rfl) | (obtain ⟨_, _, _, _, _, _, _, _, _, _, _, _, _, _, _, _, _, _, _, _, e, _⟩ := h; rw [e]; rfl) | (obtain ⟨_, _, _, _, _, _, _, _, _, _, _, _, _, _, _, _, _, _, _, _, _, e, _⟩ := h; rw [e]; rfl) | (obtain ⟨_, _, _, _, _, _, _, _, _, _, _, _, _, _, _, _, _, _, _, _, _, _, e, _⟩ := h; rw [e]; rfl) | (obtain ⟨_, _, _, _, _, _, _, _, _, _, _, _, _, _, _, _, _, _, _, _, _, _, _, e, _⟩ := h; rw [e]; rfl)))

def topS (i : Nat) : Stmt := PySem.Challenge.pw_sameclock_k65_what_the_judge_refuses.main.body.getD i (.Pass ⟨0, 0, 0, 0⟩)
def dOf (x : Str) (i : Nat) : He.DefD := ⟨(x, none), x, x, defArgs (topS i), defBody (topS i), defScope (topS i), [], []⟩
def mOf (c m q : Str) (s : Stmt) : He.DefD := ⟨(c, some m), m, q, defArgs s, defBody s, defScope s, [], []⟩
def fn : List He.DefD := [dOf "region_of" 6, dOf "public_behind" 7, dOf "ways" 8, dOf "is_member" 9, dOf "holds" 10, dOf "greatest_paper" 11, dOf "span_word" 13, dOf "refusal" 14, dOf "judge" 15, dOf "taken" 16, dOf "_law_draws" 18, dOf "_law_next" 19, dOf "_law_regions" 20, dOf "_law_span" 21, dOf "_law_row" 22, dOf "_law_code" 23, dOf "_law_region" 24, dOf "_law_behind" 25, dOf "_law_ways" 26, dOf "_law_greatest" 27, dOf "_law_word" 28, dOf "_law_due" 29, dOf "_law_told" 30, dOf "law" 31, mOf "Refused" "__init__" "Refused.__init__" (inClass (topS 2) 0)]
def fa : List He.Fa := [.glo "region_of", .glo "public_behind", .glo "ways", .glo "is_member", .glo "holds", .glo "greatest_paper", .glo "span_word", .glo "refusal", .glo "judge", .glo "taken", .glo "_law_draws", .glo "_law_next", .glo "_law_regions", .glo "_law_span", .glo "_law_row", .glo "_law_code", .glo "_law_region", .glo "_law_behind", .glo "_law_ways", .glo "_law_greatest", .glo "_law_word", .glo "_law_due", .glo "_law_told", .glo "law", .glo "ClockError", .glo "Refused", .free "ValueError", .free "abs", .free "all", .free "bool", .free "int", .free "isinstance", .free "len", .free "list", .free "range", .free "repr", .free "sorted", .free "tuple", .free "zip", .int "REGISTERS" 16, .glo "ALL", .exm "Refused" "Refused" true]
def xcs : List XcD := [⟨"Refused", "Refused", "ClockError", ["row", "word"]⟩]
abbrev xd_Refused : XcD := ⟨"Refused", "Refused", "ClockError", ["row", "word"]⟩
theorem xc_Refused {w : World} {K : PySem.W.Frag} {mg : Str → Option Value} (T : Txt fa fn K mg (XOk cs xcs K w)) : XcOk K xd_Refused := T.m.at_ (List.mem_of_getElem? (i := 0) rfl)
theorem exm_Refused_Refused {w : World} {K : PySem.W.Frag} {mg : Str → Option Value} (T : Txt fa fn K mg (XOk cs xcs K w)) : PySem.W.exmOne K (.ref (He.ga K "Refused")) (.ref (He.ga K "Refused")) = some true := He.exm_ok (T.c.fact 41 rfl)
def dt_ALL : List PyData := [.int 0, .int 1, .int 2, .int 3, .int 4, .int 5, .int 6, .int 7, .int 8, .int 9, .int 10, .int 11, .int 12, .int 13, .int 14, .int 15]
def cs : List (Str × GD) := [("ALL", GD.dat (.tuple dt_ALL))]
theorem in_ALL : (("ALL" : Str), GD.dat (.tuple dt_ALL)) ∈ cs := List.mem_of_getElem? (i := 0) rfl
variable {P : Program} {w : World} {K : PySem.W.Frag} {mg : Str → Option Value} {base : Heap}
/-! ### the head -/
abbrev R : PySem.W.OpenRow := PySem.W.OpenLaw.row PySem.Challenge.rw_sameclock_k65_what_the_judge_refuses
abbrev hk : PySem.W.Hook := hookY 5 fa fn (tabs cs) (fun K => exB cs K && xcs.all (excB K))
def ob (s : PySem.W.SharedT) : He.AlX := obsY 5 fa fn (tabs cs) (fun K => exB cs K && xcs.all (excB K)) (HandSHeadRun.getT s)
theorem ob_eq (s : PySem.W.SharedT) : ob s = hk.obs s.abs := obsY_eq (HandSHeadRun.getT_eq s)
theorem run (w : World) : HandSHeadRun.RunEq R (PySem.W.view R.prog [31]) hk ob 3000 ["ClockError", "Refused", "REGISTERS", "ALL", "region_of", "public_behind", "ways", "is_member", "holds", "greatest_paper", "span_word", "refusal", "judge", "taken", "_law_draws", "_law_next", "_law_regions", "_law_span", "_law_row", "_law_code", "_law_region", "_law_behind", "_law_ways", "_law_greatest", "_law_word", "_law_due", "_law_told"] w := by
  intro os
  kernel_rfl

/-! ### repr of data; defs that are called where no repr is under way -/
def rRepr (K : PySem.W.Frag) : List V → Hp → VK → Prop := fun vs H Q => ∃ (a : Addr) (d : PyData), vs = [.ref a] ∧ Dp K H (.ref a) d ∧ d.showable = true ∧ d.canLay0 = true ∧ d.depth ≤ 60 ∧ d.shown.length ≤ 100000 ∧ Q (.str d.shown) H
theorem c_repr {X : Cx} {K : PySem.W.Frag} (hK : X.K = K) (hgd : X.A.guards = some []) (hu : X.A.units + 64 < cLine) : CallR X (.builtin "repr") (rRepr K) := by
  subst hK
  rintro pins s σ H vs us Q I r ⟨a, d, rfl, hd, h1, h2, h3, h4, q⟩
  rw [Vals.ref1 r]
  obtain ⟨as, rd⟩ := Dp.reads I d (.ref a) (Value.ref a) hd rfl
  exact repr_of_reads' rd h1 (PyData.noDict_hsm (PyData.hasDict_of_canLay d h2)) hgd (by omega) (fun _ _ e => e) (fun h' u tk k => ⟨.str d.shown, H, I.kept (t' := tk) k, ⟨_, rfl⟩, q⟩) (szle h4)
structure FnG (P : Program) (w : World) (K : PySem.W.Frag) (mg : Str → Option Value) (base : Heap) (CX : CXT) (k : Nat) (f : Addr) (fd : FuncData) (ps : List Str) (sp : Sp) : Prop where
  ln : ∀ vs H Q E, sp vs H Q E → vs.length = ps.length
  go : ∀ (A : Around) (outer : List Env) (s : Shared) (H : Hp) (args : Args) (us : List Value) (vs : List V) (Q : VK) (E : XK), A.guards = some [] → Room k A → Env0 P w K mg base A outer s H → BindsTo s fd args (ps.zip us) → Vals vs us → sp vs H Q E →
    codeAny (model P w) A (.call (.ref f) args) (L2.CR CX outer P w H s Q E) s
structure DnG (P : Program) (w : World) (K : PySem.W.Frag) (mg : Str → Option Value) (base : Heap) (CX : CXT) (k : Nat) (x : Str) (ps : List Str) (sp : Sp) : Prop where
  ex : ∃ (f : Addr) (fd : FuncData), FnG P w K mg base CX k f fd ps sp ∧ mg x = some (.ref f) ∧ PySem.W.keepIn K (.ref f) = true ∧ Binds K fd ps [] ∧ ∃ oc od osl, K.lookup f = some ⟨oc, od, .func fd, osl⟩
section
variable {fa : List He.Fa} {fn : List He.DefD} {P : Program} {w : World} {K : PySem.W.Frag} {mg : Str → Option Value} {base : Heap} {ex : Prop}
theorem mk_dnG (T : Txt fa fn K mg ex) (i j : Nat) {d : He.DefD} {N ps : List Str} {k : Nat} {sp : Sp} (hd : fn[i]? = some d) (hg : fa[j]? = some (.glo d.at_.1)) (hm : d.at_.2 = none) (h1 : d.dfl = []) (h2 : d.kwd = [])
    (S : FnScope N ps d.scope) (len : ∀ vs H Q E, sp vs H Q E → vs.length = ps.length)
    (hb : ∀ (kV doc pm : Value) (an : Option Addr) (cdv ct : Value) (us : List Value), us.length = ps.length → bindArgs (PySem.W.fnOf d.name d.qual d.params d.body d.scope .none kV doc pm an cdv ct) ⟨us, []⟩ = pure (ps.zip us))
    (hbody : ∀ (cdv : Value) (A : Around) (outer : List Env) (s : Shared) (H : Hp) (vs : List V) (Q : VK) (E : XK), A.guards = some [] → Room k (A.deeper (envOfC d.qual d.scope s.heap.objs.size (He.ga K d.at_.1) cdv)) → sp vs H Q E →
      ∃ t, PSs (cxOf CX0 P w K mg base N d.qual d.scope (He.ga K d.at_.1) cdv A outer s H E).nox d.body t ∧ t { nx := fun _ H' => Q .non H', rt := Q } (start N vs) H) : DnG P w K mg base CX0 (k + 1) d.at_.1 ps sp := by
  obtain ⟨⟨fd, F⟩, g⟩ := T.def_ i j hd hg hm h1 h2
  have bn := F.bindsN hb
  have kp := F.kp
  obtain ⟨oc, od, dV, kV, doc, pm, an, cdv, ct, osl, rfl, lk, hcd, _, _⟩ := F.ex
  refine ⟨_, _, ⟨len, fun A outer s H args us vs Q E hgd hr e0 hb r hsp => ?_⟩, g, kp, bn, _, _, _, lk⟩
  have kin : K.In s.heap := e0.mod.kin.keeps (fun b o e => (e0.bs b o e).1)
  have nol : s.heap.NoLimit := e0.mod.nolimit.keeps (fun b o e => (e0.bs b o e).1)
  obtain ⟨t, ht, hq⟩ := hbody cdv A outer s H vs Q E hgd (hr.deeper _) hsp
  refine codeAny_call_function hr.depth (kin _ _ lk) rfl S.co S.gen rfl (PySem.W.codeRec_of kin hcd) (hb _ _ _ _ (wpAny_newFunctionEnv_cells S.kind (fun y hy => ?_) fun env he s1 x => ?_))
  · exact (S.par y.1 (List.of_mem_zip (a := y.1) (b := y.2) hy).1).elim .inl fun q => .inr ⟨q, PySem.W.cellsFrom_some _ _ _ (.inl q)⟩
  · subst he
    refine ⟨nol.keeps x.toInCall.keep, codeAny_func (wpAny_mono (ht.nox.run [] s1 (start N vs) H _ (inv_start S hr.hd e0 (len _ _ _ _ hsp) r x) hq) (fun fl s' hs => ?_) fun e s' hs => hs)⟩
    cases fl with
    | next =>
      obtain ⟨σ', H', J, q⟩ := hs
      exact ⟨V.non, H', J.os, J.bare, J.base, J.hok, rfl, q⟩
    | ret u =>
      obtain ⟨v, σ', H', J, rv, q⟩ := hs
      exact ⟨v, H', J.os, J.bare, J.base, J.hok, rv, q⟩
    | brk => exact False.elim hs.choose_spec.choose_spec.2
    | cont => exact False.elim hs.choose_spec.choose_spec.2
end
section
variable {X : Cx} {CX : CXT} {k : Nat} {ps : List Str} {sp : Sp} {E : XK} {x : Str} {p pos : Pos} {e : Expr} {es : List Expr} {t : TA}
theorem pe_callG {K : PySem.W.Frag} (hK : X.K = K) (hgd : X.A.guards = some []) (D : DnG X.prog X.w K X.mg X.base CX k x ps sp) (hr : Room k X.A) (hg : Gl X x) (hx : Passes CX X E)
    (ha : PA X (e :: es) t) (hdb : (x == ("__debug__" : Str)) = false := by decide) (he : starEach (e :: es) X.env = (false, eval e X.env) :: starEach es X.env := by rfl) (hpl : (backTo pos (starEach es X.env)).any (·.1) = false := by rfl) :
    PE X (.Call (.Name x p) (e :: es) [] pos) (tCall sp [] E t) := by
  subst hK
  obtain ⟨f, fd, F, m, kp, b, _⟩ := D.ex
  refine ⟨fun pins s σ H Q I h => wpAny_Call_Name_kw (ld_glob I hg m ?_ hdb)⟩
  refine PySem.W.callWith_K (h₀ := X.base) I.ok.mod.kin kp (thn (ha.run pos pins s σ H _ I h) fun us s1 hz => ?_) he hpl
  obtain ⟨vs, H1, I1, r, q⟩ := hz
  have r2 : Vals (vs ++ []) (us ++ []) := r.append .nil
  refine ⟨I1.kIn, wpAny_call (codeAny_mono (F.go X.A X.stack s1 H1 ⟨us, []⟩ (us ++ []) (vs ++ []) Q E hgd hr I1.env0 (b s1 us I1.kIn (by rw [← r2.length]; exact F.ln _ _ _ _ q)) r2 q) fun rr s' hq => ?_)⟩
  cases rr with
  | error e => exact hx pins σ H1 s1 e s' I1 hq
  | ok fl =>
    cases fl with
    | ret u => exact I1.after hq
    | next => exact False.elim hq
    | brk => exact False.elim hq
    | cont => exact False.elim hq
end
/-! the law's own end, where no repr is under way -/
theorem law_factsG {ex : Prop} {fa : List He.Fa} {fn : List He.DefD} {P : Program} {w : World} {K : PySem.W.Frag} {h : Heap} {mg : Str → Option Value} {f : Addr} {d : He.DefD} {k : Nat} {sp : Sp} (X : K.In h) (G : h.Ns mainGlobals mg)
    (hfa : mg d.at_.1 = some (.ref f)) (c : He.SaysD fa fn K) (m : ex) (i j : Nat) (hd : fn[i]? = some d) (hg : fa[j]? = some (.glo d.at_.1)) (hm : d.at_.2 = none) (h1 : d.dfl = []) (h2 : d.kwd = [])
    (hb : ∀ (kV doc pm : Value) (an : Option Addr) (cdv ct : Value) (us : List Value), us.length = 1 → bindArgs (PySem.W.fnOf d.name d.qual d.params d.body d.scope .none kV doc pm an cdv ct) ⟨us, []⟩ = pure ((["script"] : List Str).zip us))
    (ok : ∀ base, Txt fa fn K mg ex → DnG P w K mg base CX0 k d.at_.1 ["script"] sp) :
    ∃ fd : FuncData, (∀ (s : Shared) (v : Value), BindsTo s fd ⟨[v], []⟩ [("script", v)]) ∧ ∀ base : Heap, K.In base → base.Ns mainGlobals mg → FnG P w K mg base CX0 k f fd ["script"] sp := by
  have T : Txt fa fn K mg ex := ⟨c, ⟨h, X, G⟩, m⟩
  obtain ⟨⟨fd, F⟩, g⟩ := T.def_ i j hd hg hm h1 h2
  rw [hfa] at g
  cases g
  have b := FunD.bindsA (ps := ["script"]) F hb
  refine ⟨fd, fun s v => b s [v] rfl, fun base _ _ => ?_⟩
  obtain ⟨f2, fd2, F2, m, _, _, oc, od, osl, lk⟩ := (ok base T).ex
  rw [hfa] at m
  cases m
  obtain ⟨oc', od', dV, kV, doc, pm, an, cdv, ct, osl', e, lk', _⟩ := F.ex
  rw [lk] at lk'
  cases lk'
  exact F2
section
variable {P : Program} {w : World} {K : PySem.W.Frag} {mg mb : Str → Option Value} {k : Nat} {fa a : Addr} {fd : FuncData} {x : Str} {sp : Sp} {s : Shared} {us : List Value} {ns : List Int}
/-- the goal of a call of the law -/
def LawEnd (s : Shared) (r : Result) (s' : Shared) : Prop := r = .ok (.ret (.bool true)) ∧ OldK s.heap s'.heap ∧ s'.os = s.os ∧ AllBare s'.gens
theorem lawG0 {H : Hp} (KX : K.In s.heap) (g1 : s.heap.Ns mainGlobals mg) (g2 : s.heap.Ns builtinsNs mb) (g3 : ∀ x : Str, x ≠ "__name__" → mb x = bootBuiltins x) (g4 : s.heap.NoLimit) (g5 : s.gens = #[])
    (ha : s.heap.get? a = some { cls := .type "list", data := .seq us.toArray }) (hr : Room k callerA) (F : ∀ base : Heap, K.In base → base.Ns mainGlobals mg → FnG P w K mg base CX0 k fa fd [x] sp) (hb : ∀ (s : Shared) (u : Value), BindsTo s fd ⟨[u], []⟩ [(x, u)])
    (hO : Only H) (hp : sp [.ref a] H (fun v _ => v = .bl true) fun _ _ _ => False) (hok : HOk P w H s.heap) (hA : ∀ b, H b ≠ none → b = a) (hK : H a ≠ none → K.lookup a = none) :
    codeAny (model P w) callerA (.call (.ref fa) ⟨[.ref a], []⟩) (LawEnd s) s := by
  have only : ∀ {b : Addr}, b ≠ a → H b = none := fun {b} n => Classical.byContradiction fun z => n (hA b z)
  have notA : ∀ {b : Addr} {o : Obj}, s.heap.get? b = some o → (∀ vs n, o.data ≠ .seq vs n) → H b = none := fun {b o} e d => only fun z => by
    rw [z, ha] at e
    exact d _ _ (by rw [← Option.some.inj e])
  have hid : ∀ {b : Addr} {m : Str → Option Value}, s.heap.Ns b m → (hidT s.heap H).Ns b m := fun {b m} z => by
    obtain ⟨o, es, ep, e, d, r⟩ := z
    exact ⟨o, es, ep, hidT_get e (notA e (by rw [d]; intro _ _ z; cases z)), d, r⟩
  have kin : K.In (hidT s.heap H) := fun b o e => hidT_get (KX b o e) (Classical.byContradiction fun z => by
    have eb := hA b z
    subst eb
    rw [hK z] at e
    cases e)
  have md : Mod K mg (hidT s.heap H) := ⟨kin, hid g1, ⟨mb, hid g2, g3⟩, by
    obtain ⟨mc, z1, z2⟩ := g4
    exact ⟨mc, hid z1, z2⟩⟩
  have ev : Env0 P w K mg (hidT s.heap H) callerA [] s H := ⟨rfl, md, fun b o e => of_hidT e, Nat.le_of_eq (hidT_size _ _), trivial, fun b hb => absurd (show b ∈ ([] : List Addr) from hb) (by simp), hok, .of_eq g5⟩
  refine codeAny_mono ((F _ kin (hid g1)).go callerA [] s H ⟨[.ref a], []⟩ [.ref a] [.ref a] _ _ rfl hr ev (hb s (.ref a)) (.cons rfl .nil) hp) fun r s' h => ?_
  cases r with
  | error e => exact False.elim h
  | ok fl =>
    cases fl with
    | next => exact False.elim h
    | brk => exact False.elim h
    | cont => exact False.elim h
    | ret u =>
      obtain ⟨v, H', os, bare, un, hok', r', q⟩ := h
      obtain rfl : v = .bl true := q
      obtain rfl : u = Value.bool true := r'
      refine ⟨rfl, OldK.of_keep fun b o e => ?_, os, bare⟩
      rcases hO b with z | ⟨ob, xs, z⟩
      · exact un.keep b o e z (by intro y; exact absurd (show b ∈ ([] : List Addr) from y) (by simp)) (by simp)
      · have e1 := (hok b _ z).1
        rw [e] at e1
        cases e1
        exact (hok' b _ (un.frzs b _ _ z)).1
theorem lawG (KX : K.In s.heap) (g1 : s.heap.Ns mainGlobals mg) (g2 : s.heap.Ns builtinsNs mb) (g3 : ∀ x : Str, x ≠ "__name__" → mb x = bootBuiltins x) (g4 : s.heap.NoLimit) (g5 : s.gens = #[])
    (ha : s.heap.get? a = some { cls := .type "list", data := .seq us.toArray }) (hi : IntsAre us ns) (hl : ns.length ≤ sizeLine) (hr : Room k callerA) (F : ∀ base : Heap, K.In base → base.Ns mainGlobals mg → FnG P w K mg base CX0 k fa fd [x] sp) (hb : ∀ (s : Shared) (u : Value), BindsTo s fd ⟨[u], []⟩ [(x, u)])
    (hp : ∀ H : Hp, Only H → SqL K H a (ns.map V.int) → sp [.ref a] H (fun v _ => v = .bl true) fun _ _ _ => False) : codeAny (model P w) callerA (.call (.ref fa) ⟨[.ref a], []⟩) (LawEnd s) s := by
  have rv : Vals (ns.map V.int) us := vals_ints hi
  have lv := hi.length
  cases hk : K.lookup a with
  | some o =>
    have e := KX a o hk
    rw [ha] at e
    cases e
    refine lawG0 (H := fun _ => none) KX g1 g2 g3 g4 g5 ha hr F hb (fun _ => .inl rfl) (hp _ (fun _ => .inl rfl) (.inr ⟨_, us.toArray, _, hk, rfl, rfl, rfl, by rw [List.size_toArray, lv]; exact hl, by simpa using rv⟩)) (fun b u z => ?_) (fun b z => absurd rfl z) fun z => absurd rfl z
    have z : (none : Option HO) = some u := z
    cases z
  | none =>
    let Hs : Hp := fun b => if b = a then some (.frz { cls := .type "list", data := .seq us.toArray } (.lst (ns.map V.int))) else none
    have is_ : ∀ {b : Addr} {u : HO}, Hs b = some u → b = a ∧ u = .frz { cls := .type "list", data := .seq us.toArray } (.lst (ns.map V.int)) := fun {b u} z => by
      by_cases c : b = a
      · exact ⟨c, (Option.some.inj ((if_pos c).symm.trans z)).symm⟩
      · cases (if_neg c).symm.trans z
    have on : Only Hs := fun b => by
      cases z : Hs b with
      | none => exact .inl rfl
      | some u =>
        obtain ⟨_, rfl⟩ := is_ z
        exact .inr ⟨_, _, rfl⟩
    refine lawG0 (H := Hs) KX g1 g2 g3 g4 g5 ha hr F hb on (hp _ on (.inl (.inr ⟨_, if_pos rfl⟩))) (fun b u z => ?_) (fun b z => ?_) fun _ => hk
    · obtain ⟨rfl, rfl⟩ := is_ z
      exact ⟨ha, by rw [List.length_map]; exact hl, us, _, rv, ha⟩
    · cases c : Hs b with
      | none => exact absurd c z
      | some u => exact (is_ c).1
end
theorem walkG {l : PySem.W.OpenLaw} {n k : Nat} {q : Program} {loose : List Str} {XP : (Str → Option Value) → Heap → Prop} {YP : World → Heap → Prop} {d : DefRec} {x : Str}
    (hn : l.most = some n) (hn2 : n ≤ sizeLine) (hdf : d.params.defaults = []) (hr : Room k callerA)
    (F : ∀ (w : World) (mg : Str → Option Value) (fa : Addr) (h : Heap), YP w h → h.Ns mainGlobals mg → mg d.name = some (.ref fa) →
      ∃ (K : PySem.W.Frag) (fd : FuncData) (sp : Sp), K.In h ∧ (∀ (s : Shared) (u : Value), BindsTo s fd ⟨[u], []⟩ [(x, u)]) ∧
        (∀ (H : Hp) (a : Addr) (ns : List Int), ns.length ≤ n → Only H → SqL K H a (ns.map V.int) → sp [.ref a] H (fun v _ => v = .bl true) fun _ _ _ => False) ∧
        ∀ base : Heap, K.In base → base.Ns mainGlobals mg → FnG l.prog w K mg base CX0 k fa fd [x] sp) :
    PySem.W.WalkO q loose XP YP l.row.toRowW d [] (fun f vs => PySem.call f vs) := by
  refine Att.attach_call hn hdf fun w s0 s1 mg mb fa o pm cd doc a vs ns G Y ho hd hcd hmg hobj hints hlen hg => ?_
  obtain ⟨K, fd, sp, KX, hb, hp, hF⟩ := F w mg fa _ Y G.T.g hmg
  exact lawG KX G.T.g G.T.b G.T.builtins G.T.nolimit hg hobj hints (Nat.le_trans hlen hn2) hr hF hb fun H hO hS => hp H a ns hlen hO hS

/-! ### draws of another kind: w["draws"], w["at"] (laws k60 .. k65, k86) -/
structure RowW (row : List Int) : Prop where
  dig : ∀ x ∈ row, 0 ≤ x ∧ x < 997
  len : row.length ≤ 10000
theorem ne_dw : ¬ (("draws" : Str) = "at") := by decide +kernel
theorem ne_wd : ¬ (("at" : Str) = "draws") := by decide +kernel
/-- the dict holds its row and its place -/
structure KvW (kvs : List (Key × V)) (r : Addr) (n : Int) : Prop where
  d : valV kvs (.inr "draws") = some (.ref r)
  a : valV kvs (.inr "at") = some (.int n)
  l : kvs.length ≤ 15
theorem putK_has {kvs : List (Key × V)} {k : Key} {v x : V} (h : valV kvs k = some x) : (putK kvs k v).length = kvs.length := by
  unfold putK
  rw [valV_any, h]
  simp
theorem KvW.put {kvs : List (Key × V)} {r : Addr} {n m : Int} (h : KvW kvs r n) : KvW (putK kvs (.inr "at") (.int m)) r m := ⟨by
  rw [valV_put, if_neg (fun e => ne_dw (Sum.inr.inj e))]
  exact h.d, by rw [valV_put, if_pos rfl], by rw [putK_has h.a]; exact h.l⟩
theorem KvW.made {r : Addr} : KvW (mergeK [] [(.inr "draws", .ref r), (.inr "at", .int 0)]) r 0 := by
  unfold mergeK
  simp only [List.foldl_cons, List.foldl_nil]
  refine ⟨?_, ?_, ?_⟩
  · rw [valV_put, if_neg (fun e => ne_dw (Sum.inr.inj e)), valV_put, if_pos rfl]
  · rw [valV_put, if_pos rfl]
  · rw [putK_new _ (by rw [valV_put, if_neg (fun e => ne_wd (Sum.inr.inj e))]; rfl), putK_new _ rfl]
    show 2 ≤ 15
    decide
theorem KvW.getD {kvs : List (Key × V)} {r d : Addr} {n : Int} {H : Hp} (h : KvW kvs r n) (e : H d = some (.dK kvs)) : DGet H d (.str "draws") (some (.ref r)) := by
  rw [← h.d]
  exact DGet.k (k := .inr "draws") e
theorem KvW.getA {kvs : List (Key × V)} {r d : Addr} {n : Int} {H : Hp} (h : KvW kvs r n) (e : H d = some (.dK kvs)) : DGet H d (.str "at") (some (.int n)) := by
  rw [← h.a]
  exact DGet.k (k := .inr "at") e
def rDA (K : PySem.W.Frag) (tv : TE) (rd : V → V → Hp → VK → Prop) (σ : L2.St) : V → V → Hp → (Hp → Prop) → Prop := fun x y H2 R => ∃ a v, x = .ref a ∧ DGet H2 a y (some v) ∧ tv σ H2 fun y2 H3 => rd v y2 H3 fun z H4 => ∃ H5, DPut H4 a y z H5 ∧ R H5
theorem g_daug {K : PySem.W.Frag} {σ : L2.St} {H : Hp} {D : Ends} {td ty tv : TE} {rd : V → V → Hp → VK → Prop} (h : td σ H fun x H1 => ty σ H1 fun y H2 => rDA K tv rd σ x y H2 (D.nx σ)) : sDAug td ty tv rd D σ H := h
def sp_law_draws (K : PySem.W.Frag) : Sp := fun vs H Q _ => ∃ (a : Addr) (ns : List Int) (many : Int), vs = [.ref a, .int many] ∧ SqL K H a (ns.map V.int) ∧ ns.length ≤ 63 ∧ 0 ≤ many ∧ many ≤ 5000 ∧
  ∀ H' p (row : List Int), Same H H' → H p = none → H' p = some (.lst (row.map V.int)) → RowW row → Q (.ref p) H'
theorem app_mapW {row : List Int} {x : Int} : row.map V.int ++ [V.int x] = (row ++ [x]).map V.int := by simp
theorem cutV_to {xs : List V} {n : Nat} : cutV xs none (some (n : Int)) = xs.take n := by
  unfold cutV
  rw [HT.sIx_nat, HT.sIx_none, List.drop_zero, Nat.sub_zero]
  by_cases h : n ≤ xs.length
  · rw [Nat.min_eq_left h]
  · rw [Nat.min_eq_right (by omega), List.take_of_length_le (Nat.le_refl _), List.take_of_length_le (by omega)]
theorem dig_snoc {row : List Int} {x : Int} (h : ∀ y ∈ row, 0 ≤ y ∧ y < 997) : ∀ y ∈ row ++ [x % 997], 0 ≤ y ∧ y < 997 := fun y hy => by
  rcases List.mem_append.mp hy with hy | hy
  · exact h y hy
  · rw [List.mem_singleton.mp hy]
    exact ⟨Int.emod_nonneg _ (by decide), Int.emod_lt_of_pos _ (by decide)⟩
theorem sc_law_draws : FnScope ["script", "many", "draws", "mixed", "k", "cell", "rest", "turn"] ["script", "many"] (defScope (topS 18)) := ⟨rfl, rfl, rfl, by decide +kernel, rfl, by decide +kernel, by decide +kernel⟩
theorem ok_law_draws (T : Txt fa fn K mg (XOk cs xcs K w)) : Dn P w K mg base CX0 1 "_law_draws" ["script", "many"] (sp_law_draws K) := by
  refine mk_dn (d := dOf "_law_draws" 18) T 10 10 rfl rfl rfl rfl rfl sc_law_draws (by walk_at "len") (fun _ _ _ _ _ _ us hl => match us, hl with | [_, _], _ => rfl) (fun cdv A outer s H vs Q E hr h => ⟨_, (pss_cons (ps_set (i := 2) sc_law_draws.nd rfl (.inl rfl) (pe_lst pa_nil))
      (pss_cons (ps_set (i := 3) sc_law_draws.nd rfl (.inl rfl) pe_int)
      (pss_cons (ps_for PassesOwn.never rfl (pi_r1 rfl (T.free 34 rfl) (pa_cons (pe_callB (c_len (K := K) rfl) rfl (T.free 32 rfl) (by decide +kernel) (pa_cons (pv 0) pa_nil)) pa_nil)) (pg_name (i := 4) sc_law_draws.nd rfl (.inl rfl)) (pss_cons (ps_set (i := 5) sc_law_draws.nd rfl (.inl rfl) (pe_callB c_abs rfl (T.free 27 rfl) (by decide +kernel) (pa_cons (pe_callTy c_int rfl (T.free 30 rfl) (by decide +kernel) (pa_cons (pe_ixU (K := K) rfl (hu_of hr) (pv 0) (pv 4)) pa_nil)) pa_nil)))
      (pss_cons (ps_set (i := 3) sc_law_draws.nd rfl (.inl rfl) (pe_op o_mod (pe_callTy c_int rfl (T.free 30 rfl) (by decide +kernel) (pa_cons (pe_op (op_addU (K := K) rfl) (pe_op (op_addU (K := K) rfl) (pe_op op_mulU (pv 3) pe_int) (pe_op o_mod (pv 5) pe_int)) (pv 4)) pa_nil)) pe_int))
      (pss_cons (ps_set (i := 6) sc_law_draws.nd rfl (.inl rfl) pe_int)
      (pss_cons (ps_join (ps_if (pt_cmpR o_ge (pv 5) (pe_op o_pow pe_int pe_int) (nomark _)) (pss_one (ps_set (i := 6) sc_law_draws.nd rfl (.inl rfl) (pv 5))) (pss_cons (ps_expr (pe_bm PySem.F.plainAttrs_list PySem.F.slot_list_append PySem.F.type_list_append mt_append (pv 2) (pa_cons (pe_op o_mod (pe_callTy c_int rfl (T.free 30 rfl) (by decide +kernel) (pa_cons (pv 5) pa_nil)) pe_int) pa_nil)))
      (pss_one (ps_expr (pe_bm PySem.F.plainAttrs_list PySem.F.slot_list_append PySem.F.type_list_append mt_append (pv 2) (pa_cons (pe_op o_mod (pe_op o_mod (pe_callTy c_int rfl (T.free 30 rfl) (by decide +kernel) (pa_cons (pe_op (op_addU (K := K) rfl) (pe_op op_mulU (pv 3) pe_int) pe_int) pa_nil)) pe_int) pe_int) pa_nil)))))))
      (pss_one (ps_for PassesOwn.never rfl (pi_r1 rfl (T.free 34 rfl) (pa_cons pe_int pa_nil)) (pg_name (i := 7) sc_law_draws.nd rfl (.inl rfl)) (pss_one (ps_if (pt_cmpR o_gt (pv 6) pe_int (nomark _)) (pss_cons (ps_expr (pe_bm PySem.F.plainAttrs_list PySem.F.slot_list_append PySem.F.type_list_append mt_append (pv 2) (pa_cons (pe_op o_mod (pe_callTy c_int rfl (T.free 30 rfl) (by decide +kernel) (pa_cons (pv 6) pa_nil)) pe_int) pa_nil)))
      (pss_one (ps_set (i := 6) sc_law_draws.nd rfl (.inl rfl) (pe_op o_fdiv (pv 6) pe_int)))) pss_nil)))))))))
      (pss_cons (ps_for PassesOwn.never rfl (pi_r1 rfl (T.free 34 rfl) (pa_cons (pv 1) pa_nil)) (pg_name (i := 4) sc_law_draws.nd rfl (.inl rfl)) (pss_cons (ps_set (i := 3) sc_law_draws.nd rfl (.inl rfl) (pe_op o_mod (pe_callTy c_int rfl (T.free 30 rfl) (by decide +kernel) (pa_cons (pe_op (op_addU (K := K) rfl) (pe_op (op_addU (K := K) rfl) (pe_op op_mulU (pv 3) pe_int) (pv 4)) pe_int) pa_nil)) pe_int))
      (pss_one (ps_expr (pe_bm PySem.F.plainAttrs_list PySem.F.slot_list_append PySem.F.type_list_append mt_append (pv 2) (pa_cons (pe_op o_mod (pe_callTy c_int rfl (T.free 30 rfl) (by decide +kernel) (pa_cons (pv 3) pa_nil)) pe_int) pa_nil))))))
      (pss_one (ps_ret (pe_slice (sl_U (K := K) rfl) (pv 2) po_none (po_some (pv 1))))))))), ?_⟩)
  obtain ⟨a, ns, many, rfl, hS, hlen, hm0, hm1, hQ⟩ := h
  walk_at "go"
  refine ⟨by decide, fun p hp => ?_⟩
  walk_at "go"
  have hS1 : SqL K (upd H p (.lst [])) a (ns.map V.int) := (Same.new hp).seq hS
  refine g_lenM hS1 ?_
  walk_at "go"
  have M0 : Has (upd H p (.lst [])) [(p, .lst (([] : List Int).map V.int))] := Has.one upd_same
  refine f_range (fun i σ H' => ∃ (row : List Int) (m : Int) (k c r t : Option V), σ = [some (.ref a), some (.int many), some (.ref p), some (.int m), k, c, r, t] ∧ Same H H' ∧ Has H' [(p, .lst (row.map V.int))] ∧ (∀ x ∈ row, 0 ≤ x ∧ x < 997) ∧ row.length ≤ 62 * i)
    ⟨[], _, _, _, _, _, rfl, Same.new hp, M0, (fun _ h => nomatch h), Nat.le_refl _⟩ ?_ ?_
  · rintro i σ H' hi ⟨row, m, k, c, r, t, rfl, hs, M, hr1, hr2⟩
    have hi : i < ns.length := by omega
    walk_at "go"
    have hS2 := hs.seq hS
    obtain ⟨z, hz⟩ : ∃ z, ns[i]? = some z := ⟨_, List.getElem?_eq_getElem hi⟩
    have hz' : (ns.map V.int)[i]? = some (V.int z) := by rw [List.getElem?_map, hz]; rfl
    refine g_ixL hS2 (n := i) (by omega) hz' ?_
    walk_at "go"
    generalize (if z < 0 then -z else z) = cell
    generalize (m * 48271 + cell % 1000003 + (0 + (i : Int))) % 65537 = m1
    refine ⟨fun σ' H7 => ∃ (row : List Int) (rs : Int) (k t : Option V), σ' = [some (.ref a), some (.int many), some (.ref p), some (.int m1), k, some (.int cell), some (.int rs), t] ∧ Same H H7 ∧ Has H7 [(p, .lst (row.map V.int))] ∧ (∀ x ∈ row, 0 ≤ x ∧ x < 997) ∧ row.length ≤ 62 * i + 2, ?_, ?_⟩
    · walk_at "go"
      refine g_if (fun hc => ?_) (fun hc => ?_)
      · walk_at "go"
        exact ⟨row, cell, _, _, rfl, hs, M, hr1, by omega⟩
      · walk_at "go"
        refine g_append M 0 rfl (szl (by rw [List.length_map]; omega)) (fun M1 => ?_)
        rw [app_mapW] at M1 ⊢
        walk_at "go"
        refine g_append M1 0 rfl (szl (by rw [List.length_map, List.length_append, List.length_singleton]; omega)) (fun M2 => ?_)
        rw [app_mapW] at M2 ⊢
        walk_at "go"
        refine ⟨_, _, _, _, rfl, Same.mut (Same.mut hs hp) hp, M2, dig_snoc (dig_snoc hr1), by simp only [List.length_append, List.length_singleton]; omega⟩
    · rintro σ' H7 ⟨row, rs, k, t, rfl, hs, M, hr1, hr2⟩
      walk_at "go"
      refine f_range (fun j σ H' => ∃ (row : List Int) (rs : Int) (k t : Option V), σ = [some (.ref a), some (.int many), some (.ref p), some (.int m1), k, some (.int cell), some (.int rs), t] ∧ Same H H' ∧ Has H' [(p, .lst (row.map V.int))] ∧ (∀ x ∈ row, 0 ≤ x ∧ x < 997) ∧ row.length ≤ 62 * i + 2 + j)
        ⟨row, rs, _, _, rfl, hs, M, hr1, by omega⟩ ?_ ?_
      · rintro j σ H2 hj ⟨row, rs, k, t, rfl, hs, M, hr1, hr2⟩
        have hj' : j < 60 := hj
        walk_at "go"
        refine g_if (fun h0 => ?_) (fun h0 => ?_)
        · walk_at "go"
          refine g_append M 0 rfl (szl (by rw [List.length_map]; omega)) (fun M1 => ?_)
          rw [app_mapW] at M1 ⊢
          walk_at "go"
          exact ⟨_, rs / 997, _, _, rfl, Same.mut hs hp, M1, dig_snoc hr1, by rw [List.length_append, List.length_singleton]; omega⟩
        · walk_at "go"
          exact ⟨row, rs, _, _, rfl, hs, M, hr1, by omega⟩
      · rintro σ H2 ⟨row, rs, k, t, rfl, hs, M, hr1, hr2⟩
        have h60 : (60 : Int).toNat = 60 := rfl
        walk_at "go"
        exact ⟨row, _, _, _, _, _, rfl, hs, M, hr1, by omega⟩
  · rintro σ H' ⟨row, m, k, c, r, t, rfl, hs, M, hr1, hr2⟩
    have hr3 : row.length ≤ 3906 := by omega
    walk_at "go"
    refine f_range (fun j σ H' => ∃ (row : List Int) (m : Int) (k c r t : Option V), σ = [some (.ref a), some (.int many), some (.ref p), some (.int m), k, c, r, t] ∧ Same H H' ∧ Has H' [(p, .lst (row.map V.int))] ∧ (∀ x ∈ row, 0 ≤ x ∧ x < 997) ∧ row.length ≤ 3906 + j)
      ⟨row, m, _, _, _, _, rfl, hs, M, hr1, by omega⟩ ?_ ?_
    · rintro j σ H2 hj ⟨row, m, k, c, r, t, rfl, hs, M, hr1, hr2⟩
      walk_at "go"
      refine g_append M 0 rfl (szl (by rw [List.length_map]; omega)) (fun M1 => ?_)
      rw [app_mapW] at M1 ⊢
      walk_at "go"
      exact ⟨_, _, _, _, _, _, rfl, Same.mut hs hp, M1, dig_snoc hr1, by rw [List.length_append, List.length_singleton]; omega⟩
    · rintro σ H2 ⟨row, m, k, c, r, t, rfl, hs, M, hr1, hr2⟩
      walk_at "go"
      refine g_slL (SqL.of (M.get 0 rfl)) (fun q hq => ?_)
      obtain ⟨mn, rfl⟩ : ∃ n : Nat, many = (n : Int) := ⟨many.toNat, by omega⟩
      rw [cutV_to, ← List.map_take]
      refine hQ _ q (row.take mn) (Same.new' hs hq) (hs.free hq) upd_same ⟨fun x hx => hr1 x (List.mem_of_mem_take hx), by rw [List.length_take]; omega⟩
def sp_law_next (K : PySem.W.Frag) : Sp := fun vs H Q _ => ∃ (d r : Addr) (n m : Int) (kvs : List (Key × V)) (row : List Int), vs = [.ref d, .int m] ∧ H d = some (.dK kvs) ∧ KvW kvs r n ∧ H r = some (.lst (row.map V.int)) ∧ RowW row ∧ 0 ≤ n ∧ 0 < m ∧
  ∀ H' v, Keep [d] H H' → H' d = some (.dK (putK kvs (.inr "at") (.int (n + 1)))) → 0 ≤ v → v < m → Q (.int v) H'
theorem sc_law_next : FnScope ["w", "many"] ["w", "many"] (defScope (topS 19)) := ⟨rfl, rfl, rfl, by decide +kernel, rfl, by decide +kernel, by decide +kernel⟩
theorem ok_law_next (T : Txt fa fn K mg (XOk cs xcs K w)) : Dn P w K mg base CX0 1 "_law_next" ["w", "many"] (sp_law_next K) := by
  refine mk_dn (d := dOf "_law_next" 19) T 11 11 rfl rfl rfl rfl rfl sc_law_next (by walk_at "len") (fun _ _ _ _ _ _ us hl => match us, hl with | [_, _], _ => rfl) (fun cdv A outer s H vs Q E hr h => ⟨_, (pss_cons (ps_daug (hu_of hr) (pv 0) pe_str pe_int in_add (fun _ _ _ => rfl))
      (pss_cons (ps_if (pt_cmpR o_gt (pe_ixU (K := K) rfl (hu_of hr) (pv 0) pe_str) (pe_callB (c_len (K := K) rfl) rfl (T.free 32 rfl) (by decide +kernel) (pa_cons (pe_ixU (K := K) rfl (hu_of hr) (pv 0) pe_str) pa_nil)) (nomark _)) (pss_one (ps_ret pe_int)) pss_nil)
      (pss_one (ps_ret (pe_op o_mod (pe_callTy c_int rfl (T.free 30 rfl) (by decide +kernel) (pa_cons (pe_ixU (K := K) rfl (hu_of hr) (pe_ixU (K := K) rfl (hu_of hr) (pv 0) pe_str) (pe_op op_sub (pe_ixU (K := K) rfl (hu_of hr) (pv 0) pe_str) pe_int)) pa_nil)) (pv 1)))))), ?_⟩)
  obtain ⟨d, r, n, m, kvs, row, rfl, hd, kv, hr, ok, hn, hm, hQ⟩ := h
  walk_at "go"
  refine g_daug (K := K) ?_
  walk_at "go"
  refine ⟨d, _, rfl, kv.getA hd, ?_⟩
  walk_at "go"
  refine ⟨n, 1, rfl, rfl, _, dp_k hd (szl (by have := kv.l; omega)), ?_⟩
  have ne : r ≠ d := ne_of hr hd (by intro z; cases z)
  have kv' := kv.put (m := n + 1)
  have hd1 : upd H d (.dK (putK kvs (.inr "at") (.int (n + 1)))) d = some (.dK (putK kvs (.inr "at") (.int (n + 1)))) := upd_same
  have hr1 : upd H d (.dK (putK kvs (.inr "at") (.int (n + 1)))) r = some (.lst (row.map V.int)) := by rw [upd_ne ne]; exact hr
  have hk : Keep [d] H (upd H d (.dK (putK kvs (.inr "at") (.int (n + 1))))) := Keep.set (List.mem_singleton.mpr rfl)
  walk_at "go"
  refine g_ixD (kv'.getA hd1) ?_
  walk_at "go"
  refine g_ixD (kv'.getD hd1) ?_
  walk_at "go"
  refine g_if (fun h0 => ?_) (fun h0 => ?_)
  · walk_at "go"
    exact hQ _ _ hk hd1 (by decide) hm
  · walk_at "go"
    refine g_ixD (kv'.getD hd1) ?_
    walk_at "go"
    refine g_ixD (kv'.getA hd1) ?_
    walk_at "go"
    obtain ⟨z, hz⟩ : ∃ z, row[n.toNat]? = some z := ⟨_, List.getElem?_eq_getElem (by omega)⟩
    refine g_ixL (SqL.of hr1) (n := n.toNat) (by omega) (by rw [List.getElem?_map, hz]; rfl) ?_
    walk_at "go"
    exact hQ _ _ hk hd1 (Int.emod_nonneg _ (by omega)) (Int.emod_lt_of_pos _ hm)
/-- the draws dict stands at d, beside the objects L -/
structure DrL (H : Hp) (d : Addr) (L : List (Addr × HO)) : Prop where
  ex : ∃ (r : Addr) (n : Int) (kvs : List (Key × V)) (row : List Int), Has H ((d, .dK kvs) :: (r, .lst (row.map V.int)) :: L) ∧ KvW kvs r n ∧ RowW row ∧ 0 ≤ n
section
variable {H H' : Hp} {d p a : Addr} {L L' : List (Addr × HO)} {o o' : HO} {Q : VK} {E : XK} {m : Int} {v : V} {e : PyData} {xs : List V} {ds : List PyData} {σ : L2.St} {j : Nat}
theorem DrL.has (D : DrL H d L) : Has H L := by
  obtain ⟨r, n, sd, row, M, _⟩ := D.ex
  exact M.sub ((List.sublist_cons_self _ _).trans (List.sublist_cons_self _ _))
theorem DrL.get (D : DrL H d L) (i : Nat) (h : L[i]? = some (a, o)) : H a = some o := D.has.get i h
theorem DrL.new (D : DrL H d L) (hp : H p = none) : DrL (upd H p o) d (L ++ [(p, o)]) := by
  obtain ⟨r, n, sd, row, M, ok, hn⟩ := D.ex
  exact ⟨r, n, sd, row, M.new hp, ok, hn⟩
theorem DrL.same (D : DrL H d L) (k : Same H H') : DrL H' d L := by
  obtain ⟨r, n, sd, row, M, ok, hn⟩ := D.ex
  exact ⟨r, n, sd, row, M.keep k, ok, hn⟩
theorem DrL.sub (D : DrL H d L) (h : L'.Sublist L) : DrL H d L' := by
  obtain ⟨r, n, sd, row, M, ok, hn⟩ := D.ex
  exact ⟨r, n, sd, row, M.sub ((h.cons₂ _).cons₂ _), ok, hn⟩
theorem DrL.set (D : DrL H d L) (i : Nat) (h : L[i]? = some (a, o)) : DrL (upd H a o') d (L.set i (a, o')) := by
  obtain ⟨r, n, sd, row, M, ok, hn⟩ := D.ex
  exact ⟨r, n, sd, row, M.set (i + 2) h, ok, hn⟩
theorem DrL.noTup (D : DrL H d L) : NoTup H [d] := by
  obtain ⟨r, n, sd, row, M, ok, hn⟩ := D.ex
  exact NoTup.one (M.get 0 rfl) (fun xs e => nomatch e)
theorem DrL.im (D : DrL H d L) (k : Keep [d] H H') (h : Im H v e) : Im H' v e := h.keep k D.noTup
theorem DrL.ims (D : DrL H d L) (k : Keep [d] H H') (h : Ims H xs ds) : Ims H' xs ds := h.keep k D.noTup
theorem DrL.ne (D : DrL H d L) (hp : H p = none) : p ≠ d := by
  obtain ⟨r, n, sd, row, M, ok, hn⟩ := D.ex
  rintro rfl
  have := M.get 0 rfl
  rw [hp] at this
  cases this
theorem DrL.at_ (D : DrL H d L) (k : Keep [d] H H') (h : H a = some o) (n : ∀ kvs, o ≠ .dK kvs) : H' a = some o := by
  obtain ⟨r, q, sd, row, M, ok, hn⟩ := D.ex
  refine k a o h fun z => ?_
  rw [List.mem_singleton.mp z, M.get 0 rfl] at h
  exact n _ (Option.some.inj h).symm
theorem use_nx (D : DrL H d L) (hm : 0 < m) (k : ∀ H' v, Keep [d] H H' → DrL H' d L → 0 ≤ v → v < m → Q (.int v) H') : sp_law_next K ([.ref d, .int m] ++ []) H Q E := by
  obtain ⟨r, n, kvs, row, M, kv, ok, hn⟩ := D.ex
  refine ⟨d, r, n, m, kvs, row, rfl, M.get 0 rfl, kv, M.get 1 rfl, ok, hn, hm, fun H' v kp h1 h2 h3 => ?_⟩
  exact k H' v kp ⟨r, n + 1, _, row, M.call1 kp 0 rfl h1, kv.put, ok, by omega⟩ h2 h3
/-- one of a written list, by a draw -/
theorem use_pk (D : DrL H d L) (hj : σ[j]? = some (some (.ref d))) (hm : (xs.length : Int) = m) (h0 : 0 < xs.length) (hs : xs.length ≤ 1000) (k : ∀ H' v, Keep [d] H H' → DrL H' d L → v ∈ xs → Q v H') :
    rLstN xs H fun x H1 => tCall (sp_law_next K) [] E (tCons (tVar j) (tCons (tC (.int m)) tNil)) σ H1 fun y H2 => rIxU K x y H2 Q := by
  refine ⟨szle (by omega), fun p hp => ?_⟩
  refine g_call (g_consA (g_var hj (g_consA (g_c (g_nilA ?_)))))
  have D1 := D.same (Same.new (o := .lst xs) hp)
  refine use_nx D1 (by omega) fun H2 v k2 D2 h1 h2 => ?_
  have hv : v.toNat < xs.length := by omega
  have hx : xs[v.toNat]? = some xs[v.toNat] := List.getElem?_eq_getElem hv
  exact g_ixL (SqL.of (D1.at_ k2 upd_same (fun _ e => nomatch e))) (n := v.toNat) (by omega) hx (k H2 _ ((Keep.new hp).trans k2) D2 (List.getElem_mem hv))
theorem gD_append (D : DrL H d L) (n : Nat) (h : L[n]? = some (a, .lst xs)) (hl : xs.length < 100000) (k : DrL (upd H a (.lst (xs ++ [v]))) d (L.set n (a, .lst (xs ++ [v]))) → Q .non (upd H a (.lst (xs ++ [v])))) : rAppend (.ref a) [v] H Q :=
  ⟨a, xs, v, rfl, rfl, D.get n h, szl (by omega), k (D.set n h)⟩
/-- the dict of draws, made -/
theorem use_made {r : Addr} {row : List Int} (hr : H r = some (.lst (row.map V.int))) (ok : RowW row) (k : ∀ p H', Same H H' → DrL H' p [] → Q (.ref p) H') : ∀ p, H p = none → upd H p (.dK []) p = some (.dK []) ∧ ∃ kvs : List (Key × V), [(V.str "draws", V.ref r), (V.str "at", V.int 0)] = kvs.map (fun kv => (kV kv.1, kv.2)) ∧ kvs.length ≤ 15 ∧ Q (.ref p) (upd (upd H p (.dK [])) p (.dK (mergeK [] kvs))) := by
  intro p hp
  refine ⟨upd_same, [(.inr "draws", .ref r), (.inr "at", .int 0)], rfl, (by show 2 ≤ 15; decide), ?_⟩
  rw [upd_upd]
  refine k p _ (Same.new hp) ⟨r, 0, _, row, ?_, KvW.made, ok, Int.le_refl _⟩
  have M : Has (upd H p (.dK (mergeK [] [(.inr "draws", .ref r), (.inr "at", .int 0)]))) ([(r, .lst (row.map V.int))] ++ [(p, .dK (mergeK [] [(.inr "draws", .ref r), (.inr "at", .int 0)]))]) := (Has.one hr).new hp
  exact M.perm (List.perm_append_comm (l₁ := [_]) (l₂ := [_]))
end

/-! ### comprehensions that make data -/
section
variable {K : PySem.W.Frag} {σ : L2.St} {H : Hp} {g : TG} {te : TE} {vs : List Nat} {Q : VK} {a d : Addr} {xs : List V} {ds : List PyData} {n k : Nat} {lo : Int}
theorem ims_snoc {H H2 : Hp} {us : List V} {es : List PyData} {v : V} {e : PyData} {D : Addr} {o : HO} (h : Ims H us es) (hv : Im H v e) (hD : H D = some (.lst us)) : Ims (upd H D o) (us ++ [v]) (es ++ [e]) :=
  (h.append (Ims.one hv)).keep (Keep.set (List.mem_singleton.mpr rfl)) (NoTup.one hD (fun _ e => nomatch e))
/-- over a tuple of data -/
theorem l_map {f : PyData → PyData} (ha : H a = some (.tup xs)) (hs : Ims H xs ds) (hl : ds.length ≤ 1000)
    (step : ∀ (i : Nat) (e : PyData) (y : V) (H' : Hp) (R : VK), ds[i]? = some e → Same H H' → Im H' y e → (∀ H2 v, Same H' H2 → Im H2 v (f e) → R v H2) → g y (wipe σ vs) H' fun σ2 H2 => wipe σ2 vs = wipe σ vs ∧ te σ2 H2 R)
    (hm : ∀ (y : V) (σ1 : L2.St) (H1 : Hp) (R R' : L2.St → Hp → Prop), (∀ σ2 H2, R σ2 H2 → R' σ2 H2) → g y σ1 H1 R → g y σ1 H1 R')
    (q : ∀ D H' us, Same H H' → H' D = some (.lst us) → Ims H' us (ds.map f) → Q (.ref D) H') : LcW g tYes te vs σ Q (Itt K a) H := by
  have hlen := hs.length
  refine l_tup (xs := xs) (fun D i H' => ∃ us, H' D = some (.lst us) ∧ Ims H' us ((ds.take i).map f) ∧ Same H H') (fun D hD => ⟨[], upd_same, .nil, Same.new hD⟩) ?_ ?_ ?_
  · rintro D hD i H' hi ⟨us, hD', im, sm⟩
    exact SqT.of (sm _ _ ha)
  · rintro D hD i y H' hi ⟨us, hD', im, sm⟩
    obtain ⟨hlt, _⟩ := List.getElem?_eq_some_iff.mp hi
    have hd : ds[i]? = some (ds[i]'(by omega)) := List.getElem?_eq_getElem _
    generalize ds[i]'(by omega) = dv at hd
    obtain ⟨y', hy', hiy⟩ := hs.get hd
    rw [hi] at hy'
    cases hy'
    have hul : us.length = (ds.take i).length := by rw [im.length, List.length_map]
    refine hm _ _ _ _ _ ?_ (step i dv y H' (fun v H3 => ∃ acc, H3 D = some (.lst acc) ∧ acc.length < sizeLine ∧ ∃ us, upd H3 D (.lst (acc ++ [v])) D = some (.lst us) ∧ Ims (upd H3 D (.lst (acc ++ [v]))) us ((ds.take (i + 1)).map f) ∧ Same H (upd H3 D (.lst (acc ++ [v])))) hd sm (hiy.same sm) (fun H2 v sm2 imv => ?_))
    · rintro σ2 H2 ⟨e1, e2⟩
      exact ⟨e1, g_yes (g_ifT e2)⟩
    · have hD2 := sm2 _ _ hD'
      refine ⟨us, hD2, szl (by rw [hul, List.length_take]; omega), _, upd_same, ?_, Same.mut (sm.trans sm2) hD⟩
      rw [map_take_succ hd]
      exact ims_snoc (H2 := H2) (im.same sm2) imv hD2
  · rintro D hD H' ⟨us, hD', im, sm⟩
    refine q D H' us sm hD' ?_
    rw [hlen, List.take_length] at im
    exact im
/-- over a range -/
theorem l_mapR {f : Nat → PyData} (hn : n ≤ 10000) (hwp : ∀ x : V, wipe ((wipe σ vs).set k (some x)) vs = wipe σ vs)
    (step : ∀ (i : Nat) (H' : Hp) (R : VK), i < n → Same H H' → (∀ H2 v, Same H' H2 → Im H2 v (f i) → R v H2) → te ((wipe σ vs).set k (some (.int (lo + i)))) H' R)
    (q : ∀ D H' us, Same H H' → H' D = some (.lst us) → Ims H' us ((List.range n).map f) → Q (.ref D) H') : LcW (gName k) tYes te vs σ Q (Itr lo n) H := by
  refine l_range (fun D i H' => ∃ us, H' D = some (.lst us) ∧ Ims H' us ((List.range i).map f) ∧ Same H H') (fun D hD => ⟨[], upd_same, .nil, Same.new hD⟩) ?_ ?_
  · rintro D hD i H' hi ⟨us, hD', im, sm⟩
    have hul : us.length = i := by rw [im.length, List.length_map, List.length_range]
    refine g_name (g_wipe (hwp _) (g_yes (g_ifT ?_)))
    refine step i H' _ hi sm (fun H2 v sm2 imv => ?_)
    have hD2 := sm2 _ _ hD'
    refine ⟨us, hD2, szl (by omega), _, upd_same, ?_, Same.mut (sm.trans sm2) hD⟩
    rw [List.range_succ, List.map_append]
    exact ims_snoc (H2 := H2) (im.same sm2) imv hD2
  · rintro D hD H' ⟨us, hD', im, sm⟩
    exact q D H' us sm hD' im
/-- over a range, with draws -/
theorem l_drawR {P : Nat → PyData → Prop} {L : List (Addr × HO)} (D0 : DrL H d L) (hn : n ≤ 10000) (hwp : ∀ x : V, wipe ((wipe σ vs).set k (some x)) vs = wipe σ vs)
    (step : ∀ (i : Nat) (H' : Hp) (R : VK) (L' : List (Addr × HO)), i < n → Keep [d] H H' → DrL H' d L' → (∀ H2 v e, Keep [d] H' H2 → DrL H2 d L' → Im H2 v e → P i e → R v H2) → te ((wipe σ vs).set k (some (.int (lo + i)))) H' R)
    (q : ∀ D H' us es, H D = none → Keep [d] H H' → DrL H' d (L ++ [(D, .lst us)]) → Ims H' us es → es.length = n → (∀ i e, es[i]? = some e → P i e) → Q (.ref D) H') : LcW (gName k) tYes te vs σ Q (Itr lo n) H := by
  refine l_range (fun D i H' => ∃ us es, DrL H' d (L ++ [(D, .lst us)]) ∧ Ims H' us es ∧ es.length = i ∧ (∀ j e, es[j]? = some e → P j e) ∧ Keep [d] H H') (fun D hD => ⟨[], [], D0.new hD, .nil, rfl, fun j e h => by simp at h, Keep.new hD⟩) ?_ ?_
  · rintro D hD i H' hi ⟨us, es, D1, im, hl, hp, kp⟩
    have hul : us.length = i := by rw [im.length, hl]
    refine g_name (g_wipe (hwp _) (g_yes (g_ifT ?_)))
    refine step i H' _ _ hi kp D1 (fun H2 v e k2 D2 imv pe => ?_)
    have hD2 : H2 D = some (.lst us) := D2.get L.length (by simp)
    have D3 := D2.set (o' := .lst (us ++ [v])) L.length (by simp : (L ++ [(D, HO.lst us)])[L.length]? = some (D, HO.lst us))
    refine ⟨us, hD2, szl (by omega), us ++ [v], es ++ [e], ?_, ims_snoc (H2 := H2) (D1.ims k2 im) imv hD2, by rw [List.length_append, hl]; rfl, fun j e' hj => ?_, (kp.trans k2).mut hD⟩
    · rw [show (L ++ [(D, HO.lst us)]).set L.length (D, HO.lst (us ++ [v])) = L ++ [(D, HO.lst (us ++ [v]))] by simp] at D3
      exact D3
    · by_cases hj2 : j < es.length
      · rw [List.getElem?_append_left hj2] at hj
        exact hp j e' hj
      · rw [List.getElem?_append_right (by omega)] at hj
        cases hk : j - es.length with
        | zero =>
          rw [hk] at hj
          simp only [List.getElem?_cons_zero, Option.some.injEq] at hj
          subst hj
          have : j = i := by omega
          rw [this]
          exact pe
        | succ m =>
          rw [hk] at hj
          simp at hj
  · rintro D hD H' ⟨us, es, D1, im, hl, hp, kp⟩
    exact q D H' us es hD kp D1 im hl hp
/-- over a tuple of data, with draws -/
theorem l_drawT {P : Nat → PyData → Prop} {L : List (Addr × HO)} (D0 : DrL H d L) (ha : H a = some (.tup xs)) (hs : Ims H xs ds) (hl : ds.length ≤ 1000)
    (step : ∀ (i : Nat) (e0 : PyData) (y : V) (H' : Hp) (R : VK) (L' : List (Addr × HO)), ds[i]? = some e0 → Keep [d] H H' → Im H' y e0 → DrL H' d L' → (∀ H2 v e, Keep [d] H' H2 → DrL H2 d L' → Im H2 v e → P i e → R v H2) → g y (wipe σ vs) H' fun σ2 H2 => wipe σ2 vs = wipe σ vs ∧ te σ2 H2 R)
    (hm : ∀ (y : V) (σ1 : L2.St) (H1 : Hp) (R R' : L2.St → Hp → Prop), (∀ σ2 H2, R σ2 H2 → R' σ2 H2) → g y σ1 H1 R → g y σ1 H1 R')
    (q : ∀ D H' us es, H D = none → Keep [d] H H' → DrL H' d (L ++ [(D, .lst us)]) → Ims H' us es → es.length = ds.length → (∀ i e, es[i]? = some e → P i e) → Q (.ref D) H') : LcW g tYes te vs σ Q (Itt K a) H := by
  have hlen := hs.length
  refine l_tup (xs := xs) (fun D i H' => ∃ us es, DrL H' d (L ++ [(D, .lst us)]) ∧ Ims H' us es ∧ es.length = i ∧ (∀ j e, es[j]? = some e → P j e) ∧ Keep [d] H H') (fun D hD => ⟨[], [], D0.new hD, .nil, rfl, fun j e h => by simp at h, Keep.new hD⟩) ?_ ?_ ?_
  · rintro D hD i H' hi ⟨us, es, D1, im, hl2, hp, kp⟩
    exact SqT.of (D0.at_ kp ha (fun _ e => nomatch e))
  · rintro D hD i y H' hi ⟨us, es, D1, im, hl2, hp, kp⟩
    obtain ⟨hlt, _⟩ := List.getElem?_eq_some_iff.mp hi
    have hd : ds[i]? = some (ds[i]'(by omega)) := List.getElem?_eq_getElem _
    generalize ds[i]'(by omega) = dv at hd
    obtain ⟨y', hy', hiy⟩ := hs.get hd
    rw [hi] at hy'
    cases hy'
    have hul : us.length = i := by rw [im.length, hl2]
    refine hm _ _ _ _ _ ?_ (step i dv y H' (fun v H3 => ∃ acc, H3 D = some (.lst acc) ∧ acc.length < sizeLine ∧ ∃ us es, DrL (upd H3 D (.lst (acc ++ [v]))) d (L ++ [(D, .lst us)]) ∧ Ims (upd H3 D (.lst (acc ++ [v]))) us es ∧ es.length = i + 1 ∧ (∀ j e, es[j]? = some e → P j e) ∧ Keep [d] H (upd H3 D (.lst (acc ++ [v])))) _ hd kp (D0.im kp hiy) D1 (fun H2 v e k2 D2 imv pe => ?_))
    · rintro σ2 H2 ⟨e1, e2⟩
      exact ⟨e1, g_yes (g_ifT e2)⟩
    · have hD2 : H2 D = some (.lst us) := D2.get L.length (by simp)
      have D3 := D2.set (o' := .lst (us ++ [v])) L.length (by simp : (L ++ [(D, HO.lst us)])[L.length]? = some (D, HO.lst us))
      refine ⟨us, hD2, szl (by omega), us ++ [v], es ++ [e], ?_, ims_snoc (H2 := H2) (D1.ims k2 im) imv hD2, by rw [List.length_append, hl2]; rfl, fun j e' hj => ?_, (kp.trans k2).mut hD⟩
      · rw [show (L ++ [(D, HO.lst us)]).set L.length (D, HO.lst (us ++ [v])) = L ++ [(D, HO.lst (us ++ [v]))] by simp] at D3
        exact D3
      · by_cases hj2 : j < es.length
        · rw [List.getElem?_append_left hj2] at hj
          exact hp j e' hj
        · rw [List.getElem?_append_right (by omega)] at hj
          cases hk : j - es.length with
          | zero =>
            rw [hk] at hj
            simp only [List.getElem?_cons_zero, Option.some.injEq] at hj
            subst hj
            have : j = i := by omega
            rw [this]
            exact pe
          | succ m =>
            rw [hk] at hj
            simp at hj
  · rintro D hD H' ⟨us, es, D1, im, hl2, hp, kp⟩
    exact q D H' us es hD kp D1 im (by omega) hp
end

/-! ### over a list of the heap, with draws -/
section
variable {K : PySem.W.Frag} {σ : L2.St} {H : Hp} {g : TG} {te : TE} {vs : List Nat} {Q : VK} {a d : Addr} {xs : List V} {ds : List PyData} {n k : Nat} {lo : Int}
theorem l_drawL {P : Nat → PyData → Prop} {L : List (Addr × HO)} (D0 : DrL H d L) (b : Addr) (m : Nat) (ha : L[m]? = some (b, .lst xs)) (hl : xs.length ≤ 1000) (hwp : ∀ x : V, wipe ((wipe σ vs).set k (some x)) vs = wipe σ vs)
    (step : ∀ (i : Nat) (y : V) (H' : Hp) (R : VK) (L' : List (Addr × HO)), xs[i]? = some y → Keep [d] H H' → DrL H' d L' → (∀ H2 v e, Keep [d] H' H2 → DrL H2 d L' → Im H2 v e → P i e → R v H2) → te ((wipe σ vs).set k (some y)) H' R)
    (q : ∀ D H' us es, H D = none → Keep [d] H H' → DrL H' d (L ++ [(D, .lst us)]) → Ims H' us es → es.length = xs.length → (∀ i e, es[i]? = some e → P i e) → Q (.ref D) H') : LcW (gName k) tYes te vs σ Q (Itl K b) H := by
  have hmL := (List.getElem?_eq_some_iff.mp ha).1
  refine l_list (xs := xs) (fun D i H' => ∃ us es, DrL H' d (L ++ [(D, .lst us)]) ∧ Ims H' us es ∧ es.length = i ∧ (∀ j e, es[j]? = some e → P j e) ∧ Keep [d] H H') (fun D hD => ⟨[], [], D0.new hD, .nil, rfl, fun j e h => by simp at h, Keep.new hD⟩) ?_ ?_ ?_
  · rintro D hD i H' hi ⟨us, es, D1, im, hl2, hp, kp⟩
    exact SqL.of (D1.get m (by rw [List.getElem?_append_left hmL]; exact ha))
  · rintro D hD i y H' hi ⟨us, es, D1, im, hl2, hp, kp⟩
    obtain ⟨hlt, _⟩ := List.getElem?_eq_some_iff.mp hi
    have hul : us.length = i := by rw [im.length, hl2]
    refine g_name (g_wipe (hwp _) (g_yes (g_ifT ?_)))
    refine step i y H' _ _ hi kp D1 (fun H2 v e k2 D2 imv pe => ?_)
    have hD2 : H2 D = some (.lst us) := D2.get L.length (by simp)
    have D3 := D2.set (o' := .lst (us ++ [v])) L.length (by simp : (L ++ [(D, HO.lst us)])[L.length]? = some (D, HO.lst us))
    refine ⟨us, hD2, szl (by omega), us ++ [v], es ++ [e], ?_, ims_snoc (H2 := H2) (D1.ims k2 im) imv hD2, by rw [List.length_append, hl2]; rfl, fun j e' hj => ?_, (kp.trans k2).mut hD⟩
    · rw [show (L ++ [(D, HO.lst us)]).set L.length (D, HO.lst (us ++ [v])) = L ++ [(D, HO.lst (us ++ [v]))] by simp] at D3
      exact D3
    · by_cases hj2 : j < es.length
      · rw [List.getElem?_append_left hj2] at hj
        exact hp j e' hj
      · rw [List.getElem?_append_right (by omega)] at hj
        cases hk : j - es.length with
        | zero =>
          rw [hk] at hj
          simp only [List.getElem?_cons_zero, Option.some.injEq] at hj
          subst hj
          have : j = i := by omega
          rw [this]
          exact pe
        | succ m =>
          rw [hk] at hj
          simp at hj
  · rintro D hD H' ⟨us, es, D1, im, hl2, hp, kp⟩
    exact q D H' us es hD kp D1 im hl2 hp
end

/-! ### sorted of a tuple of ints, of a list of ints; list(range()) -/
section
open PyProof.Rows
variable {prog : Program} {w0 : World} {A0 : Around} {E0' : Value → Shared → Prop} {st : Shared}
theorem gather_tup {q : Addr} {us : List Value} {R : List Value → Shared → Prop} (ht : st.heap.IsTuple q us.toArray)
    (hR : R us { st with heap := (st.heap.push (seqObj "list" #[] 0)).update st.heap.objs.size (Obj.mapSeq (· ++ us.toArray)) }) (hz : us.length ≤ sizeLine) :
    wpAny (model prog w0) A0 (collect (.ref q)) R E0' st := by
  obtain ⟨ob, hob, hcl, k, hdt⟩ := id ht
  unfold collect
  refine wpAny_bind (wpAny_runValue (codeAny_builtin entry_proto_collect' (R := _) ?_))
  show wpAny _ _ (do again (.builtin "list.__iadd__" ⟨[← newList [], .ref q], []⟩)) _ _ st
  refine wpAny_bind (wpAny_newList (wpAny_pure ⟨Code.quiet_builtin _ (by decide +kernel), codeAny_builtin entry_list_iadd' (R := _) ?_⟩))
  show wpAny _ _ (Builtin.List.listExtendWith (.ref st.heap.objs.size) (.ref q) (.ref st.heap.objs.size)) _ _ { st with heap := st.heap.push (seqObj "list" #[] 0) }
  unfold Builtin.List.listExtendWith
  have hob' : (st.heap.push (seqObj "list" #[] 0)).get? q = some ob := Heap.get?_push_of_some _ hob
  refine wpAny_bind (wpAny_typeOf (T := "tuple") ⟨ob, hob', hcl⟩ ?_)
  have h1 : (Value.type "tuple" == Value.type "tuple") = true := by rfl
  rw [if_pos (by rw [h1]; simp)]
  refine wpAny_bind (listItems_at hob' hdt ?_)
  refine wpAny_bind (listItems_at (xs := #[]) (n := 0) (Heap.get?_push_size _ (rfl : _ = _)) rfl ?_)
  rw [if_neg (by simp)]
  refine wpAny_bind (listUpdate_at (xs := #[]) (n := 0) (Heap.get?_push_size _ rfl) rfl ?_ (Nat.zero_le _) (by show (#[] ++ us.toArray).size ≤ sizeLine + 1; simp only [Array.size_append, List.size_toArray, List.length_nil]; omega))
  refine wpAny_pure ?_
  show wpAny (model prog w0) A0 (do
      let o ← load st.heap.objs.size
      match o.data with
      | .seq xs _ => pure xs.toList
      | _ => unsupported "internal:collect") R E0' { st with heap := (st.heap.push (seqObj "list" #[] 0)).update st.heap.objs.size (Obj.mapSeq (· ++ us.toArray)) }
  refine wpAny_bind (wpAny_load (get?_update_seq (Heap.get?_push_size _ (rfl : _ = _)) _) ?_)
  show wpAny _ _ (pure ((#[] : Array Value) ++ us.toArray).toList) R E0' _
  rw [show ((#[] : Array Value) ++ us.toArray).toList = us by simp]
  exact wpAny_pure hR
theorem sorted_tup {q : Addr} {us : List Value} {ms : List Int} {R : Value → Shared → Prop} (ht : st.heap.IsTuple q us.toArray) (hi : IntsAre us ms) (hz : us.length < 64)
    (hR : ∀ (out : Array Value) (ms' : List Int), IntsAre out.toList ms' → ms'.Perm ms → ms'.Pairwise (· ≤ ·) → R (.ref (st.heap.objs.size + 1)) { st with heap := sortedAll st.heap us out }) :
    wpAny (model prog w0) A0 (call (.builtin "sorted") [.ref q]) R E0' st := by
  have line : us.length ≤ sizeLine := by rw [sizeLine_eq]; omega
  refine Calls.call_function_entry kind_sorted plain_sorted entry_sorted (args_sorted1 (.ref q)) ?_
  unfold Builtin.«sorted»
  refine wpAny_bind (m := checkCount "sorted" 1 1 _) (wpAny_pure (wpAny_bind (gather_tup ht ?_ line)))
  have e1 : ((st.heap.push (seqObj "list" #[] 0)).update st.heap.objs.size (Obj.mapSeq (· ++ us.toArray))).objs.size = st.heap.objs.size + 1 := by rw [Heap.size_update, size_push']
  have e2 : (((st.heap.push (seqObj "list" #[] 0)).update st.heap.objs.size (Obj.mapSeq (· ++ us.toArray))).push (seqObj "list" us.toArray 0)).get? (st.heap.objs.size + 1) = some (seqObj "list" us.toArray 0) := by rw [← e1]; exact Heap.get?_push_size _ rfl
  refine wpAny_bind (wpAny_newList ?_ line)
  show wpAny _ _ _ _ _ { st with heap := ((st.heap.push (seqObj "list" #[] 0)).update st.heap.objs.size (Obj.mapSeq (· ++ us.toArray))).push (seqObj "list" us.toArray 0) }
  rw [e1]
  refine wpAny_bind (wpAny_holding (wpAny_call_entry slot_list_sort ⟨_, e2, rfl⟩ entry_list_sort (list_sort_tree e2 hi hz fun out ms' a1 a2 a3 => ⟨_, rfl, ?_⟩) (args_list_sort _)))
  exact wpAny_pure ⟨_, rfl, hR out ms' a1 a2 a3⟩
end
def rSortU (K : PySem.W.Frag) : List V → Hp → VK → Prop := fun vs H Q => ∃ (a : Addr) (ns : List Int), vs = [V.ref a] ∧ (SqL K H a (ns.map V.int) ∨ SqT K H a (ns.map V.int)) ∧ ns.length < 64 ∧
  ∀ (ns' : List Int) (p : Addr), ns'.Perm ns → ns'.Pairwise (· ≤ ·) → H p = none → Q (.ref p) (upd H p (.lst (ns'.map V.int)))
theorem c_sortU {X : Cx} {K : PySem.W.Frag} (hK : X.K = K) : CallR X (.builtin "sorted") (rSortU K) := by
  subst hK
  intro pins s σ H vs us Q I r h
  obtain ⟨a, ns, rfl, hq, h64, q⟩ := h
  rcases hq with hq | hq
  · exact cr_sorted pins s σ H _ us Q I r ⟨a, ns, rfl, hq, h64, q⟩
  · obtain ⟨its, rv, ht, _⟩ := I.tuple hq
    rw [Vals.ref1 r]
    have hi := rv.ints
    refine sorted_tup (show s.heap.IsTuple a its.toArray from ht) hi (by rw [hi.length]; exact h64) fun out ns' h1 h2 h3 => ?_
    obtain ⟨ep, he'⟩ := PyProof.Rows.sortedAll_at s.heap its out
    have hlen : (ns'.map V.int).length ≤ sizeLine := by rw [List.length_map, h2.length_eq]; exact small64 h64
    exact ⟨.ref _, upd H (s.heap.objs.size + 1) (.lst (ns'.map V.int)), I.laid (t' := s.toks) (fun _ _ => PyProof.Rows.sortedAll_old) (Nat.le_succ _) (show ObjOk X.prog X.w _ _ _ (.lst (ns'.map V.int)) from ⟨hlen, out.toList, ep, vals_of_ints h1, he'⟩), rfl, q ns' _ h2 h3 (I.hok.fresh (Nat.le_succ _))⟩
/-- two sorted lists of the same ints are the same -/
theorem sorted_eq : ∀ {l m : List Int}, l.Perm m → l.Pairwise (· ≤ ·) → m.Pairwise (· ≤ ·) → l = m
  | [], m, p, _, _ => (List.nil_perm.mp p).symm
  | a :: l, [], p, _, _ => absurd p.length_eq (by simp)
  | a :: l, b :: m, p, h1, h2 => by
    obtain ⟨a1, l1⟩ := List.pairwise_cons.mp h1
    obtain ⟨b1, m1⟩ := List.pairwise_cons.mp h2
    have hab : a = b := by
      have ha : a ∈ b :: m := p.mem_iff.mp List.mem_cons_self
      have hb : b ∈ a :: l := p.mem_iff.mpr List.mem_cons_self
      rcases List.mem_cons.mp ha with z | z
      · exact z
      · rcases List.mem_cons.mp hb with y | y
        · exact y.symm
        · have := a1 b y
          have := b1 a z
          omega
    subst hab
    rw [sorted_eq (List.perm_cons a |>.mp p) l1 m1]

def rLstU (K : PySem.W.Frag) : List V → Hp → VK → Prop := fun xs H Q => ∃ p ys, xs = [.ref p] ∧ (SqL K H p ys ∨ SqT K H p ys) ∧ ∀ l, H l = none → Q (.ref l) (upd H l (.lst ys))
theorem c_list {X : Cx} {K : PySem.W.Frag} (hK : X.K = K) : CallR X (.type "list") (rLstU K) := by
  subst hK
  exact call_list_of
def rSumK (K : PySem.W.Frag) : List V → Hp → VK → Prop := rSum K
theorem c_sumK {X : Cx} {K : PySem.W.Frag} (hK : X.K = K) (hc : X.calm = true) : CallR X (.builtin "sum") (rSumK K) := by
  subst hK
  exact cr_sum hc
theorem g_sum {K : PySem.W.Frag} {H : Hp} {Q : VK} {a : Addr} {ns : List Int} (h : SqL K H a (ns.map V.int)) (q : Q (.int ns.sum) H) : rSumK K [.ref a] H Q := ⟨a, ns, rfl, h, q⟩

theorem all_snoc {α : Type} {p : α → Prop} {l : List α} {y : α} (h : ∀ x ∈ l, p x) (hy : p y) : ∀ x ∈ l ++ [y], p x := fun x hx => by
  rcases List.mem_append.mp hx with hx | hx
  · exact h x hx
  · rw [List.mem_singleton.mp hx]
    exact hy
theorem sub_last {L : List (Addr × HO)} {x : Addr × HO} : L.Sublist (L ++ [x]) := List.sublist_append_left L [x]
theorem get_last {L : List (Addr × HO)} {x : Addr × HO} : (L ++ [x])[L.length]? = some x := by simp
theorem set_last {L : List (Addr × HO)} {x y : Addr × HO} : (L ++ [x]).set L.length y = L ++ [y] := by simp

/-! ### words, signs, what a row does -/
inductive Sg
  | add | sub | mul | band | bor | bxor | shl | shr | eq | lt | le | div | mod
def Sg.s : Sg → Str
  | .add => "+" | .sub => "-" | .mul => "*" | .band => "&" | .bor => "|" | .bxor => "^" | .shl => "<<" | .shr => ">>" | .eq => "==" | .lt => "<" | .le => "<=" | .div => "div" | .mod => "mod"
def appD : Sg → Int → Int → Int
  | .add, a, b => (a + b) % 4294967296
  | .sub, a, b => (a - b) % 4294967296
  | .mul, a, b => (a * b) % 4294967296
  | .band, a, b => Builtin.bitAnd a b
  | .bor, a, b => Builtin.bitOr a b
  | .bxor, a, b => Builtin.bitXor a b
  | .shl, a, b => a * (1 * 2 ^ (b % 32).toNat) % 4294967296
  | .shr, a, b => a / (1 * 2 ^ (b % 32).toNat)
  | .eq, a, b => if decide (a = b) then 1 else 0
  | .lt, a, b => if decide (a < b) then 1 else 0
  | .le, a, b => if decide (a ≤ b) then 1 else 0
  | .div, a, b => if b = 0 then 0 else a / b
  | .mod, a, b => if b = 0 then a else a % b
structure W32 (x : Int) : Prop where
  l : 0 ≤ x
  u : x < 4294967296
theorem nat_lt {x : Int} (h : W32 x) : x.toNat < 2 ^ 32 := by
  have h1 := h.l
  have h2 := h.u
  show x.toNat < 4294967296
  omega
theorem pow32 {b : Int} : 0 < 1 * (2 : Int) ^ (b % 32).toNat ∧ 1 * (2 : Int) ^ (b % 32).toNat < 18446744073709551616 := by
  have h1 : (b % 32).toNat < 32 := by omega
  have h2 : ∀ n : Nat, n < 32 → 0 < 1 * (2 : Int) ^ n ∧ 1 * (2 : Int) ^ n < 18446744073709551616 := by decide +kernel
  exact h2 _ h1
theorem b01 {p : Bool} : W32 (if p then 1 else 0) := by
  cases p
  · exact ⟨by decide, by decide⟩
  · exact ⟨by decide, by decide⟩
theorem appD_w {s : Sg} {a b : Int} (ha : W32 a) (hb : W32 b) : W32 (appD s a b) := by
  have a1 := ha.l
  have a2 := ha.u
  have b1 := hb.l
  have b2 := hb.u
  cases s with
  | add => exact ⟨Int.emod_nonneg _ (by decide), Int.emod_lt_of_pos _ (by decide)⟩
  | sub => exact ⟨Int.emod_nonneg _ (by decide), Int.emod_lt_of_pos _ (by decide)⟩
  | mul => exact ⟨Int.emod_nonneg _ (by decide), Int.emod_lt_of_pos _ (by decide)⟩
  | shl => exact ⟨Int.emod_nonneg _ (by decide), Int.emod_lt_of_pos _ (by decide)⟩
  | band =>
    show W32 (Builtin.bitAnd a b)
    rw [bitAnd_pp a1 b1]
    have := Nat.and_lt_two_pow a.toNat (nat_lt hb)
    refine ⟨by omega, ?_⟩
    have h : (2 : Nat) ^ 32 = 4294967296 := by decide
    omega
  | bor =>
    show W32 (Builtin.bitOr a b)
    rw [Bits.bitOr_pp a1 b1]
    have := Nat.or_lt_two_pow (nat_lt ha) (nat_lt hb)
    refine ⟨by omega, ?_⟩
    have h : (2 : Nat) ^ 32 = 4294967296 := by decide
    omega
  | bxor =>
    show W32 (Builtin.bitXor a b)
    rw [Bits.bitXor_pp a1 b1]
    have := Nat.xor_lt_two_pow (nat_lt ha) (nat_lt hb)
    refine ⟨by omega, ?_⟩
    have h : (2 : Nat) ^ 32 = 4294967296 := by decide
    omega
  | shr =>
    obtain ⟨p1, p2⟩ := pow32 (b := b)
    show W32 (a / (1 * 2 ^ (b % 32).toNat))
    generalize 1 * (2 : Int) ^ (b % 32).toNat = S at p1 p2
    exact ⟨Int.ediv_nonneg a1 (by omega), Int.lt_of_le_of_lt (Int.ediv_le_self _ a1) a2⟩
  | eq => exact b01
  | lt => exact b01
  | le => exact b01
  | div =>
    show W32 (if b = 0 then 0 else a / b)
    split
    · exact ⟨by decide, by decide⟩
    · exact ⟨Int.ediv_nonneg a1 b1, Int.lt_of_le_of_lt (Int.ediv_le_self _ a1) a2⟩
  | mod =>
    show W32 (if b = 0 then a else a % b)
    split
    · exact ha
    · have h1 := Int.emod_nonneg a (b := b) (by omega)
      have h2 := Int.emod_lt_of_pos a (b := b) (by omega)
      exact ⟨h1, by omega⟩
abbrev nI (n : Nat) : PyData := .int (n : Int)
/-- one of the thirteen signs -/
theorem sg_pick {v : V} (hv : v ∈ [V.str "+", V.str "-", V.str "*", V.str "&", V.str "|", V.str "^", V.str "<<", V.str ">>", V.str "==", V.str "<", V.str "<=", V.str "div", V.str "mod"]) : ∃ s : Sg, v = .str s.s := by
  simp only [List.mem_cons, List.not_mem_nil, or_false] at hv
  rcases hv with rfl | rfl | rfl | rfl | rfl | rfl | rfl | rfl | rfl | rfl | rfl | rfl | rfl
  · exact ⟨.add, rfl⟩
  · exact ⟨.sub, rfl⟩
  · exact ⟨.mul, rfl⟩
  · exact ⟨.band, rfl⟩
  · exact ⟨.bor, rfl⟩
  · exact ⟨.bxor, rfl⟩
  · exact ⟨.shl, rfl⟩
  · exact ⟨.shr, rfl⟩
  · exact ⟨.eq, rfl⟩
  · exact ⟨.lt, rfl⟩
  · exact ⟨.le, rfl⟩
  · exact ⟨.div, rfl⟩
  · exact ⟨.mod, rfl⟩

/-! ### rows and regions of machine code (for laws without a machine) -/
inductive Row
  | const (d : Nat) (n : Int)
  | op (s : Sg) (d a b : Nat)
  | select (d c a b : Nat)
  | load (d a : Nat) (base mask : Int)
  | store (a : Nat) (base mask : Int) (b : Nat)
  | out (a : Nat)
  | jump (t : Nat)
  | branch (a t : Nat)
  | stop (a : Nat)
def Row.d : Row → PyData
  | .const d n => .tuple [.str "const", nI d, .int n]
  | .op s d a b => .tuple [.str "op", .str s.s, nI d, nI a, nI b]
  | .select d c a b => .tuple [.str "select", nI d, nI c, nI a, nI b]
  | .load d a base mask => .tuple [.str "load", nI d, nI a, .int base, .int mask]
  | .store a base mask b => .tuple [.str "store", nI a, .int base, .int mask, nI b]
  | .out a => .tuple [.str "out", nI a]
  | .jump t => .tuple [.str "jump", nI t]
  | .branch a t => .tuple [.str "branch", nI a, nI t]
  | .stop a => .tuple [.str "stop", nI a]
/-- a row at place k among many rows -/
def RowOkD (many k : Nat) : Row → Prop
  | .const d n => d < 16 ∧ W32 n ∧ k + 1 < many
  | .op _ d a b => d < 16 ∧ a < 16 ∧ b < 16 ∧ k + 1 < many
  | .select d c a b => d < 16 ∧ c < 16 ∧ a < 16 ∧ b < 16 ∧ k + 1 < many
  | .load d a _ _ => d < 16 ∧ a < 16 ∧ k + 1 < many
  | .store a _ _ b => a < 16 ∧ b < 16 ∧ k + 1 < many
  | .out a => a < 16 ∧ k + 1 < many
  | .jump t => t < many
  | .branch a t => a < 16 ∧ t < many ∧ k + 1 < many
  | .stop a => a < 16
def toV : PyData → V
  | .int i => .int i
  | .str z => .str z
  | _ => .non
def Row.v : Row → List V
  | .const d n => [.str "const", .int d, .int n]
  | .op s d a b => [.str "op", .str s.s, .int d, .int a, .int b]
  | .select d c a b => [.str "select", .int d, .int c, .int a, .int b]
  | .load d a base mask => [.str "load", .int d, .int a, .int base, .int mask]
  | .store a base mask b => [.str "store", .int a, .int base, .int mask, .int b]
  | .out a => [.str "out", .int a]
  | .jump t => [.str "jump", .int t]
  | .branch a t => [.str "branch", .int a, .int t]
  | .stop a => [.str "stop", .int a]
theorem ims_flat {H : Hp} : ∀ {xs : List V} {ds : List PyData}, Ims H xs ds → (∀ d ∈ ds, isI d = true ∧ isB d = false ∨ isS d = true) → xs = ds.map toV
  | _, _, .nil, _ => rfl
  | _, _, .cons h t, f => by
    rw [List.map_cons, ims_flat t fun d hd => f d (List.mem_cons_of_mem _ hd)]
    congr 1
    have := f _ List.mem_cons_self
    cases h with
    | int i => rfl
    | str z => rfl
    | non => rcases this with ⟨h, _⟩ | h <;> cases h
    | bl b => rcases this with ⟨_, h⟩ | h <;> cases h
    | tup _ _ => rcases this with ⟨h, _⟩ | h <;> cases h
theorem row_tup {H : Hp} {x : V} {r : Row} (h : Im H x r.d) : ∃ a, x = .ref a ∧ H a = some (.tup r.v) := by
  cases r <;>
  · obtain ⟨a, xs, rfl, h1, h2⟩ := h.tup_inv
    have e := ims_flat h2 (by intro d hd; simp only [List.mem_cons, List.not_mem_nil, or_false] at hd; rcases hd with rfl | rfl | rfl | rfl | rfl <;> first | exact .inl ⟨rfl, rfl⟩ | exact .inr rfl)
    subst e
    exact ⟨a, rfl, h1⟩
structure Rg where
  b : Int
  n : Nat
  l : Str
def Rg.d (g : Rg) : PyData := .tuple [.int g.b, nI g.n, .str g.l]
abbrev codeD (rgs : List Rg) (rows : List Row) : PyData := .tuple [.tuple (rgs.map Rg.d), .tuple (rows.map Row.d)]
theorem im3v {H : Hp} {x : V} {g : Rg} (h : Im H x g.d) : ∃ a, x = .ref a ∧ H a = some (.tup [.int g.b, .int g.n, .str g.l]) := by
  obtain ⟨a, x1, x2, x3, rfl, h1, i1, i2, i3⟩ := im3 h
  obtain rfl := i1.int_inv
  obtain rfl := i2.int_inv
  obtain rfl := i3.str_inv
  exact ⟨a, rfl, h1⟩


/-! ### all tuples stay -/
def KT (H H' : Hp) : Prop := ∀ a xs, H a = some (.tup xs) → H' a = some (.tup xs)
section
variable {H H' H1 : Hp} {a : Addr} {o o' : HO} {ms : List Addr}
theorem KT.refl : KT H H := fun _ _ h => h
theorem KT.trans (x : KT H H1) (y : KT H1 H') : KT H H' := fun a xs h => y a xs (x a xs h)
theorem KT.of (s : Same H H') : KT H H' := fun a xs h => s a _ h
theorem KT.keep (k : Keep ms H H') (n : NoTup H ms) : KT H H' := fun a xs h => k a _ h fun z => n a z xs h
theorem KT.set (h : H a = some o) (n : ∀ xs, o ≠ .tup xs) : KT H (upd H a o') := KT.keep (Keep.set (List.mem_singleton.mpr rfl)) (NoTup.one h n)
theorem KT.new (h : H a = none) : KT H (upd H a o) := KT.of (Same.new h)
theorem _root_.G.Im.kt {v : V} {d : PyData} (h : Im H v d) (k : KT H H') : Im H' v d := h.mono k
theorem _root_.G.Ims.kt {v : List V} {d : List PyData} (h : Ims H v d) (k : KT H H') : Ims H' v d := h.mono k
end

/-! ### papers: members, what is public behind a row, ways -/
abbrev Mb := Nat → Bool
def mL (p : Mb) : List Nat := (List.range 16).filter p
abbrev mD (p : Mb) : PyData := nD (mL p)
section
variable {p q : Mb} {n : Nat}
theorem mL_len : (mL p).length ≤ 16 := by
  unfold mL
  have := List.length_filter_le p (List.range 16)
  rw [List.length_range] at this
  exact this
theorem mL_mem : n ∈ mL p ↔ n < 16 ∧ p n = true := by
  unfold mL
  rw [List.mem_filter, List.mem_range]
theorem mL_has (h : n < 16) : (mL p).contains n = p n := by
  rw [Bool.eq_iff_iff, List.contains_iff_mem, mL_mem]
  exact ⟨fun z => z.2, fun z => ⟨h, z⟩⟩
theorem mL_asc : (mL p).Pairwise (· < ·) := List.Pairwise.sublist List.filter_sublist List.pairwise_lt_range
theorem mL_ext (h : ∀ x, x < 16 → p x = q x) : mL p = mL q := List.filter_congr fun x hx => h x (List.mem_range.mp hx)
theorem mL_inj (h : mL p = mL q) : ∀ x, x < 16 → p x = q x := fun x hx => by
  rw [← mL_has (p := p) hx, ← mL_has (p := q) hx, h]
theorem ascN : ∀ {l m : List Nat}, l.Pairwise (· < ·) → m.Pairwise (· < ·) → (∀ j, j ∈ l ↔ j ∈ m) → l = m
  | [], [], _, _, _ => rfl
  | [], b :: m, _, _, h => absurd ((h b).mpr List.mem_cons_self) (by simp)
  | a :: l, [], _, _, h => absurd ((h a).mp List.mem_cons_self) (by simp)
  | a :: l, b :: m, h1, h2, h => by
    rw [List.pairwise_cons] at h1 h2
    have e : a = b := by
      rcases List.mem_cons.mp ((h a).mp List.mem_cons_self) with x | x
      · exact x
      · rcases List.mem_cons.mp ((h b).mpr List.mem_cons_self) with y | y
        · exact y.symm
        · have := h1.1 b y
          have := h2.1 a x
          omega
    subst e
    congr 1
    refine ascN h1.2 h2.2 fun j => ⟨fun hj => ?_, fun hj => ?_⟩
    · rcases List.mem_cons.mp ((h j).mp (List.mem_cons_of_mem _ hj)) with x | x
      · have := h1.1 j hj
        omega
      · exact x
    · rcases List.mem_cons.mp ((h j).mpr (List.mem_cons_of_mem _ hj)) with x | x
      · have := h2.1 j hj
        omega
      · exact x
theorem asc_mL {l : List Nat} (h : l.Pairwise (· < ·)) (hb : ∀ x ∈ l, x < 16) : l = mL (fun x => l.contains x) := ascN h mL_asc fun j => by
  rw [mL_mem, List.contains_iff_mem]
  exact ⟨fun z => ⟨hb j z, z⟩, fun z => z.2⟩
end
section
variable {K : PySem.W.Frag} {H : Hp} {a : Addr} {p : Mb} {n : Nat} {Q : VK} {l m : List Nat}
theorem k_inM (h : TupK K H a (nV (mL p))) (hn : n < 16) (q : Q (.bl (p n)) H) : rInU K false (.int (n : Int)) (.ref a) H Q := k_inN (.inl h.sq) (by rw [mL_has hn]; exact q)
theorem k_niM (h : TupK K H a (nV (mL p))) (hn : n < 16) (q : Q (.bl (!p n)) H) : rInU K true (.int (n : Int)) (.ref a) H Q := k_niN (.inl h.sq) (by rw [mL_has hn]; exact q)
theorem nV_ints : nV l = (l.map fun (n : Nat) => (n : Int)).map V.int := by
  unfold nV
  rw [List.map_map]
  rfl
/-- sorted of a list of numbers -/
theorem k_sortN (h : H a = some (.lst (nV l))) (hl : l.length < 64) (hp : l.Perm m) (ha : m.Pairwise (· < ·)) (q : ∀ p, H p = none → Q (.ref p) (upd H p (.lst (nV m)))) : rSortU K [.ref a] H Q := by
  rw [nV_ints] at h
  refine ⟨a, _, rfl, .inl (SqL.of h), by rw [List.length_map]; exact hl, fun ns' p p1 p2 hp2 => ?_⟩
  have e : ns' = m.map fun (n : Nat) => (n : Int) := by
    refine sorted_eq (p1.trans (hp.map _)) p2 ?_
    rw [List.pairwise_map]
    exact ha.imp fun h => by omega
  subst e
  rw [← nV_ints]
  exact q p hp2
end
def regOf (rgs : List Rg) (base mask : Int) : Option Rg := rgs.find? fun g => decide (g.b ≤ base) && decide (base + mask < g.b + (g.n : Int))
def pubR (rgs : List Rg) (base mask : Int) : Bool := match regOf rgs base mask with
  | some g => decide (g.l = "public")
  | none => false
/-- the register that a row writes, and whether it is public then -/
def wrP (rgs : List Rg) (p : Mb) : Row → Option (Nat × Bool)
  | .const d _ => some (d, true)
  | .op _ d a b => some (d, p a && p b)
  | .select d c a b => some (d, p c && (p a && p b))
  | .load d _ base mask => some (d, pubR rgs base mask)
  | _ => none
def bhd (rgs : List Rg) (r : Row) (p : Mb) : Mb := match wrP rgs p r with
  | some (d, b) => fun x => if x = d then b else p x
  | none => p
def waysR (k : Nat) : Row → List Nat
  | .stop _ => []
  | .jump t => [t]
  | .branch _ t => if k + 1 = t then [t] else if k + 1 < t then [k + 1, t] else [t, k + 1]
  | _ => [k + 1]
/-- rows in order -/
structure JOk (rows : List Row) : Prop where
  u : rows.length ≤ 50000
  r : ∀ (k : Nat) (r : Row), rows[k]? = some r → RowOkD rows.length k r
theorem waysR_lt {many k w : Nat} {r : Row} (hr : RowOkD many k r) (hw : w ∈ waysR k r) : w < many := by
  cases r with
  | stop a => cases hw
  | jump t =>
    rw [List.mem_singleton.mp hw]
    exact hr
  | branch a t =>
    have h1 : t < many := hr.2.1
    have h2 : k + 1 < many := hr.2.2
    have hw : w ∈ if k + 1 = t then [t] else if k + 1 < t then [k + 1, t] else [t, k + 1] := hw
    split at hw
    · rw [List.mem_singleton.mp hw]
      exact h1
    · split at hw
      · simp only [List.mem_cons, List.not_mem_nil, or_false] at hw
        rcases hw with rfl | rfl <;> assumption
      · simp only [List.mem_cons, List.not_mem_nil, or_false] at hw
        rcases hw with rfl | rfl <;> assumption
  | const d n => rw [List.mem_singleton.mp hw]; exact hr.2.2
  | op s d a b => rw [List.mem_singleton.mp hw]; exact hr.2.2.2
  | select d c a b => rw [List.mem_singleton.mp hw]; exact hr.2.2.2.2
  | load d a b m => rw [List.mem_singleton.mp hw]; exact hr.2.2
  | store a b m c => rw [List.mem_singleton.mp hw]; exact hr.2.2
  | out a => rw [List.mem_singleton.mp hw]; exact hr.2
def sp_region_of (K : PySem.W.Frag) : Sp := fun vs H Q _ => ∃ (code : V) (base mask : Int) (rgs : List Rg) (rows : List Row), vs = [code, .int base, .int mask] ∧ Im H code (codeD rgs rows) ∧ (regOf rgs base mask = none → Q .non H) ∧ ∀ g v, regOf rgs base mask = some g → Im H v g.d → Q v H
theorem sc_region_of : FnScope ["code", "base", "mask", "region"] ["code", "base", "mask"] (defScope (topS 6)) := ⟨rfl, rfl, rfl, by decide +kernel, rfl, by decide +kernel, by decide +kernel⟩
theorem ok_region_of (T : Txt fa fn K mg (XOk cs xcs K w)) : Dn P w K mg base CX0 1 "region_of" ["code", "base", "mask"] (sp_region_of K) := by
  refine mk_dn (d := dOf "region_of" 6) T 0 0 rfl rfl rfl rfl rfl sc_region_of (by walk_at "len") (fun _ _ _ _ _ _ us hl => match us, hl with | [_, _, _], _ => rfl) (fun cdv A outer s H vs Q E hr h => ⟨_, (pss_cons (ps_for PassesOwn.never rfl (pi_seq (K := K) rfl (pe_ixU (K := K) rfl (hu_of hr) (pv 0) pe_int)) (pg_name (i := 3) sc_region_of.nd rfl (.inl rfl)) (pss_one (ps_if (PW.pt (pw_and (pt_cmpR o_le (pe_ixU (K := K) rfl (hu_of hr) (pv 3) pe_int) (pv 1) (nomark _)) (pw_and1 (pt_cmpR o_lt (pe_op (op_addU (K := K) rfl) (pv 1) (pv 2)) (pe_op (op_addU (K := K) rfl) (pe_ixU (K := K) rfl (hu_of hr) (pv 3) pe_int) (pe_ixU (K := K) rfl (hu_of hr) (pv 3) pe_int)) (nomark _))))) (pss_one (ps_ret (pv 3))) pss_nil)))
      (pss_one (ps_ret pe_non))), ?_⟩)
  obtain ⟨code, base, mask, rgs, rows, rfl, ic, q1, q2⟩ := h
  walk_at "go"
  refine m_ix ic (n := 0) rfl rfl (fun v hv => ?_)
  walk_at "go"
  refine m_seq hv (fun a xs e ha his => ?_)
  subst e
  have hl := his.length
  rw [List.length_map] at hl
  refine f_tup (xs := xs) (fun i σ H' => ∃ (o : Option V), σ = [some code, some (.int base), some (.int mask), o] ∧ H' = H ∧ (rgs.take i).find? (fun g => decide (g.b ≤ base) && decide (base + mask < g.b + (g.n : Int))) = none) ⟨_, rfl, rfl, rfl⟩ ?_ ?_ ?_
  · rintro i σ H' hi ⟨o, rfl, rfl, hn⟩
    exact SqT.of ha
  · rintro i y σ H' hi ⟨o, rfl, rfl, hn⟩
    have hil := (List.getElem?_eq_some_iff.mp hi).1
    have hg : rgs[i]? = some (rgs[i]'(by omega)) := List.getElem?_eq_getElem _
    generalize rgs[i]'(by omega) = g at hg
    obtain ⟨y', hy', hiy⟩ := his.get (n := i) (d := g.d) (by rw [List.getElem?_map, hg]; rfl)
    rw [hi] at hy'
    cases hy'
    obtain ⟨ax, rfl, hax⟩ := im3v hiy
    have next : ¬ (g.b ≤ base ∧ base + mask < g.b + (g.n : Int)) → (rgs.take (i + 1)).find? (fun g => decide (g.b ≤ base) && decide (base + mask < g.b + (g.n : Int))) = none := fun hno => by
      rw [List.take_add_one, hg, List.find?_append, hn]
      simp only [Option.toList_some, List.find?_cons, Option.none_or]
      have e : (decide (g.b ≤ base) && decide (base + mask < g.b + (g.n : Int))) = false := by
        rw [Bool.eq_false_iff]
        intro z
        rw [Bool.and_eq_true, decide_eq_true_eq, decide_eq_true_eq] at z
        exact hno z
      rw [e]
      rfl
    walk_at "go"
    refine g_if (fun c1 => ?_) (fun c1 => ?_)
    · walk_at "go"
      refine g_if (fun c2 => ?_) (fun c2 => ?_)
      · walk_at "go"
        refine q2 g _ ?_ hiy
        have e : rgs = rgs.take i ++ (g :: rgs.drop (i + 1)) := by
          obtain ⟨h1, h2⟩ := List.getElem?_eq_some_iff.mp hg
          rw [← h2, List.getElem_cons_drop, List.take_append_drop]
        unfold regOf
        rw [e, List.find?_append, hn]
        rw [Option.none_or, List.find?_cons_of_pos]
        rw [Bool.and_eq_true, decide_eq_true_eq, decide_eq_true_eq]
        exact ⟨c1, c2⟩
      · walk_at "go"
        exact ⟨_, rfl, rfl, next fun z => c2 z.2⟩
    · walk_at "go"
      exact ⟨_, rfl, rfl, next fun z => c1 z.1⟩
  · rintro σ H' ⟨o, rfl, rfl, hn⟩
    walk_at "go"
    refine q1 ?_
    rw [hl, List.take_length] at hn
    exact hn
def sp_public_behind (K : PySem.W.Frag) : Sp := fun vs H Q _ => ∃ (code v : V) (r many : Nat) (rgs : List Rg) (rows : List Row) (row : Row) (p : Mb), vs = [code, .int (r : Int), v] ∧ Im H code (codeD rgs rows) ∧ rows[r]? = some row ∧ RowOkD many r row ∧ Dk K H v (mD p) ∧
  ∀ H' x, Same H H' → Dk K H' x (mD (bhd rgs row p)) → Q x H'
theorem bhd_perm {p : Mb} {w : Nat} {b : Bool} (hw : w < 16) : ((mL p).filter (fun m => !decide (m = w)) ++ if b = true then [w] else []).Perm (mL fun x => if x = w then b else p x) := by
  refine (List.perm_ext_iff_of_nodup ?_ ?_).mpr fun x => ?_
  · rw [List.nodup_append]
    refine ⟨(mL_asc.imp fun h => by omega : (mL p).Nodup).filter _, by split <;> simp, fun x hx y hy e => ?_⟩
    subst e
    have h1 := (List.mem_filter.mp hx).2
    split at hy
    · rw [List.mem_singleton] at hy
      subst hy
      simp at h1
    · cases hy
  · exact mL_asc.imp fun h => by omega
  · rw [List.mem_append, List.mem_filter, mL_mem, mL_mem]
    by_cases hx : x = w
    · subst hx
      cases b <;> simp [hw]
    · cases b <;> simp [hx]
theorem row_at {H : Hp} {code : V} {rgs : List Rg} {rows : List Row} {r : Nat} {row : Row} {K : PySem.W.Frag} {Q : VK} (ic : Im H code (codeD rgs rows)) (hr : rows[r]? = some row) (k : ∀ a, H a = some (.tup row.v) → Q (.ref a) H) : rIxU K code (.int 1) H fun v H1 => rIxU K v (.int (r : Int)) H1 Q := by
  refine m_ix ic (n := 1) rfl rfl (fun v hv => ?_)
  refine m_ix hv (n := r) rfl (by rw [List.getElem?_map, hr]; rfl) (fun y hy => ?_)
  obtain ⟨a, rfl, ha⟩ := row_tup hy
  exact k a ha
def Row.kd : Row → Str
  | .const _ _ => "const" | .op _ _ _ _ => "op" | .select _ _ _ _ => "select" | .load _ _ _ _ => "load" | .store _ _ _ _ => "store" | .out _ => "out" | .jump _ => "jump" | .branch _ _ => "branch" | .stop _ => "stop"
theorem row_kd {r : Row} : r.v[0]? = some (.str r.kd) := by cases r <;> rfl
theorem three {p : Mb} {c a b : Nat} (hc : c < 16) (ha : a < 16) (hb : b < 16) : ∀ (i : Nat) (x : V) (t : Bool), [V.int (c : Int), V.int (a : Int), V.int (b : Int)][i]? = some x → [p c, p a, p b][i]? = some t → ∃ n : Nat, n < 16 ∧ x = .int (n : Int) ∧ t = p n
  | 0, x, t, h1, h2 => by cases h1; cases h2; exact ⟨c, hc, rfl, rfl⟩
  | 1, x, t, h1, h2 => by cases h1; cases h2; exact ⟨a, ha, rfl, rfl⟩
  | 2, x, t, h1, h2 => by cases h1; cases h2; exact ⟨b, hb, rfl, rfl⟩
  | i + 3, x, t, h1, h2 => by simp at h1
theorem sc_public_behind : FnScope ["code", "r", "member", "row", "kind", "rest", "written", "public", "region", "one"] ["code", "r", "member"] (defScope (topS 7)) := ⟨rfl, rfl, rfl, by decide +kernel, rfl, by decide +kernel, by decide +kernel⟩
theorem ok_public_behind (T : Txt fa fn K mg (XOk cs xcs K w)) : Dn P w K mg base CX0 2 "public_behind" ["code", "r", "member"] (sp_public_behind K) := by
  refine mk_dn (d := dOf "public_behind" 7) T 1 1 rfl rfl rfl rfl rfl sc_public_behind (by walk_at "len") (fun _ _ _ _ _ _ us hl => match us, hl with | [_, _, _], _ => rfl) (fun cdv A outer s H vs Q E hr h => ⟨_, (pss_cons (ps_set (i := 3) sc_public_behind.nd rfl (.inl rfl) (pe_ixU (K := K) rfl (hu_of hr) (pe_ixU (K := K) rfl (hu_of hr) (pv 0) pe_int) (pv 1)))
      (pss_cons (ps_set (i := 4) sc_public_behind.nd rfl (.inl rfl) (pe_ixU (K := K) rfl (hu_of hr) (pv 3) pe_int))
      (pss_cons (ps_join (ps_if (pt_cmpR (op_eqU (K := K) rfl hr.units) (pv 4) pe_str (nomark _)) (pss_one (ps_asg (pe_tup (pa_cons (pe_ixU (K := K) rfl (hu_of hr) (pv 3) pe_int) (pa_cons pe_bl pa_nil))) (pg_tup rfl (pgs_cons (pg_name (i := 6) sc_public_behind.nd rfl (.inr rfl)) (pgs_cons (pg_name (i := 7) sc_public_behind.nd rfl (.inl rfl)) pgs_nil))))) (pss_one (ps_if (pt_cmpR (op_eqU (K := K) rfl hr.units) (pv 4) pe_str (nomark _)) (pss_one (ps_asg (pe_tup (pa_cons (pe_ixU (K := K) rfl (hu_of hr) (pv 3) pe_int) (pa_cons (pe_and (pe_cmpR (op_inU (K := K) rfl (hu65 hr)) (pe_ixU (K := K) rfl (hu_of hr) (pv 3) pe_int) (pv 2) (by rfl)) (pe_one (pe_cmpR (op_inU (K := K) rfl (hu65 hr)) (pe_ixU (K := K) rfl (hu_of hr) (pv 3) pe_int) (pv 2) (by rfl)))) pa_nil))) (pg_tup rfl (pgs_cons (pg_name (i := 6) sc_public_behind.nd rfl (.inr rfl)) (pgs_cons (pg_name (i := 7) sc_public_behind.nd rfl (.inl rfl)) pgs_nil))))) (pss_one (ps_if (pt_cmpR (op_eqU (K := K) rfl hr.units) (pv 4) pe_str (nomark _)) (pss_one (ps_asg (pe_tup (pa_cons (pe_ixU (K := K) rfl (hu_of hr) (pv 3) pe_int) (pa_cons (pe_callB (c_all (K := K) rfl rfl) rfl (T.free 28 rfl) (by decide +kernel) (pa_cons (pe_lc rfl sc_public_behind.nd (pi_seq (K := K) rfl (pe_slice (sl_U (K := K) rfl) (pv 3) (po_some pe_int) po_none)) (blkOk_by (own := [("one", 9)]) (N := ["code", "r", "member", "row", "kind", "rest", "written", "public", "region", "one"]) (sc := defScope (topS 7)) (by decide +kernel)) (fun _ _ _ _ _ => (pg_name (i := 9) sc_public_behind.nd rfl (.inl rfl))) (fun _ _ _ _ _ => pts_nil) (fun _ _ _ _ _ => (pe_cmpR (op_inU (K := K) rfl (hu65 hr)) (pv 9) (pv 2) (by rfl)))) pa_nil)) pa_nil))) (pg_tup rfl (pgs_cons (pg_name (i := 6) sc_public_behind.nd rfl (.inr rfl)) (pgs_cons (pg_name (i := 7) sc_public_behind.nd rfl (.inl rfl)) pgs_nil))))) (pss_one (ps_if (pt_cmpR (op_eqU (K := K) rfl hr.units) (pv 4) pe_str (nomark _)) (pss_cons (ps_set (i := 8) sc_public_behind.nd rfl (.inl rfl) (pe_callD (K := K) rfl (ok_region_of T) (hr.mono (by decide)) rfl pass0 (pa_cons (pv 0) (pa_cons (pe_ixU (K := K) rfl (hu_of hr) (pv 3) pe_int) (pa_cons (pe_ixU (K := K) rfl (hu_of hr) (pv 3) pe_int) pa_nil)))))
      (pss_one (ps_asg (pe_tup (pa_cons (pe_ixU (K := K) rfl (hu_of hr) (pv 3) pe_int) (pa_cons (pe_and (pe_cmpR o_notN (pv 8) pe_non (nomark _)) (pe_one (pe_cmpR (op_eqU (K := K) rfl hr.units) (pe_ixU (K := K) rfl (hu_of hr) (pv 8) pe_int) pe_str (nomark _)))) pa_nil))) (pg_tup rfl (pgs_cons (pg_name (i := 6) sc_public_behind.nd rfl (.inr rfl)) (pgs_cons (pg_name (i := 7) sc_public_behind.nd rfl (.inl rfl)) pgs_nil)))))) (pss_one (ps_ret (pe_callTy (c_tuple (K := K) rfl) rfl (T.free 37 rfl) (by decide +kernel) (pa_cons (pv 2) pa_nil))))))))))))
      (pss_cons (ps_setLc (i := 5) rfl sc_public_behind.nd rfl rfl (sw_true rfl rfl rfl (by decide +kernel)) (pi_seq (K := K) rfl (pv 2)) (blkOk_by (own := [("one", 9)]) (N := ["code", "r", "member", "row", "kind", "rest", "written", "public", "region", "one"]) (sc := defScope (topS 7)) (by decide +kernel)) (fun _ _ _ _ _ => (pg_name (i := 9) sc_public_behind.nd rfl (.inl rfl))) (fun _ _ _ _ _ => (pts_one (pt_cmpR (op_neU (K := K) rfl hr.units) (pv 9) (pv 6) (nomark _)))) (fun _ _ _ _ _ => (pv 9)))
      (pss_cons (ps_if (pt_tru (K := K) rfl (pv 7)) (pss_one (ps_expr (pe_bm PySem.F.plainAttrs_list PySem.F.slot_list_append PySem.F.type_list_append mt_append (pv 5) (pa_cons (pv 6) pa_nil)))) pss_nil)
      (pss_one (ps_ret (pe_callTy (c_tuple (K := K) rfl) rfl (T.free 37 rfl) (by decide +kernel) (pa_cons (pe_callB (c_sortU (K := K) rfl) rfl (T.free 36 rfl) (by decide +kernel) (pa_cons (pv 5) pa_nil)) pa_nil))))))))), ?_⟩)
  obtain ⟨code, v, r, many, rgs, rows, row, p, rfl, ic, hr, ro, iv, hQ⟩ := h
  obtain ⟨ma, rfl, hma⟩ := nD_at iv
  walk_at "go"
  refine m_ix ic (n := 1) rfl rfl (fun v1 hv1 => ?_)
  walk_at "go"
  refine m_ix hv1 (n := r) rfl (by rw [List.getElem?_map, hr]; rfl) (fun y hy => ?_)
  obtain ⟨ra, rfl, hra⟩ := row_tup hy
  walk_at "go"
  refine g_ixT (SqT.of hra) (n := 0) rfl row_kd ?_
  walk_at "go"
  refine ⟨fun σ' H' => ∃ (w : Nat) (b : Bool) (o8 : Option V), σ' = [some code, some (.int (r : Int)), some (.ref ma), some (.ref ra), some (.str row.kd), none, some (.int (w : Int)), some (.bl b), o8, none] ∧ Same H H' ∧ w < 16 ∧ wrP rgs p row = some (w, b), ?_, ?_⟩
  · cases row with
    | const d n =>
      have hra : H ra = some (.tup [.str "const", .int d, .int n]) := hra
      dsimp only [Row.kd]
      walk_at "go"
      refine ⟨by show 2 ≤ sizeLine; decide, fun t ht => ?_⟩
      have htt : upd H t (.tup [.int (d : Int), .bl true]) t = some (.tup [.int (d : Int), .bl true]) := upd_same
      walk_at "go"
      exact ⟨d, true, _, rfl, Same.new ht, ro.1, rfl⟩
    | op s d a b =>
      have hra : H ra = some (.tup [.str "op", .str s.s, .int d, .int a, .int b]) := hra
      dsimp only [Row.kd]
      walk_at "go"
      refine k_inM hma ro.2.1 ?_
      walk_at "go"
      have fin : ∀ t, H t = none → (fun σ' H' => ∃ (w : Nat) (t : Bool) (o8 : Option V), σ' = [some code, some (.int (r : Int)), some (.ref ma), some (.ref ra), some (.str (Row.kd (.op s d a b))), none, some (.int (w : Int)), some (.bl t), o8, none] ∧ Same H H' ∧ w < 16 ∧ wrP rgs p (.op s d a b) = some (w, t)) [some code, some (.int (r : Int)), some (.ref ma), some (.ref ra), some (.str (Row.kd (.op s d a b))), none, some (.int (d : Int)), some (.bl (p a && p b)), none, none] (upd H t (.tup [.int (d : Int), .bl (p a && p b)])) := fun t ht => ⟨d, _, _, rfl, Same.new ht, ro.1, rfl⟩
      refine g_ifB (fun c1 => ?_) (fun c1 => ?_)
      · walk_at "go"
        refine k_inM hma ro.2.2.1 ?_
        walk_at "go"
        rw [c1, Bool.true_and] at fin
        refine ⟨by show 2 ≤ sizeLine; decide, fun t ht => ?_⟩
        have htt : upd H t (.tup [.int (d : Int), .bl (p b)]) t = some (.tup [.int (d : Int), .bl (p b)]) := upd_same
        walk_at "go"
        exact fin t ht
      · walk_at "go"
        rw [c1, Bool.false_and] at fin
        refine ⟨by show 2 ≤ sizeLine; decide, fun t ht => ?_⟩
        have htt : upd H t (.tup [.int (d : Int), .bl false]) t = some (.tup [.int (d : Int), .bl false]) := upd_same
        walk_at "go"
        exact fin t ht
    | select d c a b =>
      have hra : H ra = some (.tup [.str "select", .int d, .int c, .int a, .int b]) := hra
      dsimp only [Row.kd]
      walk_at "go"
      refine m_sl hy (fun t H1 s1 ht => ?_)
      have e : cutD [PyData.str "select", nI d, nI c, nI a, nI b] (some 2) none = [nI c, nI a, nI b] := cutD_from (n := 2)
      have ht : Im H1 (.ref t) (.tuple (cutD [PyData.str "select", nI d, nI c, nI a, nI b] (some 2) none)) := ht
      rw [e] at ht
      obtain ⟨t', x1, x2, x3, et, htt, i1, i2, i3⟩ := im3 ht
      cases et
      obtain rfl := i1.int_inv
      obtain rfl := i2.int_inv
      obtain rfl := i3.int_inv
      walk_at "go"
      refine g_seqT (SqT.of htt) ?_
      refine l_boolsT (bs := [p c, p a, p b]) (.inl htt) rfl (by show 3 ≤ 100000; decide) (by intro _; rfl) (fun D i x t2 H2 R hx hb s2 hR => ?_) (fun D H2 s2 hD => ?_)
      · obtain ⟨n, hn, rfl, rfl⟩ := three ro.2.1 ro.2.2.1 ro.2.2.2.1 i x t2 hx hb
        walk_at "go"
        exact k_inM ((hma.same s1).same s2) hn (hR _ (Same.refl _))
      · walk_at "go"
        refine g_all (SqL.of hD) ?_
        have e2 : [p c, p a, p b].all id = (p c && (p a && p b)) := by simp
        rw [e2]
        walk_at "go"
        refine ⟨by show 2 ≤ sizeLine; decide, fun t3 ht3 => ?_⟩
        have ht3' : upd H2 t3 (.tup [.int (d : Int), .bl (p c && (p a && p b))]) t3 = some (.tup [.int (d : Int), .bl (p c && (p a && p b))]) := upd_same
        walk_at "go"
        exact ⟨d, _, _, rfl, Same.new' (s1.trans s2) ht3, ro.1, rfl⟩
    | load d a base mask =>
      have hra : H ra = some (.tup [.str "load", .int d, .int a, .int base, .int mask]) := hra
      dsimp only [Row.kd]
      walk_at "go"
      refine ⟨code, base, mask, rgs, rows, rfl, ic, fun hn => ?_, fun g v hg hv => ?_⟩
      · walk_at "go"
        refine ⟨by show 2 ≤ sizeLine; decide, fun t ht => ?_⟩
        have htt : upd H t (.tup [.int (d : Int), .bl false]) t = some (.tup [.int (d : Int), .bl false]) := upd_same
        walk_at "go"
        refine ⟨d, false, _, rfl, Same.new ht, ro.1, ?_⟩
        show some (d, pubR rgs base mask) = _
        unfold pubR
        rw [hn]
      · obtain ⟨ga, rfl, hga⟩ := im3v hv
        walk_at "go"
        refine ⟨by show 2 ≤ sizeLine; decide, fun t ht => ?_⟩
        have htt : upd H t (.tup [.int (d : Int), .bl (decide (g.l = "public"))]) t = some (.tup [.int (d : Int), .bl (decide (g.l = "public"))]) := upd_same
        walk_at "go"
        refine ⟨d, decide (g.l = "public"), _, rfl, Same.new ht, ro.1, ?_⟩
        show some (d, pubR rgs base mask) = _
        unfold pubR
        rw [hg]
    | _ =>
      dsimp only [Row.kd]
      walk_at "go"
      exact k_tuple iv (hQ H _ (Same.refl H) iv)
  · rintro σ' H1 ⟨w, b, o8, rfl, s1, hw, hwr⟩
    have eb : bhd rgs row p = fun x => if x = w then b else p x := by
      unfold bhd
      rw [hwr]
    have hma1 := hma.same s1
    walk_at "go"
    refine g_seqT hma1.sq ?_
    refine l_filtT (f := fun m => !decide (m = w)) hma1 (Nat.le_trans mL_len (by decide)) (by intro _; rfl) (fun i m H2 QB hm s2 hQB => ?_) (fun m H2 R hR => ?_) (fun D H2 hD1 s2 hD => ?_)
    · walk_at "go"
      have e : (!decide ((m : Int) = (w : Int))) = !decide (m = w) := by
        rw [Bool.eq_iff_iff]
        simp
        omega
      rw [e]
      exact hQB _ (Same.refl _)
    · walk_at "go"
      exact hR
    · have hl : (((mL p).filter fun m => !decide (m = w))).length ≤ 16 := Nat.le_trans (List.length_filter_le _ _) mL_len
      have pm := bhd_perm (p := p) (b := b) hw
      walk_at "go"
      refine g_ifB (fun c => ?_) (fun c => ?_)
      · rw [c, if_pos rfl] at pm
        walk_at "go"
        refine ⟨D, _, _, rfl, rfl, hD, szl (by rw [nV_len]; omega), ?_⟩
        have en : nV ((mL p).filter fun m => !decide (m = w)) ++ [V.int (w : Int)] = nV (((mL p).filter fun m => !decide (m = w)) ++ [w]) := by
          unfold nV
          rw [List.map_append]
          rfl
        rw [en]
        walk_at "go"
        refine k_sortN upd_same (by rw [List.length_append, List.length_singleton]; omega) pm mL_asc (fun q hq => ?_)
        walk_at "go"
        refine m_tupleL (SqL.of upd_same) (ims_nV _) (fun t H3 s3 _ ht => ?_)
        refine hQ _ _ ((s1.trans (Same.new' (Same.mut s2 hD1) hq)).trans s3) ?_
        rw [eb, c]
        exact ht.dk
      · rw [c, if_neg Bool.false_ne_true, List.append_nil] at pm
        walk_at "go"
        refine k_sortN hD (by omega) pm mL_asc (fun q hq => ?_)
        walk_at "go"
        refine m_tupleL (SqL.of upd_same) (ims_nV _) (fun t H3 s3 _ ht => ?_)
        refine hQ _ _ (((s1.trans s2).trans (Same.new hq)).trans s3) ?_
        rw [eb, c]
        exact ht.dk


/-! ### ways, members, papers that hold -/
def sp_ways (K : PySem.W.Frag) : Sp := fun vs H Q _ => ∃ (code : V) (r : Nat) (rgs : List Rg) (rows : List Row) (row : Row), vs = [code, .int (r : Int)] ∧ Im H code (codeD rgs rows) ∧ rows[r]? = some row ∧ ∀ H' x, Same H H' → Im H' x (nD (waysR r row)) → Q x H'
theorem mk2 {a b : Int} {x y : V} : mergeK ([] : List (Key × V)) [(.inl a, x), (.inl b, y)] = if a = b then [(.inl a, y)] else [(.inl a, x), (.inl b, y)] := by
  have h1 : putK ([] : List (Key × V)) (.inl a) x = [(.inl a, x)] := putK_new _ rfl
  unfold mergeK
  simp only [List.foldl_cons, List.foldl_nil]
  rw [h1]
  by_cases h : a = b
  · subst h
    rw [if_pos rfl]
    unfold putK
    rw [valV_any]
    have e : valV [((Sum.inl a : Key), x)] (.inl a) = some x := valV_pos rfl
    rw [e]
    simp
  · rw [if_neg h]
    have e : valV [((Sum.inl a : Key), x)] (.inl b) = none := by
      rw [valV_neg (fun e => h (Sum.inl.inj e))]
      rfl
    exact putK_new _ e
theorem ims_1 {H : Hp} {n : Nat} {i : Int} (e : i = (n : Int)) : Ims H [V.int i] (nDs [n]) := by
  subst e
  exact .cons (.int _) .nil
theorem sc_ways : FnScope ["code", "r", "row"] ["code", "r"] (defScope (topS 8)) := ⟨rfl, rfl, rfl, by decide +kernel, rfl, by decide +kernel, by decide +kernel⟩
theorem ok_ways (T : Txt fa fn K mg (XOk cs xcs K w)) : Dn P w K mg base CX0 1 "ways" ["code", "r"] (sp_ways K) := by
  refine mk_dn (d := dOf "ways" 8) T 2 2 rfl rfl rfl rfl rfl sc_ways (by walk_at "len") (fun _ _ _ _ _ _ us hl => match us, hl with | [_, _], _ => rfl) (fun cdv A outer s H vs Q E hr h => ⟨_, (pss_cons (ps_set (i := 2) sc_ways.nd rfl (.inl rfl) (pe_ixU (K := K) rfl (hu_of hr) (pe_ixU (K := K) rfl (hu_of hr) (pv 0) pe_int) (pv 1)))
      (pss_cons (ps_if (pt_cmpR (op_eqU (K := K) rfl hr.units) (pe_ixU (K := K) rfl (hu_of hr) (pv 2) pe_int) pe_str (nomark _)) (pss_one (ps_ret (pe_tup pa_nil))) pss_nil)
      (pss_cons (ps_if (pt_cmpR (op_eqU (K := K) rfl hr.units) (pe_ixU (K := K) rfl (hu_of hr) (pv 2) pe_int) pe_str (nomark _)) (pss_one (ps_ret (pe_tup (pa_cons (pe_ixU (K := K) rfl (hu_of hr) (pv 2) pe_int) pa_nil)))) pss_nil)
      (pss_cons (ps_if (pt_cmpR (op_eqU (K := K) rfl hr.units) (pe_ixU (K := K) rfl (hu_of hr) (pv 2) pe_int) pe_str (nomark _)) (pss_one (ps_ret (pe_callTy (c_tuple (K := K) rfl) rfl (T.free 37 rfl) (by decide +kernel) (pa_cons (pe_callB (c_sortDI rfl) rfl (T.free 36 rfl) (by decide +kernel) (pa_cons (pe_disp (pps_cons (pe_op (op_addU (K := K) rfl) (pv 1) pe_int) pe_bl (pps_cons (pe_ixU (K := K) rfl (hu_of hr) (pv 2) pe_int) pe_bl pps_nil)) (by rfl) (by rfl) (fun z => by cases z) (by decide)) pa_nil)) pa_nil)))) pss_nil)
      (pss_one (ps_ret (pe_tup (pa_cons (pe_op (op_addU (K := K) rfl) (pv 1) pe_int) pa_nil)))))))), ?_⟩)
  obtain ⟨code, r, rgs, rows, row, rfl, ic, hr, hQ⟩ := h
  walk_at "go"
  refine m_ix ic (n := 1) rfl rfl (fun v1 hv1 => ?_)
  walk_at "go"
  refine m_ix hv1 (n := r) rfl (by rw [List.getElem?_map, hr]; rfl) (fun y hy => ?_)
  obtain ⟨ra, rfl, hra⟩ := row_tup hy
  walk_at "go"
  refine g_ixT (SqT.of hra) (n := 0) rfl row_kd ?_
  cases row with
  | stop a =>
    dsimp only [Row.kd]
    walk_at "go"
    exact m_new .nil (by decide) (fun p H1 s1 _ hp => hQ H1 _ s1 hp)
  | jump t =>
    have hra : H ra = some (.tup [.str "jump", .int t]) := hra
    dsimp only [Row.kd]
    walk_at "go"
    exact m_new (ims_1 rfl) (by show 1 ≤ 100000; decide) (fun p H1 s1 _ hp => hQ H1 _ s1 hp)
  | branch a t =>
    have hra : H ra = some (.tup [.str "branch", .int a, .int t]) := hra
    dsimp only [Row.kd]
    walk_at "go"
    intro q hq
    have hra1 := (Same.new (o := .dK []) hq) _ _ hra
    walk_at "go"
    refine ⟨upd_same, [(.inl ((r : Int) + 1), .bl true), (.inl (t : Int), .bl true)], rfl, by show 2 ≤ 15; decide, ?_⟩
    rw [mk2]
    walk_at "go"
    by_cases h1 : (r : Int) + 1 = (t : Int)
    · have e : waysR r (.branch a t) = [t] := if_pos (by omega)
      rw [e] at hQ
      rw [if_pos h1, upd_upd]
      refine ⟨q, [(.inl ((r : Int) + 1), .bl true)], [(r : Int) + 1], rfl, Rd.of upd_same, rfl, by show 1 < 64; decide, fun ys u pm _ hu => ?_⟩
      obtain rfl := List.perm_singleton.mp pm
      walk_at "go"
      refine m_tupleL (SqL.of upd_same) (ims_1 h1) (fun z H3 s3 _ hz => hQ _ _ ((Same.new' (Same.new hq) hu).trans s3) hz)
    · rw [if_neg h1, upd_upd]
      refine ⟨q, [(.inl ((r : Int) + 1), .bl true), (.inl (t : Int), .bl true)], [(r : Int) + 1, (t : Int)], rfl, Rd.of upd_same, rfl, by show 2 < 64; decide, fun ys u pm asc hu => ?_⟩
      have e : ys.map V.int = nV (waysR r (.branch a t)) := by
        have hw : waysR r (.branch a t) = if r + 1 < t then [r + 1, t] else [t, r + 1] := if_neg (by omega)
        rw [hw, nV_ints]
        congr 1
        refine sorted_eq (pm.trans ?_) asc ?_
        · split
          · exact List.Perm.refl _
          · exact List.Perm.swap _ _ _
        · split <;> simp <;> omega
      rw [e]
      walk_at "go"
      refine m_tupleL (SqL.of upd_same) (ims_nV _) (fun z H3 s3 _ hz => hQ _ _ ((Same.new' (Same.new hq) hu).trans s3) hz)
  | _ =>
    dsimp only [Row.kd]
    have hra := hra
    simp only [Row.v] at hra
    walk_at "go"
    exact m_new (ims_1 (n := r + 1) (by omega)) (by show 1 ≤ 100000; decide) (fun p H1 s1 _ hp => hQ H1 _ s1 hp)
def ltD : PyData → PyData → Bool
  | .int a, .int b => decide (a < b)
  | _, _ => false
def ascD (ds : List PyData) : Bool := (List.range (ds.length - 1)).all fun i => ltD (ds.getD i .none) (ds.getD (i + 1) .none)
def isMemD : PyData → Bool
  | .tuple ds => (ds.all fun d => isI d && !isB d) && ((ds.all (numD 0 15)) && ascD ds)
  | _ => false
def papD (P : Nat → Mb) (n : Nat) : PyData := .tuple ((List.range n).map fun r => mD (P r))
theorem ascD_nDs {l : List Nat} : ascD (nDs l) = true ↔ l.Pairwise (· < ·) := by
    unfold ascD
    rw [List.all_eq_true, show (nDs l).length = l.length from List.length_map _]
    have at_ : ∀ i, (hi : i < l.length) → (nDs l).getD i .none = .int ((l[i] : Nat) : Int) := fun i hi => by
      unfold nDs
      rw [List.getD_eq_getElem?_getD, List.getElem?_map, List.getElem?_eq_getElem hi]
      rfl
    constructor
    · intro h
      have adj : ∀ i, (hi : i + 1 < l.length) → l[i] < l[i + 1] := fun i hi => by
        have := h i (List.mem_range.mpr (by omega))
        rw [at_ i (by omega), at_ (i + 1) hi] at this
        have := of_decide_eq_true (show decide (((l[i] : Nat) : Int) < ((l[i + 1] : Nat) : Int)) = true from this)
        omega
      rw [List.pairwise_iff_getElem]
      intro i j hi hj hij
      have key : ∀ k, (hk : i + 1 + k < l.length) → l[i] < l[i + 1 + k] := fun k => by
        induction k with
        | zero => intro hk; exact adj i hk
        | succ k ih =>
          intro hk
          have := ih (by omega)
          have h2 := adj (i + 1 + k) hk
          exact Nat.lt_trans this h2
      have := key (j - (i + 1)) (by omega)
      have e : i + 1 + (j - (i + 1)) = j := by omega
      simp only [e] at this
      exact this
    · intro h i hi
      have hi := List.mem_range.mp hi
      rw [at_ i (by omega), at_ (i + 1) (by omega)]
      show decide (((l[i] : Nat) : Int) < ((l[i + 1] : Nat) : Int)) = true
      rw [decide_eq_true_eq]
      have := List.pairwise_iff_getElem.mp h i (i + 1) (by omega) (by omega) (by omega)
      omega
theorem mem_nDs : ∀ {ds : List PyData}, (∀ d ∈ ds, numD 0 15 d = true) → ∃ l : List Nat, ds = nDs l ∧ ∀ x ∈ l, x < 16
  | [], _ => ⟨[], rfl, by simp⟩
  | d :: ds, h => by
    obtain ⟨l, rfl, hl⟩ := mem_nDs fun x hx => h x (List.mem_cons_of_mem _ hx)
    obtain ⟨i, rfl, h0, h1⟩ := num_inv (h d List.mem_cons_self)
    refine ⟨i.toNat :: l, ?_, fun x hx => ?_⟩
    · show PyData.int i :: nDs l = PyData.int ((i.toNat : Nat) : Int) :: nDs l
      rw [Int.toNat_of_nonneg h0]
    · rcases List.mem_cons.mp hx with rfl | hx
      · omega
      · exact hl x hx
theorem mem_iff {d : PyData} : isMemD d = true ↔ ∃ p, d = mD p := by
  constructor
  · intro h
    cases d <;> first | (cases h; done) | skip
    rename_i ds
    have h : ((ds.all fun d => isI d && !isB d) && ((ds.all (numD 0 15)) && ascD ds)) = true := h
    rw [Bool.and_eq_true, Bool.and_eq_true] at h
    obtain ⟨l, rfl, hl⟩ := mem_nDs (List.all_eq_true.mp h.2.1)
    exact ⟨_, by show PyData.tuple (nDs l) = PyData.tuple (nDs _); rw [← asc_mL (ascD_nDs.mp h.2.2) hl]⟩
  · rintro ⟨p, rfl⟩
    show (((nDs (mL p)).all fun d => isI d && !isB d) && (((nDs (mL p)).all (numD 0 15)) && ascD (nDs (mL p)))) = true
    rw [ascD_nDs.mpr mL_asc, Bool.and_eq_true, Bool.and_eq_true, List.all_eq_true, List.all_eq_true]
    refine ⟨fun d hd => ?_, fun d hd => ?_, rfl⟩
    · obtain ⟨n, _, rfl⟩ := List.mem_map.mp hd
      rfl
    · obtain ⟨n, hn, rfl⟩ := List.mem_map.mp hd
      have := (mL_mem.mp hn).1
      exact num_of (by omega) (by omega)
def sp_is_member (K : PySem.W.Frag) : Sp := fun vs H Q _ => ∃ (x : V) (d : PyData), vs = [x] ∧ Dk K H x d ∧ Wd 50000 3 d ∧ ∀ H', Same H H' → Q (.bl (isMemD d)) H'
theorem wd_len {n k : Nat} {ds : List PyData} (h : Wd n (k + 1) (.tuple ds)) : ds.length ≤ n ∧ ∀ x ∈ ds, Wd n k x := h
theorem sc_is_member : FnScope ["thing", "one", "other"] ["thing"] (defScope (topS 9)) := ⟨rfl, rfl, rfl, by decide +kernel, rfl, by decide +kernel, by decide +kernel⟩
theorem ok_is_member (T : Txt fa fn K mg (XOk cs xcs K w)) : Dn P w K mg base CX0 1 "is_member" ["thing"] (sp_is_member K) := by
  refine mk_dn (d := dOf "is_member" 9) T 3 3 rfl rfl rfl rfl rfl sc_is_member (by walk_at "len") (fun _ _ _ _ _ _ us hl => match us, hl with | [_], _ => rfl) (fun cdv A outer s H vs Q E hr h => ⟨_, (pss_cons (ps_if (pt_not (pt_tru (K := K) rfl (pe_callB (c_isi (K := K) rfl) rfl (T.free 31 rfl) (by decide +kernel) (pa_cons (pv 0) (pa_cons (pe_bltn (v := .ty "tuple") rfl (T.free 37 rfl) (by decide +kernel) rfl) pa_nil))))) (pss_one (ps_ret pe_bl)) pss_nil)
      (pss_cons (ps_if (pt_not (pt_tru (K := K) rfl (pe_callB (c_all (K := K) rfl rfl) rfl (T.free 28 rfl) (by decide +kernel) (pa_cons (pe_lc rfl sc_is_member.nd (pi_seq (K := K) rfl (pv 0)) (blkOk_by (own := [("one", 1)]) (N := ["thing", "one", "other"]) (sc := defScope (topS 9)) (by decide +kernel)) (fun _ _ _ _ _ => (pg_name (i := 1) sc_is_member.nd rfl (.inl rfl))) (fun _ _ _ _ _ => pts_nil) (fun _ _ _ _ _ => (pe_and (pe_callB (c_isi (K := K) rfl) rfl (T.free 31 rfl) (by decide +kernel) (pa_cons (pv 1) (pa_cons (pe_bltn (v := .ty "int") rfl (T.free 30 rfl) (by decide +kernel) rfl) pa_nil))) (pe_one (pe_not (pe_callB (c_isi (K := K) rfl) rfl (T.free 31 rfl) (by decide +kernel) (pa_cons (pv 1) (pa_cons (pe_bltn (v := .ty "bool") rfl (T.free 29 rfl) (by decide +kernel) rfl) pa_nil)))))))) pa_nil)))) (pss_one (ps_ret pe_bl)) pss_nil)
      (pss_cons (ps_if (pt_not (pt_tru (K := K) rfl (pe_callB (c_all (K := K) rfl rfl) rfl (T.free 28 rfl) (by decide +kernel) (pa_cons (pe_lc rfl sc_is_member.nd (pi_seq (K := K) rfl (pv 0)) (blkOk_by (own := [("one", 1)]) (N := ["thing", "one", "other"]) (sc := defScope (topS 9)) (by decide +kernel)) (fun _ _ _ _ _ => (pg_name (i := 1) sc_is_member.nd rfl (.inl rfl))) (fun _ _ _ _ _ => pts_nil) (fun _ _ _ _ _ => (pe_chain o_le o_lt pe_int (pv 1) (pe_gint T rfl 39 rfl rfl)))) pa_nil)))) (pss_one (ps_ret pe_bl)) pss_nil)
      (pss_one (ps_ret (pe_callB (c_all (K := K) rfl rfl) rfl (T.free 28 rfl) (by decide +kernel) (pa_cons (pe_lc rfl sc_is_member.nd (pi_zipU (K := K) rfl rfl (T.free 38 rfl) (pa_cons (pv 0) (pa_cons (pe_slice (sl_U (K := K) rfl) (pv 0) (po_some pe_int) po_none) pa_nil))) (blkOk_by (own := [("one", 1), ("other", 2)]) (N := ["thing", "one", "other"]) (sc := defScope (topS 9)) (by decide +kernel)) (fun _ _ _ _ _ => (pg_tupU (K := K) (n := 2) rfl rfl (pgs_cons (pg_name (i := 1) sc_is_member.nd rfl (.inl rfl) (.inr rfl)) (pgs_cons (pg_name (i := 2) sc_is_member.nd rfl (.inl rfl) (.inr rfl)) pgs_nil)))) (fun _ _ _ _ _ => pts_nil) (fun _ _ _ _ _ => (pe_cmpR o_lt (pv 1) (pv 2) (nomark _)))) pa_nil))))))), ?_⟩)
  obtain ⟨x, d, rfl, hx, wd, hQ⟩ := h
  walk_at "go"
  refine k_isiU hx ?_
  walk_at "go"
  refine g_ifBn (fun c => ?_) (fun c => ?_)
  · walk_at "go"
    have e : isMemD d = false := by cases d <;> first | rfl | cases c
    rw [← e]
    exact hQ _ (Same.refl H)
  obtain ⟨ds, rfl⟩ := isT_inv c
  obtain ⟨hl, _⟩ := wd_len wd
  obtain ⟨a, xs, rfl, ha, hxs⟩ := hx.tup_inv
  have hlen := hxs.length
  have get : ∀ {i : Nat} {y : V} {f : PyData → Bool} {b : Bool}, xs[i]? = some y → (ds.map f)[i]? = some b → ∃ e, ds[i]? = some e ∧ b = f e ∧ Dk K H y e := fun {i y f b} hy hb => by
    rw [List.getElem?_map] at hb
    obtain ⟨e, he, rfl⟩ := Option.map_eq_some_iff.mp hb
    obtain ⟨y', hy', hd⟩ := hxs.get he
    rw [hy] at hy'
    cases hy'
    exact ⟨e, he, rfl, hd⟩
  walk_at "go"
  refine g_seqT ha.sq ?_
  refine l_boolsT (bs := ds.map fun d => isI d && !isB d) ha (by rw [List.length_map]; exact hlen) (by rw [List.length_map]; omega) (by intro _; rfl) (fun D i y b H1 R hy hb s1 hR => ?_) (fun D H1 s1 hD => ?_)
  · obtain ⟨e, he, rfl, hye⟩ := get hy hb
    have hye := hye.same s1
    walk_at "go"
    refine k_isiI hye ?_
    walk_at "go"
    refine g_ifB (fun c1 => ?_) (fun c1 => ?_)
    · walk_at "go"
      refine k_isiB hye ?_
      walk_at "go"
      rw [c1, Bool.true_and] at hR
      exact hR _ (Same.refl _)
    · walk_at "go"
      rw [c1, Bool.false_and] at hR
      exact hR _ (Same.refl _)
  walk_at "go"
  refine g_all (SqL.of hD) ?_
  rw [List.all_map]
  walk_at "go"
  have e0 : ∀ p : Bool, (ds.all fun d => isI d && !isB d) = p → isMemD (.tuple ds) = (p && ((ds.all (numD 0 15)) && ascD ds)) := fun p h => by
    show ((ds.all fun d => isI d && !isB d) && _) = _
    rw [h]
  refine g_ifBn (fun c1 => ?_) (fun c1 => ?_)
  · walk_at "go"
    have e : isMemD (.tuple ds) = false := by
      rw [e0 false c1]
      rfl
    rw [← e]
    exact hQ _ s1
  have hint : ∀ d ∈ ds, ∃ i, d = .int i := fun d hd => by
    have := List.all_eq_true.mp c1 d hd
    cases d <;> first | exact ⟨_, rfl⟩ | cases this
  have e1 := e0 true c1
  rw [Bool.true_and] at e1
  rw [e1] at hQ
  walk_at "go"
  have ha1 := ha.same s1
  refine g_seqT ha1.sq ?_
  refine l_boolsT (bs := ds.map (numD 0 15)) ha1 (by rw [List.length_map]; exact hlen) (by rw [List.length_map]; omega) (by intro _; rfl) (fun D2 i y b H2 R hy hb s2 hR => ?_) (fun D2 H2 s2 hD2 => ?_)
  · obtain ⟨e, he, rfl, hye⟩ := get hy hb
    obtain ⟨z, rfl⟩ := hint e (List.mem_of_getElem? he)
    obtain rfl := hye.int_inv
    have en : numD 0 15 (.int z) = (decide (0 ≤ z) && decide (z < 16)) := by
      show (decide (0 ≤ z) && decide (z ≤ 15)) = _
      congr 1
      rw [Bool.eq_iff_iff, decide_eq_true_eq, decide_eq_true_eq]
      omega
    rw [en] at hR
    walk_at "go"
    refine g_if (fun c2 => ?_) (fun c2 => ?_)
    · rw [decide_eq_true c2, Bool.true_and] at hR
      walk_at "go"
      exact hR _ (Same.refl _)
    · rw [decide_eq_false c2, Bool.false_and] at hR
      walk_at "go"
      exact hR _ (Same.refl _)
  walk_at "go"
  refine g_all (SqL.of hD2) ?_
  rw [List.all_map]
  walk_at "go"
  have s12 := s1.trans s2
  refine g_ifBn (fun c2 => ?_) (fun c2 => ?_)
  · walk_at "go"
    have c2 : ds.all (numD 0 15) = false := c2
    rw [c2, Bool.false_and] at hQ
    exact hQ _ s12
  have c2 : ds.all (numD 0 15) = true := c2
  rw [c2, Bool.true_and] at hQ
  walk_at "go"
  have hx2 : Dk K H2 (.ref a) (.tuple ds) := hx.same s12
  refine k_from hx2 (n := 1) rfl (fun y H3 s3 hy => ?_)
  obtain ⟨b, ys, rfl, hb, hys⟩ := hy.tup_inv
  have hyl := hys.length
  rw [List.length_drop] at hyl
  have ha3 := ha.same (s12.trans s3)
  walk_at "go"
  refine ⟨a, b, xs, ys, rfl, .inr ⟨ha3.sq, hb.sq, ?_⟩⟩
  refine l_zipB (n := ds.length - 1) (bs := (List.range (ds.length - 1)).map fun i => ltD (ds.getD i .none) (ds.getD (i + 1) .none)) ha3 hb (by omega) (by omega) (by omega) (by rw [List.length_map, List.length_range]) (by omega) (fun i u v c Tp H4 R hu hv hc s4 hT hR => ?_) ?_ (fun D4 H4 s4 hD4 => ?_)
  · have hil : i < ds.length - 1 := by
      have := (List.getElem?_eq_some_iff.mp hc).1
      rw [List.length_map, List.length_range] at this
      exact this
    rw [List.getElem?_map, List.getElem?_range hil] at hc
    have hc : ltD (ds.getD i .none) (ds.getD (i + 1) .none) = c := Option.some.inj hc
    have g1 : ds[i]? = some (ds.getD i .none) := by rw [List.getD_eq_getElem?_getD, List.getElem?_eq_getElem (by omega)]; rfl
    have g2 : (ds.drop 1)[i]? = some (ds.getD (i + 1) .none) := by rw [List.getElem?_drop, Nat.add_comm, List.getD_eq_getElem?_getD, List.getElem?_eq_getElem (by omega)]; rfl
    generalize ds.getD i .none = d1 at g1 hc
    generalize ds.getD (i + 1) .none = d2 at g2 hc
    obtain ⟨u', hu', hd1⟩ := hxs.get g1
    rw [hu] at hu'
    cases hu'
    obtain ⟨v', hv', hd2⟩ := hys.get g2
    rw [hv] at hv'
    cases hv'
    obtain ⟨z1, rfl⟩ := hint d1 (List.mem_of_getElem? g1)
    obtain ⟨z2, rfl⟩ := hint d2 (List.mem_of_mem_drop (List.mem_of_getElem? g2))
    obtain rfl := hd1.int_inv
    obtain rfl := hd2.int_inv
    subst hc
    walk_at "go"
    exact hR _ (Same.refl _)
  · intro y σ1 H1 R R' hh h
    obtain ⟨a, xs, e, h1, h2, h3⟩ := h
    refine ⟨a, xs, e, h1, h2, ?_⟩
    obtain ⟨v1, r1, e1, h3⟩ := h3
    refine ⟨v1, r1, e1, ?_⟩
    obtain ⟨v2, r2, e2, h3⟩ := h3
    exact ⟨v2, r2, e2, h3.1, hh _ _ h3.2⟩
  · walk_at "go"
    refine g_all (SqL.of hD4) ?_
    rw [List.all_map]
    exact hQ _ ((s12.trans s3).trans s4)

/-! ### holds, the greatest paper -/
def Hold (rgs : List Rg) (rows : List Row) (P : Nat → Mb) : Prop := ∀ (r : Nat) (row : Row), rows[r]? = some row → ∀ w ∈ waysR r row, ∀ x, x < 16 → P w x = true → bhd rgs row (P r) x = true
def Grt (rgs : List Rg) (rows : List Row) (P : Nat → Mb) : Prop := Hold rgs rows P ∧ ∀ P', Hold rgs rows P' → ∀ r x, r < rows.length → x < 16 → P' r x = true → P r x = true
section
variable {rgs : List Rg} {rows : List Row} {P P' : Nat → Mb} {n r : Nat} {ds : List PyData} {p q : Mb} {row : Row}
theorem bhd_ext (h : ∀ x, x < 16 → p x = q x) (hr : RowOkD n r row) : ∀ x, x < 16 → bhd rgs row p x = bhd rgs row q x := fun x hx => by
  unfold bhd
  cases row with
  | op s d a b =>
    show (if x = d then (p a && p b) else p x) = if x = d then (q a && q b) else q x
    rw [h a hr.2.1, h b hr.2.2.1, h x hx]
  | select d c a b =>
    show (if x = d then (p c && (p a && p b)) else p x) = if x = d then (q c && (q a && q b)) else q x
    rw [h a hr.2.2.1, h b hr.2.2.2.1, h c hr.2.1, h x hx]
  | const d k =>
    show (if x = d then true else p x) = if x = d then true else q x
    rw [h x hx]
  | load d a b m =>
    show (if x = d then pubR rgs b m else p x) = if x = d then pubR rgs b m else q x
    rw [h x hx]
  | _ => exact h x hx
/-- more is public behind a row where more is ahead of it -/
theorem bhd_mono (h : ∀ x, x < 16 → p x = true → q x = true) (hr : RowOkD n r row) : ∀ x, x < 16 → bhd rgs row p x = true → bhd rgs row q x = true := fun x hx => by
  unfold bhd
  cases row with
  | op s d a b =>
    show (if x = d then (p a && p b) else p x) = true → (if x = d then (q a && q b) else q x) = true
    split
    · rw [Bool.and_eq_true, Bool.and_eq_true]
      exact fun z => ⟨h _ hr.2.1 z.1, h _ hr.2.2.1 z.2⟩
    · exact h x hx
  | select d c a b =>
    show (if x = d then (p c && (p a && p b)) else p x) = true → (if x = d then (q c && (q a && q b)) else q x) = true
    split
    · simp only [Bool.and_eq_true]
      exact fun z => ⟨h _ hr.2.1 z.1, h _ hr.2.2.1 z.2.1, h _ hr.2.2.2.1 z.2.2⟩
    · exact h x hx
  | const d k =>
    show (if x = d then true else p x) = true → (if x = d then true else q x) = true
    split
    · exact fun z => z
    · exact h x hx
  | load d a b m =>
    show (if x = d then pubR rgs b m else p x) = true → (if x = d then pubR rgs b m else q x) = true
    split
    · exact fun z => z
    · exact h x hx
  | _ => exact h x hx
theorem pap_at (h : r < n) : ((List.range n).map fun r => mD (P r))[r]? = some (mD (P r)) := by
  rw [List.getElem?_map, List.getElem?_range h]
  rfl
theorem papD_inj (h : papD P n = papD P' n) : ∀ r x, r < n → x < 16 → P r x = P' r x := fun r x hr hx => by
  have h1 := PyData.tuple.inj h
  have h2 := pap_at (P := P) hr
  rw [h1, pap_at hr] at h2
  have h3 := PyData.tuple.inj (Option.some.inj h2)
  exact (mL_inj (nDs_inj h3) x hx).symm
theorem Hold.congr (h : Hold rgs rows P) (jo : JOk rows) (e : ∀ r x, r < rows.length → x < 16 → P r x = P' r x) : Hold rgs rows P' := fun r row hr w hw x hx hp => by
  have ro := jo.r r row hr
  have hrl := (List.getElem?_eq_some_iff.mp hr).1
  rw [← e w x (waysR_lt ro hw) hx] at hp
  rw [← bhd_ext (fun x hx => e r x hrl hx) ro x hx]
  exact h r row hr w hw x hx hp
theorem pap_of (h : ∀ d ∈ ds, isMemD d = true) : ∃ P : Nat → Mb, ds = (List.range ds.length).map fun r => mD (P r) := by
  have h1 : ∀ r : Nat, ∃ p : Mb, ∀ d, ds[r]? = some d → d = mD p := fun r => by
    cases e : ds[r]? with
    | none => exact ⟨fun _ => false, fun d hd => by cases hd⟩
    | some d =>
      obtain ⟨p, hp⟩ := mem_iff.mp (h d (List.mem_of_getElem? e))
      exact ⟨p, fun d' hd => by rw [← Option.some.inj hd]; exact hp⟩
  obtain ⟨P, hP⟩ := Classical.axiomOfChoice h1
  refine ⟨P, List.ext_getElem? fun i => ?_⟩
  by_cases hi : i < ds.length
  · rw [pap_at hi, List.getElem?_eq_getElem hi]
    exact congrArg some (hP i _ (List.getElem?_eq_getElem hi))
  · rw [List.getElem?_eq_none (by omega), List.getElem?_eq_none (by rw [List.length_map, List.length_range]; omega)]
end
def sp_holds (K : PySem.W.Frag) : Sp := fun vs H Q _ => ∃ (code x : V) (rgs : List Rg) (rows : List Row) (d : PyData), vs = [code, x] ∧ Im H code (codeD rgs rows) ∧ JOk rows ∧ Dk K H x d ∧ Wd 50000 4 d ∧
  ∀ H' b, Same H H' → (b = true ↔ ∃ P, d = papD P rows.length ∧ Hold rgs rows P) → Q (.bl b) H'
theorem sc_holds : FnScope ["code", "paper", "r", "behind", "way", "member", "one"] ["code", "paper"] (defScope (topS 10)) := ⟨rfl, rfl, rfl, by decide +kernel, rfl, by decide +kernel, by decide +kernel⟩
theorem ok_holds (T : Txt fa fn K mg (XOk cs xcs K w)) : Dn P w K mg base CX0 3 "holds" ["code", "paper"] (sp_holds K) := by
  refine mk_dn (d := dOf "holds" 10) T 4 4 rfl rfl rfl rfl rfl sc_holds (by walk_at "len") (fun _ _ _ _ _ _ us hl => match us, hl with | [_, _], _ => rfl) (fun cdv A outer s H vs Q E hr h => ⟨_, (pss_cons (ps_if (PW.pt (pw_or (pt_not (pt_tru (K := K) rfl (pe_callB (c_isi (K := K) rfl) rfl (T.free 31 rfl) (by decide +kernel) (pa_cons (pv 1) (pa_cons (pe_bltn (v := .ty "tuple") rfl (T.free 37 rfl) (by decide +kernel) rfl) pa_nil))))) (pw_or1 (pt_cmpR (op_neU (K := K) rfl hr.units) (pe_callB (c_len (K := K) rfl) rfl (T.free 32 rfl) (by decide +kernel) (pa_cons (pv 1) pa_nil)) (pe_callB (c_len (K := K) rfl) rfl (T.free 32 rfl) (by decide +kernel) (pa_cons (pe_ixU (K := K) rfl (hu_of hr) (pv 0) pe_int) pa_nil)) (nomark _))))) (pss_one (ps_ret pe_bl)) pss_nil)
      (pss_cons (ps_if (pt_not (pt_tru (K := K) rfl (pe_callB (c_all (K := K) rfl rfl) rfl (T.free 28 rfl) (by decide +kernel) (pa_cons (pe_lc rfl sc_holds.nd (pi_seq (K := K) rfl (pv 1)) (blkOk_by (own := [("member", 5)]) (N := ["code", "paper", "r", "behind", "way", "member", "one"]) (sc := defScope (topS 10)) (by decide +kernel)) (fun _ _ _ _ _ => (pg_name (i := 5) sc_holds.nd rfl (.inl rfl))) (fun _ _ _ _ _ => pts_nil) (fun _ _ _ _ _ => (pe_callD (K := K) rfl (ok_is_member T) (hr.mono (by decide)) rfl pass0 (pa_cons (pv 5) pa_nil)))) pa_nil)))) (pss_one (ps_ret pe_bl)) pss_nil)
      (pss_cons (ps_for PassesOwn.never rfl (pi_r1 rfl (T.free 34 rfl) (pa_cons (pe_callB (c_len (K := K) rfl) rfl (T.free 32 rfl) (by decide +kernel) (pa_cons (pv 1) pa_nil)) pa_nil)) (pg_name (i := 2) sc_holds.nd rfl (.inl rfl)) (pss_cons (ps_set (i := 3) sc_holds.nd rfl (.inr rfl) (pe_callD (K := K) rfl (ok_public_behind T) (hr.mono (by decide)) rfl pass0 (pa_cons (pv 0) (pa_cons (pv 2) (pa_cons (pe_ixU (K := K) rfl (hu_of hr) (pv 1) (pv 2)) pa_nil)))))
      (pss_one (ps_for PassesOwn.never rfl (pi_seq (K := K) rfl (pe_callD (K := K) rfl (ok_ways T) (hr.mono (by decide)) rfl pass0 (pa_cons (pv 0) (pa_cons (pv 2) pa_nil)))) (pg_name (i := 4) sc_holds.nd rfl (.inl rfl)) (pss_one (ps_if (pt_not (pt_tru (K := K) rfl (pe_callB (c_all (K := K) rfl rfl) rfl (T.free 28 rfl) (by decide +kernel) (pa_cons (pe_lc rfl sc_holds.nd (pi_seq (K := K) rfl (pe_ixU (K := K) rfl (hu_of hr) (pv 1) (pv 4))) (blkOk_by (own := [("one", 6)]) (N := ["code", "paper", "r", "behind", "way", "member", "one"]) (sc := defScope (topS 10)) (by decide +kernel)) (fun _ _ _ _ _ => (pg_name (i := 6) sc_holds.nd rfl (.inl rfl))) (fun _ _ _ _ _ => pts_nil) (fun _ _ _ _ _ => (pe_cmpR (op_inU (K := K) rfl (hu65 hr)) (pv 6) (pv 3) (by rfl)))) pa_nil)))) (pss_one (ps_ret pe_bl)) pss_nil))))))
      (pss_one (ps_ret pe_bl))))), ?_⟩)
  obtain ⟨code, x, rgs, rows, d, rfl, ic, jo, hx, wd, hQ⟩ := h
  have ju := jo.u
  have no : ∀ H', Same H H' → (¬ ∃ P, d = papD P rows.length ∧ Hold rgs rows P) → Q (.bl false) H' := fun H' s h => hQ H' false s ⟨(fun e => nomatch e), fun e => absurd e h⟩
  walk_at "go"
  refine k_isiU hx ?_
  walk_at "go"
  refine g_ifBn (fun c => ?_) (fun c => ?_)
  · walk_at "go"
    refine no _ (Same.refl H) ?_
    rintro ⟨P, rfl, _⟩
    cases c
  obtain ⟨ds, rfl⟩ := isT_inv c
  obtain ⟨hl, hwd⟩ := wd_len wd
  walk_at "go"
  refine k_len hx ?_
  walk_at "go"
  refine m_ix ic (n := 1) rfl rfl (fun v1 hv1 => ?_)
  walk_at "go"
  refine m_len hv1 ?_
  rw [List.length_map]
  walk_at "go"
  refine g_ifN (fun c1 => ?_) (fun c1 => ?_)
  · walk_at "go"
    refine no _ (Same.refl H) ?_
    rintro ⟨P, e, _⟩
    have := congrArg List.length (PyData.tuple.inj e)
    rw [List.length_map, List.length_range] at this
    omega
  have hlen : ds.length = rows.length := by omega
  obtain ⟨a, xs, rfl, ha, hxs⟩ := hx.tup_inv
  have hxl := hxs.length
  walk_at "go"
  refine g_seqT ha.sq ?_
  refine l_boolsT (bs := ds.map isMemD) ha (by rw [List.length_map]; exact hxl) (by rw [List.length_map]; omega) (by intro _; rfl) (fun D i y b H1 R hy hb s1 hR => ?_) (fun D H1 s1 hD => ?_)
  · rw [List.getElem?_map] at hb
    obtain ⟨e, he, rfl⟩ := Option.map_eq_some_iff.mp hb
    obtain ⟨y', hy', hd⟩ := hxs.get he
    rw [hy] at hy'
    cases hy'
    walk_at "go"
    exact ⟨y, e, rfl, hd.same s1, hwd e (List.mem_of_getElem? he), fun H2 s2 => hR _ s2⟩
  walk_at "go"
  refine g_all (SqL.of hD) ?_
  rw [List.all_map]
  walk_at "go"
  refine g_ifBn (fun c2 => ?_) (fun c2 => ?_)
  · walk_at "go"
    refine no _ s1 ?_
    rintro ⟨P, e, _⟩
    have c2 : ds.all isMemD = false := c2
    rw [List.all_eq_false] at c2
    obtain ⟨z, hz, hz2⟩ := c2
    rw [PyData.tuple.inj e] at hz
    obtain ⟨r, _, rfl⟩ := List.mem_map.mp hz
    exact hz2 (mem_iff.mpr ⟨_, rfl⟩)
  have c2 : ds.all isMemD = true := c2
  obtain ⟨P, eP⟩ := pap_of (List.all_eq_true.mp c2)
  rw [hlen] at eP
  have hQ2 : ∀ H' b, Same H H' → (b = true ↔ Hold rgs rows P) → Q (.bl b) H' := fun H' b s h => hQ H' b s (h.trans ⟨fun z => ⟨P, by rw [eP]; rfl, z⟩, fun ⟨P', e, z⟩ => z.congr jo fun r x hr hx => (papD_inj (by rw [eP] at e; exact e) r x hr hx).symm⟩)
  clear no
  subst eP
  have hx1 := hx.same s1
  have ic1 := ic.same s1
  walk_at "go"
  refine k_len hx1 ?_
  rw [List.length_map, List.length_range]
  walk_at "go"
  rw [Int.toNat_natCast]
  refine f_range (fun i σ H' => ∃ (o2 o3 o4 : Option V), σ = [some code, some (.ref a), o2, o3, o4, none, none] ∧ Same H H' ∧ ∀ (r : Nat) (row : Row), r < i → rows[r]? = some row → ∀ w ∈ waysR r row, ∀ x, x < 16 → P w x = true → bhd rgs row (P r) x = true) ⟨_, _, _, rfl, s1, by omega⟩ ?_ ?_
  · rintro i σ H2 hi ⟨o2, o3, o4, rfl, s2, hok⟩
    have hrow : rows[i]? = some (rows[i]'hi) := List.getElem?_eq_getElem _
    generalize rows[i]'hi = row at hrow
    have ro := jo.r i row hrow
    have e0 : (0 : Int) + (i : Int) = (i : Int) := by omega
    walk_at "go"
    rw [e0]
    refine k_ix (hx.same s2) (n := i) rfl (pap_at hi) (fun v hv => ?_)
    walk_at "go"
    refine ⟨code, v, i, _, rgs, rows, row, P i, rfl, ic.same s2, hrow, ro, hv, fun H3 u s3 hu => ?_⟩
    obtain ⟨ba, rfl, hba⟩ := nD_at hu
    have s23 := s2.trans s3
    walk_at "go"
    refine ⟨code, i, rgs, rows, row, rfl, ic.same s23, hrow, fun H4 y s4 hy => ?_⟩
    have s24 := s23.trans s4
    refine m_seq hy (fun wa ys ey hwa hys => ?_)
    subst ey
    obtain rfl := dks_nV_inv (K := K) hys.dk
    refine f_tup (xs := nV (waysR i row)) (fun j σ H' => ∃ (o4 : Option V), σ = [some code, some (.ref a), some (.int (i : Int)), some (.ref ba), o4, none, none] ∧ Same H4 H' ∧ ∀ w ∈ (waysR i row).take j, ∀ x, x < 16 → P w x = true → bhd rgs row (P i) x = true) ⟨_, rfl, Same.refl _, by simp⟩ (fun j σ H' _ ⟨_, _, s5, _⟩ => SqT.of (s5 _ _ hwa)) ?_ ?_
    · rintro j y σ H5 hj ⟨o4, rfl, s5, hok2⟩
      have hjl := (List.getElem?_eq_some_iff.mp hj).1
      rw [nV_len] at hjl
      have hw : (waysR i row)[j]? = some ((waysR i row)[j]'hjl) := List.getElem?_eq_getElem _
      generalize (waysR i row)[j]'hjl = w at hw
      rw [nV_at hw] at hj
      cases hj
      have hwn := waysR_lt ro (List.mem_of_getElem? hw)
      have s25 := s24.trans s5
      walk_at "go"
      refine k_ix (hx.same s25) (n := w) rfl (pap_at hwn) (fun v hv => ?_)
      walk_at "go"
      obtain ⟨va, rfl, hva⟩ := nD_at hv
      refine g_seqT hva.sq ?_
      refine l_boolsT (bs := (mL (P w)).map (bhd rgs row (P i))) hva (by rw [nV_len, List.length_map]) (by rw [List.length_map]; exact Nat.le_trans mL_len (by decide)) (by intro _; rfl) (fun D k y b H6 R hy hb s6 hR => ?_) (fun D H6 s6 hD => ?_)
      · rw [List.getElem?_map] at hb
        obtain ⟨m, hm, rfl⟩ := Option.map_eq_some_iff.mp hb
        rw [nV_at hm] at hy
        cases hy
        have hm16 := (mL_mem.mp (List.mem_of_getElem? hm)).1
        walk_at "go"
        exact k_inM ((hba.same (s4.trans s5)).same s6) hm16 (hR _ (Same.refl _))
      · walk_at "go"
        refine g_all (SqL.of hD) ?_
        rw [List.all_map]
        walk_at "go"
        have s26 := s25.trans s6
        refine g_ifBn (fun c3 => ?_) (fun c3 => ?_)
        · walk_at "go"
          refine hQ2 _ false s26 ⟨(fun e => nomatch e), fun hh => ?_⟩
          have c3 : (mL (P w)).all (bhd rgs row (P i)) = false := c3
          rw [List.all_eq_false] at c3
          obtain ⟨m, hm, hm2⟩ := c3
          obtain ⟨h16, hp⟩ := mL_mem.mp hm
          exact absurd (hh i row hrow w (List.mem_of_getElem? hw) m h16 hp) hm2
        · walk_at "go"
          refine ⟨_, rfl, s5.trans s6, fun w' hw' x hx16 hp => ?_⟩
          rw [List.take_add_one, hw] at hw'
          rcases List.mem_append.mp hw' with hw' | hw'
          · exact hok2 w' hw' x hx16 hp
          · have : w' = w := by simpa using hw'
            subst this
            exact List.all_eq_true.mp c3 x (mL_mem.mpr ⟨hx16, hp⟩)
    · rintro σ H5 ⟨o4, rfl, s5, hok2⟩
      rw [nV_len, List.take_length] at hok2
      walk_at "go"
      refine ⟨_, _, _, rfl, s24.trans s5, fun r row' hr hrow' w hw x hx16 hp => ?_⟩
      by_cases hri : r = i
      · subst hri
        rw [hrow] at hrow'
        cases hrow'
        exact hok2 w hw x hx16 hp
      · exact hok r row' (by omega) hrow' w hw x hx16 hp
  · rintro σ H2 ⟨o2, o3, o4, rfl, s2, hok⟩
    walk_at "go"
    exact hQ2 _ true s2 ⟨fun _ => fun r row hr w hw x hx16 hp => hok r row (List.getElem?_eq_some_iff.mp hr).1 hr w hw x hx16 hp, fun _ => rfl⟩
def Sz (P : Nat → Mb) (n : Nat) : Nat := ((List.range n).map fun r => (mL (P r)).length).sum
def updP (P : Nat → Mb) (w : Nat) (q : Mb) : Nat → Mb := fun k => if k = w then q else P k
theorem sum_upd {f : Nat → Nat} {w v : Nat} : ∀ {n : Nat}, w < n → ((List.range n).map fun k => if k = w then v else f k).sum + f w = ((List.range n).map f).sum + v
  | 0, h => absurd h (by omega)
  | n + 1, h => by
    rw [List.range_succ, List.map_append, List.map_append, List.sum_append, List.sum_append]
    simp only [List.map_cons, List.map_nil, List.sum_cons, List.sum_nil, Nat.add_zero]
    by_cases e : n = w
    · subst e
      rw [if_pos rfl]
      have e2 : ((List.range n).map fun k => if k = n then v else f k) = (List.range n).map f := List.map_congr_left fun k hk => by
        have := List.mem_range.mp hk
        rw [if_neg (by omega)]
      rw [e2]
      omega
    · rw [if_neg e]
      have := sum_upd (f := f) (w := w) (v := v) (n := n) (by omega)
      omega
theorem sz_upd {P : Nat → Mb} {w n : Nat} {q : Mb} (h : w < n) : Sz (updP P w q) n + (mL (P w)).length = Sz P n + (mL q).length := by
  have z := sum_upd (f := fun r => (mL (P r)).length) (w := w) (v := (mL q).length) h
  have e : ((List.range n).map fun r => (mL (updP P w q r)).length) = (List.range n).map fun k => if k = w then (mL q).length else (mL (P k)).length := List.map_congr_left fun k _ => by
    unfold updP
    split <;> rfl
  unfold Sz
  rw [e]
  exact z
theorem sz_le {P : Nat → Mb} : ∀ {n : Nat}, Sz P n ≤ 16 * n
  | 0 => Nat.le_refl _
  | n + 1 => by
    have h1 := sz_le (P := P) (n := n)
    have h2 := mL_len (p := P n)
    unfold Sz at h1 ⊢
    rw [List.range_succ, List.map_append, List.sum_append]
    simp only [List.map_cons, List.map_nil, List.sum_cons, List.sum_nil]
    omega
theorem pap_set {P : Nat → Mb} {w n : Nat} {q : Mb} : ((List.range n).map fun r => mD (P r)).set w (mD q) = (List.range n).map fun r => mD (updP P w q r) := by
  refine List.ext_getElem? fun i => ?_
  rw [List.getElem?_set]
  by_cases h : i < n
  · rw [pap_at h, pap_at h, List.length_map, List.length_range]
    unfold updP
    by_cases e : w = i
    · subst e
      rw [if_pos rfl, if_pos h, if_pos rfl]
    · rw [if_neg e, if_neg (by omega)]
  · rw [List.length_map, List.length_range]
    have e1 : ((List.range n).map fun r => mD (P r))[i]? = none := List.getElem?_eq_none (by rw [List.length_map, List.length_range]; omega)
    have e2 : ((List.range n).map fun r => mD (updP P w q r))[i]? = none := List.getElem?_eq_none (by rw [List.length_map, List.length_range]; omega)
    rw [e1, e2]
    by_cases e : w = i
    · rw [if_pos e, if_neg (by omega)]
    · rw [if_neg e]
theorem filt_lt {p q : Mb} (h : ∀ x, x < 16 → q x = true → p x = true) (ne : mL q ≠ mL p) : (mL q).length < (mL p).length := by
  have e : mL q = (mL p).filter q := by
    unfold mL
    rw [List.filter_filter]
    refine List.filter_congr fun x hx => ?_
    cases hq : q x with
    | false => rfl
    | true => rw [h x (List.mem_range.mp hx) hq]; rfl
  have hle : (mL q).length ≤ (mL p).length := by
    rw [e]
    exact List.length_filter_le _ _
  rcases Nat.lt_or_ge (mL q).length (mL p).length with z | z
  · exact z
  · exfalso
    apply ne
    rw [e] at z ⊢
    exact List.filter_sublist.eq_of_length_le z
/-- the state of the search -/
structure GInv (rgs : List Rg) (rows : List Row) (P : Nat → Mb) (ws : List Nat) : Prop where
  w : ∀ k ∈ ws, k < rows.length
  g : ∀ P', Hold rgs rows P' → ∀ r x, r < rows.length → x < 16 → P' r x = true → P r x = true
  h : ∀ (r : Nat) (row : Row), r ∉ ws → rows[r]? = some row → ∀ w ∈ waysR r row, ∀ x, x < 16 → P w x = true → bhd rgs row (P r) x = true
structure GStp (rgs : List Rg) (rows : List Row) (P0 : Nat → Mb) (ws0 : List Nat) (i : Nat) (row : Row) (j : Nat) (P : Nat → Mb) (ws : List Nat) : Prop where
  w : ∀ k ∈ ws, k < rows.length
  g : ∀ P', Hold rgs rows P' → ∀ r x, r < rows.length → x < 16 → P' r x = true → P r x = true
  h : ∀ (r : Nat) (row : Row), r ≠ i → r ∉ ws → rows[r]? = some row → ∀ w ∈ waysR r row, ∀ x, x < 16 → P w x = true → bhd rgs row (P r) x = true
  d : ∀ w ∈ (waysR i row).take j, ∀ x, x < 16 → P w x = true → bhd rgs row (P0 i) x = true
  l : ∀ k x, P k x = true → P0 k x = true
  e : i ∉ ws → P i = P0 i
  s : 2 * Sz P rows.length + ws.length ≤ 2 * Sz P0 rows.length + ws0.length
theorem GStp.fin {rgs : List Rg} {rows : List Row} {P0 P : Nat → Mb} {ws0 ws : List Nat} {i : Nat} {row : Row} (hi : rows[i]? = some row) (h : GStp rgs rows P0 ws0 i row (waysR i row).length P ws) : GInv rgs rows P ws := ⟨h.w, h.g, fun r row' hr hrow w hw x hx hp => by
  by_cases e : r = i
  · subst e
    rw [hi] at hrow
    cases hrow
    have hd := h.d
    rw [List.take_length] at hd
    rw [h.e hr]
    exact hd w hw x hx hp
  · exact h.h r row' e hr hrow w hw x hx hp⟩
theorem GStp.cut {rgs : List Rg} {rows : List Row} {P0 P : Nat → Mb} {ws0 ws : List Nat} {i j w : Nat} {row : Row} {q : Mb} (jo : JOk rows) (hi : rows[i]? = some row) (hw : (waysR i row)[j]? = some w) (hq : q = fun x => P w x && bhd rgs row (P0 i) x) (ne : mL q ≠ mL (P w)) (h : GStp rgs rows P0 ws0 i row j P ws) :
    GStp rgs rows P0 ws0 i row (j + 1) (updP P w q) (ws ++ [w]) := by
  have ro := jo.r i row hi
  have il := (List.getElem?_eq_some_iff.mp hi).1
  have wm := List.mem_of_getElem? hw
  have wl := waysR_lt ro wm
  have qle : ∀ x, q x = true → P w x = true := fun x hx => by
    rw [hq] at hx
    exact (Bool.and_eq_true_iff.mp hx).1
  have ule : ∀ k x, updP P w q k x = true → P k x = true := fun k x hx => by
    unfold updP at hx
    split at hx
    · rename_i e
      rw [e]
      exact qle x hx
    · exact hx
  refine ⟨fun k hk => ?_, fun P' hP' r x hr hx hp => ?_, fun r row' hri hr hrow w' hw' x hx hp => ?_, fun w' hw' x hx hp => ?_, fun k x hp => h.l k x (ule k x hp), fun hn => ?_, ?_⟩
  · rcases List.mem_append.mp hk with hk | hk
    · exact h.w k hk
    · rw [List.mem_singleton.mp hk]
      exact wl
  · have h1 := h.g P' hP' r x hr hx hp
    unfold updP
    split
    · rename_i e
      subst e
      rw [hq]
      show (P r x && bhd rgs row (P0 i) x) = true
      rw [h1, Bool.true_and]
      refine bhd_mono (p := P' i) (fun y hy hpy => h.l i y (h.g P' hP' i y il hy hpy)) ro x hx (hP' i row hi r wm x hx hp)
    · exact h1
  · rw [List.mem_append, not_or, List.mem_singleton] at hr
    have e : updP P w q r = P r := if_neg hr.2
    rw [e]
    exact h.h r row' hri hr.1 hrow w' hw' x hx (ule w' x hp)
  · rw [List.take_add_one, hw] at hw'
    rcases List.mem_append.mp hw' with hw' | hw'
    · exact h.d w' hw' x hx (ule w' x hp)
    · have e : w' = w := by simpa using hw'
      subst e
      have : updP P w' q w' = q := if_pos rfl
      rw [this, hq] at hp
      exact (Bool.and_eq_true_iff.mp hp).2
  · rw [List.mem_append, not_or, List.mem_singleton] at hn
    have e : updP P w q i = P i := if_neg hn.2
    rw [e]
    exact h.e hn.1
  · have z := sz_upd (P := P) (q := q) wl
    have z2 := filt_lt (fun x _ => qle x) ne
    have := h.s
    rw [List.length_append, List.length_singleton]
    omega
theorem GStp.same {rgs : List Rg} {rows : List Row} {P0 P : Nat → Mb} {ws0 ws : List Nat} {i j w : Nat} {row : Row} {q : Mb} (hw : (waysR i row)[j]? = some w) (hq : q = fun x => P w x && bhd rgs row (P0 i) x) (e : mL q = mL (P w)) (h : GStp rgs rows P0 ws0 i row j P ws) : GStp rgs rows P0 ws0 i row (j + 1) P ws := by
  refine ⟨h.w, h.g, h.h, fun w' hw' x hx hp => ?_, h.l, h.e, h.s⟩
  rw [List.take_add_one, hw] at hw'
  rcases List.mem_append.mp hw' with hw' | hw'
  · exact h.d w' hw' x hx hp
  · have e2 : w' = w := by simpa using hw'
    subst e2
    rw [← mL_inj e x hx, hq] at hp
    exact (Bool.and_eq_true_iff.mp hp).2


/-! ### the greatest paper is found; the judge -/
theorem all_dk (T : Txt fa fn K mg (XOk cs xcs K w)) (H : Hp) : Dk K H (.ref (He.ga K "ALL")) (mD fun _ => true) := T.m.dk (x := "ALL") (ks := [0, 1, 2, 3, 4, 5, 6, 7, 8, 9, 10, 11, 12, 13, 14, 15]) in_ALL H
theorem rgV_nV (n : Nat) : L2.rgV 0 (n : Int) = nV (List.range n) := by
  unfold L2.rgV nV
  have e : ((n : Int) - 0).toNat = n := by omega
  rw [e]
  refine List.map_congr_left fun i _ => ?_
  congr 1
  omega
theorem nV_snoc {l : List Nat} {n : Nat} : nV (l ++ [n]) = nV l ++ [V.int (n : Int)] := by
  unfold nV
  rw [List.map_append]
  rfl
def sp_greatest_paper (K : PySem.W.Frag) : Sp := fun vs H Q _ => ∃ (code : V) (rgs : List Rg) (rows : List Row), vs = [code] ∧ Im H code (codeD rgs rows) ∧ JOk rows ∧
  ∀ H' x P, Grt rgs rows P → Same H H' → Dk K H' x (papD P rows.length) → Q x H'
theorem sc_greatest_paper : FnScope ["code", "paper", "waiting", "r", "behind", "way", "less", "one"] ["code"] (defScope (topS 11)) := ⟨rfl, rfl, rfl, by decide +kernel, rfl, by decide +kernel, by decide +kernel⟩
theorem ok_greatest_paper (T : Txt fa fn K mg (XOk cs xcs K w)) : Dn P w K mg base CX0 3 "greatest_paper" ["code"] (sp_greatest_paper K) := by
  refine mk_dn (d := dOf "greatest_paper" 11) T 5 5 rfl rfl rfl rfl rfl sc_greatest_paper (by walk_at "len") (fun _ _ _ _ _ _ us hl => match us, hl with | [_], _ => rfl) (fun cdv A outer s H vs Q E hr h => ⟨_, (pss_cons (ps_set (i := 1) sc_greatest_paper.nd rfl (.inl rfl) (pe_op op_mulU (pe_lst (pa_cons (pe_glob (v := .ref (He.ga K "ALL")) rfl (T.glo 40 rfl) rfl) pa_nil)) (pe_callB (c_len (K := K) rfl) rfl (T.free 32 rfl) (by decide +kernel) (pa_cons (pe_ixU (K := K) rfl (hu_of hr) (pv 0) pe_int) pa_nil))))
      (pss_cons (ps_set (i := 2) sc_greatest_paper.nd rfl (.inl rfl) (pe_listRg rfl rfl (T.free 33 rfl) (prg_1 rfl (T.free 34 rfl) (pe_callB (c_len (K := K) rfl) rfl (T.free 32 rfl) (by decide +kernel) (pa_cons (pv 1) pa_nil)))))
      (pss_cons (ps_while PassesOwn.never (pt_cmpR (op_neU (K := K) rfl hr.units) (pv 2) (pe_lst pa_nil) (nomark _)) (pss_cons (ps_set (i := 3) sc_greatest_paper.nd rfl (.inl rfl) (pe_bm0 PySem.F.plainAttrs_list PySem.F.slot_list_pop PySem.F.type_list_pop mt_pop (pv 2)))
      (pss_cons (ps_set (i := 4) sc_greatest_paper.nd rfl (.inr rfl) (pe_callD (K := K) rfl (ok_public_behind T) (hr.mono (by decide)) rfl pass0 (pa_cons (pv 0) (pa_cons (pv 3) (pa_cons (pe_ixU (K := K) rfl (hu_of hr) (pv 1) (pv 3)) pa_nil)))))
      (pss_one (ps_for PassesOwn.never rfl (pi_seq (K := K) rfl (pe_callD (K := K) rfl (ok_ways T) (hr.mono (by decide)) rfl pass0 (pa_cons (pv 0) (pa_cons (pv 3) pa_nil)))) (pg_name (i := 5) sc_greatest_paper.nd rfl (.inl rfl)) (pss_cons (ps_set (i := 6) sc_greatest_paper.nd rfl (.inl rfl) (pe_callTy (c_tuple (K := K) rfl) rfl (T.free 37 rfl) (by decide +kernel) (pa_cons (pe_lc rfl sc_greatest_paper.nd (pi_seq (K := K) rfl (pe_ixU (K := K) rfl (hu_of hr) (pv 1) (pv 5))) (blkOk_by (own := [("one", 7)]) (N := ["code", "paper", "waiting", "r", "behind", "way", "less", "one"]) (sc := defScope (topS 11)) (by decide +kernel)) (fun _ _ _ _ _ => (pg_name (i := 7) sc_greatest_paper.nd rfl (.inl rfl))) (fun _ _ _ _ _ => (pts_one (pt_cmpR (op_inU (K := K) rfl (hu65 hr)) (pv 7) (pv 4) (by rfl)))) (fun _ _ _ _ _ => (pv 7))) pa_nil)))
      (pss_one (ps_if (pt_cmpR (op_neU (K := K) rfl hr.units) (pv 6) (pe_ixU (K := K) rfl (hu_of hr) (pv 1) (pv 5)) (nomark _)) (pss_cons (ps_asg (pv 6) (pg_sub (pv 1) (pv 5) (set_U (hu_of hr))))
      (pss_one (ps_expr (pe_bm PySem.F.plainAttrs_list PySem.F.slot_list_append PySem.F.type_list_append mt_append (pv 2) (pa_cons (pv 5) pa_nil))))) pss_nil))))))))
      (pss_one (ps_ret (pe_callTy (c_tuple (K := K) rfl) rfl (T.free 37 rfl) (by decide +kernel) (pa_cons (pv 1) pa_nil))))))), ?_⟩)
  obtain ⟨code, rgs, rows, rfl, ic, jo, hQ⟩ := h
  have ju := jo.u
  walk_at "go"
  refine ⟨by show 1 ≤ sizeLine; decide, fun u hu => ?_⟩
  have s1 := Same.new (o := .lst [.ref (He.ga K "ALL")]) hu
  walk_at "go"
  refine m_ix (ic.same s1) (n := 1) rfl rfl (fun v1 hv1 => ?_)
  walk_at "go"
  refine m_len hv1 ?_
  rw [List.length_map]
  refine g_rep upd_same (by omega) (by omega) (fun pa hpa => ?_)
  rw [Int.toNat_natCast]
  have s2 := s1.trans (Same.new (o := .lst (List.replicate rows.length (V.ref (He.ga K "ALL")))) hpa)
  have hpaH : H pa = none := s1.free hpa
  walk_at "go"
  refine g_lstRg (g_rg1 ?_)
  walk_at "go"
  refine g_lenL (SqL.of upd_same) ?_
  rw [List.length_replicate]
  walk_at "go"
  refine ⟨RgOk.of_le (by decide) (by omega) (by decide) (by omega), fun wa hwa => ?_⟩
  rw [rgV_nV]
  have hwaH : H wa = none := s2.free hwa
  have M3 : Has (upd (upd H u (.lst [.ref (He.ga K "ALL")])) pa (.lst (List.replicate rows.length (V.ref (He.ga K "ALL"))))) [(pa, HO.lst (List.replicate rows.length (V.ref (He.ga K "ALL"))))] := Has.one upd_same
  have M4 := M3.new (o := .lst (nV (List.range rows.length))) hwa
  have s3 := s2.trans (Same.new (o := .lst (nV (List.range rows.length))) hwa)
  walk_at "go"
  refine ⟨fun m σ H' => ∃ (o3 o4 o5 o6 : Option V) (P : Nat → Mb) (ws : List Nat) (xs : List V), σ = [some code, some (.ref pa), some (.ref wa), o3, o4, o5, o6, none] ∧ Same H H' ∧ Has H' [(pa, .lst xs), (wa, .lst (nV ws))] ∧ Dks K H' xs ((List.range rows.length).map fun r => mD (P r)) ∧ GInv rgs rows P ws ∧
    m = 2 * Sz P rows.length + ws.length ∧ m ≤ 33 * rows.length, ⟨2 * Sz (fun _ _ => true) rows.length + rows.length, _, _, _, _, fun _ _ => true, List.range rows.length, _, rfl, s3, M4, ?_, ⟨fun k hk => List.mem_range.mp hk, fun _ _ _ _ _ _ _ => rfl, fun r row hr hrow => absurd (List.mem_range.mpr (List.getElem?_eq_some_iff.mp hrow).1) hr⟩, by rw [List.length_range], ?_⟩, ?_⟩
  · have e : ((List.range rows.length).map fun r => mD ((fun (_ : Nat) (_ : Nat) => true) r)) = List.replicate rows.length (mD fun _ => true) := by
      rw [List.map_const', List.length_range]
    rw [e]
    exact (Dks.rep (all_dk T _) _)
  · have := sz_le (P := fun _ _ => true) (n := rows.length)
    omega
  rintro m σ H1 ⟨o3, o4, o5, o6, P, ws, xs, rfl, sm, M, dk, gi, em, hm⟩
  walk_at "go"
  refine ⟨by decide, fun E hE => ?_⟩
  have M1 := M.new (o := .lst []) hE
  have hw1 : upd H1 E (.lst []) wa = some (.lst ((ws.map fun (n : Nat) => (n : Int)).map V.int)) := by rw [← nV_ints]; exact M1.get 1 rfl
  have sE := Same.new (o := .lst []) hE
  have smE := sm.trans sE
  refine g_neD (lst_dp hw1) (lst_dp (ns := []) upd_same) lst_shaped lst_shaped ?_
  rw [List.map_nil, eqv_lnil]
  walk_at "go"
  have hem : ((ws.map fun (n : Nat) => (n : Int)).map PyData.int).isEmpty = ws.isEmpty := by cases ws <;> rfl
  rw [hem]
  have dkE := dk.same sE
  generalize upd H1 E (.lst []) = H2 at M1 smE dkE sE
  have M2 : Has H2 [(pa, .lst xs), (wa, .lst (nV ws))] := M1.sub (List.sublist_append_left _ _)
  clear M1
  refine g_ifBn (fun c => ?_) (fun c => ?_)
  · refine g_whileT ?_
    obtain ⟨ws', i, rfl⟩ : ∃ ws' i, ws = ws' ++ [i] := by
      rcases List.eq_nil_or_concat ws with rfl | ⟨ws', i, e⟩
      · cases c
      · exact ⟨ws', i, by simpa using e⟩
    have hil : i < rows.length := gi.w i (by simp)
    have hrow : rows[i]? = some (rows[i]'hil) := List.getElem?_eq_getElem _
    generalize rows[i]'hil = row at hrow
    have ro := jo.r i row hrow
    have hxl := dkE.length
    rw [List.length_map, List.length_range] at hxl
    rw [List.length_append, List.length_singleton] at em
    rw [nV_snoc] at M2
    walk_at "go"
    refine ⟨wa, nV ws' ++ [V.int (i : Int)], .int (i : Int), rfl, rfl, M2.get 1 rfl, by simp, ?_⟩
    have M3 := M2.set (o' := .lst (nV ws')) 1 rfl
    have ed : (nV ws' ++ [V.int (i : Int)]).dropLast = nV ws' := by simp
    rw [ed]
    have smW : Same H (upd H2 wa (.lst (nV ws'))) := Same.mut smE hwaH
    have kt : KT H2 (upd H2 wa (.lst (nV ws'))) := KT.set (M2.get 1 rfl) (fun _ z => nomatch z)
    have dk3 := dkE.mono kt
    generalize upd H2 wa (.lst (nV ws')) = H3 at M3 smW dk3 kt
    have M3 : Has H3 [(pa, .lst xs), (wa, .lst (nV ws'))] := M3
    walk_at "go"
    obtain ⟨pv, hpv, hpd⟩ := dk3.get (n := i) (pap_at hil)
    refine g_ixL (SqL.of (M3.get 0 rfl)) (n := i) rfl hpv ?_
    walk_at "go"
    refine ⟨code, pv, i, _, rgs, rows, row, P i, rfl, ic.same smW, hrow, ro, hpd, fun H4 b s4 hb => ?_⟩
    have smB := smW.trans s4
    obtain ⟨ba, rfl, hba⟩ := nD_at hb
    walk_at "go"
    refine ⟨code, i, rgs, rows, row, rfl, ic.same smB, hrow, fun H5 y s5 hy => ?_⟩
    have smY := smB.trans s5
    refine m_seq hy (fun ya ys ey hya hys => ?_)
    subst ey
    obtain rfl := dks_nV_inv (K := K) hys.dk
    have M5 := (M3.keep s4).keep s5
    have dk5 := (dk3.same s4).same s5
    have hba5 := hba.same s5
    refine f_tup (xs := nV (waysR i row)) (fun j σ H' => ∃ (o5 o6 : Option V) (P1 : Nat → Mb) (ws1 : List Nat) (xs1 : List V), σ = [some code, some (.ref pa), some (.ref wa), some (.int (i : Int)), some (.ref ba), o5, o6, none] ∧ Same H H' ∧ KT H5 H' ∧ Has H' [(pa, .lst xs1), (wa, .lst (nV ws1))] ∧ Dks K H' xs1 ((List.range rows.length).map fun r => mD (P1 r)) ∧ GStp rgs rows P ws' i row j P1 ws1)
      ⟨_, _, P, ws', xs, rfl, smY, KT.refl, M5, dk5, ⟨fun k hk => gi.w k (by simp [hk]), gi.g, fun r row' hr hn hrow' => gi.h r row' (by simp [hn, hr]) hrow', by simp, fun _ _ z => z, fun _ => rfl, Nat.le_refl _⟩⟩ (fun j σ H' _ ⟨_, _, _, _, _, _, _, k5, _⟩ => SqT.of (k5 _ _ hya)) ?_ ?_
    · rintro j y σ H6 hj ⟨o5, o6, P1, ws1, xs1, rfl, sm6, k6, M6, dk6, st⟩
      have hjl := (List.getElem?_eq_some_iff.mp hj).1
      rw [nV_len] at hjl
      have hw : (waysR i row)[j]? = some ((waysR i row)[j]'hjl) := List.getElem?_eq_getElem _
      generalize (waysR i row)[j]'hjl = w at hw
      rw [nV_at hw] at hj
      cases hj
      have hwn := waysR_lt ro (List.mem_of_getElem? hw)
      have hxl6 := dk6.length
      rw [List.length_map, List.length_range] at hxl6
      obtain ⟨wv, hwv, hwd⟩ := dk6.get (n := w) (pap_at hwn)
      obtain ⟨va, rfl, hva⟩ := nD_at hwd
      have hba6 : TupK K H6 ba (nV (mL (bhd rgs row (P i)))) := hba5.mono k6
      have stb := st.s
      walk_at "go"
      refine g_ixL (SqL.of (M6.get 0 rfl)) (n := w) rfl hwv ?_
      walk_at "go"
      refine g_seqT hva.sq ?_
      refine l_filtT (f := bhd rgs row (P i)) hva (Nat.le_trans mL_len (by decide)) (by intro _; rfl) (fun q m H7 QB hmq s7 hQB => ?_) (fun m H7 R hR => ?_) (fun D H7 hD7 s7 hD => ?_)
      · have hm16 := (mL_mem.mp (List.mem_of_getElem? hmq)).1
        walk_at "go"
        exact k_inM (hba6.same s7) hm16 (g_exb (hQB _ (Same.refl _)))
      · walk_at "go"
        exact hR
      obtain ⟨q, eq⟩ : ∃ q : Mb, q = fun x => P1 w x && bhd rgs row (P i) x := ⟨_, rfl⟩
      have ef : (mL (P1 w)).filter (bhd rgs row (P i)) = mL q := by
        rw [eq]
        unfold mL
        rw [List.filter_filter]
        refine List.filter_congr fun x _ => ?_
        rw [Bool.and_comm]
      rw [ef] at hD
      have M7 := M6.keep s7
      have dk7 := dk6.same s7
      walk_at "go"
      refine m_tupleL (SqL.of hD) (ims_nV _) (fun t H8 s8 _ ht => ?_)
      have ht : Im H8 (.ref t) (mD q) := ht
      have M8 := M7.keep s8
      have dk8 := dk7.same s8
      have hwd8 := (hwd.same s7).same s8
      have sm8 := (sm6.trans s7).trans s8
      walk_at "go"
      refine g_ixL (SqL.of (M8.get 0 rfl)) (n := w) rfl hwv ?_
      refine k_ne ht.dk hwd8 (nD_lay.shaped (by decide)) (nD_lay.shaped (by decide)) ?_
      rw [show PyData.eqv (mD q) (mD (P1 w)) = decide (mL q = mL (P1 w)) from eqv_nD]
      walk_at "go"
      refine g_ifN (fun c2 => ?_) (fun c2 => ?_)
      · walk_at "go"
        refine g_setU M8 0 rfl rfl (by omega) (fun M9 => ?_)
        have kt9 : KT H8 (upd H8 pa (.lst (xs1.set w (.ref t)))) := KT.set (M8.get 0 rfl) (fun _ z => nomatch z)
        have sm9 : Same H (upd H8 pa (.lst (xs1.set w (.ref t)))) := Same.mut sm8 hpaH
        have dk9 := (dk8.mono kt9).set w (ht.dk.mono kt9)
        rw [pap_set] at dk9
        generalize upd H8 pa (.lst (xs1.set w (.ref t))) = H9 at M9 kt9 sm9 dk9
        have M9 : Has H9 [(pa, .lst (xs1.set w (.ref t))), (wa, .lst (nV ws1))] := M9
        walk_at "go"
        refine g_append M9 1 rfl (Nat.lt_of_le_of_lt (show (nV ws1).length ≤ 2000000 by rw [nV_len]; omega) (by decide)) (fun M10 => ?_)
        have kt10 : KT H9 (upd H9 wa (.lst (nV ws1 ++ [V.int (w : Int)]))) := KT.set (M9.get 1 rfl) (fun _ z => nomatch z)
        rw [← nV_snoc] at M10 kt10 ⊢
        walk_at "go"
        exact ⟨_, _, _, _, _, rfl, Same.mut sm9 hwaH, (((k6.trans (KT.of s7)).trans (KT.of s8)).trans kt9).trans kt10, M10, dk9.mono kt10, st.cut jo hrow hw eq c2⟩
      · walk_at "go"
        exact ⟨_, _, _, _, _, rfl, sm8, (k6.trans (KT.of s7)).trans (KT.of s8), M8, dk8, st.same hw eq c2⟩
    · rintro σ H6 ⟨o5, o6, P1, ws1, xs1, rfl, sm6, k6, M6, dk6, st⟩
      rw [nV_len] at st
      have stb := st.s
      refine ⟨2 * Sz P1 rows.length + ws1.length, by omega, _, _, _, _, P1, ws1, xs1, rfl, sm6, M6, dk6, st.fin hrow, rfl, by omega⟩
  · walk_at "go"
    refine k_tupleL (SqL.of (M2.get 0 rfl)) dkE (fun t H3 s3 _ ht => ?_)
    have e : ws = [] := List.isEmpty_iff.mp c
    subst e
    exact hQ _ _ P ⟨fun r row hr w hw x hx hp => gi.h r row (by simp) hr w hw x hx hp, fun P' hP' r x hr hx hp => gi.g P' hP' r x hr hx hp⟩ (smE.trans s3) ht
def wV : Option Str → V
  | none => .non
  | some z => .str z
def spanW (rgs : List Rg) (p : Mb) (a : Nat) (base mask : Int) (st : Option Nat) : Option Str :=
  if p a = true then (match regOf rgs base mask with
    | none => some "region"
    | some g => match st with
      | some b => if p b = true then none else if g.l = "public" then some "store" else none
      | none => none) else some "address"
def refW (rgs : List Rg) (r : Row) (p : Mb) : Option Str := match r with
  | .branch a _ => if p a = true then none else some "branch"
  | .out a => if p a = true then none else some "out"
  | .load _ a base mask => spanW rgs p a base mask none
  | .store a base mask b => spanW rgs p a base mask (some b)
  | .op .div _ a b => if p a = true then (if p b = true then none else some "cost") else some "cost"
  | .op .mod _ a b => if p a = true then (if p b = true then none else some "cost") else some "cost"
  | _ => none
def sp_span_word (K : PySem.W.Frag) : Sp := fun vs H Q _ => ∃ (code m : V) (ra many k : Nat) (at_ : Int) (rgs : List Rg) (rows : List Row) (row : Row) (p : Mb), vs = [code, .ref ra, .int at_, m] ∧ Im H code (codeD rgs rows) ∧ H ra = some (.tup row.v) ∧ RowOkD many k row ∧ Dk K H m (mD p) ∧
  ((∃ d a b mk, row = .load d a b mk ∧ at_ = 2) ∨ ∃ a b mk c, row = .store a b mk c ∧ at_ = 1) ∧ Q (wV (refW rgs row p)) H
theorem sc_span_word : FnScope ["code", "row", "at", "member", "region"] ["code", "row", "at", "member"] (defScope (topS 13)) := ⟨rfl, rfl, rfl, by decide +kernel, rfl, by decide +kernel, by decide +kernel⟩
theorem ok_span_word (T : Txt fa fn K mg (XOk cs xcs K w)) : Dn P w K mg base CX0 2 "span_word" ["code", "row", "at", "member"] (sp_span_word K) := by
  refine mk_dn (d := dOf "span_word" 13) T 6 6 rfl rfl rfl rfl rfl sc_span_word (by walk_at "len") (fun _ _ _ _ _ _ us hl => match us, hl with | [_, _, _, _], _ => rfl) (fun cdv A outer s H vs Q E hr h => ⟨_, (pss_cons (ps_if (pt_cmpR (op_niU (K := K) rfl (hu65 hr)) (pe_ixU (K := K) rfl (hu_of hr) (pv 1) (pv 2)) (pv 3) (by rfl)) (pss_one (ps_ret pe_str)) pss_nil)
      (pss_cons (ps_set (i := 4) sc_span_word.nd rfl (.inl rfl) (pe_callD (K := K) rfl (ok_region_of T) (hr.mono (by decide)) rfl pass0 (pa_cons (pv 0) (pa_cons (pe_ixU (K := K) rfl (hu_of hr) (pv 1) (pe_op (op_addU (K := K) rfl) (pv 2) pe_int)) (pa_cons (pe_ixU (K := K) rfl (hu_of hr) (pv 1) (pe_op (op_addU (K := K) rfl) (pv 2) pe_int)) pa_nil)))))
      (pss_cons (ps_if (pt_cmpR o_isN (pv 4) pe_non (nomark _)) (pss_one (ps_ret pe_str)) pss_nil)
      (pss_cons (ps_if (PW.pt (pw_and (pt_cmpR (op_eqU (K := K) rfl hr.units) (pe_ixU (K := K) rfl (hu_of hr) (pv 1) pe_int) pe_str (nomark _)) (pw_and (pt_cmpR (op_niU (K := K) rfl (hu65 hr)) (pe_ixU (K := K) rfl (hu_of hr) (pv 1) pe_int) (pv 3) (by rfl)) (pw_and1 (pt_cmpR (op_eqU (K := K) rfl hr.units) (pe_ixU (K := K) rfl (hu_of hr) (pv 4) pe_int) pe_str (nomark _)))))) (pss_one (ps_ret pe_str)) pss_nil)
      (pss_one (ps_ret pe_non)))))), ?_⟩)
  obtain ⟨code, m, ra, many, k, at_, rgs, rows, row, p, rfl, ic, hra, ro, im, hk, hQ⟩ := h
  obtain ⟨ma, rfl, hma⟩ := nD_at im
  rcases hk with ⟨d, a, b, mk, rfl, rfl⟩ | ⟨a, b, mk, c, rfl, rfl⟩
  · have hra : H ra = some (.tup [.str "load", .int d, .int a, .int b, .int mk]) := hra
    have hQ : Q (wV (spanW rgs p a b mk none)) H := hQ
    unfold spanW at hQ
    walk_at "go"
    refine k_niM hma ro.2.1 ?_
    walk_at "go"
    refine g_ifBn (fun c1 => ?_) (fun c1 => ?_)
    · rw [c1, if_neg Bool.false_ne_true] at hQ
      walk_at "go"
      exact hQ
    · rw [c1, if_pos rfl] at hQ
      walk_at "go"
      refine ⟨code, b, mk, rgs, rows, rfl, ic, fun hn => ?_, fun g v hg hv => ?_⟩
      · rw [hn] at hQ
        walk_at "go"
        exact hQ
      · rw [hg] at hQ
        obtain ⟨ga, rfl, hga⟩ := im3v hv
        walk_at "go"
        exact hQ
  · have hra : H ra = some (.tup [.str "store", .int a, .int b, .int mk, .int c]) := hra
    have hQ : Q (wV (spanW rgs p a b mk (some c))) H := hQ
    unfold spanW at hQ
    walk_at "go"
    refine k_niM hma ro.1 ?_
    walk_at "go"
    refine g_ifBn (fun c1 => ?_) (fun c1 => ?_)
    · rw [c1, if_neg Bool.false_ne_true] at hQ
      walk_at "go"
      exact hQ
    · rw [c1, if_pos rfl] at hQ
      walk_at "go"
      refine ⟨code, b, mk, rgs, rows, rfl, ic, fun hn => ?_, fun g v hg hv => ?_⟩
      · rw [hn] at hQ
        walk_at "go"
        exact hQ
      · rw [hg] at hQ
        obtain ⟨ga, rfl, hga⟩ := im3v hv
        have hQ : Q (wV (if p c = true then none else if g.l = "public" then some "store" else none)) H := hQ
        walk_at "go"
        refine k_niM hma ro.2.1 ?_
        walk_at "go"
        refine g_ifBn (fun c2 => ?_) (fun c2 => ?_)
        · rw [c2, if_neg Bool.false_ne_true] at hQ
          walk_at "go"
          refine g_if (fun c3 => ?_) (fun c3 => ?_)
          · rw [if_pos c3] at hQ
            walk_at "go"
            exact hQ
          · rw [if_neg c3] at hQ
            walk_at "go"
            exact hQ
        · rw [c2, if_pos rfl] at hQ
          walk_at "go"
          exact hQ


/-! ### refusal, judge -/
def sp_refusal (K : PySem.W.Frag) : Sp := fun vs H Q _ => ∃ (code m : V) (ra many k : Nat) (rgs : List Rg) (rows : List Row) (row : Row) (p : Mb), vs = [code, .ref ra, m] ∧ Im H code (codeD rgs rows) ∧ H ra = some (.tup row.v) ∧ RowOkD many k row ∧ Dk K H m (mD p) ∧
  ∀ H', Same H H' → Q (wV (refW rgs row p)) H'
def isDM : Sg → Bool
  | .div => true
  | .mod => true
  | _ => false
theorem sg_dm : ∀ s : Sg, (["div", "mod"] : List Str).contains s.s = isDM s := by
  intro s
  cases s <;> decide +kernel
theorem sc_refusal : FnScope ["code", "row", "member", "kind"] ["code", "row", "member"] (defScope (topS 14)) := ⟨rfl, rfl, rfl, by decide +kernel, rfl, by decide +kernel, by decide +kernel⟩
theorem ok_refusal (T : Txt fa fn K mg (XOk cs xcs K w)) : Dn P w K mg base CX0 3 "refusal" ["code", "row", "member"] (sp_refusal K) := by
  refine mk_dn (d := dOf "refusal" 14) T 7 7 rfl rfl rfl rfl rfl sc_refusal (by walk_at "len") (fun _ _ _ _ _ _ us hl => match us, hl with | [_, _, _], _ => rfl) (fun cdv A outer s H vs Q E hr h => ⟨_, (pss_cons (ps_set (i := 3) sc_refusal.nd rfl (.inl rfl) (pe_ixU (K := K) rfl (hu_of hr) (pv 1) pe_int))
      (pss_cons (ps_if (PW.pt (pw_and (pt_cmpR (op_inU (K := K) rfl (hu65 hr)) (pv 3) (pe_tup (pa_cons pe_str (pa_cons pe_str pa_nil))) (by rfl)) (pw_and1 (pt_cmpR (op_niU (K := K) rfl (hu65 hr)) (pe_ixU (K := K) rfl (hu_of hr) (pv 1) pe_int) (pv 2) (by rfl))))) (pss_one (ps_ret (pv 3))) pss_nil)
      (pss_cons (ps_if (pt_cmpR (op_eqU (K := K) rfl hr.units) (pv 3) pe_str (nomark _)) (pss_one (ps_ret (pe_callD (K := K) rfl (ok_span_word T) (hr.mono (by decide)) rfl pass0 (pa_cons (pv 0) (pa_cons (pv 1) (pa_cons pe_int (pa_cons (pv 2) pa_nil))))))) pss_nil)
      (pss_cons (ps_if (pt_cmpR (op_eqU (K := K) rfl hr.units) (pv 3) pe_str (nomark _)) (pss_one (ps_ret (pe_callD (K := K) rfl (ok_span_word T) (hr.mono (by decide)) rfl pass0 (pa_cons (pv 0) (pa_cons (pv 1) (pa_cons pe_int (pa_cons (pv 2) pa_nil))))))) pss_nil)
      (pss_cons (ps_if (PW.pt (pw_and (pt_cmpR (op_eqU (K := K) rfl hr.units) (pv 3) pe_str (nomark _)) (pw_and1 (pt_cmpR (op_inU (K := K) rfl (hu65 hr)) (pe_ixU (K := K) rfl (hu_of hr) (pv 1) pe_int) (pe_tup (pa_cons pe_str (pa_cons pe_str pa_nil))) (by rfl))))) (pss_one (ps_if (PW.pt (pw_or (pt_cmpR (op_niU (K := K) rfl (hu65 hr)) (pe_ixU (K := K) rfl (hu_of hr) (pv 1) pe_int) (pv 2) (by rfl)) (pw_or1 (pt_cmpR (op_niU (K := K) rfl (hu65 hr)) (pe_ixU (K := K) rfl (hu_of hr) (pv 1) pe_int) (pv 2) (by rfl))))) (pss_one (ps_ret pe_str)) pss_nil)) pss_nil)
      (pss_one (ps_ret pe_non))))))), ?_⟩)
  obtain ⟨code, m, ra, many, k, rgs, rows, row, p, rfl, ic, hra, ro, im, hQ⟩ := h
  obtain ⟨ma, rfl, hma⟩ := nD_at im
  have sp : ∀ (xs : List V) (u : Addr), H u = none → Same H (upd H u (.tup xs)) := fun xs u hu => Same.new hu
  cases row with
  | branch a t =>
    have hra : H ra = some (.tup [.str "branch", .int a, .int t]) := hra
    have hQ : ∀ H', Same H H' → Q (wV (if p a = true then none else some "branch")) H' := hQ
    walk_at "go"
    refine ⟨by show 2 ≤ sizeLine; decide, fun u hu => ?_⟩
    refine g_inTs (ks := ["branch", "out"]) (.inl upd_same) ?_
    have su := sp [.str "branch", .str "out"] u hu
    have hra1 := su _ _ hra
    have e : (["branch", "out"] : List Str).contains "branch" = true := by decide +kernel
    rw [e]
    walk_at "go"
    refine k_niM (hma.same su) ro.1 ?_
    walk_at "go"
    refine g_ifBn (fun c => ?_) (fun c => ?_)
    · rw [c, if_neg Bool.false_ne_true] at hQ
      walk_at "go"
      exact hQ _ su
    · rw [c, if_pos rfl] at hQ
      walk_at "go"
      exact hQ _ su
  | out a =>
    have hra : H ra = some (.tup [.str "out", .int a]) := hra
    have hQ : ∀ H', Same H H' → Q (wV (if p a = true then none else some "out")) H' := hQ
    walk_at "go"
    refine ⟨by show 2 ≤ sizeLine; decide, fun u hu => ?_⟩
    refine g_inTs (ks := ["branch", "out"]) (.inl upd_same) ?_
    have su := sp [.str "branch", .str "out"] u hu
    have hra1 := su _ _ hra
    have e : (["branch", "out"] : List Str).contains "out" = true := by decide +kernel
    rw [e]
    walk_at "go"
    refine k_niM (hma.same su) ro.1 ?_
    walk_at "go"
    refine g_ifBn (fun c => ?_) (fun c => ?_)
    · rw [c, if_neg Bool.false_ne_true] at hQ
      walk_at "go"
      exact hQ _ su
    · rw [c, if_pos rfl] at hQ
      walk_at "go"
      exact hQ _ su
  | load d a b mk =>
    have hra' := hra
    have hra : H ra = some (.tup [.str "load", .int d, .int a, .int b, .int mk]) := hra
    walk_at "go"
    refine ⟨by show 2 ≤ sizeLine; decide, fun u hu => ?_⟩
    refine g_inTs (ks := ["branch", "out"]) (.inl upd_same) ?_
    have su := sp [.str "branch", .str "out"] u hu
    have e : (["branch", "out"] : List Str).contains "load" = false := by decide +kernel
    rw [e]
    walk_at "go"
    exact ⟨code, .ref ma, ra, many, k, 2, rgs, rows, .load d a b mk, p, rfl, ic.same su, su _ _ hra', ro, im.same su, .inl ⟨d, a, b, mk, rfl, rfl⟩, hQ _ su⟩
  | store a b mk c =>
    have hra' := hra
    have hra : H ra = some (.tup [.str "store", .int a, .int b, .int mk, .int c]) := hra
    walk_at "go"
    refine ⟨by show 2 ≤ sizeLine; decide, fun u hu => ?_⟩
    refine g_inTs (ks := ["branch", "out"]) (.inl upd_same) ?_
    have su := sp [.str "branch", .str "out"] u hu
    have e : (["branch", "out"] : List Str).contains "store" = false := by decide +kernel
    rw [e]
    walk_at "go"
    exact ⟨code, .ref ma, ra, many, k, 1, rgs, rows, .store a b mk c, p, rfl, ic.same su, su _ _ hra', ro, im.same su, .inr ⟨a, b, mk, c, rfl, rfl⟩, hQ _ su⟩
  | op s d a b =>
    have hra : H ra = some (.tup [.str "op", .str s.s, .int d, .int a, .int b]) := hra
    walk_at "go"
    refine ⟨by show 2 ≤ sizeLine; decide, fun u hu => ?_⟩
    refine g_inTs (ks := ["branch", "out"]) (.inl upd_same) ?_
    have su := sp [.str "branch", .str "out"] u hu
    have hra1 := su _ _ hra
    have e : (["branch", "out"] : List Str).contains "op" = false := by decide +kernel
    rw [e]
    walk_at "go"
    refine ⟨by show 2 ≤ sizeLine; decide, fun u2 hu2 => ?_⟩
    refine g_inTs (ks := ["div", "mod"]) (.inl upd_same) ?_
    have su2 := Same.new' (o := .tup [.str "div", .str "mod"]) su hu2
    have hra2 := su2 _ _ hra
    rw [sg_dm s]
    have key : (s = .div ∨ s = .mod) ∨ (refW rgs (.op s d a b) p = none ∧ isDM s = false) := by
      cases s <;> first | exact .inl (.inl rfl) | exact .inl (.inr rfl) | exact .inr ⟨rfl, rfl⟩
    rcases key with hs | ⟨h1, h2⟩
    · have h1 : refW rgs (.op s d a b) p = if p a = true then (if p b = true then none else some ("cost" : Str)) else some ("cost" : Str) := by rcases hs with rfl | rfl <;> rfl
      have h2 : isDM s = true := by rcases hs with rfl | rfl <;> rfl
      rw [h1] at hQ
      rw [h2]
      walk_at "go"
      refine k_niM (hma.same su2) ro.2.1 ?_
      walk_at "go"
      refine g_ifBn (fun c => ?_) (fun c => ?_)
      · rw [c, if_neg Bool.false_ne_true] at hQ
        walk_at "go"
        exact hQ _ su2
      · rw [c, if_pos rfl] at hQ
        walk_at "go"
        refine k_niM (hma.same su2) ro.2.2.1 ?_
        walk_at "go"
        refine g_ifBn (fun c2 => ?_) (fun c2 => ?_)
        · rw [c2, if_neg Bool.false_ne_true] at hQ
          walk_at "go"
          exact hQ _ su2
        · rw [c2, if_pos rfl] at hQ
          walk_at "go"
          exact hQ _ su2
    · rw [h1] at hQ
      rw [h2]
      walk_at "go"
      exact hQ _ su2
  | _ =>
    have hra := hra
    simp only [Row.v] at hra
    walk_at "go"
    refine ⟨by show 2 ≤ sizeLine; decide, fun u hu => ?_⟩
    refine g_inTs (ks := ["branch", "out"]) (.inl upd_same) ?_
    have su := sp [.str "branch", .str "out"] u hu
    first | rw [show (["branch", "out"] : List Str).contains "const" = false by decide +kernel] | rw [show (["branch", "out"] : List Str).contains "select" = false by decide +kernel] | rw [show (["branch", "out"] : List Str).contains "jump" = false by decide +kernel] | rw [show (["branch", "out"] : List Str).contains "stop" = false by decide +kernel]
    walk_at "go"
    exact hQ _ su
/-- the first row that is refused -/
def dueD (rgs : List Rg) (rows : List Row) (P : Nat → Mb) (n : Nat) : Option (Nat × Str) := (List.range n).findSome? fun r => (rows[r]?).bind fun row => (refW rgs row (P r)).map fun w => (r, w)
theorem due_succ {rgs : List Rg} {rows : List Row} {P : Nat → Mb} {n : Nat} : dueD rgs rows P (n + 1) = (dueD rgs rows P n).or ((rows[n]?).bind fun row => (refW rgs row (P n)).map fun w => (n, w)) := by
  unfold dueD
  rw [List.range_succ, List.findSome?_append]
  congr 1
  simp [List.findSome?]
  cases (rows[n]?).bind fun row => (refW rgs row (P n)).map fun w => (n, w) <;> rfl
/-- what the judge says of a paper -/
def JudR (rgs : List Rg) (rows : List Row) (d : PyData) (o : Option (Int × Str)) : Prop :=
  (∃ P, d = papD P rows.length ∧ Hold rgs rows P ∧ o = (dueD rgs rows P rows.length).map fun q => ((q.1 : Int), q.2)) ∨ ((¬ ∃ P, d = papD P rows.length ∧ Hold rgs rows P) ∧ o = some (-1, ("paper" : Str)))
abbrev rfD (r : Int) (w : Str) : List (Str × V) := [("word", .str w), ("row", .int r)]
def sp_Refused___init__ (K : PySem.W.Frag) : Sp := fun vs H Q _ => ∃ (a : Addr) (r : Int) (w : Str), vs = [.ref a, .int r, .str w] ∧ H a = some (exo a (He.ga K "Refused") none) ∧
  ∀ d, H d = none → d ≠ a → Q .non (upd (upd (upd H d (exd d [("row", .int r)])) a (exo a (He.ga K "Refused") (some d))) d (exd d (rfD r w)))
theorem sc_Refused___init__ : FnScope ["self", "row", "word"] ["self", "row", "word"] (defScope (inClass (topS 2) 0)) := ⟨rfl, rfl, rfl, by decide +kernel, rfl, by decide +kernel, by decide +kernel⟩
theorem mt_Refused___init__ (T : Txt fa fn K mg (XOk cs xcs K w)) : Mt P w K mg base CX0 1 "Refused" "__init__" ["self", "row", "word"] (sp_Refused___init__ K) := by
  refine mk_mt (d := mOf "Refused" "__init__" "Refused.__init__" (inClass (topS 2) 0)) T 24 rfl rfl rfl rfl sc_Refused___init__ (by walk_at "len") (fun _ _ _ _ _ _ us hl => match us, hl with | [_, _, _], _ => rfl) (fun cdv A outer s H vs Q E hr h => ⟨_, (pss_cons (ps_expr (pe_oveinit (K := K) rfl (xc_Refused T) rfl rfl (T.glo 24 rfl) (pa_cons (pv 0) (pa_cons pe_str pa_nil))))
      (pss_cons (ps_ostU (K := K) rfl (pv 0) (pv 1))
      (pss_one (ps_ostU (K := K) rfl (pv 0) (pv 2))))), ?_⟩)
  obtain ⟨a, r, w0, rfl, ha, hQ⟩ := h
  have X := xc_Refused T
  walk_at "go"
  refine g_vei ?_
  walk_at "go"
  refine ⟨a, He.ga K "Refused", [.str "refused"], rfl, by show 1 ≤ 1000; decide, X.oex, ha, ?_⟩
  walk_at "go"
  refine g_ost ?_
  walk_at "go"
  refine ⟨a, He.ga K "Refused", rfl, X.oex, X.no "row" (by simp), .inl ⟨ha, fun d hd hne => ?_⟩⟩
  dsimp only
  refine g_ost ?_
  walk_at "go"
  refine ⟨a, He.ga K "Refused", rfl, X.oex, X.no "word" (by simp), .inr ⟨d, [("row", .int r)], upd_same, ?_, by show 1 ≤ 900; decide, ?_⟩⟩
  · rw [upd_ne hne]
    exact upd_same
  · walk_at "go"
    exact hQ d hd hne
/-- raise Refused(r, w) -/
theorem use_refused {H : Hp} {E : XK} {r : Int} {w : Str} (k : ∀ H' d, Same H H' → H' d = some (.xd (rfD r w)) → E (.ref (He.ga K "Refused")) (some d) H') :
    [V.int r, V.str w].length ≤ 1000 ∧ ∀ a, H a = none → sp_Refused___init__ K (.ref a :: ([V.int r, V.str w] ++ [])) (upd H a (exo a (He.ga K "Refused") none)) (fun v H2 => v = .non ∧ ∃ (d : Addr) (fs : List (Str × V)), H2 a = some (exo a (He.ga K "Refused") (some d)) ∧ H2 d = some (exd d fs) ∧ H d = none ∧ E (.ref (He.ga K "Refused")) (some d) (upd (del H2 a) d (.xd fs))) (fun _ _ _ => False) := by
  refine ⟨by show 2 ≤ 1000; decide, fun a ha => ⟨a, r, w, rfl, upd_same, fun d hd hne => ⟨rfl, d, rfD r w, ?_, upd_same, ?_, ?_⟩⟩⟩
  · rw [upd_ne (Ne.symm hne)]
    exact upd_same
  · exact (made_exc (fs := []) (gs := []) ha hd hne).1
  · exact k _ d (made_exc ha hd hne).2 upd_same
def sp_judge (K : PySem.W.Frag) : Sp := fun vs H Q E => ∃ (code x : V) (rgs : List Rg) (rows : List Row) (d : PyData), vs = [code, x] ∧ Im H code (codeD rgs rows) ∧ JOk rows ∧ Dk K H x d ∧ Wd 50000 4 d ∧
  (JudR rgs rows d none → ∀ H', Same H H' → Q .non H') ∧ ∀ r w, JudR rgs rows d (some (r, w)) → ∀ H' e, Same H H' → H' e = some (.xd (rfD r w)) → E (.ref (He.ga K "Refused")) (some e) H'
theorem sc_judge : FnScope ["code", "paper", "r", "word"] ["code", "paper"] (defScope (topS 15)) := ⟨rfl, rfl, rfl, by decide +kernel, rfl, by decide +kernel, by decide +kernel⟩
theorem ok_judge (T : Txt fa fn K mg (XOk cs xcs K w)) : Dn P w K mg base (L2.CX P w) 4 "judge" ["code", "paper"] (sp_judge K) := by
  refine mk_dnX (d := dOf "judge" 15) T 8 8 rfl rfl rfl rfl rfl sc_judge (by walk_at "len") (fun _ _ _ _ _ _ us hl => match us, hl with | [_, _], _ => rfl) (fun cdv A outer s H vs Q E hr h => ⟨_, (pss_cons (ps_if (pt_not (pt_tru (K := K) rfl (pe_callD (K := K) rfl (ok_holds T) (hr.mono (by decide)) rfl pass0 (pa_cons (pv 0) (pa_cons (pv 1) pa_nil))))) (pss_one (ps_raiseI (K := K) rfl (xc_Refused T) (mt_Refused___init__ T) (hr.mono (by decide)) rfl (takes_of rfl rfl rfl rfl) rfl rfl (T.glo 25 rfl) (pa_cons (pe_un un_neg pe_int) (pa_cons pe_str pa_nil)))) pss_nil)
      (pss_one (ps_for (passes_of rfl) rfl (pi_r1 rfl (T.free 34 rfl) (pa_cons (pe_callB (c_len (K := K) rfl) rfl (T.free 32 rfl) (by decide +kernel) (pa_cons (pv 1) pa_nil)) pa_nil)) (pg_name (i := 2) sc_judge.nd rfl (.inl rfl)) (pss_cons (ps_set (i := 3) sc_judge.nd rfl (.inl rfl) (pe_callD (K := K) rfl (ok_refusal T) (hr.mono (by decide)) rfl pass0 (pa_cons (pv 0) (pa_cons (pe_ixU (K := K) rfl (hu_of hr) (pe_ixU (K := K) rfl (hu_of hr) (pv 0) pe_int) (pv 2)) (pa_cons (pe_ixU (K := K) rfl (hu_of hr) (pv 1) (pv 2)) pa_nil)))))
      (pss_one (ps_if (pt_cmpR o_notN (pv 3) pe_non (nomark _)) (pss_one (ps_raiseI (K := K) rfl (xc_Refused T) (mt_Refused___init__ T) (hr.mono (by decide)) rfl (takes_of rfl rfl rfl rfl) rfl rfl (T.glo 25 rfl) (pa_cons (pv 2) (pa_cons (pv 3) pa_nil)))) pss_nil)))))), ?_⟩)
  obtain ⟨code, x, rgs, rows, d, rfl, ic, jo, hx, wd, hQ, hE⟩ := h
  have ju := jo.u
  walk_at "go"
  refine ⟨code, x, rgs, rows, d, rfl, ic, jo, hx, wd, fun H1 b s1 hb => ?_⟩
  walk_at "go"
  refine g_ifBn (fun c => ?_) (fun c => ?_)
  · refine g_raise ?_
    walk_at "go"
    refine use_refused (fun H2 e s2 he => ?_)
    exact hE (-1) "paper" (.inr ⟨fun z => (by rw [hb.mpr z] at c; cases c), rfl⟩) H2 e (s1.trans s2) he
  obtain ⟨P, rfl, hP⟩ := hb.mp c
  have hx1 := hx.same s1
  walk_at "go"
  refine k_len hx1 ?_
  rw [List.length_map, List.length_range]
  walk_at "go"
  rw [Int.toNat_natCast]
  refine f_range (fun i σ H' => ∃ (o2 o3 : Option V), σ = [some code, some x, o2, o3] ∧ Same H H' ∧ dueD rgs rows P i = none) ⟨_, _, rfl, s1, rfl⟩ ?_ ?_
  · rintro i σ H2 hi ⟨o2, o3, rfl, s2, hd⟩
    have hrow : rows[i]? = some (rows[i]'hi) := List.getElem?_eq_getElem _
    generalize rows[i]'hi = row at hrow
    have ro := jo.r i row hrow
    have e0 : (0 : Int) + (i : Int) = (i : Int) := by omega
    have ic2 := ic.same s2
    walk_at "go"
    rw [e0]
    refine m_ix ic2 (n := 1) rfl rfl (fun v1 hv1 => ?_)
    walk_at "go"
    refine m_ix hv1 (n := i) rfl (by rw [List.getElem?_map, hrow]; rfl) (fun y hy => ?_)
    obtain ⟨ra, rfl, hra⟩ := row_tup hy
    walk_at "go"
    refine k_ix (hx.same s2) (n := i) rfl (pap_at hi) (fun v hv => ?_)
    walk_at "go"
    refine ⟨code, v, ra, _, i, rgs, rows, row, P i, rfl, ic2, hra, ro, hv, fun H3 s3 => ?_⟩
    have e1 : dueD rgs rows P (i + 1) = (refW rgs row (P i)).map fun w => (i, w) := by
      rw [due_succ, hd, hrow, Option.none_or]
      rfl
    cases hw : refW rgs row (P i) with
    | none =>
      rw [hw] at e1
      show gName 3 .non _ _ _
      walk_at "go"
      exact ⟨_, _, rfl, s2.trans s3, e1⟩
    | some wd0 =>
      rw [hw] at e1
      show gName 3 (.str wd0) _ _ _
      walk_at "go"
      refine g_raise ?_
      walk_at "go"
      refine use_refused (fun H4 e s4 he => ?_)
      refine hE i wd0 (.inl ⟨P, rfl, hP, ?_⟩) H4 e ((s2.trans s3).trans s4) he
      have key : ∀ k, dueD rgs rows P (i + 1 + k) = some (i, wd0) := fun k => by
        induction k with
        | zero => exact e1
        | succ k ih =>
          have : i + 1 + (k + 1) = (i + 1 + k) + 1 := by omega
          rw [this, due_succ, ih]
          rfl
      have := key (rows.length - (i + 1))
      rw [show i + 1 + (rows.length - (i + 1)) = rows.length by omega] at this
      rw [this]
      rfl
  · rintro σ H2 ⟨o2, o3, rfl, s2, hd⟩
    walk_at "go"
    exact hQ (.inl ⟨P, rfl, hP, by rw [hd]; rfl⟩) _ s2


theorem takes0 {X : Cx} : Takes X (fun _ _ _ _ => False) := fun _ _ ⟨_, _, _, _, _, _, _, _, _, _, _, _, _, _, _, _, w⟩ => w.elim
theorem bhd_w {rgs : List Rg} {p : Mb} {row : Row} {d x : Nat} {b : Bool} (h : wrP rgs p row = some (d, b)) : bhd rgs row p x = if x = d then b else p x := by
  unfold bhd
  rw [h]
theorem bhd_n {rgs : List Rg} {p : Mb} {row : Row} {x : Nat} (h : wrP rgs p row = none) : bhd rgs row p x = p x := by
  unfold bhd
  rw [h]
theorem ways_of {k w : Nat} {r : Row} (h : w ∈ waysR k r) : w = k + 1 ∨ r = .jump w ∨ ∃ p, r = .branch p w := by
  have one : ∀ {a : Nat}, w ∈ [a] → w = a := fun h => List.mem_singleton.mp h
  cases r with
  | stop a => cases h
  | jump t => exact .inr (.inl (by rw [one h]))
  | branch p t =>
    have h : w ∈ (if k + 1 = t then [t] else if k + 1 < t then [k + 1, t] else [t, k + 1]) := h
    have : w = t ∨ w = k + 1 := by
      split at h
      · exact .inl (one h)
      · split at h
        · simp only [List.mem_cons, List.not_mem_nil, or_false] at h
          exact h.symm
        · simp only [List.mem_cons, List.not_mem_nil, or_false] at h
          exact h
    rcases this with rfl | e
    · exact .inr (.inr ⟨p, rfl⟩)
    · exact .inl e
  | _ => exact .inl (one h)
/-! ### what is refused, for the greatest paper -/
section
variable {rgs : List Rg} {rows : List Row} {P P' : Nat → Mb} {n r r0 : Nat} {p q : Mb} {row : Row} {o : Option (Int × Str)} {w : Str}
theorem refW_ext (h : ∀ x, x < 16 → p x = q x) (hr : RowOkD n r row) : refW rgs row p = refW rgs row q := by
  cases row with
  | branch a t => show (if p a = true then _ else _) = if q a = true then _ else _; rw [h a hr.1]
  | out a => show (if p a = true then _ else _) = if q a = true then _ else _; rw [h a hr.1]
  | load d a b m => show spanW rgs p a b m none = spanW rgs q a b m none; unfold spanW; rw [h a hr.2.1]
  | store a b m c => show spanW rgs p a b m (some c) = spanW rgs q a b m (some c); unfold spanW; simp only [h a hr.1, h c hr.2.1]
  | op s d a b =>
    cases s <;> first | rfl | (show (if p a = true then (if p b = true then _ else _) else _) = if q a = true then (if q b = true then _ else _) else _; rw [h a hr.2.1, h b hr.2.2.1])
  | _ => rfl
theorem due_ext (jo : JOk rows) (h : ∀ r x, r < rows.length → x < 16 → P r x = P' r x) : ∀ {n : Nat}, n ≤ rows.length → dueD rgs rows P n = dueD rgs rows P' n
  | 0, _ => rfl
  | n + 1, hn => by
    rw [due_succ, due_succ, due_ext jo h (by omega)]
    cases e : rows[n]? with
    | none => rfl
    | some row =>
      congr 1
      show (refW rgs row (P n)).map _ = (refW rgs row (P' n)).map _
      rw [refW_ext (fun x hx => h n x (by omega) hx) (jo.r n row e)]
theorem JudR.of (jo : JOk rows) (hP : Hold rgs rows P) (h : JudR rgs rows (papD P rows.length) o) : o = (dueD rgs rows P rows.length).map fun q => ((q.1 : Int), q.2) := by
  rcases h with ⟨P', e, hP', ho⟩ | ⟨hn, _⟩
  · rw [ho, due_ext jo (papD_inj e) (Nat.le_refl _)]
  · exact absurd ⟨P, rfl, hP⟩ hn
theorem due_none : ∀ {n : Nat}, (∀ r row, r < n → rows[r]? = some row → refW rgs row (P r) = none) → dueD rgs rows P n = none
  | 0, _ => rfl
  | n + 1, h => by
    rw [due_succ, due_none fun r row hr => h r row (by omega)]
    cases e : rows[n]? with
    | none => rfl
    | some row =>
      show (refW rgs row (P n)).map _ = none
      rw [h n row (by omega) e]
      rfl
theorem due_of (hb : ∀ r row, r < r0 → rows[r]? = some row → refW rgs row (P r) = none) (hr : rows[r0]? = some row) (hw : refW rgs row (P r0) = some w) : ∀ {n : Nat}, r0 < n → dueD rgs rows P n = some (r0, w)
  | 0, h => absurd h (by omega)
  | n + 1, h => by
    rw [due_succ]
    by_cases e : r0 = n
    · subst e
      rw [due_none hb, hr]
      show (refW rgs row (P r0)).map _ = _
      rw [hw]
      rfl
    · rw [due_of hb hr hw (n := n) (by omega)]
      rfl
theorem Grt.uniq (h : Grt rgs rows P) (g : Grt rgs rows P') : ∀ r x, r < rows.length → x < 16 → P r x = P' r x := fun r x hr hx => by
  rw [Bool.eq_iff_iff]
  exact ⟨g.2 P h.1 r x hr hx, h.2 P' g.1 r x hr hx⟩
theorem papD_wd {k : Nat} (hn : n ≤ 50000) : Wd 50000 (k + 2) (papD P n) := wd_t (by rw [List.length_map, List.length_range]; exact hn) fun d hd => by
  obtain ⟨r, _, rfl⟩ := List.mem_map.mp hd
  refine wd_t (by show (nDs (mL (P r))).length ≤ 50000; rw [show (nDs (mL (P r))).length = (mL (P r)).length from List.length_map _]; exact Nat.le_trans mL_len (by decide)) fun d hd => ?_
  obtain ⟨m, _, rfl⟩ := List.mem_map.mp hd
  exact wd_i
end
theorem g_xf {a C : Addr} {cls : Value} {d : Option Addr} {f : Str} {te : TE} {σ : L2.St} {H : Hp} {Q : VK} (h : te σ H fun x H1 => x = .ref a ∧ cls = .ref C ∧ ∃ (dd : Addr) (fs : List (Str × V)) (v : V), d = some dd ∧ H1 dd = some (.xd fs) ∧ fs.lookup f = some v ∧ Q v H1) : tXf a cls d C f te σ H Q := h

/-! ### taken -/
def sp_taken (K : PySem.W.Frag) : Sp := fun vs H Q _ => ∃ (code : V) (rgs : List Rg) (rows : List Row), vs = [code] ∧ Im H code (codeD rgs rows) ∧ JOk rows ∧ ∀ H' P, Same H H' → Grt rgs rows P → Q (.bl (dueD rgs rows P rows.length).isNone) H'
theorem sc_taken : FnScope ["code"] ["code"] (defScope (topS 16)) := ⟨rfl, rfl, rfl, by decide +kernel, rfl, by decide +kernel, by decide +kernel⟩
theorem ok_taken (T : Txt fa fn K mg (XOk cs xcs K w)) : Dn P w K mg base CX0 5 "taken" ["code"] (sp_taken K) := by
  refine mk_dn (d := dOf "taken" 16) T 9 9 rfl rfl rfl rfl rfl sc_taken (by walk_at "len") (fun _ _ _ _ _ _ us hl => match us, hl with | [_], _ => rfl) (fun cdv A outer s H vs Q E hr h => ⟨_, (pss_cons (ps_try_only rfl rfl ⟨rfl, by decide, .inl (T.glo 25 rfl)⟩ takes0 (fun W pn xe tk po => (pss_one (ps_expr (pe_callDX (K := K) rfl (ok_judge T) (hr.mono (by decide)) rfl tk (pa_cons (pv 0) (pa_cons (pe_callD (K := K) rfl (ok_greatest_paper T) (hr.mono (by decide)) rfl pass0 (pa_cons (pv 0) pa_nil)) pa_nil)))))) (fun a oe cls d pn hz hf => (pss_one (ps_ret pe_bl))))
      (pss_one (ps_ret pe_bl))), ?_⟩)
  obtain ⟨code, rgs, rows, rfl, ic, jo, hQ⟩ := h
  walk_at "go"
  refine g_callW ?_
  walk_at "go"
  refine ⟨code, _, _, rfl, ic, jo, fun H1 x P hP s1 hx => ?_⟩
  walk_at "go"
  refine ⟨code, x, _, _, _, rfl, ic.same s1, jo, hx, papD_wd jo.u, fun ju H2 s2 => ?_, fun r w' ju H2 e s2 he => ?_⟩
  · have e := JudR.of jo hP.1 ju
    have hn : (dueD rgs rows P rows.length).isNone = true := by
      cases c : dueD rgs rows P rows.length with
      | none => rfl
      | some q => rw [c] at e; cases e
    walk_at "go"
    rw [← hn]
    exact hQ _ _ (s1.trans s2) hP
  · have e2 := JudR.of jo hP.1 ju
    have hn : (dueD rgs rows P rows.length).isNone = false := by
      cases c : dueD rgs rows P rows.length with
      | none => rw [c] at e2; cases e2
      | some q => rfl
    refine ⟨true, exm_Refused_Refused T, fun _ a ha => ?_, fun h => nomatch h⟩
    walk_at "go"
    rw [← hn]
    exact hQ _ _ (s1.trans s2) hP

/-! ### comprehensions with a test, over typed items -/
section
variable {K : PySem.W.Frag} {σ : L2.St} {H : Hp} {te : TE} {tt : TT} {k : Nat} {vs : List Nat} {a : Addr} {xs : List V} {α : Type} {ev f : α → PyData} {p : α → Bool} {l : List α} {Q : VK}
theorem szm {n : Nat} (h : n ≤ 16000000) : n < sizeLine := Nat.lt_of_le_of_lt h (by decide)
theorem l_fmT (ha : H a = some (.tup xs)) (hs : Ims H xs (l.map ev)) (hl : l.length ≤ 16000000) (hwp : ∀ x : V, wipe ((wipe σ vs).set k (some x)) vs = wipe σ vs)
    (step : ∀ (e : α) (y : V) (H' : Hp) (QB : Bool → Hp → Prop), e ∈ l → Same H H' → Im H' y (ev e) → (∀ H2, Same H' H2 → QB (p e) H2) → tt ((wipe σ vs).set k (some y)) H' QB)
    (el : ∀ (e : α) (y : V) (H' : Hp) (R : VK), e ∈ l → p e = true → Same H H' → Im H' y (ev e) → (∀ H2 v, Same H' H2 → Im H2 v (f e) → R v H2) → te ((wipe σ vs).set k (some y)) H' R)
    (q : ∀ D H' us, Same H H' → H' D = some (.lst us) → Ims H' us ((l.filter p).map f) → Q (.ref D) H') : LcW (gName k) tt te vs σ Q (Itt K a) H := by
  have hlen := hs.length
  rw [List.length_map] at hlen
  refine l_tup (xs := xs) (fun D i H' => ∃ us, H' D = some (.lst us) ∧ Ims H' us (((l.take i).filter p).map f) ∧ Same H H') (fun D hD => ⟨[], upd_same, .nil, Same.new hD⟩) ?_ ?_ ?_
  · rintro D hD i H' hi ⟨us, hD', im, sm⟩
    exact SqT.of (sm _ _ ha)
  · rintro D hD i y H' hi ⟨us, hD', im, sm⟩
    obtain ⟨hlt, _⟩ := List.getElem?_eq_some_iff.mp hi
    have hd : l[i]? = some (l[i]'(by omega)) := List.getElem?_eq_getElem _
    generalize l[i]'(by omega) = e at hd
    have hm := List.mem_of_getElem? hd
    obtain ⟨y', hy', hiy⟩ := hs.get (n := i) (d := ev e) (by rw [List.getElem?_map, hd]; rfl)
    rw [hi] at hy'
    cases hy'
    have hul : us.length ≤ 16000000 := by
      rw [im.length, List.length_map]
      refine Nat.le_trans (List.length_filter_le _ _) ?_
      rw [List.length_take]
      omega
    refine g_name (g_wipe (hwp _) ?_)
    refine step e y H' _ hm sm (hiy.same sm) (fun H2 s2 => ?_)
    cases hf : p e with
    | true =>
      refine g_ifT (el e y H2 _ hm hf (sm.trans s2) ((hiy.same sm).same s2) (fun H3 v s3 im3 => ?_))
      have s23 := s2.trans s3
      have hD3 := s23 _ _ hD'
      refine ⟨us, hD3, szm hul, _, upd_same, ?_, Same.mut (sm.trans s23) hD⟩
      rw [filter_take_succ hd, hf, List.map_append]
      exact ims_snoc (H2 := H3) (im.same s23) im3 hD3
    | false =>
      refine g_ifF ⟨us, s2 _ _ hD', ?_, sm.trans s2⟩
      rw [filter_take_succ hd, hf]
      simpa using im.same s2
  · rintro D hD H' ⟨us, hD', im, sm⟩
    refine q D H' us sm hD' ?_
    rw [hlen, List.take_length] at im
    exact im
theorem l_fmN (ha : H a = some (.lst xs)) (hs : Ims H xs (l.map ev)) (hl : l.length ≤ 16000000) (hwp : ∀ x : V, wipe ((wipe σ vs).set k (some x)) vs = wipe σ vs)
    (step : ∀ (e : α) (y : V) (H' : Hp) (QB : Bool → Hp → Prop), e ∈ l → Same H H' → Im H' y (ev e) → (∀ H2, Same H' H2 → QB (p e) H2) → tt ((wipe σ vs).set k (some y)) H' QB)
    (el : ∀ (e : α) (y : V) (H' : Hp) (R : VK), e ∈ l → p e = true → Same H H' → Im H' y (ev e) → (∀ H2 v, Same H' H2 → Im H2 v (f e) → R v H2) → te ((wipe σ vs).set k (some y)) H' R)
    (q : ∀ D H' us, H D = none → Same H H' → H' D = some (.lst us) → Ims H' us ((l.filter p).map f) → Q (.ref D) H') : LcW (gName k) tt te vs σ Q (Itl K a) H := by
  have hlen := hs.length
  rw [List.length_map] at hlen
  refine l_list (xs := xs) (fun D i H' => ∃ us, H' D = some (.lst us) ∧ Ims H' us (((l.take i).filter p).map f) ∧ Same H H') (fun D hD => ⟨[], upd_same, .nil, Same.new hD⟩) ?_ ?_ ?_
  · rintro D hD i H' hi ⟨us, hD', im, sm⟩
    exact SqL.of (sm _ _ ha)
  · rintro D hD i y H' hi ⟨us, hD', im, sm⟩
    obtain ⟨hlt, _⟩ := List.getElem?_eq_some_iff.mp hi
    have hd : l[i]? = some (l[i]'(by omega)) := List.getElem?_eq_getElem _
    generalize l[i]'(by omega) = e at hd
    have hm := List.mem_of_getElem? hd
    obtain ⟨y', hy', hiy⟩ := hs.get (n := i) (d := ev e) (by rw [List.getElem?_map, hd]; rfl)
    rw [hi] at hy'
    cases hy'
    have hul : us.length ≤ 16000000 := by
      rw [im.length, List.length_map]
      refine Nat.le_trans (List.length_filter_le _ _) ?_
      rw [List.length_take]
      omega
    refine g_name (g_wipe (hwp _) ?_)
    refine step e y H' _ hm sm (hiy.same sm) (fun H2 s2 => ?_)
    cases hf : p e with
    | true =>
      refine g_ifT (el e y H2 _ hm hf (sm.trans s2) ((hiy.same sm).same s2) (fun H3 v s3 im3 => ?_))
      have s23 := s2.trans s3
      have hD3 := s23 _ _ hD'
      refine ⟨us, hD3, szm hul, _, upd_same, ?_, Same.mut (sm.trans s23) hD⟩
      rw [filter_take_succ hd, hf, List.map_append]
      exact ims_snoc (H2 := H3) (im.same s23) im3 hD3
    | false =>
      refine g_ifF ⟨us, s2 _ _ hD', ?_, sm.trans s2⟩
      rw [filter_take_succ hd, hf]
      simpa using im.same s2
  · rintro D hD H' ⟨us, hD', im, sm⟩
    refine q D H' us hD sm hD' ?_
    rw [hlen, List.take_length] at im
    exact im
theorem l_fmL (ha : H a = some (.lst xs)) (hs : Ims H xs (l.map ev)) (hl : l.length ≤ 16000000) (hwp : ∀ x : V, wipe ((wipe σ vs).set k (some x)) vs = wipe σ vs)
    (step : ∀ (e : α) (y : V) (H' : Hp) (QB : Bool → Hp → Prop), e ∈ l → Same H H' → Im H' y (ev e) → (∀ H2, Same H' H2 → QB (p e) H2) → tt ((wipe σ vs).set k (some y)) H' QB)
    (el : ∀ (e : α) (y : V) (H' : Hp) (R : VK), e ∈ l → p e = true → Same H H' → Im H' y (ev e) → (∀ H2 v, Same H' H2 → Im H2 v (f e) → R v H2) → te ((wipe σ vs).set k (some y)) H' R)
    (q : ∀ D H' us, Same H H' → H' D = some (.lst us) → Ims H' us ((l.filter p).map f) → Q (.ref D) H') : LcW (gName k) tt te vs σ Q (Itl K a) H := l_fmN ha hs hl hwp step el fun D H' us _ => q D H' us
end

/-! the state, written as a list -/
local macro_rules | `(tactic| walk_at "nrm") => `(tactic| simp only [L2.start, List.map_cons, List.map_nil, List.length_cons, List.length_nil, Nat.reduceAdd, Nat.reduceSub, List.replicate_succ, List.replicate_zero, List.cons_append, List.nil_append, List.set_cons_zero, List.set_cons_succ])

/-! ### the law's own greatest paper (k64, k65) -/
abbrev inP (base mask : Int) (g : Rg) : Bool := decide (g.b ≤ base) && decide (base + mask < g.b + (g.n : Int))
def lblOk (rgs : List Rg) : Prop := ∀ g ∈ rgs, PyData.strOk g.l = true
theorem lay_rg {g : Rg} (h : PyData.strOk g.l = true) : Lay 1 g.d := Lay.tup (k := 0) fun d hd => by
  simp only [List.mem_cons, List.not_mem_nil, or_false] at hd
  rcases hd with rfl | rfl | rfl
  · exact Lay.int
  · exact Lay.int
  · exact Lay.str h
theorem shaped_l {ds : List PyData} (h : ∀ d ∈ ds, Lay 2 d) : SeqAt.shaped (.list ds) = true := shaped_of (by
    rw [PyData.canLay0]
    exact layAll_mem fun d hd => (h d hd).1) (by
    rw [PyData.depth]
    have := depthAll_mem (k := 2) fun d hd => (h d hd).2
    omega)
def sp_law_region (K : PySem.W.Frag) : Sp := fun vs H Q _ => ∃ (code : V) (base mask : Int) (rgs : List Rg) (rows : List Row), vs = [code, .int base, .int mask] ∧ Im H code (codeD rgs rows) ∧ lblOk rgs ∧ rgs.length ≤ 1000 ∧
  (regOf rgs base mask = none → ∀ H', Same H H' → Q .non H') ∧ ∀ g v H', regOf rgs base mask = some g → Same H H' → Im H' v g.d → Q v H'
theorem sc_law_region : FnScope ["code", "base", "mask", "found", "one"] ["code", "base", "mask"] (defScope (topS 24)) := ⟨rfl, rfl, rfl, by decide +kernel, rfl, by decide +kernel, by decide +kernel⟩
theorem ok_law_region (T : Txt fa fn K mg (XOk cs xcs K w)) : Dn P w K mg base CX0 1 "_law_region" ["code", "base", "mask"] (sp_law_region K) := by
  refine mk_dn (d := dOf "_law_region" 24) T 16 16 rfl rfl rfl rfl rfl sc_law_region (by walk_at "len") (fun _ _ _ _ _ _ us hl => match us, hl with | [_, _, _], _ => rfl) (fun cdv A outer s H vs Q E hr h => ⟨_, (pss_cons (ps_setLc (i := 3) rfl sc_law_region.nd rfl rfl (sw_true rfl rfl rfl (by decide +kernel)) (pi_seq (K := K) rfl (pe_ixU (K := K) rfl (hu_of hr) (pv 0) pe_int)) (blkOk_by (own := [("one", 4)]) (N := ["code", "base", "mask", "found", "one"]) (sc := defScope (topS 24)) (by decide +kernel)) (fun _ _ _ _ _ => (pg_name (i := 4) sc_law_region.nd rfl (.inl rfl))) (fun _ _ _ _ _ => (pts_one (PW.pt (pw_and (pt_cmpR o_le (pe_ixU (K := K) rfl (hu_of hr) (pv 4) pe_int) (pv 1) (nomark _)) (pw_and1 (pt_cmpR o_lt (pe_op (op_addU (K := K) rfl) (pv 1) (pv 2)) (pe_op (op_addU (K := K) rfl) (pe_ixU (K := K) rfl (hu_of hr) (pv 4) pe_int) (pe_ixU (K := K) rfl (hu_of hr) (pv 4) pe_int)) (nomark _))))))) (fun _ _ _ _ _ => (pv 4)))
      (pss_cons (ps_if (pt_cmpR (op_eqU (K := K) rfl hr.units) (pv 3) (pe_lst pa_nil) (nomark _)) (pss_one (ps_ret pe_non)) pss_nil)
      (pss_one (ps_ret (pe_ixU (K := K) rfl (hu_of hr) (pv 3) pe_int))))), ?_⟩)
  obtain ⟨code, base, mask, rgs, rows, rfl, ic, lo, lr, q1, q2⟩ := h
  walk_at "go"
  refine m_ix ic (n := 0) rfl rfl (fun v hv => ?_)
  walk_at "go"
  refine m_seq hv (fun a xs e ha his => ?_)
  subst e
  refine l_fmT (p := inP base mask) (f := Rg.d) (ev := Rg.d) (l := rgs) ha his (by omega) (fun _ => rfl) (fun g y H1 QB hg s1 iy hR => ?_) (fun g y H1 R hg hp s1 iy hR => ?_) (fun D H1 us s1 hD im => ?_)
  · obtain ⟨ga, rfl, hga⟩ := im3v iy
    walk_at "go"
    refine g_if (fun c1 => ?_) (fun c1 => ?_)
    · walk_at "go"
      have e : inP base mask g = decide (base + mask < g.b + (g.n : Int)) := by
        unfold inP
        rw [decide_eq_true c1, Bool.true_and]
      rw [e] at hR
      exact hR _ (Same.refl _)
    · walk_at "go"
      have e : inP base mask g = false := by
        unfold inP
        rw [decide_eq_false c1, Bool.false_and]
      rw [e] at hR
      exact hR _ (Same.refl _)
  · walk_at "go"
    exact hR _ _ (Same.refl _) iy
  · walk_at "go"
    refine ⟨by decide, fun p hp => ?_⟩
    have s2 := Same.new (o := .lst []) hp
    have at2 : upd H1 p (.lst []) p = some (.lst []) := upd_same
    refine g_eqD (.lst (SqL.of (s2 _ _ hD)) (im.same s2).dp) (lst_dp (ns := []) at2) (shaped_l fun d hd => by
      obtain ⟨g, hg, rfl⟩ := List.mem_map.mp hd
      exact (lay_rg (lo g (List.mem_filter.mp hg).1)).mono (by decide)) lst_shaped ?_
    rw [List.map_nil, eqv_lnil]
    have im2 := im.same s2
    have hD2 := s2 _ _ hD
    have s12 := s1.trans s2
    generalize upd H1 p (.lst []) = H2 at im2 hD2 s12
    walk_at "go"
    have er : regOf rgs base mask = (rgs.filter (inP base mask)).head? := by
      unfold regOf
      rw [List.head?_filter]
    cases hf : rgs.filter (inP base mask) with
    | nil =>
      rw [hf] at er
      walk_at "go"
      show if true = true then _ else _
      walk_at "go"
      exact q1 er _ s12
    | cons g l =>
      rw [hf] at er im2
      show if false = true then _ else _
      obtain ⟨v, ws, rfl, i1, i2⟩ := Ims.cons_inv im2
      walk_at "go"
      refine g_ixL (SqL.of hD2) (n := 0) rfl rfl ?_
      exact q2 g v _ er s12 i1
/-- a list or a tuple of the numbers that p takes -/
def MemAt (H : Hp) (a : Addr) (p : Mb) : Prop := H a = some (.tup (nV (mL p))) ∨ H a = some (.lst (nV (mL p)))
theorem MemAt.same {H H' : Hp} {a : Addr} {p : Mb} (h : MemAt H a p) (s : Same H H') : MemAt H' a p := h.elim (fun h => .inl (s _ _ h)) (fun h => .inr (s _ _ h))
theorem k_inB {K : PySem.W.Frag} {H : Hp} {a : Addr} {p : Mb} {n : Nat} {Q : VK} (h : MemAt H a p) (hn : n < 16) (q : Q (.bl (p n)) H) : rInU K false (.int (n : Int)) (.ref a) H Q := k_inN (h.elim (fun h => .inl (SqT.of h)) (fun h => .inr (SqL.of h))) (by rw [mL_has hn]; exact q)
/-- the numbers below n that a test takes -/
theorem l_rngN {σ : L2.St} {H : Hp} {te : TE} {tt : TT} {k n : Nat} {vs : List Nat} {f : Nat → Bool} {Q : VK} (hn : n ≤ 10000) (hwp : ∀ x : V, wipe ((wipe σ vs).set k (some x)) vs = wipe σ vs)
    (step : ∀ (i : Nat) (H' : Hp) (QB : Bool → Hp → Prop), i < n → Same H H' → (∀ H2, Same H' H2 → QB (f i) H2) → tt ((wipe σ vs).set k (some (.int (i : Int)))) H' QB)
    (el : ∀ (i : Nat) (H' : Hp) (R : VK), R (.int (i : Int)) H' → te ((wipe σ vs).set k (some (.int (i : Int)))) H' R)
    (q : ∀ D H', H D = none → Same H H' → H' D = some (.lst (nV ((List.range n).filter f))) → Q (.ref D) H') : LcW (gName k) tt te vs σ Q (Itr 0 n) H := by
  refine l_range (fun D i H' => H' D = some (.lst (nV ((List.range i).filter f))) ∧ Same H H') (fun D hD => ⟨upd_same, Same.new hD⟩) ?_ ?_
  · rintro D hD i H' hi ⟨hD', sm⟩
    have e0 : (0 : Int) + (i : Int) = (i : Int) := by omega
    rw [e0]
    refine g_name (g_wipe (hwp _) ?_)
    refine step i H' _ hi sm (fun H2 s2 => ?_)
    have hD2 := s2 _ _ hD'
    have len : (nV ((List.range i).filter f)).length < sizeLine := by
      rw [nV_len]
      refine szl (Nat.le_trans (List.length_filter_le _ _) ?_)
      rw [List.length_range]
      omega
    cases hf : f i with
    | true =>
      refine g_ifT (el i H2 _ ⟨_, hD2, len, ?_, Same.mut (sm.trans s2) hD⟩)
      rw [upd_same, List.range_succ, List.filter_append, List.filter_cons, hf]
      unfold nV
      rw [List.map_append]
      rfl
    | false =>
      refine g_ifF ⟨?_, sm.trans s2⟩
      rw [hD2, List.range_succ, List.filter_append, List.filter_cons, hf]
      simp
  · rintro D hD H' ⟨hD', sm⟩
    exact q D H' hD sm hD'
def sp_law_behind (K : PySem.W.Frag) : Sp := fun vs H Q _ => ∃ (code : V) (a : Addr) (r many : Nat) (rgs : List Rg) (rows : List Row) (row : Row) (p : Mb), vs = [code, .int (r : Int), .ref a] ∧ Im H code (codeD rgs rows) ∧ lblOk rgs ∧ rgs.length ≤ 1000 ∧ rows[r]? = some row ∧ RowOkD many r row ∧
  MemAt H a p ∧ ∀ H' D, Same H H' → H D = none → H' D = some (.lst (nV (mL (bhd rgs row p)))) → Q (.ref D) H'
theorem nat_eqI {i d : Nat} : decide ((i : Int) = (d : Int)) = decide (i = d) := by
  rw [Bool.eq_iff_iff, decide_eq_true_eq, decide_eq_true_eq]
  omega
theorem bhd_q {rgs : List Rg} {row : Row} {p : Mb} {d : Nat} {b : Bool} (h : wrP rgs p row = some (d, b)) {i : Nat} : bhd rgs row p i = (!decide (i = d) && p i || decide (i = d) && b) := by
  unfold bhd
  rw [h]
  show (if i = d then b else p i) = _
  by_cases c : i = d
  · rw [if_pos c, decide_eq_true c, Bool.not_true, Bool.false_and, Bool.true_and, Bool.false_or]
  · rw [if_neg c, decide_eq_false c, Bool.not_false, Bool.true_and, Bool.false_and, Bool.or_false]
theorem sc_law_behind : FnScope ["code", "r", "member", "row", "public", "region", "one"] ["code", "r", "member"] (defScope (topS 25)) := ⟨rfl, rfl, rfl, by decide +kernel, rfl, by decide +kernel, by decide +kernel⟩
theorem ok_law_behind (T : Txt fa fn K mg (XOk cs xcs K w)) : Dn P w K mg base CX0 2 "_law_behind" ["code", "r", "member"] (sp_law_behind K) := by
  refine mk_dn (d := dOf "_law_behind" 25) T 17 17 rfl rfl rfl rfl rfl sc_law_behind (by walk_at "len") (fun _ _ _ _ _ _ us hl => match us, hl with | [_, _, _], _ => rfl) (fun cdv A outer s H vs Q E hr h => ⟨_, (pss_cons (ps_set (i := 3) sc_law_behind.nd rfl (.inr rfl) (pe_ixU (K := K) rfl (hu_of hr) (pe_ixU (K := K) rfl (hu_of hr) (pv 0) pe_int) (pv 1)))
      (pss_cons (ps_if (pt_cmpR (op_eqU (K := K) rfl hr.units) (pe_ixU (K := K) rfl (hu_of hr) (pv 3) pe_int) pe_str (nomark _)) (pss_one (ps_ret (pe_lc rfl sc_law_behind.nd (pi_r1 rfl (T.free 34 rfl) (pa_cons pe_int pa_nil)) (blkOk_by (own := [("one", 6)]) (N := ["code", "r", "member", "row", "public", "region", "one"]) (sc := defScope (topS 25)) (by decide +kernel)) (fun _ _ _ _ _ => (pg_name (i := 6) sc_law_behind.nd rfl (.inl rfl))) (fun _ _ _ _ _ => (pts_one (PW.pt (pw_or (pt_cmpR (op_inU (K := K) rfl (hu65 hr)) (pv 6) (pv 2) (by rfl)) (pw_or1 (pt_cmpR (op_eqU (K := K) rfl hr.units) (pv 6) (pe_ixU (K := K) rfl (hu_of hr) (pv 3) pe_int) (nomark _))))))) (fun _ _ _ _ _ => (pv 6))))) pss_nil)
      (pss_cons (ps_if (pt_cmpR (op_eqU (K := K) rfl hr.units) (pe_ixU (K := K) rfl (hu_of hr) (pv 3) pe_int) pe_str (nomark _)) (pss_cons (ps_join (ps_set (i := 4) sc_law_behind.nd rfl (.inr rfl) (pe_and (pe_cmpR (op_inU (K := K) rfl (hu65 hr)) (pe_ixU (K := K) rfl (hu_of hr) (pv 3) pe_int) (pv 2) (by rfl)) (pe_one (pe_cmpR (op_inU (K := K) rfl (hu65 hr)) (pe_ixU (K := K) rfl (hu_of hr) (pv 3) pe_int) (pv 2) (by rfl))))))
      (pss_one (ps_ret (pe_lc rfl sc_law_behind.nd (pi_r1 rfl (T.free 34 rfl) (pa_cons pe_int pa_nil)) (blkOk_by (own := [("one", 6)]) (N := ["code", "r", "member", "row", "public", "region", "one"]) (sc := defScope (topS 25)) (by decide +kernel)) (fun _ _ _ _ _ => (pg_name (i := 6) sc_law_behind.nd rfl (.inl rfl))) (fun _ _ _ _ _ => (pts_one (PW.pt (pw_or (PW.pt (pw_and (pt_cmpR (op_neU (K := K) rfl hr.units) (pv 6) (pe_ixU (K := K) rfl (hu_of hr) (pv 3) pe_int) (nomark _)) (pw_and1 (pt_cmpR (op_inU (K := K) rfl (hu65 hr)) (pv 6) (pv 2) (by rfl))))) (pw_or1 (PW.pt (pw_and (pt_cmpR (op_eqU (K := K) rfl hr.units) (pv 6) (pe_ixU (K := K) rfl (hu_of hr) (pv 3) pe_int) (nomark _)) (pw_and1 (pt_tru (K := K) rfl (pv 4)))))))))) (fun _ _ _ _ _ => (pv 6)))))) pss_nil)
      (pss_cons (ps_if (pt_cmpR (op_eqU (K := K) rfl hr.units) (pe_ixU (K := K) rfl (hu_of hr) (pv 3) pe_int) pe_str (nomark _)) (pss_cons (ps_join (ps_set (i := 4) sc_law_behind.nd rfl (.inr rfl) (pe_and (pe_cmpR (op_inU (K := K) rfl (hu65 hr)) (pe_ixU (K := K) rfl (hu_of hr) (pv 3) pe_int) (pv 2) (by rfl)) (pe_and (pe_cmpR (op_inU (K := K) rfl (hu65 hr)) (pe_ixU (K := K) rfl (hu_of hr) (pv 3) pe_int) (pv 2) (by rfl)) (pe_one (pe_cmpR (op_inU (K := K) rfl (hu65 hr)) (pe_ixU (K := K) rfl (hu_of hr) (pv 3) pe_int) (pv 2) (by rfl)))))))
      (pss_one (ps_ret (pe_lc rfl sc_law_behind.nd (pi_r1 rfl (T.free 34 rfl) (pa_cons pe_int pa_nil)) (blkOk_by (own := [("one", 6)]) (N := ["code", "r", "member", "row", "public", "region", "one"]) (sc := defScope (topS 25)) (by decide +kernel)) (fun _ _ _ _ _ => (pg_name (i := 6) sc_law_behind.nd rfl (.inl rfl))) (fun _ _ _ _ _ => (pts_one (PW.pt (pw_or (PW.pt (pw_and (pt_cmpR (op_neU (K := K) rfl hr.units) (pv 6) (pe_ixU (K := K) rfl (hu_of hr) (pv 3) pe_int) (nomark _)) (pw_and1 (pt_cmpR (op_inU (K := K) rfl (hu65 hr)) (pv 6) (pv 2) (by rfl))))) (pw_or1 (PW.pt (pw_and (pt_cmpR (op_eqU (K := K) rfl hr.units) (pv 6) (pe_ixU (K := K) rfl (hu_of hr) (pv 3) pe_int) (nomark _)) (pw_and1 (pt_tru (K := K) rfl (pv 4)))))))))) (fun _ _ _ _ _ => (pv 6)))))) pss_nil)
      (pss_cons (ps_if (pt_cmpR (op_eqU (K := K) rfl hr.units) (pe_ixU (K := K) rfl (hu_of hr) (pv 3) pe_int) pe_str (nomark _)) (pss_cons (ps_set (i := 5) sc_law_behind.nd rfl (.inl rfl) (pe_callD (K := K) rfl (ok_law_region T) (hr.mono (by decide)) rfl pass0 (pa_cons (pv 0) (pa_cons (pe_ixU (K := K) rfl (hu_of hr) (pv 3) pe_int) (pa_cons (pe_ixU (K := K) rfl (hu_of hr) (pv 3) pe_int) pa_nil)))))
      (pss_cons (ps_join (ps_set (i := 4) sc_law_behind.nd rfl (.inr rfl) (pe_and (pe_cmpR o_notN (pv 5) pe_non (nomark _)) (pe_one (pe_cmpR (op_eqU (K := K) rfl hr.units) (pe_ixU (K := K) rfl (hu_of hr) (pv 5) pe_int) pe_str (nomark _))))))
      (pss_one (ps_ret (pe_lc rfl sc_law_behind.nd (pi_r1 rfl (T.free 34 rfl) (pa_cons pe_int pa_nil)) (blkOk_by (own := [("one", 6)]) (N := ["code", "r", "member", "row", "public", "region", "one"]) (sc := defScope (topS 25)) (by decide +kernel)) (fun _ _ _ _ _ => (pg_name (i := 6) sc_law_behind.nd rfl (.inl rfl))) (fun _ _ _ _ _ => (pts_one (PW.pt (pw_or (PW.pt (pw_and (pt_cmpR (op_neU (K := K) rfl hr.units) (pv 6) (pe_ixU (K := K) rfl (hu_of hr) (pv 3) pe_int) (nomark _)) (pw_and1 (pt_cmpR (op_inU (K := K) rfl (hu65 hr)) (pv 6) (pv 2) (by rfl))))) (pw_or1 (PW.pt (pw_and (pt_cmpR (op_eqU (K := K) rfl hr.units) (pv 6) (pe_ixU (K := K) rfl (hu_of hr) (pv 3) pe_int) (nomark _)) (pw_and1 (pt_tru (K := K) rfl (pv 4)))))))))) (fun _ _ _ _ _ => (pv 6))))))) pss_nil)
      (pss_one (ps_ret (pe_callTy (c_list (K := K) rfl) rfl (T.free 33 rfl) (by decide +kernel) (pa_cons (pv 2) pa_nil))))))))), ?_⟩)
  obtain ⟨code, a, r, many, rgs, rows, row, p, rfl, ic, lo, lr, hr, ro, hm, hQ⟩ := h
  walk_at "go"
  refine m_ix ic (n := 1) rfl rfl (fun v1 hv1 => ?_)
  walk_at "go"
  refine m_ix hv1 (n := r) rfl (by rw [List.getElem?_map, hr]; rfl) (fun y hy => ?_)
  obtain ⟨ra, rfl, hra⟩ := row_tup hy
  walk_at "go"
  refine g_ixT (SqT.of hra) (n := 0) rfl row_kd ?_
  cases row with
  | const d n =>
    have hra : H ra = some (.tup [.str "const", .int d, .int n]) := hra
    dsimp only [Row.kd]
    walk_at "go"
    refine l_rngN (f := bhd rgs (.const d n) p) (by decide) (fun _ => rfl) (fun i H1 QB hi s1 hR => ?_) (fun i H1 R hR => ?_) (fun D H1 hD s1 hD1 => ?_)
    · have hra := s1 _ _ hra
      have e := bhd_q (rgs := rgs) (row := .const d n) (p := p) (d := d) (b := true) rfl (i := i)
      rw [e] at hR
      walk_at "go"
      refine k_inB (hm.same s1) hi ?_
      walk_at "go"
      refine g_ifB (fun c => ?_) (fun c => ?_)
      · rw [c, Bool.and_true, Bool.and_true, Bool.not_or_self] at hR
        exact hR _ (Same.refl _)
      · rw [c, Bool.and_false, Bool.and_true, Bool.false_or] at hR
        walk_at "go"
        rw [nat_eqI]
        exact hR _ (Same.refl _)
    · walk_at "go"
      exact hR
    · exact hQ _ _ s1 hD hD1
  | op sg d x y =>
    have hra : H ra = some (.tup [.str "op", .str sg.s, .int d, .int x, .int y]) := hra
    dsimp only [Row.kd]
    walk_at "go"
    refine ⟨fun σ' H' => σ' = [some code, some (.int (r : Int)), some (.ref a), some (.ref ra), some (.bl (p x && p y)), none, none] ∧ H' = H, ?_, ?_⟩
    · walk_at "go"
      refine k_inB hm ro.2.1 ?_
      walk_at "go"
      refine g_ifB (fun c => ?_) (fun c => ?_)
      · walk_at "go"
        refine k_inB hm ro.2.2.1 ?_
        walk_at "go"
        rw [c, Bool.true_and]
        exact ⟨rfl, rfl⟩
      · walk_at "go"
        rw [c, Bool.false_and]
        exact ⟨rfl, rfl⟩
    rintro σ' H' ⟨rfl, rfl⟩
    walk_at "go"
    refine l_rngN (f := bhd rgs (.op sg d x y) p) (by decide) (fun _ => rfl) (fun i H1 QB hi s1 hR => ?_) (fun i H1 R hR => ?_) (fun D H1 hD s1 hD1 => ?_)
    · have hra := s1 _ _ hra
      rw [bhd_q (rgs := rgs) (row := .op sg d x y) (p := p) (d := d) (b := p x && p y) rfl] at hR
      walk_at "go"
      refine g_ifN (fun c => ?_) (fun c => ?_)
      · have c : ¬ i = d := fun e => c (by rw [e])
        rw [decide_eq_false c, Bool.not_false, Bool.true_and, Bool.false_and, Bool.or_false] at hR
        walk_at "go"
        refine k_inB (hm.same s1) hi ?_
        walk_at "go"
        refine g_ifB (fun c2 => ?_) (fun c2 => ?_)
        · rw [c2] at hR
          exact hR _ (Same.refl _)
        · rw [c2] at hR
          walk_at "go"
          rw [nat_eqI, decide_eq_false c]
          walk_at "go"
          exact hR _ (Same.refl _)
      · have c : i = d := by omega
        rw [decide_eq_true c, Bool.not_true, Bool.true_and, Bool.false_and, Bool.false_or] at hR
        walk_at "go"
        rw [nat_eqI, decide_eq_true c]
        walk_at "go"
        exact hR _ (Same.refl _)
    · walk_at "go"
      exact hR
    · exact hQ _ _ s1 hD hD1
  | select d c x y =>
    have hra : H ra = some (.tup [.str "select", .int d, .int c, .int x, .int y]) := hra
    dsimp only [Row.kd]
    walk_at "go"
    refine ⟨fun σ' H' => σ' = [some code, some (.int (r : Int)), some (.ref a), some (.ref ra), some (.bl (p c && (p x && p y))), none, none] ∧ H' = H, ?_, ?_⟩
    · walk_at "go"
      refine k_inB hm ro.2.1 ?_
      walk_at "go"
      refine g_ifB (fun c1 => ?_) (fun c1 => ?_)
      · walk_at "go"
        refine k_inB hm ro.2.2.1 ?_
        walk_at "go"
        refine g_ifB (fun c2 => ?_) (fun c2 => ?_)
        · walk_at "go"
          refine k_inB hm ro.2.2.2.1 ?_
          walk_at "go"
          rw [c1, c2, Bool.true_and, Bool.true_and]
          exact ⟨rfl, rfl⟩
        · walk_at "go"
          rw [c1, c2, Bool.false_and, Bool.and_false]
          exact ⟨rfl, rfl⟩
      · walk_at "go"
        rw [c1, Bool.false_and]
        exact ⟨rfl, rfl⟩
    rintro σ' H' ⟨rfl, rfl⟩
    walk_at "go"
    refine l_rngN (f := bhd rgs (.select d c x y) p) (by decide) (fun _ => rfl) (fun i H1 QB hi s1 hR => ?_) (fun i H1 R hR => ?_) (fun D H1 hD s1 hD1 => ?_)
    · have hra := s1 _ _ hra
      rw [bhd_q (rgs := rgs) (row := .select d c x y) (p := p) (d := d) (b := p c && (p x && p y)) rfl] at hR
      walk_at "go"
      refine g_ifN (fun c0 => ?_) (fun c0 => ?_)
      · have c0 : ¬ i = d := fun e => c0 (by rw [e])
        rw [decide_eq_false c0, Bool.not_false, Bool.true_and, Bool.false_and, Bool.or_false] at hR
        walk_at "go"
        refine k_inB (hm.same s1) hi ?_
        walk_at "go"
        refine g_ifB (fun c2 => ?_) (fun c2 => ?_)
        · rw [c2] at hR
          exact hR _ (Same.refl _)
        · rw [c2] at hR
          walk_at "go"
          rw [nat_eqI, decide_eq_false c0]
          walk_at "go"
          exact hR _ (Same.refl _)
      · have c0 : i = d := by omega
        rw [decide_eq_true c0, Bool.not_true, Bool.true_and, Bool.false_and, Bool.false_or] at hR
        walk_at "go"
        rw [nat_eqI, decide_eq_true c0]
        walk_at "go"
        exact hR _ (Same.refl _)
    · walk_at "go"
      exact hR
    · exact hQ _ _ s1 hD hD1
  | load d x base mask =>
    have hra : H ra = some (.tup [.str "load", .int d, .int x, .int base, .int mask]) := hra
    dsimp only [Row.kd]
    walk_at "go"
    refine ⟨code, base, mask, rgs, rows, rfl, ic, lo, lr, fun hn H2 s2 => ?_, fun g v H2 hg s2 hv => ?_⟩
    · have hra := s2 _ _ hra
      have hm := hm.same s2
      have ep : pubR rgs base mask = false := by
        unfold pubR
        rw [hn]
      walk_at "go"
      refine ⟨fun σ' H' => σ' = [some code, some (.int (r : Int)), some (.ref a), some (.ref ra), some (.bl (pubR rgs base mask)), some .non, none] ∧ H' = H2, ?_, ?_⟩
      · walk_at "go"
        rw [ep]
        exact ⟨rfl, rfl⟩
      rintro σ' H' ⟨rfl, rfl⟩
      walk_at "go"
      refine l_rngN (f := bhd rgs (.load d x base mask) p) (by decide) (fun _ => rfl) (fun i H1 QB hi s1 hR => ?_) (fun i H1 R hR => ?_) (fun D H1 hD s1 hD1 => ?_)
      · have hra := s1 _ _ hra
        rw [bhd_q (rgs := rgs) (row := .load d x base mask) (p := p) (d := d) (b := pubR rgs base mask) rfl] at hR
        walk_at "go"
        refine g_ifN (fun c => ?_) (fun c => ?_)
        · have c : ¬ i = d := fun e => c (by rw [e])
          rw [decide_eq_false c, Bool.not_false, Bool.true_and, Bool.false_and, Bool.or_false] at hR
          walk_at "go"
          refine k_inB (hm.same s1) hi ?_
          walk_at "go"
          refine g_ifB (fun c2 => ?_) (fun c2 => ?_)
          · rw [c2] at hR
            exact hR _ (Same.refl _)
          · rw [c2] at hR
            walk_at "go"
            rw [nat_eqI, decide_eq_false c]
            walk_at "go"
            exact hR _ (Same.refl _)
        · have c : i = d := by omega
          rw [decide_eq_true c, Bool.not_true, Bool.true_and, Bool.false_and, Bool.false_or] at hR
          walk_at "go"
          rw [nat_eqI, decide_eq_true c]
          walk_at "go"
          exact hR _ (Same.refl _)
      · walk_at "go"
        exact hR
      · exact hQ _ _ (s2.trans s1) (s2.free hD) hD1
    · have hra := s2 _ _ hra
      have hm := hm.same s2
      obtain ⟨ga, rfl, hga⟩ := im3v hv
      have ep : pubR rgs base mask = decide (g.l = "public") := by
        unfold pubR
        rw [hg]
      walk_at "go"
      refine ⟨fun σ' H' => σ' = [some code, some (.int (r : Int)), some (.ref a), some (.ref ra), some (.bl (pubR rgs base mask)), some (.ref ga), none] ∧ H' = H2, ?_, ?_⟩
      · walk_at "go"
        rw [ep]
        exact ⟨rfl, rfl⟩
      rintro σ' H' ⟨rfl, rfl⟩
      walk_at "go"
      refine l_rngN (f := bhd rgs (.load d x base mask) p) (by decide) (fun _ => rfl) (fun i H1 QB hi s1 hR => ?_) (fun i H1 R hR => ?_) (fun D H1 hD s1 hD1 => ?_)
      · have hra := s1 _ _ hra
        rw [bhd_q (rgs := rgs) (row := .load d x base mask) (p := p) (d := d) (b := pubR rgs base mask) rfl] at hR
        walk_at "go"
        refine g_ifN (fun c => ?_) (fun c => ?_)
        · have c : ¬ i = d := fun e => c (by rw [e])
          rw [decide_eq_false c, Bool.not_false, Bool.true_and, Bool.false_and, Bool.or_false] at hR
          walk_at "go"
          refine k_inB (hm.same s1) hi ?_
          walk_at "go"
          refine g_ifB (fun c2 => ?_) (fun c2 => ?_)
          · rw [c2] at hR
            exact hR _ (Same.refl _)
          · rw [c2] at hR
            walk_at "go"
            rw [nat_eqI, decide_eq_false c]
            walk_at "go"
            exact hR _ (Same.refl _)
        · have c : i = d := by omega
          rw [decide_eq_true c, Bool.not_true, Bool.true_and, Bool.false_and, Bool.false_or] at hR
          walk_at "go"
          rw [nat_eqI, decide_eq_true c]
          walk_at "go"
          exact hR _ (Same.refl _)
      · walk_at "go"
        exact hR
      · exact hQ _ _ (s2.trans s1) (s2.free hD) hD1
  | _ =>
    dsimp only [Row.kd]
    walk_at "go"
    refine ⟨a, nV (mL p), rfl, hm.elim (fun h => .inr (SqT.of h)) (fun h => .inl (SqL.of h)), fun l hl => ?_⟩
    exact hQ _ l (Same.new hl) hl upd_same


/-! ### sweeps over a paper, in plain Lean -/
def cutW (B : Mb) (P : Nat → Mb) (w : Nat) : Nat → Mb := updP P w fun x => P w x && B x
def swR (rgs : List Rg) (rows : List Row) (P : Nat → Mb) (r : Nat) : Nat → Mb := match rows[r]? with
  | some row => (waysR r row).foldl (cutW (bhd rgs row (P r))) P
  | none => P
def swN (rgs : List Rg) (rows : List Row) (n : Nat) (P : Nat → Mb) : Nat → Mb := (List.range n).foldl (swR rgs rows) P
def swA (rgs : List Rg) (rows : List Row) (P : Nat → Mb) : Nat → Mb := swN rgs rows rows.length P
def itA (rgs : List Rg) (rows : List Row) : Nat → (Nat → Mb) → Nat → Mb
  | 0, P => P
  | n + 1, P => swA rgs rows (itA rgs rows n P)
/-- the same members -/
def PEq (n : Nat) (P P' : Nat → Mb) : Prop := ∀ r, r < n → mL (P r) = mL (P' r)
def PLe (n : Nat) (P P' : Nat → Mb) : Prop := ∀ r x, r < n → x < 16 → P r x = true → P' r x = true
section
variable {rgs : List Rg} {rows : List Row} {P P' P0 : Nat → Mb} {B : Mb} {n r : Nat}
theorem cutW_le {w x k : Nat} (h : cutW B P w k x = true) : P k x = true := by
  unfold cutW updP at h
  split at h
  · rename_i e
    subst e
    exact (Bool.and_eq_true _ _ ▸ h : P k x = true ∧ B x = true).1
  · exact h
theorem cuts_le : ∀ {ws : List Nat} {P : Nat → Mb} {k x : Nat}, ws.foldl (cutW B) P k x = true → P k x = true
  | [], _, _, _, h => h
  | w :: ws, P, k, x, h => cutW_le (cuts_le (ws := ws) (P := cutW B P w) h)
theorem cuts_in : ∀ {ws : List Nat} {P : Nat → Mb} {k x : Nat}, ws.foldl (cutW B) P k x = true → k ∈ ws → B x = true
  | [], _, _, _, _, hk => by cases hk
  | w :: ws, P, k, x, h, hk => by
    by_cases e : k ∈ ws
    · exact cuts_in (ws := ws) (P := cutW B P w) h e
    · have ek : k = w := (List.mem_cons.mp hk).resolve_right e
      have h1 : cutW B P w k x = true := cuts_le (ws := ws) (P := cutW B P w) h
      unfold cutW updP at h1
      rw [if_pos ek] at h1
      exact (Bool.and_eq_true _ _ ▸ h1 : P w x = true ∧ B x = true).2
/-- what is below P and, at the ways, below B stays below -/
theorem cuts_ge {n : Nat} (hw : ∀ w, w < n → True) : ∀ {ws : List Nat} {P : Nat → Mb}, PLe n P' P → (∀ w ∈ ws, w < n → ∀ x, x < 16 → P' w x = true → B x = true) → PLe n P' (ws.foldl (cutW B) P)
  | [], _, h, _ => h
  | w :: ws, P, h, hB => cuts_ge hw (ws := ws) (P := cutW B P w) (fun r x hr hx hp => by
      unfold cutW updP
      split
      · rename_i e
        subst e
        show (P r x && B x) = true
        rw [h r x hr hx hp, hB r List.mem_cons_self hr x hx hp]
        rfl
      · exact h r x hr hx hp) fun v hv => hB v (List.mem_cons_of_mem _ hv)
theorem swR_le {k x : Nat} (h : swR rgs rows P r k x = true) : P k x = true := by
  unfold swR at h
  cases e : rows[r]? with
  | none =>
    rw [e] at h
    exact h
  | some row =>
    rw [e] at h
    exact cuts_le h
theorem swN_le : ∀ {n : Nat} {k x : Nat}, swN rgs rows n P k x = true → P k x = true
  | 0, _, _, h => h
  | n + 1, k, x, h => by
    unfold swN at h
    rw [List.range_succ, List.foldl_append] at h
    exact swN_le (n := n) (swR_le h)
theorem swN_succ : swN rgs rows (n + 1) P = swR rgs rows (swN rgs rows n P) n := by
  unfold swN
  rw [List.range_succ, List.foldl_append]
  rfl
theorem PLe.trans {n : Nat} (h : PLe n P P') (g : PLe n P' P0) : PLe n P P0 := fun r x hr hx hp => g r x hr hx (h r x hr hx hp)
/-- papers that hold stay below -/
theorem swN_ge (jo : JOk rows) (hP : Hold rgs rows P') (h : PLe rows.length P' P) : ∀ {n : Nat}, PLe rows.length P' (swN rgs rows n P)
  | 0 => h
  | n + 1 => by
    have ih := swN_ge jo hP h (n := n)
    rw [swN_succ]
    unfold swR
    cases hr : rows[n]? with
    | none => exact ih
    | some row =>
      have ro := jo.r n row hr
      have hn := (List.getElem?_eq_some_iff.mp hr).1
      refine cuts_ge (fun _ _ => trivial) ih fun w hw hwn x hx hp => ?_
      exact bhd_mono (fun y hy hy2 => ih n y hn hy hy2) ro x hx (hP n row hr w hw x hx hp)
theorem mL_eq_of (h : ∀ x, x < 16 → P r x = P' r x) : mL (P r) = mL (P' r) := mL_ext h
/-- a paper that a sweep leaves as it is holds -/
theorem swA_hold (jo : JOk rows) (h : PEq rows.length (swA rgs rows P) P) : Hold rgs rows P := fun r row hr w hw x hx hp => by
  have ro := jo.r r row hr
  have hrl := (List.getElem?_eq_some_iff.mp hr).1
  have hwl := waysR_lt ro hw
  have eqx : ∀ k y, k < rows.length → y < 16 → swA rgs rows P k y = P k y := fun k y hk hy => mL_inj (h k hk) y hy
  -- between, nothing is changed either
  have mid : ∀ m, m ≤ rows.length → ∀ k y, k < rows.length → y < 16 → swN rgs rows m P k y = P k y := fun m hm k y hk hy => by
    rw [Bool.eq_iff_iff]
    refine ⟨swN_le, fun z => ?_⟩
    rw [← eqx k y hk hy] at z
    have down : ∀ d, m + d ≤ rows.length → swN rgs rows (m + d) P k y = true → swN rgs rows m P k y = true := by
      intro d
      induction d with
      | zero => exact fun _ h => h
      | succ d ih =>
        intro hd h
        rw [← Nat.add_assoc, swN_succ] at h
        exact ih (by omega) (swR_le h)
    exact down (rows.length - m) (by omega) (by rw [show m + (rows.length - m) = rows.length by omega]; exact z)
  have h1 := mid (r + 1) (by omega) w x hwl hx
  rw [hp, swN_succ] at h1
  unfold swR at h1
  rw [hr] at h1
  have h2 := cuts_in h1 hw
  rw [bhd_ext (fun y hy => mid r (by omega) r y hrl hy) ro x hx] at h2
  exact h2
theorem sz_mono : ∀ {n : Nat}, PLe n P P' → Sz P n ≤ Sz P' n ∧ (Sz P n = Sz P' n → PEq n P P')
  | 0, _ => ⟨Nat.le_refl _, fun _ r h => absurd h (by omega)⟩
  | n + 1, h => by
    obtain ⟨i1, i2⟩ := sz_mono (n := n) fun r x hr hx hp => h r x (by omega) hx hp
    have e : ∀ Q : Nat → Mb, Sz Q (n + 1) = Sz Q n + (mL (Q n)).length := fun Q => by
      unfold Sz
      rw [List.range_succ, List.map_append, List.sum_append]
      simp
    have hle : (mL (P n)).length ≤ (mL (P' n)).length := by
      by_cases c : mL (P n) = mL (P' n)
      · rw [c]
        exact Nat.le_refl _
      · exact Nat.le_of_lt (filt_lt (fun x hx hp => h n x (by omega) hx hp) c)
    rw [e, e]
    refine ⟨by omega, fun hs r hr => ?_⟩
    by_cases c : mL (P n) = mL (P' n)
    · rcases Nat.lt_or_ge r n with hrn | hrn
      · exact i2 (by omega) r hrn
      · rw [show r = n by omega]
        exact c
    · have := filt_lt (fun x hx hp => h n x (by omega) hx hp) c
      omega
theorem swA_le : PLe n (swA rgs rows P) P := fun _ _ _ _ h => swN_le h
theorem PEq.symm (h : PEq n P P') : PEq n P' P := fun r hr => (h r hr).symm
/-- a sweep of papers with the same members -/
theorem swA_ext (jo : JOk rows) (h : PEq rows.length P P') : PEq rows.length (swA rgs rows P) (swA rgs rows P') := by
  have cutE : ∀ {B B' : Mb} {Q Q' : Nat → Mb} {w : Nat}, PEq rows.length Q Q' → (∀ x, x < 16 → B x = B' x) → PEq rows.length (cutW B Q w) (cutW B' Q' w) := fun {B B' Q Q' w} hq hb r hr => by
    unfold cutW updP
    split
    · rename_i e
      subst e
      exact mL_ext fun x hx => by rw [mL_inj (hq r hr) x hx, hb x hx]
    · exact hq r hr
  have cutsE : ∀ {ws : List Nat} {B B' : Mb} {Q Q' : Nat → Mb}, PEq rows.length Q Q' → (∀ x, x < 16 → B x = B' x) → PEq rows.length (ws.foldl (cutW B) Q) (ws.foldl (cutW B') Q') := by
    intro ws
    induction ws with
    | nil => exact fun hq _ => hq
    | cons w ws ih => exact fun hq hb => ih (cutE hq hb) hb
  have go : ∀ n, n ≤ rows.length → PEq rows.length (swN rgs rows n P) (swN rgs rows n P') := by
    intro n
    induction n with
    | zero => exact fun _ => h
    | succ n ih =>
      intro hn
      have ih := ih (by omega)
      rw [swN_succ, swN_succ]
      unfold swR
      cases hr : rows[n]? with
      | none => exact ih
      | some row =>
        exact cutsE ih (bhd_ext (fun x hx => mL_inj (ih n (by omega)) x hx) (jo.r n row hr))
  exact go _ (Nat.le_refl _)
/-- after as many sweeps as there are members, nothing changes any more -/
theorem itA_fix (jo : JOk rows) : ∀ n, PEq rows.length (swA rgs rows (itA rgs rows n P)) (itA rgs rows n P) ∨ Sz (itA rgs rows n P) rows.length + n ≤ Sz P rows.length
  | 0 => .inr (Nat.le_refl _)
  | n + 1 => by
    rcases itA_fix jo n with h | h
    · exact .inl (swA_ext jo h)
    · by_cases c : PEq rows.length (swA rgs rows (itA rgs rows n P)) (itA rgs rows n P)
      · exact .inl (swA_ext jo c)
      · right
        obtain ⟨z1, z2⟩ := sz_mono (n := rows.length) (swA_le (rgs := rgs) (rows := rows) (P := itA rgs rows n P))
        have : ¬ Sz (swA rgs rows (itA rgs rows n P)) rows.length = Sz (itA rgs rows n P) rows.length := fun e => c (z2 e)
        show Sz (swA rgs rows (itA rgs rows n P)) rows.length + (n + 1) ≤ _
        omega
theorem itA_le : ∀ n, PLe rows.length (itA rgs rows n P) P
  | 0 => fun _ _ _ _ h => h
  | n + 1 => fun r x hr hx h => itA_le n r x hr hx (swN_le h)
theorem itA_hold (jo : JOk rows) (h : 16 * rows.length < n) : Hold rgs rows (itA rgs rows n P) := by
  rcases itA_fix (rgs := rgs) (P := P) jo n with z | z
  · exact swA_hold jo z
  · have := sz_le (P := P) (n := rows.length)
    omega
end
/-! ### a paper's text tells how many members it has -/
def lenT (l : List Nat) : Nat := (listText (PyData.shownAll (nDs l))).length
theorem shownAll_nDs : ∀ l : List Nat, PyData.shownAll (nDs l) = l.map fun (n : Nat) => (toString (n : Int) : Str)
  | [] => by
    show PyData.shownAll [] = _
    simp only [PyData.shownAll, List.map_nil]
  | n :: l => by
    show PyData.shownAll (.int (n : Int) :: nDs l) = _
    rw [PyData.shownAll, shownAll_nDs l, PyData.shown, List.map_cons]
theorem listText_pos : ∀ {ts : List Str}, ts ≠ [] → (listText ts).length = piled ts
  | [], h => absurd rfl h
  | t :: r, _ => by
    have h := textFrom_length_pos r 1 (("[" : Str) ++ (if (0 : Nat) > 0 then ", " else "" : String) ++ t) (Nat.succ_pos 0)
    have e : ((("[" : Str) ++ (if (0 : Nat) > 0 then ", " else "" : String) ++ t)).length = 1 + t.length := by
      rw [strLen_append, strLen_append]
      rfl
    show (textFrom 0 "[" (t :: r) ++ "]").length = _
    rw [strLen_append]
    show (textFrom 1 (("[" : Str) ++ (if (0 : Nat) > 0 then ", " else "" : String) ++ t) r).length + 1 = _
    rw [h, e, piled_cons]
    omega
theorem dig_len : ∀ n : Nat, n < 16 → 1 ≤ (toString (n : Int) : Str).length ∧ (toString (n : Int) : Str).length ≤ 2 ∧ ((n : Int).natAbs.log2 < 1920) := by decide +kernel
def pdT (l : List Nat) : Nat := (l.map fun (n : Nat) => (toString (n : Int) : Str).length + 2).sum
theorem piled_nDs {l : List Nat} : piled (PyData.shownAll (nDs l)) = pdT l := by
  rw [shownAll_nDs]
  unfold piled pdT
  rw [List.map_map]
  rfl
theorem lenT_nil : lenT [] = 2 := by decide +kernel
theorem lenT_pos {l : List Nat} (h : l ≠ []) : lenT l = pdT l := by
  unfold lenT
  rw [listText_pos, piled_nDs]
  rw [shownAll_nDs]
  simpa using h
theorem pdT_ge : ∀ {l : List Nat}, (∀ x ∈ l, x < 16) → 3 * l.length ≤ pdT l ∧ pdT l ≤ 4 * l.length
  | [], _ => by simp [pdT]
  | n :: l, h => by
    obtain ⟨i1, i2⟩ := pdT_ge (l := l) fun x hx => h x (List.mem_cons_of_mem _ hx)
    obtain ⟨d1, d2, _⟩ := dig_len n (h n List.mem_cons_self)
    have e : pdT (n :: l) = (toString (n : Int) : Str).length + 2 + pdT l := by
      unfold pdT
      rw [List.map_cons, List.sum_cons]
    rw [e, List.length_cons]
    omega
theorem pdT_filter {q : Nat → Bool} : ∀ {l : List Nat}, pdT (l.filter q) + 2 * (l.length - (l.filter q).length) ≤ pdT l
  | [] => by simp [pdT]
  | n :: l => by
    have ih := pdT_filter (q := q) (l := l)
    have hle := List.length_filter_le q l
    have e : ∀ l : List Nat, pdT (n :: l) = (toString (n : Int) : Str).length + 2 + pdT l := fun l => by
      unfold pdT
      rw [List.map_cons, List.sum_cons]
    rw [List.filter_cons]
    split
    · rw [e, e, List.length_cons, List.length_cons]
      omega
    · rw [e, List.length_cons]
      omega
theorem lenT_filter {q : Nat → Bool} {l : List Nat} (h : ∀ x ∈ l, x < 16) : lenT (l.filter q) ≤ lenT l ∧ (lenT (l.filter q) = lenT l → l.filter q = l) := by
  have hle := List.length_filter_le q l
  have hp := pdT_filter (q := q) (l := l)
  have hg := (pdT_ge h).1
  by_cases c : l.filter q = l
  · rw [c]
    exact ⟨Nat.le_refl _, fun _ => rfl⟩
  · have hlt : (l.filter q).length < l.length := by
      rcases Nat.lt_or_ge (l.filter q).length l.length with z | z
      · exact z
      · exact absurd ((List.filter_sublist).eq_of_length_le z) c
    have hl : l ≠ [] := fun e => by
      rw [e] at hlt
      simp at hlt
    rw [lenT_pos hl]
    by_cases e : l.filter q = []
    · rw [e, lenT_nil]
      have : 1 ≤ l.length := by omega
      exact ⟨by omega, fun z => by omega⟩
    · rw [lenT_pos e]
      exact ⟨by omega, fun z => by omega⟩
/-- a paper as a list of lists -/
abbrev lpD (P : Nat → Mb) (n : Nat) : PyData := .list ((List.range n).map fun r => .list (nDs (mL (P r))))
theorem shown_lp {P : Nat → Mb} {n : Nat} : (lpD P n).shown = listText ((List.range n).map fun r => listText (PyData.shownAll (nDs (mL (P r))))) := by
  rw [PyData.shown]
  congr 1
  generalize List.range n = l
  induction l with
  | nil => simp only [List.map_nil, PyData.shownAll]
  | cons r l ih => rw [List.map_cons, List.map_cons, PyData.shownAll, PyData.shown, ih]
theorem shown_len {P : Nat → Mb} {n : Nat} (hn : 0 < n) : (lpD P n).shown.length = ((List.range n).map fun r => lenT (mL (P r)) + 2).sum := by
  rw [shown_lp, listText_pos (by
    intro e
    have := congrArg List.length e
    rw [List.length_map, List.length_range, List.length_nil] at this
    omega)]
  unfold piled
  rw [List.map_map]
  rfl
theorem mL_sub {p q : Mb} (h : ∀ x, x < 16 → q x = true → p x = true) : mL q = (mL p).filter q := by
  unfold mL
  rw [List.filter_filter]
  refine List.filter_congr fun x hx => ?_
  have hx := List.mem_range.mp hx
  cases c : q x with
  | true => rw [h x hx c]; rfl
  | false => rfl
theorem mL_b {p : Mb} : ∀ x ∈ mL p, x < 16 := fun x hx => (mL_mem.mp hx).1
theorem sum_eq {P P' : Nat → Mb} : ∀ {n : Nat}, PLe n P P' → ((List.range n).map fun r => lenT (mL (P r)) + 2).sum ≤ ((List.range n).map fun r => lenT (mL (P' r)) + 2).sum ∧
    (((List.range n).map fun r => lenT (mL (P r)) + 2).sum = ((List.range n).map fun r => lenT (mL (P' r)) + 2).sum → PEq n P P')
  | 0, _ => ⟨Nat.le_refl _, fun _ r h => absurd h (by omega)⟩
  | n + 1, h => by
    obtain ⟨i1, i2⟩ := sum_eq (n := n) fun r x hr hx hp => h r x (by omega) hx hp
    have e : ∀ Q : Nat → Mb, ((List.range (n + 1)).map fun r => lenT (mL (Q r)) + 2).sum = ((List.range n).map fun r => lenT (mL (Q r)) + 2).sum + (lenT (mL (Q n)) + 2) := fun Q => by
      rw [List.range_succ, List.map_append, List.sum_append]
      simp
    obtain ⟨l1, l2⟩ := lenT_filter (q := P n) (l := mL (P' n)) mL_b
    rw [← mL_sub (fun x hx hp => h n x (by omega) hx hp)] at l1 l2
    rw [e, e]
    refine ⟨by omega, fun hs r hr => ?_⟩
    rcases Nat.lt_or_ge r n with hrn | hrn
    · exact i2 (by omega) r hrn
    · rw [show r = n by omega]
      exact l2 (by omega)
/-- the same text, the same members -/
theorem shown_eq {P P' : Nat → Mb} {n : Nat} (hn : 0 < n) (h : PLe n P P') (e : (lpD P n).shown = (lpD P' n).shown) : PEq n P P' := by
  refine (sum_eq h).2 ?_
  rw [← shown_len hn, ← shown_len hn, e]
theorem lenT_le {p : Mb} : lenT (mL p) ≤ 66 := by
  by_cases c : mL p = []
  · rw [c, lenT_nil]
    decide
  · rw [lenT_pos c]
    have := (pdT_ge (mL_b (p := p))).2
    have := mL_len (p := p)
    omega
theorem shown_le {P : Nat → Mb} {n : Nat} (hn : 0 < n) (h : n ≤ 1000) : (lpD P n).shown.length ≤ 100000 := by
  rw [shown_len hn]
  have : ∀ n : Nat, ((List.range n).map fun r => lenT (mL (P r)) + 2).sum ≤ 68 * n := by
    intro n
    induction n with
    | zero => exact Nat.le_refl _
    | succ n ih =>
      rw [List.range_succ, List.map_append, List.sum_append]
      have := lenT_le (p := P n)
      simp only [List.map_cons, List.map_nil, List.sum_cons, List.sum_nil]
      omega
  have := this n
  omega
theorem showN : ∀ {l : List Nat}, (∀ x ∈ l, x < 16) → PyData.showableAll (nDs l) = true
  | [], _ => by
    show PyData.showableAll [] = true
    simp only [PyData.showableAll]
  | n :: l, h => by
    show PyData.showableAll (.int (n : Int) :: nDs l) = true
    rw [PyData.showableAll, showN fun x hx => h x (List.mem_cons_of_mem _ hx), PyData.showable, decide_eq_true (dig_len n (h n List.mem_cons_self)).2.2]
    rfl
theorem show_lp {P : Nat → Mb} {n : Nat} : (lpD P n).showable = true := by
  rw [PyData.showable]
  generalize List.range n = l
  induction l with
  | nil => simp only [List.map_nil, PyData.showableAll]
  | cons r l ih => rw [List.map_cons, PyData.showableAll, PyData.showable, showN mL_b, ih]; rfl
theorem lay_ln {l : List Nat} : Lay 1 (.list (nDs l)) := ⟨by
  rw [PyData.canLay0]
  exact layAll_mem fun d hd => by
    obtain ⟨x, _, rfl⟩ := List.mem_map.mp hd
    rw [PyData.canLay0], by
  rw [PyData.depth]
  have : PyData.depthAll (nDs l) ≤ 0 := depthAll_mem fun d hd => by
    obtain ⟨x, _, rfl⟩ := List.mem_map.mp hd
    rw [PyData.depth]
    exact Nat.le_refl _
  omega⟩
theorem lay_lp {P : Nat → Mb} {n : Nat} : Lay 2 (lpD P n) := ⟨by
  rw [PyData.canLay0]
  exact layAll_mem fun d hd => by
    obtain ⟨r, _, rfl⟩ := List.mem_map.mp hd
    exact lay_ln.1, by
  rw [PyData.depth]
  have : PyData.depthAll ((List.range n).map fun r => PyData.list (nDs (mL (P r)))) ≤ 1 := depthAll_mem fun d hd => by
    obtain ⟨r, _, rfl⟩ := List.mem_map.mp hd
    exact lay_ln.2
  omega⟩


/-! the state, written as a list -/
local macro_rules | `(tactic| walk_at "nrm") => `(tactic| simp only [L2.start, List.map_cons, List.map_nil, List.length_cons, List.length_nil, Nat.reduceAdd, Nat.reduceSub, List.replicate_succ, List.replicate_zero, List.cons_append, List.nil_append, List.set_cons_zero, List.set_cons_succ])

section
variable {K : PySem.W.Frag} {σ : L2.St} {H : Hp} {te : TE} {vs : List Nat} {Q : VK} {a : Addr} {xs : List V} {k : Nat}
/-- over a list of the heap, without draws -/
theorem l_mapL {f : Nat → PyData} (ha : H a = some (.lst xs)) (hl : xs.length ≤ 10000) (hwp : ∀ x : V, wipe ((wipe σ vs).set k (some x)) vs = wipe σ vs)
    (step : ∀ (i : Nat) (y : V) (H' : Hp) (R : VK), xs[i]? = some y → Same H H' → (∀ H2 v, Same H' H2 → Im H2 v (f i) → R v H2) → te ((wipe σ vs).set k (some y)) H' R)
    (q : ∀ D H' us, Same H H' → H' D = some (.lst us) → Ims H' us ((List.range xs.length).map f) → Q (.ref D) H') : LcW (gName k) tYes te vs σ Q (Itl K a) H := by
  refine l_list (xs := xs) (fun D i H' => ∃ us, H' D = some (.lst us) ∧ Ims H' us ((List.range i).map f) ∧ Same H H') (fun D hD => ⟨[], upd_same, .nil, Same.new hD⟩) (fun D hD i H' _ ⟨_, _, _, sm⟩ => SqL.of (sm _ _ ha)) ?_ ?_
  · rintro D hD i y H' hi ⟨us, hD', im, sm⟩
    have hil := (List.getElem?_eq_some_iff.mp hi).1
    have hul : us.length = i := by rw [im.length, List.length_map, List.length_range]
    refine g_name (g_wipe (hwp _) (g_yes (g_ifT ?_)))
    refine step i y H' _ hi sm (fun H2 v sm2 imv => ?_)
    have hD2 := sm2 _ _ hD'
    refine ⟨us, hD2, szl (by omega), _, upd_same, ?_, Same.mut (sm.trans sm2) hD⟩
    rw [List.range_succ, List.map_append]
    exact ims_snoc (H2 := H2) (im.same sm2) imv hD2
  · rintro D hD H' ⟨us, hD', im, sm⟩
    exact q D H' us sm hD' im
end

/-! ### the law's ways, the law's greatest paper, walked -/
def sp_law_ways (K : PySem.W.Frag) : Sp := fun vs H Q _ => ∃ (code : V) (r : Nat) (rgs : List Rg) (rows : List Row) (row : Row), vs = [code, .int (r : Int)] ∧ Im H code (codeD rgs rows) ∧ rows[r]? = some row ∧
  ∀ H' D, Same H H' → H D = none → H' D = some (.lst (nV (waysR r row))) → Q (.ref D) H'
theorem sc_law_ways : FnScope ["code", "r", "row"] ["code", "r"] (defScope (topS 26)) := ⟨rfl, rfl, rfl, by decide +kernel, rfl, by decide +kernel, by decide +kernel⟩
theorem ok_law_ways (T : Txt fa fn K mg (XOk cs xcs K w)) : Dn P w K mg base CX0 1 "_law_ways" ["code", "r"] (sp_law_ways K) := by
  refine mk_dn (d := dOf "_law_ways" 26) T 18 18 rfl rfl rfl rfl rfl sc_law_ways (by walk_at "len") (fun _ _ _ _ _ _ us hl => match us, hl with | [_, _], _ => rfl) (fun cdv A outer s H vs Q E hr h => ⟨_, (pss_cons (ps_set (i := 2) sc_law_ways.nd rfl (.inl rfl) (pe_ixU (K := K) rfl (hu_of hr) (pe_ixU (K := K) rfl (hu_of hr) (pv 0) pe_int) (pv 1)))
      (pss_cons (ps_if (pt_cmpR (op_eqU (K := K) rfl hr.units) (pe_ixU (K := K) rfl (hu_of hr) (pv 2) pe_int) pe_str (nomark _)) (pss_one (ps_ret (pe_lst pa_nil))) pss_nil)
      (pss_cons (ps_if (pt_cmpR (op_eqU (K := K) rfl hr.units) (pe_ixU (K := K) rfl (hu_of hr) (pv 2) pe_int) pe_str (nomark _)) (pss_one (ps_ret (pe_lst (pa_cons (pe_ixU (K := K) rfl (hu_of hr) (pv 2) pe_int) pa_nil)))) pss_nil)
      (pss_cons (ps_if (PW.pt (pw_and (pt_cmpR (op_eqU (K := K) rfl hr.units) (pe_ixU (K := K) rfl (hu_of hr) (pv 2) pe_int) pe_str (nomark _)) (pw_and1 (pt_cmpR (op_neU (K := K) rfl hr.units) (pe_ixU (K := K) rfl (hu_of hr) (pv 2) pe_int) (pe_op (op_addU (K := K) rfl) (pv 1) pe_int) (nomark _))))) (pss_one (ps_ret (pe_callB (c_sortU (K := K) rfl) rfl (T.free 36 rfl) (by decide +kernel) (pa_cons (pe_lst (pa_cons (pe_op (op_addU (K := K) rfl) (pv 1) pe_int) (pa_cons (pe_ixU (K := K) rfl (hu_of hr) (pv 2) pe_int) pa_nil))) pa_nil)))) pss_nil)
      (pss_one (ps_ret (pe_lst (pa_cons (pe_op (op_addU (K := K) rfl) (pv 1) pe_int) pa_nil)))))))), ?_⟩)
  obtain ⟨code, r, rgs, rows, row, rfl, ic, hr, hQ⟩ := h
  walk_at "go"
  refine m_ix ic (n := 1) rfl rfl (fun v1 hv1 => ?_)
  walk_at "go"
  refine m_ix hv1 (n := r) rfl (by rw [List.getElem?_map, hr]; rfl) (fun y hy => ?_)
  obtain ⟨ra, rfl, hra⟩ := row_tup hy
  walk_at "go"
  refine g_ixT (SqT.of hra) (n := 0) rfl row_kd ?_
  have e1 : (r : Int) + 1 = ((r + 1 : Nat) : Int) := by omega
  cases row with
  | stop a =>
    dsimp only [Row.kd]
    walk_at "go"
    refine ⟨by decide, fun p hp => ?_⟩
    exact hQ _ p (Same.new hp) hp upd_same
  | jump t =>
    have hra : H ra = some (.tup [.str "jump", .int t]) := hra
    dsimp only [Row.kd]
    walk_at "go"
    refine ⟨by show 1 ≤ sizeLine; decide, fun p hp => ?_⟩
    exact hQ _ p (Same.new hp) hp upd_same
  | branch a t =>
    have hra : H ra = some (.tup [.str "branch", .int a, .int t]) := hra
    have hQ : ∀ H' D, Same H H' → H D = none → H' D = some (.lst (nV (if r + 1 = t then [t] else if r + 1 < t then [r + 1, t] else [t, r + 1]))) → Q (.ref D) H' := hQ
    dsimp only [Row.kd]
    walk_at "go"
    rw [e1]
    refine g_ifN (fun c => ?_) (fun c => ?_)
    · have c : ¬ r + 1 = t := fun e => c (by omega)
      rw [if_neg c] at hQ
      walk_at "go"
      rw [e1]
      refine ⟨by show 2 ≤ sizeLine; decide, fun p hp => ?_⟩
      have sp := Same.new (o := .lst [V.int ((r + 1 : Nat) : Int), .int (t : Int)]) hp
      walk_at "go"
      by_cases c2 : r + 1 < t
      · rw [if_pos c2] at hQ
        refine k_sortN (l := [r + 1, t]) (m := [r + 1, t]) upd_same (by show 2 < 64; decide) (List.Perm.refl _) (by simp [c2]) (fun q hq => ?_)
        exact hQ _ q (sp.trans (Same.new hq)) (sp.free hq) upd_same
      · rw [if_neg c2] at hQ
        refine k_sortN (l := [r + 1, t]) (m := [t, r + 1]) upd_same (by show 2 < 64; decide) (List.Perm.swap _ _ _) (by simp; omega) (fun q hq => ?_)
        exact hQ _ q (sp.trans (Same.new hq)) (sp.free hq) upd_same
    · have c : r + 1 = t := by omega
      rw [if_pos c] at hQ
      walk_at "go"
      rw [e1]
      refine ⟨by show 1 ≤ sizeLine; decide, fun p hp => ?_⟩
      refine hQ _ p (Same.new hp) hp ?_
      rw [upd_same, c]
      rfl
  | _ =>
    dsimp only [Row.kd]
    walk_at "go"
    rw [e1]
    refine ⟨by show 1 ≤ sizeLine; decide, fun p hp => ?_⟩
    exact hQ _ p (Same.new hp) hp upd_same
/-- the paper as a list of lists of the heap -/
structure PapL (H : Hp) (pa : Addr) (P : Nat → Mb) (n : Nat) (as : List Addr) : Prop where
  a : H pa = some (.lst (as.map V.ref))
  l : as.length = n
  m : ∀ (r : Nat) (b : Addr), as[r]? = some b → H b = some (.lst (nV (mL (P r))))
section
variable {K : PySem.W.Frag} {H H' : Hp} {pa D : Addr} {P : Nat → Mb} {n r : Nat} {as : List Addr} {q : Mb} {R : Hp → Prop}
theorem PapL.same (h : PapL H pa P n as) (s : Same H H') : PapL H' pa P n as := ⟨s _ _ h.a, h.l, fun r b hb => s _ _ (h.m r b hb)⟩
theorem PapL.ne (h : PapL H pa P n as) (hn : 0 < n) {b : Addr} {l : List Nat} (hb : H b = some (.lst (nV l))) : b ≠ pa := fun e => by
  rw [e, h.a] at hb
  have hb := HO.lst.inj (Option.some.inj hb)
  have hl := h.l
  cases as with
  | nil => simp at hl; omega
  | cons a as =>
    cases l with
    | nil => cases hb
    | cons x l =>
      unfold nV at hb
      rw [List.map_cons, List.map_cons] at hb
      cases hb
theorem PapL.at_ (h : PapL H pa P n as) (hr : r < n) : ∃ b, as[r]? = some b ∧ H b = some (.lst (nV (mL (P r)))) := by
  have hl := h.l
  exact ⟨as[r], List.getElem?_eq_getElem (by omega), h.m r _ (List.getElem?_eq_getElem (by omega))⟩
/-- another list at place r -/
theorem PapL.put (h : PapL H pa P n as) (hn : 0 < n) (hr : r < n) (hD : H D = some (.lst (nV (mL q)))) : PapL (upd H pa (.lst ((as.set r D).map V.ref))) pa (updP P r q) n (as.set r D) where
  a := upd_same
  l := by rw [List.length_set]; exact h.l
  m := fun k b hb => by
    rw [List.getElem?_set] at hb
    unfold updP
    by_cases e : r = k
    · subst e
      rw [if_pos rfl, if_pos (by rw [h.l]; exact hr)] at hb
      cases hb
      rw [if_pos rfl, upd_ne (h.ne hn hD)]
      exact hD
    · rw [if_neg e] at hb
      rw [if_neg (Ne.symm e), upd_ne (h.ne hn (h.m k b hb))]
      exact h.m k b hb
theorem PapL.dp (h : PapL H pa P n as) : Dp K H (.ref pa) (lpD P n) := by
  refine .lst (SqL.of h.a) ?_
  have hl := h.l
  have hm := h.m
  clear h
  have go : ∀ (as : List Addr) (k : Nat), (∀ (r : Nat) (b : Addr), as[r]? = some b → H b = some (.lst (nV (mL (P (k + r)))))) → DpAll K H (as.map V.ref) ((List.range as.length).map fun r => .list (nDs (mL (P (k + r))))) := by
    intro as
    induction as with
    | nil => exact fun _ _ => .nil
    | cons a as ih =>
      intro k hk
      rw [List.map_cons, List.length_cons, List.range_succ_eq_map, List.map_cons, List.map_map]
      refine .cons (.lst (SqL.of (hk 0 a rfl)) ?_) ?_
      · have : ∀ l : List Nat, DpAll K H (nV l) (nDs l) := by
          intro l
          induction l with
          | nil => exact .nil
          | cons x l ih => exact .cons (.int _) ih
        exact this _
      · have z := ih (k + 1) fun r b hb => by
          have := hk (r + 1) b (by simpa using hb)
          rw [show k + 1 + r = k + (r + 1) by omega]
          exact this
        have e : ((fun r => PyData.list (nDs (mL (P (k + r))))) ∘ Nat.succ) = fun r => PyData.list (nDs (mL (P (k + 1 + r)))) := funext fun r => by
          show PyData.list (nDs (mL (P (k + (r + 1))))) = _
          rw [show k + (r + 1) = k + 1 + r by omega]
        rw [e]
        exact z
  have z := go as 0 (fun r b hb => by rw [Nat.zero_add]; exact hm r b hb)
  rw [hl] at z
  have e : ((List.range n).map fun r => PyData.list (nDs (mL (P (0 + r))))) = (List.range n).map fun r => .list (nDs (mL (P r))) := List.map_congr_left fun r _ => by rw [Nat.zero_add]
  rw [e] at z
  exact z
theorem g_setA {a : Addr} {xs : List V} {m : Nat} {y : V} (h : H a = some (.lst xs)) (hm : m < xs.length) (k : R (upd H a (.lst (xs.set m y)))) : rSetU (.ref a) (.int (m : Int)) y H R :=
  .inl ⟨a, xs, (m : Int), m, rfl, rfl, h, by
    unfold ixN
    rw [if_pos (by omega), if_pos (by omega)]
    congr 1, k⟩
end
theorem rgV_N (n : Nat) : L2.rgV 0 (n : Int) = nV (List.range n) := by
  unfold L2.rgV nV
  have e : ((n : Int) - 0).toNat = n := by omega
  rw [e]
  refine List.map_congr_left fun i _ => ?_
  show V.int (0 + (i : Int)) = V.int (i : Int)
  rw [Int.zero_add]
theorem ims_nV_inv {H : Hp} : ∀ {l : List Nat} {us : List V}, Ims H us (nDs l) → us = nV l
  | [], _, h => h.nil_inv
  | n :: l, us, h => by
    have h : Ims H us (PyData.int (n : Int) :: nDs l) := h
    obtain ⟨v, ws, rfl, i1, i2⟩ := Ims.cons_inv h
    rw [i1.int_inv, ims_nV_inv i2]
    rfl
theorem mL_all : mL (fun _ => true) = List.range 16 := by
  unfold mL
  exact List.filter_eq_self.mpr fun _ _ => rfl
def sp_law_greatest (K : PySem.W.Frag) : Sp := fun vs H Q _ => ∃ (code : V) (rgs : List Rg) (rows : List Row), vs = [code] ∧ Im H code (codeD rgs rows) ∧ JOk rows ∧ lblOk rgs ∧ rgs.length ≤ 1000 ∧ 0 < rows.length ∧ rows.length ≤ 24 ∧
  ∀ H' v P, Grt rgs rows P → Same H H' → Im H' v (papD P rows.length) → Q v H'
theorem sc_law_greatest : FnScope ["code", "paper", "turn", "before", "r", "behind", "way", "row", "member", "one"] ["code"] (defScope (topS 27)) := ⟨rfl, rfl, rfl, by decide +kernel, rfl, by decide +kernel, by decide +kernel⟩
theorem ok_law_greatest (T : Txt fa fn K mg (XOk cs xcs K w)) : DnG P w K mg base CX0 3 "_law_greatest" ["code"] (sp_law_greatest K) := by
  refine mk_dnG (d := dOf "_law_greatest" 27) T 19 19 rfl rfl rfl rfl rfl sc_law_greatest (by walk_at "len") (fun _ _ _ _ _ _ us hl => match us, hl with | [_], _ => rfl) (fun cdv A outer s H vs Q E hgd hr h => ⟨_, (pss_cons (ps_setLc (i := 1) rfl sc_law_greatest.nd rfl rfl (sw_true rfl rfl rfl (by decide +kernel)) (pi_seq (K := K) rfl (pe_ixU (K := K) rfl (hu_of hr) (pv 0) pe_int)) (blkOk_by (own := [("row", 7)]) (N := ["code", "paper", "turn", "before", "r", "behind", "way", "row", "member", "one"]) (sc := defScope (topS 27)) (by decide +kernel)) (fun _ _ _ _ _ => (pg_name (i := 7) sc_law_greatest.nd rfl (.inl rfl))) (fun _ _ _ _ _ => pts_nil) (fun _ _ _ _ _ => (pe_listRg rfl rfl (T.free 33 rfl) (prg_1 rfl (T.free 34 rfl) pe_int))))
      (pss_cons (ps_for PassesOwn.never rfl (pi_r1 rfl (T.free 34 rfl) (pa_cons pe_int pa_nil)) (pg_name (i := 2) sc_law_greatest.nd rfl (.inl rfl)) (pss_cons (ps_set (i := 3) sc_law_greatest.nd rfl (.inl rfl) (pe_callB (c_repr (K := K) rfl hgd hr.units) rfl (T.free 35 rfl) (by decide +kernel) (pa_cons (pv 1) pa_nil)))
      (pss_cons (ps_for PassesOwn.never rfl (pi_r1 rfl (T.free 34 rfl) (pa_cons (pe_callB (c_len (K := K) rfl) rfl (T.free 32 rfl) (by decide +kernel) (pa_cons (pv 1) pa_nil)) pa_nil)) (pg_name (i := 4) sc_law_greatest.nd rfl (.inl rfl)) (pss_cons (ps_set (i := 5) sc_law_greatest.nd rfl (.inr rfl) (pe_callD (K := K) rfl (ok_law_behind T) (hr.mono (by decide)) rfl pass0 (pa_cons (pv 0) (pa_cons (pv 4) (pa_cons (pe_ixU (K := K) rfl (hu_of hr) (pv 1) (pv 4)) pa_nil)))))
      (pss_one (ps_for PassesOwn.never rfl (pi_seq (K := K) rfl (pe_callD (K := K) rfl (ok_law_ways T) (hr.mono (by decide)) rfl pass0 (pa_cons (pv 0) (pa_cons (pv 4) pa_nil)))) (pg_name (i := 6) sc_law_greatest.nd rfl (.inl rfl)) (pss_one (ps_asg (pe_lc rfl sc_law_greatest.nd (pi_seq (K := K) rfl (pe_ixU (K := K) rfl (hu_of hr) (pv 1) (pv 6))) (blkOk_by (own := [("one", 9)]) (N := ["code", "paper", "turn", "before", "r", "behind", "way", "row", "member", "one"]) (sc := defScope (topS 27)) (by decide +kernel)) (fun _ _ _ _ _ => (pg_name (i := 9) sc_law_greatest.nd rfl (.inl rfl))) (fun _ _ _ _ _ => (pts_one (pt_cmpR (op_inU (K := K) rfl (hu65 hr)) (pv 9) (pv 5) (by rfl)))) (fun _ _ _ _ _ => (pv 9))) (pg_sub (pv 1) (pv 6) (set_U (hu_of hr)))))))))
      (pss_one (ps_if (pt_cmpR (op_eqU (K := K) rfl hr.units) (pe_callB (c_repr (K := K) rfl hgd hr.units) rfl (T.free 35 rfl) (by decide +kernel) (pa_cons (pv 1) pa_nil)) (pv 3) (nomark _)) (pss_one ps_break) pss_nil)))))
      (pss_one (ps_ret (pe_callTy (c_tuple (K := K) rfl) rfl (T.free 37 rfl) (by decide +kernel) (pa_cons (pe_lc rfl sc_law_greatest.nd (pi_seq (K := K) rfl (pv 1)) (blkOk_by (own := [("member", 8)]) (N := ["code", "paper", "turn", "before", "r", "behind", "way", "row", "member", "one"]) (sc := defScope (topS 27)) (by decide +kernel)) (fun _ _ _ _ _ => (pg_name (i := 8) sc_law_greatest.nd rfl (.inl rfl))) (fun _ _ _ _ _ => pts_nil) (fun _ _ _ _ _ => (pe_callTy (c_tuple (K := K) rfl) rfl (T.free 37 rfl) (by decide +kernel) (pa_cons (pv 8) pa_nil)))) pa_nil)))))), ?_⟩)
  obtain ⟨code, rgs, rows, rfl, ic, jo, lo, lr, n0, n24, hQ⟩ := h
  walk_at "go"
  refine m_ix ic (n := 1) rfl rfl (fun v1 hv1 => ?_)
  refine m_seq hv1 (fun ra xs e hra hxs => ?_)
  subst e
  have hxl := hxs.length
  rw [List.length_map] at hxl
  have e16 : L2.rgV 0 16 = nV (List.range 16) := rgV_N 16
  refine l_tup (xs := xs) (fun D i H' => ∃ as : List Addr, H' D = some (.lst (as.map V.ref)) ∧ as.length = i ∧ (∀ b ∈ as, H' b = some (.lst (nV (List.range 16)))) ∧ (∀ b ∈ as, b ≠ D) ∧ Same H H') (fun D hD => ⟨[], upd_same, rfl, by simp, by simp, Same.new hD⟩) ?_ ?_ ?_
  · rintro D hD i H' hi ⟨as, h1, h2, h3, h4, sm⟩
    exact SqT.of (sm _ _ hra)
  · rintro D hD i y H' hi ⟨as, h1, h2, h3, h4, sm⟩
    have hil := (List.getElem?_eq_some_iff.mp hi).1
    refine g_name (g_wipe rfl (g_yes (g_ifT (g_lstRg (g_rg1 ?_)))))
    walk_at "go"
    refine ⟨RgOk.of_le (by decide) (by decide) (by decide) (by decide), fun q hq => ?_⟩
    rw [e16]
    have sq := Same.new (o := .lst (nV (List.range 16))) hq
    have nq : q ≠ D := fun e => by
      rw [e, h1] at hq
      cases hq
    refine ⟨as.map V.ref, sq _ _ h1, szl (by rw [List.length_map]; omega), as ++ [q], by rw [upd_same, List.map_append]; rfl, by rw [List.length_append, h2]; rfl, fun b hb => ?_, fun b hb => ?_, Same.mut (sm.trans sq) hD⟩
    · rcases List.mem_append.mp hb with hb | hb
      · rw [upd_ne (h4 b hb)]
        exact sq _ _ (h3 b hb)
      · rw [List.mem_singleton.mp hb, upd_ne nq]
        exact upd_same
    · rcases List.mem_append.mp hb with hb | hb
      · exact h4 b hb
      · rw [List.mem_singleton.mp hb]
        exact nq
  rintro D hD H1 ⟨as0, h1, h2, h3, h4, s1⟩
  have PL1 : PapL H1 D (fun _ _ => true) rows.length as0 := ⟨h1, by omega, fun r b hb => by
    rw [mL_all]
    exact h3 b (List.mem_of_getElem? hb)⟩
  clear h1 h2 h3 h4
  walk_at "go"
  walk_at "nrm"
  refine f_range (fun t σ H2 => ∃ (o2 o3 o4 o5 o6 : Option V) (P : Nat → Mb) (as : List Addr), σ = [some code, some (.ref D), o2, o3, o4, o5, o6, none, none, none] ∧ Same H H2 ∧ PapL H2 D P rows.length as ∧ (∀ P', Hold rgs rows P' → PLe rows.length P' P) ∧ Sz P rows.length + t ≤ 16 * rows.length)
    ⟨_, _, _, _, _, _, as0, rfl, s1, PL1, fun _ _ _ _ _ _ _ => rfl, sz_le⟩ ?_ ?_
  · rintro t σ H2 ht ⟨o2, o3, o4, o5, o6, P, as, rfl, s2, PL, hg, hs⟩
    walk_at "go"
    refine ⟨D, lpD P rows.length, rfl, PL.dp, show_lp, lay_lp.1, Nat.le_trans lay_lp.2 (by decide), shown_le n0 (by omega), ?_⟩
    walk_at "go"
    refine g_lenL (SqL.of PL.a) ?_
    rw [List.length_map, PL.l]
    walk_at "go"
    rw [Int.toNat_natCast]
    refine f_range (fun i σ H3 => ∃ (o4 o5 o6 : Option V) (as : List Addr), σ = [some code, some (.ref D), some (.int (0 + (t : Int))), some (.str (lpD P rows.length).shown), o4, o5, o6, none, none, none] ∧ Same H H3 ∧ PapL H3 D (swN rgs rows i P) rows.length as)
      ⟨_, _, _, as, rfl, s2, PL⟩ ?_ ?_
    · rintro i σ H3 hi ⟨o4, o5, o6, as3, rfl, s3, PL3⟩
      have e0 : (0 : Int) + (i : Int) = (i : Int) := by omega
      rw [e0]
      have hr : rows[i]? = some (rows[i]'hi) := List.getElem?_eq_getElem _
      generalize rows[i]'hi = row at hr
      have ro := jo.r i row hr
      have esw : swN rgs rows (i + 1) P = (waysR i row).foldl (cutW (bhd rgs row (swN rgs rows i P i))) (swN rgs rows i P) := by
        rw [swN_succ]
        unfold swR
        rw [hr]
      rw [esw]
      generalize swN rgs rows i P = Pi at PL3
      obtain ⟨b, hb, hbm⟩ := PL3.at_ hi
      walk_at "go"
      refine g_ixL (SqL.of PL3.a) (n := i) rfl (by rw [List.getElem?_map, hb]; rfl) ?_
      refine ⟨code, b, i, rows.length, rgs, rows, row, Pi i, rfl, ic.same s3, lo, lr, hr, ro, .inr hbm, fun H4 B s4 hB0 hB => ?_⟩
      walk_at "go"
      refine ⟨code, i, rgs, rows, row, rfl, ic.same (s3.trans s4), hr, fun H5 W s5 hW0 hW => ?_⟩
      have hB5 := s5 _ _ hB
      have PL5 := PL3.same (s4.trans s5)
      have s35 := (s3.trans s4).trans s5
      generalize hBh : bhd rgs row (Pi i) = Bh at hB5
      refine g_seqL (SqL.of hW) ?_
      refine f_list (xs := nV (waysR i row)) (fun j σ H6 => ∃ (o6 : Option V) (as : List Addr), σ = [some code, some (.ref D), some (.int (0 + (t : Int))), some (.str (lpD P rows.length).shown), some (.int (i : Int)), some (.ref B), o6, none, none, none] ∧ Same H H6 ∧ PapL H6 D (((waysR i row).take j).foldl (cutW Bh) Pi) rows.length as ∧ H6 W = some (.lst (nV (waysR i row))) ∧ H6 B = some (.lst (nV (mL Bh))))
        ⟨_, as3, rfl, s35, PL5, hW, hB5⟩ ?_ ?_ ?_
      · rintro j σ H6 hj ⟨o6, as6, rfl, s6, PL6, hW6, hB6⟩
        exact SqL.of hW6
      · rintro j x σ H6 hj ⟨o6, as6, rfl, s6, PL6, hW6, hB6⟩
        obtain ⟨w', hw', rfl⟩ : ∃ w' : Nat, (waysR i row)[j]? = some w' ∧ x = .int (w' : Int) := by
          unfold nV at hj
          rw [List.getElem?_map] at hj
          obtain ⟨z, h1, h2⟩ := Option.map_eq_some_iff.mp hj
          exact ⟨z, h1, h2.symm⟩
        have hwn := waysR_lt ro (List.mem_of_getElem? hw')
        have ecut : ((waysR i row).take (j + 1)).foldl (cutW Bh) Pi = cutW Bh (((waysR i row).take j).foldl (cutW Bh) Pi) w' := by
          rw [List.take_add_one, hw', List.foldl_append]
          rfl
        rw [ecut]
        generalize ((waysR i row).take j).foldl (cutW Bh) Pi = Pj at PL6
        obtain ⟨b2, hb2, hbm2⟩ := PL6.at_ hwn
        walk_at "go"
        refine g_ixL (SqL.of PL6.a) (n := w') rfl (by rw [List.getElem?_map, hb2]; rfl) ?_
        walk_at "go"
        refine l_fmL (p := fun x => Bh x) (f := fun (n : Nat) => PyData.int (n : Int)) (ev := fun (n : Nat) => PyData.int (n : Int)) (l := mL (Pj w')) hbm2 (ims_nV _) (Nat.le_trans mL_len (by decide)) (fun _ => rfl) (fun e z H7 QB he s7 iz hR => ?_) (fun e z H7 R' he hpe s7 iz hR => ?_) (fun D8 H8 us8 s8 hD8 im8 => ?_)
        · obtain rfl := iz.int_inv
          have hB7 := s7 _ _ hB6
          walk_at "go"
          refine k_inB (.inr hB7) (mL_b e he) ?_
          walk_at "go"
          exact hR _ (Same.refl _)
        · walk_at "go"
          exact hR _ _ (Same.refl _) iz
        · have eus : us8 = nV ((mL (Pj w')).filter fun x => Bh x) := ims_nV_inv im8
          have emL : (mL (Pj w')).filter (fun x => Bh x) = mL fun x => Pj w' x && Bh x := by
            unfold mL
            rw [List.filter_filter]
            exact List.filter_congr fun x _ => Bool.and_comm _ _
          rw [eus, emL] at hD8
          have PL8 := PL6.same s8
          have hW8 := s8 _ _ hW6
          have hB8 := s8 _ _ hB6
          walk_at "go"
          refine g_setA PL8.a (by rw [List.length_map, PL8.l]; exact hwn) ?_
          rw [← List.map_set]
          refine ⟨_, as6.set w' D8, rfl, Same.mut (s6.trans s8) hD, PL8.put n0 hwn hD8, ?_, ?_⟩
          · rw [upd_ne (PL8.ne n0 hW8)]
            exact hW8
          · rw [upd_ne (PL8.ne n0 hB8)]
            exact hB8
      · rintro σ H6 ⟨o6, as6, rfl, s6, PL6, hW6, hB6⟩
        rw [nV_len, List.take_length] at PL6
        exact ⟨_, _, _, as6, rfl, s6, PL6⟩
    · rintro σ H3 ⟨o4, o5, o6, as3, rfl, s3, PL3⟩
      have PL3 : PapL H3 D (swA rgs rows P) rows.length as3 := PL3
      walk_at "go"
      refine ⟨D, lpD (swA rgs rows P) rows.length, rfl, PL3.dp, show_lp, lay_lp.1, Nat.le_trans lay_lp.2 (by decide), shown_le n0 (by omega), ?_⟩
      walk_at "go"
      have hge : ∀ P', Hold rgs rows P' → PLe rows.length P' (swA rgs rows P) := fun P' hP => swN_ge jo hP (hg P' hP)
      refine g_if (fun c => ?_) (fun c => ?_)
      · have pe := shown_eq n0 swA_le c
        have hH : Hold rgs rows (swA rgs rows P) := (swA_hold jo pe).congr jo fun r x hr hx => (mL_inj (pe r hr) x hx).symm
        have PLa := PL3.a
        have PLl := PL3.l
        walk_at "go"
        refine l_mapL (f := fun r => mD (swA rgs rows P r)) PL3.a (by rw [List.length_map]; omega) (fun _ => rfl) (fun i y H4 R hi s4 hR => ?_) (fun DD H4 us4 s4 hD4 im4 => ?_)
        · rw [List.getElem?_map] at hi
          obtain ⟨b, hb, rfl⟩ := Option.map_eq_some_iff.mp hi
          walk_at "go"
          refine m_tupleL (SqL.of (s4 _ _ (PL3.m i b hb))) (ims_nV _) (fun q H5 s5 _ i5 => ?_)
          exact hR _ _ s5 i5
        · rw [List.length_map, PLl] at im4
          walk_at "go"
          refine m_tupleL (SqL.of hD4) im4 (fun q H5 s5 _ i5 => ?_)
          exact hQ _ _ _ ⟨hH, fun P' hP r x hr hx hp => hge P' hP r x hr hx hp⟩ ((s3.trans s4).trans s5) i5
      · walk_at "go"
        refine ⟨_, _, _, _, _, swA rgs rows P, as3, rfl, s3, PL3, hge, ?_⟩
        obtain ⟨z1, z2⟩ := sz_mono (n := rows.length) (swA_le (rgs := rgs) (rows := rows) (P := P))
        have : ¬ Sz (swA rgs rows P) rows.length = Sz P rows.length := fun e => c (by
          have pe := z2 e
          have : ((List.range rows.length).map fun r => PyData.list (nDs (mL (swA rgs rows P r)))) = (List.range rows.length).map fun r => PyData.list (nDs (mL (P r))) := List.map_congr_left fun r hr => by rw [pe r (List.mem_range.mp hr)]
          show (PyData.list _).shown = (PyData.list _).shown
          rw [this])
        omega
  · rintro σ H2 ⟨o2, o3, o4, o5, o6, P, as, rfl, s2, PL, hg, hs⟩
    exfalso
    have : Int.toNat 400 = 400 := rfl
    omega


/-! ### k65: what is drawn -/
structure RgOk (rgs : List Rg) : Prop where
  l : 0 < rgs.length
  u : rgs.length ≤ 12
  n : ∀ g ∈ rgs, 0 < g.n ∧ g.n ≤ 4096
  p : ∀ g ∈ rgs, g.l = "public" ∨ g.l = "secret"
theorem lbl_ok {z : Str} (h : z = "public" ∨ z = "secret") : PyData.strOk z = true := by
  rcases h with rfl | rfl <;> decide +kernel
theorem RgOk.lo {rgs : List Rg} (h : RgOk rgs) : lblOk rgs := fun g hg => lbl_ok (h.p g hg)
theorem lbl_pick {v : V} (hv : v ∈ [V.str "public", V.str "secret"]) : ∃ P : Str, v = .str P ∧ (P = "public" ∨ P = "secret") := by
  simp only [List.mem_cons, List.not_mem_nil, or_false] at hv
  rcases hv with rfl | rfl
  · exact ⟨_, rfl, .inl rfl⟩
  · exact ⟨_, rfl, .inr rfl⟩
theorem nat_lt_of {i : Int} {m : Nat} (h : 0 ≤ i) (h2 : i < (m : Int)) : ∃ t : Nat, i = (t : Int) ∧ t < m := ⟨i.toNat, by omega, by omega⟩
abbrev rgsD (rgs : List Rg) : PyData := .tuple (rgs.map Rg.d)
def sp_law_regions (K : PySem.W.Frag) : Sp := fun vs H Q _ => ∃ (d : Addr) (L : List (Addr × HO)), vs = [.ref d] ∧ DrL H d L ∧ ∀ H' v rgs, Keep [d] H H' → DrL H' d L → Im H' v (rgsD rgs) → RgOk rgs → Q v H'
theorem sc_law_regions : FnScope ["w", "regions", "base", "k", "size"] ["w"] (defScope (topS 20)) := ⟨rfl, rfl, rfl, by decide +kernel, rfl, by decide +kernel, by decide +kernel⟩
theorem ok_law_regions (T : Txt fa fn K mg (XOk cs xcs K w)) : Dn P w K mg base CX0 2 "_law_regions" ["w"] (sp_law_regions K) := by
  refine mk_dn (d := dOf "_law_regions" 20) T 12 12 rfl rfl rfl rfl rfl sc_law_regions (by walk_at "len") (fun _ _ _ _ _ _ us hl => match us, hl with | [_], _ => rfl) (fun cdv A outer s H vs Q E hr h => ⟨_, (pss_cons (ps_set (i := 1) sc_law_regions.nd rfl (.inl rfl) (pe_lst pa_nil))
      (pss_cons (ps_set (i := 2) sc_law_regions.nd rfl (.inl rfl) pe_int)
      (pss_cons (ps_for PassesOwn.never rfl (pi_r1 rfl (T.free 34 rfl) (pa_cons (pe_op (op_addU (K := K) rfl) pe_int (pe_callD (K := K) rfl (ok_law_next T) (hr.mono (by decide)) rfl pass0 (pa_cons (pv 0) (pa_cons pe_int pa_nil)))) pa_nil)) (pg_name (i := 3) sc_law_regions.nd rfl (.inl rfl)) (pss_cons (ps_set (i := 4) sc_law_regions.nd rfl (.inl rfl) (pe_ixU (K := K) rfl (hu_of hr) (pe_lst (pa_cons pe_int (pa_cons pe_int (pa_cons pe_int (pa_cons pe_int (pa_cons pe_int pa_nil)))))) (pe_callD (K := K) rfl (ok_law_next T) (hr.mono (by decide)) rfl pass0 (pa_cons (pv 0) (pa_cons pe_int pa_nil)))))
      (pss_cons (ps_expr (pe_bm PySem.F.plainAttrs_list PySem.F.slot_list_append PySem.F.type_list_append mt_append (pv 1) (pa_cons (pe_tup (pa_cons (pv 2) (pa_cons (pv 4) (pa_cons (pe_ixU (K := K) rfl (hu_of hr) (pe_lst (pa_cons pe_str (pa_cons pe_str pa_nil))) (pe_callD (K := K) rfl (ok_law_next T) (hr.mono (by decide)) rfl pass0 (pa_cons (pv 0) (pa_cons pe_int pa_nil)))) pa_nil)))) pa_nil)))
      (pss_one (ps_aug (i := 2) sc_law_regions.nd rfl (.inl rfl) (pv 4) ip_add)))))
      (pss_one (ps_ret (pe_callTy (c_tuple (K := K) rfl) rfl (T.free 37 rfl) (by decide +kernel) (pa_cons (pv 1) pa_nil))))))), ?_⟩)
  obtain ⟨d, L, rfl, D, hQ⟩ := h
  walk_at "go"
  refine ⟨by decide, fun p hp => ?_⟩
  have D1 := D.new (o := .lst []) hp
  have kp : Keep [d] H _ := Keep.new (o := .lst []) hp
  walk_at "go"
  refine use_nx D1 (by decide) (fun H2 v2 k2 D2 h20 h21 => ?_)
  walk_at "go"
  have kp2 := kp.trans k2
  refine f_range (fun i σ H' => ∃ (base : Int) (k z : Option V) (xs : List V) (rgs : List Rg), σ = [some (.ref d), some (.ref p), some (.int base), k, z] ∧ Keep [d] H H' ∧ DrL H' d (L ++ [(p, .lst xs)]) ∧ Ims H' xs (rgs.map Rg.d) ∧ rgs.length = i ∧ (∀ g ∈ rgs, 0 < g.n ∧ g.n ≤ 4096) ∧ ∀ g ∈ rgs, g.l = "public" ∨ g.l = "secret")
    ⟨0, _, _, [], [], rfl, kp2, D2, .nil, rfl, by simp, by simp⟩ ?_ ?_
  · rintro i σ H3 hi ⟨base, k, z, xs, rgs, rfl, k3, D3, ims, hl, a1, a2⟩
    have hxs := ims.length
    rw [List.length_map] at hxs
    walk_at "go"
    refine use_pk D3 rfl rfl (by simp) (by simp) (fun H5 v k5 D5 hv => ?_)
    obtain ⟨n, rfl, hn⟩ : ∃ n : Nat, v = .int (n : Int) ∧ 0 < n ∧ n ≤ 4096 := by
      simp only [List.mem_cons, List.not_mem_nil, or_false] at hv
      rcases hv with rfl | rfl | rfl | rfl | rfl
      · exact ⟨1, rfl, by decide, by decide⟩
      · exact ⟨2, rfl, by decide, by decide⟩
      · exact ⟨4, rfl, by decide, by decide⟩
      · exact ⟨8, rfl, by decide, by decide⟩
      · exact ⟨3, rfl, by decide, by decide⟩
    have at5 : H5 p = some (.lst xs) := D5.get L.length get_last
    have ims5 := D3.ims k5 ims
    walk_at "go"
    refine use_pk D5 rfl rfl (by simp) (by simp) (fun H6 v k6 D6 hv => ?_)
    obtain ⟨z, rfl, hz⟩ := lbl_pick hv
    walk_at "go"
    refine m_new (.cons (.int _) (.cons (.int _) (.cons (.str _) .nil))) (by simp) (fun a H7 s7 ha im => ?_)
    walk_at "go"
    have D7 := D6.same s7
    have ims7 := (D5.ims k6 ims5).same s7
    refine gD_append D7 L.length get_last (by omega) (fun D8 => ?_)
    walk_at "go"
    rw [set_last] at D8
    refine ⟨_, _, _, xs ++ [.ref a], rgs ++ [⟨base, n, z⟩], rfl, (((k3.trans k5).trans k6).trans (Keep.of s7)).mut hp, D8, ?_, by rw [List.length_append, hl]; rfl, all_snoc a1 hn, all_snoc a2 hz⟩
    rw [List.map_append]
    exact ims_snoc (H2 := H7) ims7 im (D7.get L.length get_last)
  · rintro σ H3 ⟨base, k, z, xs, rgs, rfl, k3, D3, ims, hl, a1, a2⟩
    walk_at "go"
    refine m_tupleL (SqL.of (D3.get L.length get_last)) ims (fun q H4 s4 hq im => ?_)
    exact hQ _ _ rgs (k3.trans (Keep.of s4)) ((D3.sub sub_last).same s4) im ⟨by omega, by omega, a1, a2⟩
def sp_law_span (K : PySem.W.Frag) : Sp := fun vs H Q _ => ∃ (d : Addr) (L : List (Addr × HO)) (x : V) (rgs : List Rg), vs = [.ref d, x] ∧ DrL H d L ∧ Im H x (rgsD rgs) ∧ RgOk rgs ∧ ∀ H' v b m, Keep [d] H H' → DrL H' d L → Im H' v (.tuple [.int b, .int m]) → Q v H'
theorem sc_law_span : FnScope ["w", "regions", "base", "size", "label", "mask"] ["w", "regions"] (defScope (topS 21)) := ⟨rfl, rfl, rfl, by decide +kernel, rfl, by decide +kernel, by decide +kernel⟩
theorem ok_law_span (T : Txt fa fn K mg (XOk cs xcs K w)) : Dn P w K mg base CX0 2 "_law_span" ["w", "regions"] (sp_law_span K) := by
  refine mk_dn (d := dOf "_law_span" 21) T 13 13 rfl rfl rfl rfl rfl sc_law_span (by walk_at "len") (fun _ _ _ _ _ _ us hl => match us, hl with | [_, _], _ => rfl) (fun cdv A outer s H vs Q E hr h => ⟨_, (pss_cons (ps_asg (pe_ixU (K := K) rfl (hu_of hr) (pv 1) (pe_callD (K := K) rfl (ok_law_next T) (hr.mono (by decide)) rfl pass0 (pa_cons (pv 0) (pa_cons (pe_callB (c_len (K := K) rfl) rfl (T.free 32 rfl) (by decide +kernel) (pa_cons (pv 1) pa_nil)) pa_nil)))) (pg_tup rfl (pgs_cons (pg_name (i := 2) sc_law_span.nd rfl (.inl rfl)) (pgs_cons (pg_name (i := 3) sc_law_span.nd rfl (.inl rfl)) (pgs_cons (pg_name (i := 4) sc_law_span.nd rfl (.inl rfl)) pgs_nil)))))
      (pss_cons (ps_join (ps_set (i := 5) sc_law_span.nd rfl (.inl rfl) (pe_ixU (K := K) rfl (hu_of hr) (pe_lst (pa_cons pe_int (pa_cons pe_int (pa_cons pe_int (pa_cons pe_int (pa_cons pe_int pa_nil)))))) (pe_callD (K := K) rfl (ok_law_next T) (hr.mono (by decide)) rfl pass0 (pa_cons (pv 0) (pa_cons pe_int pa_nil))))))
      (pss_cons (ps_if (pt_cmpR o_gt (pe_callD (K := K) rfl (ok_law_next T) (hr.mono (by decide)) rfl pass0 (pa_cons (pv 0) (pa_cons pe_int pa_nil))) pe_int (nomark _)) (pss_cons (ps_while PassesOwn.never (pt_cmpR o_ge (pv 5) (pv 3) (nomark _)) (pss_one (ps_set (i := 5) sc_law_span.nd rfl (.inl rfl) (pe_op o_fdiv (pv 5) pe_int))))
      (pss_one (ps_ret (pe_tup (pa_cons (pe_op (op_addU (K := K) rfl) (pv 2) (pe_callD (K := K) rfl (ok_law_next T) (hr.mono (by decide)) rfl pass0 (pa_cons (pv 0) (pa_cons (pe_op op_sub (pv 3) (pv 5)) pa_nil)))) (pa_cons (pv 5) pa_nil)))))) pss_nil)
      (pss_one (ps_ret (pe_tup (pa_cons (pe_callD (K := K) rfl (ok_law_next T) (hr.mono (by decide)) rfl pass0 (pa_cons (pv 0) (pa_cons pe_int pa_nil))) (pa_cons (pv 5) pa_nil)))))))), ?_⟩)
  obtain ⟨d, L, x, rgs, rfl, D, ix, ro, hQ⟩ := h
  have rl := ro.l
  walk_at "go"
  refine m_len ix ?_
  rw [List.length_map]
  walk_at "go"
  refine use_nx D (by omega) (fun H1 v1 k1 D1 h10 h11 => ?_)
  obtain ⟨j, rfl, hj⟩ := nat_lt_of h10 h11
  have ix1 := D.im k1 ix
  have hg : rgs[j]? = some (rgs[j]'hj) := List.getElem?_eq_getElem _
  generalize rgs[j]'hj = g at hg
  have gn := ro.n g (List.mem_of_getElem? hg)
  walk_at "go"
  refine m_ix ix1 (n := j) rfl (by rw [List.getElem?_map, hg]; rfl) (fun y hy => ?_)
  obtain ⟨t, rfl, ht⟩ := im3v hy
  walk_at "go"
  refine ⟨fun σ' H' => ∃ mk : Nat, σ' = [some (.ref d), some x, some (.int g.b), some (.int (g.n : Int)), some (.str g.l), some (.int (mk : Int))] ∧ Keep [d] H1 H' ∧ DrL H' d L, ?_, ?_⟩
  · walk_at "go"
    refine use_pk D1 rfl rfl (by simp) (by simp) (fun H2 v k2 D2 hv => ?_)
    obtain ⟨mk, rfl⟩ : ∃ mk : Nat, v = .int (mk : Int) := by
      simp only [List.mem_cons, List.not_mem_nil, or_false] at hv
      rcases hv with rfl | rfl | rfl | rfl | rfl
      · exact ⟨0, rfl⟩
      · exact ⟨0, rfl⟩
      · exact ⟨1, rfl⟩
      · exact ⟨3, rfl⟩
      · exact ⟨7, rfl⟩
    walk_at "go"
    exact ⟨mk, rfl, k2, D2⟩
  rintro σ' H2 ⟨mk, rfl, k2, D2⟩
  walk_at "go"
  refine use_nx D2 (by decide) (fun H3 v3 k3 D3 h30 h31 => ?_)
  walk_at "go"
  refine g_if (fun c => ?_) (fun c => ?_)
  · walk_at "go"
    refine ⟨fun m σ H' => ∃ (mask : Nat), σ = [some (.ref d), some x, some (.int g.b), some (.int (g.n : Int)), some (.str g.l), some (.int (mask : Int))] ∧ H' = H3 ∧ mask = m, ⟨_, _, rfl, rfl, rfl⟩, ?_⟩
    rintro m σ H' ⟨mask, rfl, rfl, hm⟩
    walk_at "go"
    refine g_if (fun hc => ?_) (fun hc => ?_)
    · refine g_whileT ?_
      walk_at "go"
      refine ⟨mask / 2, by omega, mask / 2, ?_, rfl, rfl⟩
      rw [show (mask : Int) / 2 = ((mask / 2 : Nat) : Int) by omega]
      rfl
    · walk_at "go"
      refine use_nx D3 (by omega) (fun H4 v4 k4 D4 h40 h41 => ?_)
      walk_at "go"
      refine m_new (.cons (.int _) (.cons (.int _) .nil)) (by simp) (fun p H5 s5 hp im => ?_)
      exact hQ _ _ _ _ ((((k1.trans k2).trans k3).trans k4).trans (Keep.of s5)) (D4.same s5) im
  · walk_at "go"
    refine use_nx D3 (by decide) (fun H4 v4 k4 D4 h40 h41 => ?_)
    walk_at "go"
    refine m_new (.cons (.int _) (.cons (.int _) .nil)) (by simp) (fun p H5 s5 hp im => ?_)
    exact hQ _ _ _ _ ((((k1.trans k2).trans k3).trans k4).trans (Keep.of s5)) (D4.same s5) im
theorem im2i {H : Hp} {v : V} {b m : Int} (h : Im H v (.tuple [.int b, .int m])) : ∃ t, v = .ref t ∧ H t = some (.tup [.int b, .int m]) := by
  obtain ⟨t, y1, y2, rfl, ht, i1, i2⟩ := im2 h
  obtain rfl := i1.int_inv
  obtain rfl := i2.int_inv
  exact ⟨t, rfl, ht⟩
def sp_law_row (K : PySem.W.Frag) : Sp := fun vs H Q _ => ∃ (d : Addr) (L : List (Addr × HO)) (x : V) (rgs : List Rg) (k many : Nat), vs = [.ref d, x, .int (many : Int)] ∧ DrL H d L ∧ Im H x (rgsD rgs) ∧ RgOk rgs ∧ k + 1 < many ∧
  ∀ H' v r, Keep [d] H H' → DrL H' d L → Im H' v (Row.d r) → RowOkD many k r → Q v H'
theorem sc_law_row : FnScope ["w", "regions", "many", "turn", "d", "a", "b", "base", "mask"] ["w", "regions", "many"] (defScope (topS 22)) := ⟨rfl, rfl, rfl, by decide +kernel, rfl, by decide +kernel, by decide +kernel⟩
theorem ok_law_row (T : Txt fa fn K mg (XOk cs xcs K w)) : Dn P w K mg base CX0 3 "_law_row" ["w", "regions", "many"] (sp_law_row K) := by
  refine mk_dn (d := dOf "_law_row" 22) T 14 14 rfl rfl rfl rfl rfl sc_law_row (by walk_at "len") (fun _ _ _ _ _ _ us hl => match us, hl with | [_, _, _], _ => rfl) (fun cdv A outer s H vs Q E hr h => ⟨_, (pss_cons (ps_set (i := 3) sc_law_row.nd rfl (.inl rfl) (pe_callD (K := K) rfl (ok_law_next T) (hr.mono (by decide)) rfl pass0 (pa_cons (pv 0) (pa_cons pe_int pa_nil))))
      (pss_cons (ps_set (i := 4) sc_law_row.nd rfl (.inl rfl) (pe_callD (K := K) rfl (ok_law_next T) (hr.mono (by decide)) rfl pass0 (pa_cons (pv 0) (pa_cons pe_int pa_nil))))
      (pss_cons (ps_set (i := 5) sc_law_row.nd rfl (.inl rfl) (pe_callD (K := K) rfl (ok_law_next T) (hr.mono (by decide)) rfl pass0 (pa_cons (pv 0) (pa_cons pe_int pa_nil))))
      (pss_cons (ps_set (i := 6) sc_law_row.nd rfl (.inl rfl) (pe_callD (K := K) rfl (ok_law_next T) (hr.mono (by decide)) rfl pass0 (pa_cons (pv 0) (pa_cons pe_int pa_nil))))
      (pss_cons (ps_if (pt_cmpR o_lt (pv 3) pe_int (nomark _)) (pss_one (ps_ret (pe_tup (pa_cons pe_str (pa_cons (pv 4) (pa_cons (pe_ixU (K := K) rfl (hu_of hr) (pe_lst (pa_cons (pe_callD (K := K) rfl (ok_law_next T) (hr.mono (by decide)) rfl pass0 (pa_cons (pv 0) (pa_cons pe_int pa_nil))) (pa_cons (pe_op op_sub pe_int (pe_callD (K := K) rfl (ok_law_next T) (hr.mono (by decide)) rfl pass0 (pa_cons (pv 0) (pa_cons pe_int pa_nil)))) (pa_cons (pe_op op_mulU (pe_callD (K := K) rfl (ok_law_next T) (hr.mono (by decide)) rfl pass0 (pa_cons (pv 0) (pa_cons pe_int pa_nil))) pe_int) pa_nil)))) (pe_callD (K := K) rfl (ok_law_next T) (hr.mono (by decide)) rfl pass0 (pa_cons (pv 0) (pa_cons pe_int pa_nil)))) pa_nil)))))) pss_nil)
      (pss_cons (ps_if (pt_cmpR o_lt (pv 3) pe_int (nomark _)) (pss_one (ps_ret (pe_tup (pa_cons pe_str (pa_cons (pe_ixU (K := K) rfl (hu_of hr) (pe_lst (pa_cons pe_str (pa_cons pe_str (pa_cons pe_str (pa_cons pe_str (pa_cons pe_str (pa_cons pe_str (pa_cons pe_str (pa_cons pe_str (pa_cons pe_str (pa_cons pe_str (pa_cons pe_str (pa_cons pe_str (pa_cons pe_str pa_nil)))))))))))))) (pe_callD (K := K) rfl (ok_law_next T) (hr.mono (by decide)) rfl pass0 (pa_cons (pv 0) (pa_cons pe_int pa_nil)))) (pa_cons (pv 4) (pa_cons (pv 5) (pa_cons (pv 6) pa_nil)))))))) pss_nil)
      (pss_cons (ps_if (pt_cmpR (op_eqU (K := K) rfl hr.units) (pv 3) pe_int (nomark _)) (pss_one (ps_ret (pe_tup (pa_cons pe_str (pa_cons (pv 4) (pa_cons (pe_callD (K := K) rfl (ok_law_next T) (hr.mono (by decide)) rfl pass0 (pa_cons (pv 0) (pa_cons pe_int pa_nil))) (pa_cons (pv 5) (pa_cons (pv 6) pa_nil)))))))) pss_nil)
      (pss_cons (ps_if (pt_cmpR o_lt (pv 3) pe_int (nomark _)) (pss_cons (ps_asg (pe_callD (K := K) rfl (ok_law_span T) (hr.mono (by decide)) rfl pass0 (pa_cons (pv 0) (pa_cons (pv 1) pa_nil))) (pg_tup rfl (pgs_cons (pg_name (i := 7) sc_law_row.nd rfl (.inl rfl)) (pgs_cons (pg_name (i := 8) sc_law_row.nd rfl (.inl rfl)) pgs_nil))))
      (pss_one (ps_ret (pe_tup (pa_cons pe_str (pa_cons (pv 4) (pa_cons (pv 5) (pa_cons (pv 7) (pa_cons (pv 8) pa_nil))))))))) pss_nil)
      (pss_cons (ps_if (pt_cmpR o_lt (pv 3) pe_int (nomark _)) (pss_cons (ps_asg (pe_callD (K := K) rfl (ok_law_span T) (hr.mono (by decide)) rfl pass0 (pa_cons (pv 0) (pa_cons (pv 1) pa_nil))) (pg_tup rfl (pgs_cons (pg_name (i := 7) sc_law_row.nd rfl (.inl rfl)) (pgs_cons (pg_name (i := 8) sc_law_row.nd rfl (.inl rfl)) pgs_nil))))
      (pss_one (ps_ret (pe_tup (pa_cons pe_str (pa_cons (pv 5) (pa_cons (pv 7) (pa_cons (pv 8) (pa_cons (pv 6) pa_nil))))))))) pss_nil)
      (pss_cons (ps_if (pt_cmpR (op_eqU (K := K) rfl hr.units) (pv 3) pe_int (nomark _)) (pss_one (ps_ret (pe_tup (pa_cons pe_str (pa_cons (pv 5) pa_nil))))) pss_nil)
      (pss_cons (ps_if (pt_cmpR (op_eqU (K := K) rfl hr.units) (pv 3) pe_int (nomark _)) (pss_one (ps_ret (pe_tup (pa_cons pe_str (pa_cons (pv 5) (pa_cons (pe_callD (K := K) rfl (ok_law_next T) (hr.mono (by decide)) rfl pass0 (pa_cons (pv 0) (pa_cons (pv 2) pa_nil))) pa_nil)))))) pss_nil)
      (pss_one (ps_ret (pe_ixU (K := K) rfl (hu_of hr) (pe_lst (pa_cons (pe_tup (pa_cons pe_str (pa_cons (pe_callD (K := K) rfl (ok_law_next T) (hr.mono (by decide)) rfl pass0 (pa_cons (pv 0) (pa_cons (pv 2) pa_nil))) pa_nil))) (pa_cons (pe_tup (pa_cons pe_str (pa_cons (pv 5) pa_nil))) (pa_cons (pe_tup (pa_cons pe_str (pa_cons (pv 4) (pa_cons pe_int pa_nil)))) pa_nil)))) (pe_callD (K := K) rfl (ok_law_next T) (hr.mono (by decide)) rfl pass0 (pa_cons (pv 0) (pa_cons pe_int pa_nil))))))))))))))))), ?_⟩)
  obtain ⟨d, L, x, rgs, k, many, rfl, D, ix, ro, hk, hQ⟩ := h
  walk_at "go"
  refine use_nx D (by decide) (fun H1 v1 k1 D1 h10 h11 => ?_)
  walk_at "go"
  refine use_nx D1 (by decide) (fun H2 v_ra k2 D2 h_ra0 h_ra1 => ?_)
  obtain ⟨ra, rfl, t_ra⟩ := nat_lt_of (m := 6) h_ra0 h_ra1
  have b_ra : ra < 16 := by omega
  walk_at "go"
  refine use_nx D2 (by decide) (fun H3 v_rb k3 D3 h_rb0 h_rb1 => ?_)
  obtain ⟨rb, rfl, t_rb⟩ := nat_lt_of (m := 6) h_rb0 h_rb1
  have b_rb : rb < 16 := by omega
  walk_at "go"
  refine use_nx D3 (by decide) (fun H4 v_rc k4 D4 h_rc0 h_rc1 => ?_)
  obtain ⟨rc, rfl, t_rc⟩ := nat_lt_of (m := 6) h_rc0 h_rc1
  have b_rc : rc < 16 := by omega
  have kk := ((k1.trans k2).trans k3).trans k4
  have ix4 := D3.im k4 (D2.im k3 (D1.im k2 (D.im k1 ix)))
  walk_at "go"
  refine g_if (fun c => ?_) (fun c => ?_)
  · walk_at "go"
    refine use_nx D4 (by decide) (fun H5 v5 k5 D5 h50 h51 => ?_)
    walk_at "go"
    refine use_nx D5 (by decide) (fun H6 v6 k6 D6 h60 h61 => ?_)
    walk_at "go"
    refine use_nx D6 (by decide) (fun H7 v7 k7 D7 h70 h71 => ?_)
    walk_at "go"
    refine use_pk D7 rfl rfl (by simp) (by simp) (fun H8 v k8 D8 hv => ?_)
    obtain ⟨n, rfl, hn⟩ : ∃ n : Int, v = .int n ∧ W32 n := by
      simp only [List.mem_cons, List.not_mem_nil, or_false] at hv
      rcases hv with rfl | rfl | rfl
      · exact ⟨_, rfl, h50, by omega⟩
      · exact ⟨_, rfl, by omega, by omega⟩
      · exact ⟨_, rfl, by omega, by omega⟩
    walk_at "go"
    refine m_new (.cons (.str _) (.cons (.int _) (.cons (.int _) .nil))) (by simp) (fun pA HA sA hpA iA => ?_)
    exact hQ _ _ (.const ra n) ((((kk.trans k5).trans k6).trans k7).trans k8 |>.trans (Keep.of sA)) (D8.same sA) iA ⟨b_ra, hn, hk⟩
  walk_at "go"
  refine g_if (fun c => ?_) (fun c => ?_)
  · walk_at "go"
    refine use_pk D4 rfl rfl (by simp) (by simp) (fun H5 v k5 D5 hv => ?_)
    obtain ⟨s, rfl⟩ := sg_pick hv
    walk_at "go"
    refine m_new (.cons (.str _) (.cons (.str _) (.cons (.int _) (.cons (.int _) (.cons (.int _) .nil))))) (by simp) (fun p6 H6 s6 hp6 i6 => ?_)
    exact hQ _ _ (.op s ra rb rc) ((kk.trans k5).trans (Keep.of s6)) (D5.same s6) i6 ⟨b_ra, b_rb, b_rc, hk⟩
  walk_at "go"
  refine g_if (fun c => ?_) (fun c => ?_)
  · walk_at "go"
    refine use_nx D4 (by decide) (fun H5 v_rd k5 D5 h_rd0 h_rd1 => ?_)
    obtain ⟨rd, rfl, t_rd⟩ := nat_lt_of (m := 6) h_rd0 h_rd1
    have b_rd : rd < 16 := by omega
    walk_at "go"
    refine m_new (.cons (.str _) (.cons (.int _) (.cons (.int _) (.cons (.int _) (.cons (.int _) .nil))))) (by simp) (fun p6 H6 s6 hp6 i6 => ?_)
    exact hQ _ _ (.select ra rd rb rc) ((kk.trans k5).trans (Keep.of s6)) (D5.same s6) i6 ⟨b_ra, b_rd, b_rb, b_rc, hk⟩
  walk_at "go"
  refine g_if (fun c => ?_) (fun c => ?_)
  · walk_at "go"
    refine ⟨d, L, x, rgs, rfl, D4, ix4, ro, fun H5 v b m k5 D5 im5 => ?_⟩
    obtain ⟨t, rfl, ht⟩ := im2i im5
    walk_at "go"
    refine m_new (.cons (.str _) (.cons (.int _) (.cons (.int _) (.cons (.int _) (.cons (.int _) .nil))))) (by simp) (fun p6 H6 s6 hp6 i6 => ?_)
    exact hQ _ _ (.load ra rb b m) ((kk.trans k5).trans (Keep.of s6)) (D5.same s6) i6 ⟨b_ra, b_rb, hk⟩
  walk_at "go"
  refine g_if (fun c => ?_) (fun c => ?_)
  · walk_at "go"
    refine ⟨d, L, x, rgs, rfl, D4, ix4, ro, fun H5 v b m k5 D5 im5 => ?_⟩
    obtain ⟨t, rfl, ht⟩ := im2i im5
    walk_at "go"
    refine m_new (.cons (.str _) (.cons (.int _) (.cons (.int _) (.cons (.int _) (.cons (.int _) .nil))))) (by simp) (fun p6 H6 s6 hp6 i6 => ?_)
    exact hQ _ _ (.store rb b m rc) ((kk.trans k5).trans (Keep.of s6)) (D5.same s6) i6 ⟨b_rb, b_rc, hk⟩
  walk_at "go"
  refine g_if (fun c => ?_) (fun c => ?_)
  · walk_at "go"
    refine m_new (.cons (.str _) (.cons (.int _) .nil)) (by simp) (fun p6 H6 s6 hp6 i6 => ?_)
    exact hQ _ _ (.out rb) (kk.trans (Keep.of s6)) (D4.same s6) i6 ⟨b_rb, hk⟩
  walk_at "go"
  refine g_if (fun c => ?_) (fun c => ?_)
  · walk_at "go"
    refine use_nx D4 (by omega) (fun H5 v5 k5 D5 h50 h51 => ?_)
    obtain ⟨t, rfl, ht⟩ := nat_lt_of h50 h51
    walk_at "go"
    refine m_new (.cons (.str _) (.cons (.int _) (.cons (.int _) .nil))) (by simp) (fun p6 H6 s6 hp6 i6 => ?_)
    exact hQ _ _ (.branch rb t) ((kk.trans k5).trans (Keep.of s6)) (D5.same s6) i6 ⟨b_rb, ht, hk⟩
  walk_at "go"
  refine use_nx D4 (by omega) (fun H5 v5 k5 D5 h50 h51 => ?_)
  obtain ⟨t, rfl, ht⟩ := nat_lt_of h50 h51
  walk_at "go"
  refine m_new (.cons (.str _) (.cons (.int _) .nil)) (by simp) (fun p6 H6 s6 hp6 i6 => ?_)
  walk_at "go"
  refine m_new (.cons (.str _) (.cons (.int _) .nil)) (by simp) (fun p7 H7 s7 hp7 i7 => ?_)
  walk_at "go"
  refine m_new (.cons (.str _) (.cons (.int _) (.cons (.int _) .nil))) (by simp) (fun p8 H8 s8 hp8 i8 => ?_)
  have s58 := (s6.trans s7).trans s8
  have D8 := D5.same s58
  have k8 := (kk.trans k5).trans (Keep.of s58)
  walk_at "go"
  refine use_pk D8 rfl rfl (by simp) (by simp) (fun H9 v k9 D9 hv => ?_)
  simp only [List.mem_cons, List.not_mem_nil, or_false] at hv
  rcases hv with rfl | rfl | rfl
  · exact hQ _ _ (.jump t) (k8.trans k9) D9 (D8.im k9 ((i6.same s7).same s8)) ht
  · exact hQ _ _ (.stop rb) (k8.trans k9) D9 (D8.im k9 (i7.same s8)) b_rb
  · exact hQ _ _ (.const ra 1) (k8.trans k9) D9 (D8.im k9 i8) ⟨b_ra, ⟨by decide, by decide⟩, hk⟩
structure CdOk (rgs : List Rg) (rows : List Row) : Prop where
  r : RgOk rgs
  j : JOk rows
  l : 2 ≤ rows.length
  u : rows.length ≤ 17
def sp_law_code (K : PySem.W.Frag) : Sp := fun vs H Q _ => ∃ (d : Addr) (L : List (Addr × HO)), vs = [.ref d] ∧ DrL H d L ∧ ∀ H' v rgs rows, Keep [d] H H' → DrL H' d L → Im H' v (codeD rgs rows) → CdOk rgs rows → Q v H'
theorem row_list : ∀ {n : Nat} {es : List PyData} {many : Nat}, es.length = n → (∀ (i : Nat) (e : PyData), es[i]? = some e → ∃ r : Row, e = r.d ∧ RowOkD many i r) → ∃ rows : List Row, es = rows.map Row.d ∧ rows.length = n ∧ ∀ (i : Nat) (r : Row), rows[i]? = some r → RowOkD many i r := fun {n es many} hl h => by
  have h1 : ∀ i : Nat, ∃ r : Row, ∀ e, es[i]? = some e → e = r.d ∧ RowOkD many i r := fun i => by
    cases e : es[i]? with
    | none => exact ⟨.stop 0, fun _ h => by cases h⟩
    | some x =>
      obtain ⟨r, h1, h2⟩ := h i x e
      exact ⟨r, fun y hy => by cases hy; exact ⟨h1, h2⟩⟩
  obtain ⟨f, hf⟩ := Classical.axiomOfChoice h1
  refine ⟨(List.range n).map f, List.ext_getElem? fun i => ?_, by rw [List.length_map, List.length_range], fun i r hr => ?_⟩
  · by_cases hi : i < n
    · have e : es[i]? = some (es[i]'(by omega)) := List.getElem?_eq_getElem _
      rw [e, List.getElem?_map, List.getElem?_map, List.getElem?_range hi]
      exact congrArg some (hf i _ e).1
    · rw [List.getElem?_eq_none (by omega), List.getElem?_eq_none (by rw [List.length_map, List.length_map, List.length_range]; omega)]
  · rw [List.getElem?_map] at hr
    obtain ⟨k, hk, rfl⟩ := Option.map_eq_some_iff.mp hr
    have hi := (List.getElem?_eq_some_iff.mp hk).1
    rw [List.length_range] at hi
    rw [List.getElem?_range hi] at hk
    cases hk
    exact (hf i _ (List.getElem?_eq_getElem (by omega))).2
theorem sc_law_code : FnScope ["w", "regions", "many", "rows", "k"] ["w"] (defScope (topS 23)) := ⟨rfl, rfl, rfl, by decide +kernel, rfl, by decide +kernel, by decide +kernel⟩
theorem ok_law_code (T : Txt fa fn K mg (XOk cs xcs K w)) : Dn P w K mg base CX0 4 "_law_code" ["w"] (sp_law_code K) := by
  refine mk_dn (d := dOf "_law_code" 23) T 15 15 rfl rfl rfl rfl rfl sc_law_code (by walk_at "len") (fun _ _ _ _ _ _ us hl => match us, hl with | [_], _ => rfl) (fun cdv A outer s H vs Q E hr h => ⟨_, (pss_cons (ps_set (i := 1) sc_law_code.nd rfl (.inr rfl) (pe_callD (K := K) rfl (ok_law_regions T) (hr.mono (by decide)) rfl pass0 (pa_cons (pv 0) pa_nil)))
      (pss_cons (ps_set (i := 2) sc_law_code.nd rfl (.inr rfl) (pe_op (op_addU (K := K) rfl) pe_int (pe_callD (K := K) rfl (ok_law_next T) (hr.mono (by decide)) rfl pass0 (pa_cons (pv 0) (pa_cons pe_int pa_nil)))))
      (pss_cons (ps_setLc (i := 3) rfl sc_law_code.nd rfl rfl (sw_true rfl rfl rfl (by decide +kernel)) (pi_r1 rfl (T.free 34 rfl) (pa_cons (pe_op op_sub (pv 2) pe_int) pa_nil)) (blkOk_by (own := [("k", 4)]) (N := ["w", "regions", "many", "rows", "k"]) (sc := defScope (topS 23)) (by decide +kernel)) (fun _ _ _ _ _ => (pg_name (i := 4) sc_law_code.nd rfl (.inl rfl))) (fun _ _ _ _ _ => pts_nil) (fun _ _ _ _ _ => (pe_callD (K := K) rfl (ok_law_row T) (hr.mono (by decide)) rfl pass0 (pa_cons (pv 0) (pa_cons (pv 1) (pa_cons (pv 2) pa_nil))))))
      (pss_one (ps_ret (pe_tup (pa_cons (pv 1) (pa_cons (pe_callTy (c_tuple (K := K) rfl) rfl (T.free 37 rfl) (by decide +kernel) (pa_cons (pe_op (op_addU (K := K) rfl) (pv 3) (pe_lst (pa_cons (pe_ixU (K := K) rfl (hu_of hr) (pe_lst (pa_cons (pe_tup (pa_cons pe_str (pa_cons (pe_callD (K := K) rfl (ok_law_next T) (hr.mono (by decide)) rfl pass0 (pa_cons (pv 0) (pa_cons pe_int pa_nil))) pa_nil))) (pa_cons (pe_tup (pa_cons pe_str (pa_cons (pe_callD (K := K) rfl (ok_law_next T) (hr.mono (by decide)) rfl pass0 (pa_cons (pv 0) (pa_cons (pv 2) pa_nil))) pa_nil))) pa_nil))) (pe_op o_fdiv (pe_callD (K := K) rfl (ok_law_next T) (hr.mono (by decide)) rfl pass0 (pa_cons (pv 0) (pa_cons pe_int pa_nil))) pe_int)) pa_nil))) pa_nil)) pa_nil)))))))), ?_⟩)
  obtain ⟨d, L, rfl, D, hQ⟩ := h
  walk_at "go"
  refine ⟨d, L, rfl, D, fun H1 rv rgs k1 D1 ir ro => ?_⟩
  walk_at "go"
  refine use_nx D1 (by decide) (fun H2 v2 k2 D2 h20 h21 => ?_)
  obtain ⟨mm, rfl, hmm⟩ := nat_lt_of (m := 16) h20 h21
  have ir2 := D1.im k2 ir
  walk_at "go"
  have e2 : (2 : Int) + (mm : Int) = ((mm + 2 : Nat) : Int) := by omega
  rw [e2]
  have H4 := H2
  have k14 := k1.trans k2
  have D4 := D2
  have ir4 := ir2
  have e3 : ((mm + 2 : Nat) : Int) - 1 = ((mm + 1 : Nat) : Int) := by omega
  rw [e3]
  rw [Int.toNat_natCast]
  refine l_drawR (P := fun i e => ∃ r : Row, e = r.d ∧ RowOkD (mm + 2) i r) D4 (by omega) (fun _ => rfl) (fun i H5 R L5 hi k5 D5 hR => ?_) (fun DD H5 us es hDD k5 D5 im hl hp => ?_)
  · walk_at "go"
    refine ⟨d, L5, rv, rgs, i, mm + 2, rfl, D5, D4.im k5 ir4, ro, by omega, fun H6 v r k6 D6 i6 ok6 => ?_⟩
    exact hR _ _ _ k6 D6 i6 ⟨r, rfl, ok6⟩
  obtain ⟨rows, rfl, hrl, hro⟩ := row_list hl hp
  have ir5 := D4.im k5 ir4
  have ul := im.length
  rw [List.length_map] at ul
  walk_at "go"
  refine use_nx D5 (by decide) (fun H6 v6 k6 D6 h60 h61 => ?_)
  obtain ⟨a6, rfl, ha6⟩ := nat_lt_of (m := 6) h60 h61
  walk_at "go"
  refine m_new (.cons (.str _) (.cons (.int _) .nil)) (by simp) (fun p7 H7 s7 hp7 i7 => ?_)
  have D7 := D6.same s7
  walk_at "go"
  refine use_nx D7 (by omega) (fun H8 v8 k8 D8 h80 h81 => ?_)
  obtain ⟨t8, rfl, ht8⟩ := nat_lt_of h80 h81
  walk_at "go"
  refine m_new (.cons (.str _) (.cons (.int _) .nil)) (by simp) (fun p9 H9 s9 hp9 i9 => ?_)
  have D9 := D8.same s9
  have i79 := (D7.im k8 i7).same s9
  walk_at "go"
  refine ⟨by show 2 ≤ sizeLine; decide, fun q hq => ?_⟩
  have sq := Same.new (o := .lst [.ref p7, .ref p9]) hq
  have DA := D9.same sq
  walk_at "go"
  refine use_nx DA (by decide) (fun HB vB kB DB hB0 hB1 => ?_)
  have hqB := DA.at_ kB upd_same (fun _ e => nomatch e)
  obtain ⟨y, e, j, hj, hy, ie, oke⟩ : ∃ (y : V) (e : Row) (j : Nat), vB / 3 = (j : Int) ∧ [V.ref p7, V.ref p9][j]? = some y ∧ Im HB y e.d ∧ RowOkD (mm + 2) (mm + 1) e := by
    have h : vB / 3 = 0 ∨ vB / 3 = 1 := by omega
    rcases h with h | h
    · exact ⟨_, .stop a6, 0, h, rfl, DA.im kB (i79.same sq), by show a6 < 16; omega⟩
    · exact ⟨_, .jump t8, 1, h, rfl, DA.im kB (i9.same sq), ht8⟩
  walk_at "go"
  refine g_ixL (SqL.of hqB) (n := j) hj hy ?_
  walk_at "go"
  refine ⟨by show 1 ≤ sizeLine; decide, fun pC hpC => ?_⟩
  have sC := Same.new (o := .lst [y]) hpC
  have DC := DB.same sC
  walk_at "go"
  refine g_catL (DC.get L.length get_last) upd_same (by simp only [List.length_singleton]; omega) (fun pD hpD => ?_)
  have sD := Same.new (o := .lst (us ++ [y])) hpD
  have imB : Ims HB us (rows.map Row.d) := DA.ims kB (((D7.ims k8 ((D5.ims k6 im).same s7)).same s9).same sq)
  have imD : Ims (upd (upd HB pC (.lst [y])) pD (.lst (us ++ [y]))) (us ++ [y]) ((rows ++ [e]).map Row.d) := by
    rw [List.map_append]
    exact (imB.append (Ims.one ie)).same (sC.trans sD)
  have irB := DA.im kB (((D7.im k8 ((D5.im k6 ir5).same s7)).same s9).same sq)
  have irD := irB.same (sC.trans sD)
  have DD2 := (DC.same sD).sub sub_last
  have atD : upd (upd HB pC (.lst [y])) pD (.lst (us ++ [y])) pD = some (.lst (us ++ [y])) := upd_same
  have sCD := sC.trans sD
  generalize upd (upd HB pC (.lst [y])) pD (.lst (us ++ [y])) = HD at imD irD DD2 atD sCD
  walk_at "go"
  refine m_tupleL (SqL.of atD) imD (fun pE HE sE _ iE => ?_)
  walk_at "go"
  refine m_new (.cons (irD.same sE) (.cons iE .nil)) (by simp) (fun pF HF sF _ iF => ?_)
  have kF := ((((((k14.trans k5).trans k6).trans (Keep.of s7)).trans k8).trans (Keep.of s9)).trans (Keep.of sq)).trans kB |>.trans (Keep.of ((sCD.trans sE).trans sF))
  have hlen : (rows ++ [e]).length = mm + 2 := by rw [List.length_append, hrl]; rfl
  refine hQ _ _ rgs (rows ++ [e]) kF (DD2.same (sE.trans sF)) iF ⟨ro, ⟨by omega, fun k r hr => ?_⟩, by omega, by omega⟩
  rw [hlen]
  by_cases hk : k < rows.length
  · rw [List.getElem?_append_left hk] at hr
    exact hro k r hr
  · have hk2 := (List.getElem?_eq_some_iff.mp hr).1
    have ek : k = rows.length := by omega
    subst ek
    rw [List.getElem?_append_right (Nat.le_refl _), Nat.sub_self] at hr
    cases hr
    rw [hrl]
    exact oke


/-! ### k65: the word, what is due, what is told -/
theorem k_niB {K : PySem.W.Frag} {H : Hp} {a : Addr} {p : Mb} {n : Nat} {Q : VK} (h : MemAt H a p) (hn : n < 16) (q : Q (.bl (!p n)) H) : rInU K true (.int (n : Int)) (.ref a) H Q := k_niN (h.elim (fun h => .inl (SqT.of h)) (fun h => .inr (SqL.of h))) (by rw [mL_has hn]; exact q)
def sp_law_word (K : PySem.W.Frag) : Sp := fun vs H Q _ => ∃ (code : V) (ra a many k : Nat) (rgs : List Rg) (rows : List Row) (row : Row) (p : Mb), vs = [code, .ref ra, .ref a] ∧ Im H code (codeD rgs rows) ∧ lblOk rgs ∧ rgs.length ≤ 1000 ∧ H ra = some (.tup row.v) ∧ RowOkD many k row ∧ MemAt H a p ∧
  ∀ H', Same H H' → Q (wV (refW rgs row p)) H'
theorem sc_law_word : FnScope ["code", "row", "member", "at", "region"] ["code", "row", "member"] (defScope (topS 28)) := ⟨rfl, rfl, rfl, by decide +kernel, rfl, by decide +kernel, by decide +kernel⟩
theorem ok_law_word (T : Txt fa fn K mg (XOk cs xcs K w)) : Dn P w K mg base CX0 2 "_law_word" ["code", "row", "member"] (sp_law_word K) := by
  refine mk_dn (d := dOf "_law_word" 28) T 20 20 rfl rfl rfl rfl rfl sc_law_word (by walk_at "len") (fun _ _ _ _ _ _ us hl => match us, hl with | [_, _, _], _ => rfl) (fun cdv A outer s H vs Q E hr h => ⟨_, (pss_cons (ps_if (pt_cmpR (op_inU (K := K) rfl (hu65 hr)) (pe_ixU (K := K) rfl (hu_of hr) (pv 1) pe_int) (pe_lst (pa_cons pe_str (pa_cons pe_str pa_nil))) (by rfl)) (pss_cons (ps_if (pt_cmpR (op_inU (K := K) rfl (hu65 hr)) (pe_ixU (K := K) rfl (hu_of hr) (pv 1) pe_int) (pv 2) (by rfl)) (pss_one (ps_ret pe_non)) pss_nil)
      (pss_one (ps_ret (pe_ixU (K := K) rfl (hu_of hr) (pv 1) pe_int)))) pss_nil)
      (pss_cons (ps_if (PW.pt (pw_and (pt_cmpR (op_eqU (K := K) rfl hr.units) (pe_ixU (K := K) rfl (hu_of hr) (pv 1) pe_int) pe_str (nomark _)) (pw_and1 (pt_cmpR (op_inU (K := K) rfl (hu65 hr)) (pe_ixU (K := K) rfl (hu_of hr) (pv 1) pe_int) (pe_lst (pa_cons pe_str (pa_cons pe_str pa_nil))) (by rfl))))) (pss_cons (ps_if (PW.pt (pw_and (pt_cmpR (op_inU (K := K) rfl (hu65 hr)) (pe_ixU (K := K) rfl (hu_of hr) (pv 1) pe_int) (pv 2) (by rfl)) (pw_and1 (pt_cmpR (op_inU (K := K) rfl (hu65 hr)) (pe_ixU (K := K) rfl (hu_of hr) (pv 1) pe_int) (pv 2) (by rfl))))) (pss_one (ps_ret pe_non)) pss_nil)
      (pss_one (ps_ret pe_str))) pss_nil)
      (pss_cons (ps_if (pt_cmpR (op_niU (K := K) rfl (hu65 hr)) (pe_ixU (K := K) rfl (hu_of hr) (pv 1) pe_int) (pe_lst (pa_cons pe_str (pa_cons pe_str pa_nil))) (by rfl)) (pss_one (ps_ret pe_non)) pss_nil)
      (pss_cons (ps_set (i := 3) sc_law_word.nd rfl (.inl rfl) (pe_op (op_addU (K := K) rfl) pe_int (pe_callTy c_int rfl (T.free 30 rfl) (by decide +kernel) (pa_cons (pe_cmpR (op_eqU (K := K) rfl hr.units) (pe_ixU (K := K) rfl (hu_of hr) (pv 1) pe_int) pe_str (nomark _)) pa_nil))))
      (pss_cons (ps_if (pt_cmpR (op_niU (K := K) rfl (hu65 hr)) (pe_ixU (K := K) rfl (hu_of hr) (pv 1) (pv 3)) (pv 2) (by rfl)) (pss_one (ps_ret pe_str)) pss_nil)
      (pss_cons (ps_set (i := 4) sc_law_word.nd rfl (.inl rfl) (pe_callD (K := K) rfl (ok_law_region T) (hr.mono (by decide)) rfl pass0 (pa_cons (pv 0) (pa_cons (pe_ixU (K := K) rfl (hu_of hr) (pv 1) (pe_op (op_addU (K := K) rfl) (pv 3) pe_int)) (pa_cons (pe_ixU (K := K) rfl (hu_of hr) (pv 1) (pe_op (op_addU (K := K) rfl) (pv 3) pe_int)) pa_nil)))))
      (pss_cons (ps_if (pt_cmpR o_isN (pv 4) pe_non (nomark _)) (pss_one (ps_ret pe_str)) pss_nil)
      (pss_cons (ps_if (PW.pt (pw_and (pt_cmpR (op_eqU (K := K) rfl hr.units) (pe_ixU (K := K) rfl (hu_of hr) (pv 1) pe_int) pe_str (nomark _)) (pw_and (pt_cmpR (op_eqU (K := K) rfl hr.units) (pe_ixU (K := K) rfl (hu_of hr) (pv 4) pe_int) pe_str (nomark _)) (pw_and1 (pt_cmpR (op_niU (K := K) rfl (hu65 hr)) (pe_ixU (K := K) rfl (hu_of hr) (pv 1) pe_int) (pv 2) (by rfl)))))) (pss_one (ps_ret pe_str)) pss_nil)
      (pss_one (ps_ret pe_non)))))))))), ?_⟩)
  obtain ⟨code, ra, a, many, k, rgs, rows, row, p, rfl, ic, lo, lr, hra, ro, hm, hQ⟩ := h
  have sp : ∀ (xs : List V) (u : Addr) (H1 : Hp), H1 u = none → Same H1 (upd H1 u (.lst xs)) := fun xs u H1 hu => Same.new hu
  cases row with
  | branch c t =>
    have hra : H ra = some (.tup [.str "branch", .int c, .int t]) := hra
    have hQ : ∀ H', Same H H' → Q (wV (if p c = true then none else some "branch")) H' := hQ
    walk_at "go"
    refine ⟨by show 2 ≤ sizeLine; decide, fun u hu => ?_⟩
    refine g_inTs (ks := ["branch", "out"]) (.inr upd_same) ?_
    have su := sp [.str "branch", .str "out"] u _ hu
    have hra1 := su _ _ hra
    have e : (["branch", "out"] : List Str).contains "branch" = true := by decide +kernel
    rw [e]
    walk_at "go"
    refine k_inB (hm.same su) ro.1 ?_
    walk_at "go"
    refine g_ifB (fun c => ?_) (fun c => ?_)
    · rw [c, if_pos rfl] at hQ
      walk_at "go"
      exact hQ _ su
    · rw [c, if_neg Bool.false_ne_true] at hQ
      walk_at "go"
      exact hQ _ su
  | out c =>
    have hra : H ra = some (.tup [.str "out", .int c]) := hra
    have hQ : ∀ H', Same H H' → Q (wV (if p c = true then none else some "out")) H' := hQ
    walk_at "go"
    refine ⟨by show 2 ≤ sizeLine; decide, fun u hu => ?_⟩
    refine g_inTs (ks := ["branch", "out"]) (.inr upd_same) ?_
    have su := sp [.str "branch", .str "out"] u _ hu
    have hra1 := su _ _ hra
    have e : (["branch", "out"] : List Str).contains "out" = true := by decide +kernel
    rw [e]
    walk_at "go"
    refine k_inB (hm.same su) ro.1 ?_
    walk_at "go"
    refine g_ifB (fun c => ?_) (fun c => ?_)
    · rw [c, if_pos rfl] at hQ
      walk_at "go"
      exact hQ _ su
    · rw [c, if_neg Bool.false_ne_true] at hQ
      walk_at "go"
      exact hQ _ su
  | load d c b mk =>
    have hra : H ra = some (.tup [.str "load", .int d, .int c, .int b, .int mk]) := hra
    have hQ : ∀ H', Same H H' → Q (wV (spanW rgs p c b mk none)) H' := hQ
    unfold spanW at hQ
    walk_at "go"
    refine ⟨by show 2 ≤ sizeLine; decide, fun u hu => ?_⟩
    refine g_inTs (ks := ["branch", "out"]) (.inr upd_same) ?_
    have su := sp [.str "branch", .str "out"] u _ hu
    have hra1 := su _ _ hra
    have e : (["branch", "out"] : List Str).contains "load" = false := by decide +kernel
    rw [e]
    walk_at "go"
    refine ⟨by show 2 ≤ sizeLine; decide, fun u2 hu2 => ?_⟩
    refine g_niTs (ks := ["load", "store"]) (.inr upd_same) ?_
    have su2 := su.trans (sp [.str "load", .str "store"] u2 _ hu2)
    have hra2 := su2 _ _ hra
    have e : (["load", "store"] : List Str).contains "load" = true := by decide +kernel
    rw [e]
    walk_at "go"
    refine k_niB (hm.same su2) ro.2.1 ?_
    walk_at "go"
    refine g_ifBn (fun c1 => ?_) (fun c1 => ?_)
    · rw [c1, if_neg Bool.false_ne_true] at hQ
      walk_at "go"
      exact hQ _ su2
    · rw [c1, if_pos rfl] at hQ
      walk_at "go"
      refine ⟨code, b, mk, rgs, rows, rfl, ic.same su2, lo, lr, fun hn H3 s3 => ?_, fun g v H3 hg s3 hv => ?_⟩
      · rw [hn] at hQ
        have hra3 := s3 _ _ hra2
        walk_at "go"
        exact hQ _ (su2.trans s3)
      · rw [hg] at hQ
        have hra3 := s3 _ _ hra2
        obtain ⟨ga, rfl, hga⟩ := im3v hv
        walk_at "go"
        exact hQ _ (su2.trans s3)
  | store c b mk z =>
    have hra : H ra = some (.tup [.str "store", .int c, .int b, .int mk, .int z]) := hra
    have hQ : ∀ H', Same H H' → Q (wV (spanW rgs p c b mk (some z))) H' := hQ
    unfold spanW at hQ
    walk_at "go"
    refine ⟨by show 2 ≤ sizeLine; decide, fun u hu => ?_⟩
    refine g_inTs (ks := ["branch", "out"]) (.inr upd_same) ?_
    have su := sp [.str "branch", .str "out"] u _ hu
    have hra1 := su _ _ hra
    have e : (["branch", "out"] : List Str).contains "store" = false := by decide +kernel
    rw [e]
    walk_at "go"
    refine ⟨by show 2 ≤ sizeLine; decide, fun u2 hu2 => ?_⟩
    refine g_niTs (ks := ["load", "store"]) (.inr upd_same) ?_
    have su2 := su.trans (sp [.str "load", .str "store"] u2 _ hu2)
    have hra2 := su2 _ _ hra
    have e : (["load", "store"] : List Str).contains "store" = true := by decide +kernel
    rw [e]
    walk_at "go"
    refine k_niB (hm.same su2) ro.1 ?_
    walk_at "go"
    refine g_ifBn (fun c1 => ?_) (fun c1 => ?_)
    · rw [c1, if_neg Bool.false_ne_true] at hQ
      walk_at "go"
      exact hQ _ su2
    · rw [c1, if_pos rfl] at hQ
      walk_at "go"
      refine ⟨code, b, mk, rgs, rows, rfl, ic.same su2, lo, lr, fun hn H3 s3 => ?_, fun g v H3 hg s3 hv => ?_⟩
      · rw [hn] at hQ
        have hra3 := s3 _ _ hra2
        walk_at "go"
        exact hQ _ (su2.trans s3)
      · rw [hg] at hQ
        have hra3 := s3 _ _ hra2
        have hm3 := (hm.same su2).same s3
        obtain ⟨ga, rfl, hga⟩ := im3v hv
        have hQ : ∀ H', Same H H' → Q (wV (if p z = true then none else if g.l = "public" then some "store" else none)) H' := hQ
        walk_at "go"
        refine g_if (fun c3 => ?_) (fun c3 => ?_)
        · walk_at "go"
          refine k_niB hm3 ro.2.1 ?_
          walk_at "go"
          refine g_ifBn (fun c2 => ?_) (fun c2 => ?_)
          · rw [c2, if_neg Bool.false_ne_true, if_pos c3] at hQ
            walk_at "go"
            exact hQ _ (su2.trans s3)
          · rw [c2, if_pos rfl] at hQ
            walk_at "go"
            exact hQ _ (su2.trans s3)
        · walk_at "go"
          have e : (if p z = true then none else if g.l = "public" then some ("store" : Str) else none) = none := by
            rw [if_neg c3]
            split <;> rfl
          rw [e] at hQ
          exact hQ _ (su2.trans s3)
  | op s d x y =>
    have hra : H ra = some (.tup [.str "op", .str s.s, .int d, .int x, .int y]) := hra
    walk_at "go"
    refine ⟨by show 2 ≤ sizeLine; decide, fun u hu => ?_⟩
    refine g_inTs (ks := ["branch", "out"]) (.inr upd_same) ?_
    have su := sp [.str "branch", .str "out"] u _ hu
    have hra1 := su _ _ hra
    have e : (["branch", "out"] : List Str).contains "op" = false := by decide +kernel
    rw [e]
    walk_at "go"
    refine ⟨by show 2 ≤ sizeLine; decide, fun u2 hu2 => ?_⟩
    refine g_inTs (ks := ["div", "mod"]) (.inr upd_same) ?_
    have su2 := su.trans (sp [.str "div", .str "mod"] u2 _ hu2)
    have hra2 := su2 _ _ hra
    rw [sg_dm s]
    have key : (s = .div ∨ s = .mod) ∨ (refW rgs (.op s d x y) p = none ∧ isDM s = false) := by
      cases s <;> first | exact .inl (.inl rfl) | exact .inl (.inr rfl) | exact .inr ⟨rfl, rfl⟩
    rcases key with hs | ⟨h1, h2⟩
    · have h1 : refW rgs (.op s d x y) p = if p x = true then (if p y = true then none else some ("cost" : Str)) else some ("cost" : Str) := by rcases hs with rfl | rfl <;> rfl
      have h2 : isDM s = true := by rcases hs with rfl | rfl <;> rfl
      rw [h1] at hQ
      rw [h2]
      walk_at "go"
      refine k_inB (hm.same su2) ro.2.1 ?_
      walk_at "go"
      refine g_ifB (fun c => ?_) (fun c => ?_)
      · rw [c, if_pos rfl] at hQ
        walk_at "go"
        refine k_inB (hm.same su2) ro.2.2.1 ?_
        walk_at "go"
        refine g_ifB (fun c2 => ?_) (fun c2 => ?_)
        · rw [c2, if_pos rfl] at hQ
          walk_at "go"
          exact hQ _ su2
        · rw [c2, if_neg Bool.false_ne_true] at hQ
          walk_at "go"
          exact hQ _ su2
      · rw [c, if_neg Bool.false_ne_true] at hQ
        walk_at "go"
        exact hQ _ su2
    · rw [h1] at hQ
      rw [h2]
      walk_at "go"
      refine ⟨by show 2 ≤ sizeLine; decide, fun u3 hu3 => ?_⟩
      refine g_niTs (ks := ["load", "store"]) (.inr upd_same) ?_
      have su3 := su2.trans (sp [.str "load", .str "store"] u3 _ hu3)
      have e : (["load", "store"] : List Str).contains "op" = false := by decide +kernel
      rw [e]
      walk_at "go"
      exact hQ _ su3
  | _ =>
    have hra := hra
    simp only [Row.v] at hra
    walk_at "go"
    refine ⟨by show 2 ≤ sizeLine; decide, fun u hu => ?_⟩
    refine g_inTs (ks := ["branch", "out"]) (.inr upd_same) ?_
    have su := sp [.str "branch", .str "out"] u _ hu
    have hra1 := su _ _ hra
    first | rw [show (["branch", "out"] : List Str).contains "const" = false by decide +kernel] | rw [show (["branch", "out"] : List Str).contains "select" = false by decide +kernel] | rw [show (["branch", "out"] : List Str).contains "jump" = false by decide +kernel] | rw [show (["branch", "out"] : List Str).contains "stop" = false by decide +kernel]
    walk_at "go"
    refine ⟨by show 2 ≤ sizeLine; decide, fun u2 hu2 => ?_⟩
    refine g_niTs (ks := ["load", "store"]) (.inr upd_same) ?_
    have su2 := su.trans (sp [.str "load", .str "store"] u2 _ hu2)
    first | rw [show (["load", "store"] : List Str).contains "const" = false by decide +kernel] | rw [show (["load", "store"] : List Str).contains "select" = false by decide +kernel] | rw [show (["load", "store"] : List Str).contains "jump" = false by decide +kernel] | rw [show (["load", "store"] : List Str).contains "stop" = false by decide +kernel]
    walk_at "go"
    exact hQ _ su2
/-- what is due and what is told, as data -/
def dueV : Option (Nat × Str) → PyData
  | none => .none
  | some (r, z) => .tuple [nI r, .str z]
def toldV : Option (Int × Str) → PyData
  | none => .none
  | some (r, z) => .tuple [.int r, .str z]
theorem told_due (o : Option (Nat × Str)) : toldV (o.map fun q => ((q.1 : Int), q.2)) = dueV o := by
  cases o <;> rfl
def sp_law_due (K : PySem.W.Frag) : Sp := fun vs H Q _ => ∃ (code x : V) (rgs : List Rg) (rows : List Row) (P : Nat → Mb), vs = [code, x] ∧ Im H code (codeD rgs rows) ∧ JOk rows ∧ lblOk rgs ∧ rgs.length ≤ 1000 ∧ Im H x (papD P rows.length) ∧
  ∀ H' v, Same H H' → Im H' v (dueV (dueD rgs rows P rows.length)) → Q v H'
theorem sc_law_due : FnScope ["code", "paper", "r", "word"] ["code", "paper"] (defScope (topS 29)) := ⟨rfl, rfl, rfl, by decide +kernel, rfl, by decide +kernel, by decide +kernel⟩
theorem ok_law_due (T : Txt fa fn K mg (XOk cs xcs K w)) : Dn P w K mg base CX0 3 "_law_due" ["code", "paper"] (sp_law_due K) := by
  refine mk_dn (d := dOf "_law_due" 29) T 21 21 rfl rfl rfl rfl rfl sc_law_due (by walk_at "len") (fun _ _ _ _ _ _ us hl => match us, hl with | [_, _], _ => rfl) (fun cdv A outer s H vs Q E hr h => ⟨_, (pss_cons (ps_for PassesOwn.never rfl (pi_r1 rfl (T.free 34 rfl) (pa_cons (pe_callB (c_len (K := K) rfl) rfl (T.free 32 rfl) (by decide +kernel) (pa_cons (pv 1) pa_nil)) pa_nil)) (pg_name (i := 2) sc_law_due.nd rfl (.inl rfl)) (pss_cons (ps_set (i := 3) sc_law_due.nd rfl (.inl rfl) (pe_callD (K := K) rfl (ok_law_word T) (hr.mono (by decide)) rfl pass0 (pa_cons (pv 0) (pa_cons (pe_ixU (K := K) rfl (hu_of hr) (pe_ixU (K := K) rfl (hu_of hr) (pv 0) pe_int) (pv 2)) (pa_cons (pe_ixU (K := K) rfl (hu_of hr) (pv 1) (pv 2)) pa_nil)))))
      (pss_one (ps_if (pt_cmpR o_notN (pv 3) pe_non (nomark _)) (pss_one (ps_ret (pe_tup (pa_cons (pv 2) (pa_cons (pv 3) pa_nil))))) pss_nil))))
      (pss_one (ps_ret pe_non))), ?_⟩)
  obtain ⟨code, x, rgs, rows, P, rfl, ic, jo, lo, lr, ix, hQ⟩ := h
  have ju := jo.u
  walk_at "go"
  refine m_len ix ?_
  rw [List.length_map, List.length_range]
  walk_at "go"
  rw [Int.toNat_natCast]
  refine f_range (fun i σ H' => ∃ (o2 o3 : Option V), σ = [some code, some x, o2, o3] ∧ Same H H' ∧ dueD rgs rows P i = none) ⟨_, _, rfl, Same.refl _, rfl⟩ ?_ ?_
  · rintro i σ H1 hi ⟨o2, o3, rfl, s1, hd⟩
    have e0 : (0 : Int) + (i : Int) = (i : Int) := by omega
    rw [e0]
    have hr : rows[i]? = some (rows[i]'hi) := List.getElem?_eq_getElem _
    generalize rows[i]'hi = row at hr
    have ro := jo.r i row hr
    walk_at "go"
    refine m_ix (ic.same s1) (n := 1) rfl rfl (fun v1 hv1 => ?_)
    walk_at "go"
    refine m_ix hv1 (n := i) rfl (by rw [List.getElem?_map, hr]; rfl) (fun v2 hv2 => ?_)
    obtain ⟨ra, rfl, hra⟩ := row_tup hv2
    walk_at "go"
    refine m_ix (ix.same s1) (n := i) rfl (pap_at hi) (fun v3 hv3 => ?_)
    obtain ⟨m, ms, rfl, hm, ims⟩ := hv3.tup_inv
    obtain rfl := ims_nV_inv ims
    walk_at "go"
    refine ⟨code, ra, m, rows.length, i, rgs, rows, row, P i, rfl, ic.same s1, lo, lr, hra, ro, .inl hm, fun H2 s2 => ?_⟩
    have e1 : dueD rgs rows P (i + 1) = (refW rgs row (P i)).map fun w => (i, w) := by
      rw [due_succ, hd, hr]
      rfl
    cases hw : refW rgs row (P i) with
    | none =>
      rw [hw] at e1
      show gName 3 .non _ _ _
      walk_at "go"
      exact ⟨_, _, rfl, s1.trans s2, e1⟩
    | some wd0 =>
      rw [hw] at e1
      show gName 3 (.str wd0) _ _ _
      walk_at "go"
      refine m_new (.cons (.int _) (.cons (.str _) .nil)) (by simp) (fun q H3 s3 _ i3 => ?_)
      have key : ∀ k, dueD rgs rows P (i + 1 + k) = some (i, wd0) := fun k => by
        induction k with
        | zero => exact e1
        | succ k ih =>
          show dueD rgs rows P (i + 1 + k + 1) = _
          rw [due_succ, ih]
          rfl
      have e2 := key (rows.length - (i + 1))
      rw [show i + 1 + (rows.length - (i + 1)) = rows.length by omega] at e2
      refine hQ _ _ ((s1.trans s2).trans s3) ?_
      rw [e2]
      exact i3
  · rintro σ H1 ⟨o2, o3, rfl, s1, hd⟩
    walk_at "go"
    refine hQ _ _ s1 ?_
    rw [hd]
    exact .non
def sp_law_told (K : PySem.W.Frag) : Sp := fun vs H Q _ => ∃ (code x : V) (rgs : List Rg) (rows : List Row) (d : PyData), vs = [code, x] ∧ Im H code (codeD rgs rows) ∧ JOk rows ∧ Dk K H x d ∧ Wd 50000 4 d ∧
  ∀ H' v o, JudR rgs rows d o → Same H H' → Im H' v (toldV o) → Q v H'
theorem sc_law_told : FnScope ["code", "paper", "e"] ["code", "paper"] (defScope (topS 30)) := ⟨rfl, rfl, rfl, by decide +kernel, rfl, by decide +kernel, by decide +kernel⟩
theorem ok_law_told (T : Txt fa fn K mg (XOk cs xcs K w)) : Dn P w K mg base CX0 5 "_law_told" ["code", "paper"] (sp_law_told K) := by
  refine mk_dn (d := dOf "_law_told" 30) T 22 22 rfl rfl rfl rfl rfl sc_law_told (by walk_at "len") (fun _ _ _ _ _ _ us hl => match us, hl with | [_, _], _ => rfl) (fun cdv A outer s H vs Q E hr h => ⟨_, (pss_cons (ps_try_as (i := 2) rfl rfl sc_law_told.nd rfl rfl ⟨rfl, by decide, .inl (T.glo 25 rfl)⟩ takes0 (fun W pn xe tk po => (pss_one (ps_if (pt_cmpR o_notN (pe_callDX (K := K) rfl (ok_judge T) (hr.mono (by decide)) rfl tk (pa_cons (pv 0) (pa_cons (pv 1) pa_nil))) pe_non (nomark _)) (pss_one (ps_ret (pe_tup (pa_cons pe_str (pa_cons pe_int pa_nil))))) pss_nil))) (fun a oe cls d pn hz hf => (pss_one (ps_ret (pe_tup (pa_cons (pe_xfU (K := K) rfl (xc_Refused T) (by decide +kernel) hz hf (pv 2)) (pa_cons (pe_xfU (K := K) rfl (xc_Refused T) (by decide +kernel) hz hf (pv 2)) pa_nil)))))))
      (pss_one (ps_ret pe_non))), ?_⟩)
  obtain ⟨code, x, rgs, rows, d, rfl, ic, jo, hx, wd, hQ⟩ := h
  walk_at "go"
  refine g_callW ?_
  walk_at "go"
  refine ⟨code, x, _, _, _, rfl, ic, jo, hx, wd, fun ju H2 s2 => ?_, fun r w' ju H2 e s2 he => ?_⟩
  · walk_at "go"
    exact hQ _ _ none ju s2 .non
  · refine ⟨true, exm_Refused_Refused T, fun _ a ha => ?_, fun h => nomatch h⟩
    walk_at "go"
    refine g_xf ?_
    walk_at "go"
    refine ⟨rfl, rfl, e, _, _, rfl, he, rfl, ?_⟩
    walk_at "go"
    refine g_xf ?_
    walk_at "go"
    refine ⟨rfl, rfl, e, _, _, rfl, he, rfl, ?_⟩
    walk_at "go"
    refine m_new (.cons (.int _) (.cons (.str _) .nil)) (by simp) (fun q H3 s3 _ i3 => ?_)
    exact hQ _ _ (some (r, w')) ju (s2.trans s3) i3


/-! ### k65: the law -/
theorem refW_mono {rgs : List Rg} {p q : Mb} {n r : Nat} {row : Row} (h : ∀ x, x < 16 → p x = true → q x = true) (hr : RowOkD n r row) (e : refW rgs row p = none) : refW rgs row q = none := by
  cases row with
  | branch a t =>
    have e : (if p a = true then none else some ("branch" : Str)) = none := e
    show (if q a = true then none else some ("branch" : Str)) = none
    by_cases c : p a = true
    · rw [if_pos (h a hr.1 c)]
    · rw [if_neg c] at e
      cases e
  | out a =>
    have e : (if p a = true then none else some ("out" : Str)) = none := e
    show (if q a = true then none else some ("out" : Str)) = none
    by_cases c : p a = true
    · rw [if_pos (h a hr.1 c)]
    · rw [if_neg c] at e
      cases e
  | load d a b m =>
    have e : spanW rgs p a b m none = none := e
    show spanW rgs q a b m none = none
    unfold spanW at e ⊢
    by_cases c : p a = true
    · rw [if_pos c] at e
      rw [if_pos (h a hr.2.1 c)]
      exact e
    · rw [if_neg c] at e
      cases e
  | store a b m z =>
    have e : spanW rgs p a b m (some z) = none := e
    show spanW rgs q a b m (some z) = none
    unfold spanW at e ⊢
    by_cases c : p a = true
    · rw [if_pos c] at e
      rw [if_pos (h a hr.1 c)]
      cases er : regOf rgs b m with
      | none =>
        rw [er] at e
        cases e
      | some g =>
        rw [er] at e
        have e : (if p z = true then none else if g.l = "public" then some ("store" : Str) else none) = none := e
        show (if q z = true then none else if g.l = "public" then some ("store" : Str) else none) = none
        by_cases c2 : p z = true
        · rw [if_pos (h z hr.2.1 c2)]
        · rw [if_neg c2] at e
          rw [e]
          split <;> rfl
    · rw [if_neg c] at e
      cases e
  | op s d a b =>
    have dm : refW rgs (.op s d a b) p = none → (s = .div ∨ s = .mod) → refW rgs (.op s d a b) q = none := fun e hs => by
      have h1 : ∀ p : Mb, refW rgs (.op s d a b) p = if p a = true then (if p b = true then none else some ("cost" : Str)) else some ("cost" : Str) := fun p => by rcases hs with rfl | rfl <;> rfl
      rw [h1] at e ⊢
      by_cases c : p a = true
      · rw [if_pos c] at e
        rw [if_pos (h a hr.2.1 c)]
        by_cases c2 : p b = true
        · rw [if_pos (h b hr.2.2.1 c2)]
        · rw [if_neg c2] at e
          cases e
      · rw [if_neg c] at e
        cases e
    cases s <;> first | rfl | exact dm e (.inl rfl) | exact dm e (.inr rfl)
  | _ => rfl
theorem due_none_inv {rgs : List Rg} {rows : List Row} {P : Nat → Mb} : ∀ {n : Nat}, dueD rgs rows P n = none → ∀ r row, r < n → rows[r]? = some row → refW rgs row (P r) = none
  | 0, _, r, _, h, _ => absurd h (by omega)
  | n + 1, e, r, row, h, hr => by
    rw [due_succ] at e
    obtain ⟨e1, e2⟩ := Option.or_eq_none_iff.mp e
    by_cases c : r = n
    · subst c
      rw [hr] at e2
      have e2 : (refW rgs row (P r)).map (fun w => (r, w)) = none := e2
      exact Option.map_eq_none_iff.mp e2
    · exact due_none_inv e1 r row (by omega) hr
theorem due_mono {rgs : List Rg} {rows : List Row} {P P' : Nat → Mb} (jo : JOk rows) (h : ∀ r x, r < rows.length → x < 16 → P r x = true → P' r x = true) (e : dueD rgs rows P rows.length = none) : dueD rgs rows P' rows.length = none :=
  due_none fun r row hr hrow => refW_mono (h r · hr) (jo.r r row hrow) (due_none_inv e r row hr hrow)
theorem ref_word {rgs : List Rg} {row : Row} {p : Mb} {z : Str} (h : refW rgs row p = some z) : PyData.strOk z = true := by
  have k : z = "branch" ∨ z = "out" ∨ z = "address" ∨ z = "region" ∨ z = "store" ∨ z = "cost" := by
    cases row with
    | op s d a b =>
      cases s <;> first | (cases h; done) | skip
      all_goals
        have h : (if p a = true then (if p b = true then none else some ("cost" : Str)) else some ("cost" : Str)) = some z := h
        split at h
        · split at h <;> cases h
          simp
        · cases h
          simp
    | branch a t =>
      have h : (if p a = true then none else some ("branch" : Str)) = some z := h
      split at h <;> cases h
      simp
    | out a =>
      have h : (if p a = true then none else some ("out" : Str)) = some z := h
      split at h <;> cases h
      simp
    | load d a b m =>
      have h : spanW rgs p a b m none = some z := h
      unfold spanW at h
      split at h
      · split at h <;> cases h
        simp
      · cases h
        simp
    | store a b m c =>
      have h : spanW rgs p a b m (some c) = some z := h
      unfold spanW at h
      split at h
      · cases e : regOf rgs b m with
        | none =>
          rw [e] at h
          cases h
          simp
        | some g =>
          rw [e] at h
          have h : (if p c = true then none else if g.l = "public" then some ("store" : Str) else none) = some z := h
          split at h
          · cases h
          · split at h <;> cases h
            simp
      · cases h
        simp
    | _ => cases h
  rcases k with rfl | rfl | rfl | rfl | rfl | rfl <;> decide +kernel
theorem due_word {rgs : List Rg} {rows : List Row} {P : Nat → Mb} {q : Nat × Str} : ∀ {n : Nat}, dueD rgs rows P n = some q → PyData.strOk q.2 = true
  | 0, h => by cases h
  | n + 1, h => by
    rw [due_succ] at h
    cases e : dueD rgs rows P n with
    | some q' =>
      rw [e] at h
      cases h
      exact due_word e
    | none =>
      rw [e, Option.none_or] at h
      cases e2 : rows[n]? with
      | none =>
        rw [e2] at h
        cases h
      | some row =>
        rw [e2] at h
        have h : (refW rgs row (P n)).map (fun w => (n, w)) = some q := h
        obtain ⟨w', h1, rfl⟩ := Option.map_eq_some_iff.mp h
        exact ref_word h1
theorem due_wd {rgs : List Rg} {rows : List Row} {P : Nat → Mb} {n : Nat} : Wd 50 2 (dueV (dueD rgs rows P n)) := by
  cases e : dueD rgs rows P n with
  | none => exact wd_o
  | some q =>
    refine wd_t (by show 2 ≤ 50; decide) fun d hd => ?_
    simp only [List.mem_cons, List.not_mem_nil, or_false] at hd
    rcases hd with rfl | rfl
    · exact wd_i
    · exact wd_s (due_word e)
/-- the numbers below n that a test with draws takes -/
theorem l_drawF {σ : L2.St} {H : Hp} {te : TE} {tt : TT} {k n : Nat} {vs : List Nat} {Q : VK} {d : Addr} {L : List (Addr × HO)} (D0 : DrL H d L) (hn : n ≤ 10000) (hwp : ∀ x : V, wipe ((wipe σ vs).set k (some x)) vs = wipe σ vs)
    (step : ∀ (i : Nat) (H' : Hp) (QB : Bool → Hp → Prop) (L' : List (Addr × HO)), i < n → Keep [d] H H' → DrL H' d L' → (∀ H2 b, Keep [d] H' H2 → DrL H2 d L' → QB b H2) → tt ((wipe σ vs).set k (some (.int (i : Int)))) H' QB)
    (el : ∀ (i : Nat) (H' : Hp) (R : VK), R (.int (i : Int)) H' → te ((wipe σ vs).set k (some (.int (i : Int)))) H' R)
    (q : ∀ D H' (l : List Nat), H D = none → Keep [d] H H' → DrL H' d (L ++ [(D, .lst (nV l))]) → l.Pairwise (· < ·) → (∀ x ∈ l, x < n) → Q (.ref D) H') : LcW (gName k) tt te vs σ Q (Itr 0 n) H := by
  refine l_range (fun D i H' => ∃ l : List Nat, DrL H' d (L ++ [(D, .lst (nV l))]) ∧ Keep [d] H H' ∧ l.Pairwise (· < ·) ∧ (∀ x ∈ l, x < i) ∧ l.length ≤ i) (fun D hD => ⟨[], D0.new hD, Keep.new hD, .nil, by simp, Nat.le_refl _⟩) ?_ ?_
  · rintro D hD i H' hi ⟨l, D1, kp, ha, hb, hl⟩
    have e0 : (0 : Int) + (i : Int) = (i : Int) := by omega
    rw [e0]
    refine g_name (g_wipe (hwp _) ?_)
    refine step i H' _ _ hi kp D1 (fun H2 b k2 D2 => ?_)
    have hD2 : H2 D = some (.lst (nV l)) := D2.get L.length (by simp)
    cases b with
    | true =>
      refine g_ifT (el i H2 _ ⟨_, hD2, szl (by rw [nV_len]; omega), l ++ [i], ?_, (kp.trans k2).mut hD, ?_, fun x hx => ?_, by rw [List.length_append, List.length_singleton]; omega⟩)
      · have D3 := D2.set (o' := .lst (nV l ++ [V.int (i : Int)])) L.length (by simp : (L ++ [(D, HO.lst (nV l))])[L.length]? = some (D, HO.lst (nV l)))
        rw [show (L ++ [(D, HO.lst (nV l))]).set L.length (D, HO.lst (nV l ++ [V.int (i : Int)])) = L ++ [(D, HO.lst (nV l ++ [V.int (i : Int)]))] by simp] at D3
        have e : nV (l ++ [i]) = nV l ++ [V.int (i : Int)] := by
          unfold nV
          rw [List.map_append]
          rfl
        rw [e]
        exact D3
      · rw [List.pairwise_append]
        exact ⟨ha, by simp, fun x hx y hy => by rw [List.mem_singleton.mp hy]; exact hb x hx⟩
      · rcases List.mem_append.mp hx with hx | hx
        · have := hb x hx
          omega
        · rw [List.mem_singleton.mp hx]
          omega
    | false => exact g_ifF ⟨l, D2, kp.trans k2, ha, fun x hx => by have := hb x hx; omega, by omega⟩
  · rintro D hD H' ⟨l, D1, kp, ha, hb, hl⟩
    exact q D H' l hD kp D1 ha hb
theorem pap_eq {rgs : List Rg} {rows : List Row} {P P' : Nat → Mb} (h : ∀ r x, r < rows.length → x < 16 → P r x = P' r x) : papD P rows.length = papD P' rows.length := by
  unfold papD
  congr 1
  refine List.map_congr_left fun r hr => ?_
  have hr := List.mem_range.mp hr
  show PyData.tuple (nDs (mL (P r))) = PyData.tuple (nDs (mL (P' r)))
  rw [mL_ext fun x hx => h r x hr hx]
theorem DrL.madeW {H : Hp} {d r : Addr} {row : List Int} (hd : H d = some (.dK [])) (hr : H r = some (.lst (row.map V.int))) (ok : RowW row) : DrL (upd H d (.dK (mergeK [] [(.inr "draws", .ref r), (.inr "at", .int 0)]))) d [] := by
  have M0 : Has H [(r, HO.lst (row.map V.int))] := Has.one hr
  have ne : d ≠ r := fun e => by
    rw [e, hr] at hd
    cases hd
  have M1 : Has H [(d, HO.dK []), (r, .lst (row.map V.int))] := ⟨by simp [ne], fun q hq => by
    simp only [List.mem_cons, List.not_mem_nil, or_false] at hq
    rcases hq with rfl | rfl
    · exact hd
    · exact hr⟩
  exact ⟨r, 0, _, row, M1.set (o' := .dK (mergeK [] [(.inr "draws", .ref r), (.inr "at", .int 0)])) 0 rfl, KvW.made, ok, Int.le_refl _⟩
theorem m_isN {H : Hp} {x : V} {o : Option (Nat × Str)} {neg : Bool} {Q : VK} (hx : Im H x (dueV o)) (q : Q (.bl (if neg then !o.isNone else o.isNone)) H) : rIsN neg x .non H Q := by
  cases o with
  | none =>
    have hx : Im H x .none := hx
    cases hx
    refine ⟨rfl, ?_⟩
    rw [decide_eq_true rfl]
    exact q
  | some z =>
    have hx : Im H x (.tuple [nI z.1, .str z.2]) := hx
    obtain ⟨a, xs, rfl, _⟩ := hx.tup_inv
    refine ⟨rfl, ?_⟩
    rw [decide_eq_false (fun e => V.noConfusion e)]
    exact q
theorem g_tupRg {te : L2.St → Hp → (Int → Int → Hp → Prop) → Prop} {σ : L2.St} {H : Hp} {Q : VK} (h : te σ H fun a b H1 => L2.RgOk a b ∧ ∀ q, H1 q = none → Q (.ref q) (upd H1 q (.tup (L2.rgV a b)))) : L2.tTupRg te σ H Q := h
theorem jud_no {rgs : List Rg} {rows : List Row} {d : PyData} {o : Option (Int × Str)} (h : ¬ ∃ P, d = papD P rows.length ∧ Hold rgs rows P) (ju : JudR rgs rows d o) : o = some (-1, ("paper" : Str)) := by
  rcases ju with ⟨P, e, hP, _⟩ | ⟨_, ho⟩
  · exact absurd ⟨P, e, hP⟩ h
  · exact ho
theorem wd_mD {p : Mb} {k : Nat} : Wd 50000 (k + 1) (mD p) := by
  refine wd_t (by show (nDs (mL p)).length ≤ 50000; rw [show (nDs (mL p)).length = (mL p).length from List.length_map _]; exact Nat.le_trans mL_len (by decide)) fun d hd => ?_
  obtain ⟨m, _, rfl⟩ := List.mem_map.mp hd
  exact wd_i
set_option maxHeartbeats 40000000
def sp_law (K : PySem.W.Frag) : Sp := fun vs H Q _ => ∃ (a : Addr) (ns : List Int), vs = [.ref a] ∧ SqL K H a (ns.map V.int) ∧ ns.length ≤ 63 ∧ ∀ H', Q (.bl true) H'
theorem sc_law : FnScope ["script", "w", "code", "greatest", "due", "turn", "wrong", "gone", "less", "k", "paper", "told", "r", "behind", "way", "one", "member", "row"] ["script"] (defScope (topS 31)) := ⟨rfl, rfl, rfl, by decide +kernel, rfl, by decide +kernel, by decide +kernel⟩
theorem ok_law (T : Txt fa fn K mg (XOk cs xcs K w)) : DnG P w K mg base CX0 6 "law" ["script"] (sp_law K) := by
  refine mk_dnG (d := dOf "law" 31) T 23 23 rfl rfl rfl rfl rfl sc_law (by walk_at "len") (fun _ _ _ _ _ _ us hl => match us, hl with | [_], _ => rfl) (fun cdv A outer s H vs Q E hgd hr h => ⟨_, (pss_cons (ps_set (i := 1) sc_law.nd rfl (.inr rfl) (pe_disp (pps_cons pe_str (pe_callD (K := K) rfl (ok_law_draws T) (hr.mono (by decide)) rfl pass0 (pa_cons (pv 0) (pa_cons pe_int pa_nil))) (pps_cons pe_str pe_int pps_nil)) (by rfl) (by rfl) (fun z => by cases z) (by decide)))
      (pss_cons (ps_set (i := 2) sc_law.nd rfl (.inl rfl) (pe_callD (K := K) rfl (ok_law_code T) (hr.mono (by decide)) rfl pass0 (pa_cons (pv 1) pa_nil)))
      (pss_cons (ps_set (i := 3) sc_law.nd rfl (.inl rfl) (pe_callG (K := K) rfl hgd (ok_law_greatest T) (hr.mono (by decide)) rfl pass0 (pa_cons (pv 2) pa_nil)))
      (pss_cons (ps_set (i := 4) sc_law.nd rfl (.inl rfl) (pe_callD (K := K) rfl (ok_law_due T) (hr.mono (by decide)) rfl pass0 (pa_cons (pv 2) (pa_cons (pv 3) pa_nil))))
      (pss_cons (ps_if (PW.pt (pw_or (pt_cmpR (op_neU (K := K) rfl hr.units) (pe_callD (K := K) rfl (ok_law_told T) (hr.mono (by decide)) rfl pass0 (pa_cons (pv 2) (pa_cons (pv 3) pa_nil))) (pv 4) (nomark _)) (pw_or1 (pt_cmpR (op_neU (K := K) rfl hr.units) (pe_callD (K := K) rfl (ok_taken T) (hr.mono (by decide)) rfl pass0 (pa_cons (pv 2) pa_nil)) (pe_cmpR o_isN (pv 4) pe_non (nomark _)) (nomark _))))) (pss_one (ps_ret pe_bl)) pss_nil)
      (pss_cons (ps_for PassesOwn.never rfl (pi_r1 rfl (T.free 34 rfl) (pa_cons pe_int pa_nil)) (pg_name (i := 5) sc_law.nd rfl (.inl rfl)) (pss_cons (ps_set (i := 7) sc_law.nd rfl (.inr rfl) (pe_lc rfl sc_law.nd (pi_r1 rfl (T.free 34 rfl) (pa_cons pe_int pa_nil)) (blkOk_by (own := [("one", 15)]) (N := ["script", "w", "code", "greatest", "due", "turn", "wrong", "gone", "less", "k", "paper", "told", "r", "behind", "way", "one", "member", "row"]) (sc := defScope (topS 31)) (by decide +kernel)) (fun _ _ _ _ _ => (pg_name (i := 15) sc_law.nd rfl (.inl rfl))) (fun _ _ _ _ _ => (pts_one (pt_cmpR (op_eqU (K := K) rfl hr.units) (pe_callD (K := K) rfl (ok_law_next T) (hr.mono (by decide)) rfl pass0 (pa_cons (pv 1) (pa_cons pe_int pa_nil))) pe_int (nomark _)))) (fun _ _ _ _ _ => (pv 15))))
      (pss_cons (ps_setLc (i := 8) rfl sc_law.nd rfl rfl (sw_true rfl rfl rfl (by decide +kernel)) (pi_seq (K := K) rfl (pv 3)) (blkOk_by (own := [("member", 16)]) (N := ["script", "w", "code", "greatest", "due", "turn", "wrong", "gone", "less", "k", "paper", "told", "r", "behind", "way", "one", "member", "row"]) (sc := defScope (topS 31)) (by decide +kernel)) (fun _ _ _ _ _ => (pg_name (i := 16) sc_law.nd rfl (.inl rfl))) (fun _ _ _ _ _ => pts_nil) (fun _ _ _ _ _ => (pe_lc rfl sc_law.nd (pi_seq (K := K) rfl (pv 16)) (blkOk_by (own := [("one", 15)]) (by kernel_rfl)) (fun _ _ _ _ _ => (pg_name (i := 15) sc_law.nd rfl (.inl rfl))) (fun _ _ _ _ _ => (pts_one (pt_cmpR (op_niU (K := K) rfl (hu65 hr)) (pv 15) (pv 7) (by rfl)))) (fun _ _ _ _ _ => (pv 15)))))
      (pss_cons (ps_for PassesOwn.never rfl (pi_r1 rfl (T.free 34 rfl) (pa_cons pe_int pa_nil)) (pg_name (i := 9) sc_law.nd rfl (.inl rfl)) (pss_one (ps_for PassesOwn.never rfl (pi_r1 rfl (T.free 34 rfl) (pa_cons (pe_callB (c_len (K := K) rfl) rfl (T.free 32 rfl) (by decide +kernel) (pa_cons (pv 8) pa_nil)) pa_nil)) (pg_name (i := 12) sc_law.nd rfl (.inl rfl)) (pss_cons (ps_set (i := 13) sc_law.nd rfl (.inr rfl) (pe_callD (K := K) rfl (ok_law_behind T) (hr.mono (by decide)) rfl pass0 (pa_cons (pv 2) (pa_cons (pv 12) (pa_cons (pe_ixU (K := K) rfl (hu_of hr) (pv 8) (pv 12)) pa_nil)))))
      (pss_one (ps_for PassesOwn.never rfl (pi_seq (K := K) rfl (pe_callD (K := K) rfl (ok_law_ways T) (hr.mono (by decide)) rfl pass0 (pa_cons (pv 2) (pa_cons (pv 12) pa_nil)))) (pg_name (i := 14) sc_law.nd rfl (.inl rfl)) (pss_one (ps_asg (pe_lc rfl sc_law.nd (pi_seq (K := K) rfl (pe_ixU (K := K) rfl (hu_of hr) (pv 8) (pv 14))) (blkOk_by (own := [("one", 15)]) (N := ["script", "w", "code", "greatest", "due", "turn", "wrong", "gone", "less", "k", "paper", "told", "r", "behind", "way", "one", "member", "row"]) (sc := defScope (topS 31)) (by decide +kernel)) (fun _ _ _ _ _ => (pg_name (i := 15) sc_law.nd rfl (.inl rfl))) (fun _ _ _ _ _ => (pts_one (pt_cmpR (op_inU (K := K) rfl (hu65 hr)) (pv 15) (pv 13) (by rfl)))) (fun _ _ _ _ _ => (pv 15))) (pg_sub (pv 8) (pv 14) (set_U (hu_of hr)))))))))))
      (pss_cons (ps_set (i := 10) sc_law.nd rfl (.inl rfl) (pe_callTy (c_tuple (K := K) rfl) rfl (T.free 37 rfl) (by decide +kernel) (pa_cons (pe_lc rfl sc_law.nd (pi_seq (K := K) rfl (pv 8)) (blkOk_by (own := [("member", 16)]) (N := ["script", "w", "code", "greatest", "due", "turn", "wrong", "gone", "less", "k", "paper", "told", "r", "behind", "way", "one", "member", "row"]) (sc := defScope (topS 31)) (by decide +kernel)) (fun _ _ _ _ _ => (pg_name (i := 16) sc_law.nd rfl (.inl rfl))) (fun _ _ _ _ _ => pts_nil) (fun _ _ _ _ _ => (pe_callTy (c_tuple (K := K) rfl) rfl (T.free 37 rfl) (by decide +kernel) (pa_cons (pv 16) pa_nil)))) pa_nil)))
      (pss_cons (ps_set (i := 11) sc_law.nd rfl (.inl rfl) (pe_callD (K := K) rfl (ok_law_told T) (hr.mono (by decide)) rfl pass0 (pa_cons (pv 2) (pa_cons (pv 10) pa_nil))))
      (pss_one (ps_if (PW.pt (pw_or (pt_cmpR (op_neU (K := K) rfl hr.units) (pv 11) (pe_callD (K := K) rfl (ok_law_due T) (hr.mono (by decide)) rfl pass0 (pa_cons (pv 2) (pa_cons (pv 10) pa_nil))) (nomark _)) (pw_or1 (PW.pt (pw_and (pt_cmpR o_isN (pv 11) pe_non (nomark _)) (pw_and1 (pt_cmpR o_notN (pv 4) pe_non (nomark _)))))))) (pss_one (ps_ret pe_bl)) pss_nil))))))))
      (pss_cons (ps_set (i := 6) sc_law.nd rfl (.inl rfl) (pe_callTy (c_tuple (K := K) rfl) rfl (T.free 37 rfl) (by decide +kernel) (pa_cons (pe_lc rfl sc_law.nd (pi_seq (K := K) rfl (pe_ixU (K := K) rfl (hu_of hr) (pv 2) pe_int)) (blkOk_by (own := [("row", 17)]) (N := ["script", "w", "code", "greatest", "due", "turn", "wrong", "gone", "less", "k", "paper", "told", "r", "behind", "way", "one", "member", "row"]) (sc := defScope (topS 31)) (by decide +kernel)) (fun _ _ _ _ _ => (pg_name (i := 17) sc_law.nd rfl (.inl rfl))) (fun _ _ _ _ _ => pts_nil) (fun _ _ _ _ _ => (pe_tupRg rfl rfl (T.free 37 rfl) (prg_1 rfl (T.free 34 rfl) pe_int)))) pa_nil)))
      (pss_cons (ps_if (PW.pt (pw_and (pt_cmpR (op_neU (K := K) rfl hr.units) (pv 6) (pv 3) (nomark _)) (pw_and1 (pt_cmpR (op_neU (K := K) rfl hr.units) (pe_callD (K := K) rfl (ok_law_told T) (hr.mono (by decide)) rfl pass0 (pa_cons (pv 2) (pa_cons (pv 6) pa_nil))) (pe_tup (pa_cons (pe_un un_neg pe_int) (pa_cons pe_str pa_nil))) (nomark _))))) (pss_one (ps_ret pe_bl)) pss_nil)
      (pss_one (ps_ret (pe_and (pe_cmpR (op_eqU (K := K) rfl hr.units) (pe_callD (K := K) rfl (ok_law_told T) (hr.mono (by decide)) rfl pass0 (pa_cons (pv 2) (pa_cons (pe_slice (sl_U (K := K) rfl) (pv 3) (po_some pe_int) po_none) pa_nil))) (pe_tup (pa_cons (pe_un un_neg pe_int) (pa_cons pe_str pa_nil))) (nomark _)) (pe_one (pe_cmpR (op_eqU (K := K) rfl hr.units) (pe_callD (K := K) rfl (ok_law_told T) (hr.mono (by decide)) rfl pass0 (pa_cons (pv 2) (pa_cons pe_non pa_nil))) (pe_tup (pa_cons (pe_un un_neg pe_int) (pa_cons pe_str pa_nil))) (nomark _)))))))))))))), ?_⟩)
  obtain ⟨a, ns, rfl, hS, hlen, hQ⟩ := h
  walk_at "go"
  intro d hd
  have sd := Same.new (o := .dK []) hd
  walk_at "go"
  refine ⟨a, ns, 420, rfl, sd.seq hS, hlen, by decide, by decide, fun H1 p row s1 hp hr ok => ?_⟩
  have hd1 : H1 d = some (.dK []) := s1 _ _ upd_same
  walk_at "go"
  refine ⟨hd1, [(.inr "draws", .ref p), (.inr "at", .int 0)], rfl, by show 2 ≤ 15; decide, ?_⟩
  have D2 := DrL.madeW hd1 hr ok
  generalize upd H1 d (HO.dK (mergeK [] [(.inr "draws", .ref p), (.inr "at", .int 0)])) = H2 at D2
  walk_at "go"
  refine ⟨d, [], rfl, D2, fun H3 code rgs rows k3 D3 ic cd => ?_⟩
  have jo := cd.j
  have n2 := cd.l
  have n17 := cd.u
  have lr := cd.r.u
  have lo := cd.r.lo
  walk_at "go"
  refine ⟨code, rgs, rows, rfl, ic, jo, lo, by omega, by omega, by omega, fun H4 gv P gr s4 ig => ?_⟩
  have D4 := D3.same s4
  have ic4 := ic.same s4
  walk_at "go"
  refine ⟨code, gv, rgs, rows, P, rfl, ic4, jo, lo, by omega, ig, fun H5 dv s5 idv => ?_⟩
  have D5 := D4.same s5
  have ic5 := ic4.same s5
  have ig5 := ig.same s5
  walk_at "go"
  have wdP : Wd 50000 4 (papD P rows.length) := papD_wd (by omega)
  refine ⟨code, gv, rgs, rows, _, rfl, ic5, jo, ig5.dk, wdP, fun H6 tv o6 ju s6 itv => ?_⟩
  obtain rfl := JudR.of jo gr.1 ju
  rw [told_due] at itv
  have idv6 := idv.same s6
  have hdue : ∃ due, due = dueD rgs rows P rows.length := ⟨_, rfl⟩
  obtain ⟨due, hdue⟩ := hdue
  have wdu : Wd 50 2 (dueV due) := hdue ▸ due_wd
  rw [← hdue] at itv idv6
  walk_at "go"
  refine m_ne itv idv6 (wdu.lay.shaped (by decide)) (wdu.lay.shaped (by decide)) ?_
  rw [wdu.lay.refl]
  have D6 := D5.same s6
  have ic6 := ic5.same s6
  have ig6 := ig5.same s6
  walk_at "go"
  refine ⟨code, rgs, rows, rfl, ic6, jo, fun H7 P' s7 gr' => ?_⟩
  rw [due_ext jo (gr'.uniq gr) (Nat.le_refl _), ← hdue]
  have D7 := D6.same s7
  have ic7 := ic6.same s7
  have ig7 := ig6.same s7
  have idv7 := idv6.same s7
  walk_at "go"
  refine m_isN (neg := false) idv7 ?_
  walk_at "go"
  rw [if_neg Bool.false_ne_true, decide_eq_true rfl]
  walk_at "go"
  refine f_range (fun t σ H' => ∃ (o5 o7 o8 o9 o10 o11 o12 o13 o14 : Option V), σ = [some (.ref a), some (.ref d), some code, some gv, some dv, o5, none, o7, o8, o9, o10, o11, o12, o13, o14, none, none, none] ∧ DrL H' d [] ∧ Im H' code (codeD rgs rows) ∧ Im H' gv (papD P rows.length) ∧ Im H' dv (dueV due))
    ⟨_, _, _, _, _, _, _, _, _, rfl, D7, ic7, ig7, idv7⟩ ?_ ?_
  · rintro t σ H8 ht ⟨o5, o7, o8, o9, o10, o11, o12, o13, o14, rfl, D8, ic8, ig8, idv8⟩
    walk_at "go"
    refine l_drawF D8 (by decide) (fun _ => rfl) (fun j H9 QB L9 hj k9 D9 hR => ?_) (fun j H9 R hR => ?_) (fun GG H9 l hGG k9 D9 la lb => ?_)
    · walk_at "go"
      refine use_nx D9 (by decide) (fun H10 v10 k10 D10 h100 h101 => ?_)
      walk_at "go"
      exact hR _ _ k10 D10
    · walk_at "go"
      exact hR
    have hG9 := D9.get 0 rfl
    have ic9 := D8.im k9 ic8
    have ig9 := D8.im k9 ig8
    have idv9 := D8.im k9 idv8
    have D9 : DrL H9 d [] := D9.sub (by simp)
    walk_at "go"
    obtain ⟨ga, xs, rfl, hga, hxs⟩ := ig9.tup_inv
    have hxl := hxs.length
    rw [List.length_map, List.length_range] at hxl
    refine g_seqT (SqT.of hga) ?_
    have fm : ∀ r, (mL (P r)).filter (fun m => !l.contains m) = mL fun x => P r x && !l.contains x := fun r => by
      unfold mL
      rw [List.filter_filter]
      exact List.filter_congr fun x _ => Bool.and_comm _ _
    generalize hP0 : (fun (r : Nat) (x : Nat) => P r x && !l.contains x : Nat → Mb) = P0
    have fm : ∀ r, (mL (P r)).filter (fun m => !l.contains m) = mL (P0 r) := fun r => by rw [← hP0]; exact fm r
    have P0le : ∀ r x, P0 r x = true → P r x = true := fun r x h => by
      rw [← hP0] at h
      exact (Bool.and_eq_true_iff.mp h).1
    refine l_tup (xs := xs) (fun D i H' => ∃ as : List Addr, H' D = some (.lst (as.map V.ref)) ∧ as.length = i ∧ (∀ r b, as[r]? = some b → H' b = some (.lst (nV (mL (P0 r))))) ∧ (∀ b ∈ as, b ≠ D) ∧ Same H9 H') (fun D hD => ⟨[], upd_same, rfl, by simp, by simp, Same.new hD⟩) ?_ ?_ ?_
    · rintro D hD i H' hi ⟨as, h1, h2, h3, h4, sm⟩
      exact SqT.of (sm _ _ hga)
    · rintro D hD i y H' hi ⟨as, h1, h2, h3, h4, sm⟩
      have hil := (List.getElem?_eq_some_iff.mp hi).1
      obtain ⟨y', hy', iy⟩ := hxs.get (pap_at (P := P) (show i < rows.length by omega))
      rw [hi] at hy'
      cases hy'
      obtain ⟨ay, xy, rfl, hay, iay⟩ := (iy.same sm).tup_inv
      obtain rfl := ims_nV_inv iay
      refine g_name (g_wipe rfl (g_yes (g_ifT ?_)))
      walk_at "go"
      refine g_seqT (SqT.of hay) ?_
      have hG' := sm _ _ hG9
      refine l_filtT (f := fun m => !l.contains m) (.inl hay) (Nat.le_trans mL_len (by decide)) (fun _ => rfl) (fun z m G1 QB1 hm t1 hR1 => ?_) (fun m G1 R1 hR1 => ?_) (fun DD1 G1 hDD1 t1 hD1 => ?_)
      · walk_at "go"
        refine k_niN (.inr (SqL.of (t1 _ _ hG'))) ?_
        walk_at "go"
        exact hR1 _ (Same.refl _)
      · walk_at "go"
        exact hR1
      rw [fm] at hD1
      have nq : DD1 ≠ D := fun e => by
        rw [e, h1] at hDD1
        cases hDD1
      refine ⟨as.map V.ref, t1 _ _ h1, szl (by rw [List.length_map]; omega), as ++ [DD1], by rw [upd_same, List.map_append]; rfl, by rw [List.length_append, h2]; rfl, fun r b hb => ?_, fun b hb => ?_, Same.mut (sm.trans t1) hD⟩
      · rcases Nat.lt_or_ge r as.length with c | c
        · rw [List.getElem?_append_left c] at hb
          rw [upd_ne (h4 b (List.mem_of_getElem? hb))]
          exact t1 _ _ (h3 r b hb)
        · rw [List.getElem?_append_right c] at hb
          have c2 : r - as.length = 0 := by
            have := (List.getElem?_eq_some_iff.mp hb).1
            rw [List.length_singleton] at this
            omega
          rw [c2] at hb
          cases hb
          have : r = i := by omega
          subst this
          rw [upd_ne nq]
          exact hD1
      · rcases List.mem_append.mp hb with hb | hb
        · exact h4 b hb
        · rw [List.mem_singleton.mp hb]
          exact nq
    rintro D hD H10 ⟨as0, h1, h2, h3, h4, s10⟩
    have PL1 : PapL H10 D P0 rows.length as0 := ⟨h1, by omega, h3⟩
    clear h1 h2 h3 h4
    have n0 : 0 < rows.length := by omega
    have lr1 : rgs.length ≤ 1000 := by omega
    walk_at "go"
    refine f_range (fun t σ H2 => ∃ (o5 o9 o12 o13 o14 : Option V) (as : List Addr), σ = [some (.ref a), some (.ref d), some code, some (.ref ga), some dv, o5, none, some (.ref GG), some (.ref D), o9, o10, o11, o12, o13, o14, none, none, none] ∧ Same H9 H2 ∧ PapL H2 D (itA rgs rows t P0) rows.length as)
      ⟨_, _, _, _, _, as0, rfl, s10, PL1⟩ ?_ ?_
    · rintro t2 σ H2 ht2 ⟨o5, o9, o12, o13, o14, as, rfl, s2, PL⟩
      walk_at "go"
      refine g_lenL (SqL.of PL.a) ?_
      rw [List.length_map, PL.l]
      walk_at "go"
      rw [Int.toNat_natCast]
      refine f_range (fun i σ H3 => ∃ (o5 o9 o12 o13 o14 : Option V) (as : List Addr), σ = [some (.ref a), some (.ref d), some code, some (.ref ga), some dv, o5, none, some (.ref GG), some (.ref D), o9, o10, o11, o12, o13, o14, none, none, none] ∧ Same H9 H3 ∧ PapL H3 D (swN rgs rows i (itA rgs rows t2 P0)) rows.length as)
        ⟨_, _, _, _, _, as, rfl, s2, PL⟩ ?_ ?_
      · rintro i σ H3 hi ⟨o5, o9, o12, o13, o14, as3, rfl, s3, PL3⟩
        have e0 : (0 : Int) + (i : Int) = (i : Int) := by omega
        rw [e0]
        have hr : rows[i]? = some (rows[i]'hi) := List.getElem?_eq_getElem _
        generalize rows[i]'hi = row at hr
        have ro := jo.r i row hr
        have esw : swN rgs rows (i + 1) (itA rgs rows t2 P0) = (waysR i row).foldl (cutW (bhd rgs row (swN rgs rows i (itA rgs rows t2 P0) i))) (swN rgs rows i (itA rgs rows t2 P0)) := by
          rw [swN_succ]
          unfold swR
          rw [hr]
        rw [esw]
        generalize swN rgs rows i (itA rgs rows t2 P0) = Pi at PL3
        obtain ⟨b, hb, hbm⟩ := PL3.at_ hi
        walk_at "go"
        refine g_ixL (SqL.of PL3.a) (n := i) rfl (by rw [List.getElem?_map, hb]; rfl) ?_
        walk_at "go"
        refine ⟨code, b, i, rows.length, rgs, rows, row, Pi i, rfl, ic9.same s3, lo, lr1, hr, ro, .inr hbm, fun H4 B s4 hB0 hB => ?_⟩
        walk_at "go"
        refine ⟨code, i, rgs, rows, row, rfl, ic9.same (s3.trans s4), hr, fun H5 W s5 hW0 hW => ?_⟩
        have hB5 := s5 _ _ hB
        have PL5 := PL3.same (s4.trans s5)
        have s35 := (s3.trans s4).trans s5
        generalize hBh : bhd rgs row (Pi i) = Bh at hB5
        refine g_seqL (SqL.of hW) ?_
        refine f_list (xs := nV (waysR i row)) (fun j σ H6 => ∃ (o14 : Option V) (as : List Addr), σ = [some (.ref a), some (.ref d), some code, some (.ref ga), some dv, o5, none, some (.ref GG), some (.ref D), o9, o10, o11, some (.int (i : Int)), some (.ref B), o14, none, none, none] ∧ Same H9 H6 ∧ PapL H6 D (((waysR i row).take j).foldl (cutW Bh) Pi) rows.length as ∧ H6 W = some (.lst (nV (waysR i row))) ∧ H6 B = some (.lst (nV (mL Bh))))
          ⟨_, as3, rfl, s35, PL5, hW, hB5⟩ ?_ ?_ ?_
        · rintro j σ H6 hj ⟨o14, as6, rfl, s6, PL6, hW6, hB6⟩
          exact SqL.of hW6
        · rintro j x σ H6 hj ⟨o14, as6, rfl, s6, PL6, hW6, hB6⟩
          obtain ⟨w', hw', rfl⟩ : ∃ w' : Nat, (waysR i row)[j]? = some w' ∧ x = .int (w' : Int) := by
            unfold nV at hj
            rw [List.getElem?_map] at hj
            obtain ⟨z, h1, h2⟩ := Option.map_eq_some_iff.mp hj
            exact ⟨z, h1, h2.symm⟩
          have hwn := waysR_lt ro (List.mem_of_getElem? hw')
          have ecut : ((waysR i row).take (j + 1)).foldl (cutW Bh) Pi = cutW Bh (((waysR i row).take j).foldl (cutW Bh) Pi) w' := by
            rw [List.take_add_one, hw', List.foldl_append]
            rfl
          rw [ecut]
          generalize ((waysR i row).take j).foldl (cutW Bh) Pi = Pj at PL6
          obtain ⟨b2, hb2, hbm2⟩ := PL6.at_ hwn
          walk_at "go"
          refine g_ixL (SqL.of PL6.a) (n := w') rfl (by rw [List.getElem?_map, hb2]; rfl) ?_
          walk_at "go"
          refine l_fmL (p := fun x => Bh x) (f := fun (n : Nat) => PyData.int (n : Int)) (ev := fun (n : Nat) => PyData.int (n : Int)) (l := mL (Pj w')) hbm2 (ims_nV _) (Nat.le_trans mL_len (by decide)) (fun _ => rfl) (fun e z H7 QB he s7 iz hR => ?_) (fun e z H7 R' he hpe s7 iz hR => ?_) (fun D8 H8 us8 s8 hD8 im8 => ?_)
          · obtain rfl := iz.int_inv
            have hB7 := s7 _ _ hB6
            walk_at "go"
            refine k_inB (.inr hB7) (mL_b e he) ?_
            walk_at "go"
            exact hR _ (Same.refl _)
          · walk_at "go"
            exact hR _ _ (Same.refl _) iz
          · have eus : us8 = nV ((mL (Pj w')).filter fun x => Bh x) := ims_nV_inv im8
            have emL : (mL (Pj w')).filter (fun x => Bh x) = mL fun x => Pj w' x && Bh x := by
              unfold mL
              rw [List.filter_filter]
              exact List.filter_congr fun x _ => Bool.and_comm _ _
            rw [eus, emL] at hD8
            have PL8 := PL6.same s8
            have hW8 := s8 _ _ hW6
            have hB8 := s8 _ _ hB6
            walk_at "go"
            refine g_setA PL8.a (by rw [List.length_map, PL8.l]; exact hwn) ?_
            rw [← List.map_set]
            refine ⟨_, as6.set w' D8, rfl, Same.mut (s6.trans s8) hD, PL8.put n0 hwn hD8, ?_, ?_⟩
            · rw [upd_ne (PL8.ne n0 hW8)]
              exact hW8
            · rw [upd_ne (PL8.ne n0 hB8)]
              exact hB8
        · rintro σ H6 ⟨o14, as6, rfl, s6, PL6, hW6, hB6⟩
          rw [nV_len, List.take_length] at PL6
          exact ⟨_, _, _, _, _, as6, rfl, s6, PL6⟩
      · rintro σ H3 ⟨o5, o9, o12, o13, o14, as3, rfl, s3, PL3⟩
        exact ⟨_, _, _, _, _, as3, rfl, s3, PL3⟩
    · rintro σ H2 ⟨o5, o9, o12, o13, o14, as, rfl, s2, PL⟩
      have hold : Hold rgs rows (itA rgs rows 300 P0) := itA_hold jo (by omega)
      have PL : PapL H2 D (itA rgs rows 300 P0) rows.length as := PL
      generalize hPl : itA rgs rows 300 P0 = Pl at PL hold
      have PLa := PL.a
      have PLl := PL.l
      walk_at "go"
      refine l_mapL (f := fun r => mD (Pl r)) PL.a (by rw [List.length_map]; omega) (fun _ => rfl) (fun i y H4 R hi s4 hR => ?_) (fun DD H4 us4 s4 hD4 im4 => ?_)
      · rw [List.getElem?_map] at hi
        obtain ⟨b, hb, rfl⟩ := Option.map_eq_some_iff.mp hi
        walk_at "go"
        refine m_tupleL (SqL.of (s4 _ _ (PL.m i b hb))) (ims_nV _) (fun q H5 s5 _ i5 => ?_)
        exact hR _ _ s5 i5
      rw [List.length_map, PLl] at im4
      walk_at "go"
      refine m_tupleL (SqL.of hD4) im4 (fun q H11 s11 _ i11 => ?_)
      have i11 : Im H11 (.ref q) (papD Pl rows.length) := i11
      have s911 := (s2.trans s4).trans s11
      walk_at "go"
      refine ⟨code, _, rgs, rows, _, rfl, ic9.same s911, jo, i11.dk, papD_wd (by omega), fun H12 tv2 o12' ju2 s12 itv2 => ?_⟩
      obtain rfl := JudR.of jo hold ju2
      rw [told_due] at itv2
      have s912 := s911.trans s12
      walk_at "go"
      refine ⟨code, _, rgs, rows, Pl, rfl, ic9.same s912, jo, lo, lr1, i11.same s12, fun H13 dv2 s13 idv2 => ?_⟩
      have itv2 := itv2.same s13
      have s913 := s912.trans s13
      have wdu2 : Wd 50 2 (dueV (dueD rgs rows Pl rows.length)) := due_wd
      walk_at "go"
      refine m_ne itv2 idv2 (wdu2.lay.shaped (by decide)) (wdu2.lay.shaped (by decide)) ?_
      rw [wdu2.lay.refl]
      walk_at "go"
      refine m_isN (neg := false) itv2 ?_
      rw [if_neg Bool.false_ne_true]
      have fin : ∀ σ' H', (∃ (o5 o7 o8 o9 o10 o11 o12 o13 o14 : Option V), σ' = [some (.ref a), some (.ref d), some code, some (.ref ga), some dv, o5, none, o7, o8, o9, o10, o11, o12, o13, o14, none, none, none]) → Same H9 H' → ∃ (o5 o7 o8 o9 o10 o11 o12 o13 o14 : Option V), σ' = [some (.ref a), some (.ref d), some code, some (.ref ga), some dv, o5, none, o7, o8, o9, o10, o11, o12, o13, o14, none, none, none] ∧ DrL H' d [] ∧ Im H' code (codeD rgs rows) ∧ Im H' (.ref ga) (papD P rows.length) ∧ Im H' dv (dueV due) := by
        rintro σ' H' ⟨o5, o7, o8, o9, o10, o11, o12, o13, o14, rfl⟩ s
        exact ⟨_, _, _, _, _, _, _, _, _, rfl, D9.same s, ic9.same s, ig9.same s, idv9.same s⟩
      cases hdl : (dueD rgs rows Pl rows.length).isNone with
      | false =>
        walk_at "go"
        exact fin _ _ ⟨_, _, _, _, _, _, _, _, _, rfl⟩ s913
      | true =>
        have hdn : due = none := by
          rw [hdue]
          refine due_mono jo (fun r x hr hx h => ?_) (Option.isNone_iff_eq_none.mp hdl)
          exact P0le r x (itA_le 300 r x hr hx (by rw [hPl]; exact h))
        walk_at "go"
        refine m_isN (neg := true) (idv9.same s913) ?_
        have edn : (!due.isNone) = false := by rw [hdn]; rfl
        rw [if_pos rfl, edn]
        walk_at "go"
        exact fin _ _ ⟨_, _, _, _, _, _, _, _, _, rfl⟩ s913
  · rintro σ H8 ⟨o5, o7, o8, o9, o10, o11, o12, o13, o14, rfl, D8, ic8, ig8, idv8⟩
    walk_at "go"
    refine m_ix ic8 (n := 1) rfl rfl (fun v1 hv1 => ?_)
    refine m_seq hv1 (fun ra xs e hra hxs => ?_)
    subst e
    have hxl := hxs.length
    rw [List.length_map] at hxl
    refine l_fmT (p := fun _ => true) (f := fun (_ : Row) => mD fun _ => true) (ev := Row.d) (l := rows) hra hxs (by omega) (fun _ => rfl) (fun r y H9 QB hg s9 iy hR => ?_) (fun r y H9 R hg hp s9 iy hR => ?_) (fun D9 H9 us s9 hD9 im9 => ?_)
    · exact g_yes (hR _ (Same.refl _))
    · refine g_tupRg (g_rg1 ?_)
      walk_at "go"
      refine ⟨L2.RgOk.of_le (by decide) (by decide) (by decide) (by decide), fun q hq => ?_⟩
      have e16 : L2.rgV 0 16 = nV (mL fun _ => true) := by
        rw [mL_all]
        exact rgV_N 16
      rw [e16]
      exact hR _ _ (Same.new hq) (.tup upd_same (ims_nV _))
    have ep : PyData.tuple ((rows.filter fun _ => true).map fun (_ : Row) => mD fun _ => true) = papD (fun _ _ => true) rows.length := by
      rw [List.filter_eq_self.mpr fun _ _ => rfl]
      show _ = PyData.tuple ((List.range rows.length).map fun _ => mD fun _ => true)
      rw [List.map_const', List.map_const', List.length_range]
    walk_at "go"
    refine m_tupleL (SqL.of hD9) im9 (fun qw H10 s10 _ iw => ?_)
    rw [ep] at iw
    have s810 := s9.trans s10
    have ic10 := ic8.same s810
    have ig10 := ig8.same s810
    have wdW : Wd 50000 4 (papD (fun _ _ => true) rows.length) := papD_wd (by omega)
    have strp : PyData.strOk "paper" = true := by decide +kernel
    have wdp : Wd 50 2 (.tuple [.int (-1), .str "paper"]) := wd_t (by show 2 ≤ 50; decide) fun z hz => by
      simp only [List.mem_cons, List.not_mem_nil, or_false] at hz
      rcases hz with rfl | rfl
      · exact wd_i
      · exact wd_s strp
    walk_at "go"
    refine m_ne iw ig10 (wdW.lay.shaped (by decide)) (wdP.lay.shaped (by decide)) ?_
    have rest : ∀ H', Same H10 H' → True := fun _ _ => trivial
    cases eq : PyData.eqv (papD (fun _ _ => true) rows.length) (papD P rows.length) with
    | true =>
      walk_at "go"
      have sZ : Same H10 H10 := Same.refl _
      have ic20 := ic10.same sZ
      have ig20 := ig10.same sZ
      refine m_sl ig20 (fun qs H21 s21 i21 => ?_)
      have ecd : G.cutD ((List.range rows.length).map fun r => mD (P r)) (some 1) none = ((List.range rows.length).map fun r => mD (P r)).drop 1 := cutD_from (n := 1)
      have i21 : Im H21 (.ref qs) (.tuple (((List.range rows.length).map fun r => mD (P r)).drop 1)) := ecd ▸ i21
      have dl : (((List.range rows.length).map fun r => mD (P r)).drop 1).length = rows.length - 1 := by rw [List.length_drop, List.length_map, List.length_range]
      have wd21 : Wd 50000 4 (.tuple (((List.range rows.length).map fun r => mD (P r)).drop 1)) := wd_t (by omega) fun z hz => by
        obtain ⟨r, _, rfl⟩ := List.mem_map.mp (List.mem_of_mem_drop hz)
        exact wd_mD
      have no21 : ¬ ∃ P', PyData.tuple (((List.range rows.length).map fun r => mD (P r)).drop 1) = papD P' rows.length ∧ Hold rgs rows P' := by
        rintro ⟨P', e, _⟩
        have := congrArg List.length (PyData.tuple.inj e)
        rw [dl, List.length_map, List.length_range] at this
        omega
      walk_at "go"
      refine ⟨code, _, rgs, rows, _, rfl, ic20.same s21, jo, i21.dk, wd21, fun H22 tv22 o22 ju22 s22 itv22 => ?_⟩
      obtain rfl := jud_no no21 ju22
      have itv22 : Im H22 tv22 (.tuple [.int (-1), .str "paper"]) := itv22
      walk_at "go"
      refine m_new (.cons (.int _) (.cons (.str _) .nil)) (by simp) (fun q23 H23 s23 _ i23 => ?_)
      refine m_eq (itv22.same s23) i23 (wdp.lay.shaped (by decide)) (wdp.lay.shaped (by decide)) ?_
      rw [wdp.lay.refl]
      walk_at "go"
      have no24 : ¬ ∃ P', PyData.none = papD P' rows.length ∧ Hold rgs rows P' := by
        rintro ⟨P', e, _⟩
        cases e
      refine ⟨code, _, rgs, rows, _, rfl, ((ic20.same s21).same s22).same s23, jo, .non, wd_o, fun H24 tv24 o24 ju24 s24 itv24 => ?_⟩
      obtain rfl := jud_no no24 ju24
      have itv24 : Im H24 tv24 (.tuple [.int (-1), .str "paper"]) := itv24
      walk_at "go"
      refine m_new (.cons (.int _) (.cons (.str _) .nil)) (by simp) (fun q25 H25 s25 _ i25 => ?_)
      refine m_eq (itv24.same s25) i25 (wdp.lay.shaped (by decide)) (wdp.lay.shaped (by decide)) ?_
      rw [wdp.lay.refl]
      walk_at "go"
      exact hQ _
    | false =>
      have noH : ¬ ∃ P', papD (fun _ _ => true) rows.length = papD P' rows.length ∧ Hold rgs rows P' := by
        rintro ⟨P', e1, hP'⟩
        have hall : Hold rgs rows (fun _ _ => true) := hP'.congr jo fun r x hr hx => (papD_inj e1 r x hr hx).symm
        have : papD (fun _ _ => true) rows.length = papD P rows.length := pap_eq (rgs := rgs) fun r x hr hx => (gr.2 _ hall r x hr hx rfl).symm
        rw [this, wdP.lay.refl] at eq
        cases eq
      walk_at "go"
      refine ⟨code, _, rgs, rows, _, rfl, ic10, jo, iw.dk, wdW, fun H11 tv o11' ju11 s11 itv => ?_⟩
      obtain rfl := jud_no noH ju11
      have itv : Im H11 tv (.tuple [.int (-1), .str "paper"]) := itv
      walk_at "go"
      refine m_new (.cons (.int _) (.cons (.str _) .nil)) (by simp) (fun q12 H12 s12 _ i12 => ?_)
      refine m_ne (itv.same s12) i12 (wdp.lay.shaped (by decide)) (wdp.lay.shaped (by decide)) ?_
      rw [wdp.lay.refl]
      walk_at "go"
      have sZ : Same H10 H12 := s11.trans s12
      have ic20 := ic10.same sZ
      have ig20 := ig10.same sZ
      refine m_sl ig20 (fun qs H21 s21 i21 => ?_)
      have ecd : G.cutD ((List.range rows.length).map fun r => mD (P r)) (some 1) none = ((List.range rows.length).map fun r => mD (P r)).drop 1 := cutD_from (n := 1)
      have i21 : Im H21 (.ref qs) (.tuple (((List.range rows.length).map fun r => mD (P r)).drop 1)) := ecd ▸ i21
      have dl : (((List.range rows.length).map fun r => mD (P r)).drop 1).length = rows.length - 1 := by rw [List.length_drop, List.length_map, List.length_range]
      have wd21 : Wd 50000 4 (.tuple (((List.range rows.length).map fun r => mD (P r)).drop 1)) := wd_t (by omega) fun z hz => by
        obtain ⟨r, _, rfl⟩ := List.mem_map.mp (List.mem_of_mem_drop hz)
        exact wd_mD
      have no21 : ¬ ∃ P', PyData.tuple (((List.range rows.length).map fun r => mD (P r)).drop 1) = papD P' rows.length ∧ Hold rgs rows P' := by
        rintro ⟨P', e, _⟩
        have := congrArg List.length (PyData.tuple.inj e)
        rw [dl, List.length_map, List.length_range] at this
        omega
      walk_at "go"
      refine ⟨code, _, rgs, rows, _, rfl, ic20.same s21, jo, i21.dk, wd21, fun H22 tv22 o22 ju22 s22 itv22 => ?_⟩
      obtain rfl := jud_no no21 ju22
      have itv22 : Im H22 tv22 (.tuple [.int (-1), .str "paper"]) := itv22
      walk_at "go"
      refine m_new (.cons (.int _) (.cons (.str _) .nil)) (by simp) (fun q23 H23 s23 _ i23 => ?_)
      refine m_eq (itv22.same s23) i23 (wdp.lay.shaped (by decide)) (wdp.lay.shaped (by decide)) ?_
      rw [wdp.lay.refl]
      walk_at "go"
      have no24 : ¬ ∃ P', PyData.none = papD P' rows.length ∧ Hold rgs rows P' := by
        rintro ⟨P', e, _⟩
        cases e
      refine ⟨code, _, rgs, rows, _, rfl, ((ic20.same s21).same s22).same s23, jo, .non, wd_o, fun H24 tv24 o24 ju24 s24 itv24 => ?_⟩
      obtain rfl := jud_no no24 ju24
      have itv24 : Im H24 tv24 (.tuple [.int (-1), .str "paper"]) := itv24
      walk_at "go"
      refine m_new (.cons (.int _) (.cons (.str _) .nil)) (by simp) (fun q25 H25 s25 _ i25 => ?_)
      refine m_eq (itv24.same s25) i25 (wdp.lay.shaped (by decide)) (wdp.lay.shaped (by decide)) ?_
      rw [wdp.lay.refl]
      walk_at "go"
      exact hQ _


theorem facts {P : Program} {w : World} {K : PySem.W.Frag} {h : Heap} {mg : Str → Option Value} {f : Addr} (X : K.In h) (G : h.Ns mainGlobals mg) (hfa : mg ("law" : Str) = some (.ref f)) (c : SaysY fa fn (tabs cs) (fun K => exB cs K && xcs.all (excB K)) w K) :
    ∃ fd : FuncData, (∀ (s : Shared) (v : Value), BindsTo s fd ⟨[v], []⟩ [("script", v)]) ∧ ∀ base : Heap, K.In base → base.Ns mainGlobals mg → FnG P w K mg base CX0 6 f fd ["script"] (sp_law K) :=
  law_factsG (d := dOf "law" 31) X G hfa c.t.d (XOk.ofY c) 23 23 rfl rfl rfl rfl rfl (fun _ _ _ _ _ _ us hl => match us, hl with | [_], _ => rfl) fun _ T => ok_law T
end K65
open PySem PySem.W PySem.Calls PyProof.Rows
theorem PySem.Challenge.cw_sameclock_k65_what_the_judge_refuses_holds : PySem.Challenge.rw_sameclock_k65_what_the_judge_refuses.Holds := by
  w_on; o_law
  refine HandSHeadRun.head_any (r := OpenLaw.row PySem.Challenge.rw_sameclock_k65_what_the_judge_refuses) (q := view (OpenLaw.row PySem.Challenge.rw_sameclock_k65_what_the_judge_refuses).prog [31]) (H := K65.hk) (ob := K65.ob) (M := 3000) (loose := ["ClockError", "Refused", "REGISTERS", "ALL", "region_of", "public_behind", "ways", "is_member", "holds", "greatest_paper", "span_word", "refusal", "judge", "taken", "_law_draws", "_law_next", "_law_regions", "_law_span", "_law_row", "_law_code", "_law_region", "_law_behind", "_law_ways", "_law_greatest", "_law_word", "_law_due", "_law_told"]) (d := HandSHeadRun.topDef (OpenLaw.row PySem.Challenge.rw_sameclock_k65_what_the_judge_refuses).prog 31) (kwd := []) K65.ob_eq
    (by kernel_rfl) (fun s => by kernel_rfl) K65.run (by kernel_rfl) (by kernel_rfl) (by kernel_rfl) (by rfl) (by first | assumption | decide +kernel) (by decide +kernel) ⟨rfl, rfl, rfl, rfl, rfl, by decide +kernel⟩ ?hw ?hc
  case hw => w_witness2
  case hc =>
    refine K65.walkG (l := PySem.Challenge.rw_sameclock_k65_what_the_judge_refuses) (n := 63) (k := 6) (x := "script") rfl (by decide) (by kernel_rfl) ⟨rfl, by decide, by decide⟩ ?F
    intro w mg fa h Y G hmg0
    obtain ⟨K, KX, c⟩ := Y
    have hmg : mg ("law" : PySem.Str) = some (.ref fa) := by
      have e : (HandSHeadRun.topDef (OpenLaw.row PySem.Challenge.rw_sameclock_k65_what_the_judge_refuses).prog 31).name = ("law" : PySem.Str) := by kernel_rfl
      rw [← e]
      exact hmg0
    obtain ⟨fd, hb, hF⟩ := K65.facts (P := (PySem.Challenge.rw_sameclock_k65_what_the_judge_refuses).prog) (w := w) KX G hmg c
    exact ⟨K, fd, K65.sp_law K, KX, hb, fun H a ns hl _ hS => ⟨a, ns, rfl, hS, hl, fun _ => rfl⟩, hF⟩
#print axioms PySem.Challenge.cw_sameclock_k65_what_the_judge_refuses_holds

