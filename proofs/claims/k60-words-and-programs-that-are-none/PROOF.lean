import PyProof.Rows.All
import Wide.All
import OpenK.AllK
import Wide.FinOn
import HandS.ForMost
import HandS.Wide
import HandS.WideMore
import HandS.IsInst
import HandS.Defaults
import HandS.Flow
import HandS.TupAny
import HandS.Conv
import HandS.Exc
import HandS.TupMul
import HandS.Zip
import HandS.SetFor
import HandS.Strs
import HandS.Dict
import HandS.TupSets
import HandS.Style
import HandS.Head0
import HandS.Head1
import HandS.Head2
import HandS.HeadEnd
import HandS.HeadHook1
import HandS.HeadHook2
import HandS.HeadHook3
import HandS.HeadHook4
import HandS.More
import HandS.ExcOwn
import HandS.ExcInit
import HandS.ExcField
import HandS.TryOnly
import HandS.HeadNt
import HandS.SortInts
import KE.KDictSum
import PySem.Challenge.RW_sameclock_k60_words_and_programs_that_ar
set_option Elab.async false
set_option linter.all false
set_option maxRecDepth 100000
set_option maxHeartbeats 4000000
/-! Own base: a heap told by a list of its objects, frames of calls, joins of ways, whiles by a measure, calls by one structure. -/
namespace G
open PySem PySem.Spec PyProof.Rows L2

/-- the objects one speaks of, each once -/
structure Has (H : Hp) (L : List (Addr × HO)) : Prop where
  nd : (L.map (·.1)).Nodup
  is_ : ∀ p ∈ L, H p.1 = some p.2

section
variable {H H' : Hp} {L : List (Addr × HO)} {a p : Addr} {o o' : HO}
theorem Has.nil : Has H [] := ⟨List.nodup_nil, fun _ h => nomatch h⟩
theorem Has.get (M : Has H L) (i : Nat) (h : L[i]? = some (a, o)) : H a = some o := M.is_ _ (List.mem_of_getElem? h)
theorem Has.one (h : H a = some o) : Has H [(a, o)] := ⟨by simp, fun p hp => by
  rw [List.mem_singleton.mp hp]
  exact h⟩
theorem keep_new (h : H a = some o) (hp : H p = none) : upd H p o' a = some o := by
  rw [upd_ne (ne_of_none h hp)]
  exact h
theorem Has.fresh (M : Has H L) (hp : H p = none) : p ∉ L.map (·.1) := fun h => by
  obtain ⟨q, hq, e⟩ := List.mem_map.mp h
  have := M.is_ q hq
  rw [e, hp] at this
  cases this
theorem Has.new (M : Has H L) (hp : H p = none) : Has (upd H p o) (L ++ [(p, o)]) where
  nd := by
    rw [List.map_append, List.nodup_append]
    refine ⟨M.nd, by simp, fun x hx y hy e => ?_⟩
    simp only [List.map_cons, List.map_nil, List.mem_singleton] at hy
    subst hy
    subst e
    exact M.fresh hp hx
  is_ := fun q hq => by
    rcases List.mem_append.mp hq with h | h
    · exact keep_new (M.is_ q h) hp
    · rw [List.mem_singleton.mp h]
      exact upd_same
theorem nodup_fst {L : List (Addr × HO)} (nd : (L.map (·.1)).Nodup) {i j : Nat} {a : Addr} {x y : HO} (hi : L[i]? = some (a, x)) (hj : L[j]? = some (a, y)) : i = j := by
  have h1 : (L.map (·.1))[i]? = some a := by rw [List.getElem?_map, hi]; rfl
  have h2 : (L.map (·.1))[j]? = some a := by rw [List.getElem?_map, hj]; rfl
  exact nd_ix nd h1 h2
theorem map_fst_set : ∀ {L : List (Addr × HO)} {i : Nat} {o o' : HO} {a : Addr}, L[i]? = some (a, o) → (L.set i (a, o')).map (·.1) = L.map (·.1)
  | [], _, _, _, _, h => by simp at h
  | p :: L, 0, _, _, _, h => by
    simp only [List.getElem?_cons_zero, Option.some.injEq] at h
    subst h
    rfl
  | p :: L, i + 1, o, o', a, h => by
    simp only [List.getElem?_cons_succ] at h
    simp only [List.set_cons_succ, List.map_cons, List.cons.injEq, true_and]
    exact map_fst_set h
/-- the object at place i is another one in H', the others stand -/
theorem Has.put (M : Has H L) (i : Nat) (h : L[i]? = some (a, o)) (k : ∀ b u, H b = some u → b ≠ a → H' b = some u) (e : H' a = some o') : Has H' (L.set i (a, o')) where
  nd := by
    rw [map_fst_set h]
    exact M.nd
  is_ := fun q hq => by
    obtain ⟨j, hj, e2⟩ := List.mem_iff_getElem.mp hq
    have hj' : (L.set i (a, o'))[j]? = some q := by rw [List.getElem?_eq_getElem hj, e2]
    rw [List.getElem?_set] at hj'
    split at hj'
    · split at hj'
      · cases hj'
        exact e
      · cases hj'
    · rename_i hij
      have hm := M.is_ q (List.mem_of_getElem? hj')
      refine k _ _ hm fun ea => hij ?_
      obtain ⟨b, u⟩ := q
      subst ea
      exact nodup_fst M.nd h hj'
theorem Has.set (M : Has H L) (i : Nat) (h : L[i]? = some (a, o)) : Has (upd H a o') (L.set i (a, o')) :=
  M.put i h (fun b u e n => by rw [upd_ne n]; exact e) upd_same
theorem Has.keep (M : Has H L) (k : Same H H') : Has H' L := ⟨M.nd, fun p hp => k _ _ (M.is_ p hp)⟩
theorem Has.sub (M : Has H L) {L' : List (Addr × HO)} (h : L'.Sublist L) : Has H L' := ⟨M.nd.sublist (h.map _), fun p hp => M.is_ p (h.subset hp)⟩
theorem Has.perm (M : Has H L) {L' : List (Addr × HO)} (h : L.Perm L') : Has H L' := ⟨(h.map _).nodup_iff.mp M.nd, fun p hp => M.is_ p (h.mem_iff.mpr hp)⟩
theorem Has.ne (M : Has H L) {b : Addr} {u : HO} (i j : Nat) (hi : L[i]? = some (a, o)) (hj : L[j]? = some (b, u)) (hij : i ≠ j) : a ≠ b := fun e => by
  subst e
  exact hij (nodup_fst M.nd hi hj)
end

/-- all that was tracked stands, but what stands at ms -/
def Keep (ms : List Addr) (H H' : Hp) : Prop := ∀ b o, H b = some o → b ∉ ms → H' b = some o
section
variable {ms : List Addr} {H H1 H2 : Hp} {L : List (Addr × HO)} {a p : Addr} {o o' : HO}
theorem Keep.refl : Keep ms H H := fun _ _ h _ => h
theorem Keep.trans (x : Keep ms H H1) (y : Keep ms H1 H2) : Keep ms H H2 := fun b o h n => y b o (x b o h n) n
theorem Keep.of (x : Same H H1) : Keep ms H H1 := fun b o h _ => x b o h
theorem Keep.same (x : Keep [] H H1) : Same H H1 := fun b o h => x b o h (nomatch ·)
theorem Keep.mono {ns : List Addr} (x : Keep ms H H1) (h : ∀ b ∈ ms, b ∈ ns) : Keep ns H H1 := fun b o e n => x b o e fun z => n (h b z)
theorem Same.new (hp : H p = none) : Same H (upd H p o) := fun b u h => keep_new h hp
theorem Keep.new (hp : H p = none) : Keep ms H (upd H p o) := .of (Same.new hp)
theorem Keep.set (h : a ∈ ms) : Keep ms H (upd H a o) := fun b u e n => by
  rw [upd_ne fun z => n (by rw [z]; exact h)]
  exact e
/-- an object that H does not know is changed -/
theorem Keep.mut (x : Keep ms H H1) (h : H a = none) : Keep ms H (upd H1 a o) := fun b u e n => by
  rw [upd_ne (ne_of_none e h)]
  exact x b u e n
theorem Has.call1 (M : Has H L) (k : Keep [a] H H1) (i : Nat) (h : L[i]? = some (a, o)) (e : H1 a = some o') : Has H1 (L.set i (a, o')) :=
  M.put i h (fun b u q n => k b u q (by simpa using n)) e
theorem Same.back (k : Same H H1) (h : H1 p = none) : H p = none := k.free h
theorem Keep.back (k : Keep ms H H1) (h : H1 p = none) (hm : p ∉ ms) : H p = none := by
  cases e : H p with
  | none => rfl
  | some o =>
    rw [k p o e hm] at h
    cases h
end

/-! ### joins, whiles -/
section
variable {X : Cx} {st : Stmt} {sts : List Stmt} {t : TS}
/-- behind a statement N holds, from which one goes on -/
def tJoin (t : TS) : TS := fun D σ H => ∃ N : L2.St → Hp → Prop, t { D with nx := N } σ H ∧ ∀ σ' H', N σ' H' → D.nx σ' H'
theorem SP.nx {pins : List (Addr × Obj)} {D : Ends} {N : L2.St → Hp → Prop} (h : ∀ σ' H', N σ' H' → D.nx σ' H') {f : PySem.Flow} {s' : Shared} (z : SP X pins { D with nx := N } f s') : SP X pins D f s' := by
  cases f with
  | next =>
    obtain ⟨σ', H', I, q⟩ := z
    exact ⟨σ', H', I, h _ _ q⟩
  | brk => exact z
  | cont => exact z
  | ret u => exact z
theorem ps_join (h : PS X st t) : PS X st (tJoin t) := ⟨fun pins s σ H D I ⟨N, h1, h2⟩ => thn (h.run pins s σ H _ I h1) fun _ _ z => SP.nx h2 z⟩
theorem pss_join (h : PSs X sts t) : PSs X sts (tJoin t) := ⟨fun pins s σ H D I ⟨N, h1, h2⟩ => thn (h.run pins s σ H _ I h1) fun _ _ z => SP.nx h2 z⟩
end

/-! ### the text's facts, defs by name -/
structure Txt (fa : List He.Fa) (fn : List He.DefD) (K : PySem.W.Frag) (mg : Str → Option Value) (ex : Prop := True) : Prop where
  c : He.SaysD fa fn K
  h : ∃ h : Heap, K.In h ∧ h.Ns mainGlobals mg
  m : ex
/-- a def that calls may name -/
structure Dn (P : Program) (w : World) (K : PySem.W.Frag) (mg : Str → Option Value) (base : Heap) (CX : CXT) (k : Nat) (x : Str) (ps : List Str) (sp : Sp) : Prop where
  ex : ∃ (f : Addr) (fd : FuncData), FnOk P w K mg base CX k f fd ps sp ∧ mg x = some (.ref f) ∧ PySem.W.keepIn K (.ref f) = true ∧ Binds K fd ps [] ∧ ∃ oc od osl, K.lookup f = some ⟨oc, od, .func fd, osl⟩
section
variable {fa : List He.Fa} {fn : List He.DefD} {P : Program} {w : World} {K : PySem.W.Frag} {mg : Str → Option Value} {base : Heap} {ex : Prop}
theorem Txt.glo (T : Txt fa fn K mg ex) (j : Nat) {x : Str} (h : fa[j]? = some (.glo x)) : mg x = some (.ref (He.ga K x)) := by
  obtain ⟨_, X, G⟩ := T.h
  exact He.glo_ok X G (T.c.fact j h)
theorem Txt.free (T : Txt fa fn K mg ex) (j : Nat) {x : Str} (h : fa[j]? = some (.free x)) : mg x = none := by
  obtain ⟨_, X, G⟩ := T.h
  exact He.free_ok X G (T.c.fact j h)
theorem Txt.int (T : Txt fa fn K mg ex) (j : Nat) {x : Str} {i : Int} (h : fa[j]? = some (.int x i)) : ∃ t, mg x = some (.int i t) := by
  obtain ⟨_, X, G⟩ := T.h
  exact He.int_ok X G (T.c.fact j h)
theorem Txt.def_ (T : Txt fa fn K mg ex) (i j : Nat) {d : He.DefD} (hd : fn[i]? = some d) (hg : fa[j]? = some (.glo d.at_.1)) (hm : d.at_.2 = none) (h1 : d.dfl = []) (h2 : d.kwd = []) :
    (∃ fd, FunD K d.name d.qual d.params d.body d.scope [] [] (He.ga K d.at_.1) fd) ∧ mg d.at_.1 = some (.ref (He.ga K d.at_.1)) := by
  refine ⟨?_, T.glo j hg⟩
  obtain ⟨fd, F⟩ := T.c.def_ i hd
  have e : He.fAd K d.at_ = He.ga K d.at_.1 := by
    unfold He.fAd
    rw [hm]
  have e1 : d.dvs K = [] := by
    unfold He.DefD.dvs
    rw [h1]
    rfl
  have e2 : d.kws K = [] := by
    unfold He.DefD.kws
    rw [h2]
    rfl
  rw [e, e1, e2] at F
  exact ⟨fd, F⟩
theorem Txt.str (T : Txt fa fn K mg ex) (j : Nat) {x z : Str} (h : fa[j]? = some (.str x z)) : ∃ t, mg x = some (.str z t) := by
  obtain ⟨_, X, G⟩ := T.h
  exact He.str_ok X G (T.c.fact j h)
/-- a global number, a global text -/
theorem pe_gint {X : Cx} (T : Txt fa fn K mg ex) (e : X.mg = mg) {x : Str} {i : Int} {pos : Pos} (j : Nat) (h : fa[j]? = some (.int x i)) (hg : Gl X x) (hd : (x == ("__debug__" : Str)) = false := by decide) : PE X (.Name x pos) (tC (.int i)) := by
  obtain ⟨t, ht⟩ := T.int j h
  exact pe_glob hg (by rw [e]; exact ht) ⟨t, rfl⟩ hd
theorem pe_gstr {X : Cx} (T : Txt fa fn K mg ex) (e : X.mg = mg) {x z : Str} {pos : Pos} (j : Nat) (h : fa[j]? = some (.str x z)) (hg : Gl X x) (hd : (x == ("__debug__" : Str)) = false := by decide) : PE X (.Name x pos) (tC (.str z)) := by
  obtain ⟨t, ht⟩ := T.str j h
  exact pe_glob hg (by rw [e]; exact ht) ⟨t, rfl⟩ hd
/-- a def without defaults that lets nothing out -/
theorem mk_dn (T : Txt fa fn K mg ex) (i j : Nat) {d : He.DefD} {N ps : List Str} {k : Nat} {sp : Sp} (hd : fn[i]? = some d) (hg : fa[j]? = some (.glo d.at_.1)) (hm : d.at_.2 = none) (h1 : d.dfl = []) (h2 : d.kwd = [])
    (S : FnScope N ps d.scope) (len : ∀ vs H Q E, sp vs H Q E → vs.length = ps.length)
    (hb : ∀ (kV doc pm : Value) (an : Option Addr) (cdv ct : Value) (us : List Value), us.length = ps.length → bindArgs (PySem.W.fnOf d.name d.qual d.params d.body d.scope .none kV doc pm an cdv ct) ⟨us, []⟩ = pure (ps.zip us))
    (hbody : ∀ (cdv : Value) (A : Around) (outer : List Env) (s : Shared) (H : Hp) (vs : List V) (Q : VK) (E : XK), Room k (A.deeper (envOfC d.qual d.scope s.heap.objs.size (He.ga K d.at_.1) cdv)) → sp vs H Q E →
      ∃ t, PSs (cxOf CX0 P w K mg base N d.qual d.scope (He.ga K d.at_.1) cdv A outer s H E).nox d.body t ∧ t { nx := fun _ H' => Q .non H', rt := Q } (start N vs) H) : Dn P w K mg base CX0 (k + 1) d.at_.1 ps sp := by
  obtain ⟨⟨fd, F⟩, g⟩ := T.def_ i j hd hg hm h1 h2
  refine ⟨_, fd, F.ok S len fun cdv A outer s H vs Q E hr h => ?_, g, F.kp, F.bindsN hb, by
    obtain ⟨oc, od, dV, kV, doc, pm, an, cdv, ct, osl, e, lk, _⟩ := F.ex
    exact ⟨_, _, _, lk⟩⟩
  obtain ⟨t, p, q⟩ := hbody cdv A outer s H vs Q E hr h
  exact ⟨t, p.nox, q⟩
theorem Dn.imp {CX : CXT} {k : Nat} {x : Str} {ps : List Str} {sp sp' : Sp} (D : Dn P w K mg base CX k x ps sp) (h : ∀ vs H Q E, sp' vs H Q E → sp vs H Q E) : Dn P w K mg base CX k x ps sp' := by
  obtain ⟨f, fd, F, a, b, c⟩ := D.ex
  exact ⟨f, fd, F.imp h, a, b, c⟩
theorem Dn.mono {CX : CXT} {j k : Nat} {x : Str} {ps : List Str} {sp : Sp} (D : Dn P w K mg base CX j x ps sp) (h : j ≤ k) : Dn P w K mg base CX k x ps sp := by
  obtain ⟨f, fd, F, a, b, c⟩ := D.ex
  exact ⟨f, fd, F.mono h, a, b, c⟩
end
section
variable {X : Cx} {CX : CXT} {k : Nat} {ps : List Str} {sp : Sp} {E : XK} {x : Str} {p pos : Pos} {e : Expr} {es : List Expr} {t : TA}
theorem pe_callD {K : PySem.W.Frag} (hK : X.K = K) (D : Dn X.prog X.w K X.mg X.base CX k x ps sp) (hr : Room k X.A) (hg : Gl X x) (hx : Passes CX X E)
    (ha : PA X (e :: es) t) (hdb : (x == ("__debug__" : Str)) = false := by decide) (he : starEach (e :: es) X.env = (false, eval e X.env) :: starEach es X.env := by rfl) (hpl : (backTo pos (starEach es X.env)).any (·.1) = false := by rfl) :
    PE X (.Call (.Name x p) (e :: es) [] pos) (tCall sp [] E t) := by
  subst hK
  obtain ⟨f, fd, F, m, kp, b, _⟩ := D.ex
  exact pe_call F hr hg m kp b .nil hx ha hdb he hpl
theorem pe_callD0 {K : PySem.W.Frag} (hK : X.K = K) (D : Dn X.prog X.w K X.mg X.base CX k x ps sp) (hr : Room k X.A) (hg : Gl X x) (hx : Passes CX X E)
    (hdb : (x == ("__debug__" : Str)) = false := by decide) :
    PE X (.Call (.Name x p) [] [] pos) (tCall sp [] E tNil) := by
  subst hK
  obtain ⟨f, fd, F, m, kp, b, _⟩ := D.ex
  exact pe_call0 F hr hg m kp b .nil hx hdb
end

/-! ### the law's own end -/
theorem law_facts {ex : Prop} {fa : List He.Fa} {fn : List He.DefD} {P : Program} {w : World} {K : PySem.W.Frag} {h : Heap} {mg : Str → Option Value} {f : Addr} {d : He.DefD} {k : Nat} {sp : Sp} (X : K.In h) (G : h.Ns mainGlobals mg)
    (hfa : mg d.at_.1 = some (.ref f)) (c : He.SaysD fa fn K) (m : ex) (i j : Nat) (hd : fn[i]? = some d) (hg : fa[j]? = some (.glo d.at_.1)) (hm : d.at_.2 = none) (h1 : d.dfl = []) (h2 : d.kwd = [])
    (hb : ∀ (kV doc pm : Value) (an : Option Addr) (cdv ct : Value) (us : List Value), us.length = 1 → bindArgs (PySem.W.fnOf d.name d.qual d.params d.body d.scope .none kV doc pm an cdv ct) ⟨us, []⟩ = pure ((["script"] : List Str).zip us))
    (ok : ∀ base, Txt fa fn K mg ex → Dn P w K mg base CX0 k d.at_.1 ["script"] sp) :
    ∃ fd : FuncData, (∀ (s : Shared) (v : Value), BindsTo s fd ⟨[v], []⟩ [("script", v)]) ∧ ∀ base : Heap, K.In base → base.Ns mainGlobals mg → FnOk P w K mg base CX0 k f fd ["script"] sp := by
  have T : Txt fa fn K mg ex := ⟨c, ⟨h, X, G⟩, m⟩
  obtain ⟨⟨fd, F⟩, g⟩ := T.def_ i j hd hg hm h1 h2
  rw [hfa] at g
  cases g
  have b := FunD.bindsA (ps := ["script"]) F hb
  refine ⟨fd, fun s v => b s [v] rfl, fun base _ _ => ?_⟩
  obtain ⟨f2, fd2, F2, m, _, _, oc, od, osl, lk⟩ := (ok base T).ex
  rw [hfa] at m
  cases m
  obtain ⟨oc', od', dV, kV, doc, pm, an, cdv, ct, osl', e, lk', _⟩ := F.ex
  rw [lk] at lk'
  cases lk'
  exact F2

/-! ### classes -/
section
variable {fa : List He.Fa} {fn : List He.DefD} {P : Program} {w : World} {K : PySem.W.Frag} {mg : Str → Option Value} {base : Heap} {ex : Prop}
theorem Txt.cls (T : Txt fa fn K mg ex) (j : Nat) {x : Str} (h : fa[j]? = some (.cls x)) : Cls K (He.ga K x) := He.cls_ok (T.c.fact j h)
theorem Txt.noat (T : Txt fa fn K mg ex) (j : Nat) {x f : Str} (h : fa[j]? = some (.noat x f)) : NoAttr K (He.ga K x) f := He.noat_ok (T.c.fact j h)
theorem Txt.meth (T : Txt fa fn K mg ex) (j : Nat) {x m : Str} (h : fa[j]? = some (.meth x m)) : Meth K (He.ga K x) m (He.ma K (He.ga K x) m) := He.meth_ok (T.c.fact j h)
theorem Txt.mkr (T : Txt fa fn K mg ex) (j : Nat) {x : Str} (h : fa[j]? = some (.mkr x)) : Mk K (He.ga K x) (He.ma K (He.ga K x) "__init__") := He.mkr_ok (T.c.fact j h)
/-- a method by its class's name -/
structure Mt (P : Program) (w : World) (K : PySem.W.Frag) (mg : Str → Option Value) (base : Heap) (CX : CXT) (k : Nat) (c m : Str) (ps : List Str) (sp : Sp) : Prop where
  ex : ∃ (f : Addr) (fd : FuncData), FnOk P w K mg base CX k f fd ps sp ∧ f = He.ma K (He.ga K c) m ∧ Binds K fd ps []
theorem Txt.defm (T : Txt fa fn K mg ex) (i : Nat) {d : He.DefD} {c m : Str} (hd : fn[i]? = some d) (hm : d.at_ = (c, some m)) (h1 : d.dfl = []) (h2 : d.kwd = []) :
    ∃ fd, FunD K d.name d.qual d.params d.body d.scope [] [] (He.ma K (He.ga K c) m) fd := by
  obtain ⟨fd, F⟩ := T.c.def_ i hd
  have e : He.fAd K d.at_ = He.ma K (He.ga K c) m := by
    unfold He.fAd
    rw [hm]
  have e1 : d.dvs K = [] := by
    unfold He.DefD.dvs
    rw [h1]
    rfl
  have e2 : d.kws K = [] := by
    unfold He.DefD.kws
    rw [h2]
    rfl
  rw [e, e1, e2] at F
  exact ⟨fd, F⟩
/-- a method without defaults that lets nothing out -/
theorem mk_mt (T : Txt fa fn K mg ex) (i : Nat) {d : He.DefD} {c m : Str} {N ps : List Str} {k : Nat} {sp : Sp} (hd : fn[i]? = some d) (hm : d.at_ = (c, some m)) (h1 : d.dfl = []) (h2 : d.kwd = [])
    (S : FnScope N ps d.scope) (len : ∀ vs H Q E, sp vs H Q E → vs.length = ps.length)
    (hb : ∀ (kV doc pm : Value) (an : Option Addr) (cdv ct : Value) (us : List Value), us.length = ps.length → bindArgs (PySem.W.fnOf d.name d.qual d.params d.body d.scope .none kV doc pm an cdv ct) ⟨us, []⟩ = pure (ps.zip us))
    (hbody : ∀ (cdv : Value) (A : Around) (outer : List Env) (s : Shared) (H : Hp) (vs : List V) (Q : VK) (E : XK), Room k (A.deeper (envOfC d.qual d.scope s.heap.objs.size (He.ma K (He.ga K c) m) cdv)) → sp vs H Q E →
      ∃ t, PSs (cxOf CX0 P w K mg base N d.qual d.scope (He.ma K (He.ga K c) m) cdv A outer s H E).nox d.body t ∧ t { nx := fun _ H' => Q .non H', rt := Q } (start N vs) H) : Mt P w K mg base CX0 (k + 1) c m ps sp := by
  obtain ⟨fd, F⟩ := T.defm i hd hm h1 h2
  refine ⟨_, fd, F.ok S len fun cdv A outer s H vs Q E hr h => ?_, rfl, F.bindsN hb⟩
  obtain ⟨t, p, q⟩ := hbody cdv A outer s H vs Q E hr h
  exact ⟨t, p.nox, q⟩
theorem Mt.mono {CX : CXT} {j k : Nat} {c m : Str} {ps : List Str} {sp : Sp} (D : Mt P w K mg base CX j c m ps sp) (h : j ≤ k) : Mt P w K mg base CX k c m ps sp := by
  obtain ⟨f, fd, F, a, b⟩ := D.ex
  exact ⟨f, fd, F.mono h, a, b⟩
end
section
variable {X : Cx} {CX : CXT} {k : Nat} {ps : List Str} {sp : Sp} {E : XK} {c m : Str} {p pos apos : Pos} {e o : Expr} {es : List Expr} {ta : TE} {t : TA}
theorem pe_methD {K : PySem.W.Frag} (hK : X.K = K) {pl : Sem Bool} (D : Mt X.prog X.w K X.mg X.base CX k c m ps sp) (cl : Cls K (He.ga K c)) (hm : Meth K (He.ga K c) m (He.ma K (He.ga K c) m)) (hr : Room k X.A) (hx : Passes CX X E) (he : PE X o ta) (ha : PA X (e :: es) t)
    (hst : starEach (e :: es) X.env = (false, eval e X.env) :: starEach es X.env := by rfl) (hpl : (backTo pos (starEach es X.env)).any (·.1) = false := by rfl)
    (ht : eval (.Call (.Attribute o m apos) (e :: es) [] pos) X.env = (do let ov ← eval o X.env; standAt apos.atName; let (f, first) ← holding [ov] (getMethod ov m pl); callWith pos f first (backTo pos (starEach (e :: es) X.env)) (backToKw pos (keywordEach [] X.env))) := by rfl) :
    PE X (.Call (.Attribute o m apos) (e :: es) [] pos) (tMeth (He.ga K c) m sp [] E ta t) := by
  subst hK
  obtain ⟨f, fd, F, rfl, b⟩ := D.ex
  exact pe_meth he cl hm F hr b .nil hx ha hst hpl ht
theorem pe_methD0 {K : PySem.W.Frag} (hK : X.K = K) {pl : Sem Bool} (D : Mt X.prog X.w K X.mg X.base CX k c m ps sp) (cl : Cls K (He.ga K c)) (hm : Meth K (He.ga K c) m (He.ma K (He.ga K c) m)) (hr : Room k X.A) (hx : Passes CX X E) (he : PE X o ta)
    (ht : eval (.Call (.Attribute o m apos) [] [] pos) X.env = (do let ov ← eval o X.env; standAt apos.atName; let (f, first) ← holding [ov] (getMethod ov m pl); callWith pos f first (backTo pos (starEach [] X.env)) (backToKw pos (keywordEach [] X.env))) := by rfl) :
    PE X (.Call (.Attribute o m apos) [] [] pos) (tMeth (He.ga K c) m sp [] E ta tNil) := by
  subst hK
  obtain ⟨f, fd, F, rfl, b⟩ := D.ex
  exact pe_meth0 he cl hm F hr b .nil hx ht
theorem pe_makeD {K : PySem.W.Frag} (hK : X.K = K) (D : Mt X.prog X.w K X.mg X.base CX k c "__init__" ps sp) (M : Mk K (He.ga K c) (He.ma K (He.ga K c) "__init__")) (hr : Room (k + 1) X.A) (hg : Gl X c) (hm : X.mg c = some (.ref (He.ga K c))) (hx : Passes CX X E)
    (ha : PA X (e :: es) t) (hdb : (c == ("__debug__" : Str)) = false := by decide) (he : starEach (e :: es) X.env = (false, eval e X.env) :: starEach es X.env := by rfl) (hpl : (backTo pos (starEach es X.env)).any (·.1) = false := by rfl) :
    PE X (.Call (.Name c p) (e :: es) [] pos) (tMake (He.ga K c) sp [] E t) := by
  subst hK
  obtain ⟨f, fd, F, rfl, b⟩ := D.ex
  exact pe_make M F hr hg hm b .nil hx ha hdb he hpl
end
/-! ### fields by their places -/
section
variable {fs : List (Str × V)} {f : Str} {v y : V}
theorem lk_ix : ∀ {fs : List (Str × V)} (n : Nat), (fs.map (·.1)).Nodup → fs[n]? = some (f, v) → fs.lookup f = some v
  | [], _, _, h => by simp at h
  | p :: fs, 0, _, h => by
    simp only [List.getElem?_cons_zero, Option.some.injEq] at h
    subst h
    simp [List.lookup]
  | p :: fs, n + 1, nd, h => by
    simp only [List.getElem?_cons_succ] at h
    obtain ⟨g, x⟩ := p
    rw [List.map_cons, List.nodup_cons] at nd
    have hm : f ∈ fs.map (·.1) := List.mem_map.mpr ⟨(f, v), List.mem_of_getElem? h, rfl⟩
    have ne : (f == g) = false := beq_eq_false_iff_ne.mpr fun e => nd.1 (e ▸ hm)
    simp only [List.lookup, ne]
    exact lk_ix n nd.2 h
theorem lk_none : ∀ {fs : List (Str × V)}, f ∉ fs.map (·.1) → fs.lookup f = none
  | [], _ => rfl
  | (g, x) :: fs, h => by
    rw [List.map_cons, List.mem_cons, not_or] at h
    have ne : (f == g) = false := beq_eq_false_iff_ne.mpr h.1
    simp only [List.lookup, ne]
    exact lk_none h.2
theorem pt_ix : ∀ {fs : List (Str × V)} (n : Nat), (fs.map (·.1)).Nodup → fs[n]? = some (f, v) → putF f y fs = fs.set n (f, y)
  | [], _, _, h => by simp at h
  | p :: fs, 0, _, h => by
    simp only [List.getElem?_cons_zero, Option.some.injEq] at h
    subst h
    simp [putF]
  | p :: fs, n + 1, nd, h => by
    simp only [List.getElem?_cons_succ] at h
    obtain ⟨g, x⟩ := p
    rw [List.map_cons, List.nodup_cons] at nd
    have hm : f ∈ fs.map (·.1) := List.mem_map.mpr ⟨(f, v), List.mem_of_getElem? h, rfl⟩
    have ne : ¬ g = f := fun e => nd.1 (e ▸ hm)
    simp only [putF, if_neg ne, List.set_cons_succ]
    rw [pt_ix n nd.2 h]
theorem pt_new : ∀ {fs : List (Str × V)}, f ∉ fs.map (·.1) → putF f y fs = fs ++ [(f, y)]
  | [], _ => rfl
  | (g, x) :: fs, h => by
    rw [List.map_cons, List.mem_cons, not_or] at h
    have ne : ¬ g = f := fun e => h.1 e.symm
    simp only [putF, if_neg ne, List.cons_append]
    rw [pt_new h.2]
end

section
variable {H H' : Hp} {L : List (Addr × HO)} {a : Addr} {o : HO}
theorem Has.add (M : Has H L) (h : H a = some o) (n : a ∉ L.map (·.1)) : Has H (L ++ [(a, o)]) where
  nd := by
    rw [List.map_append, List.nodup_append]
    refine ⟨M.nd, by simp, fun x hx y hy e => ?_⟩
    rw [List.map_singleton, List.mem_singleton] at hy
    have e2 : x = a := e.trans hy
    exact n (e2 ▸ hx)
  is_ := fun q hq => by
    rcases List.mem_append.mp hq with z | z
    · exact M.is_ q z
    · rw [List.mem_singleton.mp z]
      exact h
end

theorem Keep.tup {ms : List Addr} {H H' : Hp} {t : Addr} {xs : List V} (k : Keep ms H H') (hm : ∀ m ∈ ms, ∃ o, H m = some o ∧ ∀ xs, o ≠ .tup xs) (h : H t = some (.tup xs)) : H' t = some (.tup xs) :=
  k t _ h fun z => by
    obtain ⟨o, e, n⟩ := hm t z
    rw [h] at e
    exact n xs (Option.some.inj e).symm

/-! ### parts of the heap's list, tables of lists -/
section
variable {H H' : Hp} {X Y L L' : List (Addr × HO)} {a : Addr} {o o' : HO}
theorem Has.mid (M : Has H (X ++ (L ++ Y))) : Has H L := M.sub ((List.sublist_append_left L Y).trans (List.sublist_append_right X _))
/-- a part has changed, the rest stands -/
theorem Has.frame (M : Has H (X ++ (L ++ Y))) (k : Keep (L.map (·.1)) H H') (M' : Has H' L') (e : L'.map (·.1) = L.map (·.1)) : Has H' (X ++ (L' ++ Y)) where
  nd := by
    have z := M.nd
    rw [List.map_append, List.map_append] at z ⊢
    rw [e]
    exact z
  is_ := fun q hq => by
    have z := M.nd
    rw [List.map_append, List.map_append, List.nodup_append] at z
    obtain ⟨_, z2, z3⟩ := z
    rw [List.nodup_append] at z2
    obtain ⟨_, _, z4⟩ := z2
    rcases List.mem_append.mp hq with h | h
    · refine k _ _ (M.is_ q (List.mem_append_left _ h)) fun hm => ?_
      exact z3 q.1 (List.mem_map_of_mem h) q.1 (List.mem_append_left _ hm) rfl
    · rcases List.mem_append.mp h with h | h
      · exact M'.is_ q h
      · refine k _ _ (M.is_ q (List.mem_append_right _ (List.mem_append_right _ h))) fun hm => ?_
        exact z4 q.1 hm q.1 (List.mem_map_of_mem h) rfl
/-- the lists at these addresses -/
def tab : List Addr → List (List V) → List (Addr × HO)
  | a :: as, r :: rs => (a, .lst r) :: tab as rs
  | _, _ => []
theorem tab_get : ∀ {as : List Addr} {rs : List (List V)} {i : Nat} {a : Addr} {r : List V}, as[i]? = some a → rs[i]? = some r → (tab as rs)[i]? = some (a, .lst r)
  | [], _, _, _, _, h, _ => by simp at h
  | _ :: _, [], _, _, _, _, h => by simp at h
  | a :: as, r :: rs, 0, _, _, h, h2 => by
    simp only [List.getElem?_cons_zero, Option.some.injEq] at h h2
    subst h
    subst h2
    rfl
  | a :: as, r :: rs, i + 1, _, _, h, h2 => by
    simp only [List.getElem?_cons_succ] at h h2
    exact tab_get (as := as) h h2
theorem tab_set : ∀ {as : List Addr} {rs : List (List V)} {i : Nat} {a : Addr} {r : List V}, as[i]? = some a → (tab as rs).set i (a, .lst r) = tab as (rs.set i r)
  | [], _, _, _, _, h => by simp at h
  | _ :: _, [], _, _, _, _ => rfl
  | a :: as, r :: rs, 0, _, _, h => by
    simp only [List.getElem?_cons_zero, Option.some.injEq] at h
    subst h
    rfl
  | a :: as, r :: rs, i + 1, _, _, h => by
    simp only [List.getElem?_cons_succ] at h
    show (a, HO.lst r) :: (tab as rs).set i _ = _
    rw [tab_set h]
    rfl
theorem tab_fst : ∀ {as : List Addr} {rs : List (List V)}, as.length = rs.length → (tab as rs).map (·.1) = as
  | [], [], _ => rfl
  | [], _ :: _, h => by simp at h
  | _ :: _, [], h => by simp at h
  | a :: as, r :: rs, h => by
    simp only [List.length_cons, Nat.add_right_cancel_iff] at h
    show a :: (tab as rs).map (·.1) = _
    rw [tab_fst h]
variable {as : List Addr} {rs : List (List V)} {i : Nat} {r r' : List V}
theorem Has.tabGet (M : Has H (X ++ (tab as rs ++ Y))) (ha : as[i]? = some a) (hr : rs[i]? = some r) : H a = some (.lst r) := M.mid.get i (tab_get ha hr)
theorem Has.tabSet (M : Has H (X ++ (tab as rs ++ Y))) (ha : as[i]? = some a) (hr : rs[i]? = some r) : Has (upd H a (.lst r')) (X ++ (tab as (rs.set i r') ++ Y)) := by
  have h := tab_get ha hr
  have hi := (List.getElem?_eq_some_iff.mp h).1
  have h2 : (X ++ (tab as rs ++ Y))[X.length + i]? = some (a, .lst r) := by
    rw [List.getElem?_append_right (Nat.le_add_right _ _), Nat.add_sub_cancel_left, List.getElem?_append_left hi]
    exact h
  have M2 := M.set (o' := .lst r') _ h2
  have e : (X ++ (tab as rs ++ Y)).set (X.length + i) (a, .lst r') = X ++ (tab as (rs.set i r') ++ Y) := by
    rw [List.set_append_right _ _ (Nat.le_add_right _ _), Nat.add_sub_cancel_left, List.set_append_left _ _ hi, tab_set ha]
  rw [e] at M2
  exact M2
/-- one more list at the end of a table -/
theorem tab_snoc : ∀ {as : List Addr} {rs : List (List V)}, as.length = rs.length → tab (as ++ [a]) (rs ++ [r]) = tab as rs ++ [(a, .lst r)]
  | [], [], _ => rfl
  | [], _ :: _, h => by simp at h
  | _ :: _, [], h => by simp at h
  | b :: as, r' :: rs, h => by
    simp only [List.length_cons, Nat.add_right_cancel_iff] at h
    show (b, HO.lst r') :: tab (as ++ [a]) (rs ++ [r]) = _
    rw [tab_snoc h]
    rfl
end
/-! ### constants of the module: tuples, dicts with text keys -/
inductive GD
  | dat (d : PyData)
  | dic (kvs : List (Str × PyData))
mutual
def gisB (K : PySem.W.Frag) : PyData → Value → Bool
  | .none, .none => true
  | .bool a, .bool b => a == b
  | .int i, .int j _ => decide (i = j)
  | .str x, .str y _ => decide (x = y)
  | .tuple ds, .ref a => (match K.lookup a with
    | some ⟨.type c, _, .seq its _, _⟩ => decide (c = "tuple") && (decide (its.size ≤ 1000) && gisAllB K ds its.toList)
    | _ => false)
  | _, _ => false
def gisAllB (K : PySem.W.Frag) : List PyData → List Value → Bool
  | [], [] => true
  | d :: ds, u :: us => gisB K d u && gisAllB K ds us
  | _, _ => false
end
section
variable {K : PySem.W.Frag}
theorem gis_tup {ds : List PyData} {u : Value} (h : gisB K (.tuple ds) u = true) : ∃ (a : Addr) (o : Obj) (its : Array Value) (n : Nat), u = .ref a ∧ K.lookup a = some o ∧ o.cls = .type "tuple" ∧ o.data = .seq its n ∧ its.size ≤ 1000 ∧ gisAllB K ds its.toList = true := by
  cases u <;> first | (unfold gisB at h; cases h; done) | skip
  rename_i a
  unfold gisB at h
  cases q : K.lookup a with
  | none =>
    rw [q] at h
    cases h
  | some o =>
    obtain ⟨oc, od, dt, osl⟩ := o
    rw [q] at h
    cases oc <;> cases dt <;> first | (cases h; done) | skip
    rename_i c its n
    replace h : (decide (c = "tuple") && (decide (its.size ≤ 1000) && gisAllB K ds its.toList)) = true := h
    obtain ⟨h1, h2⟩ := Bool.and_eq_true_iff.mp h
    obtain ⟨h3, h4⟩ := Bool.and_eq_true_iff.mp h2
    have e : c = "tuple" := of_decide_eq_true h1
    exact ⟨a, _, its, n, rfl, q, by rw [e], rfl, of_decide_eq_true h3, h4⟩
mutual
theorem gis_ok : ∀ (d : PyData) (u : Value), gisB K d u = true → ∃ v, RelV v u ∧ ∀ H, Dp K H v d
  | .none, u, h => by
    cases u <;> first | (unfold gisB at h; cases h; done) | skip
    exact ⟨.non, rfl, fun _ => .non⟩
  | .bool a, u, h => by
    cases u <;> first | (unfold gisB at h; cases h; done) | skip
    rename_i b
    unfold gisB at h
    obtain rfl := beq_iff_eq.mp h
    exact ⟨.bl a, rfl, fun _ => .bl a⟩
  | .int i, u, h => by
    cases u <;> first | (unfold gisB at h; cases h; done) | skip
    rename_i j t
    unfold gisB at h
    obtain rfl := of_decide_eq_true h
    exact ⟨.int i, ⟨t, rfl⟩, fun _ => .int i⟩
  | .str x, u, h => by
    cases u <;> first | (unfold gisB at h; cases h; done) | skip
    rename_i y t
    unfold gisB at h
    obtain rfl := of_decide_eq_true h
    exact ⟨.str x, ⟨t, rfl⟩, fun _ => .str x⟩
  | .tuple ds, u, h => by
    obtain ⟨a, o, its, n, rfl, h1, h2, h3, h4, h5⟩ := gis_tup h
    obtain ⟨vs, r, hd⟩ := gisAll_ok ds its.toList h5
    exact ⟨.ref a, rfl, fun H => .tup (.inr ⟨o, its, n, h1, h2, h3, Nat.le_trans h4 (by decide), r⟩) (hd H)⟩
  | .list _, u, h => by unfold gisB at h; cases h
  | .dict _, u, h => by unfold gisB at h; cases h
theorem gisAll_ok : ∀ (ds : List PyData) (us : List Value), gisAllB K ds us = true → ∃ vs, Vals vs us ∧ ∀ H, DpAll K H vs ds
  | [], us, h => by
    cases us with
    | nil => exact ⟨[], .nil, fun _ => .nil⟩
    | cons => unfold gisAllB at h; cases h
  | d :: ds, us, h => by
    cases us with
    | nil => unfold gisAllB at h; cases h
    | cons u us =>
      unfold gisAllB at h
      obtain ⟨h1, h2⟩ := Bool.and_eq_true_iff.mp h
      obtain ⟨v, r, hv⟩ := gis_ok d u h1
      obtain ⟨vs, rs, hvs⟩ := gisAll_ok ds us h2
      exact ⟨v :: vs, .cons r rs, fun H => .cons (hv H) (hvs H)⟩
end
end
def gokB (K : PySem.W.Frag) (x : Str) : GD → Bool
  | .dat d => (match PySem.W.nsIn K mainGlobals x with
    | some (some u) => gisB K d u
    | _ => false)
  | .dic kvs => kvs.all fun q => match PySem.W.nsIn K (He.ga K x) q.1 with
    | some (some u) => gisB K q.2 u
    | _ => false
def exB (cs : List (Str × GD)) (K : PySem.W.Frag) : Bool := cs.all fun q => gokB K q.1 q.2
def tabs : List (Str × GD) → List He.Tab
  | [] => []
  | (x, .dic kvs) :: cs => (fun K => He.ga K x, kvs.map (·.1)) :: tabs cs
  | (_, .dat _) :: cs => tabs cs
/-- the constants stand -/
structure CsOk (cs : List (Str × GD)) (K : PySem.W.Frag) (w : World) : Prop where
  e : exB cs K = true
  t : (tabs cs).map (fun t => He.dicW K (t.1 K)) = (tabs cs).map fun t => some (He.keysIn w.params t.2)
section
variable {fa : List He.Fa} {fn : List He.DefD} {cs : List (Str × GD)} {K : PySem.W.Frag} {w : World} {x k : Str} {d : PyData} {ds : List PyData} {kvs : List (Str × PyData)} {h : Heap}
theorem CsOk.of (c : He.SaysX fa fn (tabs cs) [] (exB cs) w h K) : CsOk cs K w := ⟨c.more, congrArg (fun z : He.AlT => z.2) c.t⟩
theorem tab_eq : ∀ {cs : List (Str × GD)}, (tabs cs).map (fun t => He.dicW K (t.1 K)) = (tabs cs).map (fun t => some (He.keysIn w.params t.2)) → (x, GD.dic kvs) ∈ cs → He.dicW K (He.ga K x) = some (He.keysIn w.params (kvs.map (·.1)))
  | [], _, h => by cases h
  | (y, .dic ks) :: cs, e, h => by
    have e1 : He.dicW K (He.ga K y) :: (tabs cs).map (fun t => He.dicW K (t.1 K)) = some (He.keysIn w.params (ks.map (·.1))) :: (tabs cs).map fun t => some (He.keysIn w.params t.2) := e
    injection e1 with e2 e3
    rcases List.mem_cons.mp h with z | z
    · injection z with z1 z2
      injection z2 with z2
      subst z1
      subst z2
      exact e2
    · exact tab_eq e3 z
  | (y, .dat _) :: cs, e, h => by
    rcases List.mem_cons.mp h with z | z
    · injection z with z1 z2
      cases z2
    · exact tab_eq (cs := cs) e z
theorem CsOk.dat (c : CsOk cs K w) (h : (x, GD.dat d) ∈ cs) : ∃ u, PySem.W.nsIn K mainGlobals x = some (some u) ∧ gisB K d u = true := by
  have h1 : gokB K x (.dat d) = true := List.all_eq_true.mp c.e _ h
  unfold gokB at h1
  cases q : PySem.W.nsIn K mainGlobals x with
  | none =>
    rw [q] at h1
    cases h1
  | some r =>
    rw [q] at h1
    cases r with
    | none => cases h1
    | some u => exact ⟨u, rfl, h1⟩
theorem CsOk.tup (c : CsOk cs K w) (h : (x, GD.dat (.tuple ds)) ∈ cs) (H : Hp) : Dp K H (.ref (He.ga K x)) (.tuple ds) := by
  obtain ⟨u, h1, h2⟩ := c.dat h
  obtain ⟨v, r, hv⟩ := gis_ok _ u h2
  obtain ⟨a, _, _, _, rfl, _⟩ := gis_tup h2
  have e : He.ga K x = a := by
    unfold He.ga
    rw [h1]
  obtain rfl : v = .ref a := RelV.inj r rfl
  rw [e]
  exact hv H
theorem CsOk.kd (c : CsOk cs K w) (h : (x, GD.dic kvs) ∈ cs) : ∃ es n, KDict K w (He.ga K x) es n := He.dicW_ok (tab_eq c.t h)
theorem CsOk.key (c : CsOk cs K w) (h : (x, GD.dic kvs) ∈ cs) (hk : (k, d) ∈ kvs) : ∃ u v, PySem.W.nsIn K (He.ga K x) k = some (some u) ∧ RelV v u ∧ ∀ H, Dp K H v d := by
  have h1 : gokB K x (.dic kvs) = true := List.all_eq_true.mp c.e _ h
  unfold gokB at h1
  have h2 := List.all_eq_true.mp h1 _ hk
  cases q : PySem.W.nsIn K (He.ga K x) k with
  | none =>
    rw [q] at h2
    cases h2
  | some r =>
    rw [q] at h2
    cases r with
    | none => cases h2
    | some u =>
      obtain ⟨v, hv⟩ := gis_ok d u h2
      exact ⟨u, v, rfl, hv⟩
theorem keyOf_of {e : DictEntry} {y : Str} {i : Int} (h : He.keyOf e = some (y, i)) : ∃ t, e.key = .str y t := by
  unfold He.keyOf at h
  split at h
  · rename_i z t q
    injection h with h
    injection h with h1 h2
    subst h1
    exact ⟨t, q⟩
  · cases h
theorem keys_no {P : Params} : ∀ {l : List DictEntry} {ks : List Str}, l.map He.keyOf = He.keysIn P ks → k ∉ ks → (l.find? (·.key.isStr k)) = none ∧ (l.any (·.refKey)) = false
  | [], _, _, _ => ⟨rfl, rfl⟩
  | e :: l, [], h, _ => by cases h
  | e :: l, y :: ks, h, hk => by
    have h1 : He.keyOf e :: l.map He.keyOf = some (y, PyData.keyHash P y) :: He.keysIn P ks := h
    injection h1 with h2 h3
    obtain ⟨t, q⟩ := keyOf_of h2
    obtain ⟨i1, i2⟩ := keys_no h3 (fun z => hk (List.mem_cons_of_mem _ z))
    have n : e.key.isStr k = false := by
      rw [q]
      have : (y == k) = false := beq_eq_false_iff_ne.mpr fun z => hk (by rw [z]; exact List.mem_cons_self)
      first | exact this | (unfold Value.isStr; exact this) | simp [Value.isStr, this]
    refine ⟨by rw [List.find?_cons, n]; exact i1, ?_⟩
    rw [List.any_cons, i2, Bool.or_false]
    unfold DictEntry.refKey
    rw [q]
theorem CsOk.nokey (c : CsOk cs K w) (h : (x, GD.dic kvs) ∈ cs) (hk : k ∉ kvs.map (·.1)) : PySem.W.nsIn K (He.ga K x) k = some none := by
  have e := tab_eq c.t h
  obtain ⟨es, n, D⟩ := He.dicW_ok e
  unfold He.dicW at e
  rw [D.at_] at e
  replace e : (match decide ("dict" = "dict") && ((#[] : Array (Option Value)).isEmpty && !(He.ga K x == sysModules)) with
    | true => some (es.toList.map He.keyOf)
    | false => none) = some (He.keysIn w.params (kvs.map (·.1))) := e
  rw [D.low] at e
  replace e : some (es.toList.map He.keyOf) = some (He.keysIn w.params (kvs.map (·.1))) := e
  obtain ⟨i1, i2⟩ := keys_no (Option.some.inj e) hk
  unfold PySem.W.nsIn
  rw [D.at_]
  show (match es.toList.find? (·.key.isStr k) with
      | some e => some (some e.val)
      | none => if es.toList.any (·.refKey) then none else some none) = some none
  rw [i1, i2]
  rfl
theorem dp_strs {H : Hp} {a : Addr} {ks : List Str} (h : Dp K H (.ref a) (.tuple (ks.map .str))) : SqT K H a (ks.map V.str) := by
  have go : ∀ {ks : List Str} {xs : List V}, DpAll K H xs (ks.map .str) → xs = ks.map V.str := by
    intro ks
    induction ks with
    | nil => intro xs h; cases h; rfl
    | cons z ks ih =>
      intro xs h
      cases h with
      | cons h t =>
        cases h
        rw [ih t]
        rfl
  cases h with
  | tup h t =>
    rw [← go t]
    exact h
theorem dp_ints {H : Hp} {a : Addr} {ks : List Int} (h : Dp K H (.ref a) (.tuple (ks.map .int))) : SqT K H a (ks.map V.int) := by
  have go : ∀ {ks : List Int} {xs : List V}, DpAll K H xs (ks.map .int) → xs = ks.map V.int := by
    intro ks
    induction ks with
    | nil => intro xs h; cases h; rfl
    | cons z ks ih =>
      intro xs h
      cases h with
      | cons h t =>
        cases h
        rw [ih t]
        rfl
  cases h with
  | tup h t =>
    rw [← go t]
    exact h
end
/-! d[key], key in d of such a dict -/
def rIxG (K : PySem.W.Frag) (d : Addr) : R2 := fun x y H Q => ∃ (z : Str) (u : Value) (v : V), x = .ref d ∧ y = .str z ∧ PySem.W.nsIn K d z = some (some u) ∧ RelV v u ∧ Q v H
def rInG (K : PySem.W.Frag) (d : Addr) (neg : Bool) : R2 := fun x y H Q => ∃ (z : Str) (r : Option Value), x = .str z ∧ y = .ref d ∧ PySem.W.nsIn K d z = some r ∧ Q (.bl (if neg then !r.isSome else r.isSome)) H
section
variable {X : Cx} {cs : List (Str × GD)} {x : Str} {kvs : List (Str × PyData)}
theorem ix_G {K : PySem.W.Frag} {w0 : World} (hK : X.K = K) (hw : X.w = w0) (c : CsOk cs K w0) (h : (x, GD.dic kvs) ∈ cs) : IxR X (rIxG K (He.ga K x)) := by
  subst hK
  subst hw
  obtain ⟨es, n, D⟩ := c.kd h
  intro value slice pins s σ H x y v u Q I rx ry h hs
  obtain ⟨z, u0, v0, rfl, rfl, e, r, q⟩ := h
  have rx' := rx
  cases rx
  exact tail_any (kd_type D I) PySem.F.slot_dict_getitem.lookup (op_item_kd D pins s σ H _ _ _ u Q I rx' ry ⟨z, u0, v0, rfl, rfl, e, r, q⟩) hs
theorem op_inG {K : PySem.W.Frag} {w0 : World} (hK : X.K = K) (hw : X.w = w0) (c : CsOk cs K w0) (h : (x, GD.dic kvs) ∈ cs) : OpR X (compareOp .In) (rInG K (He.ga K x) false) := by
  subst hK
  subst hw
  obtain ⟨es, n, D⟩ := c.kd h
  intro pins s σ H x y v u Q I rx ry h
  obtain ⟨z, r, rfl, rfl, e, q⟩ := h
  exact op_in_kd D pins s σ H _ _ v u Q I rx ry ⟨z, r, rfl, rfl, e, q⟩
theorem op_niG {K : PySem.W.Frag} {w0 : World} (hK : X.K = K) (hw : X.w = w0) (c : CsOk cs K w0) (h : (x, GD.dic kvs) ∈ cs) : OpR X (compareOp .NotIn) (rInG K (He.ga K x) true) := by
  subst hK
  subst hw
  obtain ⟨es, n, D⟩ := c.kd h
  intro pins s σ H x y v u Q I rx ry h
  obtain ⟨z, r, rfl, rfl, e, q⟩ := h
  exact op_notIn_kd D pins s σ H _ _ v u Q I rx ry ⟨z, r, rfl, rfl, e, q⟩
theorem pe_ixG {K : PySem.W.Frag} {w0 : World} (hK : X.K = K) (hw : X.w = w0) (c : CsOk cs K w0) (h : (x, GD.dic kvs) ∈ cs) {a b : Expr} {ta tb : TE} {pos : Pos} (ha : PE X a ta) (hb : PE X b tb) (hs : PlainIx b := by exact fun _ _ => rfl) :
    PE X (.Subscript a b pos) (tOp (rIxG K (He.ga K x)) ta tb) := pe_ix (ix_G hK hw c h) ha hb hs
end
end G

set_option Elab.async false
set_option linter.all false
set_option maxRecDepth 100000
set_option maxHeartbeats 4000000
/-! Rules that take any kind of value, and the walk of a reading step by step. -/
namespace G
open PySem PySem.Spec PyProof.Rows L2

/-! ### a tuple, repeated -/
theorem tuple_mul1 (l : Addr) (items : Array Value) (n : Nat) (dd : Option Addr) (sl : Array (Option Value)) (u : Tok) :
    Meets (Builtin.«tuple.__mul__» ⟨[.ref l, .int 1 u], []⟩) (fun _ R s => s.heap.get? l = some { cls := .type "tuple", dict := dd, data := .seq items n, slots := sl } ∧
      R (.ok (.ret (Value.ref l))) s) :=
  .of_wp fun prog w A R s h => by
    obtain ⟨hp, g, d, tk, os⟩ := s
    obtain ⟨hl, h⟩ := h
    have f1 := AutoSeq1.idx_int
    have c0 : (decide ((1 : Int) < -(2 ^ 63)) || decide ((1 : Int) ≥ 2 ^ 63)) = false := by decide
    have c1 : (items.isEmpty || (1 : Int) == 1) = true := by rw [Bool.or_eq_true]; exact .inr rfl
    wp_walk using wpAny_loadPart' hl
    repeat (first
      | (refine wpAny_ite_false (decide_eq_false (by rw [c0]; exact Bool.false_ne_true)) ?_; wp_walk using wpAny_loadPart' hl)
      | (refine wpAny_ite_true (decide_eq_true c1) ?_; wp_walk using wpAny_loadPart' hl))
    exact ⟨_, rfl, h⟩
def rRepT1 (K : PySem.W.Frag) : R2 := fun x y H Q => ∃ l xs, x = .ref l ∧ y = .int 1 ∧ SqT K H l xs ∧ Q x H
theorem op_repT1 {X : Cx} : OpR X (binaryOp .Mult) (rRepT1 X.K) := by
  intro pins s σ H x y v u Q I rx ry h
  obtain ⟨l, xs, rfl, rfl, hT, q⟩ := h
  cases rx
  obtain ⟨t, rfl⟩ := ry
  obtain ⟨its, r, ⟨⟨cls, dd, data, sl⟩, ho, hc, n, hd⟩, hs⟩ := I.tuple hT
  simp only at hc hd
  subst hc hd
  exact wpAny_binaryOp_repeat_ref (T := "tuple") (U := "int") (by decide) ⟨_, ho, rfl⟩ (fun s' => typeIs_int s' 1 t) noFill_tuple_mul F.fills_int_mul F.slot_int_rmul repeat_tuple F.slot_int_index.lookup
    (call_meets F.slot_int_rmul (typeIs_int s 1 t) F.entry_int_rmul (F.args_int_rmul_2 _ _) (int_rmul_tuple 1 t l its.toArray n dd sl)
      ⟨ho, rfl, ⟨_, ho, rfl⟩, call_meets F.slot_tuple_mul ⟨_, ho, rfl⟩ F.entry_tuple_mul (F.args_tuple_mul_2 _ _) (tuple_mul1 l its.toArray n dd sl t) ⟨ho, ⟨.ref l, H, I, rfl, q⟩⟩⟩)
/-- t * k of a tuple, 1 to 1000 times -/
def rRepTU : R2 := fun x y H Q => ∃ l k xs, x = .ref l ∧ y = .int k ∧ H l = some (.tup xs) ∧ xs ≠ [] ∧ 1 ≤ k ∧ k ≤ 1000 ∧ xs.length ≤ 1000 ∧ ∀ p H', Same H H' → H' p = some (.tup (List.replicate k.toNat xs).flatten) → Q (.ref p) H'
theorem op_repTU {X : Cx} : OpR X (binaryOp .Mult) rRepTU := by
  intro pins s σ H x y v u Q I rx ry h
  obtain ⟨l, k, xs, rfl, rfl, hT, hne, h1, h2, hl, q⟩ := h
  by_cases hk : k = 1
  · subst hk
    refine op_repT1 pins s σ H _ _ v u Q I rx ry ⟨l, xs, rfl, rfl, SqT.of hT, q l H (Same.refl H) ?_⟩
    rw [hT]
    simp
  · exact op_repT pins s σ H _ _ v u Q I rx ry ⟨l, k, xs, rfl, rfl, SqT.of hT, hne, by omega, h2, hl, fun p hp => q p _ (Same.new hp) upd_same⟩
/-! ### rules for any kind of value -/
def rAddU (K : PySem.W.Frag) : R2 := fun x y H Q => match x, y with
  | .int i, .int j => Q (.int (i + j)) H
  | .str a, .str b => a.length + b.length ≤ sizeLine ∧ Q (.str (a ++ b)) H
  | .ref a, .ref b => rCat (.ref a) (.ref b) H Q ∨ rCatA K (.ref a) (.ref b) H Q
  | _, _ => False
def rMulU : R2 := fun x y H Q => match x, y with
  | .int i, .int j => (CMul i j ∨ CMulW i j) ∧ Q (.int (i * j)) H
  | .ref a, .int j => rRep (.ref a) (.int j) H Q ∨ rRepTU (.ref a) (.int j) H Q
  | _, _ => False
def rEqU (K : PySem.W.Frag) (neg : Bool) : R2 := fun x y H Q => (scal x y = true ∧ Q (.bl (if neg then !decide (x = y) else decide (x = y))) H) ∨ (if neg then rNeD K x y H Q else rEqD K x y H Q)
/-- the heap's dict at a holds o at y -/
def rInDT (K : PySem.W.Frag) (neg : Bool) : R2 := fun x y H Q => ∃ d ds, Dp K H x d ∧ (Dp K H y (.tuple ds) ∨ Dp K H y (.list ds)) ∧ SeqAt.shaped d = true ∧ PyData.canLayAll0 ds = true ∧ Q (.bl (if neg then !(ds.any fun z => PyData.eqv z d) else ds.any fun z => PyData.eqv z d)) H
theorem hu65 {A : Around} {k : Nat} (hr : Room k A) : A.units + 65 < cLine := by have := hr.un; omega
theorem op_inDT {X : Cx} (hu : X.A.units + 65 < cLine) : OpR X (compareOp .In) (rInDT X.K false) := by
  intro pins s σ H x y v u Q I rx ry h
  obtain ⟨d, ds, hd, he, sd, se, q⟩ := h
  obtain ⟨as, r1⟩ := Dp.reads I d x v hd rx
  rcases he with he | he
  · obtain ⟨bs, r2⟩ := Dp.reads I (.tuple ds) y u he ry
    exact SeqAt.in_tuple_reads r2 r1 se (SeqAt.canLay_of_shaped sd) (room_in_shaped sd hu) ⟨.bl _, H, I, rfl, q⟩
  · obtain ⟨bs, r2⟩ := Dp.reads I (.list ds) y u he ry
    exact SeqAt.in_list_reads r2 r1 se (SeqAt.canLay_of_shaped sd) (room_in_shaped sd hu) ⟨.bl _, H, I, rfl, q⟩
theorem op_niDT {X : Cx} (hu : X.A.units + 65 < cLine) : OpR X (compareOp .NotIn) (rInDT X.K true) := by
  intro pins s σ H x y v u Q I rx ry h
  obtain ⟨d, ds, hd, he, sd, se, q⟩ := h
  obtain ⟨as, r1⟩ := Dp.reads I d x v hd rx
  rcases he with he | he
  · obtain ⟨bs, r2⟩ := Dp.reads I (.tuple ds) y u he ry
    exact SeqAt.notIn_tuple_reads r2 r1 se (SeqAt.canLay_of_shaped sd) (room_in_shaped sd hu) ⟨.bl _, H, I, rfl, q⟩
  · obtain ⟨bs, r2⟩ := Dp.reads I (.list ds) y u he ry
    exact SeqAt.notIn_list_reads r2 r1 se (SeqAt.canLay_of_shaped sd) (room_in_shaped sd hu) ⟨.bl _, H, I, rfl, q⟩
def rInU (K : PySem.W.Frag) (neg : Bool) : R2 := fun x y H Q => rIn K neg x y H Q ∨ (∃ a o, y = .ref a ∧ DGet H a x o ∧ Q (.bl (if neg then !o.isSome else o.isSome)) H) ∨
  (∃ c z, x = .str ⟨#[c]⟩ ∧ y = .str z ∧ Q (.bl (if neg then !decide (c ∈ z.cps.toList) else decide (c ∈ z.cps.toList))) H) ∨ rInDT K neg x y H Q
def rIxU (K : PySem.W.Frag) : R2 := fun x y H Q => rIxL K x y H Q ∨ rIxT K x y H Q ∨ rIxS x y H Q ∨ ∃ a v, x = .ref a ∧ DGet H a y (some v) ∧ Q v H
def rLenU (K : PySem.W.Frag) : List V → Hp → VK → Prop := fun xs H Q => (∃ x n, xs = [x] ∧ LenV K x H n ∧ Q (.int n) H) ∨ ∃ a kvs, xs = [.ref a] ∧ H a = some (.dK kvs) ∧ Q (.int (kvs.length : Nat)) H
def rAbs : List V → Hp → VK → Prop := fun xs H Q => ∃ i, xs = [.int i] ∧ Q (.int (if i < 0 then -i else i)) H
def rMax2 : List V → Hp → VK → Prop := fun xs H Q => ∃ i j, xs = [.int i, .int j] ∧ Q (.int (if j > i then j else i)) H
def rMin2 : List V → Hp → VK → Prop := fun xs H Q => ∃ i j, xs = [.int i, .int j] ∧ Q (.int (if j < i then j else i)) H
def rInt1 : List V → Hp → VK → Prop := fun xs H Q => (∃ i, xs = [.int i] ∧ Q (.int i) H) ∨ ∃ k, xs = [.bl k] ∧ Q (.int (if k then 1 else 0)) H
def rStrI : List V → Hp → VK → Prop := fun xs H Q => ∃ i, xs = [.int i] ∧ i.natAbs.log2 < 1920 ∧ Q (.str (toString i)) H
def rCmpI (p : Int → Int → Bool) : R2 := rI0 fun i j => .bl (p i j)

section
variable {X : Cx} {a b c : Expr} {ta tb tc : TE} {pos : Pos}
theorem op_addU {K : PySem.W.Frag} (hK : X.K = K) : OpR X (binaryOp .Add) (rAddU K) := by
  subst hK
  intro pins s σ H x y v u Q I rx ry h
  cases x <;> cases y <;> first | exact h.elim | skip
  · exact op_add pins s σ H _ _ v u Q I rx ry ⟨_, _, rfl, rfl, h⟩
  · exact op_add_str pins s σ H _ _ v u Q I rx ry ⟨_, _, rfl, rfl, h.1, h.2⟩
  · rcases h with h | h
    · exact op_cat pins s σ H _ _ v u Q I rx ry h
    · exact op_catA pins s σ H _ _ v u Q I rx ry h
theorem op_mulU : OpR X (binaryOp .Mult) rMulU := by
  intro pins s σ H x y v u Q I rx ry h
  cases x <;> cases y <;> first | exact h.elim | skip
  · rcases h with ⟨h | h, q⟩
    · exact op_mul pins s σ H _ _ v u Q I rx ry ⟨_, _, rfl, rfl, h, q⟩
    · exact op_mulW pins s σ H _ _ v u Q I rx ry ⟨_, _, rfl, rfl, h, q⟩
  · rcases h with h | h
    · exact op_rep pins s σ H _ _ v u Q I rx ry h
    · exact op_repTU pins s σ H _ _ v u Q I rx ry h
theorem op_eqU {K : PySem.W.Frag} (hK : X.K = K) (hu : X.A.units + 64 < cLine) : OpR X (compareOp .Eq) (rEqU K false) := by
  subst hK
  intro pins s σ H x y v u Q I rx ry h
  rcases h with ⟨hs, q⟩ | h
  · exact op_eq pins s σ H x y v u Q I rx ry ⟨hs, q⟩
  · exact op_eqD hu pins s σ H x y v u Q I rx ry h
theorem op_neU {K : PySem.W.Frag} (hK : X.K = K) (hu : X.A.units + 64 < cLine) : OpR X (compareOp .NotEq) (rEqU K true) := by
  subst hK
  intro pins s σ H x y v u Q I rx ry h
  rcases h with ⟨hs, q⟩ | h
  · exact op_ne pins s σ H x y v u Q I rx ry ⟨hs, q⟩
  · exact op_neD hu pins s σ H x y v u Q I rx ry h
theorem op_inU {K : PySem.W.Frag} (hK : X.K = K) (hu : X.A.units + 65 < cLine) : OpR X (compareOp .In) (rInU K false) := by
  subst hK
  intro pins s σ H x y v u Q I rx ry h
  rcases h with h | ⟨a, o, rfl, g, q⟩ | ⟨c, z, rfl, rfl, q⟩ | h
  · exact op_in_seq pins s σ H x y v u Q I rx ry h
  · obtain rfl : u = Value.ref a := ry
    exact d_in (by omega) I g rx fun s1 I1 => ⟨.bl _, H, I1, rfl, q⟩
  · exact op_in_sign pins s σ H _ _ v u Q I rx ry ⟨c, z, rfl, rfl, q⟩
  · exact op_inDT hu pins s σ H x y v u Q I rx ry h
theorem op_niU {K : PySem.W.Frag} (hK : X.K = K) (hu : X.A.units + 65 < cLine) : OpR X (compareOp .NotIn) (rInU K true) := by
  subst hK
  intro pins s σ H x y v u Q I rx ry h
  rcases h with h | ⟨a, o, rfl, g, q⟩ | ⟨c, z, rfl, rfl, q⟩ | h
  · exact op_notIn_seq pins s σ H x y v u Q I rx ry h
  · obtain rfl : u = Value.ref a := ry
    exact d_notIn (by omega) I g rx fun s1 I1 => ⟨.bl _, H, I1, rfl, q⟩
  · exact op_notIn_sign pins s σ H _ _ v u Q I rx ry ⟨c, z, rfl, rfl, q⟩
  · exact op_niDT hu pins s σ H x y v u Q I rx ry h
theorem ix_dict (hu : X.A.units + 1 < cLine) : IxR X (fun x y H Q => ∃ a v, x = .ref a ∧ DGet H a y (some v) ∧ Q v H) := by
  intro value slice pins s σ H x y v u Q I rx ry h hs
  obtain ⟨a, z, rfl, g, q⟩ := h
  obtain rfl : v = Value.ref a := rx
  exact tail_any (dict_typeIs I g) PySem.F.slot_dict_getitem.lookup (d_getItem hu I g ry fun w' s' I' rw' => ⟨z, H, I', rw', q⟩) hs
theorem ix_U {K : PySem.W.Frag} (hK : X.K = K) (hu : X.A.units + 1 < cLine) : IxR X (rIxU K) := by
  subst hK
  exact ix_list.or (ix_tup.or (ix_str.or (ix_dict hu)))
theorem pe_ixU {K : PySem.W.Frag} (hK : X.K = K) {a b : Expr} {ta tb : TE} {pos : Pos} (hu : X.A.units + 1 < cLine) (ha : PE X a ta) (hb : PE X b tb) (hs : PlainIx b := by exact fun _ _ => rfl) : PE X (.Subscript a b pos) (tOp (rIxU K) ta tb) := pe_ix (ix_U hK hu) ha hb hs
theorem c_len {K : PySem.W.Frag} (hK : X.K = K) : CallR X (.builtin "len") (rLenU K) := by
  subst hK
  intro pins s σ H xs us Q I r h
  rcases h with h | ⟨a, kvs, rfl, e, q⟩
  · exact call_len pins s σ H xs us Q I r h
  · rw [Vals.ref1 r]
    exact d_len I (.inl e) fun t s1 I1 => ⟨.int _, H, I1, ⟨_, rfl⟩, q⟩
theorem c_abs : CallR X (.builtin "abs") rAbs := call_abs
theorem c_max2 (hc : X.calm = true) : CallR X (.builtin "max") rMax2 := call_max2 hc
theorem c_min2 (hc : X.calm = true) : CallR X (.builtin "min") rMin2 := call_min2 hc
theorem c_int : CallR X (.type "int") rInt1 := call_int1
theorem c_str : CallR X (.type "str") rStrI := call_str_int
theorem c_isi {K : PySem.W.Frag} (hK : X.K = K) : CallR X (.builtin "isinstance") (rIsi K) := by
  subst hK
  exact call_isi
theorem o_lt : OpR X (compareOp .Lt) (rCmpI fun i j => decide (i < j)) := op_lt
theorem o_le : OpR X (compareOp .LtE) (rCmpI fun i j => decide (i ≤ j)) := op_le
theorem o_gt : OpR X (compareOp .Gt) (rCmpI fun i j => decide (j < i)) := op_gt
theorem o_ge : OpR X (compareOp .GtE) (rCmpI fun i j => decide (j ≤ i)) := op_ge
/-- what is walked: a list or a tuple -/
def iSeq (K : PySem.W.Frag) (tl : TE) : TI := fun σ H R => tl σ H fun x H1 => (∃ a xs, x = .ref a ∧ SqL K H1 a xs ∧ R (Itl K a) H1) ∨ ∃ a xs, x = .ref a ∧ SqT K H1 a xs ∧ R (Itt K a) H1
/-- an iterator that was just laid -/
theorem pie_new {pins : List (Addr × Obj)} {σ : L2.St} {H : Hp} {s : Shared} {R : It → Hp → Prop} {tg : Expr} {o : Obj} {J : It} {tn : Nat → Heap → Prop} (I : Inv X pins σ H s)
    (tu : Turn X.prog X.w X.K tg J [s.heap.objs.size] s.heap.objs.size tn) (h0 : tn 0 (s.heap.push o)) (q : R J H) : PIE X pins σ tg R (.ref s.heap.objs.size) { s with heap := s.heap.push o } := by
  have k := I.kept (t' := s.toks) (h' := s.heap.push o) (fun b u e => Heap.get?_push_of_some _ e)
  refine ⟨_, _, tn, J, H, rfl, k, tu, h0, ?_, q⟩
  intro b hb
  rw [List.mem_singleton.mp hb]
  exact I.fpOk (Nat.le_refl _) (I.hok.fresh (Nat.le_refl _))
theorem pi_seq {K : PySem.W.Frag} (hK : X.K = K) {tg l : Expr} {tl : TE} (hl : PE X l tl) : PI X tg l (iSeq K tl) := by
  subst hK
  refine ⟨fun pins s σ H R I h => thn (hl.run pins s σ H _ I h) ?_⟩
  rintro v s1 ⟨x, H1, I1, r1, ⟨a, xs, rfl, hq, q⟩ | ⟨a, xs, rfl, hq, q⟩⟩ <;> cases r1
  · obtain ⟨its, _, p, _⟩ := I1.list hq
    exact wpAny_pyIter_list p.isList (pie_new I1 (turn_list a _) ⟨_, Heap.get?_push_size _ rfl, rfl, rfl⟩ q)
  · obtain ⟨its, _, p, _⟩ := I1.tuple hq
    exact wpAny_pyIter_tuple (show s1.heap.IsTuple a its.toArray from p) (pie_new I1 (turn_tuple a _) ⟨_, Heap.get?_push_size _ rfl, rfl, rfl⟩ q)
/-- a value's truth as a test -/
def tTru (K : PySem.W.Frag) (ta : TE) : TT := fun σ H Q => ta σ H fun x H' => ∃ k, TruV K x H' k ∧ Q k H'
theorem pt_tru {K : PySem.W.Frag} (hK : X.K = K) (ha : PE X a ta) (he : ∀ whole, isTrue a X.env whole = (do let v ← whole; standAt a.pos; holding [v] (truthy v)) := by intro _; rfl) : PT X a (tTru K ta) := by
  subst hK
  exact pt_truth ha he
end

/-! ### the steps of a reading -/
/-- a new tuple, a new list, of these -/
def rTupN (xs : List V) : Hp → VK → Prop := fun H Q => xs.length ≤ sizeLine ∧ ∀ p, H p = none → Q (.ref p) (upd H p (.tup xs))
def rLstN (xs : List V) : Hp → VK → Prop := fun H Q => xs.length ≤ sizeLine ∧ ∀ p, H p = none → Q (.ref p) (upd H p (.lst xs))
section
variable {K : PySem.W.Frag} {σ : L2.St} {H : Hp} {D : Ends} {t u : TS} {te ta tb tc : TE} {tt tt' : TT} {Q : VK} {QB : Bool → Hp → Prop} {QA : List V → Hp → Prop} {QS : L2.St → Hp → Prop} {g : TG} {r r' : R2} {v x y : V} {i j : Int} {b c : Bool} {k : Nat} {tA tA' : TA} {A B : Prop} {p q : Prop} {sp : Sp} {E : XK} {dvs vs : List V} {xs ys : List V} {a d C dx : Addr} {fs : List (Str × V)} {f : Str} {z z' : Str}
theorem g_seq (h : t { nx := u D, rt := D.rt, bk := D.bk, ct := D.ct } σ H) : tSeq t u D σ H := h
theorem g_next (h : D.nx σ H) : tNext D σ H := h
theorem g_asg (h : te σ H fun x H1 => g x σ H1 D.nx) : tAsg te g D σ H := h
theorem g_drop (h : te σ H fun _ H1 => D.nx σ H1) : tDrop te D σ H := h
theorem g_ret (h : te σ H D.rt) : tRet te D σ H := h
theorem g_retN (h : D.rt .non H) : tRetN D σ H := h
theorem g_brk (h : D.bk σ H) : tBreak D σ H := h
theorem g_ct (h : D.ct σ H) : tCont D σ H := h
theorem g_ifS (h : tt σ H fun b H1 => if b = true then t D σ H1 else u D σ H1) : tIfS tt t u D σ H := h
theorem g_name (h : QS (σ.set k (some v)) H) : gName k v σ H QS := h
theorem g_aug {ti : TIp} (e : σ[k]? = some (some x)) (h : te σ H fun y H1 => ti x y H1 fun z H2 => D.nx (σ.set k (some z)) H2) : tAug k te ti D σ H := ⟨x, e, h⟩
theorem g_ipI {f : Int → Int → Int} (h : Q (.int (f i j)) H) : ipI f (.int i) (.int j) H Q := ⟨i, j, rfl, rfl, h⟩
theorem g_var (e : σ[k]? = some (some v)) (h : Q v H) : tVar k σ H Q := ⟨v, e, h⟩
theorem g_c (h : Q v H) : tC v σ H Q := h
theorem g_op (h : ta σ H fun x H1 => tb σ H1 fun y H2 => r x y H2 Q) : tOp r ta tb σ H Q := h
theorem g_un {r : V → Hp → VK → Prop} (h : ta σ H fun x H1 => r x H1 Q) : tUn r ta σ H Q := h
theorem g_rU {g : Int → V} (h : Q (g i) H) : rU g (.int i) H Q := ⟨i, rfl, h⟩
theorem g_I0 {g : Int → Int → V} (h : Q (g i j) H) : rI0 g (.int i) (.int j) H Q := ⟨i, j, rfl, rfl, h⟩
theorem g_I {C : Int → Int → Prop} {g : Int → Int → V} (hc : C i j) (h : Q (g i j) H) : rI C g (.int i) (.int j) H Q := ⟨i, j, rfl, rfl, hc, h⟩
theorem g_cmpI {p : Int → Int → Bool} (h : Q (.bl (p i j)) H) : rCmpI p (.int i) (.int j) H Q := ⟨i, j, rfl, rfl, h⟩
theorem g_addI (h : Q (.int (i + j)) H) : rAddU K (.int i) (.int j) H Q := h
theorem g_addS (hl : z.length + z'.length ≤ sizeLine) (h : Q (.str (z ++ z')) H) : rAddU K (.str z) (.str z') H Q := ⟨hl, h⟩
theorem g_mulI (hc : CMul i j ∨ CMulW i j) (h : Q (.int (i * j)) H) : rMulU (.int i) (.int j) H Q := ⟨hc, h⟩
theorem g_eqI (h : Q (.bl (decide (i = j))) H) : rEqU K false (.int i) (.int j) H Q := .inl ⟨rfl, by
  have e : decide (V.int i = V.int j) = decide (i = j) := by simp
  show Q (.bl (decide (V.int i = V.int j))) H
  rw [e]
  exact h⟩
theorem g_neI (h : Q (.bl (!decide (i = j))) H) : rEqU K true (.int i) (.int j) H Q := .inl ⟨rfl, by
  have e : decide (V.int i = V.int j) = decide (i = j) := by simp
  show Q (.bl (!decide (V.int i = V.int j))) H
  rw [e]
  exact h⟩
theorem g_eqS (h : Q (.bl (decide (z = z'))) H) : rEqU K false (.str z) (.str z') H Q := .inl ⟨rfl, by
  have e : decide (V.str z = V.str z') = decide (z = z') := by simp
  show Q (.bl (decide (V.str z = V.str z'))) H
  rw [e]
  exact h⟩
theorem g_neS (h : Q (.bl (!decide (z = z'))) H) : rEqU K true (.str z) (.str z') H Q := .inl ⟨rfl, by
  have e : decide (V.str z = V.str z') = decide (z = z') := by simp
  show Q (.bl (!decide (V.str z = V.str z'))) H
  rw [e]
  exact h⟩
theorem g_eqB (h : Q (.bl (decide (b = c))) H) : rEqU K false (.bl b) (.bl c) H Q := .inl ⟨rfl, by
  have e : decide (V.bl b = V.bl c) = decide (b = c) := by simp
  show Q (.bl (decide (V.bl b = V.bl c))) H
  rw [e]
  exact h⟩
theorem g_neB (h : Q (.bl (!decide (b = c))) H) : rEqU K true (.bl b) (.bl c) H Q := .inl ⟨rfl, by
  have e : decide (V.bl b = V.bl c) = decide (b = c) := by simp
  show Q (.bl (!decide (V.bl b = V.bl c))) H
  rw [e]
  exact h⟩
theorem g_eqD {d e : PyData} (h1 : Dp K H x d) (h2 : Dp K H y e) (s1 : SeqAt.shaped d = true) (s2 : SeqAt.shaped e = true) (h : Q (.bl (PyData.eqv d e)) H) : rEqU K false x y H Q := .inr ⟨d, e, h1, h2, s1, s2, h⟩
theorem g_neD {d e : PyData} (h1 : Dp K H x d) (h2 : Dp K H y e) (s1 : SeqAt.shaped d = true) (s2 : SeqAt.shaped e = true) (h : Q (.bl (!PyData.eqv d e)) H) : rEqU K true x y H Q := .inr ⟨d, e, h1, h2, s1, s2, h⟩
theorem g_test (h : te σ H fun x H' => ∃ k, x = .bl k ∧ QB k H') : tTest te σ H QB := h
theorem g_B (h : te σ H fun x H' => ∃ k, x = .bl k ∧ QB k H') : tB te σ H QB := h
theorem g_exb {R : Bool → Prop} (h : R b) : ∃ k, V.bl b = V.bl k ∧ R k := ⟨b, rfl, h⟩
theorem g_tru (h : te σ H fun x H' => ∃ k, TruV K x H' k ∧ QB k H') : tTru K te σ H QB := h
theorem g_truB {R : Bool → Prop} (h : R b) : ∃ k, TruV K (.bl b) H k ∧ R k := ⟨b, rfl, h⟩
theorem g_truI {R : Bool → Prop} (h : R (i != 0)) : ∃ k, TruV K (.int i) H k ∧ R k := ⟨_, rfl, h⟩
theorem g_truN {R : Bool → Prop} (h : R false) : ∃ k, TruV K .non H k ∧ R k := ⟨_, rfl, h⟩
theorem g_not (h : tt σ H fun c H1 => QB (!c) H1) : tNot tt σ H QB := h
theorem g_and (h : tt σ H fun c H1 => if c = true then tt' σ H1 QB else QB false H1) : tAnd tt tt' σ H QB := h
theorem g_or (h : tt σ H fun c H1 => if c = true then QB true H1 else tt' σ H1 QB) : tOr tt tt' σ H QB := h
theorem g_notV (h : ta σ H fun x H1 => ∃ c, x = .bl c ∧ Q (.bl (!c)) H1) : tNotV ta σ H Q := h
theorem g_andV (h : ta σ H fun x H1 => ∃ c, x = .bl c ∧ if c = true then tb σ H1 Q else Q (.bl false) H1) : tAndV ta tb σ H Q := h
theorem g_orV (h : ta σ H fun x H1 => ∃ c, x = .bl c ∧ if c = true then Q (.bl true) H1 else tb σ H1 Q) : tOrV ta tb σ H Q := h
theorem g_ifE (h : tt σ H fun c H1 => if c = true then ta σ H1 Q else tb σ H1 Q) : tIf tt ta tb σ H Q := h
theorem g_chain (h : ta σ H fun x H1 => tb σ H1 fun y H2 => r x y H2 fun z H3 => ∃ k, z = .bl k ∧ (if k = true then tc σ H3 fun w' H4 => r' y w' H4 Q else Q (.bl false) H3)) : tChain r r' ta tb tc σ H Q := h
theorem g_nilA (h : QA [] H) : tNil σ H QA := h
theorem g_consA (h : ta σ H fun x H1 => tA σ H1 fun xs H2 => QA (x :: xs) H2) : tCons ta tA σ H QA := h
theorem g_tup (h : tA σ H fun xs H1 => rTupN xs H1 Q) : tTup tA σ H Q := h
theorem g_lst (h : tA σ H fun xs H1 => rLstN xs H1 Q) : tLst tA σ H Q := h
theorem g_cb {r : List V → Hp → VK → Prop} (h : tA σ H fun vs H1 => r vs H1 Q) : tCB r tA σ H Q := h
theorem g_call (h : tA σ H fun vs H1 => sp (vs ++ dvs) H1 Q E) : tCall sp dvs E tA σ H Q := h
theorem g_bm {T : String} {r : V → List V → Hp → VK → Prop} (h : te σ H fun x H1 => tyV K T x H1 ∧ tA σ H1 fun xs H2 => r x xs H2 Q) : tBM K T r te tA σ H Q := h
theorem g_bm0 {T : String} {r : V → List V → Hp → VK → Prop} (h : te σ H fun x H1 => tyV K T x H1 ∧ r x [] H1 Q) : tBM0 K T r te σ H Q := h
theorem g_lenL (hl : SqL K H a xs) (h : Q (.int (xs.length : Nat)) H) : rLenU K [.ref a] H Q := .inl ⟨_, _, rfl, .inl ⟨_, hl, rfl⟩, h⟩
theorem g_lenT (hl : SqT K H a xs) (h : Q (.int (xs.length : Nat)) H) : rLenU K [.ref a] H Q := .inl ⟨_, _, rfl, .inr ⟨_, hl, rfl⟩, h⟩
theorem g_lenS (hl : z.length ≤ sizeLine) (h : Q (.int (z.length : Nat)) H) : rLenU K [.str z] H Q := .inl ⟨_, _, rfl, ⟨hl, rfl⟩, h⟩
theorem g_abs (h : Q (.int (if i < 0 then -i else i)) H) : rAbs [.int i] H Q := ⟨i, rfl, h⟩
theorem g_max2 (h : Q (.int (if j > i then j else i)) H) : rMax2 [.int i, .int j] H Q := ⟨i, j, rfl, h⟩
theorem g_min2 (h : Q (.int (if j < i then j else i)) H) : rMin2 [.int i, .int j] H Q := ⟨i, j, rfl, h⟩
theorem g_intI (h : Q (.int i) H) : rInt1 [.int i] H Q := .inl ⟨i, rfl, h⟩
theorem g_intB (h : Q (.int (if b then 1 else 0)) H) : rInt1 [.bl b] H Q := .inr ⟨b, rfl, h⟩
theorem g_ixL {n : Nat} (hl : SqL K H a xs) (e : i = (n : Int)) (hv : xs[n]? = some v) (h : Q v H) : rIxU K (.ref a) (.int i) H Q := .inl ⟨_, _, _, _, rfl, rfl, hl, by rw [e]; exact atI_nat hv, h⟩
theorem g_ixL' (hl : SqL K H a xs) (hv : atI xs i = some v) (h : Q v H) : rIxU K (.ref a) (.int i) H Q := .inl ⟨_, _, _, _, rfl, rfl, hl, hv, h⟩
theorem g_ixT {n : Nat} (hl : SqT K H a xs) (e : i = (n : Int)) (hv : xs[n]? = some v) (h : Q v H) : rIxU K (.ref a) (.int i) H Q := .inr (.inl ⟨_, _, _, _, rfl, rfl, hl, by rw [e]; exact atI_nat hv, h⟩)
theorem g_ixT' (hl : SqT K H a xs) (hv : atI xs i = some v) (h : Q v H) : rIxU K (.ref a) (.int i) H Q := .inr (.inl ⟨_, _, _, _, rfl, rfl, hl, hv, h⟩)
theorem g_ixD (g : DGet H a x (some v)) (h : Q v H) : rIxU K (.ref a) x H Q := .inr (.inr (.inr ⟨_, _, rfl, g, h⟩))
theorem g_isi {t u : Value} (hc : ClsV y u) (ht : TyX K H x t) (hk : PySem.W.kitOne K t u = some b) (h : Q (.bl b) H) : rIsi K [x, y] H Q := ⟨x, y, t, u, b, rfl, hc, ht, hk, h⟩
/-- branches -/
theorem g_if [Decidable p] (h1 : p → A) (h2 : ¬ p → B) : if decide p = true then A else B := by
  by_cases h : p
  · rw [if_pos (decide_eq_true h)]
    exact h1 h
  · rw [if_neg fun z => h (of_decide_eq_true z)]
    exact h2 h
theorem g_ifN [Decidable p] (h1 : ¬ p → A) (h2 : p → B) : if (!decide p) = true then A else B := by
  by_cases h : p
  · rw [decide_eq_true h]
    exact h2 h
  · rw [decide_eq_false h]
    exact h1 h
theorem g_ifB (h1 : b = true → A) (h2 : b = false → B) : if b = true then A else B := by
  cases b with
  | true => exact h1 rfl
  | false => exact h2 rfl
theorem g_ifBn (h1 : b = false → A) (h2 : b = true → B) : if (!b) = true then A else B := by
  cases b with
  | true => exact h2 rfl
  | false => exact h1 rfl
theorem g_ifT (h : A) : if true = true then A else B := h
theorem g_ifF (h : B) : if false = true then A else B := h
theorem g_ifNT (h : B) : if (!true) = true then A else B := h
theorem g_ifNF (h : A) : if (!false) = true then A else B := h
/-- a list grown -/
theorem g_append {L : List (Addr × HO)} (M : Has H L) (n : Nat) (h : L[n]? = some (a, .lst xs)) (hl : xs.length < sizeLine) (k : Has (upd H a (.lst (xs ++ [y]))) (L.set n (a, .lst (xs ++ [y]))) → Q .non (upd H a (.lst (xs ++ [y])))) : rAppend (.ref a) [y] H Q :=
  ⟨a, xs, y, rfl, rfl, M.get n h, hl, k (M.set n h)⟩
theorem g_setL {L : List (Addr × HO)} {R : Hp → Prop} {m : Nat} (M : Has H L) (n : Nat) (h : L[n]? = some (a, .lst xs)) (hi : ixN xs.length i = some m) (k : Has (upd H a (.lst (xs.set m y))) (L.set n (a, .lst (xs.set m y))) → R (upd H a (.lst (xs.set m y)))) : rSetL (.ref a) (.int i) y H R :=
  ⟨a, xs, i, m, rfl, rfl, M.get n h, hi, k (M.set n h)⟩
/-- a new object -/
theorem g_new {L : List (Addr × HO)} {o : HO} {R : Addr → Hp → Prop} (M : Has H L) (k : ∀ p, H p = none → Has (upd H p o) (L ++ [(p, o)]) → R p (upd H p o)) : ∀ p, H p = none → R p (upd H p o) := fun p hp => k p hp (M.new hp)
end
theorem mul_ok {i j : Int} (h : -18446744073709551616 < j) (h2 : j < 18446744073709551616) : CMul i j ∨ CMulW i j := .inl (.inr ⟨h, h2⟩)
theorem mul_ok' {i j : Int} (h : -18446744073709551616 < i) (h2 : i < 18446744073709551616) : CMul i j ∨ CMulW i j := .inl (.inl ⟨h, h2⟩)
theorem cdivW_of {i j : Int} (h : 0 < j) (h2 : j < 2 ^ 64) : CDivW i j := wide_div h (b := 64) (by omega) (by decide) (by decide)
theorem cpow_of {i j : Int} (h : 0 ≤ j) (h2 : j ≤ 1000000) (h3 : i.natAbs < 2 ^ 64) : CPow i j := ⟨h, h2, h3⟩

/-! ### loops -/
/-- what a for asks once its iterator has come -/
def ForW (g : TG) (tb : TS) (D : Ends) (σ : L2.St) : It → Hp → Prop := fun J H1 => ∃ W : Nat → Nat → L2.St → Hp → Prop, (∃ m, W 0 m σ H1) ∧ ∀ i m σ H, W i m σ H →
  (J.stop i H ∧ D.nx σ H) ∨ (J.go i H ∧ ∃ N : L2.St → Hp → Prop, (∀ σ' H', N σ' H' → ∃ m', m' < m ∧ W (i + 1) m' σ' H') ∧ ∀ x H', J.yld i H x H' → g x σ H' fun σ2 H2 => tb { D with nx := N, ct := N, bk := D.nx } σ2 H2)
def rR1 : List V → Hp → (It → Hp → Prop) → Prop := fun vs H R => ∃ j : Int, vs = [.int j] ∧ -(2 ^ 62) ≤ j ∧ j < 2 ^ 62 ∧ R (Itr 0 j.toNat) H
def rR2 : List V → Hp → (It → Hp → Prop) → Prop := fun vs H R => ∃ i j : Int, vs = [.int i, .int j] ∧ (-(2 ^ 62) ≤ i ∧ i < 2 ^ 62 ∧ -(2 ^ 62) ≤ j ∧ j < 2 ^ 62) ∧ R (Itr i (j - i).toNat) H
def iR (r : List V → Hp → (It → Hp → Prop) → Prop) (ta : TA) : TI := fun σ H R => ta σ H fun vs H1 => r vs H1 R
theorem pi_r1 {X : Cx} {tg a : Expr} {ta : TA} {p pos : Pos} (hg : Gl X "range") (hm : X.mg "range" = none) (ha : PA X [a] ta) (hs : starEach [a] X.env = [(false, eval a X.env)] := by rfl) : PI X tg (.Call (.Name "range" p) [a] [] pos) (iR rR1 ta) := pi_range1 hg hm ha hs
theorem pi_r2 {X : Cx} {tg a b : Expr} {ta : TA} {p pos : Pos} (hg : Gl X "range") (hm : X.mg "range" = none) (ha : PA X [a, b] ta) (hs : starEach [a, b] X.env = [(false, eval a X.env), (false, eval b X.env)] := by rfl) (hs2 : starEach [b] X.env = [(false, eval b X.env)] := by rfl) : PI X tg (.Call (.Name "range" p) [a, b] [] pos) (iR rR2 ta) := pi_range2 hg hm ha hs hs2
section
variable {K : PySem.W.Frag} {σ : L2.St} {H : Hp} {D : Ends} {wi : TI} {g : TG} {tb : TS} {ta : TA} {te : TE} {R : It → Hp → Prop} {r : List V → Hp → (It → Hp → Prop) → Prop} {i j : Int} {a : Addr} {xs : List V} {Q : VK} {n lo : Int}
theorem g_for (h : wi σ H (ForW g tb D σ)) : tFor wi g tb D σ H := h
theorem g_iR (h : ta σ H fun vs H1 => r vs H1 R) : iR r ta σ H R := h
theorem g_rR1 (h1 : -4611686018427387904 ≤ i) (h2 : i < 4611686018427387904) (h : R (Itr 0 i.toNat) H) : rR1 [.int i] H R := ⟨i, rfl, h1, h2, h⟩
theorem g_rR2 (h1 : -4611686018427387904 ≤ i ∧ i < 4611686018427387904 ∧ -4611686018427387904 ≤ j ∧ j < 4611686018427387904) (h : R (Itr i (j - i).toNat) H) : rR2 [.int i, .int j] H R := ⟨i, j, rfl, h1, h⟩
theorem g_iSeq (h : te σ H fun x H1 => (∃ a xs, x = .ref a ∧ SqL K H1 a xs ∧ R (Itl K a) H1) ∨ ∃ a xs, x = .ref a ∧ SqT K H1 a xs ∧ R (Itt K a) H1) : iSeq K te σ H R := h
theorem g_seqL (hl : SqL K H a xs) (h : R (Itl K a) H) : (∃ b ys, V.ref a = .ref b ∧ SqL K H b ys ∧ R (Itl K b) H) ∨ ∃ b ys, V.ref a = .ref b ∧ SqT K H b ys ∧ R (Itt K b) H := .inl ⟨a, xs, rfl, hl, h⟩
theorem g_seqT (hl : SqT K H a xs) (h : R (Itt K a) H) : (∃ b ys, V.ref a = .ref b ∧ SqL K H b ys ∧ R (Itl K b) H) ∨ ∃ b ys, V.ref a = .ref b ∧ SqT K H b ys ∧ R (Itt K b) H := .inr ⟨a, xs, rfl, hl, h⟩
theorem f_range {lo : Int} {n : Nat} (Pv : Nat → L2.St → Hp → Prop) (h0 : Pv 0 σ H)
    (hs : ∀ i σ H, i < n → Pv i σ H → g (.int (lo + i)) σ H fun σ2 H2 => tb { nx := Pv (i + 1), rt := D.rt, ct := Pv (i + 1), bk := D.nx } σ2 H2) (hd : ∀ σ H, Pv n σ H → D.nx σ H) : ForW g tb D σ (Itr lo n) H := for_range Pv h0 hs hd
theorem f_list (Pv : Nat → L2.St → Hp → Prop) (h0 : Pv 0 σ H) (hl : ∀ i σ H, i ≤ xs.length → Pv i σ H → SqL K H a xs)
    (hs : ∀ i x σ H, xs[i]? = some x → Pv i σ H → g x σ H fun σ2 H2 => tb { nx := Pv (i + 1), rt := D.rt, ct := Pv (i + 1), bk := D.nx } σ2 H2) (hd : ∀ σ H, Pv xs.length σ H → D.nx σ H) : ForW g tb D σ (Itl K a) H := for_list Pv h0 hl hs hd
theorem f_tup (Pv : Nat → L2.St → Hp → Prop) (h0 : Pv 0 σ H) (hl : ∀ i σ H, i ≤ xs.length → Pv i σ H → SqT K H a xs)
    (hs : ∀ i x σ H, xs[i]? = some x → Pv i σ H → g x σ H fun σ2 H2 => tb { nx := Pv (i + 1), rt := D.rt, ct := Pv (i + 1), bk := D.nx } σ2 H2) (hd : ∀ σ H, Pv xs.length σ H → D.nx σ H) : ForW g tb D σ (Itt K a) H := for_tup Pv h0 hl hs hd
/-- while: W by a measure and the state -/
def WhileW (c : TT) (tb : TS) (D : Ends) (W : Nat → L2.St → Hp → Prop) : Prop := ∀ m σ H, W m σ H →
  c σ H fun b H1 => if b = true then ∃ N : L2.St → Hp → Prop, (∀ σ' H', N σ' H' → ∃ m', m' < m ∧ W m' σ' H') ∧ tb { D with nx := N, ct := N, bk := D.nx } σ H1 else D.nx σ H1
theorem g_whileT {m : Nat} {W : Nat → L2.St → Hp → Prop} {A : (L2.St → Hp → Prop) → Prop} (h : A fun σ' H' => ∃ m', m' < m ∧ W m' σ' H') : ∃ N : L2.St → Hp → Prop, (∀ σ' H', N σ' H' → ∃ m', m' < m ∧ W m' σ' H') ∧ A N := ⟨_, fun _ _ h => h, h⟩
/-! ### isinstance of the scalars -/
theorem isi_of {x : V} {T T' : String} {b : Bool} (ht : TyX K H x (.type T)) (hk : kitB T T' = some b) (h : Q (.bl b) H) : rIsi K [x, .ty T'] H Q := ⟨x, .ty T', .type T, .type T', b, rfl, .ty T', ht, kit_ty hk, h⟩
theorem k_ii : kitB "int" "int" = some true := by decide +kernel
theorem k_ib : kitB "int" "bool" = some false := by decide +kernel
theorem k_bi : kitB "bool" "int" = some true := by decide +kernel
theorem k_bb : kitB "bool" "bool" = some true := by decide +kernel
theorem k_is_ : kitB "int" "str" = some false := by decide +kernel
theorem k_bs : kitB "bool" "str" = some false := by decide +kernel
theorem k_it : kitB "int" "tuple" = some false := by decide +kernel
theorem k_bt : kitB "bool" "tuple" = some false := by decide +kernel
theorem k_si : kitB "str" "int" = some false := by decide +kernel
theorem k_sb : kitB "str" "bool" = some false := by decide +kernel
theorem k_ss : kitB "str" "str" = some true := by decide +kernel
theorem k_st : kitB "str" "tuple" = some false := by decide +kernel
theorem k_ni : kitB "NoneType" "int" = some false := by decide +kernel
theorem k_nb : kitB "NoneType" "bool" = some false := by decide +kernel
theorem k_ns : kitB "NoneType" "str" = some false := by decide +kernel
theorem k_nt : kitB "NoneType" "tuple" = some false := by decide +kernel
theorem k_tt : kitB "tuple" "tuple" = some true := by decide +kernel
theorem k_ti : kitB "tuple" "int" = some false := by decide +kernel
theorem k_tb : kitB "tuple" "bool" = some false := by decide +kernel
theorem k_ts : kitB "tuple" "str" = some false := by decide +kernel
variable {z : Str} {b : Bool}
theorem g_isiIi (h : Q (.bl true) H) : rIsi K [.int i, .ty "int"] H Q := isi_of (.base (.int i)) k_ii h
theorem g_isiIb (h : Q (.bl false) H) : rIsi K [.int i, .ty "bool"] H Q := isi_of (.base (.int i)) k_ib h
theorem g_isiIs (h : Q (.bl false) H) : rIsi K [.int i, .ty "str"] H Q := isi_of (.base (.int i)) k_is_ h
theorem g_isiIt (h : Q (.bl false) H) : rIsi K [.int i, .ty "tuple"] H Q := isi_of (.base (.int i)) k_it h
theorem g_isiBi (h : Q (.bl true) H) : rIsi K [.bl b, .ty "int"] H Q := isi_of (.base (.bl b)) k_bi h
theorem g_isiBb (h : Q (.bl true) H) : rIsi K [.bl b, .ty "bool"] H Q := isi_of (.base (.bl b)) k_bb h
theorem g_isiBs (h : Q (.bl false) H) : rIsi K [.bl b, .ty "str"] H Q := isi_of (.base (.bl b)) k_bs h
theorem g_isiBt (h : Q (.bl false) H) : rIsi K [.bl b, .ty "tuple"] H Q := isi_of (.base (.bl b)) k_bt h
theorem g_isiSi (h : Q (.bl false) H) : rIsi K [.str z, .ty "int"] H Q := isi_of (.base (.str z)) k_si h
theorem g_isiSb (h : Q (.bl false) H) : rIsi K [.str z, .ty "bool"] H Q := isi_of (.base (.str z)) k_sb h
theorem g_isiSs (h : Q (.bl true) H) : rIsi K [.str z, .ty "str"] H Q := isi_of (.base (.str z)) k_ss h
theorem g_isiSt (h : Q (.bl false) H) : rIsi K [.str z, .ty "tuple"] H Q := isi_of (.base (.str z)) k_st h
theorem g_isiNi (h : Q (.bl false) H) : rIsi K [.non, .ty "int"] H Q := isi_of (.base .non) k_ni h
theorem g_isiNb (h : Q (.bl false) H) : rIsi K [.non, .ty "bool"] H Q := isi_of (.base .non) k_nb h
theorem g_isiNs (h : Q (.bl false) H) : rIsi K [.non, .ty "str"] H Q := isi_of (.base .non) k_ns h
theorem g_isiNt (h : Q (.bl false) H) : rIsi K [.non, .ty "tuple"] H Q := isi_of (.base .non) k_nt h
end
section
variable {H H1 : Hp} {a : Addr} {o : HO}
theorem Same.mut (x : Same H H1) (h : H a = none) : Same H (upd H1 a o) := fun b u e => by
  rw [upd_ne (ne_of_none e h)]
  exact x b u e
theorem Same.new' (x : Same H H1) (h : H1 a = none) : Same H (upd H1 a o) := fun b u e => keep_new (x b u e) h
end
theorem q_int {Q : VK} {x y : Int} {H : Hp} (e : x = y) (h : Q (.int x) H) : Q (.int y) H := e ▸ h
theorem q_bl {Q : VK} {x y : Bool} {H : Hp} (e : x = y) (h : Q (.bl x) H) : Q (.bl y) H := e ▸ h
theorem q_str {Q : VK} {x y : Str} {H : Hp} (e : x = y) (h : Q (.str x) H) : Q (.str y) H := e ▸ h
theorem g_disp {trs : List (TE × TE)} {σ : L2.St} {H : Hp} {Q : VK} (h : ∀ p, H p = none → tPairs trs σ (upd H p (.dK [])) fun ps H2 => H2 p = some (.dK []) ∧ ∃ kvs : List (Key × V), ps = kvs.map (fun kv => (kV kv.1, kv.2)) ∧ kvs.length ≤ 15 ∧ Q (.ref p) (upd H2 p (.dK (mergeK [] kvs)))) : tDisp trs σ H Q := h
theorem g_pairN {σ : L2.St} {H : Hp} {R : List (V × V) → Hp → Prop} (h : R [] H) : tPairs [] σ H R := h
theorem g_pairC {tk tv : TE} {r : List (TE × TE)} {σ : L2.St} {H : Hp} {R : List (V × V) → Hp → Prop} (h : tk σ H fun x H1 => tv σ H1 fun y H2 => tPairs r σ H2 fun ps H3 => R ((x, y) :: ps) H3) : tPairs ((tk, tv) :: r) σ H R := h
theorem g_dput {td ty tv : TE} {D : Ends} {σ : L2.St} {H : Hp} (h : tv σ H fun v H1 => td σ H1 fun x H2 => ty σ H2 fun y H3 => ∃ a H4, x = .ref a ∧ DPut H3 a y v H4 ∧ D.nx σ H4) : sDPut td ty tv D σ H := h

/-! ### the laws' draws: a dict with a row, a place and a seed -/
theorem ne_ra : ¬ (("row" : Str) = "at") := by decide +kernel
theorem ne_rs : ¬ (("row" : Str) = "seed") := by decide +kernel
theorem ne_as : ¬ (("at" : Str) = "seed") := by decide +kernel
theorem ne_sa : ¬ (("seed" : Str) = "at") := by decide +kernel
theorem ne_ar : ¬ (("at" : Str) = "row") := by decide +kernel
theorem ne_sr : ¬ (("seed" : Str) = "row") := by decide +kernel
def drK (r : Addr) (n sd : Int) : List (Key × V) := [(.inr "row", .ref r), (.inr "at", .int n), (.inr "seed", .int sd)]
structure RowOk (row : List Int) (sd : Int) : Prop where
  dig : ∀ x ∈ row, 0 ≤ x ∧ x < 1000
  len : row.length ≤ 1260
  s0 : 0 ≤ sd
  s1 : sd < 1000003
theorem dr_row (r : Addr) (n sd : Int) : valV (drK r n sd) (.inr "row") = some (.ref r) := by
  unfold drK
  exact valV_pos rfl
theorem dr_at (r : Addr) (n sd : Int) : valV (drK r n sd) (.inr "at") = some (.int n) := by
  unfold drK
  rw [valV_neg (fun e => ne_ra (Sum.inr.inj e))]
  exact valV_pos rfl
theorem dr_seed (r : Addr) (n sd : Int) : valV (drK r n sd) (.inr "seed") = some (.int sd) := by
  unfold drK
  rw [valV_neg (fun e => ne_rs (Sum.inr.inj e)), valV_neg (fun e => ne_as (Sum.inr.inj e))]
  exact valV_pos rfl
theorem dr_put (r : Addr) (n m sd : Int) : putK (drK r n sd) (.inr "at") (.int m) = drK r m sd := by
  unfold putK
  rw [valV_any, dr_at]
  simp only [Option.isSome_some, if_true]
  unfold drK
  simp only [List.map_cons, List.map_nil]
  rw [if_neg (fun e => ne_ra (Sum.inr.inj e)), if_pos trivial, if_neg (fun e => ne_sa (Sum.inr.inj e))]
theorem dr_made (r : Addr) (n sd : Int) : mergeK [] [(.inr "row", .ref r), (.inr "at", .int n), (.inr "seed", .int sd)] = drK r n sd := by
  have h1 : putK ([] : List (Key × V)) (.inr "row") (.ref r) = [(.inr "row", .ref r)] := putK_new _ rfl
  have h2 : putK ([(.inr "row", .ref r)] : List (Key × V)) (.inr "at") (.int n) = [(.inr "row", .ref r)] ++ [(.inr "at", .int n)] := putK_new _ (by rw [valV_neg (fun e => ne_ra (Sum.inr.inj e))]; rfl)
  have h3 : putK ([(.inr "row", .ref r), (.inr "at", .int n)] : List (Key × V)) (.inr "seed") (.int sd) = [(.inr "row", .ref r), (.inr "at", .int n)] ++ [(.inr "seed", .int sd)] := putK_new _ (by
    rw [valV_neg (fun e => ne_rs (Sum.inr.inj e)), valV_neg (fun e => ne_as (Sum.inr.inj e))]; rfl)
  unfold mergeK
  simp only [List.foldl_cons, List.foldl_nil]
  rw [h1, h2]
  exact h3
theorem dg_row {H : Hp} {d r : Addr} {n sd : Int} (h : H d = some (.dK (drK r n sd))) : DGet H d (.str "row") (some (.ref r)) := by
  rw [← dr_row r n sd]
  exact DGet.k (k := .inr "row") h
theorem dg_at {H : Hp} {d r : Addr} {n sd : Int} (h : H d = some (.dK (drK r n sd))) : DGet H d (.str "at") (some (.int n)) := by
  rw [← dr_at r n sd]
  exact DGet.k (k := .inr "at") h
theorem dg_seed {H : Hp} {d r : Addr} {n sd : Int} (h : H d = some (.dK (drK r n sd))) : DGet H d (.str "seed") (some (.int sd)) := by
  rw [← dr_seed r n sd]
  exact DGet.k (k := .inr "seed") h
theorem dp_at {H : Hp} {d r : Addr} {n sd : Int} (m : Int) (h : H d = some (.dK (drK r n sd))) : DPut H d (.str "at") (.int m) (upd H d (.dK (drK r m sd))) := by
  rw [← dr_put r n m sd]
  exact DPut.k (k := .inr "at") h (by show 3 < sizeLine; decide)
theorem szl {n : Nat} (h : n ≤ 100000) : n < sizeLine := Nat.lt_of_le_of_lt h (by decide)
theorem szle {n : Nat} (h : n ≤ 100000) : n ≤ sizeLine := Nat.le_trans h (by decide)

/-! ### //, %, shifts by name -/
def rMod : R2 := rI (fun _ j => 0 < j) fun i j => .int (i % j)
def rFdiv : R2 := rI CDivW fun i j => .int (i / j)
def rShl : R2 := rI CPow fun i j => .int (i * 2 ^ j.toNat)
def rPow : R2 := rI CPow fun i j => .int (i ^ j.toNat)
def rShr : R2 := rI (fun _ j => 0 ≤ j) fun i j => .int (i / 2 ^ j.toNat)
section
variable {X : Cx} {i j : Int} {H : Hp} {Q : VK}
theorem o_mod : OpR X (binaryOp .Mod) rMod := op_mod
theorem o_fdiv : OpR X (binaryOp .FloorDiv) rFdiv := op_fdivW
theorem o_shl : OpR X (binaryOp .LShift) rShl := op_shl
theorem o_pow : OpR X (binaryOp .Pow) rPow := op_pow
theorem o_shr : OpR X (binaryOp .RShift) rShr := op_shr
theorem io_fdiv : OpR X (inplaceOp .FloorDiv) rFdiv := iop_fdivW
theorem io_mod : OpR X (inplaceOp .Mod) rMod := iop_mod
theorem g_mod (h : 0 < j) (q : Q (.int (i % j)) H) : rMod (.int i) (.int j) H Q := ⟨i, j, rfl, rfl, h, q⟩
theorem g_fdiv (h : 0 < j) (h2 : j < 18446744073709551616) (q : Q (.int (i / j)) H) : rFdiv (.int i) (.int j) H Q := ⟨i, j, rfl, rfl, cdivW_of h h2, q⟩
theorem g_shl (h : 0 ≤ j) (h2 : j ≤ 1000000) (h3 : i.natAbs < 18446744073709551616) (q : Q (.int (i * 2 ^ j.toNat)) H) : rShl (.int i) (.int j) H Q := ⟨i, j, rfl, rfl, ⟨h, h2, h3⟩, q⟩
theorem g_pow (h : 0 ≤ j) (h2 : j ≤ 1000000) (h3 : i.natAbs < 18446744073709551616) (q : Q (.int (i ^ j.toNat)) H) : rPow (.int i) (.int j) H Q := ⟨i, j, rfl, rfl, ⟨h, h2, h3⟩, q⟩
theorem g_shr (h : 0 ≤ j) (q : Q (.int (i / 2 ^ j.toNat)) H) : rShr (.int i) (.int j) H Q := ⟨i, j, rfl, rfl, h, q⟩
end

/-! ### fields, methods, makes -/
def rFld (K : PySem.W.Frag) (f : Str) : V → Hp → VK → Prop := fun x H Q => ∃ a C dx fs v, x = .ref a ∧ H a = some (.ins C dx fs) ∧ Cls K C ∧ NoAttr K C f ∧ fs.lookup f = some v ∧ Q v H
def rSFld (K : PySem.W.Frag) (f : Str) : V → V → Hp → (Hp → Prop) → Prop := fun x y H R => ∃ a C dx fs, x = .ref a ∧ H a = some (.ins C dx fs) ∧ Cls K C ∧ NoAttr K C f ∧ fs.length < 1000 ∧ R (upd H a (.ins C dx (putF f y fs)))
def tSFld (K : PySem.W.Frag) (ta tv : TE) (f : Str) : TS := fun D σ H => tv σ H fun y H1 => ta σ H1 fun x H2 => rSFld K f x y H2 (D.nx σ)
/-- o.f as a target within a tuple -/
def gFldU (K : PySem.W.Frag) (to : TE) (f : Str) : TG := fun v σ H Q => to σ H fun x H1 => rSFld K f x v H1 (Q σ)
theorem pg_fldU {X : Cx} {K : PySem.W.Frag} (hK : X.K = K) {o : Expr} {to : TE} {f : Str} {pos : Pos} (ho : PE X o to) : PG X (.Attribute o f pos) (gFldU K to f) := by
  subst hK
  refine ⟨fun pins s σ H v u Q I r h => ?_⟩
  rw [PySem.assign_Attribute]
  refine wpAny_bind (wpAny_holding (thn (ho.run pins s σ H _ I h) fun ov s1 ⟨x, H1, I1, rx, a, C, dx, fs, ex, ea, c, n, l, q⟩ => ?_))
  subst ex
  obtain rfl : ov = Value.ref a := rx
  refine wpAny_bind (wpAny_standAt (wpAny_bind (wpAny_holding (setattr_ok I1 ea c n l r fun s3 I3 => ?_))))
  exact wpAny_release ⟨σ, _, I3, q⟩
theorem g_gfld {K : PySem.W.Frag} {to : TE} {f : Str} {v : V} {σ : L2.St} {H : Hp} {Q : L2.St → Hp → Prop} (h : to σ H fun x H1 => rSFld K f x v H1 (Q σ)) : gFldU K to f v σ H Q := h
/-- the receiver of a method's call -/
def rRcv (C : Addr) (m : Str) : V → Hp → (Hp → Prop) → Prop := fun x H R => ∃ a dx fs, x = .ref a ∧ H a = some (.ins C dx fs) ∧ fs.lookup m = none ∧ R H
section
variable {X : Cx} {o e value : Expr} {f : Str} {pos pos' : Pos} {ta tv : TE}
theorem pe_fldU {K : PySem.W.Frag} (hK : X.K = K) (he : PE X e ta) (hb : attributeBase e f X.env (eval e X.env) = eval e X.env) : PE X (.Attribute e f pos) (tUn (rFld K f) ta) := by
  subst hK
  exact pe_fld he hb
theorem ps_fldU {K : PySem.W.Frag} (hK : X.K = K) (ha : PE X o ta) (hv : PE X value tv) (hs : swapsWith value (some (.Attribute o f pos')) pos.line X.env = pure false) : PS X (.Assign [.Attribute o f pos'] value pos) (tSFld K ta tv f) := by
  subst hK
  exact ps_fld ha hv hs
end
section
variable {K : PySem.W.Frag} {σ : L2.St} {H : Hp} {D : Ends} {ta tv : TE} {t : TA} {Q : VK} {v y : V} {a C dx : Addr} {fs fs' : List (Str × V)} {f m : Str} {sp : Sp} {dvs : List V} {E : XK} {L : List (Addr × HO)} {R : Hp → Prop}
theorem g_fld (he : H a = some (.ins C dx fs)) (cl : Cls K C) (na : NoAttr K C f) (l : fs.lookup f = some v) (h : Q v H) : rFld K f (.ref a) H Q := ⟨a, C, dx, fs, v, rfl, he, cl, na, l, h⟩
theorem g_sfld (h : tv σ H fun y H1 => ta σ H1 fun x H2 => rSFld K f x y H2 (D.nx σ)) : tSFld K ta tv f D σ H := h
theorem g_setF (M : Has H L) (n : Nat) (he : L[n]? = some (a, .ins C dx fs)) (cl : Cls K C) (na : NoAttr K C f) (hl : fs.length < 1000) (e : putF f y fs = fs') (k : Has (upd H a (.ins C dx fs')) (L.set n (a, .ins C dx fs')) → R (upd H a (.ins C dx fs'))) : rSFld K f (.ref a) y H R :=
  ⟨a, C, dx, fs, rfl, M.get n he, cl, na, hl, by rw [e]; exact k (M.set n he)⟩
theorem g_meth (h : ta σ H fun x H1 => ∃ a dx fs, x = .ref a ∧ H1 a = some (.ins C dx fs) ∧ fs.lookup m = none ∧ t σ H1 fun vs H2 => sp (x :: (vs ++ dvs)) H2 Q E) : tMeth C m sp dvs E ta t σ H Q := h
theorem g_rcv {A : Prop} (he : H a = some (.ins C dx fs)) (l : fs.lookup m = none) (h : A) : ∃ b dx' fs', V.ref a = .ref b ∧ H b = some (.ins C dx' fs') ∧ fs'.lookup m = none ∧ A := ⟨a, dx, fs, rfl, he, l, h⟩
theorem g_make (h : t σ H fun vs H1 => ∀ x dx, H1 x = none → H1 dx = none → dx ≠ x → sp (.ref x :: (vs ++ dvs)) (upd (upd H1 dx (.own x)) x (.ins C dx [])) (fun v H2 => v = .non ∧ Q (.ref x) H2) E) : tMake C sp dvs E t σ H Q := h
end
section
variable {H : Hp} {x dx C : Addr}
/-- the heap in which an __init__ starts -/
def made (H : Hp) (x dx C : Addr) : Hp := upd (upd H dx (.own x)) x (.ins C dx [])
theorem made_same (hx : H x = none) (hd : H dx = none) : Same H (made H x dx C) := fun b o e => by
  unfold made
  rw [upd_ne (ne_of_none e hx), upd_ne (ne_of_none e hd)]
  exact e
theorem made_at : made H x dx C x = some (.ins C dx []) := upd_same
theorem made_none {p : Addr} (h : made H x dx C p = none) : H p = none ∧ p ≠ x ∧ p ≠ dx := by
  unfold made at h
  by_cases h1 : p = x
  · subst h1; rw [upd_same] at h; cases h
  · rw [upd_ne h1] at h
    by_cases h2 : p = dx
    · subst h2; rw [upd_same] at h; cases h
    · rw [upd_ne h2] at h
      exact ⟨h, h1, h2⟩
end

/-! ### stores by place, replicated lists, slices, all and any -/
def rSetU : V → V → V → Hp → (Hp → Prop) → Prop := fun o i v H Q => rSetL o i v H Q ∨ ∃ a H', o = .ref a ∧ DPut H a i v H' ∧ Q H'
section
variable {X : Cx}
theorem set_U (hu : X.A.units + 1 < cLine) : PSet X rSetU := by
  intro pins s σ H o i v ov iv u Q I ro ri rv h
  rcases h with h | ⟨a, H', rfl, g, q⟩
  · exact set_list pins s σ H o i v ov iv u Q I ro ri rv h
  · obtain rfl : ov = Value.ref a := ro
    exact d_setItem hu I g ri rv fun s1 I1 => ⟨H', I1, q⟩
end
section
variable {K : PySem.W.Frag} {σ : L2.St} {H : Hp} {R : Hp → Prop} {RS : L2.St → Hp → Prop} {te ti : TE} {t : TSet} {v y : V} {a : Addr} {xs : List V} {i : Int} {L : List (Addr × HO)} {m : Nat} {Q : VK}
theorem g_sub (h : te σ H fun o H1 => ti σ H1 fun i H2 => t o i v H2 fun H3 => RS σ H3) : gSub te ti t v σ H RS := h
theorem g_setU (M : Has H L) (n : Nat) (h : L[n]? = some (a, .lst xs)) (hi : i = (m : Int)) (hm : m < xs.length) (k : Has (upd H a (.lst (xs.set m y))) (L.set n (a, .lst (xs.set m y))) → R (upd H a (.lst (xs.set m y)))) : rSetU (.ref a) (.int i) y H R :=
  .inl ⟨a, xs, i, m, rfl, rfl, M.get n h, by
    unfold ixN
    rw [if_pos (by omega), if_pos (by omega)]
    congr 1
    omega, k (M.set n h)⟩
theorem rep_flat {x : V} : ∀ n : Nat, (List.replicate n [x]).flatten = List.replicate n x
  | 0 => rfl
  | n + 1 => by
    rw [List.replicate_succ, List.replicate_succ, List.flatten_cons, rep_flat n]
    rfl
theorem g_rep {x : V} {k : Int} (h : H a = some (.lst [x])) (h0 : -4611686018427387904 ≤ k) (h1 : k ≤ 100000) (q : ∀ p, H p = none → Q (.ref p) (upd H p (.lst (List.replicate k.toNat x)))) : rMulU (.ref a) (.int k) H Q := by
  refine .inl ⟨a, k, [x], rfl, rfl, h, by omega, by omega, szle (by simp; omega), fun p hp => ?_⟩
  rw [rep_flat]
  exact q p hp
theorem g_repI {x : Int} {k : Int} (h : H a = some (.lst [.int x])) (h0 : -4611686018427387904 ≤ k) (h1 : k ≤ 100000) (q : ∀ p, H p = none → Q (.ref p) (upd H p (.lst ((List.replicate k.toNat x).map V.int)))) : rMulU (.ref a) (.int k) H Q :=
  g_rep h h0 h1 fun p hp => by
    have z := q p hp
    rw [List.map_replicate] at z
    exact z
end
def rAllU (K : PySem.W.Frag) : List V → Hp → VK → Prop := fun vs H Q => ∃ (a : Addr) (bs : List Bool), vs = [V.ref a] ∧ SqL K H a (bs.map V.bl) ∧ Q (.bl (bs.all id)) H
def rAnyU (K : PySem.W.Frag) : List V → Hp → VK → Prop := fun vs H Q => ∃ (a : Addr) (bs : List Bool), vs = [V.ref a] ∧ SqL K H a (bs.map V.bl) ∧ Q (.bl (bs.any id)) H
section
variable {X : Cx} {K : PySem.W.Frag} {H : Hp} {Q : VK} {a : Addr} {bs : List Bool}
theorem c_all {K : PySem.W.Frag} (hK : X.K = K) (hc : X.calm = true) : CallR X (.builtin "all") (rAllU K) := by
  subst hK
  exact cr_all hc
theorem c_any {K : PySem.W.Frag} (hK : X.K = K) (hc : X.calm = true) : CallR X (.builtin "any") (rAnyU K) := by
  subst hK
  exact cr_any hc
theorem g_all (h : SqL K H a (bs.map V.bl)) (q : Q (.bl (bs.all id)) H) : rAllU K [.ref a] H Q := ⟨a, bs, rfl, h, q⟩
theorem g_any (h : SqL K H a (bs.map V.bl)) (q : Q (.bl (bs.any id)) H) : rAnyU K [.ref a] H Q := ⟨a, bs, rfl, h, q⟩
end
/-! slices -/
def rSlU (K : PySem.W.Frag) : V → Option Int → Option Int → Hp → VK → Prop := fun x lo hi H Q => rSlL K x lo hi H Q ∨ rSlA K x lo hi H Q ∨ ∃ z, x = .str z ∧ z.length ≤ sizeLine ∧ Q (.str (cutS z lo hi)) H
theorem sl_U {X : Cx} {K : PySem.W.Frag} (hK : X.K = K) : SlR X (rSlU K) := by
  subst hK
  exact sl_list.or (sl_tupA.or sl_str)
section
variable {K : PySem.W.Frag} {σ : L2.St} {H : Hp} {Q : VK} {te : TE} {tl th : TO} {QO : Option Int → Hp → Prop} {r : V → Option Int → Option Int → Hp → VK → Prop} {a : Addr} {xs : List V} {lo hi : Option Int} {i : Int} {z : Str}
theorem g_sl (h : te σ H fun x H1 => tl σ H1 fun l H2 => th σ H2 fun u H3 => r x l u H3 Q) : tSl r te tl th σ H Q := h
theorem g_part (h : te σ H fun x H1 => ∃ i, x = .int i ∧ QO (some i) H1) : tPart te σ H QO := h
theorem g_exi {A : Int → Prop} (h : A i) : ∃ j, V.int i = .int j ∧ A j := ⟨i, rfl, h⟩
theorem g_noPart (h : QO none H) : tNoPart σ H QO := h
theorem g_slL (h : SqL K H a xs) (q : ∀ p, H p = none → Q (.ref p) (upd H p (.lst (cutV xs lo hi)))) : rSlU K (.ref a) lo hi H Q := .inl ⟨a, xs, rfl, h, q⟩
theorem g_slS (hl : z.length ≤ sizeLine) (q : Q (.str (cutS z lo hi)) H) : rSlU K (.str z) lo hi H Q := .inr (.inr ⟨z, rfl, hl, q⟩)
end
theorem cutV_from {xs : List V} {n : Nat} : cutV xs (some (n : Int)) none = xs.drop n := by
  unfold cutV
  rw [HT.sIx_nat, HT.sIx_none]
  by_cases h : n ≤ xs.length
  · rw [Nat.min_eq_left h, List.take_of_length_le (by simp)]
  · rw [Nat.min_eq_right (by omega), List.drop_of_length_le (by omega), List.drop_of_length_le (by omega)]
    simp

/-! ### methods of built-in types, own methods: the written part named -/
section
variable {X : Cx} {K : PySem.W.Frag} {o e : Expr} {es : List Expr} {to : TE} {t : TA} {name : Str} {apos cpos pos : Pos} {T id : String} {r : V → List V → Hp → VK → Prop}
def rTyV (K : PySem.W.Frag) (T : String) : V → Hp → (Hp → Prop) → Prop := fun x H R => tyV K T x H ∧ R H
def tBMU (K : PySem.W.Frag) (T : String) (r : V → List V → Hp → VK → Prop) (to : TE) (t : TA) : TE := fun σ H Q => to σ H fun x H1 => rTyV K T x H1 fun H2 => t σ H2 fun xs H3 => r x xs H3 Q
end
theorem g_lenM {K : PySem.W.Frag} {H : Hp} {a : Addr} {Q : VK} {α : Type} {f : α → V} {ns : List α} (h : SqL K H a (ns.map f)) (q : Q (.int (ns.length : Nat)) H) : rLenU K [.ref a] H Q := g_lenL h (by rw [List.length_map]; exact q)
theorem g_ty_ {K : PySem.W.Frag} {T : String} {x : V} {H : Hp} {A : Prop} (h : tyV K T x H) (q : A) : tyV K T x H ∧ A := ⟨h, q⟩

/-! ### list comprehensions -/
def LcW (g : TG) (tt : TT) (te : TE) (vs : List Nat) (σ : L2.St) (Q : VK) : It → Hp → Prop := fun J H1 => ∀ D, H1 D = none → ∃ W : Nat → Nat → Hp → Prop, (∃ m, W 0 m (upd H1 D (.lst []))) ∧ ∀ i m H, W i m H →
  (J.stop i H ∧ Q (.ref D) H) ∨ (J.go i H ∧ ∃ Nx : Hp → Prop, (∀ H', Nx H' → ∃ m', m' < m ∧ W (i + 1) m' H') ∧ ∀ x H', J.yld i H x H' → g x (wipe σ vs) H' fun σ2 H2 => wipe σ2 vs = wipe σ vs ∧ tt σ2 H2 fun b H3 =>
    if b = true then te σ2 H3 fun y H4 => ∃ acc, H4 D = some (.lst acc) ∧ acc.length < sizeLine ∧ Nx (upd H4 D (.lst (acc ++ [y]))) else Nx H3)
section
variable {K : PySem.W.Frag} {σ : L2.St} {H : Hp} {g : TG} {tt : TT} {te : TE} {wi : TI} {vs : List Nat} {Q : VK} {lo : Int} {n : Nat} {a : Addr} {xs : List V} {QB : Bool → Hp → Prop}
theorem g_lc (h : wi σ H (LcW g tt te vs σ Q)) : tLc wi g tt te vs σ H Q := h
theorem g_yes (h : QB true H) : tYes σ H QB := h
theorem g_wipe {σ1 σ2 : L2.St} {A : Prop} (e : wipe σ1 vs = wipe σ2 vs) (h : A) : wipe σ1 vs = wipe σ2 vs ∧ A := ⟨e, h⟩
theorem l_range (Pv : Addr → Nat → Hp → Prop) (h0 : ∀ D, H D = none → Pv D 0 (upd H D (.lst [])))
    (hs : ∀ D, H D = none → ∀ i H', i < n → Pv D i H' → g (.int (lo + i)) (wipe σ vs) H' fun σ2 H2 => wipe σ2 vs = wipe σ vs ∧ tt σ2 H2 fun b H3 => if b = true then te σ2 H3 fun y H4 => ∃ acc, H4 D = some (.lst acc) ∧ acc.length < sizeLine ∧ Pv D (i + 1) (upd H4 D (.lst (acc ++ [y]))) else Pv D (i + 1) H3)
    (hd : ∀ D, H D = none → ∀ H', Pv D n H' → Q (.ref D) H') : LcW g tt te vs σ Q (Itr lo n) H := fun D hD => lc_range (Pv D) (h0 D hD) (hs D hD) (hd D hD)
theorem l_list (Pv : Addr → Nat → Hp → Prop) (h0 : ∀ D, H D = none → Pv D 0 (upd H D (.lst []))) (hl : ∀ D, H D = none → ∀ i H', i ≤ xs.length → Pv D i H' → SqL K H' a xs)
    (hs : ∀ D, H D = none → ∀ i x H', xs[i]? = some x → Pv D i H' → g x (wipe σ vs) H' fun σ2 H2 => wipe σ2 vs = wipe σ vs ∧ tt σ2 H2 fun b H3 => if b = true then te σ2 H3 fun y H4 => ∃ acc, H4 D = some (.lst acc) ∧ acc.length < sizeLine ∧ Pv D (i + 1) (upd H4 D (.lst (acc ++ [y]))) else Pv D (i + 1) H3)
    (hd : ∀ D, H D = none → ∀ H', Pv D xs.length H' → Q (.ref D) H') : LcW g tt te vs σ Q (Itl K a) H := fun D hD => lc_list (Pv D) (h0 D hD) (hl D hD) (hs D hD) (hd D hD)
theorem l_tup (Pv : Addr → Nat → Hp → Prop) (h0 : ∀ D, H D = none → Pv D 0 (upd H D (.lst []))) (hl : ∀ D, H D = none → ∀ i H', i ≤ xs.length → Pv D i H' → SqT K H' a xs)
    (hs : ∀ D, H D = none → ∀ i x H', xs[i]? = some x → Pv D i H' → g x (wipe σ vs) H' fun σ2 H2 => wipe σ2 vs = wipe σ vs ∧ tt σ2 H2 fun b H3 => if b = true then te σ2 H3 fun y H4 => ∃ acc, H4 D = some (.lst acc) ∧ acc.length < sizeLine ∧ Pv D (i + 1) (upd H4 D (.lst (acc ++ [y]))) else Pv D (i + 1) H3)
    (hd : ∀ D, H D = none → ∀ H', Pv D xs.length H' → Q (.ref D) H') : LcW g tt te vs σ Q (Itt K a) H := fun D hD => lc_tup (Pv D) (h0 D hD) (hl D hD) (hs D hD) (hd D hD)
end
section
variable {H H1 : Hp} {L : List (Addr × HO)} {a b : Addr} {o o' u u' : HO}
/-- two objects have changed -/
theorem Has.call2 (M : Has H L) (k : Keep [a, b] H H1) (i j : Nat) (hi : L[i]? = some (a, o)) (hj : L[j]? = some (b, u)) (hij : i ≠ j) (e1 : H1 a = some o') (e2 : H1 b = some u') : Has H1 ((L.set i (a, o')).set j (b, u')) := by
  have nab : a ≠ b := M.ne i j hi hj hij
  have k1 : Keep [a] H (upd H1 b u) := fun x w e n => by
    by_cases hx : x = b
    · subst hx
      rw [upd_same]
      exact (M.get j hj).symm.trans e
    · rw [upd_ne hx]
      refine k x w e ?_
      simp only [List.mem_cons, List.not_mem_nil, or_false, not_or]
      exact ⟨fun z => n (List.mem_singleton.mpr z), hx⟩
  have M1 : Has (upd H1 b u) (L.set i (a, o')) := M.call1 k1 i hi (by rw [upd_ne nab]; exact e1)
  have hj' : (L.set i (a, o'))[j]? = some (b, u) := by rw [List.getElem?_set_ne hij]; exact hj
  have M2 := M1.set (o' := u') j hj'
  have e : upd (upd H1 b u) b u' = H1 := by
    rw [upd_upd]
    funext x
    by_cases hx : x = b
    · subst hx
      rw [upd_same, e2]
    · rw [upd_ne hx]
  rw [e] at M2
  exact M2
end

/-! ### None asked -/
def rIsN (neg : Bool) : R2 := fun x y H Q => y = .non ∧ Q (.bl (if neg then !decide (x = .non) else decide (x = .non))) H
theorem o_isN {X : Cx} : OpR X (compareOp .Is) (rIsN false) := op_isN
theorem o_notN {X : Cx} : OpR X (compareOp .IsNot) (rIsN true) := op_notN
section
variable {H : Hp} {Q : VK} {i : Int} {z : Str} {b : Bool} {a : Addr}
theorem g_isNn (h : Q (.bl true) H) : rIsN false .non .non H Q := ⟨rfl, h⟩
theorem g_isNi (h : Q (.bl false) H) : rIsN false (.int i) .non H Q := ⟨rfl, h⟩
theorem g_isNs (h : Q (.bl false) H) : rIsN false (.str z) .non H Q := ⟨rfl, h⟩
theorem g_isNb (h : Q (.bl false) H) : rIsN false (.bl b) .non H Q := ⟨rfl, h⟩
theorem g_isNr (h : Q (.bl false) H) : rIsN false (.ref a) .non H Q := ⟨rfl, h⟩
theorem g_noNn (h : Q (.bl false) H) : rIsN true .non .non H Q := ⟨rfl, h⟩
theorem g_noNi (h : Q (.bl true) H) : rIsN true (.int i) .non H Q := ⟨rfl, h⟩
theorem g_noNs (h : Q (.bl true) H) : rIsN true (.str z) .non H Q := ⟨rfl, h⟩
theorem g_noNb (h : Q (.bl true) H) : rIsN true (.bl b) .non H Q := ⟨rfl, h⟩
theorem g_noNr (h : Q (.bl true) H) : rIsN true (.ref a) .non H Q := ⟨rfl, h⟩
end

/-! ### list.index, min and max of a list -/
def rIndexU (K : PySem.W.Frag) : V → List V → Hp → VK → Prop := rIndex K
theorem m_index {X : Cx} {K : PySem.W.Frag} (hK : X.K = K) : MtR X "list.index" (rIndexU K) := by
  subst hK
  exact mt_index
def rMin1 (K : PySem.W.Frag) : List V → Hp → VK → Prop := rMin K
def rMax1 (K : PySem.W.Frag) : List V → Hp → VK → Prop := rMax K
theorem c_min1 {X : Cx} {K : PySem.W.Frag} (hK : X.K = K) (hc : X.calm = true) : CallR X (.builtin "min") (rMin1 K) := by
  subst hK
  exact cr_min hc
theorem c_max1 {X : Cx} {K : PySem.W.Frag} (hK : X.K = K) (hc : X.calm = true) : CallR X (.builtin "max") (rMax1 K) := by
  subst hK
  exact cr_max hc
section
variable {K : PySem.W.Frag} {H : Hp} {Q : VK} {a : Addr} {ns : List Int} {ys : List V} {y z : V} {j : Nat}
theorem g_min1 (h : SqL K H a (ns.map V.int)) (h0 : 0 < ns.length) (q : ∀ m, m ∈ ns → (∀ y, y ∈ ns → m ≤ y) → Q (.int m) H) : rMin1 K [.ref a] H Q := ⟨a, ns, rfl, h, h0, q⟩
theorem g_max1 (h : SqL K H a (ns.map V.int)) (h0 : 0 < ns.length) (q : ∀ m, m ∈ ns → (∀ y, y ∈ ns → y ≤ m) → Q (.int m) H) : rMax1 K [.ref a] H Q := ⟨a, ns, rfl, h, h0, q⟩
theorem g_index (h : SqL K H a ys) (f1 : flatV y = true) (f2 : ys.all flatV = true) (hj : ys[j]? = some z) (e : eqV z y = true) (n : ∀ (m : Nat) (z' : V), m < j → ys[m]? = some z' → eqV z' y = false) (q : Q (.int (j : Nat)) H) : rIndexU K (.ref a) [y] H Q :=
  ⟨a, ys, y, j, z, rfl, rfl, h, f1, f2, hj, e, n, q⟩
end

/-! ### unpacking -/
section
variable {K : PySem.W.Frag} {σ : L2.St} {H : Hp} {R : L2.St → Hp → Prop} {t : TGs} {g : TG} {n : Nat} {a : Addr} {xs r : List V} {v : V}
theorem g_unp (h : SqT K H a xs) (hn : xs.length = n) (k : t xs σ H R) : gTup K n t (.ref a) σ H R := ⟨a, xs, rfl, h, hn, k⟩
theorem g_gc (k : g v σ H fun σ' H' => t r σ' H' R) : gCons g t (v :: r) σ H R := ⟨v, r, rfl, k⟩
theorem g_gn (k : R σ H) : gNil [] σ H R := ⟨rfl, k⟩
end
/-! e.f += x -/
def rFA (K : PySem.W.Frag) (tv : TE) (rd : V → V → Hp → VK → Prop) (f : Str) (σ : L2.St) : V → Hp → (Hp → Prop) → Prop := fun x H1 R => ∃ a C dx fs v, x = .ref a ∧ H1 a = some (.ins C dx fs) ∧ Cls K C ∧ NoAttr K C f ∧ fs.lookup f = some v ∧
  tv σ H1 fun y H2 => rd v y H2 fun z H3 => ∃ dx' fs', H3 a = some (.ins C dx' fs') ∧ fs'.length < 1000 ∧ R (upd H3 a (.ins C dx' (putF f z fs')))
section
variable {K : PySem.W.Frag} {σ : L2.St} {H : Hp} {D : Ends} {ta tv : TE} {a C dx : Addr} {fs fs' : List (Str × V)} {f : Str} {L : List (Addr × HO)} {R : Hp → Prop} {i j : Int} {rd : V → V → Hp → VK → Prop}
theorem g_fldaug (h : ta σ H fun x H1 => rFA K tv rd f σ x H1 (D.nx σ)) : sFldAug K ta tv rd f D σ H := h
theorem g_fa1 (M : Has H L) (n : Nat) (he : L[n]? = some (a, .ins C dx fs)) (cl : Cls K C) (na : NoAttr K C f) (l : fs.lookup f = some (.int i)) (hv : tv σ H fun y H2 => y = .int j ∧ H2 = H) (hl : fs.length < 1000) (e : putF f (.int (i + j)) fs = fs')
    (hm : ∀ {Q Q' : VK}, (∀ v H, Q v H → Q' v H) → tv σ H Q → tv σ H Q' := by intro Q Q' hh z; exact hh _ _ z) (k : Has (upd H a (.ins C dx fs')) (L.set n (a, .ins C dx fs')) → R (upd H a (.ins C dx fs'))) : rFA K tv rAdd f σ (.ref a) H R := by
  refine ⟨a, C, dx, fs, .int i, rfl, M.get n he, cl, na, l, hm (fun y H2 z => ?_) hv⟩
  obtain ⟨rfl, rfl⟩ := z
  exact ⟨i, j, rfl, rfl, dx, fs, M.get n he, hl, by rw [e]; exact k (M.set n he)⟩
end
theorem g_repT {H : Hp} {Q : VK} {a : Addr} {x : V} {k : Int} (h : H a = some (.tup [x])) (h0 : 1 ≤ k) (h1 : k ≤ 1000) (q : ∀ p H', Same H H' → H' p = some (.tup (List.replicate k.toNat x)) → Q (.ref p) H') : rMulU (.ref a) (.int k) H Q :=
  .inr ⟨a, k, [x], rfl, rfl, h, by simp, h0, h1, by simp, fun p H' sm hp => q p H' sm (by rw [rep_flat] at hp; exact hp)⟩
theorem g_isB {H : Hp} {Q : VK} {a b : Bool} (h : Q (.bl (decide (a = b))) H) : rIsB (.bl a) (.bl b) H Q := ⟨a, b, rfl, rfl, h⟩
theorem g_notB {H : Hp} {Q : VK} {a b : Bool} (h : Q (.bl (!decide (a = b))) H) : rNotB (.bl a) (.bl b) H Q := ⟨a, b, rfl, rfl, h⟩
/-! len(set(xs)) of ints, each once -/
def rLS (K : PySem.W.Frag) : V → Hp → VK → Prop := fun x H1 Q => ∃ (l : Addr) (ns : List Int), x = V.ref l ∧ SqL K H1 l (ns.map V.int) ∧ ns.length < 64 ∧ ns.Nodup ∧ Q (.int ns.length) H1
def tLS (K : PySem.W.Frag) (ta : TE) : TE := fun σ H Q => ta σ H fun x H1 => rLS K x H1 Q
theorem pe_lenSetU {X : Cx} {K : PySem.W.Frag} (hK : X.K = K) {a : Expr} {ta : TE} {p p2 q pos : Pos} (hc : X.calm = true) (hg : Gl X "len") (hm : X.mg "len" = none) (hg2 : Gl X "set") (hm2 : X.mg "set" = none) (ha : PE X a ta)
    (na : starEach [a] X.env = (false, eval a X.env) :: starEach [] X.env := by rfl) : PE X (.Call (.Name "len" p) [.Call (.Name "set" p2) [a] [] q] [] pos) (tLS K ta) := by
  subst hK
  exact pe_lenSetI hc hg hm hg2 hm2 ha na
section
variable {K : PySem.W.Frag} {σ : L2.St} {H : Hp} {ta : TE} {Q : VK} {l : Addr} {ns : List Int}
theorem g_lset (h : ta σ H fun x H1 => rLS K x H1 Q) : tLS K ta σ H Q := h
theorem g_ls (h : SqL K H l (ns.map V.int)) (hl : ns.length < 64) (hn : ns.Nodup) (q : Q (.int (ns.length : Nat)) H) : rLS K (.ref l) H Q := ⟨l, ns, rfl, h, hl, hn, q⟩
end
theorem _root_.G.Has.right {H : Hp} {X C : List (Addr × HO)} (M : Has H (X ++ C)) : Has H C := M.sub (List.sublist_append_right X C)
theorem _root_.G.Has.left {H : Hp} {X C : List (Addr × HO)} (M : Has H (X ++ C)) : Has H X := M.sub (List.sublist_append_left X C)
theorem _root_.G.Has.frameR {H H' : Hp} {X C C' : List (Addr × HO)} (M : Has H (X ++ C)) (k : Keep (C.map (·.1)) H H') (M' : Has H' C') (e : C'.map (·.1) = C.map (·.1)) : Has H' (X ++ C') := by
  have z := Has.frame (X := X) (L := C) (Y := []) (L' := C') (by rw [List.append_nil]; exact M) k M' e
  rw [List.append_nil] at z
  exact z
/-! texts that stand written: equal, not equal -/
section
variable {K : PySem.W.Frag} {H : Hp} {Q : VK} {z z' : Str}
theorem g_eqSS (h : Q (.bl true) H) : rEqU K false (.str z) (.str z) H Q := g_eqS (by rw [decide_eq_true (rfl : z = z)]; exact h)
theorem g_eqSx (e : ¬ z = z') (h : Q (.bl false) H) : rEqU K false (.str z) (.str z') H Q := g_eqS (by rw [decide_eq_false e]; exact h)
theorem g_neSS (h : Q (.bl false) H) : rEqU K true (.str z) (.str z) H Q := g_neS (by rw [decide_eq_true (rfl : z = z)]; exact h)
theorem g_neSx (e : ¬ z = z') (h : Q (.bl true) H) : rEqU K true (.str z) (.str z') H Q := g_neS (by rw [decide_eq_false e]; exact h)
end
theorem pg_tupU {X : Cx} {K : PySem.W.Frag} (hK : X.K = K) {es : List Expr} {k : Nat} {t : TGs} {n : Nat} {pos : Pos} (hc : X.calm = true) (h : PGs X es t)
    (hn : (assignEach es X.env).length = n := by rfl) (hst : (assignEach es X.env).findIdx? (·.1) = none := by rfl) : PG X (.Tuple es k pos) (gTup K n t) := by
  subst hK
  exact pg_tup hc h hn hst
/-! zip of two lists, of two tuples; a tuple's item by a written place -/
def rZipU (K : PySem.W.Frag) : List V → Hp → (It → Hp → Prop) → Prop := fun vs H1 R => ∃ a b xs ys, vs = [.ref a, .ref b] ∧ ((SqL K H1 a xs ∧ SqL K H1 b ys ∧ R (Itz K a b) H1) ∨ (SqT K H1 a xs ∧ SqT K H1 b ys ∧ R (RZ.ItzT K a b) H1))
theorem pi_zipU {X : Cx} {K : PySem.W.Frag} (hK : X.K = K) {e e2 : Expr} {ta : TA} {p pos tpos : Pos} {elts : List Expr} {kk : Nat} (hg : Gl X "zip") (hm : X.mg "zip" = none) (ha : PA X [e, e2] ta)
    (hs : starEach [e, e2] X.env = (false, eval e X.env) :: starEach [e2] X.env := by rfl) (hpl : (backTo pos (starEach [e2] X.env)).any (·.1) = false := by rfl) :
    PI X (.Tuple elts kk tpos) (.Call (.Name "zip" p) [e, e2] [] pos) (iR (rZipU K) ta) := by
  subst hK
  exact RZ.pi_zipA hg hm ha hs hpl
section
variable {K : PySem.W.Frag} {H : Hp} {Q : VK} {a b : Addr} {xs ys : List V} {i : Int} {v : V} {R : It → Hp → Prop} {td ty tx : TE} {σ : L2.St} {g : TG} {tb : TS} {D : Ends}
theorem g_ixA (h : H a = some (.tup xs)) (h0 : 0 ≤ i) (hv : xs[i.toNat]? = some v) (q : Q v H) : rIxU K (.ref a) (.int i) H Q := g_ixT (SqT.of h) (n := i.toNat) (Int.toNat_of_nonneg h0).symm hv q
theorem g_zipT (h1 : SqT K H a xs) (h2 : SqT K H b ys) (h : R (RZ.ItzT K a b) H) : rZipU K [.ref a, .ref b] H R := ⟨a, b, xs, ys, rfl, .inr ⟨h1, h2, h⟩⟩
theorem f_zipT (hl : xs.length = ys.length) (Pv : Nat → L2.St → Hp → Prop) (h0 : Pv 0 σ H) (hq : ∀ i σ H, Pv i σ H → SqT K H a xs ∧ SqT K H b ys)
    (hs : ∀ (i : Nat) (x y : V) (T : Addr) (σ : L2.St) (H : Hp), xs[i]? = some x → ys[i]? = some y → Pv i σ H → H T = none → g (.ref T) σ (upd H T (.tup [x, y])) fun σ2 H2 => tb { D with nx := Pv (i + 1), ct := Pv (i + 1), bk := D.nx } σ2 H2) (hd : ∀ σ H, Pv xs.length σ H → D.nx σ H) : ForW g tb D σ (RZ.ItzT K a b) H := RZ.for_zipT hl Pv h0 hq hs hd
theorem g_dget2 (h : td σ H fun x H1 => ∃ a, x = .ref a ∧ IsD H1 a ∧ ty σ H1 fun y H2 => tx σ H2 fun z H3 => ∃ o, DGet H3 a y o ∧ Q (o.getD z) H3) : tDGet2 td ty tx σ H Q := h
theorem g_dget1 (h : td σ H fun x H1 => ∃ a, x = .ref a ∧ IsD H1 a ∧ ty σ H1 fun y H2 => ∃ o, DGet H2 a y o ∧ Q (o.getD .non) H2) : tDGet1 td ty σ H Q := h
theorem g_isD {kvs : List (Key × V)} {A : Addr → Prop} (h : H a = some (.dK kvs)) (q : A a) : ∃ b, V.ref a = .ref b ∧ IsD H b ∧ A b := ⟨a, rfl, .inl ⟨kvs, .inl h⟩, q⟩
end
end G

set_option Elab.async false
set_option linter.all false
set_option maxRecDepth 100000
set_option maxHeartbeats 4000000
/-! Data that never changes: None, bools, ints, texts, tuples of such. -/
namespace G
open PySem PySem.Spec PyProof.Rows L2

mutual
/-- the value v is the data d, by the heap H -/
inductive Im (H : Hp) : V → PyData → Prop
  | non : Im H .non .none
  | bl (b : Bool) : Im H (.bl b) (.bool b)
  | int (i : Int) : Im H (.int i) (.int i)
  | str (x : Str) : Im H (.str x) (.str x)
  | tup {a : Addr} {xs : List V} {ds : List PyData} : H a = some (.tup xs) → Ims H xs ds → Im H (.ref a) (.tuple ds)
inductive Ims (H : Hp) : List V → List PyData → Prop
  | nil : Ims H [] []
  | cons {v : V} {vs : List V} {d : PyData} {ds : List PyData} : Im H v d → Ims H vs ds → Ims H (v :: vs) (d :: ds)
end
section
variable {K : PySem.W.Frag} {H H' : Hp} {v x y : V} {d e : PyData} {vs xs : List V} {ds es : List PyData} {a b p : Addr} {ms : List Addr} {i : Int} {z : Str}
mutual
theorem Im.mono : ∀ {v : V} {d : PyData}, Im H v d → (∀ a xs, H a = some (.tup xs) → H' a = some (.tup xs)) → Im H' v d
  | _, _, .non, _ => .non
  | _, _, .bl b, _ => .bl b
  | _, _, .int i, _ => .int i
  | _, _, .str x, _ => .str x
  | _, _, .tup h hs, k => .tup (k _ _ h) (Ims.mono hs k)
theorem Ims.mono : ∀ {vs : List V} {ds : List PyData}, Ims H vs ds → (∀ a xs, H a = some (.tup xs) → H' a = some (.tup xs)) → Ims H' vs ds
  | _, _, .nil, _ => .nil
  | _, _, .cons h t, k => .cons (Im.mono h k) (Ims.mono t k)
end
theorem Im.same (h : Im H v d) (k : Same H H') : Im H' v d := h.mono fun a xs e => k a _ e
theorem Ims.same (h : Ims H vs ds) (k : Same H H') : Ims H' vs ds := h.mono fun a xs e => k a _ e
/-- no tuple stands at ms -/
def NoTup (H : Hp) (ms : List Addr) : Prop := ∀ m ∈ ms, ∀ xs, H m ≠ some (.tup xs)
theorem NoTup.nil : NoTup H [] := fun _ h => nomatch h
theorem NoTup.one {o : HO} (h : H a = some o) (n : ∀ xs, o ≠ .tup xs) : NoTup H [a] := fun m hm xs e => by
  rw [List.mem_singleton.mp hm, h] at e
  exact n xs (Option.some.inj e)
theorem NoTup.new (h : H a = none) : NoTup H [a] := fun m hm xs e => by
  rw [List.mem_singleton.mp hm, h] at e
  cases e
theorem NoTup.cons {o : HO} (h : H a = some o) (n : ∀ xs, o ≠ .tup xs) (t : NoTup H ms) : NoTup H (a :: ms) := fun m hm xs e => by
  rcases List.mem_cons.mp hm with z | z
  · rw [z, h] at e
    exact n xs (Option.some.inj e)
  · exact t m z xs e
theorem Im.keep (h : Im H v d) (k : Keep ms H H') (n : NoTup H ms) : Im H' v d := h.mono fun a xs e => k a _ e fun z => n a z xs e
theorem Ims.keep (h : Ims H vs ds) (k : Keep ms H H') (n : NoTup H ms) : Ims H' vs ds := h.mono fun a xs e => k a _ e fun z => n a z xs e
mutual
theorem Im.dp : ∀ {v : V} {d : PyData}, Im H v d → Dp K H v d
  | _, _, .non => .non
  | _, _, .bl b => .bl b
  | _, _, .int i => .int i
  | _, _, .str x => .str x
  | _, _, .tup h hs => .tup (SqT.of h) (Ims.dp hs)
theorem Ims.dp : ∀ {vs : List V} {ds : List PyData}, Ims H vs ds → DpAll K H vs ds
  | _, _, .nil => .nil
  | _, _, .cons h t => .cons (Im.dp h) (Ims.dp t)
end
theorem Ims.length : ∀ {vs : List V} {ds : List PyData}, Ims H vs ds → vs.length = ds.length
  | _, _, .nil => rfl
  | _, _, .cons _ t => by rw [List.length_cons, List.length_cons, t.length]
theorem Ims.get : ∀ {vs : List V} {ds : List PyData} {n : Nat} {d : PyData}, Ims H vs ds → ds[n]? = some d → ∃ v, vs[n]? = some v ∧ Im H v d
  | _, _, n, _, .nil, e => by simp at e
  | _, _, 0, _, .cons h t, e => by
    simp only [List.getElem?_cons_zero, Option.some.injEq] at e
    subst e
    exact ⟨_, rfl, h⟩
  | _, _, n + 1, _, .cons h t, e => by
    simp only [List.getElem?_cons_succ] at e
    obtain ⟨v, h1, h2⟩ := t.get e
    exact ⟨v, by simpa using h1, h2⟩
theorem Ims.append : ∀ {vs xs : List V} {ds es : List PyData}, Ims H vs ds → Ims H xs es → Ims H (vs ++ xs) (ds ++ es)
  | _, _, _, _, .nil, s => s
  | _, _, _, _, .cons h t, s => .cons h (t.append s)
theorem Ims.take : ∀ {vs : List V} {ds : List PyData} (n : Nat), Ims H vs ds → Ims H (vs.take n) (ds.take n)
  | _, _, 0, _ => .nil
  | _, _, _ + 1, .nil => .nil
  | _, _, n + 1, .cons h t => .cons h (t.take n)
theorem Ims.drop : ∀ {vs : List V} {ds : List PyData} (n : Nat), Ims H vs ds → Ims H (vs.drop n) (ds.drop n)
  | _, _, 0, h => h
  | _, _, _ + 1, .nil => .nil
  | _, _, n + 1, .cons _ t => t.drop n
theorem Ims.one (h : Im H v d) : Ims H [v] [d] := .cons h .nil
theorem Im.int_inv (h : Im H v (.int i)) : v = .int i := by cases h; rfl
theorem Im.bl_inv {b : Bool} (h : Im H v (.bool b)) : v = .bl b := by cases h; rfl
theorem Im.str_inv (h : Im H v (.str z)) : v = .str z := by cases h; rfl
theorem Im.non_inv (h : Im H v .none) : v = .non := by cases h; rfl
theorem Im.tup_inv (h : Im H v (.tuple ds)) : ∃ a xs, v = .ref a ∧ H a = some (.tup xs) ∧ Ims H xs ds := by
  cases h with
  | tup h hs => exact ⟨_, _, rfl, h, hs⟩
/-- the items of ds[lo:hi] -/
def cutD (ds : List PyData) (lo hi : Option Int) : List PyData := (ds.drop (HT.sIx ds.length 0 lo)).take (HT.sIx ds.length ds.length hi - HT.sIx ds.length 0 lo)
theorem Ims.cut {lo hi : Option Int} (h : Ims H vs ds) : Ims H (cutV vs lo hi) (cutD ds lo hi) := by
  unfold cutV cutD
  rw [h.length]
  exact (h.drop _).take _
theorem cutD_to {n : Nat} : cutD ds none (some (n : Int)) = ds.take n := by
  unfold cutD
  rw [HT.sIx_nat, HT.sIx_none, Nat.sub_zero, List.drop_zero]
  by_cases h : n ≤ ds.length
  · rw [Nat.min_eq_left h]
  · rw [Nat.min_eq_right (by omega), List.take_of_length_le (Nat.le_refl _), List.take_of_length_le (by omega)]
theorem cutD_from {n : Nat} : cutD ds (some (n : Int)) none = ds.drop n := by
  unfold cutD
  rw [HT.sIx_nat, HT.sIx_none]
  by_cases h : n ≤ ds.length
  · rw [Nat.min_eq_left h, List.take_of_length_le (by simp)]
  · rw [Nat.min_eq_right (by omega), List.drop_of_length_le (by omega), List.drop_of_length_le (by omega)]
    simp
theorem cutD_length (ds : List PyData) (lo hi : Option Int) : (cutD ds lo hi).length ≤ ds.length := by
  unfold cutD
  rw [List.length_take, List.length_drop]
  omega
end
/-! ### the steps over data -/
section
variable {K : PySem.W.Frag} {H : Hp} {Q : VK} {v x y : V} {d e : PyData} {vs xs : List V} {ds es : List PyData} {a b p : Addr} {i : Int} {z : Str} {n : Nat} {lo hi : Option Int} {R : It → Hp → Prop} {QB : Bool → Hp → Prop}
/-- a new tuple of data -/
theorem m_new (h : Ims H xs ds) (hl : ds.length ≤ 100000) (k : ∀ p H', Same H H' → H p = none → Im H' (.ref p) (.tuple ds) → Q (.ref p) H') : rTupN xs H Q :=
  ⟨szle (by rw [h.length]; exact hl), fun p hp => k p _ (Same.new hp) hp (.tup upd_same (h.same (Same.new hp)))⟩
theorem m_ix (h : Im H x (.tuple ds)) (e : i = (n : Int)) (hd : ds[n]? = some d) (k : ∀ v, Im H v d → Q v H) : rIxU K x (.int i) H Q := by
  obtain ⟨a, xs, rfl, h1, h2⟩ := h.tup_inv
  obtain ⟨v, hv, hm⟩ := h2.get hd
  exact g_ixT (SqT.of h1) e hv (k v hm)
theorem m_len (h : Im H x (.tuple ds)) (q : Q (.int (ds.length : Nat)) H) : rLenU K [x] H Q := by
  obtain ⟨a, xs, rfl, h1, h2⟩ := h.tup_inv
  refine g_lenT (SqT.of h1) ?_
  rw [h2.length]
  exact q
theorem m_eq (hx : Im H x d) (hy : Im H y e) (s1 : SeqAt.shaped d = true) (s2 : SeqAt.shaped e = true) (h : Q (.bl (PyData.eqv d e)) H) : rEqU K false x y H Q := g_eqD hx.dp hy.dp s1 s2 h
theorem m_ne (hx : Im H x d) (hy : Im H y e) (s1 : SeqAt.shaped d = true) (s2 : SeqAt.shaped e = true) (h : Q (.bl (!PyData.eqv d e)) H) : rEqU K true x y H Q := g_neD hx.dp hy.dp s1 s2 h
theorem m_cat (hx : Im H x (.tuple ds)) (hy : Im H y (.tuple es)) (hl : ds.length + es.length ≤ 100000) (k : ∀ p H', Same H H' → Im H' (.ref p) (.tuple (ds ++ es)) → Q (.ref p) H') : rAddU K x y H Q := by
  obtain ⟨a, xs, rfl, h1, h2⟩ := hx.tup_inv
  obtain ⟨b, ys, rfl, h3, h4⟩ := hy.tup_inv
  refine .inr ⟨a, b, xs, ys, rfl, rfl, SqT.of h1, SqT.of h3, szle (by rw [h2.length, h4.length]; exact hl), fun e => ?_, fun _ e => ?_, fun _ _ p hp => ?_⟩
  · subst e
    have : ds = [] := by cases h2; rfl
    subst this
    exact k b H (Same.refl H) hy
  · subst e
    have : es = [] := by cases h4; rfl
    subst this
    rw [List.append_nil] at k
    exact k a H (Same.refl H) hx
  · exact k p _ (Same.new hp) (.tup upd_same ((h2.append h4).same (Same.new hp)))
theorem m_sl (hx : Im H x (.tuple ds)) (k : ∀ p H', Same H H' → Im H' (.ref p) (.tuple (cutD ds lo hi)) → Q (.ref p) H') : rSlU K x lo hi H Q := by
  obtain ⟨a, xs, rfl, h1, h2⟩ := hx.tup_inv
  refine .inr (.inl ⟨a, xs, rfl, SqT.of h1, fun e => ?_, fun _ p hp => ?_⟩)
  · have z : cutD ds lo hi = ds := by
      unfold cutD
      rw [← h2.length, e.1, e.2, List.drop_zero, Nat.sub_zero, h2.length, List.take_length]
    rw [z] at k
    exact k a H (Same.refl H) hx
  · exact k p _ (Same.new hp) (.tup upd_same (h2.cut.same (Same.new hp)))
theorem m_isiT {T' : String} {b : Bool} (hx : Im H x (.tuple ds)) (hk : kitB "tuple" T' = some b) (h : Q (.bl b) H) : rIsi K [x, .ty T'] H Q := by
  obtain ⟨a, xs, rfl, h1, _⟩ := hx.tup_inv
  exact isi_of (.base (.tup h1)) hk h
theorem m_seq (hx : Im H x (.tuple ds)) (k : ∀ a xs, x = .ref a → H a = some (.tup xs) → Ims H xs ds → R (Itt K a) H) : (∃ b ys, x = .ref b ∧ SqL K H b ys ∧ R (Itl K b) H) ∨ ∃ b ys, x = .ref b ∧ SqT K H b ys ∧ R (Itt K b) H := by
  obtain ⟨a, xs, e, h1, h2⟩ := hx.tup_inv
  exact .inr ⟨a, xs, e, SqT.of h1, k a xs e h1 h2⟩
end
/-! tuple(..) -/
def rTupU (K : PySem.W.Frag) : List V → Hp → VK → Prop := fun vs H Q => ∃ x, vs = [x] ∧ kTup K x H Q
theorem c_tuple {X : Cx} {K : PySem.W.Frag} (hK : X.K = K) : CallR X (.type "tuple") (rTupU K) := by
  subst hK
  rintro pins s σ H _ us Q I r ⟨x, rfl, h⟩
  obtain ⟨u, rfl, ru⟩ := vals1 r
  exact rl_tuple pins s σ H x u Q I ru h
section
variable {K : PySem.W.Frag} {H : Hp} {Q : VK} {x : V} {a : Addr} {xs : List V} {ds : List PyData}
theorem m_tupleT (hx : Im H x (.tuple ds)) (q : Q x H) : rTupU K [x] H Q := by
  obtain ⟨a, xs, rfl, h1, _⟩ := hx.tup_inv
  exact ⟨_, rfl, .inr ⟨a, xs, rfl, SqT.of h1, q⟩⟩
theorem m_tupleL (h : SqL K H a xs) (hm : Ims H xs ds) (k : ∀ p H', Same H H' → H p = none → Im H' (.ref p) (.tuple ds) → Q (.ref p) H') : rTupU K [.ref a] H Q :=
  ⟨_, rfl, .inl ⟨a, xs, rfl, h, fun p hp => k p _ (Same.new hp) hp (.tup upd_same (hm.same (Same.new hp)))⟩⟩
end
/-! ### what == says -/
theorem shaped_of {d : PyData} (h : d.canLay0 = true) (h2 : d.depth ≤ 64) : SeqAt.shaped d = true := by
  unfold SeqAt.shaped
  rw [h, decide_eq_true h2]
  rfl
theorem layAll_mem : ∀ {ds : List PyData}, (∀ d ∈ ds, d.canLay0 = true) → PyData.canLayAll0 ds = true
  | [], _ => rfl
  | d :: ds, h => by
    rw [PyData.canLayAll0, h d List.mem_cons_self, layAll_mem fun x hx => h x (List.mem_cons_of_mem _ hx)]
    rfl
theorem depthAll_mem {k : Nat} : ∀ {ds : List PyData}, (∀ d ∈ ds, d.depth ≤ k) → PyData.depthAll ds ≤ k
  | [], _ => by rw [PyData.depthAll]; exact Nat.zero_le _
  | d :: ds, h => by
    rw [PyData.depthAll]
    exact Nat.max_le.mpr ⟨h d List.mem_cons_self, depthAll_mem fun x hx => h x (List.mem_cons_of_mem _ hx)⟩
/-- data of depth at most k -/
def Lay (k : Nat) (d : PyData) : Prop := d.canLay0 = true ∧ d.depth ≤ k
theorem Lay.shaped {k : Nat} {d : PyData} (h : Lay k d) (hk : k ≤ 64) : SeqAt.shaped d = true := shaped_of h.1 (Nat.le_trans h.2 hk)
theorem Lay.tup {k : Nat} {ds : List PyData} (h : ∀ d ∈ ds, Lay k d) : Lay (k + 1) (.tuple ds) :=
  ⟨by rw [PyData.canLay0]; exact layAll_mem fun d hd => (h d hd).1, by rw [PyData.depth]; exact Nat.succ_le_succ (depthAll_mem fun d hd => (h d hd).2)⟩
theorem Lay.int {k : Nat} {i : Int} : Lay k (.int i) := ⟨by rw [PyData.canLay0], by rw [PyData.depth]; exact Nat.zero_le _⟩
theorem Lay.bl {k : Nat} {b : Bool} : Lay k (.bool b) := ⟨by rw [PyData.canLay0], by rw [PyData.depth]; exact Nat.zero_le _⟩
theorem Lay.non {k : Nat} : Lay k .none := ⟨by rw [PyData.canLay0], by rw [PyData.depth]; exact Nat.zero_le _⟩
theorem Lay.str {k : Nat} {z : Str} (h : PyData.strOk z = true) : Lay k (.str z) := ⟨by rw [PyData.canLay0]; exact h, by rw [PyData.depth]; exact Nat.zero_le _⟩
theorem Lay.mono {k k' : Nat} {d : PyData} (h : Lay k d) (hk : k ≤ k') : Lay k' d := ⟨h.1, Nat.le_trans h.2 hk⟩
theorem Lay.refl {k : Nat} {d : PyData} (h : Lay k d) : PyData.eqv d d = true := SeqAt.eqv_refl d h.1
theorem inV_strs {k : Str} {ks : List Str} : inV (.str k) (ks.map V.str) = ks.contains k := by
  unfold inV
  induction ks with
  | nil => rfl
  | cons z ks ih =>
    rw [List.map_cons, List.any_cons, ih, List.contains_cons]
    congr 1
    have e : eqV (.str z) (.str k) = (z == k) := rfl
    rw [e]
    by_cases h : z = k
    · subst h; rfl
    · rw [beq_eq_false_iff_ne.mpr h, beq_eq_false_iff_ne.mpr (Ne.symm h)]
theorem flat_strs {ks : List Str} : (ks.map V.str).all flatV = true := by
  induction ks with
  | nil => rfl
  | cons z ks ih => rw [List.map_cons, List.all_cons, ih]; rfl
/-- a text within a new tuple, a new list of texts -/
theorem g_inTs {K : PySem.W.Frag} {H : Hp} {Q : VK} {k : Str} {p : Addr} {ks : List Str} (h : H p = some (.tup (ks.map V.str)) ∨ H p = some (.lst (ks.map V.str))) (q : Q (.bl (ks.contains k)) H) : rInU K false (.str k) (.ref p) H Q := by
  refine .inl ⟨p, ks.map V.str, rfl, ?_, rfl, flat_strs, ?_⟩
  · rcases h with h | h
    · exact .inr (SqT.of h)
    · exact .inl (SqL.of h)
  · rw [inV_strs]
    exact q
theorem g_niTs {K : PySem.W.Frag} {H : Hp} {Q : VK} {k : Str} {p : Addr} {ks : List Str} (h : H p = some (.tup (ks.map V.str)) ∨ H p = some (.lst (ks.map V.str))) (q : Q (.bl (!ks.contains k)) H) : rInU K true (.str k) (.ref p) H Q := by
  refine .inl ⟨p, ks.map V.str, rfl, ?_, rfl, flat_strs, ?_⟩
  · rcases h with h | h
    · exact .inr (SqT.of h)
    · exact .inl (SqL.of h)
  · rw [inV_strs]
    exact q
theorem map_take_succ {α β : Type} {f : α → β} {ds : List α} {i : Nat} {d : α} (h : ds[i]? = some d) : (ds.take (i + 1)).map f = (ds.take i).map f ++ [f d] := by
  rw [List.take_add_one, h, List.map_append]
  rfl
theorem filter_take_succ {α : Type} {f : α → Bool} {ds : List α} {i : Nat} {d : α} (h : ds[i]? = some d) : (ds.take (i + 1)).filter f = (ds.take i).filter f ++ (if f d then [d] else []) := by
  rw [List.take_add_one, h, List.filter_append]
  congr 1
  show [d].filter f = _
  rw [List.filter_cons]
  rfl
/-! ### data of any kind, looked at -/
def isI : PyData → Bool
  | .int _ => true
  | .bool _ => true
  | _ => false
def isB : PyData → Bool
  | .bool _ => true
  | _ => false
def isS : PyData → Bool
  | .str _ => true
  | _ => false
def isT : PyData → Bool
  | .tuple _ => true
  | _ => false
def strD (ks : List Str) : PyData → Bool
  | .str z => ks.contains z
  | _ => false
def numD (lo hi : Int) : PyData → Bool
  | .int i => decide (lo ≤ i) && decide (i ≤ hi)
  | _ => false
def lenI (n : Int) : PyData → Bool
  | .tuple ds => decide ((ds.length : Int) = n)
  | _ => false
section
variable {K : PySem.W.Frag} {H : Hp} {Q : VK} {x y : V} {d e : PyData} {vs xs : List V} {ds es : List PyData} {a b p : Addr} {i lo hi : Int} {z : Str} {n : Nat} {ks : List Str}
theorem m_isiI (hx : Im H x d) (q : Q (.bl (isI d)) H) : rIsi K [x, .ty "int"] H Q := by
  cases hx with
  | non => exact g_isiNi q
  | bl b => exact g_isiBi q
  | int i => exact g_isiIi q
  | str z => exact g_isiSi q
  | tup h hs => exact m_isiT (.tup h hs) k_ti q
theorem m_isiB (hx : Im H x d) (q : Q (.bl (isB d)) H) : rIsi K [x, .ty "bool"] H Q := by
  cases hx with
  | non => exact g_isiNb q
  | bl b => exact g_isiBb q
  | int i => exact g_isiIb q
  | str z => exact g_isiSb q
  | tup h hs => exact m_isiT (.tup h hs) k_tb q
theorem m_isiS (hx : Im H x d) (q : Q (.bl (isS d)) H) : rIsi K [x, .ty "str"] H Q := by
  cases hx with
  | non => exact g_isiNs q
  | bl b => exact g_isiBs q
  | int i => exact g_isiIs q
  | str z => exact g_isiSs q
  | tup h hs => exact m_isiT (.tup h hs) k_ts q
theorem m_isiU (hx : Im H x d) (q : Q (.bl (isT d)) H) : rIsi K [x, .ty "tuple"] H Q := by
  cases hx with
  | non => exact g_isiNt q
  | bl b => exact g_isiBt q
  | int i => exact g_isiIt q
  | str z => exact g_isiSt q
  | tup h hs => exact m_isiT (.tup h hs) k_tt q
theorem isT_inv (h : isT d = true) : ∃ ds, d = .tuple ds := by
  cases d <;> first | (cases h; done) | exact ⟨_, rfl⟩
theorem isS_inv (h : isS d = true) : ∃ z, d = .str z := by
  cases d <;> first | (cases h; done) | exact ⟨_, rfl⟩
theorem isB_inv (h : isB d = true) : ∃ b, d = .bool b := by
  cases d <;> first | (cases h; done) | exact ⟨_, rfl⟩
theorem num_inv (h : numD lo hi d = true) : ∃ i, d = .int i ∧ lo ≤ i ∧ i ≤ hi := by
  cases d <;> first | (cases h; done) | skip
  rename_i i
  replace h : (decide (lo ≤ i) && decide (i ≤ hi)) = true := h
  rw [Bool.and_eq_true, decide_eq_true_eq, decide_eq_true_eq] at h
  exact ⟨i, rfl, h.1, h.2⟩
theorem num_of (h1 : lo ≤ i) (h2 : i ≤ hi) : numD lo hi (.int i) = true := by
  show (decide (lo ≤ i) && decide (i ≤ hi)) = true
  rw [decide_eq_true h1, decide_eq_true h2]
  rfl
theorem str_inv (h : strD ks d = true) : ∃ z, d = .str z ∧ z ∈ ks := by
  cases d <;> first | (cases h; done) | skip
  rename_i z
  exact ⟨z, rfl, List.contains_iff_mem.mp h⟩
theorem len_inv (h : lenI (n : Int) d = true) : ∃ ds, d = .tuple ds ∧ ds.length = n := by
  cases d <;> first | (cases h; done) | skip
  rename_i ds
  replace h : decide ((ds.length : Int) = n) = true := h
  rw [decide_eq_true_eq] at h
  exact ⟨ds, rfl, by omega⟩
theorem len1 (h : lenI 1 d = true) : ∃ a, d = .tuple [a] := by
  obtain ⟨ds, rfl, hl⟩ := len_inv (n := 1) h
  match ds, hl with
  | [a], _ => exact ⟨a, rfl⟩
theorem len2 (h : lenI 2 d = true) : ∃ a b, d = .tuple [a, b] := by
  obtain ⟨ds, rfl, hl⟩ := len_inv (n := 2) h
  match ds, hl with
  | [a, b], _ => exact ⟨a, b, rfl⟩
theorem len3 (h : lenI 3 d = true) : ∃ a b c, d = .tuple [a, b, c] := by
  obtain ⟨ds, rfl, hl⟩ := len_inv (n := 3) h
  match ds, hl with
  | [a, b, c], _ => exact ⟨a, b, c, rfl⟩
theorem len4 (h : lenI 4 d = true) : ∃ a b c e, d = .tuple [a, b, c, e] := by
  obtain ⟨ds, rfl, hl⟩ := len_inv (n := 4) h
  match ds, hl with
  | [a, b, c, e], _ => exact ⟨a, b, c, e, rfl⟩
theorem len7 (h : lenI 7 d = true) : ∃ a b c e f g k, d = .tuple [a, b, c, e, f, g, k] := by
  obtain ⟨ds, rfl, hl⟩ := len_inv (n := 7) h
  match ds, hl with
  | [a, b, c, e, f, g, k], _ => exact ⟨a, b, c, e, f, g, k, rfl⟩
theorem Ims.cons_inv (h : Ims H vs (d :: ds)) : ∃ v ws, vs = v :: ws ∧ Im H v d ∧ Ims H ws ds := by
  cases h with
  | cons h t => exact ⟨_, _, rfl, h, t⟩
theorem Ims.nil_inv (h : Ims H vs []) : vs = [] := by
  cases h
  rfl
theorem Ims.mem : ∀ {vs : List V} {ds : List PyData} {v : V}, Ims H vs ds → v ∈ vs → ∃ d ∈ ds, Im H v d
  | _, _, _, .nil, h => by cases h
  | _, _, _, .cons h t, hv => by
    rcases List.mem_cons.mp hv with rfl | hv
    · exact ⟨_, List.mem_cons_self, h⟩
    · obtain ⟨d, hd, hi⟩ := t.mem hv
      exact ⟨d, List.mem_cons_of_mem _ hd, hi⟩
theorem ims_strs : ∀ (ks : List Str), Ims H (ks.map V.str) (ks.map PyData.str)
  | [] => .nil
  | z :: ks => .cons (.str z) (ims_strs ks)
theorem any_strs : ∀ (ks : List Str), ((ks.map PyData.str).any fun z => PyData.eqv z d) = strD ks d
  | [] => by cases d <;> rfl
  | z :: ks => by
    rw [List.map_cons, List.any_cons, any_strs ks]
    cases d <;> first | (unfold PyData.eqv strD; rfl) | skip
    rename_i y
    show (PyData.eqv (.str z) (.str y) || ks.contains y) = (z :: ks).contains y
    unfold PyData.eqv
    rw [List.contains_cons, Bool.beq_comm]
theorem lay_strs (h : ∀ k ∈ ks, PyData.strOk k = true) : PyData.canLayAll0 (ks.map PyData.str) = true := layAll_mem fun d hd => by
  obtain ⟨k, hk, rfl⟩ := List.mem_map.mp hd
  rw [PyData.canLay0]
  exact h k hk
/-- data within a tuple of texts -/
theorem m_inTs (h : H p = some (.tup (ks.map V.str))) (hx : Im H x d) (sd : SeqAt.shaped d = true) (hs : ∀ k ∈ ks, PyData.strOk k = true) (q : Q (.bl (strD ks d)) H) : rInU K false x (.ref p) H Q := by
  refine .inr (.inr (.inr ⟨d, ks.map PyData.str, hx.dp, .inl (Im.dp (.tup h (ims_strs ks))), sd, lay_strs hs, ?_⟩))
  rw [any_strs]
  exact q
theorem m_niTs (h : H p = some (.tup (ks.map V.str))) (hx : Im H x d) (sd : SeqAt.shaped d = true) (hs : ∀ k ∈ ks, PyData.strOk k = true) (q : Q (.bl (!strD ks d)) H) : rInU K true x (.ref p) H Q := by
  refine .inr (.inr (.inr ⟨d, ks.map PyData.str, hx.dp, .inl (Im.dp (.tup h (ims_strs ks))), sd, lay_strs hs, ?_⟩))
  rw [any_strs]
  exact q
theorem strD_eqv : PyData.eqv d (.str z) = strD [z] d := by
  cases d <;> first | (unfold PyData.eqv strD; rfl) | skip
  rename_i y
  show PyData.eqv (.str y) (.str z) = [z].contains y
  unfold PyData.eqv
  rw [List.contains_cons]
  simp
theorem m_eqS (hx : Im H x d) (sd : SeqAt.shaped d = true) (hz : PyData.strOk z = true) (q : Q (.bl (strD [z] d)) H) : rEqU K false x (.str z) H Q :=
  m_eq hx (.str z) sd ((Lay.str (k := 0) hz).shaped (by decide)) (by rw [strD_eqv]; exact q)
theorem m_neS (hx : Im H x d) (sd : SeqAt.shaped d = true) (hz : PyData.strOk z = true) (q : Q (.bl (!strD [z] d)) H) : rEqU K true x (.str z) H Q :=
  m_ne hx (.str z) sd ((Lay.str (k := 0) hz).shaped (by decide)) (by rw [strD_eqv]; exact q)
theorem im1 {d1 : PyData} (h : Im H x (.tuple [d1])) : ∃ a x1, x = .ref a ∧ H a = some (.tup [x1]) ∧ Im H x1 d1 := by
  obtain ⟨a, xs, rfl, h1, h2⟩ := h.tup_inv
  obtain ⟨x1, r, rfl, i1, h2⟩ := h2.cons_inv
  rw [h2.nil_inv] at h1
  exact ⟨a, x1, rfl, h1, i1⟩
theorem im2 {d1 d2 : PyData} (h : Im H x (.tuple [d1, d2])) : ∃ a x1 x2, x = .ref a ∧ H a = some (.tup [x1, x2]) ∧ Im H x1 d1 ∧ Im H x2 d2 := by
  obtain ⟨a, xs, rfl, h1, h2⟩ := h.tup_inv
  obtain ⟨x1, r, rfl, i1, h2⟩ := h2.cons_inv
  obtain ⟨x2, r, rfl, i2, h2⟩ := h2.cons_inv
  rw [h2.nil_inv] at h1
  exact ⟨a, x1, x2, rfl, h1, i1, i2⟩
theorem im3 {d1 d2 d3 : PyData} (h : Im H x (.tuple [d1, d2, d3])) : ∃ a x1 x2 x3, x = .ref a ∧ H a = some (.tup [x1, x2, x3]) ∧ Im H x1 d1 ∧ Im H x2 d2 ∧ Im H x3 d3 := by
  obtain ⟨a, xs, rfl, h1, h2⟩ := h.tup_inv
  obtain ⟨x1, r, rfl, i1, h2⟩ := h2.cons_inv
  obtain ⟨x2, r, rfl, i2, h2⟩ := h2.cons_inv
  obtain ⟨x3, r, rfl, i3, h2⟩ := h2.cons_inv
  rw [h2.nil_inv] at h1
  exact ⟨a, x1, x2, x3, rfl, h1, i1, i2, i3⟩
theorem im4 {d1 d2 d3 d4 : PyData} (h : Im H x (.tuple [d1, d2, d3, d4])) : ∃ a x1 x2 x3 x4, x = .ref a ∧ H a = some (.tup [x1, x2, x3, x4]) ∧ Im H x1 d1 ∧ Im H x2 d2 ∧ Im H x3 d3 ∧ Im H x4 d4 := by
  obtain ⟨a, xs, rfl, h1, h2⟩ := h.tup_inv
  obtain ⟨x1, r, rfl, i1, h2⟩ := h2.cons_inv
  obtain ⟨x2, r, rfl, i2, h2⟩ := h2.cons_inv
  obtain ⟨x3, r, rfl, i3, h2⟩ := h2.cons_inv
  obtain ⟨x4, r, rfl, i4, h2⟩ := h2.cons_inv
  rw [h2.nil_inv] at h1
  exact ⟨a, x1, x2, x3, x4, rfl, h1, i1, i2, i3, i4⟩
end
theorem layAll_inv : ∀ {ds : List PyData}, PyData.canLayAll0 ds = true → ∀ d ∈ ds, d.canLay0 = true
  | [], _, d, hd => by cases hd
  | e :: ds, h, d, hd => by
    rw [PyData.canLayAll0, Bool.and_eq_true] at h
    rcases List.mem_cons.mp hd with rfl | hd
    · exact h.1
    · exact layAll_inv h.2 d hd
theorem depthAll_inv {k : Nat} : ∀ {ds : List PyData}, PyData.depthAll ds ≤ k → ∀ d ∈ ds, d.depth ≤ k
  | [], _, d, hd => by cases hd
  | e :: ds, h, d, hd => by
    rw [PyData.depthAll] at h
    rcases List.mem_cons.mp hd with rfl | hd
    · omega
    · exact depthAll_inv (by omega) d hd
theorem Lay.items {k : Nat} {ds : List PyData} (h : Lay k (.tuple ds)) : ∀ d ∈ ds, Lay k d := fun d hd => by
  obtain ⟨h1, h2⟩ := h
  rw [PyData.canLay0] at h1
  rw [PyData.depth] at h2
  exact ⟨layAll_inv h1 d hd, depthAll_inv (by omega) d hd⟩
/-! how wide, how deep -/
def Wd (n : Nat) : Nat → PyData → Prop
  | 0, .none => True
  | 0, .bool _ => True
  | 0, .int _ => True
  | 0, .str z => PyData.strOk z = true
  | k + 1, .tuple ds => ds.length ≤ n ∧ ∀ x ∈ ds, Wd n k x
  | _ + 1, .none => True
  | _ + 1, .bool _ => True
  | _ + 1, .int _ => True
  | _ + 1, .str z => PyData.strOk z = true
  | _, _ => False
theorem Wd.lay {n : Nat} : ∀ {k : Nat} {d : PyData}, Wd n k d → Lay k d
  | 0, .none, _ => Lay.non
  | 0, .bool _, _ => Lay.bl
  | 0, .int _, _ => Lay.int
  | 0, .str _, h => Lay.str h
  | 0, .tuple _, h => h.elim
  | 0, .list _, h => h.elim
  | 0, .dict _, h => h.elim
  | _ + 1, .none, _ => Lay.non
  | _ + 1, .bool _, _ => Lay.bl
  | _ + 1, .int _, _ => Lay.int
  | _ + 1, .str _, h => Lay.str h
  | k + 1, .tuple ds, h => Lay.tup fun d hd => (h.2 d hd).lay
  | _ + 1, .list _, h => h.elim
  | _ + 1, .dict _, h => h.elim
theorem Wd.mono {n m : Nat} (hn : n ≤ m) : ∀ {k l : Nat} {d : PyData}, k ≤ l → Wd n k d → Wd m l d
  | 0, 0, .none, _, _ => trivial
  | 0, 0, .bool _, _, _ => trivial
  | 0, 0, .int _, _, _ => trivial
  | 0, 0, .str _, _, h => h
  | 0, l + 1, .none, _, _ => trivial
  | 0, l + 1, .bool _, _, _ => trivial
  | 0, l + 1, .int _, _, _ => trivial
  | 0, l + 1, .str _, _, h => h
  | 0, _, .tuple _, _, h => h.elim
  | 0, _, .list _, _, h => h.elim
  | 0, _, .dict _, _, h => h.elim
  | k + 1, 0, _, e, _ => absurd e (by omega)
  | k + 1, l + 1, .none, _, _ => trivial
  | k + 1, l + 1, .bool _, _, _ => trivial
  | k + 1, l + 1, .int _, _, _ => trivial
  | k + 1, l + 1, .str _, _, h => h
  | k + 1, l + 1, .tuple ds, e, h => ⟨Nat.le_trans h.1 hn, fun x hx => Wd.mono hn (by omega) (h.2 x hx)⟩
  | k + 1, _, .list _, _, h => h.elim
  | k + 1, _, .dict _, _, h => h.elim
theorem cutD_mem {ds : List PyData} {lo hi : Option Int} {d : PyData} (h : d ∈ cutD ds lo hi) : d ∈ ds := by
  unfold cutD at h
  exact List.mem_of_mem_drop (List.mem_of_mem_take h)
theorem Wd.cut {n k : Nat} {ds : List PyData} {lo hi : Option Int} (h : Wd n (k + 1) (.tuple ds)) : Wd n (k + 1) (.tuple (cutD ds lo hi)) := ⟨Nat.le_trans (cutD_length ds lo hi) h.1, fun x hx => h.2 x (cutD_mem hx)⟩
theorem Wd.cat {n m k : Nat} {ds es : List PyData} (h : Wd n (k + 1) (.tuple ds)) (g : Wd m (k + 1) (.tuple es)) : Wd (n + m) (k + 1) (.tuple (ds ++ es)) :=
  ⟨by rw [List.length_append]; exact Nat.add_le_add h.1 g.1, fun x hx => by
    rcases List.mem_append.mp hx with hx | hx
    · exact (h.2 x hx).mono (by omega) (Nat.le_refl _)
    · exact (g.2 x hx).mono (by omega) (Nat.le_refl _)⟩
/-! lists of ints as data -/
theorem lst_shaped {ns : List Int} : SeqAt.shaped (.list (ns.map .int)) = true := shaped_of (by
    rw [PyData.canLay0]
    exact layAll_mem fun d hd => by
      obtain ⟨x, _, rfl⟩ := List.mem_map.mp hd
      rw [PyData.canLay0]) (by
    rw [PyData.depth]
    have : PyData.depthAll (ns.map .int) ≤ 0 := depthAll_mem fun d hd => by
      obtain ⟨x, _, rfl⟩ := List.mem_map.mp hd
      rw [PyData.depth]
      exact Nat.le_refl _
    omega)
theorem lst_all {K : PySem.W.Frag} {H : Hp} : ∀ ms : List Int, DpAll K H (ms.map V.int) (ms.map .int)
  | [] => .nil
  | m :: ms => .cons (.int m) (lst_all ms)
theorem lst_dp {K : PySem.W.Frag} {H : Hp} {a : Addr} {ns : List Int} (h : H a = some (.lst (ns.map V.int))) : Dp K H (.ref a) (.list (ns.map .int)) := .lst (SqL.of h) (lst_all ns)
theorem eqv_lnil {ds : List PyData} : PyData.eqv (.list ds) (.list []) = ds.isEmpty := by
  unfold PyData.eqv
  cases ds with
  | nil => unfold PyData.eqvAll; rfl
  | cons d ds => unfold PyData.eqvAll; rfl
theorem wd_s {z : Str} {n k : Nat} (h : PyData.strOk z = true) : Wd n k (.str z) := by
  cases k <;> exact h
theorem wd_i {i : Int} {n k : Nat} : Wd n k (.int i) := by
  cases k <;> trivial
theorem wd_b {b : Bool} {n k : Nat} : Wd n k (.bool b) := by
  cases k <;> trivial
theorem wd_o {n k : Nat} : Wd n k .none := by
  cases k <;> trivial
theorem wd_t {n k : Nat} {ds : List PyData} (h : ds.length ≤ n) (g : ∀ x ∈ ds, Wd n k x) : Wd n (k + 1) (.tuple ds) := ⟨h, g⟩
theorem g_dK {H : Hp} {a : Addr} {kvs : List (Key × V)} {z : Str} {P : Option V → Prop} (h : H a = some (.dK kvs)) (q : P (valV kvs (.inr z))) : ∃ o, DGet H a (.str z) o ∧ P o := ⟨_, DGet.k (k := .inr z) h, q⟩
theorem dp_k {H : Hp} {a : Addr} {kvs : List (Key × V)} {z : Str} {v : V} (h : H a = some (.dK kvs)) (hl : kvs.length < sizeLine) : DPut H a (.str z) v (upd H a (.dK (putK kvs (.inr z) v))) := DPut.k (k := .inr z) h hl
/-- (a list) + (a list) -/
theorem g_catL {K : PySem.W.Frag} {H : Hp} {Q : VK} {a b : Addr} {xs ys : List V} (h1 : H a = some (.lst xs)) (h2 : H b = some (.lst ys)) (hl : xs.length + ys.length ≤ 100000) (k : ∀ p, H p = none → Q (.ref p) (upd H p (.lst (xs ++ ys)))) : rAddU K (.ref a) (.ref b) H Q :=
  .inl ⟨a, b, xs, ys, rfl, rfl, h1, h2, szle hl, k⟩
end G

set_option Elab.async false
set_option linter.all false
set_option maxRecDepth 100000
set_option maxHeartbeats 4000000
/-! Exceptions of the program's own classes: made by an __init__ that calls its base's, raised, caught, their fields read. -/
namespace G
open PySem PySem.Spec PyProof.Rows L2

/-! ### a head that tells of the interpreter's statics too -/
def asY (g : Addr → Option Obj) (n : Nat) : List Addr := He.asD g n ++ [cStatics]
def obsY (n : Nat) (fa : List He.Fa) (fn : List He.DefD) (ts : List He.Tab) (ex : PySem.W.Frag → Bool) (g : Addr → Option Obj) : He.AlX := (He.obsT fa fn ts (He.frG g (asY g n)), ex (He.frG g (asY g n)))
structure SaysY (fa : List He.Fa) (fn : List He.DefD) (ts : List He.Tab) (ex : PySem.W.Frag → Bool) (w : World) (K : PySem.W.Frag) : Prop where
  t : He.SaysT fa fn ts w K
  more : ex K = true
def hookY (n : Nat) (fa : List He.Fa) (fn : List He.DefD) (ts : List He.Tab) (ex : PySem.W.Frag → Bool) : PySem.W.Hook where
  α := He.AlX
  obs := fun s => obsY n fa fn ts ex s.heap.get?
  val := fun w => He.valX fn ts w
  says := fun w h => ∃ K : PySem.W.Frag, K.In h ∧ SaysY fa fn ts ex w K
  of := fun _ _ e => ⟨_, He.frG_in, ⟨congrArg (fun z : He.AlX => z.1) e, congrArg (fun z : He.AlX => z.2) e⟩⟩
  keeps := fun _ _ _ ⟨K, hK, c⟩ k => ⟨K, PySem.W.Frag.In.keeps hK k, c⟩
theorem obsY_eq {n : Nat} {fa : List He.Fa} {fn : List He.DefD} {ts : List He.Tab} {ex : PySem.W.Frag → Bool} {g : Addr → Option Obj} {s : Shared} (h : ∀ a, g a = s.heap.get? a) : obsY n fa fn ts ex g = (hookY n fa fn ts ex).obs s := by
  have e : g = s.heap.get? := funext h
  rw [e] <;> rfl

/-! ### what the written part says of such a class: its name, the class whose __init__ it has, the class whose __init__ that one calls, its fields -/
structure XcD where
  c : Str
  i : Str
  b : Str
  fs : List Str
def oexB (K : PySem.W.Frag) (C : Addr) : Bool := match K.lookup C with
  | some ⟨.type t, _, .cls cd, sl⟩ => (match cd.mro, sl.toList with
    | .ref C' :: bm, [_, _, _, _, some (.builtin n), _] => decide (t = "type") && (decide (C' = C) && (decide (n = "ValueError.__new__") && (!cd.hasDel && (cd.hasDict && PySem.HandSPX.refsVE bm))))
    | _, _ => false)
  | _ => false
def initB (K : PySem.W.Frag) (B : Addr) : Bool := match PySem.W.findCls K (.ref B) (.type "type") "__init__" with
  | some (.val (.builtin n)) => decide (n = "ValueError.__init__")
  | _ => false
def bsB (K : PySem.W.Frag) (B : Addr) : Bool := He.eqO (PySem.W.specialIn K (.ref B) "__getattribute__") (some (some (.builtin "type.__getattribute__"))) && (decide (PySem.W.typeIn K (.ref B) = some (.type "type")) && (PySem.W.readsIn K B (.type "type") && initB K B))
def excB (K : PySem.W.Frag) (x : XcD) : Bool :=
  oexB K (He.ga K x.c) && (He.eqO (PySem.W.findIn K (.ref (He.ga K x.c)) "__setattr__") (some (some (.builtin "object.__setattr__"))) && (decide (PySem.W.subIn K (.ref (He.ga K x.c)) (.type "BaseException") = some true) && (decide (PySem.W.typeIn K (.ref (He.ga K x.c)) = some (.type "type")) && (PySem.W.keepIn K (.ref (He.ga K x.c)) &&
  (He.eqO (PySem.W.findIn K (.ref (He.ga K x.c)) "__init__") (some (some (.ref (He.ma K (He.ga K x.i) "__init__")))) && (decide (PySem.W.typeIn K (.ref (He.ma K (He.ga K x.i) "__init__")) = some (.type "function")) && (xfB K (He.ga K x.c) && ((x.fs.all fun f => He.eqO (PySem.W.findIn K (.ref (He.ga K x.c)) f) (some none)) && bsB K (He.ga K x.b)))))))))
structure XcOk (K : PySem.W.Frag) (x : XcD) : Prop where
  oex : OexC K (He.ga K x.c)
  ini : PySem.W.findIn K (.ref (He.ga K x.c)) "__init__" = some (some (.ref (He.ma K (He.ga K x.i) "__init__")))
  fun_ : PySem.W.typeIn K (.ref (He.ma K (He.ga K x.i) "__init__")) = some (.type "function")
  xf : XfC K (He.ga K x.c)
  no : ∀ f ∈ x.fs, PySem.W.findIn K (.ref (He.ga K x.c)) f = some none
  b1 : PySem.W.specialIn K (.ref (He.ga K x.b)) "__getattribute__" = some (some (.builtin "type.__getattribute__"))
  b2 : PySem.W.typeIn K (.ref (He.ga K x.b)) = some (.type "type")
  b3 : PySem.W.readsIn K (He.ga K x.b) (.type "type") = true
  b4 : PySem.W.findCls K (.ref (He.ga K x.b)) (.type "type") "__init__" = some (.val (.builtin "ValueError.__init__"))
theorem oexB_ok {K : PySem.W.Frag} {C : Addr} (h : oexB K C = true) : ∃ nm q N bs bm sn sub ab col dd k0 k1 k2 k3 k5, K.lookup C = some (excClassObj nm q C N bs bm true sn sub ab col dd k0 k1 k2 k3 k5 "ValueError.__new__") ∧ PySem.HandSPX.refsVE bm = true := by
  unfold oexB at h
  split at h
  · rename_i t dd cd sl ho
    split at h
    · rename_i C' bm k0 k1 k2 k3 n k5 hm hs
      simp only [Bool.and_eq_true, decide_eq_true_eq, Bool.not_eq_true'] at h
      obtain ⟨rfl, rfl, rfl, hdel, hdic, ht⟩ := h
      obtain ⟨nm, bs, mro, ns, qn, hd, sn, sub, ab, col, del⟩ := cd
      dsimp only at hm hdel hdic
      subst hm hdel hdic
      have hsl : sl = #[k0, k1, k2, k3, some (.builtin "ValueError.__new__"), k5] := by
        obtain ⟨l⟩ := sl
        simp only at hs
        rw [hs]
      subst hsl
      exact ⟨nm, qn, ns, bs, bm, sn, sub, ab, col, dd, k0, k1, k2, k3, k5, ho, ht⟩
    · cases h
  · cases h
theorem initB_ok {K : PySem.W.Frag} {B : Addr} (h : initB K B = true) : PySem.W.findCls K (.ref B) (.type "type") "__init__" = some (.val (.builtin "ValueError.__init__")) := by
  unfold initB at h
  split at h
  · rename_i n e
    rw [e, of_decide_eq_true h]
  · cases h
theorem excB_ok {K : PySem.W.Frag} {x : XcD} (h : excB K x = true) : XcOk K x := by
  obtain ⟨h1, h⟩ := He.ba h
  obtain ⟨h2, h⟩ := He.ba h
  obtain ⟨h3, h⟩ := He.ba h
  obtain ⟨h4, h⟩ := He.ba h
  obtain ⟨h5, h⟩ := He.ba h
  obtain ⟨h6, h⟩ := He.ba h
  obtain ⟨h7, h⟩ := He.ba h
  obtain ⟨h8, h⟩ := He.ba h
  obtain ⟨h9, h⟩ := He.ba h
  obtain ⟨g1, h⟩ := He.ba h
  obtain ⟨g2, h⟩ := He.ba h
  obtain ⟨g3, g4⟩ := He.ba h
  exact ⟨⟨oexB_ok h1, He.eqO_ok h2, of_decide_eq_true h3, of_decide_eq_true h4, h5⟩, He.eqO_ok h6, of_decide_eq_true h7, xfB_ok h8, fun f hf => He.eqO_ok (List.all_eq_true.mp h9 f hf), He.eqO_ok g1, of_decide_eq_true g2, g3, initB_ok g4⟩

/-! ### B.__init__(self, ..) of an own base -/
theorem pe_oveinit {X : Cx} {K : PySem.W.Frag} (hK : X.K = K) {x : XcD} {n : Str} {e : Expr} {es : List Expr} {ta : TA} {p1 p2 pos : Pos} {pl : Sem Bool} (T : XcOk K x) (hn : n = x.b) (hg : Gl X n) (hm : X.mg n = some (.ref (He.ga K x.b))) (ha : PA X (e :: es) ta)
    (hc : eval (.Call (.Attribute (.Name n p1) "__init__" p2) (e :: es) [] pos) X.env = (do
      let ov ← eval (.Name n p1) X.env
      standAt p2.atName
      let (f, first) ← holding [ov] (getMethod ov "__init__" pl)
      callWith pos f first (backTo pos (starEach (e :: es) X.env)) (backToKw pos (keywordEach [] X.env))) := by rfl)
    (he : starEach (e :: es) X.env = (false, eval e X.env) :: starEach es X.env := by rfl) (hpl : (backTo pos (starEach es X.env)).any (·.1) = false := by rfl) (hd : (n == ("__debug__" : Str)) = false := by decide) :
    PE X (.Call (.Attribute (.Name n p1) "__init__" p2) (e :: es) [] pos) (tVeI X.K ta) := by
  subst hK
  refine ⟨fun pins s σ H Q I h => ?_⟩
  refine PySem.W.methodCall_KW (ld_glob I hg hm ?_ hd) hc
  obtain ⟨m, fr⟩ := I.fr
  refine PySem.W.method_of_cls fr I.ok.mod.kin T.b1 (PySem.W.cls_val fr I.ok.mod.kin T.b2 T.b3 T.b4 (by decide +kernel) ?_)
  show wpAny _ _ (callWith pos (Value.builtin "ValueError.__init__") [] (backTo pos (starEach (e :: es) X.env)) []) _ _ _
  refine PyProof.Rows.callWith_method1 (thn (ha.run pos pins _ σ H _ (I.tok _) h) fun us s1 ⟨vs, H1, I1, r1, a, C, ws, ev, hl, T, ea, q⟩ => ?_) he hpl
  subst ev
  cases r1 with
  | @cons _ u0 _ ur ra rw' =>
    obtain rfl : u0 = Value.ref a := ra
    have hlen : ur.length ≤ sizeLine := by
      rw [← Paired.length rw', sizeLine_eq]
      omega
    exact oinit_ok T I1 ea hlen fun s' J => ⟨.non, H1, J, rfl, q⟩
theorem ps_ostU {X : Cx} {K : PySem.W.Frag} (hK : X.K = K) {o e : Expr} {to te : TE} {f : Str} {p' pos : Pos} (ho : PE X o to) (he : PE X e te) (hs : swapsWith e (some (.Attribute o f p')) pos.line X.env = pure false := by rfl) : PS X (.Assign [.Attribute o f p'] e pos) (tOst K f to te) := by
  subst hK
  exact ps_ost ho he hs

theorem g_vei {K : PySem.W.Frag} {ta : TA} {σ : L2.St} {H : Hp} {Q : VK} (h : ta σ H fun vs H1 => ∃ (a C : Addr) (ws : List V), vs = .ref a :: ws ∧ ws.length ≤ 1000 ∧ OexC K C ∧ H1 a = some (exo a C none) ∧ Q .non H1) : tVeI K ta σ H Q := h
theorem g_ost {K : PySem.W.Frag} {to te : TE} {f : Str} {D : Ends} {σ : L2.St} {H : Hp} (h : te σ H fun y H1 => to σ H1 fun x H2 => ∃ a C : Addr, x = .ref a ∧ OexC K C ∧ PySem.W.findIn K (.ref C) f = some none ∧
  ((H2 a = some (exo a C none) ∧ ∀ dx, H2 dx = none → dx ≠ a → D.nx σ (upd (upd H2 dx (exd dx [(f, y)])) a (exo a C (some dx)))) ∨
    ∃ (dx : Addr) (fs : List (Str × V)), H2 a = some (exo a C (some dx)) ∧ H2 dx = some (exd dx fs) ∧ fs.length ≤ 900 ∧ D.nx σ (upd H2 dx (exd dx ((f, y) :: fs))))) : tOst K f to te D σ H := h
/-! ### defs that may raise -/
section
variable {fa : List He.Fa} {fn : List He.DefD} {P : Program} {w : World} {K : PySem.W.Frag} {mg : Str → Option Value} {base : Heap} {ex : Prop}
/-- a def that may raise -/
theorem mk_dnX (T : Txt fa fn K mg ex) (i j : Nat) {d : He.DefD} {N ps : List Str} {k : Nat} {sp : Sp} (hd : fn[i]? = some d) (hg : fa[j]? = some (.glo d.at_.1)) (hm : d.at_.2 = none) (h1 : d.dfl = []) (h2 : d.kwd = [])
    (S : FnScope N ps d.scope) (len : ∀ vs H Q E, sp vs H Q E → vs.length = ps.length)
    (hb : ∀ (kV doc pm : Value) (an : Option Addr) (cdv ct : Value) (us : List Value), us.length = ps.length → bindArgs (PySem.W.fnOf d.name d.qual d.params d.body d.scope .none kV doc pm an cdv ct) ⟨us, []⟩ = pure (ps.zip us))
    (hbody : ∀ (cdv : Value) (A : Around) (outer : List Env) (s : Shared) (H : Hp) (vs : List V) (Q : VK) (E : XK), Room k (A.deeper (envOfC d.qual d.scope s.heap.objs.size (He.ga K d.at_.1) cdv)) → sp vs H Q E →
      ∃ t, PSs (cxOf (L2.CX P w) P w K mg base N d.qual d.scope (He.ga K d.at_.1) cdv A outer s H E) d.body t ∧ t { nx := fun _ H' => Q .non H', rt := Q } (start N vs) H) : Dn P w K mg base (L2.CX P w) (k + 1) d.at_.1 ps sp := by
  obtain ⟨⟨fd, F⟩, g⟩ := T.def_ i j hd hg hm h1 h2
  refine ⟨_, fd, F.ok S len fun cdv A outer s H vs Q E hr h => hbody cdv A outer s H vs Q E hr h, g, F.kp, F.bindsN hb, by
    obtain ⟨oc, od, dV, kV, doc, pm, an, cdv, ct, osl, e, lk, _⟩ := F.ex
    exact ⟨_, _, _, lk⟩⟩
theorem mk_mtX (T : Txt fa fn K mg ex) (i : Nat) {d : He.DefD} {c m : Str} {N ps : List Str} {k : Nat} {sp : Sp} (hd : fn[i]? = some d) (hm : d.at_ = (c, some m)) (h1 : d.dfl = []) (h2 : d.kwd = [])
    (S : FnScope N ps d.scope) (len : ∀ vs H Q E, sp vs H Q E → vs.length = ps.length)
    (hb : ∀ (kV doc pm : Value) (an : Option Addr) (cdv ct : Value) (us : List Value), us.length = ps.length → bindArgs (PySem.W.fnOf d.name d.qual d.params d.body d.scope .none kV doc pm an cdv ct) ⟨us, []⟩ = pure (ps.zip us))
    (hbody : ∀ (cdv : Value) (A : Around) (outer : List Env) (s : Shared) (H : Hp) (vs : List V) (Q : VK) (E : XK), Room k (A.deeper (envOfC d.qual d.scope s.heap.objs.size (He.ma K (He.ga K c) m) cdv)) → sp vs H Q E →
      ∃ t, PSs (cxOf (L2.CX P w) P w K mg base N d.qual d.scope (He.ma K (He.ga K c) m) cdv A outer s H E) d.body t ∧ t { nx := fun _ H' => Q .non H', rt := Q } (start N vs) H) : Mt P w K mg base (L2.CX P w) (k + 1) c m ps sp := by
  obtain ⟨fd, F⟩ := T.defm i hd hm h1 h2
  exact ⟨_, fd, F.ok S len fun cdv A outer s H vs Q E hr h => hbody cdv A outer s H vs Q E hr h, rfl, F.bindsN hb⟩
end
section
variable {X : Cx} {k : Nat} {ps : List Str} {sp : Sp} {W : WX} {x : Str} {p pos : Pos} {e : Expr} {es : List Expr} {t : TA}
/-- a call that may raise, of a def of the module -/
def tCallW (sp : Sp) (W : WX) (t : TA) : TE := fun σ H Q => t σ H fun vs H1 => sp vs H1 Q fun cls d H' => W cls d σ H'
theorem pe_callDX {K : PySem.W.Frag} (hK : X.K = K) (D : Dn X.prog X.w K X.mg X.base (L2.CX X.prog X.w) k x ps sp) (hr : Room k X.A) (hg : Gl X x) (tk : Takes X W)
    (ha : PA X (e :: es) t) (hdb : (x == ("__debug__" : Str)) = false := by decide) (he : starEach (e :: es) X.env = (false, eval e X.env) :: starEach es X.env := by rfl) (hpl : (backTo pos (starEach es X.env)).any (·.1) = false := by rfl) :
    PE X (.Call (.Name x p) (e :: es) [] pos) (tCallW sp W t) := by
  subst hK
  obtain ⟨f, fd, F, m, kp, b, _⟩ := D.ex
  exact pe_callS F hr hg m kp b (fun σ => passAt tk σ) ha hdb he hpl
theorem g_callW {σ : L2.St} {H : Hp} {Q : VK} (h : t σ H fun vs H1 => sp vs H1 Q fun cls d H' => W cls d σ H') : tCallW sp W t σ H Q := h
/-- raise C(e, ..), C with such an __init__ -/
def sRaise (C : Addr) (sp : Sp) (W : WX) (t : TA) : TS := fun _ σ H => t σ H fun vs H1 => vs.length ≤ 1000 ∧ ∀ a, H1 a = none → sp (.ref a :: (vs ++ [])) (upd H1 a (exo a C none))
  (fun v H2 => v = .non ∧ ∃ (d : Addr) (fs : List (Str × V)), H2 a = some (exo a C (some d)) ∧ H2 d = some (exd d fs) ∧ H1 d = none ∧ W (.ref C) (some d) σ (upd (del H2 a) d (.xd fs))) (fun _ _ _ => False)
theorem g_raise {C : Addr} {D : Ends} {σ : L2.St} {H : Hp} (h : t σ H fun vs H1 => vs.length ≤ 1000 ∧ ∀ a, H1 a = none → sp (.ref a :: (vs ++ [])) (upd H1 a (exo a C none))
  (fun v H2 => v = .non ∧ ∃ (d : Addr) (fs : List (Str × V)), H2 a = some (exo a C (some d)) ∧ H2 d = some (exd d fs) ∧ H1 d = none ∧ W (.ref C) (some d) σ (upd (del H2 a) d (.xd fs))) (fun _ _ _ => False)) : sRaise C sp W t D σ H := h
theorem ps_raiseI {pos2 : Pos} {K : PySem.W.Frag} (hK : X.K = K) {xc : XcD} (T : XcOk K xc) (D : Mt X.prog X.w K X.mg X.base CX0 k xc.i "__init__" ps sp) (hr : Room (k + 1) X.A) (hc : X.calm = true) (tk : Takes X W) (hn : x = xc.c) (hg : Gl X x) (hm : X.mg x = some (.ref (He.ga K xc.c))) (ha : PA X (e :: es) t)
    (hdb : (x == ("__debug__" : Str)) = false := by decide) (he : starEach (e :: es) X.env = (false, eval e X.env) :: starEach es X.env := by rfl) (hpl : (backTo pos (starEach es X.env)).any (·.1) = false := by rfl) :
    PS X (.Raise (some (.Call (.Name x p) (e :: es) [] pos)) none pos2) (sRaise (He.ga K xc.c) sp W t) := by
  subst hK
  obtain ⟨f, fd, F, rfl, b⟩ := D.ex
  exact ps_raise (pos := pos2) hc tk (pmk_oex T.oex T.ini T.fun_ F hr b .nil pass0 hg hm ha hdb he hpl)
/-- err.f in an except suite -/
theorem pe_xfU {X : Cx} {K : PySem.W.Frag} (hK : X.K = K) {a : Addr} {oe : Obj} {cls : Value} {d : Option Addr} {pn : List (Addr × Obj)} {e : Expr} {te : TE} {pos : Pos} {n : Str} {xc : XcD} (T : XcOk K xc) (hno : n ∈ xc.fs)
    (hz : Zc cls d oe) (hf : ∃ vs, oe.data = .fields vs) (he : PE (X.suite a ((a, oe) :: pn)) e te) (hb : attributeBase e n X.env (eval e X.env) = eval e X.env := by rfl) :
    PE (X.suite a ((a, oe) :: pn)) (.Attribute e n pos) (tXf a cls d (He.ga K xc.c) n te) := by
  subst hK
  exact pe_xf T.xf (T.no n hno) hz hf he hb
end
/-! what such an __init__ leaves: the heap as it was, the error's own dict -/
theorem made_exc {H : Hp} {a d C : Addr} {fs gs : List (Str × V)} (ha : H a = none) (hd : upd H a (exo a C none) d = none) (hne : d ≠ a) :
    H d = none ∧ Same H (upd (del (upd (upd (upd (upd H a (exo a C none)) d (exd d gs)) a (exo a C (some d))) d (exd d fs)) a) d (.xd fs)) := by
  rw [upd_ne hne] at hd
  refine ⟨hd, fun b o e => ?_⟩
  have hba := ne_of_none e ha
  have hbd := ne_of_none e hd
  rw [upd_ne hbd, del_ne hba, upd_ne hbd, upd_ne hba, upd_ne hbd, upd_ne hba]
  exact e
/-- cs and xs: constants, exception classes of the module -/
structure XOk (cs : List (Str × GD)) (xs : List XcD) (K : PySem.W.Frag) (w : World) : Prop extends CsOk cs K w where
  xc : xs.all (excB K) = true
theorem XOk.at_ {cs : List (Str × GD)} {xs : List XcD} {K : PySem.W.Frag} {w : World} (m : XOk cs xs K w) {x : XcD} (h : x ∈ xs) : XcOk K x := excB_ok (List.all_eq_true.mp m.xc x h)
theorem XOk.ofY {fa : List He.Fa} {fn : List He.DefD} {cs : List (Str × GD)} {xs : List XcD} {w : World} {K : PySem.W.Frag} (c : SaysY fa fn (tabs cs) (fun K => exB cs K && xs.all (excB K)) w K) : XOk cs xs K w := by
  have h : (exB cs K && xs.all (excB K)) = true := c.more
  obtain ⟨h1, h2⟩ := He.ba h
  exact ⟨⟨h1, congrArg (fun z : He.AlT => z.2) c.t⟩, h2⟩
end G

set_option Elab.async false
set_option linter.all false
set_option maxRecDepth 100000
set_option maxHeartbeats 4000000
/-! Data of which tuples may stand in the written part; lists of small numbers; comprehensions that filter, ask, zip. -/
namespace G
open PySem PySem.Spec PyProof.Rows L2

/-- the tuple xs stands at a, in the heap or in the written part -/
def TupK (K : PySem.W.Frag) (H : Hp) (a : Addr) (xs : List V) : Prop := H a = some (.tup xs) ∨
  ∃ (o : Obj) (its : Array Value) (n : Nat), K.lookup a = some o ∧ o.cls = .type "tuple" ∧ o.data = .seq its n ∧ its.size ≤ sizeLine ∧ Vals xs its.toList
mutual
inductive Dk (K : PySem.W.Frag) (H : Hp) : V → PyData → Prop
  | non : Dk K H .non .none
  | bl (b : Bool) : Dk K H (.bl b) (.bool b)
  | int (i : Int) : Dk K H (.int i) (.int i)
  | str (x : Str) : Dk K H (.str x) (.str x)
  | tup {a : Addr} {xs : List V} {ds : List PyData} : TupK K H a xs → Dks K H xs ds → Dk K H (.ref a) (.tuple ds)
inductive Dks (K : PySem.W.Frag) (H : Hp) : List V → List PyData → Prop
  | nil : Dks K H [] []
  | cons {v : V} {vs : List V} {d : PyData} {ds : List PyData} : Dk K H v d → Dks K H vs ds → Dks K H (v :: vs) (d :: ds)
end
section
variable {K : PySem.W.Frag} {H H' : Hp} {v x y : V} {d e : PyData} {vs xs : List V} {ds es : List PyData} {a b p : Addr} {Q : VK} {i : Int} {n : Nat} {R : It → Hp → Prop} {lo hi : Option Int}
theorem TupK.sq (h : TupK K H a xs) : SqT K H a xs := h.elim SqT.of .inr
theorem TupK.mono (h : TupK K H a xs) (k : ∀ a xs, H a = some (.tup xs) → H' a = some (.tup xs)) : TupK K H' a xs := h.elim (fun h => .inl (k _ _ h)) .inr
theorem TupK.same (h : TupK K H a xs) (k : Same H H') : TupK K H' a xs := h.mono fun a xs e => k a _ e
mutual
theorem Dk.mono : ∀ {v : V} {d : PyData}, Dk K H v d → (∀ a xs, H a = some (.tup xs) → H' a = some (.tup xs)) → Dk K H' v d
  | _, _, .non, _ => .non
  | _, _, .bl b, _ => .bl b
  | _, _, .int i, _ => .int i
  | _, _, .str x, _ => .str x
  | _, _, .tup h hs, k => .tup (h.mono k) (Dks.mono hs k)
theorem Dks.mono : ∀ {vs : List V} {ds : List PyData}, Dks K H vs ds → (∀ a xs, H a = some (.tup xs) → H' a = some (.tup xs)) → Dks K H' vs ds
  | _, _, .nil, _ => .nil
  | _, _, .cons h t, k => .cons (Dk.mono h k) (Dks.mono t k)
end
theorem Dk.same (h : Dk K H v d) (k : Same H H') : Dk K H' v d := h.mono fun a xs e => k a _ e
theorem Dks.same (h : Dks K H vs ds) (k : Same H H') : Dks K H' vs ds := h.mono fun a xs e => k a _ e
mutual
theorem Dk.dp : ∀ {v : V} {d : PyData}, Dk K H v d → Dp K H v d
  | _, _, .non => .non
  | _, _, .bl b => .bl b
  | _, _, .int i => .int i
  | _, _, .str x => .str x
  | _, _, .tup h hs => .tup h.sq (Dks.dp hs)
theorem Dks.dp : ∀ {vs : List V} {ds : List PyData}, Dks K H vs ds → DpAll K H vs ds
  | _, _, .nil => .nil
  | _, _, .cons h t => .cons (Dk.dp h) (Dks.dp t)
end
mutual
theorem Im.dk : ∀ {v : V} {d : PyData}, Im H v d → Dk K H v d
  | _, _, .non => .non
  | _, _, .bl b => .bl b
  | _, _, .int i => .int i
  | _, _, .str x => .str x
  | _, _, .tup h hs => .tup (.inl h) (Ims.dk hs)
theorem Ims.dk : ∀ {vs : List V} {ds : List PyData}, Ims H vs ds → Dks K H vs ds
  | _, _, .nil => .nil
  | _, _, .cons h t => .cons (Im.dk h) (Ims.dk t)
end
theorem Dks.length : ∀ {vs : List V} {ds : List PyData}, Dks K H vs ds → vs.length = ds.length
  | _, _, .nil => rfl
  | _, _, .cons _ t => by rw [List.length_cons, List.length_cons, t.length]
theorem Dks.get : ∀ {vs : List V} {ds : List PyData} {n : Nat} {d : PyData}, Dks K H vs ds → ds[n]? = some d → ∃ v, vs[n]? = some v ∧ Dk K H v d
  | _, _, n, _, .nil, e => by simp at e
  | _, _, 0, _, .cons h t, e => by
    simp only [List.getElem?_cons_zero, Option.some.injEq] at e
    subst e
    exact ⟨_, rfl, h⟩
  | _, _, n + 1, _, .cons h t, e => by
    simp only [List.getElem?_cons_succ] at e
    obtain ⟨v, h1, h2⟩ := t.get e
    exact ⟨v, by simpa using h1, h2⟩
theorem Dks.append : ∀ {vs xs : List V} {ds es : List PyData}, Dks K H vs ds → Dks K H xs es → Dks K H (vs ++ xs) (ds ++ es)
  | _, _, _, _, .nil, s => s
  | _, _, _, _, .cons h t, s => .cons h (t.append s)
theorem Dks.one (h : Dk K H v d) : Dks K H [v] [d] := .cons h .nil
theorem Dks.drop : ∀ {vs : List V} {ds : List PyData} (n : Nat), Dks K H vs ds → Dks K H (vs.drop n) (ds.drop n)
  | _, _, 0, h => h
  | _, _, _ + 1, .nil => .nil
  | _, _, n + 1, .cons _ t => t.drop n
theorem Dks.set : ∀ {vs : List V} {ds : List PyData} (n : Nat), Dks K H vs ds → Dk K H v d → Dks K H (vs.set n v) (ds.set n d)
  | _, _, _, .nil, _ => .nil
  | _, _, 0, .cons _ t, h => .cons h t
  | _, _, n + 1, .cons g t, h => .cons g (t.set n h)
theorem Dks.rep (h : Dk K H v d) : ∀ n : Nat, Dks K H (List.replicate n v) (List.replicate n d)
  | 0 => .nil
  | n + 1 => .cons h (Dks.rep h n)
theorem Dk.int_inv (h : Dk K H v (.int i)) : v = .int i := by cases h; rfl
theorem Dk.tup_inv (h : Dk K H v (.tuple ds)) : ∃ a xs, v = .ref a ∧ TupK K H a xs ∧ Dks K H xs ds := by
  cases h with
  | tup h hs => exact ⟨_, _, rfl, h, hs⟩
theorem k_ix (h : Dk K H x (.tuple ds)) (e : i = (n : Int)) (hd : ds[n]? = some d) (k : ∀ v, Dk K H v d → Q v H) : rIxU K x (.int i) H Q := by
  obtain ⟨a, xs, rfl, h1, h2⟩ := h.tup_inv
  obtain ⟨v, hv, hm⟩ := h2.get hd
  exact g_ixT h1.sq e hv (k v hm)
theorem k_len (h : Dk K H x (.tuple ds)) (q : Q (.int (ds.length : Nat)) H) : rLenU K [x] H Q := by
  obtain ⟨a, xs, rfl, h1, h2⟩ := h.tup_inv
  refine g_lenT h1.sq ?_
  rw [h2.length]
  exact q
theorem k_eq (hx : Dk K H x d) (hy : Dk K H y e) (s1 : SeqAt.shaped d = true) (s2 : SeqAt.shaped e = true) (h : Q (.bl (PyData.eqv d e)) H) : rEqU K false x y H Q := g_eqD hx.dp hy.dp s1 s2 h
theorem k_ne (hx : Dk K H x d) (hy : Dk K H y e) (s1 : SeqAt.shaped d = true) (s2 : SeqAt.shaped e = true) (h : Q (.bl (!PyData.eqv d e)) H) : rEqU K true x y H Q := g_neD hx.dp hy.dp s1 s2 h
theorem k_seq (hx : Dk K H x (.tuple ds)) (k : ∀ a xs, x = .ref a → TupK K H a xs → Dks K H xs ds → R (Itt K a) H) : (∃ b ys, x = .ref b ∧ SqL K H b ys ∧ R (Itl K b) H) ∨ ∃ b ys, x = .ref b ∧ SqT K H b ys ∧ R (Itt K b) H := by
  obtain ⟨a, xs, e, h1, h2⟩ := hx.tup_inv
  exact .inr ⟨a, xs, e, h1.sq, k a xs e h1 h2⟩
theorem TupK.ty (h : TupK K H a xs) : TyX K H (.ref a) (.type "tuple") := h.elim (fun h => .base (.tup h)) fun ⟨o, its, n, h1, h2, _⟩ => .kTuple h1 h2
theorem k_isiT {T' : String} {b : Bool} (hx : Dk K H x (.tuple ds)) (hk : kitB "tuple" T' = some b) (h : Q (.bl b) H) : rIsi K [x, .ty T'] H Q := by
  obtain ⟨a, xs, rfl, h1, _⟩ := hx.tup_inv
  exact isi_of h1.ty hk h
theorem k_isiI (hx : Dk K H x d) (q : Q (.bl (isI d)) H) : rIsi K [x, .ty "int"] H Q := by
  cases hx with
  | non => exact g_isiNi q
  | bl b => exact g_isiBi q
  | int i => exact g_isiIi q
  | str z => exact g_isiSi q
  | tup h hs => exact k_isiT (.tup h hs) k_ti q
theorem k_isiB (hx : Dk K H x d) (q : Q (.bl (isB d)) H) : rIsi K [x, .ty "bool"] H Q := by
  cases hx with
  | non => exact g_isiNb q
  | bl b => exact g_isiBb q
  | int i => exact g_isiIb q
  | str z => exact g_isiSb q
  | tup h hs => exact k_isiT (.tup h hs) k_tb q
theorem k_isiU (hx : Dk K H x d) (q : Q (.bl (isT d)) H) : rIsi K [x, .ty "tuple"] H Q := by
  cases hx with
  | non => exact g_isiNt q
  | bl b => exact g_isiBt q
  | int i => exact g_isiIt q
  | str z => exact g_isiSt q
  | tup h hs => exact k_isiT (.tup h hs) k_tt q
theorem k_tuple (hx : Dk K H x (.tuple ds)) (q : Q x H) : rTupU K [x] H Q := by
  obtain ⟨a, xs, rfl, h1, _⟩ := hx.tup_inv
  exact ⟨_, rfl, .inr ⟨a, xs, rfl, h1.sq, q⟩⟩
theorem k_tupleL (h : SqL K H a xs) (hm : Dks K H xs ds) (k : ∀ p H', Same H H' → H p = none → Dk K H' (.ref p) (.tuple ds) → Q (.ref p) H') : rTupU K [.ref a] H Q :=
  ⟨_, rfl, .inl ⟨a, xs, rfl, h, fun p hp => k p _ (Same.new hp) hp (.tup (.inl upd_same) (hm.same (Same.new hp)))⟩⟩
/-- x[n:] -/
theorem k_from (hx : Dk K H x (.tuple ds)) (e : lo = some (n : Int)) (k : ∀ y H', Same H H' → Dk K H' y (.tuple (ds.drop n)) → Q y H') : rSlU K x lo none H Q := by
  subst e
  obtain ⟨a, xs, rfl, h1, h2⟩ := hx.tup_inv
  refine .inr (.inl ⟨a, xs, rfl, h1.sq, fun e => ?_, fun _ p hp => ?_⟩)
  · refine k (.ref a) H (Same.refl H) (.tup h1 ?_)
    have hl := h2.length
    have e1 := e.1
    rw [HT.sIx_nat] at e1
    rcases Nat.eq_zero_or_pos n with h0 | h0
    · rw [h0, List.drop_zero]
      exact h2
    · have : xs.length = 0 := by omega
      have h3 : xs = [] := List.eq_nil_of_length_eq_zero this
      have h4 : ds = [] := List.eq_nil_of_length_eq_zero (by omega)
      rw [h4, List.drop_nil, h3]
      exact .nil
  · refine k (.ref p) _ (Same.new hp) (.tup (.inl upd_same) ?_)
    rw [cutV_from]
    exact (h2.drop n).same (Same.new hp)
end
/-- a constant of the module -/
theorem dk_ints {K : PySem.W.Frag} {H : Hp} : ∀ {ks : List Int} {us : List Value}, gisAllB K (ks.map .int) us = true → ∃ vs : List V, vs = ks.map V.int ∧ Vals vs us
  | [], us, h => by
    cases us with
    | nil => exact ⟨[], rfl, .nil⟩
    | cons => unfold gisAllB at h; cases h
  | k :: ks, us, h => by
    cases us with
    | nil => unfold gisAllB at h; cases h
    | cons u us =>
      have h : gisAllB K (.int k :: ks.map .int) (u :: us) = true := h
      unfold gisAllB at h
      obtain ⟨h1, h2⟩ := Bool.and_eq_true_iff.mp h
      obtain ⟨vs, e, r⟩ := dk_ints (H := H) h2
      obtain ⟨v, rv, hv⟩ := gis_ok _ u h1
      have hv := hv H
      cases hv
      exact ⟨.int k :: vs, by rw [e]; rfl, .cons rv r⟩
theorem dks_ints {K : PySem.W.Frag} {H : Hp} : ∀ (ks : List Int), Dks K H (ks.map V.int) (ks.map .int)
  | [] => .nil
  | k :: ks => .cons (.int k) (dks_ints ks)
theorem CsOk.dk {cs : List (Str × GD)} {K : PySem.W.Frag} {w : World} {x : Str} {ks : List Int} (c : CsOk cs K w) (h : (x, GD.dat (.tuple (ks.map .int))) ∈ cs) (H : Hp) : Dk K H (.ref (He.ga K x)) (.tuple (ks.map .int)) := by
  obtain ⟨u, h1, h2⟩ := c.dat h
  obtain ⟨a, o, its, n, rfl, l1, l2, l3, l4, l5⟩ := gis_tup h2
  have e : He.ga K x = a := by
    unfold He.ga
    rw [h1]
  rw [e]
  obtain ⟨vs, ev, r⟩ := dk_ints (H := H) l5
  subst ev
  exact .tup (.inr ⟨o, its, n, l1, l2, l3, Nat.le_trans l4 (by decide), r⟩) (dks_ints ks)

/-! ### lists of numbers -/
def nV (l : List Nat) : List V := l.map fun (n : Nat) => V.int (n : Int)
def nDs (l : List Nat) : List PyData := l.map fun (n : Nat) => PyData.int (n : Int)
def nD (l : List Nat) : PyData := .tuple (nDs l)
section
variable {K : PySem.W.Frag} {H H' : Hp} {x : V} {l : List Nat} {n : Nat} {a : Addr} {Q : VK}
theorem dks_nV : ∀ (l : List Nat), Dks K H (nV l) (nDs l)
  | [] => .nil
  | n :: l => .cons (.int _) (dks_nV l)
theorem ims_nV : ∀ (l : List Nat), Ims H (nV l) (nDs l)
  | [] => .nil
  | n :: l => .cons (.int _) (ims_nV l)
theorem dks_nV_inv : ∀ {l : List Nat} {xs : List V}, Dks K H xs (nDs l) → xs = nV l
  | [], _, h => by cases h; rfl
  | n :: l, _, h => by
    cases h with
    | cons h t =>
      cases h
      rw [dks_nV_inv t]
      rfl
theorem nD_at (h : Dk K H x (nD l)) : ∃ a, x = .ref a ∧ TupK K H a (nV l) := by
  obtain ⟨a, xs, rfl, h1, h2⟩ := h.tup_inv
  rw [dks_nV_inv h2] at h1
  exact ⟨a, rfl, h1⟩
theorem nD_of (h : TupK K H a (nV l)) : Dk K H (.ref a) (nD l) := .tup h (dks_nV l)
theorem nV_at (h : l[n]? = some m) : (nV l)[n]? = some (.int (m : Int)) := by
  unfold nV
  rw [List.getElem?_map, h]
  rfl
theorem nV_len : (nV l).length = l.length := List.length_map _
theorem nD_lay : Lay 1 (nD l) := Lay.tup fun d hd => by
  obtain ⟨n, _, rfl⟩ := List.mem_map.mp hd
  exact .int
theorem nV_flat : (nV l).all flatV = true := by
  unfold nV
  rw [List.all_map]
  exact List.all_eq_true.mpr fun _ _ => rfl
theorem inV_nV {i : Int} : inV (.int i) (nV l) = decide (∃ k ∈ l, (k : Int) = i) := by
  unfold inV nV
  rw [List.any_map, Bool.eq_iff_iff, List.any_eq_true, decide_eq_true_eq]
  constructor
  · rintro ⟨k, hk, e⟩
    refine ⟨k, hk, ?_⟩
    have e : eqV (.int (k : Int)) (.int i) = true := e
    have e2 : eqV (.int (k : Int)) (.int i) = ((k : Int) == i) := rfl
    rw [e2] at e
    simpa using e
  · rintro ⟨k, hk, e⟩
    refine ⟨k, hk, ?_⟩
    show eqV (.int (k : Int)) (.int i) = true
    have e2 : eqV (.int (k : Int)) (.int i) = ((k : Int) == i) := rfl
    rw [e2]
    simpa using e
theorem k_inN (h : SqT K H a (nV l) ∨ SqL K H a (nV l)) (q : Q (.bl (l.contains n)) H) : rInU K false (.int (n : Int)) (.ref a) H Q := by
  refine .inl ⟨a, nV l, rfl, h.symm, rfl, nV_flat, ?_⟩
  rw [inV_nV]
  have e : decide (∃ k ∈ l, (k : Int) = (n : Int)) = l.contains n := by
    rw [Bool.eq_iff_iff, decide_eq_true_eq, List.contains_iff_mem]
    constructor
    · rintro ⟨k, hk, e⟩
      have : k = n := by omega
      rw [← this]
      exact hk
    · intro h
      exact ⟨n, h, rfl⟩
  simp only [Bool.false_eq_true, if_false]
  rw [e]
  exact q
theorem k_niN (h : SqT K H a (nV l) ∨ SqL K H a (nV l)) (q : Q (.bl (!l.contains n)) H) : rInU K true (.int (n : Int)) (.ref a) H Q := by
  refine .inl ⟨a, nV l, rfl, h.symm, rfl, nV_flat, ?_⟩
  rw [inV_nV]
  have e : decide (∃ k ∈ l, (k : Int) = (n : Int)) = l.contains n := by
    rw [Bool.eq_iff_iff, decide_eq_true_eq, List.contains_iff_mem]
    constructor
    · rintro ⟨k, hk, e⟩
      have : k = n := by omega
      rw [← this]
      exact hk
    · intro h
      exact ⟨n, h, rfl⟩
  simp only [if_true]
  rw [e]
  exact q
theorem nDs_inj : ∀ {l m : List Nat}, nDs l = nDs m → l = m
  | [], [], _ => rfl
  | [], _ :: _, h => by cases h
  | _ :: _, [], h => by cases h
  | n :: l, k :: m, h => by
    have h : PyData.int (n : Int) :: nDs l = PyData.int (k : Int) :: nDs m := h
    injection h with h1 h2
    injection h1 with h1
    rw [nDs_inj h2]
    have : n = k := by omega
    rw [this]
theorem eqvAll_nDs : ∀ (l m : List Nat), PyData.eqvAll (nDs l) (nDs m) = decide (l = m)
  | [], [] => by
    show PyData.eqvAll [] [] = _
    rw [PyData.eqvAll]
    simp
  | [], k :: m => by
    show PyData.eqvAll [] (_ :: _) = _
    simp [PyData.eqvAll]
  | k :: m, [] => by
    show PyData.eqvAll (_ :: _) [] = _
    simp [PyData.eqvAll]
  | n :: l, k :: m => by
    show PyData.eqvAll (.int (n : Int) :: nDs l) (.int (k : Int) :: nDs m) = _
    rw [PyData.eqvAll, eqvAll_nDs l m, PyData.eqv]
    rw [Bool.eq_iff_iff]
    simp only [Bool.and_eq_true, beq_iff_eq, decide_eq_true_eq, List.cons.injEq]
    constructor
    · rintro ⟨e, e2⟩
      exact ⟨by omega, e2⟩
    · rintro ⟨e, e2⟩
      exact ⟨by omega, e2⟩
theorem eqv_nD {l m : List Nat} : PyData.eqv (nD l) (nD m) = decide (l = m) := by
  show PyData.eqv (.tuple (nDs l)) (.tuple (nDs m)) = _
  rw [PyData.eqv, eqvAll_nDs]
end
/-! ### comprehensions -/
section
variable {K : PySem.W.Frag} {σ : L2.St} {H : Hp} {g : TG} {te : TE} {tt : TT} {vs : List Nat} {Q : VK} {a b : Addr} {xs ys : List V} {k n : Nat} {l : List Nat} {bs : List Bool}
/-- those of a tuple of numbers that a test lets by -/
theorem l_filtT {f : Nat → Bool} (ha : TupK K H a (nV l)) (hl : l.length ≤ 100000) (hwp : ∀ x : V, wipe ((wipe σ vs).set k (some x)) vs = wipe σ vs)
    (step : ∀ (i m : Nat) (H' : Hp) (QB : Bool → Hp → Prop), l[i]? = some m → Same H H' → (∀ H2, Same H' H2 → QB (f m) H2) → tt ((wipe σ vs).set k (some (.int (m : Int)))) H' QB)
    (he : ∀ (m : Nat) (H' : Hp) (R : VK), R (.int (m : Int)) H' → te ((wipe σ vs).set k (some (.int (m : Int)))) H' R)
    (q : ∀ D H', H D = none → Same H H' → H' D = some (.lst (nV (l.filter f))) → Q (.ref D) H') : LcW (gName k) tt te vs σ Q (Itt K a) H := by
  have body : ∀ D, H D = none → ∀ (i : Nat) (x : V) (H' : Hp), (nV l)[i]? = some x → (H' D = some (.lst (nV ((l.take i).filter f))) ∧ Same H H') → gName k x (wipe σ vs) H' fun σ2 H2 => wipe σ2 vs = wipe σ vs ∧ tt σ2 H2 fun b H3 => if b = true then te σ2 H3 fun y H4 => ∃ acc, H4 D = some (.lst acc) ∧ acc.length < sizeLine ∧ ((upd H4 D (.lst (acc ++ [y]))) D = some (.lst (nV ((l.take (i + 1)).filter f))) ∧ Same H (upd H4 D (.lst (acc ++ [y])))) else (H3 D = some (.lst (nV ((l.take (i + 1)).filter f))) ∧ Same H H3) := by
    rintro D hD i x H' hi ⟨hDl, sm⟩
    have hil := (List.getElem?_eq_some_iff.mp hi).1
    rw [nV_len] at hil
    have hm : l[i]? = some (l[i]'hil) := List.getElem?_eq_getElem _
    generalize l[i]'hil = m at hm
    rw [nV_at hm] at hi
    cases hi
    refine ⟨hwp _, step i m H' _ hm sm (fun H2 s2 => ?_)⟩
    have hD2 := s2 _ _ hDl
    rw [filter_take_succ hm]
    cases hf : f m with
    | true =>
      rw [if_pos rfl, if_pos rfl]
      refine he m H2 _ ⟨_, hD2, szl ?_, ?_, Same.mut (sm.trans s2) hD⟩
      · rw [nV_len]
        have := List.length_filter_le f (l.take i)
        rw [List.length_take] at this
        omega
      · rw [upd_same]
        unfold nV
        rw [List.map_append]
        rfl
    | false =>
      rw [if_neg Bool.false_ne_true, if_neg Bool.false_ne_true, List.append_nil]
      exact ⟨hD2, sm.trans s2⟩
  exact l_tup (xs := nV l) (fun D i H' => H' D = some (.lst (nV ((l.take i).filter f))) ∧ Same H H') (fun D hD => ⟨upd_same, Same.new hD⟩) (fun D hD i H' _ ⟨_, sm⟩ => (ha.same sm).sq) body fun D hD H' ⟨h1, h2⟩ => by
    rw [nV_len, List.take_length] at h1
    exact q D H' hD h2 h1
/-- over a tuple: a list of truths -/
theorem l_boolsT (ha : TupK K H a xs) (hl : xs.length = bs.length) (hb : bs.length ≤ 100000) (hwp : ∀ x : V, wipe ((wipe σ vs).set k (some x)) vs = wipe σ vs)
    (step : ∀ (D : Addr) (i : Nat) (x : V) (b : Bool) (H' : Hp) (R : VK), xs[i]? = some x → bs[i]? = some b → Same H H' → (∀ H2, Same H' H2 → R (.bl b) H2) → te ((wipe σ vs).set k (some x)) H' R)
    (q : ∀ D H', Same H H' → H' D = some (.lst (bs.map V.bl)) → Q (.ref D) H') : LcW (gName k) tYes te vs σ Q (Itt K a) H := by
  refine l_tup (xs := xs) (fun D i H' => H' D = some (.lst ((bs.take i).map V.bl)) ∧ Same H H') (fun D hD => ⟨upd_same, Same.new hD⟩) (fun D hD i H' _ ⟨_, sm⟩ => (ha.same sm).sq) ?_ ?_
  · rintro D hD i x H' hi ⟨hDl, sm⟩
    have hil := (List.getElem?_eq_some_iff.mp hi).1
    have hbi : bs[i]? = some (bs[i]'(by omega)) := List.getElem?_eq_getElem _
    generalize bs[i]'(by omega) = b at hbi
    refine ⟨hwp _, g_yes (g_ifT (step D i x b H' _ hi hbi sm (fun H2 s2 => ?_)))⟩
    refine ⟨_, s2 _ _ hDl, szl (by rw [List.length_map, List.length_take]; omega), ?_, Same.mut (sm.trans s2) hD⟩
    rw [upd_same, map_take_succ hbi]
  · rintro D hD H' ⟨hDl, sm⟩
    rw [hl, List.take_length] at hDl
    exact q D H' sm hDl
/-- over zip of two tuples -/
theorem l_zipB (ha : TupK K H a xs) (hb : TupK K H b ys) (h1 : n ≤ xs.length) (h2 : n ≤ ys.length) (h3 : xs.length ≤ n ∨ ys.length ≤ n) (hn : bs.length = n) (hl : n ≤ 100000)
    (step : ∀ (i : Nat) (x y : V) (c : Bool) (Tp : Addr) (H' : Hp) (R : VK), xs[i]? = some x → ys[i]? = some y → bs[i]? = some c → Same H H' → H' Tp = some (.tup [x, y]) → (∀ H2, Same H' H2 → R (.bl c) H2) → g (.ref Tp) (wipe σ vs) H' fun σ2 H2 => wipe σ2 vs = wipe σ vs ∧ te σ2 H2 R)
    (hm : ∀ (y : V) (σ1 : L2.St) (H1 : Hp) (R R' : L2.St → Hp → Prop), (∀ σ2 H2, R σ2 H2 → R' σ2 H2) → g y σ1 H1 R → g y σ1 H1 R')
    (q : ∀ D H', Same H H' → H' D = some (.lst (bs.map V.bl)) → Q (.ref D) H') : LcW g tYes te vs σ Q (RZ.ItzT K a b) H := by
  intro D hD
  refine ⟨fun i m H' => m = n - i ∧ i ≤ n ∧ H' D = some (.lst ((bs.take i).map V.bl)) ∧ Same H H', ⟨n, by simp, Nat.zero_le _, upd_same, Same.new hD⟩, ?_⟩
  rintro i m H' ⟨rfl, hi, hDl, sm⟩
  have qx := (ha.same sm).sq
  have qy := (hb.same sm).sq
  by_cases hlt : i < n
  · have hx : xs[i]? = some (xs[i]'(by omega)) := List.getElem?_eq_getElem _
    have hy : ys[i]? = some (ys[i]'(by omega)) := List.getElem?_eq_getElem _
    have hc : bs[i]? = some (bs[i]'(by omega)) := List.getElem?_eq_getElem _
    generalize bs[i]'(by omega) = c at hc
    refine .inr ⟨⟨xs, ys, _, _, qx, qy, hx, hy⟩, fun H2 => i + 1 ≤ n ∧ H2 D = some (.lst ((bs.take (i + 1)).map V.bl)) ∧ Same H H2, fun H2 p => ⟨n - (i + 1), by omega, rfl, p⟩, fun v H2 y => ?_⟩
    obtain ⟨T, x', y', rfl, hT, rfl, f1, f2⟩ := y
    have sT : Same H' (upd H' T (.tup [x', y'])) := Same.new hT
    refine hm _ _ _ _ _ (fun σ2 H2 h => ⟨h.1, g_yes (g_ifT h.2)⟩) (step i x' y' c T _ _ (f1 xs qx) (f2 ys qy) hc (sm.trans sT) upd_same (fun H2 s2 => ?_))
    have s3 := sT.trans s2
    refine ⟨_, s3 _ _ hDl, szl (by rw [List.length_map, List.length_take]; omega), hlt, ?_, Same.mut (sm.trans s3) hD⟩
    rw [upd_same, map_take_succ hc]
  · have e : i = n := by omega
    subst e
    rw [← hn, List.take_length] at hDl
    exact .inl ⟨⟨xs, ys, qx, qy, h3⟩, q D H' sm hDl⟩
end
/-! ### list(range(n)) -/
theorem g_lstRg {te : L2.St → Hp → (Int → Int → Hp → Prop) → Prop} {σ : L2.St} {H : Hp} {Q : VK} (h : te σ H fun a b H1 => RgOk a b ∧ ∀ q, H1 q = none → Q (.ref q) (upd H1 q (.lst (L2.rgV a b)))) : tLstRg te σ H Q := h
theorem g_rg1 {ta : TE} {σ : L2.St} {H : Hp} {R : Int → Int → Hp → Prop} (h : ta σ H fun x H1 => ∃ n, x = .int n ∧ R 0 n H1) : tRg1 ta σ H R := h
theorem g_rgI {i : Int} {A : Int → Prop} (h : A i) : ∃ n, V.int i = .int n ∧ A n := ⟨i, rfl, h⟩
/-! ### d's keys, sorted -/
def rSortDI : List V → Hp → VK → Prop := fun xs H Q => ∃ (a : Addr) (kvs : List (Key × V)) (ks : List Int), xs = [.ref a] ∧ Rd H a (.dK kvs) ∧ kvs.map (·.1) = ks.map Sum.inl ∧ ks.length < 64 ∧ ∀ (ys : List Int) (p : Addr), ys.Perm ks → ys.Pairwise (· ≤ ·) → H p = none → Q (.ref p) (upd H p (.lst (ys.map V.int)))
theorem c_sortDI {X : Cx} (hc : X.calm = true) : CallR X (.builtin "sorted") rSortDI := call_sortedDI hc
end G

set_option Elab.async false
set_option linter.all false
set_option maxRecDepth 100000
set_option maxHeartbeats 4000000

namespace K60
open PySem PySem.Spec PyProof.Rows L2 G
local macro_rules | `(tactic| walk_at "sc") => `(tactic| first | (with_reducible assumption) | decide | omega | assumption | (simp only [List.length_cons, List.length_nil, List.length_append, List.length_map, List.length_replicate, List.length_set]; omega) | (show _ ≤ sizeLine; decide) | (show _ < sizeLine; decide))
local macro_rules | `(tactic| walk_at "sq") => `(tactic| first | assumption | exact SqL.of (by walk_at "hi") | exact SqT.of (by walk_at "hi"))
local macro_rules | `(tactic| walk_at "sd") => `(tactic| first | exact mul_ok (by first | omega | walk_at "sc") (by first | omega | walk_at "sc") | exact mul_ok' (by first | omega | walk_at "sc") (by first | omega | walk_at "sc"))
local macro_rules | `(tactic| walk_at "hi") => `(tactic| first | assumption | exact Has.get (by assumption) 0 rfl | exact Has.get (by assumption) 1 rfl | exact Has.get (by assumption) 2 rfl | exact Has.get (by assumption) 3 rfl | exact Has.get (by assumption) 4 rfl | exact Has.get (by assumption) 5 rfl | exact Has.get (by assumption) 6 rfl | exact Has.get (by assumption) 7 rfl | exact Has.get (by assumption) 8 rfl | exact Has.get (by assumption) 9 rfl)
local macro_rules | `(tactic| walk_at "s") => `(tactic| first
  | (with_reducible first
  | refine g_seq ?_ | refine g_asg ?_ | refine g_var rfl ?_ | refine g_c ?_ | refine g_op ?_ | refine g_name ?_ | refine g_consA ?_ | refine g_nilA ?_
  | refine g_test ?_ | refine g_exb ?_ | refine g_ifS ?_ | refine g_ret ?_ | refine g_call ?_ | refine g_cb ?_ | refine g_eqI ?_ | refine g_neI ?_
  | refine g_cmpI ?_ | refine g_I0 ?_ | refine g_addI ?_ | refine g_intI ?_ | refine g_abs ?_ | refine g_max2 ?_ | refine g_min2 ?_ | refine g_next ?_ | refine g_drop ?_ | refine g_aug rfl ?_ | refine g_ipI ?_
  | refine g_tru ?_ | refine g_truB ?_ | refine g_truI ?_ | refine g_truN ?_ | refine g_not ?_ | refine g_and ?_ | refine g_or ?_ | refine g_notV ?_ | refine g_andV ?_ | refine g_orV ?_ | refine g_ifE ?_ | refine g_chain ?_
  | refine g_un ?_ | refine g_rU ?_ | refine g_retN ?_ | refine g_brk ?_ | refine g_ct ?_ | refine g_B ?_ | refine g_eqB ?_ | refine g_neB ?_ | refine g_bm ?_ | refine g_bm0 ?_ | refine g_intB ?_
  | refine g_disp ?_ | refine g_dget2 ?_ | refine g_dget1 ?_ | refine g_pairN ?_ | refine g_pairC ?_ | refine g_dput ?_ | refine g_isNn ?_ | refine g_isNi ?_ | refine g_isNs ?_ | refine g_isNb ?_ | refine g_isNr ?_ | refine g_isB ?_ | refine g_lset ?_ | refine g_notB ?_ | refine g_noNn ?_ | refine g_noNi ?_ | refine g_noNs ?_ | refine g_noNb ?_ | refine g_noNr ?_ | refine g_gc ?_ | refine g_gn ?_ | refine g_gfld ?_ | refine g_lc ?_ | refine g_yes ?_ | refine g_sfld ?_ | refine g_meth ?_ | refine g_make ?_ | refine g_sub ?_ | refine g_sl ?_ | refine g_part ?_ | refine g_exi ?_ | refine g_noPart ?_ | refine g_for ?_ | refine g_iR ?_ | refine g_iSeq ?_ | refine g_isiIi ?_ | refine g_isiIb ?_ | refine g_isiIs ?_ | refine g_isiIt ?_ | refine g_isiBi ?_ | refine g_isiBb ?_ | refine g_isiBs ?_ | refine g_isiBt ?_ | refine g_isiSi ?_ | refine g_isiSb ?_ | refine g_isiSs ?_ | refine g_isiSt ?_ | refine g_isiNi ?_ | refine g_isiNb ?_ | refine g_isiNs ?_ | refine g_isiNt ?_
  | refine g_ifT ?_ | refine g_ifF ?_ | refine g_ifNT ?_ | refine g_ifNF ?_ | refine g_tup ?_ | refine g_lst ?_)
  | (with_reducible refine g_eqSS ?_) | (with_reducible refine g_neSS ?_) | ((with_reducible refine g_eqSx ?c ?_); (case c => decide +kernel)) | ((with_reducible refine g_neSx ?c ?_); (case c => decide +kernel)) | (with_reducible refine g_eqS ?_) | (with_reducible refine g_neS ?_)
  | ((with_reducible refine g_mod ?c ?_); (case c => walk_at "sc")) | ((with_reducible refine g_fdiv ?c ?d ?_); (case c => walk_at "sc"); (case d => walk_at "sc")) | ((with_reducible refine g_shr ?c ?_); (case c => walk_at "sc"))
  | ((with_reducible refine g_shl ?c ?d ?e ?_); (case c => walk_at "sc"); (case d => walk_at "sc"); (case e => walk_at "sc")) | ((with_reducible refine g_pow ?c ?d ?e ?_); (case c => walk_at "sc"); (case d => walk_at "sc"); (case e => walk_at "sc")) | ((with_reducible refine g_mulI ?c ?_); (case c => walk_at "sd"))
  | ((with_reducible refine' g_unp ?h ?n ?_); (case h => walk_at "sq"); (case n => rfl)) | ((with_reducible refine g_wipe ?e ?_); (case e => rfl)) | walk_at "fld" | ((with_reducible refine g_rR1 ?c1 ?c2 ?_); (case c1 => walk_at "sc"); (case c2 => walk_at "sc")) | ((with_reducible refine g_rR2 ?c1 ?_); (case c1 => exact ⟨by walk_at "sc", by walk_at "sc", by walk_at "sc", by walk_at "sc"⟩))
  | ((with_reducible refine' g_ixA ?h ?z ?v ?_); (case h => assumption); (case z => decide); (case v => rfl)) | ((with_reducible refine' g_isD ?h ?_); (case h => walk_at "hi")) | ((with_reducible refine' g_lenM ?c ?_); (case c => walk_at "sq")) | ((with_reducible refine' g_lenL ?c ?_); (case c => walk_at "sq")) | ((with_reducible refine' g_seqL ?c ?_); (case c => walk_at "sq"))
  | ((with_reducible refine' g_ty_ ?c ?_); (case c => exact .inl ⟨rfl, _, by walk_at "sq"⟩)))
local macro_rules | `(tactic| walk_at "go") => `(tactic| repeat walk_at "s")
local macro_rules | `(tactic| walk_at "len") => `(tactic| (intro vs H Q E h; first | (obtain ⟨e, _⟩ := h; rw [e]; rfl) | (obtain ⟨_, e, _⟩ := h; rw [e]; rfl) | (obtain ⟨_, _, e, _⟩ := h; rw [e]; rfl) | (obtain ⟨_, _, _, e, _⟩ := h; rw [e]; rfl) | (obtain ⟨_, _, _, _, e, _⟩ := h; rw [e]; rfl) | (obtain ⟨_, _, _, _, _, e, _⟩ := h; rw [e]; rfl) | (obtain ⟨_, _, _, _, _, _, e, _⟩ := h; rw [e]; rfl) | (obtain ⟨_, _, _, _, _, _, _, e, _⟩ := h; rw [e]; rfl) | (obtain ⟨_, _, _, _, _, _, _, _, e, _⟩ := h; rw [e]; rfl) | (obtain ⟨_, _, _, _, _, _, _, _, _, e, _⟩ := h; rw [e]; rfl) | (obtain ⟨_, _, _, _, _, _, _, _, _, _, e, _⟩ := h; rw [e]; rfl) | (obtain ⟨_, _, _, _, _, _, _, _, _, _, _, e, _⟩ := h; rw [e]; rfl) | (obtain ⟨_, _, _, _, _, _, _, _, _, _, _, _, e, _⟩ := h; rw [e]; rfl) | (obtain ⟨_, _, _, _, _, _, _, _, _, _, _, _, _, e, _⟩ := h; rw [e]; rfl) | (obtain ⟨_, _, _, _, _, _, _, _, _, _, _, _, _, _, e, _⟩ := h; rw [e]; rfl) | (obtain ⟨_, _, _, _, _, _, _, _, _, _, _, _, _, _, _, e, _⟩ := h; rw [e]; rfl) | (obtain ⟨_, _, _, _, _, _, _, _, _, _, _, _, _, _, _, _, e, _⟩ := h; rw [e]; rfl) | (obtain ⟨_, _, _, _, _, _, _, _, _, _, _, _, _, _, _, _, _, e, _⟩ := h; rw [e]; rfl) | (obtain ⟨_, _, _, _, _, _, _, _, _, _, _, _, _, _, _, _, _, _, e, _⟩ := h; rw [e]; rfl) | (obtain ⟨_, _, _, _, _, _, _, _, _, _, _, _, _, _, _, _, _, _, _, e, _⟩ := h; rw [e]; rfl) | (obtain ⟨_, _, _, _, _, _, _, _, _, _, _, _, _, _, _, _, _, _, _, _, e, _⟩ := h; rw [e]; rfl) | (obtain ⟨_, _, _, _, _, _, _, _, _, _, _, _, _, _, _, _, _, _, _, _, _, e, _⟩ := h; rw [e]; rfl) | (obtain ⟨_, _, _, _, _, _, _, _, _, _, _, _, _, _, _, _, _, _, _, _, _, _, e, _⟩ := h; rw [e]; rfl) | (obtain ⟨_, _, _, _, _, _, _, _, _, _, _, _, _, _, _, _, _, _, _, _, _, _, _, e, _⟩ := h; rw [e]; rfl)))

def topS (i : Nat) : Stmt := PySem.Challenge.pw_sameclock_k60_words_and_programs_that_ar.main.body.getD i (.Pass ⟨0, 0, 0, 0⟩)
def dOf (x : Str) (i : Nat) : He.DefD := ⟨(x, none), x, x, defArgs (topS i), defBody (topS i), defScope (topS i), [], []⟩
def mOf (c m q : Str) (s : Stmt) : He.DefD := ⟨(c, some m), m, q, defArgs s, defBody s, defScope s, [], []⟩
def fn : List He.DefD := [dOf "shifted" 8, dOf "divided" 9, dOf "apply" 10, dOf "size_of" 11, dOf "is_number" 12, dOf "is_text" 13, dOf "part_fits" 14, dOf "is_row" 15, dOf "is_block" 16, dOf "is_array" 17, dOf "is_ir" 18, dOf "_law_draws" 20, dOf "_law_next" 21, dOf "_law_row" 22, dOf "_law_program" 23, dOf "_law_word" 24, dOf "_law_bits" 25, dOf "_law_applied" 26, dOf "_law_is_number" 27, dOf "_law_is_row" 28, dOf "_law_is_program" 29, dOf "_law_spoilt" 30, dOf "law" 31]
def fa : List He.Fa := [.glo "shifted", .glo "divided", .glo "apply", .glo "size_of", .glo "is_number", .glo "is_text", .glo "part_fits", .glo "is_row", .glo "is_block", .glo "is_array", .glo "is_ir", .glo "_law_draws", .glo "_law_next", .glo "_law_row", .glo "_law_program", .glo "_law_word", .glo "_law_bits", .glo "_law_applied", .glo "_law_is_number", .glo "_law_is_row", .glo "_law_is_program", .glo "_law_spoilt", .glo "law", .free "abs", .free "all", .free "any", .free "bool", .free "int", .free "isinstance", .free "len", .free "range", .free "str", .free "tuple", .int "WORD" 4294967296, .int "MOST" 100000, .int "LONGEST" 64, .glo "SIGNS", .glo "LABELS", .glo "SHAPES", .glo "ENDS"]
def dt_SIGNS : List PyData := [.str "+", .str "-", .str "*", .str "&", .str "|", .str "^", .str "<<", .str ">>", .str "==", .str "<", .str "<=", .str "div", .str "mod"]
def dt_LABELS : List PyData := [.str "public", .str "secret"]
def kv_SHAPES : List (Str × PyData) := [("const", .str "rn"), ("copy", .str "rr"), ("op", .str "grrr"), ("select", .str "rrrr"), ("load", .str "rir"), ("store", .str "irr"), ("out", .str "r"), ("jump", .str "t"), ("branch", .str "rtt"), ("stop", .str "r")]
def dt_ENDS : List PyData := [.str "jump", .str "branch", .str "stop"]
def cs : List (Str × GD) := [("SIGNS", GD.dat (.tuple dt_SIGNS)), ("LABELS", GD.dat (.tuple dt_LABELS)), ("SHAPES", GD.dic kv_SHAPES), ("ENDS", GD.dat (.tuple dt_ENDS))]
theorem in_SIGNS : (("SIGNS" : Str), GD.dat (.tuple dt_SIGNS)) ∈ cs := List.mem_of_getElem? (i := 0) rfl
theorem in_LABELS : (("LABELS" : Str), GD.dat (.tuple dt_LABELS)) ∈ cs := List.mem_of_getElem? (i := 1) rfl
theorem in_SHAPES : (("SHAPES" : Str), GD.dic kv_SHAPES) ∈ cs := List.mem_of_getElem? (i := 2) rfl
theorem in_ENDS : (("ENDS" : Str), GD.dat (.tuple dt_ENDS)) ∈ cs := List.mem_of_getElem? (i := 3) rfl
variable {P : Program} {w : World} {K : PySem.W.Frag} {mg : Str → Option Value} {base : Heap}
/-! ### the head -/
abbrev R : PySem.W.OpenRow := PySem.W.OpenLaw.row PySem.Challenge.rw_sameclock_k60_words_and_programs_that_ar
abbrev hk : PySem.W.Hook := He.hookX 5 fa fn (tabs cs) [] (exB cs)
def ob (s : PySem.W.SharedT) : He.AlX := He.obsX 5 fa fn (tabs cs) [] (exB cs) (HandSHeadRun.getT s)
theorem ob_eq (s : PySem.W.SharedT) : ob s = hk.obs s.abs := He.obsX_eq (HandSHeadRun.getT_eq s)
theorem run_false (w : World) : HandSHeadRun.RunEq R (PySem.W.view R.prog [31]) hk ob 8000 ["SIGNS", "WORD", "MOST", "LONGEST", "LABELS", "SHAPES", "ENDS", "shifted", "divided", "apply", "size_of", "is_number", "is_text", "part_fits", "is_row", "is_block", "is_array", "is_ir", "_law_draws", "_law_next", "_law_row", "_law_program", "_law_word", "_law_bits", "_law_applied", "_law_is_number", "_law_is_row", "_law_is_program", "_law_spoilt"] (w.withFollow "special-get-raises" false) := by
  intro os
  kernel_rfl
theorem run_true (w : World) : HandSHeadRun.RunEq R (PySem.W.view R.prog [31]) hk ob 8000 ["SIGNS", "WORD", "MOST", "LONGEST", "LABELS", "SHAPES", "ENDS", "shifted", "divided", "apply", "size_of", "is_number", "is_text", "part_fits", "is_row", "is_block", "is_array", "is_ir", "_law_draws", "_law_next", "_law_row", "_law_program", "_law_word", "_law_bits", "_law_applied", "_law_is_number", "_law_is_row", "_law_is_program", "_law_spoilt"] (w.withFollow "special-get-raises" true) := by
  intro os
  kernel_rfl
theorem run (w : World) : HandSHeadRun.RunEq R (PySem.W.view R.prog [31]) hk ob 8000 ["SIGNS", "WORD", "MOST", "LONGEST", "LABELS", "SHAPES", "ENDS", "shifted", "divided", "apply", "size_of", "is_number", "is_text", "part_fits", "is_row", "is_block", "is_array", "is_ir", "_law_draws", "_law_next", "_law_row", "_law_program", "_law_word", "_law_bits", "_law_applied", "_law_is_number", "_law_is_row", "_law_is_program", "_law_spoilt"] w :=
  PySem.W.byRow2 "special-get-raises" (P := fun w => HandSHeadRun.RunEq R (PySem.W.view R.prog [31]) hk ob 8000 ["SIGNS", "WORD", "MOST", "LONGEST", "LABELS", "SHAPES", "ENDS", "shifted", "divided", "apply", "size_of", "is_number", "is_text", "part_fits", "is_row", "is_block", "is_array", "is_ir", "_law_draws", "_law_next", "_law_row", "_law_program", "_law_word", "_law_bits", "_law_applied", "_law_is_number", "_law_is_row", "_law_is_program", "_law_spoilt"] w) run_false run_true w

/-! ### tuple(d), d a dict of the module -/
section
variable {prog : Program} {w : World} {A : Around} {E : Value → Shared → Prop} {s : Shared} {d : Addr} {n : Nat} {P : Nat → Value → Prop} {OK : Heap → Prop}
theorem td_new {Q₁ : Value → Shared → Prop} (S : PySem.W.KdlSrc prog w "dict" d d n P OK) (hd : A.handled = none) (hok : OK s.heap) (hn : n ≤ sizeLine)
    (q : ∀ (h' : Heap) (tk : Nat) (acc : Array Value), (∀ b o, s.heap.get? b = some o → h'.get? b = some o) → ItemsOf P acc n →
      Q₁ (.ref h'.objs.size) { s with heap := h'.push { cls := .type "tuple", data := .seq acc }, toks := tk }) :
    codeAny (model prog w) A (.call (.builtin "tuple.__new__") ⟨[.type "tuple", .ref d], []⟩) (wants Q₁ E) s := by
  refine codeAny_of_tree ?_
  show wpAny _ A.in1 (checkBuiltinCall "tuple.__new__" ⟨[.type "tuple", .ref d], []⟩ >>= fun _ => again (.builtin "tuple.__new__" ⟨[.type "tuple", .ref d], []⟩)) _ _ s
  refine wpAny_bind (wpAny_of_eq (F.newCall_tuple_1 _) (wpAny_pure ⟨plainId_quiet F.plain_tuple_new _, codeAny_builtin F.entry_tuple_new ?_⟩))
  rw [Around.under_plainId F.plain_tuple_new _]
  have f1 := sub_tuple_self
  have f2 := init_tuple_lookup
  have f3 := madeHere_tuple
  have f4 := S.type s hok
  have f5 : A.in1.handled = none := hd
  wp_walk using wpAny_typeOf f4, PySem.W.kdu_collect (A := A.in1) S f5 hok hn
  intro h' tk acc hk hi
  show wpAny _ _ (Builtin.Tuple.tupleExact acc.toList.toArray >>= fun v => ret v) _ _ _
  have ea : acc.toList.toArray = acc := by simp
  rw [ea]
  unfold Builtin.Tuple.tupleExact
  refine wpAny_bind (wpAny_newObj_type ?_ (by show acc.size ≤ sizeLine; rw [hi.1]; exact hn))
  exact wpAny_pure (q h' tk acc hk hi)
theorem td_call {Q : Value → Shared → Prop} (S : PySem.W.KdlSrc prog w "dict" d d n P OK) (hd : A.handled = none) (hok : OK s.heap) (hn : n ≤ sizeLine)
    (q : ∀ (h' : Heap) (tk : Nat) (acc : Array Value), (∀ b o, s.heap.get? b = some o → h'.get? b = some o) → ItemsOf P acc n →
      Q (.ref h'.objs.size) { s with heap := h'.push { cls := .type "tuple", data := .seq acc }, toks := tk }) :
    wpAny (model prog w) A (call (.type "tuple") [.ref d]) Q E s :=
  callType_codes (Q₁ := fun obj s₁ => s₁.TypeIs obj "tuple" ∧ Q obj s₁) F.called_tuple (F.typeCall_tuple_1 _) F.entry_object_init
    (td_new (A := A.in1) S hd hok hn fun h' tk acc hk hi => ⟨⟨_, Heap.get?_push_size _ rfl, rfl⟩, q h' tk acc hk hi⟩) fun obj s₁ g =>
      ⟨g.1, F.args_object_init_2 obj _, object_init_meets F.called_tuple.init.lookup F.called_tuple.made (by decide) prog w A.in1 _ s₁ ⟨g.1, rfl, g.2⟩⟩
end
theorem dic_keys {cs : List (Str × GD)} {K : PySem.W.Frag} {w : World} {x : Str} {kvs : List (Str × PyData)} (c : CsOk cs K w) (h : (x, GD.dic kvs) ∈ cs) :
    ∃ es n, K.lookup (He.ga K x) = some ⟨.type "dict", none, .dict es n, #[]⟩ ∧ (He.ga K x == sysModules) = false ∧ es.toList.map He.keyOf = He.keysIn w.params (kvs.map (·.1)) := by
  have e := tab_eq c.t h
  obtain ⟨es, n, D⟩ := He.dicW_ok e
  refine ⟨es, n, D.at_, D.low, ?_⟩
  unfold He.dicW at e
  rw [D.at_] at e
  replace e : (match decide ("dict" = "dict") && ((#[] : Array (Option Value)).isEmpty && !(He.ga K x == sysModules)) with
    | true => some (es.toList.map He.keyOf)
    | false => none) = some (He.keysIn w.params (kvs.map (·.1))) := e
  rw [D.low] at e
  exact Option.some.inj e
theorem dic_key {P : Params} {l : List DictEntry} {ks : List Str} (h : l.map He.keyOf = He.keysIn P ks) : l.length = ks.length ∧ ∀ (i : Nat) (en : DictEntry) (z : Str), l[i]? = some en → ks[i]? = some z → ∃ t, en.key = .str z t := by
  have hl := congrArg List.length h
  unfold He.keysIn at hl
  rw [List.length_map, List.length_map] at hl
  refine ⟨hl, fun i en z h1 h2 => ?_⟩
  have e := congrArg (fun m : List (Option (Str × Int)) => m[i]?) h
  unfold He.keysIn at e
  simp only [List.getElem?_map, h1, h2, Option.map_some] at e
  exact keyOf_of (Option.some.inj e)
def tTupG (d : Addr) (ks : List Str) (ta : TE) : TE := fun σ H Q => ta σ H fun v H1 => v = .ref d ∧ ∀ q, H1 q = none → Q (.ref q) (upd H1 q (.tup (ks.map V.str)))
theorem g_tupG {d : Addr} {ks : List Str} {ta : TE} {σ : L2.St} {H : Hp} {Q : VK} (h : ta σ H fun v H1 => v = .ref d ∧ ∀ q, H1 q = none → Q (.ref q) (upd H1 q (.tup (ks.map V.str)))) : tTupG d ks ta σ H Q := h
theorem pe_tupG {X : Cx} {cs : List (Str × GD)} {K : PySem.W.Frag} {w0 : World} {x : Str} {kvs : List (Str × PyData)} {a : Expr} {ta : TE} {p pos : Pos} (hK : X.K = K) (hw : X.w = w0) (c : CsOk cs K w0) (h : (x, GD.dic kvs) ∈ cs) (hs : kvs.length ≤ 1000)
    (hc : X.calm = true) (hg : Gl X "tuple") (hm : X.mg "tuple" = none) (ha : PE X a ta) (na : starEach [a] X.env = (false, eval a X.env) :: starEach [] X.env := by rfl) : PE X (.Call (.Name "tuple" p) [a] [] pos) (tTupG (He.ga K x) (kvs.map (·.1)) ta) := by
  subst hK
  subst hw
  obtain ⟨es, n, lk, lo, ks⟩ := dic_keys c h
  obtain ⟨hl, hk⟩ := dic_key ks
  refine ⟨fun pins s σ H Q I g => ?_⟩
  refine Call_ (ld_blt I hg hm boot_tuple ?_)
  refine PyProof.Rows.callWith_type1 (PyProof.Rows.args_cons (thn (ha.run pins s σ H _ I g) fun v s1 ⟨x1, H1, I1, r1, q1⟩ => PyProof.Rows.args_nil ?_) na) na
  obtain ⟨rfl, q1⟩ := q1
  cases r1
  have ho := I1.kIn _ _ lk
  have hz : es.size ≤ sizeLine := by
    rw [sizeLine_eq]
    rw [List.length_map, Array.length_toList] at hl
    omega
  refine td_call (kdl_raw (o := ⟨.type "dict", none, .dict es n, #[]⟩) (es := es) (ep := n) lo ⟨rfl, rfl, rfl⟩ rfl) (I1.ok.hd hc) ho hz fun h' tk acc hk' hi => ?_
  have I2 : Inv X pins σ H1 { s1 with heap := h', toks := tk } := I1.kept hk'
  have rv : Vals ((kvs.map (·.1)).map V.str) acc.toList := by
    refine vals_of_at ?_ fun j y u h1 h2 => ?_
    · rw [List.length_map, ← hl, Array.length_toList, Array.length_toList]
      exact hi.1.symm
    · obtain ⟨en, h3, rfl⟩ := hi.2 j u (by rw [← h2, Array.getElem?_toList])
      rw [List.getElem?_map] at h1
      obtain ⟨z, h4, rfl⟩ := Option.map_eq_some_iff.mp h1
      obtain ⟨t, e⟩ := hk j en z (by rw [Array.getElem?_toList]; exact h3) h4
      exact ⟨t, e⟩
  have hz2 : ((kvs.map (·.1)).map V.str).length ≤ sizeLine := by
    rw [sizeLine_eq, List.length_map, List.length_map]
    omega
  exact ⟨.ref h'.objs.size, upd H1 h'.objs.size (.tup ((kvs.map (·.1)).map V.str)), I2.laid (t' := tk) (fun c o e => Heap.get?_push_of_some _ e) (Nat.le_refl _) (show ObjOk X.prog X.w _ _ _ (.tup ((kvs.map (·.1)).map V.str)) from ⟨hz2, acc.toList, rv, by rw [Array.toArray_toList]; exact IsTup.new _ _⟩), rfl, q1 _ (I2.hok.fresh (Nat.le_refl _))⟩


/-! ### draws of another kind: w["draws"], w["at"] (laws k60 .. k65, k86) -/
structure RowW (row : List Int) : Prop where
  dig : ∀ x ∈ row, 0 ≤ x ∧ x < 997
  len : row.length ≤ 10000
theorem ne_dw : ¬ (("draws" : Str) = "at") := by decide +kernel
theorem ne_wd : ¬ (("at" : Str) = "draws") := by decide +kernel
/-- the dict holds its row and its place -/
structure KvW (kvs : List (Key × V)) (r : Addr) (n : Int) : Prop where
  d : valV kvs (.inr "draws") = some (.ref r)
  a : valV kvs (.inr "at") = some (.int n)
  l : kvs.length ≤ 15
theorem putK_has {kvs : List (Key × V)} {k : Key} {v x : V} (h : valV kvs k = some x) : (putK kvs k v).length = kvs.length := by
  unfold putK
  rw [valV_any, h]
  simp
theorem KvW.put {kvs : List (Key × V)} {r : Addr} {n m : Int} (h : KvW kvs r n) : KvW (putK kvs (.inr "at") (.int m)) r m := ⟨by
  rw [valV_put, if_neg (fun e => ne_dw (Sum.inr.inj e))]
  exact h.d, by rw [valV_put, if_pos rfl], by rw [putK_has h.a]; exact h.l⟩
theorem KvW.made {r : Addr} : KvW (mergeK [] [(.inr "draws", .ref r), (.inr "at", .int 0)]) r 0 := by
  unfold mergeK
  simp only [List.foldl_cons, List.foldl_nil]
  refine ⟨?_, ?_, ?_⟩
  · rw [valV_put, if_neg (fun e => ne_dw (Sum.inr.inj e)), valV_put, if_pos rfl]
  · rw [valV_put, if_pos rfl]
  · rw [putK_new _ (by rw [valV_put, if_neg (fun e => ne_wd (Sum.inr.inj e))]; rfl), putK_new _ rfl]
    show 2 ≤ 15
    decide
theorem KvW.getD {kvs : List (Key × V)} {r d : Addr} {n : Int} {H : Hp} (h : KvW kvs r n) (e : H d = some (.dK kvs)) : DGet H d (.str "draws") (some (.ref r)) := by
  rw [← h.d]
  exact DGet.k (k := .inr "draws") e
theorem KvW.getA {kvs : List (Key × V)} {r d : Addr} {n : Int} {H : Hp} (h : KvW kvs r n) (e : H d = some (.dK kvs)) : DGet H d (.str "at") (some (.int n)) := by
  rw [← h.a]
  exact DGet.k (k := .inr "at") e
def rDA (K : PySem.W.Frag) (tv : TE) (rd : V → V → Hp → VK → Prop) (σ : L2.St) : V → V → Hp → (Hp → Prop) → Prop := fun x y H2 R => ∃ a v, x = .ref a ∧ DGet H2 a y (some v) ∧ tv σ H2 fun y2 H3 => rd v y2 H3 fun z H4 => ∃ H5, DPut H4 a y z H5 ∧ R H5
theorem g_daug {K : PySem.W.Frag} {σ : L2.St} {H : Hp} {D : Ends} {td ty tv : TE} {rd : V → V → Hp → VK → Prop} (h : td σ H fun x H1 => ty σ H1 fun y H2 => rDA K tv rd σ x y H2 (D.nx σ)) : sDAug td ty tv rd D σ H := h
def sp_law_draws (K : PySem.W.Frag) : Sp := fun vs H Q _ => ∃ (a : Addr) (ns : List Int) (many : Int), vs = [.ref a, .int many] ∧ SqL K H a (ns.map V.int) ∧ ns.length ≤ 63 ∧ 0 ≤ many ∧ many ≤ 5000 ∧
  ∀ H' p (row : List Int), Same H H' → H p = none → H' p = some (.lst (row.map V.int)) → RowW row → Q (.ref p) H'
theorem app_mapW {row : List Int} {x : Int} : row.map V.int ++ [V.int x] = (row ++ [x]).map V.int := by simp
theorem cutV_to {xs : List V} {n : Nat} : cutV xs none (some (n : Int)) = xs.take n := by
  unfold cutV
  rw [HT.sIx_nat, HT.sIx_none, List.drop_zero, Nat.sub_zero]
  by_cases h : n ≤ xs.length
  · rw [Nat.min_eq_left h]
  · rw [Nat.min_eq_right (by omega), List.take_of_length_le (Nat.le_refl _), List.take_of_length_le (by omega)]
theorem dig_snoc {row : List Int} {x : Int} (h : ∀ y ∈ row, 0 ≤ y ∧ y < 997) : ∀ y ∈ row ++ [x % 997], 0 ≤ y ∧ y < 997 := fun y hy => by
  rcases List.mem_append.mp hy with hy | hy
  · exact h y hy
  · rw [List.mem_singleton.mp hy]
    exact ⟨Int.emod_nonneg _ (by decide), Int.emod_lt_of_pos _ (by decide)⟩
theorem sc_law_draws : FnScope ["script", "many", "draws", "mixed", "k", "cell", "rest", "turn"] ["script", "many"] (defScope (topS 20)) := ⟨rfl, rfl, rfl, by decide +kernel, rfl, by decide +kernel, by decide +kernel⟩
theorem ok_law_draws (T : Txt fa fn K mg (CsOk cs K w)) : Dn P w K mg base CX0 1 "_law_draws" ["script", "many"] (sp_law_draws K) := by
  refine mk_dn (d := dOf "_law_draws" 20) T 11 11 rfl rfl rfl rfl rfl sc_law_draws (by walk_at "len") (fun _ _ _ _ _ _ us hl => match us, hl with | [_, _], _ => rfl) (fun cdv A outer s H vs Q E hr h => ⟨_, (pss_cons (ps_set (i := 2) sc_law_draws.nd rfl (.inl rfl) (pe_lst pa_nil))
      (pss_cons (ps_set (i := 3) sc_law_draws.nd rfl (.inl rfl) pe_int)
      (pss_cons (ps_for PassesOwn.never rfl (pi_r1 rfl (T.free 30 rfl) (pa_cons (pe_callB (c_len (K := K) rfl) rfl (T.free 29 rfl) (by decide +kernel) (pa_cons (pv 0) pa_nil)) pa_nil)) (pg_name (i := 4) sc_law_draws.nd rfl (.inl rfl)) (pss_cons (ps_set (i := 5) sc_law_draws.nd rfl (.inl rfl) (pe_callB c_abs rfl (T.free 23 rfl) (by decide +kernel) (pa_cons (pe_callTy c_int rfl (T.free 27 rfl) (by decide +kernel) (pa_cons (pe_ixU (K := K) rfl (hu_of hr) (pv 0) (pv 4)) pa_nil)) pa_nil)))
      (pss_cons (ps_set (i := 3) sc_law_draws.nd rfl (.inl rfl) (pe_op o_mod (pe_callTy c_int rfl (T.free 27 rfl) (by decide +kernel) (pa_cons (pe_op (op_addU (K := K) rfl) (pe_op (op_addU (K := K) rfl) (pe_op op_mulU (pv 3) pe_int) (pe_op o_mod (pv 5) pe_int)) (pv 4)) pa_nil)) pe_int))
      (pss_cons (ps_set (i := 6) sc_law_draws.nd rfl (.inl rfl) pe_int)
      (pss_cons (ps_join (ps_if (pt_cmpR o_ge (pv 5) (pe_op o_pow pe_int pe_int) (nomark _)) (pss_one (ps_set (i := 6) sc_law_draws.nd rfl (.inl rfl) (pv 5))) (pss_cons (ps_expr (pe_bm PySem.F.plainAttrs_list PySem.F.slot_list_append PySem.F.type_list_append mt_append (pv 2) (pa_cons (pe_op o_mod (pe_callTy c_int rfl (T.free 27 rfl) (by decide +kernel) (pa_cons (pv 5) pa_nil)) pe_int) pa_nil)))
      (pss_one (ps_expr (pe_bm PySem.F.plainAttrs_list PySem.F.slot_list_append PySem.F.type_list_append mt_append (pv 2) (pa_cons (pe_op o_mod (pe_op o_mod (pe_callTy c_int rfl (T.free 27 rfl) (by decide +kernel) (pa_cons (pe_op (op_addU (K := K) rfl) (pe_op op_mulU (pv 3) pe_int) pe_int) pa_nil)) pe_int) pe_int) pa_nil)))))))
      (pss_one (ps_for PassesOwn.never rfl (pi_r1 rfl (T.free 30 rfl) (pa_cons pe_int pa_nil)) (pg_name (i := 7) sc_law_draws.nd rfl (.inl rfl)) (pss_one (ps_if (pt_cmpR o_gt (pv 6) pe_int (nomark _)) (pss_cons (ps_expr (pe_bm PySem.F.plainAttrs_list PySem.F.slot_list_append PySem.F.type_list_append mt_append (pv 2) (pa_cons (pe_op o_mod (pe_callTy c_int rfl (T.free 27 rfl) (by decide +kernel) (pa_cons (pv 6) pa_nil)) pe_int) pa_nil)))
      (pss_one (ps_set (i := 6) sc_law_draws.nd rfl (.inl rfl) (pe_op o_fdiv (pv 6) pe_int)))) pss_nil)))))))))
      (pss_cons (ps_for PassesOwn.never rfl (pi_r1 rfl (T.free 30 rfl) (pa_cons (pv 1) pa_nil)) (pg_name (i := 4) sc_law_draws.nd rfl (.inl rfl)) (pss_cons (ps_set (i := 3) sc_law_draws.nd rfl (.inl rfl) (pe_op o_mod (pe_callTy c_int rfl (T.free 27 rfl) (by decide +kernel) (pa_cons (pe_op (op_addU (K := K) rfl) (pe_op (op_addU (K := K) rfl) (pe_op op_mulU (pv 3) pe_int) (pv 4)) pe_int) pa_nil)) pe_int))
      (pss_one (ps_expr (pe_bm PySem.F.plainAttrs_list PySem.F.slot_list_append PySem.F.type_list_append mt_append (pv 2) (pa_cons (pe_op o_mod (pe_callTy c_int rfl (T.free 27 rfl) (by decide +kernel) (pa_cons (pv 3) pa_nil)) pe_int) pa_nil))))))
      (pss_one (ps_ret (pe_slice (sl_U (K := K) rfl) (pv 2) po_none (po_some (pv 1))))))))), ?_⟩)
  obtain ⟨a, ns, many, rfl, hS, hlen, hm0, hm1, hQ⟩ := h
  walk_at "go"
  refine ⟨by decide, fun p hp => ?_⟩
  walk_at "go"
  have hS1 : SqL K (upd H p (.lst [])) a (ns.map V.int) := (Same.new hp).seq hS
  refine g_lenM hS1 ?_
  walk_at "go"
  have M0 : Has (upd H p (.lst [])) [(p, .lst (([] : List Int).map V.int))] := Has.one upd_same
  refine f_range (fun i σ H' => ∃ (row : List Int) (m : Int) (k c r t : Option V), σ = [some (.ref a), some (.int many), some (.ref p), some (.int m), k, c, r, t] ∧ Same H H' ∧ Has H' [(p, .lst (row.map V.int))] ∧ (∀ x ∈ row, 0 ≤ x ∧ x < 997) ∧ row.length ≤ 62 * i)
    ⟨[], _, _, _, _, _, rfl, Same.new hp, M0, (fun _ h => nomatch h), Nat.le_refl _⟩ ?_ ?_
  · rintro i σ H' hi ⟨row, m, k, c, r, t, rfl, hs, M, hr1, hr2⟩
    have hi : i < ns.length := by omega
    walk_at "go"
    have hS2 := hs.seq hS
    obtain ⟨z, hz⟩ : ∃ z, ns[i]? = some z := ⟨_, List.getElem?_eq_getElem hi⟩
    have hz' : (ns.map V.int)[i]? = some (V.int z) := by rw [List.getElem?_map, hz]; rfl
    refine g_ixL hS2 (n := i) (by omega) hz' ?_
    walk_at "go"
    generalize (if z < 0 then -z else z) = cell
    generalize (m * 48271 + cell % 1000003 + (0 + (i : Int))) % 65537 = m1
    refine ⟨fun σ' H7 => ∃ (row : List Int) (rs : Int) (k t : Option V), σ' = [some (.ref a), some (.int many), some (.ref p), some (.int m1), k, some (.int cell), some (.int rs), t] ∧ Same H H7 ∧ Has H7 [(p, .lst (row.map V.int))] ∧ (∀ x ∈ row, 0 ≤ x ∧ x < 997) ∧ row.length ≤ 62 * i + 2, ?_, ?_⟩
    · walk_at "go"
      refine g_if (fun hc => ?_) (fun hc => ?_)
      · walk_at "go"
        exact ⟨row, cell, _, _, rfl, hs, M, hr1, by omega⟩
      · walk_at "go"
        refine g_append M 0 rfl (szl (by rw [List.length_map]; omega)) (fun M1 => ?_)
        rw [app_mapW] at M1 ⊢
        walk_at "go"
        refine g_append M1 0 rfl (szl (by rw [List.length_map, List.length_append, List.length_singleton]; omega)) (fun M2 => ?_)
        rw [app_mapW] at M2 ⊢
        walk_at "go"
        refine ⟨_, _, _, _, rfl, Same.mut (Same.mut hs hp) hp, M2, dig_snoc (dig_snoc hr1), by simp only [List.length_append, List.length_singleton]; omega⟩
    · rintro σ' H7 ⟨row, rs, k, t, rfl, hs, M, hr1, hr2⟩
      walk_at "go"
      refine f_range (fun j σ H' => ∃ (row : List Int) (rs : Int) (k t : Option V), σ = [some (.ref a), some (.int many), some (.ref p), some (.int m1), k, some (.int cell), some (.int rs), t] ∧ Same H H' ∧ Has H' [(p, .lst (row.map V.int))] ∧ (∀ x ∈ row, 0 ≤ x ∧ x < 997) ∧ row.length ≤ 62 * i + 2 + j)
        ⟨row, rs, _, _, rfl, hs, M, hr1, by omega⟩ ?_ ?_
      · rintro j σ H2 hj ⟨row, rs, k, t, rfl, hs, M, hr1, hr2⟩
        have hj' : j < 60 := hj
        walk_at "go"
        refine g_if (fun h0 => ?_) (fun h0 => ?_)
        · walk_at "go"
          refine g_append M 0 rfl (szl (by rw [List.length_map]; omega)) (fun M1 => ?_)
          rw [app_mapW] at M1 ⊢
          walk_at "go"
          exact ⟨_, rs / 997, _, _, rfl, Same.mut hs hp, M1, dig_snoc hr1, by rw [List.length_append, List.length_singleton]; omega⟩
        · walk_at "go"
          exact ⟨row, rs, _, _, rfl, hs, M, hr1, by omega⟩
      · rintro σ H2 ⟨row, rs, k, t, rfl, hs, M, hr1, hr2⟩
        have h60 : (60 : Int).toNat = 60 := rfl
        walk_at "go"
        exact ⟨row, _, _, _, _, _, rfl, hs, M, hr1, by omega⟩
  · rintro σ H' ⟨row, m, k, c, r, t, rfl, hs, M, hr1, hr2⟩
    have hr3 : row.length ≤ 3906 := by omega
    walk_at "go"
    refine f_range (fun j σ H' => ∃ (row : List Int) (m : Int) (k c r t : Option V), σ = [some (.ref a), some (.int many), some (.ref p), some (.int m), k, c, r, t] ∧ Same H H' ∧ Has H' [(p, .lst (row.map V.int))] ∧ (∀ x ∈ row, 0 ≤ x ∧ x < 997) ∧ row.length ≤ 3906 + j)
      ⟨row, m, _, _, _, _, rfl, hs, M, hr1, by omega⟩ ?_ ?_
    · rintro j σ H2 hj ⟨row, m, k, c, r, t, rfl, hs, M, hr1, hr2⟩
      walk_at "go"
      refine g_append M 0 rfl (szl (by rw [List.length_map]; omega)) (fun M1 => ?_)
      rw [app_mapW] at M1 ⊢
      walk_at "go"
      exact ⟨_, _, _, _, _, _, rfl, Same.mut hs hp, M1, dig_snoc hr1, by rw [List.length_append, List.length_singleton]; omega⟩
    · rintro σ H2 ⟨row, m, k, c, r, t, rfl, hs, M, hr1, hr2⟩
      walk_at "go"
      refine g_slL (SqL.of (M.get 0 rfl)) (fun q hq => ?_)
      obtain ⟨mn, rfl⟩ : ∃ n : Nat, many = (n : Int) := ⟨many.toNat, by omega⟩
      rw [cutV_to, ← List.map_take]
      refine hQ _ q (row.take mn) (Same.new' hs hq) (hs.free hq) upd_same ⟨fun x hx => hr1 x (List.mem_of_mem_take hx), by rw [List.length_take]; omega⟩
def sp_law_next (K : PySem.W.Frag) : Sp := fun vs H Q _ => ∃ (d r : Addr) (n m : Int) (kvs : List (Key × V)) (row : List Int), vs = [.ref d, .int m] ∧ H d = some (.dK kvs) ∧ KvW kvs r n ∧ H r = some (.lst (row.map V.int)) ∧ RowW row ∧ 0 ≤ n ∧ 0 < m ∧
  ∀ H' v, Keep [d] H H' → H' d = some (.dK (putK kvs (.inr "at") (.int (n + 1)))) → 0 ≤ v → v < m → Q (.int v) H'
theorem sc_law_next : FnScope ["w", "many"] ["w", "many"] (defScope (topS 21)) := ⟨rfl, rfl, rfl, by decide +kernel, rfl, by decide +kernel, by decide +kernel⟩
theorem ok_law_next (T : Txt fa fn K mg (CsOk cs K w)) : Dn P w K mg base CX0 1 "_law_next" ["w", "many"] (sp_law_next K) := by
  refine mk_dn (d := dOf "_law_next" 21) T 12 12 rfl rfl rfl rfl rfl sc_law_next (by walk_at "len") (fun _ _ _ _ _ _ us hl => match us, hl with | [_, _], _ => rfl) (fun cdv A outer s H vs Q E hr h => ⟨_, (pss_cons (ps_daug (hu_of hr) (pv 0) pe_str pe_int in_add (fun _ _ _ => rfl))
      (pss_cons (ps_if (pt_cmpR o_gt (pe_ixU (K := K) rfl (hu_of hr) (pv 0) pe_str) (pe_callB (c_len (K := K) rfl) rfl (T.free 29 rfl) (by decide +kernel) (pa_cons (pe_ixU (K := K) rfl (hu_of hr) (pv 0) pe_str) pa_nil)) (nomark _)) (pss_one (ps_ret pe_int)) pss_nil)
      (pss_one (ps_ret (pe_op o_mod (pe_callTy c_int rfl (T.free 27 rfl) (by decide +kernel) (pa_cons (pe_ixU (K := K) rfl (hu_of hr) (pe_ixU (K := K) rfl (hu_of hr) (pv 0) pe_str) (pe_op op_sub (pe_ixU (K := K) rfl (hu_of hr) (pv 0) pe_str) pe_int)) pa_nil)) (pv 1)))))), ?_⟩)
  obtain ⟨d, r, n, m, kvs, row, rfl, hd, kv, hr, ok, hn, hm, hQ⟩ := h
  walk_at "go"
  refine g_daug (K := K) ?_
  walk_at "go"
  refine ⟨d, _, rfl, kv.getA hd, ?_⟩
  walk_at "go"
  refine ⟨n, 1, rfl, rfl, _, dp_k hd (szl (by have := kv.l; omega)), ?_⟩
  have ne : r ≠ d := ne_of hr hd (by intro z; cases z)
  have kv' := kv.put (m := n + 1)
  have hd1 : upd H d (.dK (putK kvs (.inr "at") (.int (n + 1)))) d = some (.dK (putK kvs (.inr "at") (.int (n + 1)))) := upd_same
  have hr1 : upd H d (.dK (putK kvs (.inr "at") (.int (n + 1)))) r = some (.lst (row.map V.int)) := by rw [upd_ne ne]; exact hr
  have hk : Keep [d] H (upd H d (.dK (putK kvs (.inr "at") (.int (n + 1))))) := Keep.set (List.mem_singleton.mpr rfl)
  walk_at "go"
  refine g_ixD (kv'.getA hd1) ?_
  walk_at "go"
  refine g_ixD (kv'.getD hd1) ?_
  walk_at "go"
  refine g_if (fun h0 => ?_) (fun h0 => ?_)
  · walk_at "go"
    exact hQ _ _ hk hd1 (by decide) hm
  · walk_at "go"
    refine g_ixD (kv'.getD hd1) ?_
    walk_at "go"
    refine g_ixD (kv'.getA hd1) ?_
    walk_at "go"
    obtain ⟨z, hz⟩ : ∃ z, row[n.toNat]? = some z := ⟨_, List.getElem?_eq_getElem (by omega)⟩
    refine g_ixL (SqL.of hr1) (n := n.toNat) (by omega) (by rw [List.getElem?_map, hz]; rfl) ?_
    walk_at "go"
    exact hQ _ _ hk hd1 (Int.emod_nonneg _ (by omega)) (Int.emod_lt_of_pos _ hm)
/-- the draws dict stands at d, beside the objects L -/
structure DrL (H : Hp) (d : Addr) (L : List (Addr × HO)) : Prop where
  ex : ∃ (r : Addr) (n : Int) (kvs : List (Key × V)) (row : List Int), Has H ((d, .dK kvs) :: (r, .lst (row.map V.int)) :: L) ∧ KvW kvs r n ∧ RowW row ∧ 0 ≤ n
section
variable {H H' : Hp} {d p a : Addr} {L L' : List (Addr × HO)} {o o' : HO} {Q : VK} {E : XK} {m : Int} {v : V} {e : PyData} {xs : List V} {ds : List PyData} {σ : L2.St} {j : Nat}
theorem DrL.has (D : DrL H d L) : Has H L := by
  obtain ⟨r, n, sd, row, M, _⟩ := D.ex
  exact M.sub ((List.sublist_cons_self _ _).trans (List.sublist_cons_self _ _))
theorem DrL.get (D : DrL H d L) (i : Nat) (h : L[i]? = some (a, o)) : H a = some o := D.has.get i h
theorem DrL.new (D : DrL H d L) (hp : H p = none) : DrL (upd H p o) d (L ++ [(p, o)]) := by
  obtain ⟨r, n, sd, row, M, ok, hn⟩ := D.ex
  exact ⟨r, n, sd, row, M.new hp, ok, hn⟩
theorem DrL.same (D : DrL H d L) (k : Same H H') : DrL H' d L := by
  obtain ⟨r, n, sd, row, M, ok, hn⟩ := D.ex
  exact ⟨r, n, sd, row, M.keep k, ok, hn⟩
theorem DrL.sub (D : DrL H d L) (h : L'.Sublist L) : DrL H d L' := by
  obtain ⟨r, n, sd, row, M, ok, hn⟩ := D.ex
  exact ⟨r, n, sd, row, M.sub ((h.cons₂ _).cons₂ _), ok, hn⟩
theorem DrL.set (D : DrL H d L) (i : Nat) (h : L[i]? = some (a, o)) : DrL (upd H a o') d (L.set i (a, o')) := by
  obtain ⟨r, n, sd, row, M, ok, hn⟩ := D.ex
  exact ⟨r, n, sd, row, M.set (i + 2) h, ok, hn⟩
theorem DrL.noTup (D : DrL H d L) : NoTup H [d] := by
  obtain ⟨r, n, sd, row, M, ok, hn⟩ := D.ex
  exact NoTup.one (M.get 0 rfl) (fun xs e => nomatch e)
theorem DrL.im (D : DrL H d L) (k : Keep [d] H H') (h : Im H v e) : Im H' v e := h.keep k D.noTup
theorem DrL.ims (D : DrL H d L) (k : Keep [d] H H') (h : Ims H xs ds) : Ims H' xs ds := h.keep k D.noTup
theorem DrL.ne (D : DrL H d L) (hp : H p = none) : p ≠ d := by
  obtain ⟨r, n, sd, row, M, ok, hn⟩ := D.ex
  rintro rfl
  have := M.get 0 rfl
  rw [hp] at this
  cases this
theorem DrL.at_ (D : DrL H d L) (k : Keep [d] H H') (h : H a = some o) (n : ∀ kvs, o ≠ .dK kvs) : H' a = some o := by
  obtain ⟨r, q, sd, row, M, ok, hn⟩ := D.ex
  refine k a o h fun z => ?_
  rw [List.mem_singleton.mp z, M.get 0 rfl] at h
  exact n _ (Option.some.inj h).symm
theorem use_nx (D : DrL H d L) (hm : 0 < m) (k : ∀ H' v, Keep [d] H H' → DrL H' d L → 0 ≤ v → v < m → Q (.int v) H') : sp_law_next K ([.ref d, .int m] ++ []) H Q E := by
  obtain ⟨r, n, kvs, row, M, kv, ok, hn⟩ := D.ex
  refine ⟨d, r, n, m, kvs, row, rfl, M.get 0 rfl, kv, M.get 1 rfl, ok, hn, hm, fun H' v kp h1 h2 h3 => ?_⟩
  exact k H' v kp ⟨r, n + 1, _, row, M.call1 kp 0 rfl h1, kv.put, ok, by omega⟩ h2 h3
/-- one of a written list, by a draw -/
theorem use_pk (D : DrL H d L) (hj : σ[j]? = some (some (.ref d))) (hm : (xs.length : Int) = m) (h0 : 0 < xs.length) (hs : xs.length ≤ 1000) (k : ∀ H' v, Keep [d] H H' → DrL H' d L → v ∈ xs → Q v H') :
    rLstN xs H fun x H1 => tCall (sp_law_next K) [] E (tCons (tVar j) (tCons (tC (.int m)) tNil)) σ H1 fun y H2 => rIxU K x y H2 Q := by
  refine ⟨szle (by omega), fun p hp => ?_⟩
  refine g_call (g_consA (g_var hj (g_consA (g_c (g_nilA ?_)))))
  have D1 := D.same (Same.new (o := .lst xs) hp)
  refine use_nx D1 (by omega) fun H2 v k2 D2 h1 h2 => ?_
  have hv : v.toNat < xs.length := by omega
  have hx : xs[v.toNat]? = some xs[v.toNat] := List.getElem?_eq_getElem hv
  exact g_ixL (SqL.of (D1.at_ k2 upd_same (fun _ e => nomatch e))) (n := v.toNat) (by omega) hx (k H2 _ ((Keep.new hp).trans k2) D2 (List.getElem_mem hv))
theorem gD_append (D : DrL H d L) (n : Nat) (h : L[n]? = some (a, .lst xs)) (hl : xs.length < 100000) (k : DrL (upd H a (.lst (xs ++ [v]))) d (L.set n (a, .lst (xs ++ [v]))) → Q .non (upd H a (.lst (xs ++ [v])))) : rAppend (.ref a) [v] H Q :=
  ⟨a, xs, v, rfl, rfl, D.get n h, szl (by omega), k (D.set n h)⟩
/-- the dict of draws, made -/
theorem use_made {r : Addr} {row : List Int} (hr : H r = some (.lst (row.map V.int))) (ok : RowW row) (k : ∀ p H', Same H H' → DrL H' p [] → Q (.ref p) H') : ∀ p, H p = none → upd H p (.dK []) p = some (.dK []) ∧ ∃ kvs : List (Key × V), [(V.str "draws", V.ref r), (V.str "at", V.int 0)] = kvs.map (fun kv => (kV kv.1, kv.2)) ∧ kvs.length ≤ 15 ∧ Q (.ref p) (upd (upd H p (.dK [])) p (.dK (mergeK [] kvs))) := by
  intro p hp
  refine ⟨upd_same, [(.inr "draws", .ref r), (.inr "at", .int 0)], rfl, (by show 2 ≤ 15; decide), ?_⟩
  rw [upd_upd]
  refine k p _ (Same.new hp) ⟨r, 0, _, row, ?_, KvW.made, ok, Int.le_refl _⟩
  have M : Has (upd H p (.dK (mergeK [] [(.inr "draws", .ref r), (.inr "at", .int 0)]))) ([(r, .lst (row.map V.int))] ++ [(p, .dK (mergeK [] [(.inr "draws", .ref r), (.inr "at", .int 0)]))]) := (Has.one hr).new hp
  exact M.perm (List.perm_append_comm (l₁ := [_]) (l₂ := [_]))
end

/-! ### comprehensions that make data -/
section
variable {K : PySem.W.Frag} {σ : L2.St} {H : Hp} {g : TG} {te : TE} {vs : List Nat} {Q : VK} {a d : Addr} {xs : List V} {ds : List PyData} {n k : Nat} {lo : Int}
theorem ims_snoc {H H2 : Hp} {us : List V} {es : List PyData} {v : V} {e : PyData} {D : Addr} {o : HO} (h : Ims H us es) (hv : Im H v e) (hD : H D = some (.lst us)) : Ims (upd H D o) (us ++ [v]) (es ++ [e]) :=
  (h.append (Ims.one hv)).keep (Keep.set (List.mem_singleton.mpr rfl)) (NoTup.one hD (fun _ e => nomatch e))
/-- over a tuple of data -/
theorem l_map {f : PyData → PyData} (ha : H a = some (.tup xs)) (hs : Ims H xs ds) (hl : ds.length ≤ 1000)
    (step : ∀ (i : Nat) (e : PyData) (y : V) (H' : Hp) (R : VK), ds[i]? = some e → Same H H' → Im H' y e → (∀ H2 v, Same H' H2 → Im H2 v (f e) → R v H2) → g y (wipe σ vs) H' fun σ2 H2 => wipe σ2 vs = wipe σ vs ∧ te σ2 H2 R)
    (hm : ∀ (y : V) (σ1 : L2.St) (H1 : Hp) (R R' : L2.St → Hp → Prop), (∀ σ2 H2, R σ2 H2 → R' σ2 H2) → g y σ1 H1 R → g y σ1 H1 R')
    (q : ∀ D H' us, Same H H' → H' D = some (.lst us) → Ims H' us (ds.map f) → Q (.ref D) H') : LcW g tYes te vs σ Q (Itt K a) H := by
  have hlen := hs.length
  refine l_tup (xs := xs) (fun D i H' => ∃ us, H' D = some (.lst us) ∧ Ims H' us ((ds.take i).map f) ∧ Same H H') (fun D hD => ⟨[], upd_same, .nil, Same.new hD⟩) ?_ ?_ ?_
  · rintro D hD i H' hi ⟨us, hD', im, sm⟩
    exact SqT.of (sm _ _ ha)
  · rintro D hD i y H' hi ⟨us, hD', im, sm⟩
    obtain ⟨hlt, _⟩ := List.getElem?_eq_some_iff.mp hi
    have hd : ds[i]? = some (ds[i]'(by omega)) := List.getElem?_eq_getElem _
    generalize ds[i]'(by omega) = dv at hd
    obtain ⟨y', hy', hiy⟩ := hs.get hd
    rw [hi] at hy'
    cases hy'
    have hul : us.length = (ds.take i).length := by rw [im.length, List.length_map]
    refine hm _ _ _ _ _ ?_ (step i dv y H' (fun v H3 => ∃ acc, H3 D = some (.lst acc) ∧ acc.length < sizeLine ∧ ∃ us, upd H3 D (.lst (acc ++ [v])) D = some (.lst us) ∧ Ims (upd H3 D (.lst (acc ++ [v]))) us ((ds.take (i + 1)).map f) ∧ Same H (upd H3 D (.lst (acc ++ [v])))) hd sm (hiy.same sm) (fun H2 v sm2 imv => ?_))
    · rintro σ2 H2 ⟨e1, e2⟩
      exact ⟨e1, g_yes (g_ifT e2)⟩
    · have hD2 := sm2 _ _ hD'
      refine ⟨us, hD2, szl (by rw [hul, List.length_take]; omega), _, upd_same, ?_, Same.mut (sm.trans sm2) hD⟩
      rw [map_take_succ hd]
      exact ims_snoc (H2 := H2) (im.same sm2) imv hD2
  · rintro D hD H' ⟨us, hD', im, sm⟩
    refine q D H' us sm hD' ?_
    rw [hlen, List.take_length] at im
    exact im
/-- over a range -/
theorem l_mapR {f : Nat → PyData} (hn : n ≤ 10000) (hwp : ∀ x : V, wipe ((wipe σ vs).set k (some x)) vs = wipe σ vs)
    (step : ∀ (i : Nat) (H' : Hp) (R : VK), i < n → Same H H' → (∀ H2 v, Same H' H2 → Im H2 v (f i) → R v H2) → te ((wipe σ vs).set k (some (.int (lo + i)))) H' R)
    (q : ∀ D H' us, Same H H' → H' D = some (.lst us) → Ims H' us ((List.range n).map f) → Q (.ref D) H') : LcW (gName k) tYes te vs σ Q (Itr lo n) H := by
  refine l_range (fun D i H' => ∃ us, H' D = some (.lst us) ∧ Ims H' us ((List.range i).map f) ∧ Same H H') (fun D hD => ⟨[], upd_same, .nil, Same.new hD⟩) ?_ ?_
  · rintro D hD i H' hi ⟨us, hD', im, sm⟩
    have hul : us.length = i := by rw [im.length, List.length_map, List.length_range]
    refine g_name (g_wipe (hwp _) (g_yes (g_ifT ?_)))
    refine step i H' _ hi sm (fun H2 v sm2 imv => ?_)
    have hD2 := sm2 _ _ hD'
    refine ⟨us, hD2, szl (by omega), _, upd_same, ?_, Same.mut (sm.trans sm2) hD⟩
    rw [List.range_succ, List.map_append]
    exact ims_snoc (H2 := H2) (im.same sm2) imv hD2
  · rintro D hD H' ⟨us, hD', im, sm⟩
    exact q D H' us sm hD' im
/-- over a range, with draws -/
theorem l_drawR {P : Nat → PyData → Prop} {L : List (Addr × HO)} (D0 : DrL H d L) (hn : n ≤ 10000) (hwp : ∀ x : V, wipe ((wipe σ vs).set k (some x)) vs = wipe σ vs)
    (step : ∀ (i : Nat) (H' : Hp) (R : VK) (L' : List (Addr × HO)), i < n → Keep [d] H H' → DrL H' d L' → (∀ H2 v e, Keep [d] H' H2 → DrL H2 d L' → Im H2 v e → P i e → R v H2) → te ((wipe σ vs).set k (some (.int (lo + i)))) H' R)
    (q : ∀ D H' us es, H D = none → Keep [d] H H' → DrL H' d (L ++ [(D, .lst us)]) → Ims H' us es → es.length = n → (∀ i e, es[i]? = some e → P i e) → Q (.ref D) H') : LcW (gName k) tYes te vs σ Q (Itr lo n) H := by
  refine l_range (fun D i H' => ∃ us es, DrL H' d (L ++ [(D, .lst us)]) ∧ Ims H' us es ∧ es.length = i ∧ (∀ j e, es[j]? = some e → P j e) ∧ Keep [d] H H') (fun D hD => ⟨[], [], D0.new hD, .nil, rfl, fun j e h => by simp at h, Keep.new hD⟩) ?_ ?_
  · rintro D hD i H' hi ⟨us, es, D1, im, hl, hp, kp⟩
    have hul : us.length = i := by rw [im.length, hl]
    refine g_name (g_wipe (hwp _) (g_yes (g_ifT ?_)))
    refine step i H' _ _ hi kp D1 (fun H2 v e k2 D2 imv pe => ?_)
    have hD2 : H2 D = some (.lst us) := D2.get L.length (by simp)
    have D3 := D2.set (o' := .lst (us ++ [v])) L.length (by simp : (L ++ [(D, HO.lst us)])[L.length]? = some (D, HO.lst us))
    refine ⟨us, hD2, szl (by omega), us ++ [v], es ++ [e], ?_, ims_snoc (H2 := H2) (D1.ims k2 im) imv hD2, by rw [List.length_append, hl]; rfl, fun j e' hj => ?_, (kp.trans k2).mut hD⟩
    · rw [show (L ++ [(D, HO.lst us)]).set L.length (D, HO.lst (us ++ [v])) = L ++ [(D, HO.lst (us ++ [v]))] by simp] at D3
      exact D3
    · by_cases hj2 : j < es.length
      · rw [List.getElem?_append_left hj2] at hj
        exact hp j e' hj
      · rw [List.getElem?_append_right (by omega)] at hj
        cases hk : j - es.length with
        | zero =>
          rw [hk] at hj
          simp only [List.getElem?_cons_zero, Option.some.injEq] at hj
          subst hj
          have : j = i := by omega
          rw [this]
          exact pe
        | succ m =>
          rw [hk] at hj
          simp at hj
  · rintro D hD H' ⟨us, es, D1, im, hl, hp, kp⟩
    exact q D H' us es hD kp D1 im hl hp
/-- over a tuple of data, with draws -/
theorem l_drawT {P : Nat → PyData → Prop} {L : List (Addr × HO)} (D0 : DrL H d L) (ha : H a = some (.tup xs)) (hs : Ims H xs ds) (hl : ds.length ≤ 1000)
    (step : ∀ (i : Nat) (e0 : PyData) (y : V) (H' : Hp) (R : VK) (L' : List (Addr × HO)), ds[i]? = some e0 → Keep [d] H H' → Im H' y e0 → DrL H' d L' → (∀ H2 v e, Keep [d] H' H2 → DrL H2 d L' → Im H2 v e → P i e → R v H2) → g y (wipe σ vs) H' fun σ2 H2 => wipe σ2 vs = wipe σ vs ∧ te σ2 H2 R)
    (hm : ∀ (y : V) (σ1 : L2.St) (H1 : Hp) (R R' : L2.St → Hp → Prop), (∀ σ2 H2, R σ2 H2 → R' σ2 H2) → g y σ1 H1 R → g y σ1 H1 R')
    (q : ∀ D H' us es, H D = none → Keep [d] H H' → DrL H' d (L ++ [(D, .lst us)]) → Ims H' us es → es.length = ds.length → (∀ i e, es[i]? = some e → P i e) → Q (.ref D) H') : LcW g tYes te vs σ Q (Itt K a) H := by
  have hlen := hs.length
  refine l_tup (xs := xs) (fun D i H' => ∃ us es, DrL H' d (L ++ [(D, .lst us)]) ∧ Ims H' us es ∧ es.length = i ∧ (∀ j e, es[j]? = some e → P j e) ∧ Keep [d] H H') (fun D hD => ⟨[], [], D0.new hD, .nil, rfl, fun j e h => by simp at h, Keep.new hD⟩) ?_ ?_ ?_
  · rintro D hD i H' hi ⟨us, es, D1, im, hl2, hp, kp⟩
    exact SqT.of (D0.at_ kp ha (fun _ e => nomatch e))
  · rintro D hD i y H' hi ⟨us, es, D1, im, hl2, hp, kp⟩
    obtain ⟨hlt, _⟩ := List.getElem?_eq_some_iff.mp hi
    have hd : ds[i]? = some (ds[i]'(by omega)) := List.getElem?_eq_getElem _
    generalize ds[i]'(by omega) = dv at hd
    obtain ⟨y', hy', hiy⟩ := hs.get hd
    rw [hi] at hy'
    cases hy'
    have hul : us.length = i := by rw [im.length, hl2]
    refine hm _ _ _ _ _ ?_ (step i dv y H' (fun v H3 => ∃ acc, H3 D = some (.lst acc) ∧ acc.length < sizeLine ∧ ∃ us es, DrL (upd H3 D (.lst (acc ++ [v]))) d (L ++ [(D, .lst us)]) ∧ Ims (upd H3 D (.lst (acc ++ [v]))) us es ∧ es.length = i + 1 ∧ (∀ j e, es[j]? = some e → P j e) ∧ Keep [d] H (upd H3 D (.lst (acc ++ [v])))) _ hd kp (D0.im kp hiy) D1 (fun H2 v e k2 D2 imv pe => ?_))
    · rintro σ2 H2 ⟨e1, e2⟩
      exact ⟨e1, g_yes (g_ifT e2)⟩
    · have hD2 : H2 D = some (.lst us) := D2.get L.length (by simp)
      have D3 := D2.set (o' := .lst (us ++ [v])) L.length (by simp : (L ++ [(D, HO.lst us)])[L.length]? = some (D, HO.lst us))
      refine ⟨us, hD2, szl (by omega), us ++ [v], es ++ [e], ?_, ims_snoc (H2 := H2) (D1.ims k2 im) imv hD2, by rw [List.length_append, hl2]; rfl, fun j e' hj => ?_, (kp.trans k2).mut hD⟩
      · rw [show (L ++ [(D, HO.lst us)]).set L.length (D, HO.lst (us ++ [v])) = L ++ [(D, HO.lst (us ++ [v]))] by simp] at D3
        exact D3
      · by_cases hj2 : j < es.length
        · rw [List.getElem?_append_left hj2] at hj
          exact hp j e' hj
        · rw [List.getElem?_append_right (by omega)] at hj
          cases hk : j - es.length with
          | zero =>
            rw [hk] at hj
            simp only [List.getElem?_cons_zero, Option.some.injEq] at hj
            subst hj
            have : j = i := by omega
            rw [this]
            exact pe
          | succ m =>
            rw [hk] at hj
            simp at hj
  · rintro D hD H' ⟨us, es, D1, im, hl2, hp, kp⟩
    exact q D H' us es hD kp D1 im (by omega) hp
end

def rLstU (K : PySem.W.Frag) : List V → Hp → VK → Prop := fun xs H Q => ∃ p ys, xs = [.ref p] ∧ (SqL K H p ys ∨ SqT K H p ys) ∧ ∀ l, H l = none → Q (.ref l) (upd H l (.lst ys))
theorem c_list {X : Cx} {K : PySem.W.Frag} (hK : X.K = K) : CallR X (.type "list") (rLstU K) := by
  subst hK
  exact call_list_of
def rSumK (K : PySem.W.Frag) : List V → Hp → VK → Prop := rSum K
theorem c_sumK {X : Cx} {K : PySem.W.Frag} (hK : X.K = K) (hc : X.calm = true) : CallR X (.builtin "sum") (rSumK K) := by
  subst hK
  exact cr_sum hc
theorem g_sum {K : PySem.W.Frag} {H : Hp} {Q : VK} {a : Addr} {ns : List Int} (h : SqL K H a (ns.map V.int)) (q : Q (.int ns.sum) H) : rSumK K [.ref a] H Q := ⟨a, ns, rfl, h, q⟩

theorem all_snoc {α : Type} {p : α → Prop} {l : List α} {y : α} (h : ∀ x ∈ l, p x) (hy : p y) : ∀ x ∈ l ++ [y], p x := fun x hx => by
  rcases List.mem_append.mp hx with hx | hx
  · exact h x hx
  · rw [List.mem_singleton.mp hx]
    exact hy
theorem sub_last {L : List (Addr × HO)} {x : Addr × HO} : L.Sublist (L ++ [x]) := List.sublist_append_left L [x]
theorem get_last {L : List (Addr × HO)} {x : Addr × HO} : (L ++ [x])[L.length]? = some x := by simp
theorem set_last {L : List (Addr × HO)} {x y : Addr × HO} : (L ++ [x]).set L.length y = L ++ [y] := by simp

/-! ### sorted of a tuple of ints, of a list of ints; list(range()) -/
section
open PyProof.Rows
variable {prog : Program} {w0 : World} {A0 : Around} {E0' : Value → Shared → Prop} {st : Shared}
theorem gather_tup {q : Addr} {us : List Value} {R : List Value → Shared → Prop} (ht : st.heap.IsTuple q us.toArray)
    (hR : R us { st with heap := (st.heap.push (seqObj "list" #[] 0)).update st.heap.objs.size (Obj.mapSeq (· ++ us.toArray)) }) (hz : us.length ≤ sizeLine) :
    wpAny (model prog w0) A0 (collect (.ref q)) R E0' st := by
  obtain ⟨ob, hob, hcl, k, hdt⟩ := id ht
  unfold collect
  refine wpAny_bind (wpAny_runValue (codeAny_builtin entry_proto_collect' (R := _) ?_))
  show wpAny _ _ (do again (.builtin "list.__iadd__" ⟨[← newList [], .ref q], []⟩)) _ _ st
  refine wpAny_bind (wpAny_newList (wpAny_pure ⟨Code.quiet_builtin _ (by decide +kernel), codeAny_builtin entry_list_iadd' (R := _) ?_⟩))
  show wpAny _ _ (Builtin.List.listExtendWith (.ref st.heap.objs.size) (.ref q) (.ref st.heap.objs.size)) _ _ { st with heap := st.heap.push (seqObj "list" #[] 0) }
  unfold Builtin.List.listExtendWith
  have hob' : (st.heap.push (seqObj "list" #[] 0)).get? q = some ob := Heap.get?_push_of_some _ hob
  refine wpAny_bind (wpAny_typeOf (T := "tuple") ⟨ob, hob', hcl⟩ ?_)
  have h1 : (Value.type "tuple" == Value.type "tuple") = true := by rfl
  rw [if_pos (by rw [h1]; simp)]
  refine wpAny_bind (listItems_at hob' hdt ?_)
  refine wpAny_bind (listItems_at (xs := #[]) (n := 0) (Heap.get?_push_size _ (rfl : _ = _)) rfl ?_)
  rw [if_neg (by simp)]
  refine wpAny_bind (listUpdate_at (xs := #[]) (n := 0) (Heap.get?_push_size _ rfl) rfl ?_ (Nat.zero_le _) (by show (#[] ++ us.toArray).size ≤ sizeLine + 1; simp only [Array.size_append, List.size_toArray, List.length_nil]; omega))
  refine wpAny_pure ?_
  show wpAny (model prog w0) A0 (do
      let o ← load st.heap.objs.size
      match o.data with
      | .seq xs _ => pure xs.toList
      | _ => unsupported "internal:collect") R E0' { st with heap := (st.heap.push (seqObj "list" #[] 0)).update st.heap.objs.size (Obj.mapSeq (· ++ us.toArray)) }
  refine wpAny_bind (wpAny_load (get?_update_seq (Heap.get?_push_size _ (rfl : _ = _)) _) ?_)
  show wpAny _ _ (pure ((#[] : Array Value) ++ us.toArray).toList) R E0' _
  rw [show ((#[] : Array Value) ++ us.toArray).toList = us by simp]
  exact wpAny_pure hR
theorem sorted_tup {q : Addr} {us : List Value} {ms : List Int} {R : Value → Shared → Prop} (ht : st.heap.IsTuple q us.toArray) (hi : IntsAre us ms) (hz : us.length < 64)
    (hR : ∀ (out : Array Value) (ms' : List Int), IntsAre out.toList ms' → ms'.Perm ms → ms'.Pairwise (· ≤ ·) → R (.ref (st.heap.objs.size + 1)) { st with heap := sortedAll st.heap us out }) :
    wpAny (model prog w0) A0 (call (.builtin "sorted") [.ref q]) R E0' st := by
  have line : us.length ≤ sizeLine := by rw [sizeLine_eq]; omega
  refine Calls.call_function_entry kind_sorted plain_sorted entry_sorted (args_sorted1 (.ref q)) ?_
  unfold Builtin.«sorted»
  refine wpAny_bind (m := checkCount "sorted" 1 1 _) (wpAny_pure (wpAny_bind (gather_tup ht ?_ line)))
  have e1 : ((st.heap.push (seqObj "list" #[] 0)).update st.heap.objs.size (Obj.mapSeq (· ++ us.toArray))).objs.size = st.heap.objs.size + 1 := by rw [Heap.size_update, size_push']
  have e2 : (((st.heap.push (seqObj "list" #[] 0)).update st.heap.objs.size (Obj.mapSeq (· ++ us.toArray))).push (seqObj "list" us.toArray 0)).get? (st.heap.objs.size + 1) = some (seqObj "list" us.toArray 0) := by rw [← e1]; exact Heap.get?_push_size _ rfl
  refine wpAny_bind (wpAny_newList ?_ line)
  show wpAny _ _ _ _ _ { st with heap := ((st.heap.push (seqObj "list" #[] 0)).update st.heap.objs.size (Obj.mapSeq (· ++ us.toArray))).push (seqObj "list" us.toArray 0) }
  rw [e1]
  refine wpAny_bind (wpAny_holding (wpAny_call_entry slot_list_sort ⟨_, e2, rfl⟩ entry_list_sort (list_sort_tree e2 hi hz fun out ms' a1 a2 a3 => ⟨_, rfl, ?_⟩) (args_list_sort _)))
  exact wpAny_pure ⟨_, rfl, hR out ms' a1 a2 a3⟩
end
def rSortU (K : PySem.W.Frag) : List V → Hp → VK → Prop := fun vs H Q => ∃ (a : Addr) (ns : List Int), vs = [V.ref a] ∧ (SqL K H a (ns.map V.int) ∨ SqT K H a (ns.map V.int)) ∧ ns.length < 64 ∧
  ∀ (ns' : List Int) (p : Addr), ns'.Perm ns → ns'.Pairwise (· ≤ ·) → H p = none → Q (.ref p) (upd H p (.lst (ns'.map V.int)))
theorem c_sortU {X : Cx} {K : PySem.W.Frag} (hK : X.K = K) : CallR X (.builtin "sorted") (rSortU K) := by
  subst hK
  intro pins s σ H vs us Q I r h
  obtain ⟨a, ns, rfl, hq, h64, q⟩ := h
  rcases hq with hq | hq
  · exact cr_sorted pins s σ H _ us Q I r ⟨a, ns, rfl, hq, h64, q⟩
  · obtain ⟨its, rv, ht, _⟩ := I.tuple hq
    rw [Vals.ref1 r]
    have hi := rv.ints
    refine sorted_tup (show s.heap.IsTuple a its.toArray from ht) hi (by rw [hi.length]; exact h64) fun out ns' h1 h2 h3 => ?_
    obtain ⟨ep, he'⟩ := PyProof.Rows.sortedAll_at s.heap its out
    have hlen : (ns'.map V.int).length ≤ sizeLine := by rw [List.length_map, h2.length_eq]; exact small64 h64
    exact ⟨.ref _, upd H (s.heap.objs.size + 1) (.lst (ns'.map V.int)), I.laid (t' := s.toks) (fun _ _ => PyProof.Rows.sortedAll_old) (Nat.le_succ _) (show ObjOk X.prog X.w _ _ _ (.lst (ns'.map V.int)) from ⟨hlen, out.toList, ep, vals_of_ints h1, he'⟩), rfl, q ns' _ h2 h3 (I.hok.fresh (Nat.le_succ _))⟩
/-- two sorted lists of the same ints are the same -/
theorem sorted_eq : ∀ {l m : List Int}, l.Perm m → l.Pairwise (· ≤ ·) → m.Pairwise (· ≤ ·) → l = m
  | [], m, p, _, _ => (List.nil_perm.mp p).symm
  | a :: l, [], p, _, _ => absurd p.length_eq (by simp)
  | a :: l, b :: m, p, h1, h2 => by
    obtain ⟨a1, l1⟩ := List.pairwise_cons.mp h1
    obtain ⟨b1, m1⟩ := List.pairwise_cons.mp h2
    have hab : a = b := by
      have ha : a ∈ b :: m := p.mem_iff.mp List.mem_cons_self
      have hb : b ∈ a :: l := p.mem_iff.mpr List.mem_cons_self
      rcases List.mem_cons.mp ha with z | z
      · exact z
      · rcases List.mem_cons.mp hb with y | y
        · exact y.symm
        · have := a1 b y
          have := b1 a z
          omega
    subst hab
    rw [sorted_eq (List.perm_cons a |>.mp p) l1 m1]

/-! ### words, signs, what a row does -/
inductive Sg
  | add | sub | mul | band | bor | bxor | shl | shr | eq | lt | le | div | mod
def Sg.s : Sg → Str
  | .add => "+" | .sub => "-" | .mul => "*" | .band => "&" | .bor => "|" | .bxor => "^" | .shl => "<<" | .shr => ">>" | .eq => "==" | .lt => "<" | .le => "<=" | .div => "div" | .mod => "mod"
def appD : Sg → Int → Int → Int
  | .add, a, b => (a + b) % 4294967296
  | .sub, a, b => (a - b) % 4294967296
  | .mul, a, b => (a * b) % 4294967296
  | .band, a, b => Builtin.bitAnd a b
  | .bor, a, b => Builtin.bitOr a b
  | .bxor, a, b => Builtin.bitXor a b
  | .shl, a, b => a * (1 * 2 ^ (b % 32).toNat) % 4294967296
  | .shr, a, b => a / (1 * 2 ^ (b % 32).toNat)
  | .eq, a, b => if decide (a = b) then 1 else 0
  | .lt, a, b => if decide (a < b) then 1 else 0
  | .le, a, b => if decide (a ≤ b) then 1 else 0
  | .div, a, b => if b = 0 then 0 else a / b
  | .mod, a, b => if b = 0 then a else a % b
structure W32 (x : Int) : Prop where
  l : 0 ≤ x
  u : x < 4294967296
theorem nat_lt {x : Int} (h : W32 x) : x.toNat < 2 ^ 32 := by
  have h1 := h.l
  have h2 := h.u
  show x.toNat < 4294967296
  omega
theorem pow32 {b : Int} : 0 < 1 * (2 : Int) ^ (b % 32).toNat ∧ 1 * (2 : Int) ^ (b % 32).toNat < 18446744073709551616 := by
  have h1 : (b % 32).toNat < 32 := by omega
  have h2 : ∀ n : Nat, n < 32 → 0 < 1 * (2 : Int) ^ n ∧ 1 * (2 : Int) ^ n < 18446744073709551616 := by decide +kernel
  exact h2 _ h1
theorem b01 {p : Bool} : W32 (if p then 1 else 0) := by
  cases p
  · exact ⟨by decide, by decide⟩
  · exact ⟨by decide, by decide⟩
theorem appD_w {s : Sg} {a b : Int} (ha : W32 a) (hb : W32 b) : W32 (appD s a b) := by
  have a1 := ha.l
  have a2 := ha.u
  have b1 := hb.l
  have b2 := hb.u
  cases s with
  | add => exact ⟨Int.emod_nonneg _ (by decide), Int.emod_lt_of_pos _ (by decide)⟩
  | sub => exact ⟨Int.emod_nonneg _ (by decide), Int.emod_lt_of_pos _ (by decide)⟩
  | mul => exact ⟨Int.emod_nonneg _ (by decide), Int.emod_lt_of_pos _ (by decide)⟩
  | shl => exact ⟨Int.emod_nonneg _ (by decide), Int.emod_lt_of_pos _ (by decide)⟩
  | band =>
    show W32 (Builtin.bitAnd a b)
    rw [bitAnd_pp a1 b1]
    have := Nat.and_lt_two_pow a.toNat (nat_lt hb)
    refine ⟨by omega, ?_⟩
    have h : (2 : Nat) ^ 32 = 4294967296 := by decide
    omega
  | bor =>
    show W32 (Builtin.bitOr a b)
    rw [Bits.bitOr_pp a1 b1]
    have := Nat.or_lt_two_pow (nat_lt ha) (nat_lt hb)
    refine ⟨by omega, ?_⟩
    have h : (2 : Nat) ^ 32 = 4294967296 := by decide
    omega
  | bxor =>
    show W32 (Builtin.bitXor a b)
    rw [Bits.bitXor_pp a1 b1]
    have := Nat.xor_lt_two_pow (nat_lt ha) (nat_lt hb)
    refine ⟨by omega, ?_⟩
    have h : (2 : Nat) ^ 32 = 4294967296 := by decide
    omega
  | shr =>
    obtain ⟨p1, p2⟩ := pow32 (b := b)
    show W32 (a / (1 * 2 ^ (b % 32).toNat))
    generalize 1 * (2 : Int) ^ (b % 32).toNat = S at p1 p2
    exact ⟨Int.ediv_nonneg a1 (by omega), Int.lt_of_le_of_lt (Int.ediv_le_self _ a1) a2⟩
  | eq => exact b01
  | lt => exact b01
  | le => exact b01
  | div =>
    show W32 (if b = 0 then 0 else a / b)
    split
    · exact ⟨by decide, by decide⟩
    · exact ⟨Int.ediv_nonneg a1 b1, Int.lt_of_le_of_lt (Int.ediv_le_self _ a1) a2⟩
  | mod =>
    show W32 (if b = 0 then a else a % b)
    split
    · exact ha
    · have h1 := Int.emod_nonneg a (b := b) (by omega)
      have h2 := Int.emod_lt_of_pos a (b := b) (by omega)
      exact ⟨h1, by omega⟩
abbrev nI (n : Nat) : PyData := .int (n : Int)
/-- one of the thirteen signs -/
theorem sg_pick {v : V} (hv : v ∈ [V.str "+", V.str "-", V.str "*", V.str "&", V.str "|", V.str "^", V.str "<<", V.str ">>", V.str "==", V.str "<", V.str "<=", V.str "div", V.str "mod"]) : ∃ s : Sg, v = .str s.s := by
  simp only [List.mem_cons, List.not_mem_nil, or_false] at hv
  rcases hv with rfl | rfl | rfl | rfl | rfl | rfl | rfl | rfl | rfl | rfl | rfl | rfl | rfl
  · exact ⟨.add, rfl⟩
  · exact ⟨.sub, rfl⟩
  · exact ⟨.mul, rfl⟩
  · exact ⟨.band, rfl⟩
  · exact ⟨.bor, rfl⟩
  · exact ⟨.bxor, rfl⟩
  · exact ⟨.shl, rfl⟩
  · exact ⟨.shr, rfl⟩
  · exact ⟨.eq, rfl⟩
  · exact ⟨.lt, rfl⟩
  · exact ⟨.le, rfl⟩
  · exact ⟨.div, rfl⟩
  · exact ⟨.mod, rfl⟩

/-! ### programs in the intermediate form -/
def toVd : PyData → V
  | .int i => .int i
  | .str z => .str z
  | _ => .non
theorem ims_flt {H : Hp} : ∀ {xs : List V} {ds : List PyData}, Ims H xs ds → (∀ d ∈ ds, isI d = true ∧ isB d = false ∨ isS d = true) → xs = ds.map toVd
  | _, _, .nil, _ => rfl
  | _, _, .cons h t, f => by
    rw [List.map_cons, ims_flt t fun d hd => f d (List.mem_cons_of_mem _ hd)]
    congr 1
    have := f _ List.mem_cons_self
    cases h with
    | int i => rfl
    | str z => rfl
    | non => rcases this with ⟨h, _⟩ | h <;> cases h
    | bl b => rcases this with ⟨_, h⟩ | h <;> cases h
    | tup _ _ => rcases this with ⟨h, _⟩ | h <;> cases h
inductive Ins
  | const (d : Nat) (n : Int)
  | copy (d a : Nat)
  | op (s : Sg) (d a b : Nat)
  | sel (d c a b : Nat)
  | ld (d i a : Nat)
  | st (i a b : Nat)
  | out (a : Nat)
  | jmp (t : Nat)
  | br (a t u : Nat)
  | stp (a : Nat)
def Ins.d : Ins → PyData
  | .const d n => .tuple [.str "const", nI d, .int n]
  | .copy d a => .tuple [.str "copy", nI d, nI a]
  | .op s d a b => .tuple [.str "op", .str s.s, nI d, nI a, nI b]
  | .sel d c a b => .tuple [.str "select", nI d, nI c, nI a, nI b]
  | .ld d i a => .tuple [.str "load", nI d, nI i, nI a]
  | .st i a b => .tuple [.str "store", nI i, nI a, nI b]
  | .out a => .tuple [.str "out", nI a]
  | .jmp t => .tuple [.str "jump", nI t]
  | .br a t u => .tuple [.str "branch", nI a, nI t, nI u]
  | .stp a => .tuple [.str "stop", nI a]
def Ins.v : Ins → List V
  | .const d n => [.str "const", .int d, .int n]
  | .copy d a => [.str "copy", .int d, .int a]
  | .op s d a b => [.str "op", .str s.s, .int d, .int a, .int b]
  | .sel d c a b => [.str "select", .int d, .int c, .int a, .int b]
  | .ld d i a => [.str "load", .int d, .int i, .int a]
  | .st i a b => [.str "store", .int i, .int a, .int b]
  | .out a => [.str "out", .int a]
  | .jmp t => [.str "jump", .int t]
  | .br a t u => [.str "branch", .int a, .int t, .int u]
  | .stp a => [.str "stop", .int a]
theorem ins_tup {H : Hp} {x : V} {r : Ins} (h : Im H x r.d) : ∃ a, x = .ref a ∧ H a = some (.tup r.v) := by
  cases r <;>
  · obtain ⟨a, xs, rfl, h1, h2⟩ := h.tup_inv
    have e := ims_flt h2 (by intro d hd; simp only [List.mem_cons, List.not_mem_nil, or_false] at hd; rcases hd with rfl | rfl | rfl | rfl | rfl <;> first | exact .inl ⟨rfl, rfl⟩ | exact .inr rfl)
    subst e
    exact ⟨a, rfl, h1⟩
def Ins.nm : Ins → Str
  | .const _ _ => "const" | .copy _ _ => "copy" | .op _ _ _ _ => "op" | .sel _ _ _ _ => "select" | .ld _ _ _ => "load" | .st _ _ _ => "store" | .out _ => "out" | .jmp _ => "jump" | .br _ _ _ => "branch" | .stp _ => "stop"
theorem ins0 {r : Ins} : r.v[0]? = some (.str r.nm) := by cases r <;> rfl
def Ins.ends : Ins → Bool
  | .jmp _ => true
  | .br _ _ _ => true
  | .stp _ => true
  | _ => false
/-- registers below R, arrays below A, blocks below B -/
def InsOk (R A B : Nat) : Ins → Prop
  | .const d n => d < R ∧ W32 n
  | .copy d a => d < R ∧ a < R
  | .op _ d a b => d < R ∧ a < R ∧ b < R
  | .sel d c a b => d < R ∧ c < R ∧ a < R ∧ b < R
  | .ld d i a => d < R ∧ i < A ∧ a < R
  | .st i a b => i < A ∧ a < R ∧ b < R
  | .out a => a < R
  | .jmp t => t < B
  | .br a t u => a < R ∧ t < B ∧ u < B
  | .stp a => a < R
structure Arr where
  z : Str
  n : Nat
  l : Str
def Arr.d (a : Arr) : PyData := .tuple [.str a.z, nI a.n, .str a.l]
def blkD (b : List Ins) : PyData := .tuple (b.map Ins.d)
abbrev irD (arrs : List Arr) (np : Nat) (bls : List (List Ins)) : PyData := .tuple [.tuple (arrs.map Arr.d), nI np, .tuple (bls.map blkD)]
theorem arr_tup {H : Hp} {x : V} {g : Arr} (h : Im H x g.d) : ∃ a, x = .ref a ∧ H a = some (.tup [.str g.z, .int g.n, .str g.l]) := by
  obtain ⟨a, x1, x2, x3, rfl, h1, i1, i2, i3⟩ := im3 h
  obtain rfl := i1.str_inv
  obtain rfl := i2.int_inv
  obtain rfl := i3.str_inv
  exact ⟨a, rfl, h1⟩
def BlkOk (R A B m : Nat) (b : List Ins) : Prop := ∃ (rs : List Ins) (e : Ins), b = rs ++ [e] ∧ rs.length ≤ m ∧ (∀ r ∈ rs, r.ends = false ∧ InsOk R A B r) ∧ e.ends = true ∧ InsOk R A B e
structure IrOk (R m : Nat) (arrs : List Arr) (np : Nat) (bls : List (List Ins)) : Prop where
  al : arrs.length ≤ 4
  an : ∀ a ∈ arrs, 1 ≤ a.n ∧ a.n ≤ 64
  ab : ∀ a ∈ arrs, a.l = "public" ∨ a.l = "secret"
  az : ∀ a ∈ arrs, PyData.strOk a.z = true
  np : np ≤ 8
  b1 : 1 ≤ bls.length
  b2 : bls.length ≤ 10
  bs : ∀ b ∈ bls, BlkOk R arrs.length bls.length m b
theorem nat_lt_of {i : Int} {m : Nat} (h : 0 ≤ i) (h2 : i < (m : Int)) : ∃ t : Nat, i = (t : Int) ∧ t < m := ⟨i.toNat, by omega, by omega⟩
theorem lbl_ok {z : Str} (h : z = "public" ∨ z = "secret") : PyData.strOk z = true := by
  rcases h with rfl | rfl <;> decide +kernel
theorem lbl_pick {v : V} (hv : v ∈ [V.str "public", V.str "secret"]) : ∃ P : Str, v = .str P ∧ (P = "public" ∨ P = "secret") := by
  simp only [List.mem_cons, List.not_mem_nil, or_false] at hv
  rcases hv with rfl | rfl
  · exact ⟨_, rfl, .inl rfl⟩
  · exact ⟨_, rfl, .inr rfl⟩
/-! x in (a, b) of written texts -/
section
variable {K : PySem.W.Frag} {H : Hp} {Q : VK} {k a b c e : Str} {r : Bool}
theorem g_in1 (h : ([a] : List Str).contains k = r) (q : ∀ H', Same H H' → Q (.bl r) H') : rTupN [.str a] H fun y H1 => rInU K false (.str k) y H1 Q :=
  ⟨by show 1 ≤ sizeLine; decide, fun u hu => g_inTs (ks := [a]) (.inl upd_same) (by rw [h]; exact q _ (Same.new hu))⟩
theorem g_in2 (h : ([a, b] : List Str).contains k = r) (q : ∀ H', Same H H' → Q (.bl r) H') : rTupN [.str a, .str b] H fun y H1 => rInU K false (.str k) y H1 Q :=
  ⟨by show 2 ≤ sizeLine; decide, fun u hu => g_inTs (ks := [a, b]) (.inl upd_same) (by rw [h]; exact q _ (Same.new hu))⟩
theorem g_in3 (h : ([a, b, c] : List Str).contains k = r) (q : ∀ H', Same H H' → Q (.bl r) H') : rTupN [.str a, .str b, .str c] H fun y H1 => rInU K false (.str k) y H1 Q :=
  ⟨by show 3 ≤ sizeLine; decide, fun u hu => g_inTs (ks := [a, b, c]) (.inl upd_same) (by rw [h]; exact q _ (Same.new hu))⟩
theorem g_inL2 (h : ([a, b] : List Str).contains k = r) (q : ∀ H', Same H H' → Q (.bl r) H') : rLstN [.str a, .str b] H fun y H1 => rInU K false (.str k) y H1 Q :=
  ⟨by show 2 ≤ sizeLine; decide, fun u hu => g_inTs (ks := [a, b]) (.inr upd_same) (by rw [h]; exact q _ (Same.new hu))⟩
theorem g_inL3 (h : ([a, b, c] : List Str).contains k = r) (q : ∀ H', Same H H' → Q (.bl r) H') : rLstN [.str a, .str b, .str c] H fun y H1 => rInU K false (.str k) y H1 Q :=
  ⟨by show 3 ≤ sizeLine; decide, fun u hu => g_inTs (ks := [a, b, c]) (.inr upd_same) (by rw [h]; exact q _ (Same.new hu))⟩
theorem g_niL2 (h : ([a, b] : List Str).contains k = r) (q : ∀ H', Same H H' → Q (.bl (!r)) H') : rLstN [.str a, .str b] H fun y H1 => rInU K true (.str k) y H1 Q :=
  ⟨by show 2 ≤ sizeLine; decide, fun u hu => g_niTs (ks := [a, b]) (.inr upd_same) (by rw [h]; exact q _ (Same.new hu))⟩
end
theorem g_inG1 {K : PySem.W.Frag} {H : Hp} {Q : VK} {d : Addr} {z : Str} {u : Value} (h : PySem.W.nsIn K d z = some (some u)) (q : Q (.bl true) H) : rInG K d false (.str z) (.ref d) H Q := ⟨z, some u, rfl, rfl, h, q⟩
theorem g_inG0 {K : PySem.W.Frag} {H : Hp} {Q : VK} {d : Addr} {z : Str} (h : PySem.W.nsIn K d z = some none) (q : Q (.bl false) H) : rInG K d false (.str z) (.ref d) H Q := ⟨z, none, rfl, rfl, h, q⟩
theorem g_ixG {K : PySem.W.Frag} {H : Hp} {Q : VK} {d : Addr} {z : Str} {u : Value} {v : V} (h : PySem.W.nsIn K d z = some (some u)) (r : RelV v u) (q : Q v H) : rIxG K d (.ref d) (.str z) H Q := ⟨z, u, v, rfl, rfl, h, r, q⟩

def sp_shifted (K : PySem.W.Frag) : Sp := fun vs H Q _ => ∃ (s : Sg) (z : Str) (a b : Int), vs = [.str z, .int a, .int b] ∧ z = s.s ∧ (s = .shl ∨ s = .shr) ∧ W32 a ∧ W32 b ∧ Q (.int (appD s a b)) H
theorem sc_shifted : FnScope ["sign", "a", "b", "by"] ["sign", "a", "b"] (defScope (topS 8)) := ⟨rfl, rfl, rfl, by decide +kernel, rfl, by decide +kernel, by decide +kernel⟩
theorem ok_shifted (T : Txt fa fn K mg (CsOk cs K w)) : Dn P w K mg base CX0 1 "shifted" ["sign", "a", "b"] (sp_shifted K) := by
  refine mk_dn (d := dOf "shifted" 8) T 0 0 rfl rfl rfl rfl rfl sc_shifted (by walk_at "len") (fun _ _ _ _ _ _ us hl => match us, hl with | [_, _, _], _ => rfl) (fun cdv A outer s H vs Q E hr h => ⟨_, (pss_cons (ps_set (i := 3) sc_shifted.nd rfl (.inl rfl) (pe_op o_mod (pe_callTy c_int rfl (T.free 27 rfl) (by decide +kernel) (pa_cons (pv 2) pa_nil)) pe_int))
      (pss_cons (ps_if (pt_cmpR (op_eqU (K := K) rfl hr.units) (pv 0) pe_str (nomark _)) (pss_one (ps_ret (pe_op o_mod (pe_callTy c_int rfl (T.free 27 rfl) (by decide +kernel) (pa_cons (pe_op op_mulU (pv 1) (pe_op o_shl pe_int (pv 3))) pa_nil)) (pe_gint T rfl 33 rfl rfl)))) pss_nil)
      (pss_one (ps_ret (pe_op o_fdiv (pv 1) (pe_op o_shl pe_int (pv 3))))))), ?_⟩)
  obtain ⟨s, z, a, b, rfl, hz, hs, wa, wb, hQ⟩ := h
  have a1 := wa.l
  have a2 := wa.u
  obtain ⟨p1, p2⟩ := pow32 (b := b)
  rcases hs with rfl | rfl <;> (simp only [Sg.s] at hz; subst hz)
  · walk_at "go"
    exact hQ
  · walk_at "go"
    exact hQ
def sp_divided (K : PySem.W.Frag) : Sp := fun vs H Q _ => ∃ (s : Sg) (z : Str) (a b : Int), vs = [.str z, .int a, .int b] ∧ z = s.s ∧ (s = .div ∨ s = .mod) ∧ W32 a ∧ W32 b ∧ Q (.int (appD s a b)) H
theorem sc_divided : FnScope ["sign", "a", "b"] ["sign", "a", "b"] (defScope (topS 9)) := ⟨rfl, rfl, rfl, by decide +kernel, rfl, by decide +kernel, by decide +kernel⟩
theorem ok_divided (T : Txt fa fn K mg (CsOk cs K w)) : Dn P w K mg base CX0 1 "divided" ["sign", "a", "b"] (sp_divided K) := by
  refine mk_dn (d := dOf "divided" 9) T 1 1 rfl rfl rfl rfl rfl sc_divided (by walk_at "len") (fun _ _ _ _ _ _ us hl => match us, hl with | [_, _, _], _ => rfl) (fun cdv A outer s H vs Q E hr h => ⟨_, (pss_cons (ps_if (pt_cmpR (op_eqU (K := K) rfl hr.units) (pv 0) pe_str (nomark _)) (pss_one (ps_ret (pe_ifExp (pt_cmpR (op_neU (K := K) rfl hr.units) (pv 2) pe_int (nomark _)) (pe_op o_fdiv (pv 1) (pv 2)) pe_int))) pss_nil)
      (pss_one (ps_ret (pe_ifExp (pt_cmpR (op_neU (K := K) rfl hr.units) (pv 2) pe_int (nomark _)) (pe_op op_sub (pv 1) (pe_op op_mulU (pv 2) (pe_op o_fdiv (pv 1) (pv 2)))) (pv 1))))), ?_⟩)
  obtain ⟨s, z, a, b, rfl, hz, hs, wa, wb, hQ⟩ := h
  have a1 := wa.l
  have a2 := wa.u
  have b1 := wb.l
  have b2 := wb.u
  rcases hs with rfl | rfl <;> (simp only [Sg.s] at hz; subst hz)
  · walk_at "go"
    refine g_ifN (fun c => ?_) (fun c => ?_)
    · walk_at "go"
      refine q_int ?_ hQ
      show (if b = 0 then 0 else a / b) = _
      rw [if_neg c]
    · walk_at "go"
      refine q_int ?_ hQ
      show (if b = 0 then 0 else a / b) = _
      rw [if_pos c]
  · walk_at "go"
    refine g_ifN (fun c => ?_) (fun c => ?_)
    · walk_at "go"
      refine q_int ?_ hQ
      show (if b = 0 then a else a % b) = _
      rw [if_neg c, Int.emod_def]
    · walk_at "go"
      refine q_int ?_ hQ
      show (if b = 0 then a else a % b) = _
      rw [if_pos c]
def sp_apply (K : PySem.W.Frag) : Sp := fun vs H Q _ => ∃ (s : Sg) (z : Str) (a b : Int), vs = [.str z, .int a, .int b] ∧ z = s.s ∧ W32 a ∧ W32 b ∧ ∀ H', Same H H' → Q (.int (appD s a b)) H'
theorem g_is {α : Prop} {β : Prop} {b : Bool} (h : b = true) (q : α) : if b = true then α else β := by rw [if_pos h]; exact q
theorem g_isnt {α : Prop} {β : Prop} {b : Bool} (h : b = false) (q : β) : if b = true then α else β := by rw [if_neg (by rw [h]; exact Bool.false_ne_true)]; exact q
theorem sc_apply : FnScope ["sign", "a", "b"] ["sign", "a", "b"] (defScope (topS 10)) := ⟨rfl, rfl, rfl, by decide +kernel, rfl, by decide +kernel, by decide +kernel⟩
theorem ok_apply (T : Txt fa fn K mg (CsOk cs K w)) : Dn P w K mg base CX0 2 "apply" ["sign", "a", "b"] (sp_apply K) := by
  refine mk_dn (d := dOf "apply" 10) T 2 2 rfl rfl rfl rfl rfl sc_apply (by walk_at "len") (fun _ _ _ _ _ _ us hl => match us, hl with | [_, _, _], _ => rfl) (fun cdv A outer s H vs Q E hr h => ⟨_, (pss_cons (ps_if (pt_cmpR (op_inU (K := K) rfl (hu65 hr)) (pv 0) (pe_tup (pa_cons pe_str (pa_cons pe_str pa_nil))) (by rfl)) (pss_one (ps_ret (pe_callD (K := K) rfl (ok_shifted T) (hr.mono (by decide)) rfl pass0 (pa_cons (pv 0) (pa_cons (pv 1) (pa_cons (pv 2) pa_nil)))))) pss_nil)
      (pss_cons (ps_if (pt_cmpR (op_inU (K := K) rfl (hu65 hr)) (pv 0) (pe_tup (pa_cons pe_str (pa_cons pe_str pa_nil))) (by rfl)) (pss_one (ps_ret (pe_callD (K := K) rfl (ok_divided T) (hr.mono (by decide)) rfl pass0 (pa_cons (pv 0) (pa_cons (pv 1) (pa_cons (pv 2) pa_nil)))))) pss_nil)
      (pss_cons (ps_if (pt_cmpR (op_eqU (K := K) rfl hr.units) (pv 0) pe_str (nomark _)) (pss_one (ps_ret (pe_callTy c_int rfl (T.free 27 rfl) (by decide +kernel) (pa_cons (pe_cmpR (op_eqU (K := K) rfl hr.units) (pv 1) (pv 2) (nomark _)) pa_nil)))) pss_nil)
      (pss_cons (ps_if (pt_cmpR (op_eqU (K := K) rfl hr.units) (pv 0) pe_str (nomark _)) (pss_one (ps_ret (pe_callTy c_int rfl (T.free 27 rfl) (by decide +kernel) (pa_cons (pe_cmpR o_lt (pv 1) (pv 2) (nomark _)) pa_nil)))) pss_nil)
      (pss_cons (ps_if (pt_cmpR (op_eqU (K := K) rfl hr.units) (pv 0) pe_str (nomark _)) (pss_one (ps_ret (pe_callTy c_int rfl (T.free 27 rfl) (by decide +kernel) (pa_cons (pe_cmpR o_le (pv 1) (pv 2) (nomark _)) pa_nil)))) pss_nil)
      (pss_cons (ps_if (pt_cmpR (op_eqU (K := K) rfl hr.units) (pv 0) pe_str (nomark _)) (pss_one (ps_ret (pe_op op_and (pv 1) (pv 2)))) pss_nil)
      (pss_cons (ps_if (pt_cmpR (op_eqU (K := K) rfl hr.units) (pv 0) pe_str (nomark _)) (pss_one (ps_ret (pe_op op_or (pv 1) (pv 2)))) pss_nil)
      (pss_cons (ps_if (pt_cmpR (op_eqU (K := K) rfl hr.units) (pv 0) pe_str (nomark _)) (pss_one (ps_ret (pe_op op_xor (pv 1) (pv 2)))) pss_nil)
      (pss_cons (ps_if (pt_cmpR (op_eqU (K := K) rfl hr.units) (pv 0) pe_str (nomark _)) (pss_one (ps_ret (pe_op o_mod (pe_callTy c_int rfl (T.free 27 rfl) (by decide +kernel) (pa_cons (pe_op (op_addU (K := K) rfl) (pv 1) (pv 2)) pa_nil)) (pe_gint T rfl 33 rfl rfl)))) pss_nil)
      (pss_cons (ps_if (pt_cmpR (op_eqU (K := K) rfl hr.units) (pv 0) pe_str (nomark _)) (pss_one (ps_ret (pe_op o_mod (pe_callTy c_int rfl (T.free 27 rfl) (by decide +kernel) (pa_cons (pe_op op_sub (pv 1) (pv 2)) pa_nil)) (pe_gint T rfl 33 rfl rfl)))) pss_nil)
      (pss_one (ps_ret (pe_op o_mod (pe_callTy c_int rfl (T.free 27 rfl) (by decide +kernel) (pa_cons (pe_op op_mulU (pv 1) (pv 2)) pa_nil)) (pe_gint T rfl 33 rfl rfl)))))))))))))), ?_⟩)
  obtain ⟨s, z, a, b, rfl, hz, wa, wb, hQ⟩ := h
  have a1 := wa.l
  have a2 := wa.u
  have b1 := wb.l
  have b2 := wb.u
  walk_at "go"
  refine ⟨by decide, fun q hq => ?_⟩
  have s1 := Same.new (o := .tup [.str "<<", .str ">>"]) hq
  refine g_inTs (ks := ["<<", ">>"]) (.inl upd_same) ?_
  walk_at "go"
  cases s <;> (simp only [Sg.s] at hz; subst hz)
  case shl =>
    refine g_is (by decide +kernel) ?_
    walk_at "go"
    exact ⟨.shl, _, a, b, rfl, rfl, .inl rfl, wa, wb, hQ _ s1⟩
  case shr =>
    refine g_is (by decide +kernel) ?_
    walk_at "go"
    exact ⟨.shr, _, a, b, rfl, rfl, .inr rfl, wa, wb, hQ _ s1⟩
  all_goals
    refine g_isnt (by decide +kernel) ?_
    walk_at "go"
    refine ⟨by decide, fun q2 hq2 => ?_⟩
    have s2 := s1.trans (Same.new (o := .tup [.str "div", .str "mod"]) hq2)
    refine g_inTs (ks := ["div", "mod"]) (.inl upd_same) ?_
    walk_at "go"
  case div =>
    refine g_is (by decide +kernel) ?_
    walk_at "go"
    exact ⟨.div, _, a, b, rfl, rfl, .inl rfl, wa, wb, hQ _ s2⟩
  case mod =>
    refine g_is (by decide +kernel) ?_
    walk_at "go"
    exact ⟨.mod, _, a, b, rfl, rfl, .inr rfl, wa, wb, hQ _ s2⟩
  all_goals
    refine g_isnt (by decide +kernel) ?_
    walk_at "go"
    exact hQ _ s2


/-! ### drawn programs in the intermediate form (laws k60 .. k62) -/
def sp_law_row (K : PySem.W.Frag) : Sp := fun vs H Q _ => ∃ (d : Addr) (L : List (Addr × HO)) (A B : Nat) (last : Bool), vs = [.ref d, .int (A : Int), .int (B : Int), .bl last] ∧ DrL H d L ∧ 0 < B ∧ A ≤ 4 ∧
  ∀ H' v r, Keep [d] H H' → DrL H' d L → Im H' v (Ins.d r) → InsOk 9 A B r → r.ends = last → Q v H'
theorem sc_law_row : FnScope ["w", "arrays", "blocks", "last", "d", "a", "b", "turn", "sign"] ["w", "arrays", "blocks", "last"] (defScope (topS 22)) := ⟨rfl, rfl, rfl, by decide +kernel, rfl, by decide +kernel, by decide +kernel⟩
theorem ok_law_row (T : Txt fa fn K mg (CsOk cs K w)) : Dn P w K mg base CX0 2 "_law_row" ["w", "arrays", "blocks", "last"] (sp_law_row K) := by
  refine mk_dn (d := dOf "_law_row" 22) T 13 13 rfl rfl rfl rfl rfl sc_law_row (by walk_at "len") (fun _ _ _ _ _ _ us hl => match us, hl with | [_, _, _, _], _ => rfl) (fun cdv A outer s H vs Q E hr h => ⟨_, (pss_cons (ps_set (i := 4) sc_law_row.nd rfl (.inl rfl) (pe_callD (K := K) rfl (ok_law_next T) (hr.mono (by decide)) rfl pass0 (pa_cons (pv 0) (pa_cons pe_int pa_nil))))
      (pss_cons (ps_set (i := 5) sc_law_row.nd rfl (.inl rfl) (pe_callD (K := K) rfl (ok_law_next T) (hr.mono (by decide)) rfl pass0 (pa_cons (pv 0) (pa_cons pe_int pa_nil))))
      (pss_cons (ps_set (i := 6) sc_law_row.nd rfl (.inl rfl) (pe_callD (K := K) rfl (ok_law_next T) (hr.mono (by decide)) rfl pass0 (pa_cons (pv 0) (pa_cons pe_int pa_nil))))
      (pss_cons (ps_if (pt_tru (K := K) rfl (pv 3)) (pss_one (ps_ret (pe_ixU (K := K) rfl (hu_of hr) (pe_lst (pa_cons (pe_tup (pa_cons pe_str (pa_cons (pe_callD (K := K) rfl (ok_law_next T) (hr.mono (by decide)) rfl pass0 (pa_cons (pv 0) (pa_cons (pv 2) pa_nil))) pa_nil))) (pa_cons (pe_tup (pa_cons pe_str (pa_cons (pv 5) (pa_cons (pe_callD (K := K) rfl (ok_law_next T) (hr.mono (by decide)) rfl pass0 (pa_cons (pv 0) (pa_cons (pv 2) pa_nil))) (pa_cons (pe_callD (K := K) rfl (ok_law_next T) (hr.mono (by decide)) rfl pass0 (pa_cons (pv 0) (pa_cons (pv 2) pa_nil))) pa_nil))))) (pa_cons (pe_tup (pa_cons pe_str (pa_cons (pv 5) pa_nil))) pa_nil)))) (pe_callD (K := K) rfl (ok_law_next T) (hr.mono (by decide)) rfl pass0 (pa_cons (pv 0) (pa_cons pe_int pa_nil)))))) pss_nil)
      (pss_cons (ps_set (i := 7) sc_law_row.nd rfl (.inl rfl) (pe_callD (K := K) rfl (ok_law_next T) (hr.mono (by decide)) rfl pass0 (pa_cons (pv 0) (pa_cons pe_int pa_nil))))
      (pss_cons (ps_if (pt_cmpR o_lt (pv 7) pe_int (nomark _)) (pss_one (ps_ret (pe_tup (pa_cons pe_str (pa_cons (pv 4) (pa_cons (pe_ixU (K := K) rfl (hu_of hr) (pe_lst (pa_cons (pe_callD (K := K) rfl (ok_law_next T) (hr.mono (by decide)) rfl pass0 (pa_cons (pv 0) (pa_cons pe_int pa_nil))) (pa_cons (pe_op op_sub pe_int (pe_callD (K := K) rfl (ok_law_next T) (hr.mono (by decide)) rfl pass0 (pa_cons (pv 0) (pa_cons pe_int pa_nil)))) (pa_cons (pe_op op_mulU (pe_callD (K := K) rfl (ok_law_next T) (hr.mono (by decide)) rfl pass0 (pa_cons (pv 0) (pa_cons pe_int pa_nil))) pe_int) (pa_cons (pe_op (op_addU (K := K) rfl) pe_int (pe_callD (K := K) rfl (ok_law_next T) (hr.mono (by decide)) rfl pass0 (pa_cons (pv 0) (pa_cons pe_int pa_nil)))) pa_nil))))) (pe_callD (K := K) rfl (ok_law_next T) (hr.mono (by decide)) rfl pass0 (pa_cons (pv 0) (pa_cons pe_int pa_nil)))) pa_nil)))))) pss_nil)
      (pss_cons (ps_if (pt_cmpR (op_eqU (K := K) rfl hr.units) (pv 7) pe_int (nomark _)) (pss_one (ps_ret (pe_tup (pa_cons pe_str (pa_cons (pv 4) (pa_cons (pv 5) pa_nil)))))) pss_nil)
      (pss_cons (ps_if (pt_cmpR o_lt (pv 7) pe_int (nomark _)) (pss_cons (ps_set (i := 8) sc_law_row.nd rfl (.inl rfl) (pe_ixU (K := K) rfl (hu_of hr) (pe_lst (pa_cons pe_str (pa_cons pe_str (pa_cons pe_str (pa_cons pe_str (pa_cons pe_str (pa_cons pe_str (pa_cons pe_str (pa_cons pe_str (pa_cons pe_str (pa_cons pe_str (pa_cons pe_str (pa_cons pe_str (pa_cons pe_str pa_nil)))))))))))))) (pe_callD (K := K) rfl (ok_law_next T) (hr.mono (by decide)) rfl pass0 (pa_cons (pv 0) (pa_cons pe_int pa_nil)))))
      (pss_one (ps_ret (pe_tup (pa_cons pe_str (pa_cons (pv 8) (pa_cons (pv 4) (pa_cons (pv 5) (pa_cons (pv 6) pa_nil))))))))) pss_nil)
      (pss_cons (ps_if (pt_cmpR (op_eqU (K := K) rfl hr.units) (pv 7) pe_int (nomark _)) (pss_one (ps_ret (pe_tup (pa_cons pe_str (pa_cons (pv 4) (pa_cons (pe_callD (K := K) rfl (ok_law_next T) (hr.mono (by decide)) rfl pass0 (pa_cons (pv 0) (pa_cons pe_int pa_nil))) (pa_cons (pv 5) (pa_cons (pv 6) pa_nil)))))))) pss_nil)
      (pss_cons (ps_if (PW.pt (pw_and (pt_cmpR o_lt (pv 7) pe_int (nomark _)) (pw_and1 (pt_cmpR o_gt (pv 1) pe_int (nomark _))))) (pss_one (ps_ret (pe_ixU (K := K) rfl (hu_of hr) (pe_lst (pa_cons (pe_tup (pa_cons pe_str (pa_cons (pv 4) (pa_cons (pe_callD (K := K) rfl (ok_law_next T) (hr.mono (by decide)) rfl pass0 (pa_cons (pv 0) (pa_cons (pv 1) pa_nil))) (pa_cons (pv 5) pa_nil))))) (pa_cons (pe_tup (pa_cons pe_str (pa_cons (pe_callD (K := K) rfl (ok_law_next T) (hr.mono (by decide)) rfl pass0 (pa_cons (pv 0) (pa_cons (pv 1) pa_nil))) (pa_cons (pv 5) (pa_cons (pv 6) pa_nil))))) pa_nil))) (pe_op op_sub (pv 7) pe_int)))) pss_nil)
      (pss_one (ps_ret (pe_tup (pa_cons pe_str (pa_cons (pv 5) pa_nil))))))))))))))), ?_⟩)
  obtain ⟨d, L, A, B, last, rfl, D, hB, hA, hQ⟩ := h
  walk_at "go"
  refine use_nx D (by decide) (fun H1 v1 k1 D1 h10 h11 => ?_)
  obtain ⟨dd, rfl, hd⟩ := nat_lt_of (m := 9) h10 h11
  walk_at "go"
  refine use_nx D1 (by decide) (fun H2 v2 k2 D2 h20 h21 => ?_)
  obtain ⟨a, rfl, ha⟩ := nat_lt_of (m := 9) h20 h21
  walk_at "go"
  refine use_nx D2 (by decide) (fun H3 v3 k3 D3 h30 h31 => ?_)
  obtain ⟨b, rfl, hb⟩ := nat_lt_of (m := 9) h30 h31
  have k13 := (k1.trans k2).trans k3
  walk_at "go"
  refine g_ifB (fun c => ?_) (fun c => ?_)
  · subst c
    walk_at "go"
    refine use_nx D3 (by omega) (fun H4 v4 k4 D4 h40 h41 => ?_)
    obtain ⟨t1, rfl, ht1⟩ := nat_lt_of h40 h41
    walk_at "go"
    refine m_new (.cons (.str _) (.cons (.int _) .nil)) (by simp) (fun p5 H5 s5 hp5 i5 => ?_)
    have D5 := D4.same s5
    walk_at "go"
    refine use_nx D5 (by omega) (fun H6 v6 k6 D6 h60 h61 => ?_)
    obtain ⟨t2, rfl, ht2⟩ := nat_lt_of h60 h61
    walk_at "go"
    refine use_nx D6 (by omega) (fun H7 v7 k7 D7 h70 h71 => ?_)
    obtain ⟨t3, rfl, ht3⟩ := nat_lt_of h70 h71
    walk_at "go"
    refine m_new (.cons (.str _) (.cons (.int _) (.cons (.int _) (.cons (.int _) .nil)))) (by simp) (fun p8 H8 s8 hp8 i8 => ?_)
    have D8 := D7.same s8
    walk_at "go"
    refine m_new (.cons (.str _) (.cons (.int _) .nil)) (by simp) (fun p9 H9 s9 hp9 i9 => ?_)
    have D9 := D8.same s9
    have i5' := ((D6.im k7 (D5.im k6 i5)).same s8).same s9
    have i8' := i8.same s9
    have k9 := (((((k13.trans k4).trans (Keep.of s5)).trans k6).trans k7).trans (Keep.of s8)).trans (Keep.of s9)
    walk_at "go"
    refine use_pk D9 rfl rfl (by simp) (by simp) (fun HA v kA DA hv => ?_)
    simp only [List.mem_cons, List.not_mem_nil, or_false] at hv
    rcases hv with rfl | rfl | rfl
    · exact hQ _ _ (.jmp t1) (k9.trans kA) DA (D9.im kA i5') ht1 rfl
    · exact hQ _ _ (.br a t2 t3) (k9.trans kA) DA (D9.im kA i8') ⟨ha, ht2, ht3⟩ rfl
    · exact hQ _ _ (.stp a) (k9.trans kA) DA (D9.im kA i9) ha rfl
  subst c
  walk_at "go"
  refine use_nx D3 (by decide) (fun H4 v4 k4 D4 h40 h41 => ?_)
  have k14 := k13.trans k4
  walk_at "go"
  refine g_if (fun c => ?_) (fun c => ?_)
  · walk_at "go"
    refine use_nx D4 (by decide) (fun H5 v5 k5 D5 h50 h51 => ?_)
    walk_at "go"
    refine use_nx D5 (by decide) (fun H6 v6 k6 D6 h60 h61 => ?_)
    walk_at "go"
    refine use_nx D6 (by decide) (fun H7 v7 k7 D7 h70 h71 => ?_)
    walk_at "go"
    refine use_nx D7 (by decide) (fun H8 v8 k8 D8 h80 h81 => ?_)
    walk_at "go"
    refine use_pk D8 rfl rfl (by simp) (by simp) (fun H9 v k9 D9 hv => ?_)
    obtain ⟨n, rfl, hn⟩ : ∃ n : Int, v = .int n ∧ W32 n := by
      simp only [List.mem_cons, List.not_mem_nil, or_false] at hv
      rcases hv with rfl | rfl | rfl | rfl
      · exact ⟨_, rfl, h50, by omega⟩
      · exact ⟨_, rfl, by omega, by omega⟩
      · exact ⟨_, rfl, by omega, by omega⟩
      · exact ⟨_, rfl, by omega, by omega⟩
    walk_at "go"
    refine m_new (.cons (.str _) (.cons (.int _) (.cons (.int _) .nil))) (by simp) (fun pA HA sA hpA iA => ?_)
    exact hQ _ _ (.const dd n) (((((k14.trans k5).trans k6).trans k7).trans k8).trans k9 |>.trans (Keep.of sA)) (D9.same sA) iA ⟨hd, hn⟩ rfl
  walk_at "go"
  refine g_if (fun c2 => ?_) (fun c2 => ?_)
  · walk_at "go"
    refine m_new (.cons (.str _) (.cons (.int _) (.cons (.int _) .nil))) (by simp) (fun p5 H5 s5 hp5 i5 => ?_)
    exact hQ _ _ (.copy dd a) (k14.trans (Keep.of s5)) (D4.same s5) i5 ⟨hd, ha⟩ rfl
  walk_at "go"
  refine g_if (fun c3 => ?_) (fun c3 => ?_)
  · walk_at "go"
    refine use_pk D4 rfl rfl (by simp) (by simp) (fun H5 v k5 D5 hv => ?_)
    obtain ⟨s, rfl⟩ := sg_pick hv
    walk_at "go"
    refine m_new (.cons (.str _) (.cons (.str _) (.cons (.int _) (.cons (.int _) (.cons (.int _) .nil))))) (by simp) (fun p6 H6 s6 hp6 i6 => ?_)
    exact hQ _ _ (.op s dd a b) ((k14.trans k5).trans (Keep.of s6)) (D5.same s6) i6 ⟨hd, ha, hb⟩ rfl
  walk_at "go"
  refine g_if (fun c4 => ?_) (fun c4 => ?_)
  · walk_at "go"
    refine use_nx D4 (by decide) (fun H5 v5 k5 D5 h50 h51 => ?_)
    obtain ⟨cc, rfl, hcc⟩ := nat_lt_of (m := 9) h50 h51
    walk_at "go"
    refine m_new (.cons (.str _) (.cons (.int _) (.cons (.int _) (.cons (.int _) (.cons (.int _) .nil))))) (by simp) (fun p6 H6 s6 hp6 i6 => ?_)
    exact hQ _ _ (.sel dd cc a b) ((k14.trans k5).trans (Keep.of s6)) (D5.same s6) i6 ⟨hd, hcc, ha, hb⟩ rfl
  walk_at "go"
  refine g_if (fun c5 => ?_) (fun c5 => ?_)
  · walk_at "go"
    refine g_if (fun c6 => ?_) (fun c6 => ?_)
    · walk_at "go"
      refine use_nx D4 (by omega) (fun H5 v5 k5 D5 h50 h51 => ?_)
      obtain ⟨i1, rfl, hi1⟩ := nat_lt_of h50 h51
      walk_at "go"
      refine m_new (.cons (.str _) (.cons (.int _) (.cons (.int _) (.cons (.int _) .nil)))) (by simp) (fun p6 H6 s6 hp6 i6 => ?_)
      have D6 := D5.same s6
      walk_at "go"
      refine use_nx D6 (by omega) (fun H7 v7 k7 D7 h70 h71 => ?_)
      obtain ⟨i2, rfl, hi2⟩ := nat_lt_of h70 h71
      walk_at "go"
      refine m_new (.cons (.str _) (.cons (.int _) (.cons (.int _) (.cons (.int _) .nil)))) (by simp) (fun p8 H8 s8 hp8 i8 => ?_)
      have D8 := D7.same s8
      have k8 := (((k14.trans k5).trans (Keep.of s6)).trans k7).trans (Keep.of s8)
      walk_at "go"
      refine ⟨by show 2 ≤ sizeLine; decide, fun l hl => ?_⟩
      have sl := Same.new (o := .lst [.ref p6, .ref p8]) hl
      walk_at "go"
      have two : v4 = 7 ∨ v4 = 8 := by omega
      rcases two with rfl | rfl
      · refine g_ixL (SqL.of upd_same) (n := 0) rfl rfl ?_
        exact hQ _ _ (.ld dd i1 a) (k8.trans (Keep.of sl)) (D8.same sl) ((((D6.im k7 i6).same s8).same sl)) ⟨hd, hi1, ha⟩ rfl
      · refine g_ixL (SqL.of upd_same) (n := 1) rfl rfl ?_
        exact hQ _ _ (.st i2 a b) (k8.trans (Keep.of sl)) (D8.same sl) (i8.same sl) ⟨hi2, ha, hb⟩ rfl
    · walk_at "go"
      refine m_new (.cons (.str _) (.cons (.int _) .nil)) (by simp) (fun p6 H6 s6 hp6 i6 => ?_)
      exact hQ _ _ (.out a) (k14.trans (Keep.of s6)) (D4.same s6) i6 ha rfl
  · walk_at "go"
    refine m_new (.cons (.str _) (.cons (.int _) .nil)) (by simp) (fun p6 H6 s6 hp6 i6 => ?_)
    exact hQ _ _ (.out a) (k14.trans (Keep.of s6)) (D4.same s6) i6 ha rfl
theorem drawn_list {α : Type} {f : α → PyData} {p : α → Prop} : ∀ {es : List PyData}, (∀ (i : Nat) (e : PyData), es[i]? = some e → ∃ a, e = f a ∧ p a) → ∃ l : List α, es = l.map f ∧ ∀ a ∈ l, p a
  | [], _ => ⟨[], rfl, by simp⟩
  | e :: es, h => by
    obtain ⟨a, rfl, ha⟩ := h 0 e rfl
    obtain ⟨l, rfl, hl⟩ := drawn_list (es := es) (fun i e he => h (i + 1) e (by simpa using he))
    exact ⟨a :: l, rfl, fun x hx => by
      rcases List.mem_cons.mp hx with rfl | hx
      · exact ha
      · exact hl x hx⟩
theorem small_str {i : Nat} (h : i < 4) : (0 + (i : Int)).natAbs.log2 < 1920 ∧ ("a" : Str).length + (toString (0 + (i : Int)) : Str).length ≤ sizeLine ∧ PyData.strOk ("a" ++ (toString (0 + (i : Int)) : Str)) = true := by
  obtain rfl | rfl | rfl | rfl : i = 0 ∨ i = 1 ∨ i = 2 ∨ i = 3 := by omega
  all_goals decide +kernel
def sp_law_program (K : PySem.W.Frag) : Sp := fun vs H Q _ => ∃ (d : Addr) (L : List (Addr × HO)), vs = [.ref d] ∧ DrL H d L ∧ ∀ H' v arrs np bls, Keep [d] H H' → DrL H' d L → Im H' v (irD arrs np bls) → IrOk 9 7 arrs np bls → Q v H'
theorem sc_law_program : FnScope ["w", "arrays", "many", "blocks", "k", "rows", "j"] ["w"] (defScope (topS 23)) := ⟨rfl, rfl, rfl, by decide +kernel, rfl, by decide +kernel, by decide +kernel⟩
theorem ok_law_program (T : Txt fa fn K mg (CsOk cs K w)) : Dn P w K mg base CX0 3 "_law_program" ["w"] (sp_law_program K) := by
  refine mk_dn (d := dOf "_law_program" 23) T 14 14 rfl rfl rfl rfl rfl sc_law_program (by walk_at "len") (fun _ _ _ _ _ _ us hl => match us, hl with | [_], _ => rfl) (fun cdv A outer s H vs Q E hr h => ⟨_, (pss_cons (ps_set (i := 1) sc_law_program.nd rfl (.inr rfl) (pe_callTy (c_tuple (K := K) rfl) rfl (T.free 32 rfl) (by decide +kernel) (pa_cons (pe_lc rfl sc_law_program.nd (pi_r1 rfl (T.free 30 rfl) (pa_cons (pe_callD (K := K) rfl (ok_law_next T) (hr.mono (by decide)) rfl pass0 (pa_cons (pv 0) (pa_cons pe_int pa_nil))) pa_nil)) (blkOk_by (own := [("k", 4)]) (N := ["w", "arrays", "many", "blocks", "k", "rows", "j"]) (sc := defScope (topS 23)) (by decide +kernel)) (fun _ _ _ _ _ => (pg_name (i := 4) sc_law_program.nd rfl (.inl rfl))) (fun _ _ _ _ _ => pts_nil) (fun _ _ _ _ _ => (pe_tup (pa_cons (pe_op (op_addU (K := K) rfl) pe_str (pe_callTy c_str rfl (T.free 31 rfl) (by decide +kernel) (pa_cons (pv 4) pa_nil))) (pa_cons (pe_op (op_addU (K := K) rfl) pe_int (pe_callD (K := K) rfl (ok_law_next T) (hr.mono (by decide)) rfl pass0 (pa_cons (pv 0) (pa_cons pe_int pa_nil)))) (pa_cons (pe_ixU (K := K) rfl (hu_of hr) (pe_lst (pa_cons pe_str (pa_cons pe_str pa_nil))) (pe_callD (K := K) rfl (ok_law_next T) (hr.mono (by decide)) rfl pass0 (pa_cons (pv 0) (pa_cons pe_int pa_nil)))) pa_nil)))))) pa_nil)))
      (pss_cons (ps_set (i := 2) sc_law_program.nd rfl (.inr rfl) (pe_op (op_addU (K := K) rfl) pe_int (pe_callD (K := K) rfl (ok_law_next T) (hr.mono (by decide)) rfl pass0 (pa_cons (pv 0) (pa_cons pe_int pa_nil)))))
      (pss_cons (ps_set (i := 3) sc_law_program.nd rfl (.inl rfl) (pe_lst pa_nil))
      (pss_cons (ps_for PassesOwn.never rfl (pi_r1 rfl (T.free 30 rfl) (pa_cons (pv 2) pa_nil)) (pg_name (i := 4) sc_law_program.nd rfl (.inl rfl)) (pss_cons (ps_setLc (i := 5) rfl sc_law_program.nd rfl rfl (sw_true rfl rfl rfl (by decide +kernel)) (pi_r1 rfl (T.free 30 rfl) (pa_cons (pe_callD (K := K) rfl (ok_law_next T) (hr.mono (by decide)) rfl pass0 (pa_cons (pv 0) (pa_cons pe_int pa_nil))) pa_nil)) (blkOk_by (own := [("j", 6)]) (N := ["w", "arrays", "many", "blocks", "k", "rows", "j"]) (sc := defScope (topS 23)) (by decide +kernel)) (fun _ _ _ _ _ => (pg_name (i := 6) sc_law_program.nd rfl (.inl rfl))) (fun _ _ _ _ _ => pts_nil) (fun _ _ _ _ _ => (pe_callD (K := K) rfl (ok_law_row T) (hr.mono (by decide)) rfl pass0 (pa_cons (pv 0) (pa_cons (pe_callB (c_len (K := K) rfl) rfl (T.free 29 rfl) (by decide +kernel) (pa_cons (pv 1) pa_nil)) (pa_cons (pv 2) (pa_cons pe_bl pa_nil)))))))
      (pss_one (ps_expr (pe_bm PySem.F.plainAttrs_list PySem.F.slot_list_append PySem.F.type_list_append mt_append (pv 3) (pa_cons (pe_callTy (c_tuple (K := K) rfl) rfl (T.free 32 rfl) (by decide +kernel) (pa_cons (pe_op (op_addU (K := K) rfl) (pv 5) (pe_lst (pa_cons (pe_callD (K := K) rfl (ok_law_row T) (hr.mono (by decide)) rfl pass0 (pa_cons (pv 0) (pa_cons (pe_callB (c_len (K := K) rfl) rfl (T.free 29 rfl) (by decide +kernel) (pa_cons (pv 1) pa_nil)) (pa_cons (pv 2) (pa_cons pe_bl pa_nil))))) pa_nil))) pa_nil)) pa_nil))))))
      (pss_one (ps_ret (pe_tup (pa_cons (pv 1) (pa_cons (pe_callD (K := K) rfl (ok_law_next T) (hr.mono (by decide)) rfl pass0 (pa_cons (pv 0) (pa_cons pe_int pa_nil))) (pa_cons (pe_callTy (c_tuple (K := K) rfl) rfl (T.free 32 rfl) (by decide +kernel) (pa_cons (pv 3) pa_nil)) pa_nil)))))))))), ?_⟩)
  obtain ⟨d, L, rfl, D, hQ⟩ := h
  walk_at "go"
  refine use_nx D (by decide) (fun H1 v1 k1 D1 h10 h11 => ?_)
  obtain ⟨n, rfl, hn⟩ := nat_lt_of (m := 4) h10 h11
  walk_at "go"
  rw [Int.toNat_natCast]
  refine l_drawR (P := fun _ e => ∃ a : Arr, e = a.d ∧ (1 ≤ a.n ∧ a.n ≤ 64) ∧ (a.l = "public" ∨ a.l = "secret") ∧ PyData.strOk a.z = true) D1 (by omega) (fun _ => rfl) (fun i H2 R L2 hi k2 D2 hR => ?_) (fun DD H2 us es hDD k2 D2 im hl hp => ?_)
  · obtain ⟨s1, s2, s3⟩ := small_str (show i < 4 by omega)
    walk_at "go"
    refine ⟨_, rfl, s1, ?_⟩
    walk_at "go"
    refine g_addS s2 ?_
    walk_at "go"
    refine use_nx D2 (by decide) (fun H3 v3 k3 D3 h30 h31 => ?_)
    obtain ⟨m, rfl, hm⟩ := nat_lt_of (m := 11) h30 h31
    walk_at "go"
    refine use_pk D3 rfl rfl (by simp) (by simp) (fun H4 v k4 D4 hv => ?_)
    obtain ⟨P, rfl, hP⟩ := lbl_pick hv
    walk_at "go"
    have e1 : (1 : Int) + (m : Int) = ((m + 1 : Nat) : Int) := by omega
    rw [e1]
    refine m_new (.cons (.str _) (.cons (.int _) (.cons (.str _) .nil))) (by simp) (fun p5 H5 s5 hp5 i5 => ?_)
    exact hR _ _ (Arr.d ⟨_, m + 1, P⟩) ((k3.trans k4).trans (Keep.of s5)) (D4.same s5) i5 ⟨⟨_, m + 1, P⟩, rfl, ⟨by show 1 ≤ m + 1; omega, by show m + 1 ≤ 64; omega⟩, hP, s3⟩
  obtain ⟨arrs, rfl, ha⟩ := drawn_list (fun i e he => hp i e he)
  rw [List.length_map] at hl
  walk_at "go"
  refine m_tupleL (SqL.of (D2.get L.length get_last)) im (fun p3 H3 s3 _ i3 => ?_)
  have D3 := (D2.sub sub_last).same s3
  have k13 := (k1.trans k2).trans (Keep.of s3)
  walk_at "go"
  refine use_nx D3 (by decide) (fun H4 v4 k4 D4 h40 h41 => ?_)
  obtain ⟨B, rfl, hB⟩ := nat_lt_of (m := 5) h40 h41
  have i4 := D3.im k4 i3
  walk_at "go"
  have e1 : (1 : Int) + (B : Int) = ((B + 1 : Nat) : Int) := by omega
  rw [e1]
  refine ⟨by decide, fun p5 hp5 => ?_⟩
  have D5 := D4.new (o := .lst []) hp5
  have k5 : Keep [d] H4 (upd H4 p5 (.lst [])) := Keep.new hp5
  have i5 := D4.im k5 i4
  have hpH := (k13.trans k4).back hp5 (by simpa using D4.ne hp5)
  have k15 := (k13.trans k4).trans k5
  generalize upd H4 p5 (.lst []) = H5 at D5 k5 i5 k15
  walk_at "go"
  rw [Int.toNat_natCast]
  refine f_range (fun i σ H' => ∃ (o1 o2 : Option V) (xs : List V) (bls : List (List Ins)), σ = [some (.ref d), some (.ref p3), some (.int ((B + 1 : Nat) : Int)), some (.ref p5), o1, o2, none] ∧ Keep [d] H H' ∧ DrL H' d (L ++ [(p5, .lst xs)]) ∧ Im H' (.ref p3) (.tuple (arrs.map Arr.d)) ∧ Ims H' xs (bls.map blkD) ∧ bls.length = i ∧ ∀ b ∈ bls, BlkOk 9 arrs.length (B + 1) 7 b)
    ⟨_, _, [], [], rfl, k15, D5, i5, .nil, rfl, by simp⟩ ?_ ?_
  · rintro i σ H6 hi ⟨o1, o2, xs, bls, rfl, k6, D6, i6, im6, hl6, hb6⟩
    have hxl := im6.length
    rw [List.length_map] at hxl
    walk_at "go"
    refine use_nx D6 (by decide) (fun H7 v7 k7 D7 h70 h71 => ?_)
    obtain ⟨m, rfl, hm⟩ := nat_lt_of (m := 8) h70 h71
    have i7 := D6.im k7 i6
    walk_at "go"
    rw [Int.toNat_natCast]
    refine l_drawR (P := fun _ e => ∃ r : Ins, e = r.d ∧ r.ends = false ∧ InsOk 9 arrs.length (B + 1) r) D7 (by omega) (fun _ => rfl) (fun j H8 R L8 hj k8 D8 hR => ?_) (fun DE H8 us8 es8 hDE k8 D8 im8 hl8 hp8 => ?_)
    · walk_at "go"
      refine m_len (D7.im k8 i7) ?_
      rw [List.length_map]
      walk_at "go"
      refine ⟨d, L8, arrs.length, B + 1, false, rfl, D8, by omega, by omega, fun H9 v9 r9 k9 D9 i9 ok9 e9 => ?_⟩
      exact hR _ _ _ k9 D9 i9 ⟨r9, rfl, e9, ok9⟩
    obtain ⟨rs, rfl, hrs⟩ := drawn_list (fun i e he => hp8 i e he)
    rw [List.length_map] at hl8
    have hul := im8.length
    rw [List.length_map] at hul
    have i8 := D7.im k8 i7
    have im68 := D7.ims k8 (D6.ims k7 im6)
    have at8 : H8 p5 = some (.lst xs) := D8.get L.length (by simp)
    walk_at "go"
    refine m_len i8 ?_
    rw [List.length_map]
    walk_at "go"
    refine ⟨d, _, arrs.length, B + 1, true, rfl, D8, by omega, by omega, fun H9 v9 r9 k9 D9 i9 ok9 e9 => ?_⟩
    have im89 := D8.ims k9 im8
    have im69 := D8.ims k9 im68
    have i39 := D8.im k9 i8
    walk_at "go"
    refine ⟨by show 1 ≤ sizeLine; decide, fun pA hpA => ?_⟩
    have sA := Same.new (o := .lst [v9]) hpA
    have DA := D9.same sA
    walk_at "go"
    refine g_catL (DA.get (L ++ [(p5, HO.lst xs)]).length get_last) upd_same (by simp only [List.length_singleton]; omega) (fun pB hpB => ?_)
    have sB := Same.new (o := .lst (us8 ++ [v9])) hpB
    have atB : upd (upd H9 pA (.lst [v9])) pB (.lst (us8 ++ [v9])) pB = some (.lst (us8 ++ [v9])) := upd_same
    have imB : Ims (upd (upd H9 pA (.lst [v9])) pB (.lst (us8 ++ [v9]))) (us8 ++ [v9]) ((rs ++ [r9]).map Ins.d) := by
      rw [List.map_append]
      exact (im89.append (Ims.one i9)).same (sA.trans sB)
    have sAB := sA.trans sB
    generalize upd (upd H9 pA (.lst [v9])) pB (.lst (us8 ++ [v9])) = HB at atB imB sB sAB
    walk_at "go"
    refine m_tupleL (SqL.of atB) imB (fun pC HC sC _ iC => ?_)
    have s9C := sAB.trans sC
    have DC : DrL HC d (L ++ [(p5, .lst xs)]) := (D9.sub sub_last).same s9C
    walk_at "go"
    refine gD_append DC L.length get_last (by omega) (fun DD2 => ?_)
    rw [set_last] at DD2
    walk_at "go"
    refine ⟨_, _, xs ++ [.ref pC], bls ++ [rs ++ [r9]], rfl, ((((k6.trans k7).trans k8).trans k9).trans (Keep.of s9C)).mut hpH, DD2, ?_, ?_, by rw [List.length_append, hl6]; rfl, fun b hb => ?_⟩
    · exact (i39.same s9C).keep (Keep.set (List.mem_singleton.mpr rfl)) (NoTup.one (DC.get L.length get_last) (fun _ e => nomatch e))
    · rw [List.map_append]
      exact ims_snoc (H2 := HC) (im69.same s9C) iC (DC.get L.length get_last)
    · rcases List.mem_append.mp hb with hb | hb
      · exact hb6 b hb
      · rw [List.mem_singleton.mp hb]
        exact ⟨rs, r9, rfl, by omega, hrs, e9, ok9⟩
  · rintro σ H6 ⟨o1, o2, xs, bls, rfl, k6, D6, i6, im6, hl6, hb6⟩
    walk_at "go"
    refine use_nx D6 (by decide) (fun H7 v7 k7 D7 h70 h71 => ?_)
    obtain ⟨np, rfl, hnp⟩ := nat_lt_of (m := 5) h70 h71
    walk_at "go"
    refine m_tupleL (SqL.of (D7.get L.length get_last)) (D6.ims k7 im6) (fun p8 H8 s8 _ i8 => ?_)
    have i38 := (D6.im k7 i6).same s8
    walk_at "go"
    refine m_new (.cons i38 (.cons (.int _) (.cons i8 .nil))) (by simp) (fun p9 H9 s9 _ i9 => ?_)
    have lB : bls.length = B + 1 := by omega
    refine hQ _ _ arrs np bls (((k6.trans k7).trans (Keep.of s8)).trans (Keep.of s9)) (((D7.sub sub_last).same s8).same s9) i9 ⟨by omega, fun a h => (ha a h).1, fun a h => (ha a h).2.1, fun a h => (ha a h).2.2, by omega, by omega, by omega, fun b hb => ?_⟩
    rw [lB]
    exact hb6 b hb


/-! ### k60: parts and rows -/
inductive PK
  | g | r | n | i | t
  deriving DecidableEq
def PK.s : PK → Str
  | .g => "g" | .r => "r" | .n => "n" | .i => "i" | .t => "t"
def PK.c : PK → Nat
  | .g => 103 | .r => 114 | .n => 110 | .i => 105 | .t => 116
theorem l_c (k : PK) : (⟨#[k.c]⟩ : Str) = k.s := by cases k <;> decide +kernel
def ltr (ks : List PK) : Str := ⟨(ks.map PK.c).toArray⟩
theorem ltr_list {ks : List PK} : (ltr ks).cps.toList = ks.map PK.c := by simp [ltr]
theorem ltr_len {ks : List PK} : (ltr ks).length = ks.length := by simp [ltr, Str.length]
def SGS : List Str := ["+", "-", "*", "&", "|", "^", "<<", ">>", "==", "<", "<=", "div", "mod"]
def LAB : List Str := ["public", "secret"]
def ENS : List Str := ["jump", "branch", "stop"]
theorem g_inFs {K : PySem.W.Frag} {H : Hp} {Q : VK} {z : Str} {p : Addr} {ks : List Str} (h : SqT K H p (ks.map V.str)) (q : Q (.bl (ks.contains z)) H) : rInU K false (.str z) (.ref p) H Q := by
  refine .inl ⟨p, ks.map V.str, rfl, .inr h, rfl, flat_strs, ?_⟩
  rw [inV_strs]
  exact q
theorem fz_SIGNS (T : Txt fa fn K mg (CsOk cs K w)) (H : Hp) : SqT K H (He.ga K "SIGNS") (SGS.map V.str) := dp_strs (ks := SGS) (T.m.tup in_SIGNS H)
theorem fz_LABELS (T : Txt fa fn K mg (CsOk cs K w)) (H : Hp) : SqT K H (He.ga K "LABELS") (LAB.map V.str) := dp_strs (ks := LAB) (T.m.tup in_LABELS H)
theorem fz_ENDS (T : Txt fa fn K mg (CsOk cs K w)) (H : Hp) : SqT K H (He.ga K "ENDS") (ENS.map V.str) := dp_strs (ks := ENS) (T.m.tup in_ENDS H)
/-- a part of a row, among A arrays and B blocks -/
def partD (A B : Int) (k : PK) (d : PyData) : Bool := match k with
  | .g => strD SGS d
  | .r => numD 0 100000 d
  | .n => numD 0 4294967295 d
  | .i => numD 0 (A - 1) d
  | .t => numD 0 (B - 1) d
def sp_is_number (K : PySem.W.Frag) : Sp := fun vs H Q _ => ∃ (x : V) (hi : Int) (d : PyData), vs = [x, .int hi] ∧ Im H x d ∧ Q (.bl (numD 0 hi d)) H
theorem sc_is_number : FnScope ["thing", "most"] ["thing", "most"] (defScope (topS 12)) := ⟨rfl, rfl, rfl, by decide +kernel, rfl, by decide +kernel, by decide +kernel⟩
theorem ok_is_number (T : Txt fa fn K mg (CsOk cs K w)) : Dn P w K mg base CX0 1 "is_number" ["thing", "most"] (sp_is_number K) := by
  refine mk_dn (d := dOf "is_number" 12) T 4 4 rfl rfl rfl rfl rfl sc_is_number (by walk_at "len") (fun _ _ _ _ _ _ us hl => match us, hl with | [_, _], _ => rfl) (fun cdv A outer s H vs Q E hr h => ⟨_, (pss_one (ps_ret (pe_and (pe_callB (c_isi (K := K) rfl) rfl (T.free 28 rfl) (by decide +kernel) (pa_cons (pv 0) (pa_cons (pe_bltn (v := .ty "int") rfl (T.free 27 rfl) (by decide +kernel) rfl) pa_nil))) (pe_and (pe_not (pe_callB (c_isi (K := K) rfl) rfl (T.free 28 rfl) (by decide +kernel) (pa_cons (pv 0) (pa_cons (pe_bltn (v := .ty "bool") rfl (T.free 26 rfl) (by decide +kernel) rfl) pa_nil)))) (pe_one (pe_chain o_le o_le pe_int (pv 0) (pv 1))))))), ?_⟩)
  obtain ⟨x, hi, d, rfl, him, hQ⟩ := h
  cases him with
  | non => walk_at "go"; exact hQ
  | bl b => walk_at "go"; exact hQ
  | str z => walk_at "go"; exact hQ
  | tup h hs =>
    walk_at "go"
    refine m_isiT (.tup h hs) k_ti ?_
    walk_at "go"
    exact hQ
  | int i =>
    walk_at "go"
    refine g_if (fun c => ?_) (fun c => ?_)
    · walk_at "go"
      refine q_bl ?_ hQ
      show (decide (0 ≤ i) && decide (i ≤ hi)) = _
      rw [decide_eq_true c]
      rfl
    · refine q_bl ?_ hQ
      show (decide (0 ≤ i) && decide (i ≤ hi)) = _
      rw [decide_eq_false c]
      rfl
theorem str_not {ks : List Str} {d : PyData} (h : isS d = false) : strD ks d = false := by cases d <;> first | rfl | cases h
def sp_is_text (K : PySem.W.Frag) : Sp := fun vs H Q _ => ∃ (x : V) (p : Addr) (d : PyData) (ks : List Str), vs = [x, .ref p] ∧ Im H x d ∧ SqT K H p (ks.map V.str) ∧ Q (.bl (strD ks d)) H
theorem sc_is_text : FnScope ["thing", "texts"] ["thing", "texts"] (defScope (topS 13)) := ⟨rfl, rfl, rfl, by decide +kernel, rfl, by decide +kernel, by decide +kernel⟩
theorem ok_is_text (T : Txt fa fn K mg (CsOk cs K w)) : Dn P w K mg base CX0 1 "is_text" ["thing", "texts"] (sp_is_text K) := by
  refine mk_dn (d := dOf "is_text" 13) T 5 5 rfl rfl rfl rfl rfl sc_is_text (by walk_at "len") (fun _ _ _ _ _ _ us hl => match us, hl with | [_, _], _ => rfl) (fun cdv A outer s H vs Q E hr h => ⟨_, (pss_one (ps_ret (pe_and (pe_callB (c_isi (K := K) rfl) rfl (T.free 28 rfl) (by decide +kernel) (pa_cons (pv 0) (pa_cons (pe_bltn (v := .ty "str") rfl (T.free 31 rfl) (by decide +kernel) rfl) pa_nil))) (pe_one (pe_cmpR (op_inU (K := K) rfl (hu65 hr)) (pv 0) (pv 1) (by rfl)))))), ?_⟩)
  obtain ⟨x, p, d, ks, rfl, him, hp, hQ⟩ := h
  walk_at "go"
  refine m_isiS him ?_
  walk_at "go"
  refine g_ifB (fun c => ?_) (fun c => ?_)
  · obtain ⟨y, rfl⟩ := isS_inv c
    obtain rfl := him.str_inv
    walk_at "go"
    exact g_inFs hp hQ
  · refine q_bl ?_ hQ
    exact str_not c
theorem mg4 {k1 k2 k3 k4 k : Str} {v1 v2 v3 v4 : V} : valV (mergeK [] [(.inr k1, v1), (.inr k2, v2), (.inr k3, v3), (.inr k4, v4)]) (.inr k : Key) = if k = k4 then some v4 else if k = k3 then some v3 else if k = k2 then some v2 else if k = k1 then some v1 else none := by
  unfold mergeK
  simp only [List.foldl_cons, List.foldl_nil]
  rw [valV_put, valV_put, valV_put, valV_put, valV_nil]
  simp only [Sum.inr.injEq]
theorem g_d4 {A : Prop} {R : List (Key × V) → Prop} {k1 k2 k3 k4 : Str} {v1 v2 v3 v4 : V} (h : A) (q : R [(.inr k1, v1), (.inr k2, v2), (.inr k3, v3), (.inr k4, v4)]) :
    A ∧ ∃ kvs : List (Key × V), [(V.str k1, v1), (V.str k2, v2), (V.str k3, v3), (V.str k4, v4)] = kvs.map (fun kv => (kV kv.1, kv.2)) ∧ kvs.length ≤ 15 ∧ R kvs :=
  ⟨h, [(.inr k1, v1), (.inr k2, v2), (.inr k3, v3), (.inr k4, v4)], rfl, (by show 4 ≤ 15; decide), q⟩
theorem dg_of {H : Hp} {a : Addr} {kvs : List (Key × V)} {k : Str} {v : V} (h : H a = some (.dK kvs)) (e : valV kvs (.inr k) = some v) : DGet H a (.str k) (some v) := by
  rw [← e]
  exact DGet.k (k := .inr k) h
def sp_part_fits (K : PySem.W.Frag) : Sp := fun vs H Q _ => ∃ (k : PK) (z : Str) (x : V) (A B : Int) (d : PyData), vs = [x, .str z, .int A, .int B] ∧ z = k.s ∧ Im H x d ∧ ∀ H', Same H H' → Q (.bl (partD A B k d)) H'
theorem sc_part_fits : FnScope ["thing", "kind", "arrays", "blocks", "bounds"] ["thing", "kind", "arrays", "blocks"] (defScope (topS 14)) := ⟨rfl, rfl, rfl, by decide +kernel, rfl, by decide +kernel, by decide +kernel⟩
theorem ok_part_fits (T : Txt fa fn K mg (CsOk cs K w)) : Dn P w K mg base CX0 2 "part_fits" ["thing", "kind", "arrays", "blocks"] (sp_part_fits K) := by
  refine mk_dn (d := dOf "part_fits" 14) T 6 6 rfl rfl rfl rfl rfl sc_part_fits (by walk_at "len") (fun _ _ _ _ _ _ us hl => match us, hl with | [_, _, _, _], _ => rfl) (fun cdv A outer s H vs Q E hr h => ⟨_, (pss_cons (ps_if (pt_cmpR (op_eqU (K := K) rfl hr.units) (pv 1) pe_str (nomark _)) (pss_one (ps_ret (pe_callD (K := K) rfl (ok_is_text T) (hr.mono (by decide)) rfl pass0 (pa_cons (pv 0) (pa_cons (pe_glob (v := .ref (He.ga K "SIGNS")) rfl (T.glo 36 rfl) rfl) pa_nil))))) pss_nil)
      (pss_cons (ps_set (i := 4) sc_part_fits.nd rfl (.inl rfl) (pe_disp (pps_cons pe_str (pe_gint T rfl 34 rfl rfl) (pps_cons pe_str (pe_op op_sub (pe_gint T rfl 33 rfl rfl) pe_int) (pps_cons pe_str (pe_op op_sub (pv 2) pe_int) (pps_cons pe_str (pe_op op_sub (pv 3) pe_int) pps_nil)))) (by rfl) (by rfl) (fun z => by cases z) (by decide)))
      (pss_one (ps_ret (pe_callD (K := K) rfl (ok_is_number T) (hr.mono (by decide)) rfl pass0 (pa_cons (pv 0) (pa_cons (pe_ixU (K := K) rfl (hu_of hr) (pv 4) (pv 1)) pa_nil))))))), ?_⟩)
  obtain ⟨k, z, x, A, B, d, rfl, hz, him, hQ⟩ := h
  cases k <;> (simp only [PK.s] at hz; subst hz)
  case g =>
    walk_at "go"
    exact ⟨x, _, d, SGS, rfl, him, fz_SIGNS T _, hQ _ (Same.refl H)⟩
  all_goals
    walk_at "go"
    intro m hm
    walk_at "go"
    refine g_d4 upd_same ?_
    rw [upd_upd]
    have sm := fun kvs => Same.new (o := .dK kvs) hm
    walk_at "go"
  case r =>
    refine g_ixD (dg_of upd_same (mg4.trans (by rw [if_neg (by decide), if_neg (by decide), if_neg (by decide), if_pos rfl]))) ?_
    walk_at "go"
    exact ⟨x, _, d, rfl, him.same (sm _), hQ _ (sm _)⟩
  case n =>
    refine g_ixD (dg_of upd_same (mg4.trans (by rw [if_neg (by decide), if_neg (by decide), if_pos rfl]))) ?_
    walk_at "go"
    exact ⟨x, _, d, rfl, him.same (sm _), hQ _ (sm _)⟩
  case i =>
    refine g_ixD (dg_of upd_same (mg4.trans (by rw [if_neg (by decide), if_pos rfl]))) ?_
    walk_at "go"
    exact ⟨x, _, d, rfl, him.same (sm _), hQ _ (sm _)⟩
  case t =>
    refine g_ixD (dg_of upd_same (mg4.trans (by rw [if_pos rfl]))) ?_
    walk_at "go"
    exact ⟨x, _, d, rfl, him.same (sm _), hQ _ (sm _)⟩
/-! rows -/
def shpL : List (Str × List PK) := [("const", [.r, .n]), ("copy", [.r, .r]), ("op", [.g, .r, .r, .r]), ("select", [.r, .r, .r, .r]), ("load", [.r, .i, .r]), ("store", [.i, .r, .r]), ("out", [.r]), ("jump", [.t]), ("branch", [.r, .t, .t]), ("stop", [.r])]
def shp (z : Str) : Option (List PK) := (shpL.find? fun p => decide (p.1 = z)).map (·.2)
theorem ltr_tab : ltr [.r, .n] = "rn" ∧ ltr [.r, .r] = "rr" ∧ ltr [.g, .r, .r, .r] = "grrr" ∧ ltr [.r, .r, .r, .r] = "rrrr" ∧ ltr [.r, .i, .r] = "rir" ∧ ltr [.i, .r, .r] = "irr" ∧ ltr [.r] = "r" ∧ ltr [.t] = "t" ∧ ltr [.r, .t, .t] = "rtt" := by decide +kernel
theorem kv_shp : kv_SHAPES = shpL.map fun p => (p.1, PyData.str (ltr p.2)) := by
  obtain ⟨e1, e2, e3, e4, e5, e6, e7, e8, e9⟩ := ltr_tab
  unfold shpL
  simp only [List.map_cons, List.map_nil]
  rw [e1, e2, e3, e4, e5, e6, e7, e8, e9]
  rfl
theorem shp_some {z : Str} {ks : List PK} (h : shp z = some ks) : (z, ks) ∈ shpL := by
  unfold shp at h
  obtain ⟨p, hp, rfl⟩ := Option.map_eq_some_iff.mp h
  have h1 := List.find?_some hp
  have h2 := List.mem_of_find?_eq_some hp
  have e : p.1 = z := of_decide_eq_true h1
  rw [← e]
  exact h2
theorem shp_none {z : Str} (h : shp z = none) : z ∉ kv_SHAPES.map (·.1) := fun hm => by
  unfold shp at h
  rw [Option.map_eq_none_iff] at h
  rw [kv_shp, List.map_map] at hm
  obtain ⟨p, hp, e⟩ := List.mem_map.mp hm
  exact List.find?_eq_none.mp h p hp (decide_eq_true e)
theorem shp_len : ∀ p ∈ shpL, p.2.length ≤ 4 := by decide
theorem shp_at (T : Txt fa fn K mg (CsOk cs K w)) {z : Str} {ks : List PK} (h : shp z = some ks) : ∃ u : Value, PySem.W.nsIn K (He.ga K "SHAPES") z = some (some u) ∧ RelV (.str (ltr ks)) u := by
  have hm : (z, PyData.str (ltr ks)) ∈ kv_SHAPES := by
    rw [kv_shp]
    exact List.mem_map.mpr ⟨(z, ks), shp_some h, rfl⟩
  obtain ⟨u, v, h1, h2, h3⟩ := T.m.key in_SHAPES hm
  cases h3 (fun _ => none)
  exact ⟨u, h1, h2⟩
theorem shp_keys {z : Str} : strD (kv_SHAPES.map (·.1)) (.str z) = (shp z).isSome := by
  show (kv_SHAPES.map (·.1)).contains z = _
  cases e : shp z with
  | none =>
    have := shp_none e
    rw [Option.isSome_none]
    exact Bool.eq_false_iff.mpr fun q => this (List.contains_iff_mem.mp q)
  | some ks =>
    rw [Option.isSome_some]
    refine List.contains_iff_mem.mpr ?_
    rw [kv_shp, List.map_map]
    exact List.mem_map.mpr ⟨(z, ks), shp_some e, rfl⟩
def partsD (A B : Int) (ks : List PK) (ds : List PyData) : Bool := ((List.range ks.length).map fun i => partD A B (ks.getD i .r) (ds.getD i .none)).all id
def rowD (A B : Int) : PyData → Bool
  | .tuple (.str z :: ds) => (match shp z with
    | some ks => decide (ds.length = ks.length) && partsD A B ks ds
    | none => false)
  | _ => false
theorem row_s {A B : Int} {z : Str} {ds : List PyData} {ks : List PK} (h : shp z = some ks) : rowD A B (.tuple (.str z :: ds)) = (decide (ds.length = ks.length) && partsD A B ks ds) := by
  show (match shp z with
    | some ks => decide (ds.length = ks.length) && partsD A B ks ds
    | none => false) = _
  rw [h]
theorem row_n {A B : Int} {z : Str} {ds : List PyData} (h : shp z = none) : rowD A B (.tuple (.str z :: ds)) = false := by
  show (match shp z with
    | some ks => decide (ds.length = ks.length) && partsD A B ks ds
    | none => false) = _
  rw [h]
theorem eqv_nil {ds : List PyData} : PyData.eqv (.tuple ds) (.tuple []) = ds.isEmpty := by
  unfold PyData.eqv
  cases ds with
  | nil => unfold PyData.eqvAll; rfl
  | cons d ds => unfold PyData.eqvAll; rfl
theorem row_notT {A B : Int} {d : PyData} (h : isT d = false) : rowD A B d = false := by
  unfold rowD
  split
  · cases h
  · rfl
theorem row_notS {A B : Int} {e : PyData} {ds : List PyData} (h : strD (kv_SHAPES.map (·.1)) e = false) : rowD A B (.tuple (e :: ds)) = false := by
  cases e with
  | str z =>
    rw [shp_keys] at h
    refine row_n ?_
    cases q : shp z with
    | none => rfl
    | some ks =>
      rw [q] at h
      cases h
  | _ => rfl
theorem lay_nil : SeqAt.shaped (.tuple []) = true := by decide +kernel
/-- a comprehension of truths over a range -/
theorem l_askR {σ : L2.St} {H : Hp} {te : TE} {k n : Nat} {lo : Int} {vs : List Nat} {f : Nat → Bool} {Q : VK} (hn : n ≤ 10000) (hwp : ∀ x : V, wipe ((wipe σ vs).set k (some x)) vs = wipe σ vs)
    (step : ∀ (i : Nat) (H' : Hp) (R : VK), i < n → Same H H' → (∀ H2, Same H' H2 → R (.bl (f i)) H2) → te ((wipe σ vs).set k (some (.int (lo + i)))) H' R)
    (q : ∀ D H', Same H H' → H' D = some (.lst (((List.range n).map f).map V.bl)) → Q (.ref D) H') : LcW (gName k) tYes te vs σ Q (Itr lo n) H := by
  refine l_range (fun D i H' => H' D = some (.lst (((List.range i).map f).map V.bl)) ∧ Same H H') (fun D hD => ⟨upd_same, Same.new hD⟩) ?_ ?_
  · rintro D hD i H' hi ⟨hD', sm⟩
    refine g_name (g_wipe (hwp _) (g_yes (g_ifT ?_)))
    refine step i H' _ hi sm (fun H2 sm2 => ⟨_, sm2 _ _ hD', by
      refine szl ?_
      rw [List.length_map, List.length_map, List.length_range]
      omega, ?_, Same.mut (sm.trans sm2) hD⟩)
    rw [upd_same, List.range_succ, List.map_append, List.map_append]
    rfl
  · rintro D hD H' ⟨hD', sm⟩
    exact q D H' sm hD'
theorem g_ixS {K : PySem.W.Frag} {H : Hp} {Q : VK} {z : Str} {i : Int} {n c : Nat} (hz : z.length ≤ sizeLine) (e : i = (n : Int)) (hc : z.cps.toList[n]? = some c) (q : Q (.str ⟨#[c]⟩) H) : rIxU K (.str z) (.int i) H Q :=
  .inr (.inr (.inl ⟨z, i, c, rfl, rfl, hz, by rw [e]; exact atI_nat hc, q⟩))
def sp_is_row (K : PySem.W.Frag) : Sp := fun vs H Q _ => ∃ (x : V) (A B : Int) (d : PyData), vs = [x, .int A, .int B] ∧ Im H x d ∧ Lay 9 d ∧ ∀ H', Same H H' → Q (.bl (rowD A B d)) H'
theorem sc_is_row : FnScope ["thing", "arrays", "blocks", "shape", "at"] ["thing", "arrays", "blocks"] (defScope (topS 15)) := ⟨rfl, rfl, rfl, by decide +kernel, rfl, by decide +kernel, by decide +kernel⟩
theorem ok_is_row (T : Txt fa fn K mg (CsOk cs K w)) : Dn P w K mg base CX0 3 "is_row" ["thing", "arrays", "blocks"] (sp_is_row K) := by
  refine mk_dn (d := dOf "is_row" 15) T 7 7 rfl rfl rfl rfl rfl sc_is_row (by walk_at "len") (fun _ _ _ _ _ _ us hl => match us, hl with | [_, _, _], _ => rfl) (fun cdv A outer s H vs Q E hr h => ⟨_, (pss_cons (ps_if (PW.pt (pw_or (pt_not (pt_tru (K := K) rfl (pe_callB (c_isi (K := K) rfl) rfl (T.free 28 rfl) (by decide +kernel) (pa_cons (pv 0) (pa_cons (pe_bltn (v := .ty "tuple") rfl (T.free 32 rfl) (by decide +kernel) rfl) pa_nil))))) (pw_or (pt_cmpR (op_eqU (K := K) rfl hr.units) (pv 0) (pe_tup pa_nil) (nomark _)) (pw_or1 (pt_not (pt_tru (K := K) rfl (pe_callD (K := K) rfl (ok_is_text T) (hr.mono (by decide)) rfl pass0 (pa_cons (pe_ixU (K := K) rfl (hu_of hr) (pv 0) pe_int) (pa_cons (pe_tupG (K := K) rfl rfl T.m in_SHAPES (by decide) rfl rfl (T.free 32 rfl) (pe_glob (v := .ref (He.ga K "SHAPES")) rfl (T.glo 38 rfl) rfl)) pa_nil))))))))) (pss_one (ps_ret pe_bl)) pss_nil)
      (pss_cons (ps_set (i := 3) sc_is_row.nd rfl (.inr rfl) (pe_ixG (K := K) rfl rfl T.m in_SHAPES (pe_glob (v := .ref (He.ga K "SHAPES")) rfl (T.glo 38 rfl) rfl) (pe_ixU (K := K) rfl (hu_of hr) (pv 0) pe_int)))
      (pss_cons (ps_if (pt_cmpR (op_neU (K := K) rfl hr.units) (pe_callB (c_len (K := K) rfl) rfl (T.free 29 rfl) (by decide +kernel) (pa_cons (pv 0) pa_nil)) (pe_op (op_addU (K := K) rfl) (pe_callB (c_len (K := K) rfl) rfl (T.free 29 rfl) (by decide +kernel) (pa_cons (pv 3) pa_nil)) pe_int) (nomark _)) (pss_one (ps_ret pe_bl)) pss_nil)
      (pss_one (ps_ret (pe_callB (c_all (K := K) rfl rfl) rfl (T.free 24 rfl) (by decide +kernel) (pa_cons (pe_lc rfl sc_is_row.nd (pi_r1 rfl (T.free 30 rfl) (pa_cons (pe_callB (c_len (K := K) rfl) rfl (T.free 29 rfl) (by decide +kernel) (pa_cons (pv 3) pa_nil)) pa_nil)) (blkOk_by (own := [("at", 4)]) (N := ["thing", "arrays", "blocks", "shape", "at"]) (sc := defScope (topS 15)) (by decide +kernel)) (fun _ _ _ _ _ => (pg_name (i := 4) sc_is_row.nd rfl (.inl rfl))) (fun _ _ _ _ _ => pts_nil) (fun _ _ _ _ _ => (pe_callD (K := K) rfl (ok_part_fits T) (hr.mono (by decide)) rfl pass0 (pa_cons (pe_ixU (K := K) rfl (hu_of hr) (pv 0) (pe_op (op_addU (K := K) rfl) (pv 4) pe_int)) (pa_cons (pe_ixU (K := K) rfl (hu_of hr) (pv 3) (pv 4)) (pa_cons (pv 1) (pa_cons (pv 2) pa_nil))))))) pa_nil))))))), ?_⟩)
  obtain ⟨x, A, B, d, rfl, him, ly, hQ⟩ := h
  walk_at "go"
  refine m_isiU him ?_
  walk_at "go"
  refine g_ifBn (fun c => ?_) (fun c => ?_)
  · walk_at "go"
    rw [← row_notT c]
    exact hQ _ (Same.refl H)
  obtain ⟨ds, rfl⟩ := isT_inv c
  walk_at "go"
  refine m_new (ds := []) .nil (by simp) (fun p1 H1 s1 hp1 i1 => ?_)
  have him1 := him.same s1
  refine m_eq him1 i1 (ly.shaped (by decide)) lay_nil ?_
  rw [eqv_nil]
  walk_at "go"
  cases ds with
  | nil =>
    refine g_ifT ?_
    walk_at "go"
    exact hQ _ s1
  | cons e ds =>
    refine g_ifF ?_
    walk_at "go"
    refine m_ix him1 (n := 0) rfl rfl (fun v hv => ?_)
    walk_at "go"
    refine g_tupG ?_
    walk_at "go"
    refine ⟨rfl, fun q hq => ?_⟩
    have sq := Same.new (o := .tup ((kv_SHAPES.map (·.1)).map V.str)) hq
    have s12 := s1.trans sq
    have him2 := him1.same sq
    walk_at "go"
    refine ⟨v, q, e, kv_SHAPES.map (·.1), rfl, hv.same sq, SqT.of upd_same, ?_⟩
    walk_at "go"
    refine g_ifBn (fun c2 => ?_) (fun c2 => ?_)
    · walk_at "go"
      rw [← row_notS c2]
      exact hQ _ s12
    obtain ⟨z, rfl⟩ : ∃ z, e = .str z := by
      cases e <;> first | exact ⟨_, rfl⟩ | cases c2
    rw [shp_keys] at c2
    obtain ⟨ks, hs⟩ := Option.isSome_iff_exists.mp c2
    obtain ⟨u, h1, h2⟩ := shp_at T hs
    have klen : ks.length ≤ 4 := shp_len _ (shp_some hs)
    have hQ : ∀ H', Same H H' → Q (.bl (decide (ds.length = ks.length) && partsD A B ks ds)) H' := fun H' s => by
      rw [← row_s hs]
      exact hQ H' s
    walk_at "go"
    refine m_ix him2 (n := 0) rfl rfl (fun v hv => ?_)
    obtain rfl := hv.str_inv
    walk_at "go"
    refine g_ixG h1 h2 ?_
    walk_at "go"
    refine m_len him2 ?_
    walk_at "go"
    refine g_lenS (by rw [ltr_len]; exact szle (by omega)) ?_
    rw [ltr_len, List.length_cons]
    walk_at "go"
    refine g_ifN (fun c3 => ?_) (fun c3 => ?_)
    · walk_at "go"
      refine q_bl ?_ (hQ _ s12)
      rw [decide_eq_false (by omega)]
      rfl
    rw [decide_eq_true (by omega : ds.length = ks.length)] at hQ
    walk_at "go"
    refine g_lenS (by rw [ltr_len]; exact szle (by omega)) ?_
    rw [ltr_len]
    walk_at "go"
    rw [Int.toNat_natCast]
    refine l_askR (f := fun i => partD A B (ks.getD i .r) (ds.getD i .none)) (by omega) (fun _ => rfl) (fun i H2 R hi s2 hR => ?_) (fun D H2 s2 hD => ?_)
    · have g1 : ks[i]? = some (ks.getD i .r) := by rw [List.getD_eq_getElem?_getD, List.getElem?_eq_getElem hi]; rfl
      have g2 : ds[i]? = some (ds.getD i .none) := by rw [List.getD_eq_getElem?_getD, List.getElem?_eq_getElem (by omega)]; rfl
      have e0 : (0 : Int) + (i : Int) = (i : Int) := by omega
      walk_at "go"
      refine m_ix (him2.same s2) (n := i + 1) (by omega) (by rw [List.getElem?_cons_succ]; exact g2) (fun v hv => ?_)
      walk_at "go"
      rw [e0]
      refine g_ixS (n := i) (by rw [ltr_len]; exact szle (by omega)) rfl (c := (ks.getD i .r).c) (by rw [ltr_list, List.getElem?_map, g1]; rfl) ?_
      walk_at "go"
      exact ⟨ks.getD i .r, _, v, A, B, _, rfl, l_c _, hv, fun H3 s3 => hR H3 s3⟩
    · walk_at "go"
      refine g_all (SqL.of hD) ?_
      exact hQ _ (s12.trans s2)


/-! ### k60: blocks, arrays, programs -/
theorem all_map_id {α : Type} (f : α → Bool) (l : List α) : (l.map f).all id = l.all f := by
  rw [List.all_map]
  rfl
/-- a comprehension that asks each item -/
theorem l_ask {K : PySem.W.Frag} {σ : L2.St} {H : Hp} {te : TE} {k : Nat} {vs : List Nat} {a : Addr} {xs : List V} {ds : List PyData} {f : PyData → Bool} {Q : VK} (ha : H a = some (.tup xs)) (hs : Ims H xs ds) (hl : ds.length ≤ 1000)
    (hwp : ∀ x : V, wipe ((wipe σ vs).set k (some x)) vs = wipe σ vs)
    (step : ∀ (i : Nat) (d : PyData) (y : V) (H' : Hp) (Q' : VK), ds[i]? = some d → xs[i]? = some y → Same H H' → Im H' y d → (∀ H2, Same H' H2 → Q' (.bl (f d)) H2) → te ((wipe σ vs).set k (some y)) H' Q')
    (q : ∀ D H', Same H H' → H' D = some (.lst ((ds.map f).map V.bl)) → Q (.ref D) H') : LcW (gName k) tYes te vs σ Q (Itt K a) H := by
  have hlen := hs.length
  refine l_tup (xs := xs) (fun D i H' => H' D = some (.lst (((ds.take i).map f).map V.bl)) ∧ Same H H') (fun D hD => ⟨upd_same, Same.new hD⟩) ?_ ?_ ?_
  · rintro D hD i H' hi ⟨hD', sm⟩
    exact SqT.of (sm _ _ ha)
  · rintro D hD i y H' hi ⟨hD', sm⟩
    obtain ⟨hlt, _⟩ := List.getElem?_eq_some_iff.mp hi
    have hd : ds[i]? = some (ds[i]'(by omega)) := List.getElem?_eq_getElem _
    generalize ds[i]'(by omega) = dv at hd
    obtain ⟨y', hy', hiy⟩ := hs.get hd
    rw [hi] at hy'
    cases hy'
    refine g_name (g_wipe (hwp _) (g_yes (g_ifT ?_)))
    refine step i dv y H' _ hd hi sm (hiy.same sm) (fun H2 sm2 => ⟨_, sm2 _ _ hD', by
      refine szl ?_
      rw [List.length_map, List.length_map, List.length_take]
      omega, ?_, Same.mut (sm.trans sm2) hD⟩)
    rw [upd_same, map_take_succ hd, List.map_append]
    rfl
  · rintro D hD H' ⟨hD', sm⟩
    refine q D H' sm ?_
    rw [hlen, List.take_length] at hD'
    exact hD'
theorem m_last {K : PySem.W.Frag} {H : Hp} {Q : VK} {x : V} {ds : List PyData} {d : PyData} (h : Im H x (.tuple ds)) (hl : 0 < ds.length) (hd : ds[ds.length - 1]? = some d) (k : ∀ v, Im H v d → Q v H) : rIxU K x (.int (-1)) H Q := by
  obtain ⟨a, xs, rfl, h1, h2⟩ := h.tup_inv
  obtain ⟨v, hv, hm⟩ := h2.get hd
  have l := h2.length
  refine g_ixT' (SqT.of h1) (v := v) ?_ (k v hm)
  show (ixN _ (-1)).bind _ = _
  unfold ixN
  rw [if_neg (by decide), if_pos (by omega)]
  have e : ((-1 : Int) + (xs.length : Int)).toNat = ds.length - 1 := by omega
  show xs[((-1 : Int) + (xs.length : Int)).toNat]? = _
  rw [e]
  exact hv
def endR : PyData → Bool
  | .tuple (e :: _) => strD ENS e
  | _ => false
def blockD (A B : Int) : PyData → Bool
  | .tuple rows => decide (1 ≤ rows.length) && (List.range rows.length).all fun i => rowD A B (rows.getD i .none) && (endR (rows.getD i .none) == decide (i + 1 = rows.length))
  | _ => false
section
variable {A B : Int} {rows : List PyData} {d dl : PyData}
theorem blk_iff : blockD A B (.tuple rows) = true ↔ 1 ≤ rows.length ∧ ∀ i d, rows[i]? = some d → rowD A B d = true ∧ endR d = decide (i + 1 = rows.length) := by
  show (decide (1 ≤ rows.length) && (List.range rows.length).all fun i => rowD A B (rows.getD i .none) && (endR (rows.getD i .none) == decide (i + 1 = rows.length))) = true ↔ _
  rw [Bool.and_eq_true, decide_eq_true_eq, List.all_eq_true]
  refine and_congr Iff.rfl ⟨fun h i d hd => ?_, fun h i hi => ?_⟩
  · have hi := (List.getElem?_eq_some_iff.mp hd).1
    have z := h i (List.mem_range.mpr hi)
    rw [List.getD_eq_getElem?_getD, hd, Bool.and_eq_true, beq_iff_eq] at z
    exact z
  · have hi := List.mem_range.mp hi
    have e := List.getElem?_eq_getElem hi
    rw [List.getD_eq_getElem?_getD, e, Bool.and_eq_true, beq_iff_eq]
    exact h i _ e
theorem blk_not (h : isT d = false) : blockD A B d = false := by cases d <;> first | (cases h; done) | rfl
theorem blk_no (h : rows.all (rowD A B) = false) : blockD A B (.tuple rows) = false := by
  refine Bool.eq_false_iff.mpr fun e => ?_
  have z := (blk_iff.mp e).2
  have : rows.all (rowD A B) = true := List.all_eq_true.mpr fun d hd => by
    obtain ⟨i, hi⟩ := List.mem_iff_getElem?.mp hd
    exact (z i d hi).1
  rw [h] at this
  cases this
theorem blk_yes (hr : rows.all (rowD A B) = true) (hd : rows[rows.length - 1]? = some dl) : blockD A B (.tuple rows) = (endR dl && !((rows.take (rows.length - 1)).any endR)) := by
  have hl := (List.getElem?_eq_some_iff.mp hd).1
  rw [Bool.eq_iff_iff, blk_iff, Bool.and_eq_true, Bool.not_eq_true', List.any_eq_false]
  constructor
  · rintro ⟨_, h⟩
    refine ⟨?_, fun d hdm => ?_⟩
    · rw [(h _ _ hd).2]
      exact decide_eq_true (by omega)
    · obtain ⟨i, hi⟩ := List.mem_iff_getElem?.mp hdm
      have hlt := (List.getElem?_eq_some_iff.mp hi).1
      rw [List.length_take] at hlt
      rw [List.getElem?_take_of_lt (by omega)] at hi
      rw [(h i d hi).2, decide_eq_false (by omega)]
      exact Bool.false_ne_true
  · rintro ⟨h1, h2⟩
    refine ⟨by omega, fun i d hi => ⟨List.all_eq_true.mp hr d (List.mem_of_getElem? hi), ?_⟩⟩
    have hlt := (List.getElem?_eq_some_iff.mp hi).1
    by_cases c : i + 1 = rows.length
    · have e : i = rows.length - 1 := by omega
      rw [e, hd] at hi
      cases hi
      rw [h1, decide_eq_true c]
    · rw [decide_eq_false c]
      have hm : d ∈ rows.take (rows.length - 1) := List.mem_iff_getElem?.mpr ⟨i, by rw [List.getElem?_take_of_lt (by omega)]; exact hi⟩
      exact Bool.eq_false_iff.mpr (h2 d hm)
theorem cutD_but (h : 1 ≤ rows.length) : G.cutD rows none (some (-1)) = rows.take (rows.length - 1) := by
  unfold G.cutD
  have e : HT.sIx rows.length rows.length (some (-1)) = rows.length - 1 := by
    show (if (-1 : Int) < 0 then (-1 + (rows.length : Int)).toNat else min (-1 : Int).toNat rows.length) = _
    rw [if_pos (by decide)]
    omega
  rw [e, HT.sIx_none, List.drop_zero, Nat.sub_zero]
theorem row_shape (h : rowD A B d = true) : ∃ z ds, d = .tuple (.str z :: ds) := by
  unfold rowD at h
  split at h
  · exact ⟨_, _, rfl⟩
  · cases h
end
def sp_is_block (K : PySem.W.Frag) : Sp := fun vs H Q _ => ∃ (x : V) (A B : Int) (d : PyData), vs = [x, .int A, .int B] ∧ Im H x d ∧ Wd 1000 9 d ∧ ∀ H', Same H H' → Q (.bl (blockD A B d)) H'
theorem sc_is_block : FnScope ["thing", "arrays", "blocks", "row"] ["thing", "arrays", "blocks"] (defScope (topS 16)) := ⟨rfl, rfl, rfl, by decide +kernel, rfl, by decide +kernel, by decide +kernel⟩
theorem ok_is_block (T : Txt fa fn K mg (CsOk cs K w)) : Dn P w K mg base CX0 4 "is_block" ["thing", "arrays", "blocks"] (sp_is_block K) := by
  refine mk_dn (d := dOf "is_block" 16) T 8 8 rfl rfl rfl rfl rfl sc_is_block (by walk_at "len") (fun _ _ _ _ _ _ us hl => match us, hl with | [_, _, _], _ => rfl) (fun cdv A outer s H vs Q E hr h => ⟨_, (pss_cons (ps_if (PW.pt (pw_or (pt_not (pt_tru (K := K) rfl (pe_callB (c_isi (K := K) rfl) rfl (T.free 28 rfl) (by decide +kernel) (pa_cons (pv 0) (pa_cons (pe_bltn (v := .ty "tuple") rfl (T.free 32 rfl) (by decide +kernel) rfl) pa_nil))))) (pw_or1 (pt_cmpR (op_eqU (K := K) rfl hr.units) (pv 0) (pe_tup pa_nil) (nomark _))))) (pss_one (ps_ret pe_bl)) pss_nil)
      (pss_cons (ps_if (pt_not (pt_tru (K := K) rfl (pe_callB (c_all (K := K) rfl rfl) rfl (T.free 24 rfl) (by decide +kernel) (pa_cons (pe_lc rfl sc_is_block.nd (pi_seq (K := K) rfl (pv 0)) (blkOk_by (own := [("row", 3)]) (N := ["thing", "arrays", "blocks", "row"]) (sc := defScope (topS 16)) (by decide +kernel)) (fun _ _ _ _ _ => (pg_name (i := 3) sc_is_block.nd rfl (.inl rfl))) (fun _ _ _ _ _ => pts_nil) (fun _ _ _ _ _ => (pe_callD (K := K) rfl (ok_is_row T) (hr.mono (by decide)) rfl pass0 (pa_cons (pv 3) (pa_cons (pv 1) (pa_cons (pv 2) pa_nil)))))) pa_nil)))) (pss_one (ps_ret pe_bl)) pss_nil)
      (pss_one (ps_ret (pe_and (pe_cmpR (op_inU (K := K) rfl (hu65 hr)) (pe_ixU (K := K) rfl (hu_of hr) (pe_ixU (K := K) rfl (hu_of hr) (pv 0) (pe_un un_neg pe_int)) pe_int) (pe_glob (v := .ref (He.ga K "ENDS")) rfl (T.glo 39 rfl) rfl) (by rfl)) (pe_one (pe_not (pe_callB (c_any (K := K) rfl rfl) rfl (T.free 25 rfl) (by decide +kernel) (pa_cons (pe_lc rfl sc_is_block.nd (pi_seq (K := K) rfl (pe_slice (sl_U (K := K) rfl) (pv 0) po_none (po_some (pe_un un_neg pe_int)))) (blkOk_by (own := [("row", 3)]) (N := ["thing", "arrays", "blocks", "row"]) (sc := defScope (topS 16)) (by decide +kernel)) (fun _ _ _ _ _ => (pg_name (i := 3) sc_is_block.nd rfl (.inl rfl))) (fun _ _ _ _ _ => pts_nil) (fun _ _ _ _ _ => (pe_cmpR (op_inU (K := K) rfl (hu65 hr)) (pe_ixU (K := K) rfl (hu_of hr) (pv 3) pe_int) (pe_glob (v := .ref (He.ga K "ENDS")) rfl (T.glo 39 rfl) rfl) (by rfl)))) pa_nil))))))))), ?_⟩)
  obtain ⟨x, A, B, d, rfl, him, wd, hQ⟩ := h
  walk_at "go"
  refine m_isiU him ?_
  walk_at "go"
  refine g_ifBn (fun c => ?_) (fun c => ?_)
  · walk_at "go"
    exact q_bl (blk_not c) (hQ _ (Same.refl H))
  obtain ⟨rows, rfl⟩ := isT_inv c
  have rl := wd.1
  walk_at "go"
  refine m_new (ds := []) .nil (by simp) (fun p1 H1 s1 hp1 i1 => ?_)
  have him1 := him.same s1
  refine m_eq him1 i1 (wd.lay.shaped (by decide)) lay_nil ?_
  rw [eqv_nil]
  walk_at "go"
  refine g_ifB (fun c2 => ?_) (fun c2 => ?_)
  · walk_at "go"
    have e : rows = [] := List.isEmpty_iff.mp c2
    subst e
    exact hQ _ s1
  have hl : 1 ≤ rows.length := by
    cases rows with
    | nil => cases c2
    | cons _ _ => exact Nat.succ_le_succ (Nat.zero_le _)
  walk_at "go"
  refine m_seq him1 (fun a xs e ha hs => ?_)
  subst e
  refine l_ask (f := rowD A B) ha hs rl (fun _ => rfl) (fun i dv y H5 Q' hd hy s5 hiy hq => ?_) (fun D H5 s5 hD => ?_)
  · walk_at "go"
    exact ⟨y, A, B, dv, rfl, hiy, (wd.2 _ (List.mem_of_getElem? hd)).lay.mono (by decide), fun H6 s6 => hq H6 s6⟩
  have him5 := him1.same s5
  have s15 := s1.trans s5
  walk_at "go"
  refine g_all (SqL.of hD) ?_
  rw [all_map_id]
  walk_at "go"
  refine g_ifBn (fun c6 => ?_) (fun c6 => ?_)
  · walk_at "go"
    exact q_bl (blk_no c6) (hQ _ s15)
  have hlast : rows[rows.length - 1]? = some (rows[rows.length - 1]'(by omega)) := List.getElem?_eq_getElem _
  generalize rows[rows.length - 1]'(by omega) = dl at hlast
  obtain ⟨z, es, rfl⟩ := row_shape (List.all_eq_true.mp c6 dl (List.mem_of_getElem? hlast))
  rw [blk_yes c6 hlast] at hQ
  walk_at "go"
  refine m_last him5 (by omega) hlast (fun v3 hv3 => ?_)
  walk_at "go"
  refine m_ix hv3 (n := 0) rfl rfl (fun v4 hv4 => ?_)
  obtain rfl := hv4.str_inv
  walk_at "go"
  refine g_inFs (fz_ENDS T _) ?_
  walk_at "go"
  refine g_ifB (fun c7 => ?_) (fun c7 => ?_)
  · have e7 : endR (.tuple (.str z :: es)) = true := c7
    rw [e7, Bool.true_and] at hQ
    walk_at "go"
    refine m_sl him5 (fun p6 H6 s6 i6 => ?_)
    rw [cutD_but hl] at i6
    refine m_seq i6 (fun b ys e hb hbs => ?_)
    cases e
    refine l_ask (f := endR) hb hbs (by rw [List.length_take]; omega) (fun _ => rfl) (fun i dv y H7 Q' hd hy s7 hiy hq => ?_) (fun D H7 s7 hD => ?_)
    · obtain ⟨z, es, rfl⟩ := row_shape (List.all_eq_true.mp c6 dv (List.mem_of_mem_take (List.mem_of_getElem? hd)))
      walk_at "go"
      refine m_ix hiy (n := 0) rfl rfl (fun v4 hv4 => ?_)
      obtain rfl := hv4.str_inv
      walk_at "go"
      exact g_inFs (fz_ENDS T _) (hq _ (Same.refl _))
    · walk_at "go"
      refine g_any (SqL.of hD) ?_
      rw [List.any_map]
      walk_at "go"
      exact hQ _ ((s15.trans s6).trans s7)
  · refine q_bl ?_ (hQ _ s15)
    have e7 : endR (.tuple (.str z :: es)) = false := c7
    rw [e7, Bool.false_and]
/-! arrays -/
def arrD : PyData → Bool
  | .tuple [z, n, l] => isS z && (numD 1 64 n && strD LAB l)
  | _ => false
theorem arr_not {d : PyData} (h : lenI 3 d = false) : arrD d = false := by
  unfold arrD
  split
  · cases h
  · rfl
theorem num_1 {n : PyData} (h : numD 0 64 n = false) : numD 1 64 n = false := by
  cases n <;> first | rfl | skip
  rename_i i
  have h : (decide (0 ≤ i) && decide (i ≤ 64)) = false := h
  show (decide (1 ≤ i) && decide (i ≤ 64)) = false
  rw [Bool.eq_false_iff] at h ⊢
  simp only [ne_eq, Bool.and_eq_true, decide_eq_true_eq] at h ⊢
  omega
theorem num_2 {i : Int} (h : numD 0 64 (.int i) = true) : numD 1 64 (.int i) = decide (i > 0) := by
  have h : (decide (0 ≤ i) && decide (i ≤ 64)) = true := h
  show (decide (1 ≤ i) && decide (i ≤ 64)) = _
  rw [Bool.eq_iff_iff]
  simp only [Bool.and_eq_true, decide_eq_true_eq] at h ⊢
  omega
def sp_is_array (K : PySem.W.Frag) : Sp := fun vs H Q _ => ∃ (x : V) (d : PyData), vs = [x] ∧ Im H x d ∧ Q (.bl (arrD d)) H
theorem sc_is_array : FnScope ["thing"] ["thing"] (defScope (topS 17)) := ⟨rfl, rfl, rfl, by decide +kernel, rfl, by decide +kernel, by decide +kernel⟩
theorem ok_is_array (T : Txt fa fn K mg (CsOk cs K w)) : Dn P w K mg base CX0 2 "is_array" ["thing"] (sp_is_array K) := by
  refine mk_dn (d := dOf "is_array" 17) T 9 9 rfl rfl rfl rfl rfl sc_is_array (by walk_at "len") (fun _ _ _ _ _ _ us hl => match us, hl with | [_], _ => rfl) (fun cdv A outer s H vs Q E hr h => ⟨_, (pss_cons (ps_if (PW.pt (pw_or (pt_not (pt_tru (K := K) rfl (pe_callB (c_isi (K := K) rfl) rfl (T.free 28 rfl) (by decide +kernel) (pa_cons (pv 0) (pa_cons (pe_bltn (v := .ty "tuple") rfl (T.free 32 rfl) (by decide +kernel) rfl) pa_nil))))) (pw_or (pt_cmpR (op_neU (K := K) rfl hr.units) (pe_callB (c_len (K := K) rfl) rfl (T.free 29 rfl) (by decide +kernel) (pa_cons (pv 0) pa_nil)) pe_int (nomark _)) (pw_or1 (pt_not (pt_tru (K := K) rfl (pe_callB (c_isi (K := K) rfl) rfl (T.free 28 rfl) (by decide +kernel) (pa_cons (pe_ixU (K := K) rfl (hu_of hr) (pv 0) pe_int) (pa_cons (pe_bltn (v := .ty "str") rfl (T.free 31 rfl) (by decide +kernel) rfl) pa_nil))))))))) (pss_one (ps_ret pe_bl)) pss_nil)
      (pss_one (ps_ret (pe_and (pe_callD (K := K) rfl (ok_is_number T) (hr.mono (by decide)) rfl pass0 (pa_cons (pe_ixU (K := K) rfl (hu_of hr) (pv 0) pe_int) (pa_cons (pe_gint T rfl 35 rfl rfl) pa_nil))) (pe_and (pe_cmpR o_gt (pe_ixU (K := K) rfl (hu_of hr) (pv 0) pe_int) pe_int (nomark _)) (pe_one (pe_callD (K := K) rfl (ok_is_text T) (hr.mono (by decide)) rfl pass0 (pa_cons (pe_ixU (K := K) rfl (hu_of hr) (pv 0) pe_int) (pa_cons (pe_glob (v := .ref (He.ga K "LABELS")) rfl (T.glo 37 rfl) rfl) pa_nil))))))))), ?_⟩)
  obtain ⟨x, d, rfl, him, hQ⟩ := h
  walk_at "go"
  refine m_isiU him ?_
  walk_at "go"
  refine g_ifBn (fun c => ?_) (fun c => ?_)
  · walk_at "go"
    refine q_bl (arr_not ?_) hQ
    unfold lenI
    split
    · cases c
    · rfl
  obtain ⟨ds, rfl⟩ := isT_inv c
  walk_at "go"
  refine m_len him ?_
  walk_at "go"
  refine g_ifN (fun c2 => ?_) (fun c2 => ?_)
  · walk_at "go"
    exact q_bl (arr_not (d := .tuple ds) (decide_eq_false c2)) hQ
  obtain ⟨z, n, l, ed⟩ := len3 (d := .tuple ds) (decide_eq_true c2)
  rw [ed] at him hQ
  have hQ : Q (.bl (isS z && (numD 1 64 n && strD LAB l))) H := hQ
  walk_at "go"
  refine m_ix him (n := 0) rfl rfl (fun v1 hv1 => ?_)
  walk_at "go"
  refine m_isiS hv1 ?_
  walk_at "go"
  refine g_ifBn (fun c3 => ?_) (fun c3 => ?_)
  · walk_at "go"
    rw [c3] at hQ
    exact hQ
  rw [c3, Bool.true_and] at hQ
  walk_at "go"
  refine m_ix him (n := 1) rfl rfl (fun v2 hv2 => ?_)
  walk_at "go"
  refine ⟨v2, 64, n, rfl, hv2, ?_⟩
  walk_at "go"
  refine g_ifB (fun c4 => ?_) (fun c4 => ?_)
  · obtain ⟨i, rfl, _, _⟩ := num_inv c4
    rw [num_2 c4] at hQ
    walk_at "go"
    refine m_ix him (n := 1) rfl rfl (fun v2 hv2 => ?_)
    obtain rfl := hv2.int_inv
    walk_at "go"
    refine g_if (fun c5 => ?_) (fun c5 => ?_)
    · rw [decide_eq_true c5, Bool.true_and] at hQ
      walk_at "go"
      refine m_ix him (n := 2) rfl rfl (fun v3 hv3 => ?_)
      walk_at "go"
      exact ⟨v3, _, l, LAB, rfl, hv3, fz_LABELS T _, hQ⟩
    · rw [decide_eq_false c5, Bool.false_and] at hQ
      exact hQ
  · rw [num_1 c4, Bool.false_and] at hQ
    exact hQ
/-! programs -/
def irB : PyData → Bool
  | .tuple [.tuple as, p, .tuple bs] => decide (1 ≤ bs.length) && (as.all arrD && (numD 0 100001 p && bs.all (blockD as.length bs.length)))
  | _ => false
theorem ir_not {d : PyData} (h : lenI 3 d = false) : irB d = false := by
  unfold irB
  split
  · cases h
  · rfl
theorem ir_a {a p b : PyData} (h : isT a = false) : irB (.tuple [a, p, b]) = false := by
  cases a <;> first | (cases h; done) | rfl
theorem ir_b {a p b : PyData} (h : isT b = false) : irB (.tuple [a, p, b]) = false := by
  cases b <;> first | (cases h; done) | (cases a <;> rfl)
def sp_is_ir (K : PySem.W.Frag) : Sp := fun vs H Q _ => ∃ (x : V) (d : PyData), vs = [x] ∧ Im H x d ∧ Wd 1000 9 d ∧ ∀ H', Same H H' → Q (.bl (irB d)) H'
theorem sc_is_ir : FnScope ["thing", "arrays", "params", "blocks", "block", "one"] ["thing"] (defScope (topS 18)) := ⟨rfl, rfl, rfl, by decide +kernel, rfl, by decide +kernel, by decide +kernel⟩
theorem ok_is_ir (T : Txt fa fn K mg (CsOk cs K w)) : Dn P w K mg base CX0 5 "is_ir" ["thing"] (sp_is_ir K) := by
  refine mk_dn (d := dOf "is_ir" 18) T 10 10 rfl rfl rfl rfl rfl sc_is_ir (by walk_at "len") (fun _ _ _ _ _ _ us hl => match us, hl with | [_], _ => rfl) (fun cdv A outer s H vs Q E hr h => ⟨_, (pss_cons (ps_if (PW.pt (pw_or (pt_not (pt_tru (K := K) rfl (pe_callB (c_isi (K := K) rfl) rfl (T.free 28 rfl) (by decide +kernel) (pa_cons (pv 0) (pa_cons (pe_bltn (v := .ty "tuple") rfl (T.free 32 rfl) (by decide +kernel) rfl) pa_nil))))) (pw_or1 (pt_cmpR (op_neU (K := K) rfl hr.units) (pe_callB (c_len (K := K) rfl) rfl (T.free 29 rfl) (by decide +kernel) (pa_cons (pv 0) pa_nil)) pe_int (nomark _))))) (pss_one (ps_ret pe_bl)) pss_nil)
      (pss_cons (ps_asg (pv 0) (pg_tup rfl (pgs_cons (pg_name (i := 1) sc_is_ir.nd rfl (.inr rfl)) (pgs_cons (pg_name (i := 2) sc_is_ir.nd rfl (.inl rfl)) (pgs_cons (pg_name (i := 3) sc_is_ir.nd rfl (.inr rfl)) pgs_nil)))))
      (pss_cons (ps_if (PW.pt (pw_or (pt_not (pt_tru (K := K) rfl (pe_callB (c_isi (K := K) rfl) rfl (T.free 28 rfl) (by decide +kernel) (pa_cons (pv 1) (pa_cons (pe_bltn (v := .ty "tuple") rfl (T.free 32 rfl) (by decide +kernel) rfl) pa_nil))))) (pw_or (pt_not (pt_tru (K := K) rfl (pe_callB (c_isi (K := K) rfl) rfl (T.free 28 rfl) (by decide +kernel) (pa_cons (pv 3) (pa_cons (pe_bltn (v := .ty "tuple") rfl (T.free 32 rfl) (by decide +kernel) rfl) pa_nil))))) (pw_or1 (pt_cmpR (op_eqU (K := K) rfl hr.units) (pv 3) (pe_tup pa_nil) (nomark _)))))) (pss_one (ps_ret pe_bl)) pss_nil)
      (pss_cons (ps_if (PW.pt (pw_or (pt_not (pt_tru (K := K) rfl (pe_callB (c_all (K := K) rfl rfl) rfl (T.free 24 rfl) (by decide +kernel) (pa_cons (pe_lc rfl sc_is_ir.nd (pi_seq (K := K) rfl (pv 1)) (blkOk_by (own := [("one", 5)]) (N := ["thing", "arrays", "params", "blocks", "block", "one"]) (sc := defScope (topS 18)) (by decide +kernel)) (fun _ _ _ _ _ => (pg_name (i := 5) sc_is_ir.nd rfl (.inl rfl))) (fun _ _ _ _ _ => pts_nil) (fun _ _ _ _ _ => (pe_callD (K := K) rfl (ok_is_array T) (hr.mono (by decide)) rfl pass0 (pa_cons (pv 5) pa_nil)))) pa_nil)))) (pw_or1 (pt_not (pt_tru (K := K) rfl (pe_callD (K := K) rfl (ok_is_number T) (hr.mono (by decide)) rfl pass0 (pa_cons (pv 2) (pa_cons (pe_op (op_addU (K := K) rfl) (pe_gint T rfl 34 rfl rfl) pe_int) pa_nil)))))))) (pss_one (ps_ret pe_bl)) pss_nil)
      (pss_one (ps_ret (pe_callB (c_all (K := K) rfl rfl) rfl (T.free 24 rfl) (by decide +kernel) (pa_cons (pe_lc rfl sc_is_ir.nd (pi_seq (K := K) rfl (pv 3)) (blkOk_by (own := [("block", 4)]) (N := ["thing", "arrays", "params", "blocks", "block", "one"]) (sc := defScope (topS 18)) (by decide +kernel)) (fun _ _ _ _ _ => (pg_name (i := 4) sc_is_ir.nd rfl (.inl rfl))) (fun _ _ _ _ _ => pts_nil) (fun _ _ _ _ _ => (pe_callD (K := K) rfl (ok_is_block T) (hr.mono (by decide)) rfl pass0 (pa_cons (pv 4) (pa_cons (pe_callB (c_len (K := K) rfl) rfl (T.free 29 rfl) (by decide +kernel) (pa_cons (pv 1) pa_nil)) (pa_cons (pe_callB (c_len (K := K) rfl) rfl (T.free 29 rfl) (by decide +kernel) (pa_cons (pv 3) pa_nil)) pa_nil)))))) pa_nil)))))))), ?_⟩)
  obtain ⟨x, d, rfl, him, wd, hQ⟩ := h
  walk_at "go"
  refine m_isiU him ?_
  walk_at "go"
  refine g_ifBn (fun c => ?_) (fun c => ?_)
  · walk_at "go"
    refine q_bl (ir_not ?_) (hQ _ (Same.refl H))
    unfold lenI
    split
    · cases c
    · rfl
  obtain ⟨ds, rfl⟩ := isT_inv c
  walk_at "go"
  refine m_len him ?_
  walk_at "go"
  refine g_ifN (fun c2 => ?_) (fun c2 => ?_)
  · walk_at "go"
    exact q_bl (ir_not (d := .tuple ds) (decide_eq_false c2)) (hQ _ (Same.refl H))
  obtain ⟨as, p, bs, ed⟩ := len3 (d := .tuple ds) (decide_eq_true c2)
  rw [ed] at him hQ wd
  obtain ⟨a0, v1, v2, v3, rfl, ha0, i1, i2, i3⟩ := im3 him
  walk_at "go"
  refine m_isiU i1 ?_
  walk_at "go"
  refine g_ifBn (fun c3 => ?_) (fun c3 => ?_)
  · walk_at "go"
    exact q_bl (ir_a c3) (hQ _ (Same.refl H))
  obtain ⟨as, rfl⟩ := isT_inv c3
  walk_at "go"
  refine m_isiU i3 ?_
  walk_at "go"
  refine g_ifBn (fun c4 => ?_) (fun c4 => ?_)
  · walk_at "go"
    exact q_bl (ir_b c4) (hQ _ (Same.refl H))
  obtain ⟨bs, rfl⟩ := isT_inv c4
  have w1 : Wd 1000 8 (.tuple as) := wd.2 _ (by simp)
  have w3 : Wd 1000 8 (.tuple bs) := wd.2 _ (by simp)
  have al := w1.1
  have bl' := w3.1
  have hQ : ∀ H', Same H H' → Q (.bl (decide (1 ≤ bs.length) && (as.all arrD && (numD 0 100001 p && bs.all (blockD as.length bs.length))))) H' := hQ
  walk_at "go"
  refine m_new (ds := []) .nil (by simp) (fun p1 H1 s1 hp1 j1 => ?_)
  refine m_eq (i3.same s1) j1 (w3.lay.shaped (by decide)) lay_nil ?_
  rw [eqv_nil]
  walk_at "go"
  refine g_ifB (fun c5 => ?_) (fun c5 => ?_)
  · walk_at "go"
    have e : bs = [] := List.isEmpty_iff.mp c5
    subst e
    exact hQ _ s1
  have hl : 1 ≤ bs.length := by
    cases bs with
    | nil => cases c5
    | cons _ _ => exact Nat.succ_le_succ (Nat.zero_le _)
  rw [decide_eq_true hl] at hQ
  simp only [Bool.true_and] at hQ
  walk_at "go"
  refine m_seq (i1.same s1) (fun a xs e ha hs => ?_)
  subst e
  refine l_ask (f := arrD) ha hs al (fun _ => rfl) (fun i dv y H5 Q' hd hy s5 hiy hq => ?_) (fun D H5 s5 hD => ?_)
  · walk_at "go"
    exact ⟨y, dv, rfl, hiy, hq _ (Same.refl _)⟩
  have s15 := s1.trans s5
  walk_at "go"
  refine g_all (SqL.of hD) ?_
  rw [all_map_id]
  walk_at "go"
  refine g_ifBn (fun c6 => ?_) (fun c6 => ?_)
  · walk_at "go"
    refine q_bl ?_ (hQ _ s15)
    rw [c6]
    rfl
  rw [c6] at hQ
  simp only [Bool.true_and] at hQ
  walk_at "go"
  refine ⟨v2, _, p, rfl, i2.same s15, ?_⟩
  walk_at "go"
  refine g_ifBn (fun c7 => ?_) (fun c7 => ?_)
  · walk_at "go"
    refine q_bl ?_ (hQ _ s15)
    have c7 : numD 0 100001 p = false := c7
    rw [c7]
    rfl
  have c7 : numD 0 100001 p = true := c7
  rw [c7] at hQ
  simp only [Bool.true_and] at hQ
  walk_at "go"
  refine m_seq (i3.same s15) (fun b ys e hb hbs => ?_)
  subst e
  refine l_ask (f := blockD as.length bs.length) hb hbs bl' (fun _ => rfl) (fun i dv y H6 Q' hd hy s6 hiy hq => ?_) (fun D2 H6 s6 hD2 => ?_)
  · have s16 := s15.trans s6
    walk_at "go"
    refine m_len (i1.same s16) ?_
    walk_at "go"
    refine m_len (i3.same s16) ?_
    walk_at "go"
    exact ⟨y, _, _, dv, rfl, hiy, (w3.2 _ (List.mem_of_getElem? hd)).mono (by decide) (by decide), fun H7 s7 => hq H7 s7⟩
  · walk_at "go"
    refine g_all (SqL.of hD2) ?_
    rw [all_map_id]
    exact hQ _ (s15.trans s6)


/-! ### k60: the law's own looks -/
def sp_law_is_number (K : PySem.W.Frag) : Sp := fun vs H Q _ => ∃ (x : V) (hi : Int) (d : PyData), vs = [x, .int hi] ∧ Im H x d ∧ Q (.bl (numD 0 hi d)) H
theorem sc_law_is_number : FnScope ["thing", "most"] ["thing", "most"] (defScope (topS 27)) := ⟨rfl, rfl, rfl, by decide +kernel, rfl, by decide +kernel, by decide +kernel⟩
theorem ok_law_is_number (T : Txt fa fn K mg (CsOk cs K w)) : Dn P w K mg base CX0 1 "_law_is_number" ["thing", "most"] (sp_law_is_number K) := by
  refine mk_dn (d := dOf "_law_is_number" 27) T 18 18 rfl rfl rfl rfl rfl sc_law_is_number (by walk_at "len") (fun _ _ _ _ _ _ us hl => match us, hl with | [_, _], _ => rfl) (fun cdv A outer s H vs Q E hr h => ⟨_, (pss_one (ps_ret (pe_and (pe_callB (c_isi (K := K) rfl) rfl (T.free 28 rfl) (by decide +kernel) (pa_cons (pv 0) (pa_cons (pe_bltn (v := .ty "int") rfl (T.free 27 rfl) (by decide +kernel) rfl) pa_nil))) (pe_and (pe_not (pe_callB (c_isi (K := K) rfl) rfl (T.free 28 rfl) (by decide +kernel) (pa_cons (pv 0) (pa_cons (pe_bltn (v := .ty "bool") rfl (T.free 26 rfl) (by decide +kernel) rfl) pa_nil)))) (pe_and (pe_cmpR o_le pe_int (pv 0) (nomark _)) (pe_one (pe_cmpR o_le (pv 0) (pv 1) (nomark _)))))))), ?_⟩)
  obtain ⟨x, hi, d, rfl, him, hQ⟩ := h
  cases him with
  | non => walk_at "go"; exact hQ
  | bl b => walk_at "go"; exact hQ
  | str z => walk_at "go"; exact hQ
  | tup h hs =>
    walk_at "go"
    refine m_isiT (.tup h hs) k_ti ?_
    walk_at "go"
    exact hQ
  | int i =>
    walk_at "go"
    refine g_if (fun c => ?_) (fun c => ?_)
    · walk_at "go"
      refine q_bl ?_ hQ
      show (decide (0 ≤ i) && decide (i ≤ hi)) = _
      rw [decide_eq_true c]
      rfl
    · refine q_bl ?_ hQ
      show (decide (0 ≤ i) && decide (i ≤ hi)) = _
      rw [decide_eq_false c]
      rfl
def shpE (last : Bool) (z : Str) : Option (List PK) := if ENS.contains z = last then shp z else none
def sh7 : List (Key × V) := mergeK [] [(.inr "const", .str "rn"), (.inr "copy", .str "rr"), (.inr "op", .str "grrr"), (.inr "select", .str "rrrr"), (.inr "load", .str "rir"), (.inr "store", .str "irr"), (.inr "out", .str "r")]
theorem sh7_at (z : Str) : valV sh7 (.inr z) = (shpE false z).map fun ks => V.str (ltr ks) := by
  obtain ⟨e1, e2, e3, e4, e5, e6, e7, e8, e9⟩ := ltr_tab
  unfold sh7 mergeK
  simp only [List.foldl_cons, List.foldl_nil]
  rw [valV_put, valV_put, valV_put, valV_put, valV_put, valV_put, valV_put, valV_nil]
  simp only [Sum.inr.injEq]
  by_cases h_out : z = "out"
  · rw [h_out, if_pos rfl, show shpE false "out" = some [.r] from by decide +kernel, Option.map_some, e7]
  rw [if_neg h_out]
  by_cases h_store : z = "store"
  · rw [h_store, if_pos rfl, show shpE false "store" = some [.i, .r, .r] from by decide +kernel, Option.map_some, e6]
  rw [if_neg h_store]
  by_cases h_load : z = "load"
  · rw [h_load, if_pos rfl, show shpE false "load" = some [.r, .i, .r] from by decide +kernel, Option.map_some, e5]
  rw [if_neg h_load]
  by_cases h_select : z = "select"
  · rw [h_select, if_pos rfl, show shpE false "select" = some [.r, .r, .r, .r] from by decide +kernel, Option.map_some, e4]
  rw [if_neg h_select]
  by_cases h_op : z = "op"
  · rw [h_op, if_pos rfl, show shpE false "op" = some [.g, .r, .r, .r] from by decide +kernel, Option.map_some, e3]
  rw [if_neg h_op]
  by_cases h_copy : z = "copy"
  · rw [h_copy, if_pos rfl, show shpE false "copy" = some [.r, .r] from by decide +kernel, Option.map_some, e2]
  rw [if_neg h_copy]
  by_cases h_const : z = "const"
  · rw [h_const, if_pos rfl, show shpE false "const" = some [.r, .n] from by decide +kernel, Option.map_some, e1]
  rw [if_neg h_const]
  have n : shpE false z = none := by
    unfold shpE
    split
    · rename_i hc
      cases q : shp z with
      | none => rfl
      | some ks =>
        have m := shp_some q
        simp only [shpL, List.mem_cons, List.not_mem_nil, or_false, Prod.mk.injEq] at m
        rcases m with m | m | m | m | m | m | m | m | m | m
        all_goals
          obtain ⟨rfl, _⟩ := m
          first | exact absurd rfl (by assumption) | exact absurd hc (by decide +kernel)
    · rfl
  rw [n]
  rfl
def sh3 : List (Key × V) := mergeK [] [(.inr "jump", .str "t"), (.inr "branch", .str "rtt"), (.inr "stop", .str "r")]
theorem sh3_at (z : Str) : valV sh3 (.inr z) = (shpE true z).map fun ks => V.str (ltr ks) := by
  obtain ⟨e1, e2, e3, e4, e5, e6, e7, e8, e9⟩ := ltr_tab
  unfold sh3 mergeK
  simp only [List.foldl_cons, List.foldl_nil]
  rw [valV_put, valV_put, valV_put, valV_nil]
  simp only [Sum.inr.injEq]
  by_cases h_stop : z = "stop"
  · rw [h_stop, if_pos rfl, show shpE true "stop" = some [.r] from by decide +kernel, Option.map_some, e7]
  rw [if_neg h_stop]
  by_cases h_branch : z = "branch"
  · rw [h_branch, if_pos rfl, show shpE true "branch" = some [.r, .t, .t] from by decide +kernel, Option.map_some, e9]
  rw [if_neg h_branch]
  by_cases h_jump : z = "jump"
  · rw [h_jump, if_pos rfl, show shpE true "jump" = some [.t] from by decide +kernel, Option.map_some, e8]
  rw [if_neg h_jump]
  have n : shpE true z = none := by
    unfold shpE
    split
    · rename_i hc
      cases q : shp z with
      | none => rfl
      | some ks =>
        have m := shp_some q
        simp only [shpL, List.mem_cons, List.not_mem_nil, or_false, Prod.mk.injEq] at m
        rcases m with m | m | m | m | m | m | m | m | m | m
        all_goals
          obtain ⟨rfl, _⟩ := m
          first | exact absurd rfl (by assumption) | exact absurd hc (by decide +kernel)
    · rfl
  rw [n]
  rfl
theorem g_d3 {A : Prop} {R : List (Key × V) → Prop} {k1 k2 k3 : Str} {v1 v2 v3 : V} (h : A) (q : R [(.inr k1, v1), (.inr k2, v2), (.inr k3, v3)]) :
    A ∧ ∃ kvs : List (Key × V), [(V.str k1, v1), (V.str k2, v2), (V.str k3, v3)] = kvs.map (fun kv => (kV kv.1, kv.2)) ∧ kvs.length ≤ 15 ∧ R kvs :=
  ⟨h, [(.inr k1, v1), (.inr k2, v2), (.inr k3, v3)], rfl, (by show 3 ≤ 15; decide), q⟩
theorem g_d7 {A : Prop} {R : List (Key × V) → Prop} {k1 k2 k3 k4 k5 k6 k7 : Str} {v1 v2 v3 v4 v5 v6 v7 : V} (h : A) (q : R [(.inr k1, v1), (.inr k2, v2), (.inr k3, v3), (.inr k4, v4), (.inr k5, v5), (.inr k6, v6), (.inr k7, v7)]) :
    A ∧ ∃ kvs : List (Key × V), [(V.str k1, v1), (V.str k2, v2), (V.str k3, v3), (V.str k4, v4), (V.str k5, v5), (V.str k6, v6), (V.str k7, v7)] = kvs.map (fun kv => (kV kv.1, kv.2)) ∧ kvs.length ≤ 15 ∧ R kvs :=
  ⟨h, [(.inr k1, v1), (.inr k2, v2), (.inr k3, v3), (.inr k4, v4), (.inr k5, v5), (.inr k6, v6), (.inr k7, v7)], rfl, (by show 7 ≤ 15; decide), q⟩
theorem g_niK {K : PySem.W.Frag} {H : Hp} {Q : VK} {a : Addr} {kvs : List (Key × V)} {z : Str} (h : H a = some (.dK kvs)) (q : Q (.bl (!(valV kvs (.inr z)).isSome)) H) : rInU K true (.str z) (.ref a) H Q :=
  .inr (.inl ⟨a, valV kvs (.inr z), rfl, DGet.k (k := .inr z) h, q⟩)
theorem row_e {A B : Int} {z : Str} {ds : List PyData} {ks : List PK} {last : Bool} (h : shpE last z = some ks) : (rowD A B (.tuple (.str z :: ds)) && (endR (.tuple (.str z :: ds)) == last)) = (decide (ds.length = ks.length) && partsD A B ks ds) := by
  unfold shpE at h
  split at h
  · rename_i c
    have e : endR (.tuple (.str z :: ds)) = last := c
    rw [row_s h, e, beq_self_eq_true, Bool.and_true]
  · cases h
theorem row_en {A B : Int} {z : Str} {ds : List PyData} {last : Bool} (h : shpE last z = none) : (rowD A B (.tuple (.str z :: ds)) && (endR (.tuple (.str z :: ds)) == last)) = false := by
  unfold shpE at h
  split at h
  · rw [row_n h, Bool.false_and]
  · rename_i c
    have e : (endR (.tuple (.str z :: ds)) == last) = false := beq_eq_false_iff_ne.mpr c
    rw [e, Bool.and_false]
theorem parts_no {A B : Int} {ks : List PK} {ds : List PyData} {i : Nat} (hi : i < ks.length) (h : partD A B (ks.getD i .r) (ds.getD i .none) = false) : partsD A B ks ds = false := by
  refine Bool.eq_false_iff.mpr fun e => ?_
  have := List.all_eq_true.mp e _ (List.mem_map.mpr ⟨i, List.mem_range.mpr hi, rfl⟩)
  rw [id_eq, h] at this
  cases this
theorem parts_yes {A B : Int} {ks : List PK} {ds : List PyData} (h : ∀ i, i < ks.length → partD A B (ks.getD i .r) (ds.getD i .none) = true) : partsD A B ks ds = true := by
  refine List.all_eq_true.mpr fun b hb => ?_
  obtain ⟨i, hi, rfl⟩ := List.mem_map.mp hb
  exact h i (List.mem_range.mp hi)
def sp_law_is_row (K : PySem.W.Frag) : Sp := fun vs H Q _ => ∃ (x : V) (A B : Int) (last : Bool) (d : PyData), vs = [x, .int A, .int B, .bl last] ∧ Im H x d ∧ Lay 9 d ∧ ∀ H', Same H H' → Q (.bl (rowD A B d && (endR d == last))) H'
theorem sc_law_is_row : FnScope ["row", "arrays", "blocks", "last", "shape", "k", "part", "kind"] ["row", "arrays", "blocks", "last"] (defScope (topS 28)) := ⟨rfl, rfl, rfl, by decide +kernel, rfl, by decide +kernel, by decide +kernel⟩
theorem ok_law_is_row (T : Txt fa fn K mg (CsOk cs K w)) : Dn P w K mg base CX0 2 "_law_is_row" ["row", "arrays", "blocks", "last"] (sp_law_is_row K) := by
  refine mk_dn (d := dOf "_law_is_row" 28) T 19 19 rfl rfl rfl rfl rfl sc_law_is_row (by walk_at "len") (fun _ _ _ _ _ _ us hl => match us, hl with | [_, _, _, _], _ => rfl) (fun cdv A outer s H vs Q E hr h => ⟨_, (pss_cons (ps_if (PW.pt (pw_or (pt_not (pt_tru (K := K) rfl (pe_callB (c_isi (K := K) rfl) rfl (T.free 28 rfl) (by decide +kernel) (pa_cons (pv 0) (pa_cons (pe_bltn (v := .ty "tuple") rfl (T.free 32 rfl) (by decide +kernel) rfl) pa_nil))))) (pw_or (pt_cmpR (op_eqU (K := K) rfl hr.units) (pv 0) (pe_tup pa_nil) (nomark _)) (pw_or1 (pt_not (pt_tru (K := K) rfl (pe_callB (c_isi (K := K) rfl) rfl (T.free 28 rfl) (by decide +kernel) (pa_cons (pe_ixU (K := K) rfl (hu_of hr) (pv 0) pe_int) (pa_cons (pe_bltn (v := .ty "str") rfl (T.free 31 rfl) (by decide +kernel) rfl) pa_nil))))))))) (pss_one (ps_ret pe_bl)) pss_nil)
      (pss_cons (ps_set (i := 4) sc_law_is_row.nd rfl (.inl rfl) (pe_disp (pps_cons pe_str pe_str (pps_cons pe_str pe_str (pps_cons pe_str pe_str (pps_cons pe_str pe_str (pps_cons pe_str pe_str (pps_cons pe_str pe_str (pps_cons pe_str pe_str pps_nil))))))) (by rfl) (by rfl) (fun z => by cases z) (by decide)))
      (pss_cons (ps_join (ps_if (pt_tru (K := K) rfl (pv 3)) (pss_one (ps_set (i := 4) sc_law_is_row.nd rfl (.inl rfl) (pe_disp (pps_cons pe_str pe_str (pps_cons pe_str pe_str (pps_cons pe_str pe_str pps_nil))) (by rfl) (by rfl) (fun z => by cases z) (by decide)))) pss_nil))
      (pss_cons (ps_if (PW.pt (pw_or (pt_cmpR (op_niU (K := K) rfl (hu65 hr)) (pe_ixU (K := K) rfl (hu_of hr) (pv 0) pe_int) (pv 4) (by rfl)) (pw_or1 (pt_cmpR (op_neU (K := K) rfl hr.units) (pe_callB (c_len (K := K) rfl) rfl (T.free 29 rfl) (by decide +kernel) (pa_cons (pv 0) pa_nil)) (pe_op (op_addU (K := K) rfl) (pe_callB (c_len (K := K) rfl) rfl (T.free 29 rfl) (by decide +kernel) (pa_cons (pe_ixU (K := K) rfl (hu_of hr) (pv 4) (pe_ixU (K := K) rfl (hu_of hr) (pv 0) pe_int)) pa_nil)) pe_int) (nomark _))))) (pss_one (ps_ret pe_bl)) pss_nil)
      (pss_cons (ps_for PassesOwn.never rfl (pi_r1 rfl (T.free 30 rfl) (pa_cons (pe_callB (c_len (K := K) rfl) rfl (T.free 29 rfl) (by decide +kernel) (pa_cons (pe_ixU (K := K) rfl (hu_of hr) (pv 4) (pe_ixU (K := K) rfl (hu_of hr) (pv 0) pe_int)) pa_nil)) pa_nil)) (pg_name (i := 5) sc_law_is_row.nd rfl (.inl rfl)) (pss_cons (ps_set (i := 6) sc_law_is_row.nd rfl (.inl rfl) (pe_ixU (K := K) rfl (hu_of hr) (pv 0) (pe_op (op_addU (K := K) rfl) (pv 5) pe_int)))
      (pss_cons (ps_set (i := 7) sc_law_is_row.nd rfl (.inl rfl) (pe_ixU (K := K) rfl (hu_of hr) (pe_ixU (K := K) rfl (hu_of hr) (pv 4) (pe_ixU (K := K) rfl (hu_of hr) (pv 0) pe_int)) (pv 5)))
      (pss_one (ps_if (pt_cmpR (op_eqU (K := K) rfl hr.units) (pv 7) pe_str (nomark _)) (pss_one (ps_if (PW.pt (pw_or (pt_not (pt_tru (K := K) rfl (pe_callB (c_isi (K := K) rfl) rfl (T.free 28 rfl) (by decide +kernel) (pa_cons (pv 6) (pa_cons (pe_bltn (v := .ty "str") rfl (T.free 31 rfl) (by decide +kernel) rfl) pa_nil))))) (pw_or1 (pt_cmpR (op_niU (K := K) rfl (hu65 hr)) (pv 6) (pe_lst (pa_cons pe_str (pa_cons pe_str (pa_cons pe_str (pa_cons pe_str (pa_cons pe_str (pa_cons pe_str (pa_cons pe_str (pa_cons pe_str (pa_cons pe_str (pa_cons pe_str (pa_cons pe_str (pa_cons pe_str (pa_cons pe_str pa_nil)))))))))))))) (by rfl))))) (pss_one (ps_ret pe_bl)) pss_nil)) (pss_one (ps_if (pt_not (pt_tru (K := K) rfl (pe_callD (K := K) rfl (ok_law_is_number T) (hr.mono (by decide)) rfl pass0 (pa_cons (pv 6) (pa_cons (pe_ixU (K := K) rfl (hu_of hr) (pe_disp (pps_cons pe_str pe_int (pps_cons pe_str pe_int (pps_cons pe_str (pe_op op_sub (pv 1) pe_int) (pps_cons pe_str (pe_op op_sub (pv 2) pe_int) pps_nil)))) (by rfl) (by rfl) (fun z => by cases z) (by decide)) (pv 7)) pa_nil))))) (pss_one (ps_ret pe_bl)) pss_nil)))))))
      (pss_one (ps_ret pe_bl))))))), ?_⟩)
  obtain ⟨x, A, B, last, d, rfl, him, ly, hQ⟩ := h
  walk_at "go"
  refine m_isiU him ?_
  walk_at "go"
  refine g_ifBn (fun c => ?_) (fun c => ?_)
  · walk_at "go"
    refine q_bl ?_ (hQ _ (Same.refl H))
    rw [row_notT c, Bool.false_and]
  obtain ⟨ds, rfl⟩ := isT_inv c
  walk_at "go"
  refine m_new (ds := []) .nil (by simp) (fun p1 H1 s1 hp1 i1 => ?_)
  have him1 := him.same s1
  refine m_eq him1 i1 (ly.shaped (by decide)) lay_nil ?_
  rw [eqv_nil]
  walk_at "go"
  cases ds with
  | nil =>
    refine g_ifT ?_
    walk_at "go"
    exact hQ _ s1
  | cons e ds =>
    refine g_ifF ?_
    walk_at "go"
    refine m_ix him1 (n := 0) rfl rfl (fun v hv => ?_)
    walk_at "go"
    refine m_isiS hv ?_
    walk_at "go"
    refine g_ifBn (fun c2 => ?_) (fun c2 => ?_)
    · walk_at "go"
      refine q_bl ?_ (hQ _ s1)
      rw [row_notS (str_not c2), Bool.false_and]
    obtain ⟨z, rfl⟩ := isS_inv c2
    walk_at "go"
    intro m hm
    walk_at "go"
    refine g_d7 upd_same ?_
    rw [upd_upd]
    have sm := s1.trans (Same.new (o := .dK sh7) hm)
    have hm7 : upd H1 m (.dK sh7) m = some (.dK sh7) := upd_same
    show gName 4 (.ref m) _ (upd H1 m (.dK sh7)) _
    generalize upd H1 m (.dK sh7) = H2 at sm hm7
    walk_at "go"
    refine ⟨fun σ' H' => ∃ (a : Addr) (kvs : List (Key × V)) (o6 o7 o8 : Option V), σ' = [some x, some (.int A), some (.int B), some (.bl last), some (.ref a), o6, o7, o8] ∧ Same H H' ∧ H' a = some (.dK kvs) ∧ ∀ z, valV kvs (.inr z) = (shpE last z).map fun ks => V.str (ltr ks), ?_, ?_⟩
    · walk_at "go"
      cases last with
      | false =>
        walk_at "go"
        exact ⟨m, _, _, _, _, rfl, sm, hm7, sh7_at⟩
      | true =>
        walk_at "go"
        intro m2 hm2
        walk_at "go"
        refine g_d3 upd_same ?_
        rw [upd_upd]
        walk_at "go"
        exact ⟨m2, _, _, _, _, rfl, sm.trans (Same.new (o := .dK sh3) hm2), upd_same, sh3_at⟩
    · rintro σ' H3 ⟨a, kvs, o6, o7, o8, rfl, s3, hK, hz⟩
      have him3 := him.same s3
      walk_at "go"
      refine m_ix him3 (n := 0) rfl rfl (fun v hv => ?_)
      obtain rfl := hv.str_inv
      walk_at "go"
      refine g_niK hK ?_
      rw [hz z]
      cases hs : shpE last z with
      | none =>
        walk_at "go"
        refine g_ifT ?_
        walk_at "go"
        exact q_bl (row_en hs) (hQ _ s3)
      | some ks =>
        have klen : ks.length ≤ 4 := by
          unfold shpE at hs
          split at hs
          · exact shp_len _ (shp_some hs)
          · cases hs
        have hQ : ∀ H', Same H H' → Q (.bl (decide (ds.length = ks.length) && partsD A B ks ds)) H' := fun H' s => by
          rw [← row_e hs]
          exact hQ H' s
        walk_at "go"
        refine g_ifF ?_
        walk_at "go"
        refine m_len him3 ?_
        walk_at "go"
        refine m_ix him3 (n := 0) rfl rfl (fun v hv => ?_)
        obtain rfl := hv.str_inv
        have hdg : ∀ {H' : Hp}, H' a = some (.dK kvs) → DGet H' a (.str z) (some (.str (ltr ks))) := fun h => dg_of h ((hz z).trans (by rw [hs, Option.map_some]))
        refine g_ixD (hdg hK) ?_
        walk_at "go"
        refine g_lenS (by rw [ltr_len]; exact szle (by omega)) ?_
        rw [ltr_len, List.length_cons]
        walk_at "go"
        refine g_ifN (fun c3 => ?_) (fun c3 => ?_)
        · walk_at "go"
          refine q_bl ?_ (hQ _ s3)
          rw [decide_eq_false (by omega)]
          rfl
        rw [decide_eq_true (by omega : ds.length = ks.length)] at hQ
        simp only [Bool.true_and] at hQ
        walk_at "go"
        refine m_ix him3 (n := 0) rfl rfl (fun v hv => ?_)
        obtain rfl := hv.str_inv
        refine g_ixD (hdg hK) ?_
        walk_at "go"
        refine g_lenS (by rw [ltr_len]; exact szle (by omega)) ?_
        rw [ltr_len]
        walk_at "go"
        rw [Int.toNat_natCast]
        refine f_range (fun i σ H' => ∃ (o6 o7 o8 : Option V), σ = [some x, some (.int A), some (.int B), some (.bl last), some (.ref a), o6, o7, o8] ∧ Same H H' ∧ H' a = some (.dK kvs) ∧ ∀ j, j < i → partD A B (ks.getD j .r) (ds.getD j .none) = true)
          ⟨_, _, _, rfl, s3, hK, fun j hj => absurd hj (Nat.not_lt_zero _)⟩ ?_ ?_
        · rintro i σ H4 hi ⟨o6, o7, o8, rfl, s4, hK4, hpre⟩
          have him4 := him.same s4
          have g1 : ks[i]? = some (ks.getD i .r) := by rw [List.getD_eq_getElem?_getD, List.getElem?_eq_getElem hi]; rfl
          have g2 : ds[i]? = some (ds.getD i .none) := by rw [List.getD_eq_getElem?_getD, List.getElem?_eq_getElem (by omega)]; rfl
          have e0 : (0 : Int) + (i : Int) = (i : Int) := by omega
          generalize hk : ks.getD i .r = kd at g1
          generalize hd : ds.getD i .none = dv at g2
          have fin : partD A B kd dv = true → ∀ j, j < i + 1 → partD A B (ks.getD j .r) (ds.getD j .none) = true := fun h j hj => by
            by_cases e : j = i
            · rw [e, hk, hd]
              exact h
            · exact hpre j (by omega)
          have bad : partD A B kd dv = false → partsD A B ks ds = false := fun h => parts_no hi (by rw [hk, hd]; exact h)
          walk_at "go"
          refine m_ix him4 (n := i + 1) (by omega) (by rw [List.getElem?_cons_succ]; exact g2) (fun v hv => ?_)
          walk_at "go"
          refine m_ix him4 (n := 0) rfl rfl (fun v2 hv2 => ?_)
          obtain rfl := hv2.str_inv
          refine g_ixD (hdg hK4) ?_
          walk_at "go"
          rw [e0]
          refine g_ixS (n := i) (by rw [ltr_len]; exact szle (by omega)) rfl (c := kd.c) (by rw [ltr_list, List.getElem?_map, g1]; rfl) ?_
          rw [l_c]
          cases kd <;> simp only [PK.s]
          case g =>
            walk_at "go"
            refine m_isiS hv ?_
            walk_at "go"
            refine g_ifBn (fun c4 => ?_) (fun c4 => ?_)
            · walk_at "go"
              exact q_bl (bad (str_not c4)) (hQ _ s4)
            obtain ⟨y, rfl⟩ := isS_inv c4
            obtain rfl := hv.str_inv
            walk_at "go"
            refine ⟨by show 13 ≤ sizeLine; decide, fun q hq => ?_⟩
            have sq := s4.trans (Same.new (o := .lst (SGS.map V.str)) hq)
            refine g_niTs (ks := SGS) (.inr upd_same) ?_
            walk_at "go"
            refine g_ifBn (fun c5 => ?_) (fun c5 => ?_)
            · walk_at "go"
              exact q_bl (bad c5) (hQ _ sq)
            · walk_at "go"
              exact ⟨_, _, _, rfl, sq, Same.new (o := .lst (SGS.map V.str)) hq _ _ hK4, fin c5⟩
          all_goals
            walk_at "go"
            intro m3 hm3
            walk_at "go"
            refine g_d4 upd_same ?_
            rw [upd_upd]
            have sm3 := fun kvs => Same.new (o := .dK kvs) hm3
            walk_at "go"
          case r =>
            refine g_ixD (dg_of upd_same (mg4.trans (by rw [if_neg (by decide), if_neg (by decide), if_neg (by decide), if_pos rfl]))) ?_
            walk_at "go"
            refine ⟨v, _, _, rfl, hv.same (sm3 _), ?_⟩
            walk_at "go"
            refine g_ifBn (fun c5 => ?_) (fun c5 => ?_)
            · walk_at "go"
              exact q_bl (bad c5) (hQ _ (s4.trans (sm3 _)))
            · walk_at "go"
              exact ⟨_, _, _, rfl, s4.trans (sm3 _), sm3 _ _ _ hK4, fin c5⟩
          case n =>
            refine g_ixD (dg_of upd_same (mg4.trans (by rw [if_neg (by decide), if_neg (by decide), if_pos rfl]))) ?_
            walk_at "go"
            refine ⟨v, _, _, rfl, hv.same (sm3 _), ?_⟩
            walk_at "go"
            refine g_ifBn (fun c5 => ?_) (fun c5 => ?_)
            · walk_at "go"
              exact q_bl (bad c5) (hQ _ (s4.trans (sm3 _)))
            · walk_at "go"
              exact ⟨_, _, _, rfl, s4.trans (sm3 _), sm3 _ _ _ hK4, fin c5⟩
          case i =>
            refine g_ixD (dg_of upd_same (mg4.trans (by rw [if_neg (by decide), if_pos rfl]))) ?_
            walk_at "go"
            refine ⟨v, _, _, rfl, hv.same (sm3 _), ?_⟩
            walk_at "go"
            refine g_ifBn (fun c5 => ?_) (fun c5 => ?_)
            · walk_at "go"
              exact q_bl (bad c5) (hQ _ (s4.trans (sm3 _)))
            · walk_at "go"
              exact ⟨_, _, _, rfl, s4.trans (sm3 _), sm3 _ _ _ hK4, fin c5⟩
          case t =>
            refine g_ixD (dg_of upd_same (mg4.trans (by rw [if_pos rfl]))) ?_
            walk_at "go"
            refine ⟨v, _, _, rfl, hv.same (sm3 _), ?_⟩
            walk_at "go"
            refine g_ifBn (fun c5 => ?_) (fun c5 => ?_)
            · walk_at "go"
              exact q_bl (bad c5) (hQ _ (s4.trans (sm3 _)))
            · walk_at "go"
              exact ⟨_, _, _, rfl, s4.trans (sm3 _), sm3 _ _ _ hK4, fin c5⟩
        · rintro σ H4 ⟨o6, o7, o8, rfl, s4, hK4, hpre⟩
          walk_at "go"
          exact q_bl (parts_yes hpre) (hQ _ s4)


/-! ### k60: the law's look at a program -/
theorem all_no {α : Type} {p : α → Bool} {l : List α} {i : Nat} {d : α} (hd : l[i]? = some d) (h : p d = false) : l.all p = false := by
  refine Bool.eq_false_iff.mpr fun e => ?_
  have := List.all_eq_true.mp e d (List.mem_of_getElem? hd)
  rw [h] at this
  cases this
theorem all_yes {α : Type} {p : α → Bool} {l : List α} (h : ∀ (i : Nat) (d : α), l[i]? = some d → p d = true) : l.all p = true := List.all_eq_true.mpr fun d hd => by
  obtain ⟨i, hi⟩ := List.mem_iff_getElem?.mp hd
  exact h i d hi
theorem ir_3 {as bs : List PyData} {p : PyData} : irB (.tuple [.tuple as, p, .tuple bs]) = (decide (1 ≤ bs.length) && (as.all arrD && (numD 0 100001 p && bs.all (blockD as.length bs.length)))) := rfl
theorem ir_no1 {as bs : List PyData} {p : PyData} (h : as.all arrD = false) : irB (.tuple [.tuple as, p, .tuple bs]) = false := by rw [ir_3, h, Bool.false_and, Bool.and_false]
theorem ir_no2 {as bs : List PyData} {p : PyData} (h : numD 0 100001 p = false) : irB (.tuple [.tuple as, p, .tuple bs]) = false := by rw [ir_3, h, Bool.false_and, Bool.and_false, Bool.and_false]
theorem ir_no3 {as bs : List PyData} {p : PyData} (h : bs.all (blockD as.length bs.length) = false) : irB (.tuple [.tuple as, p, .tuple bs]) = false := by rw [ir_3, h, Bool.and_false, Bool.and_false, Bool.and_false]
theorem blk_bad {A B : Int} {rows : List PyData} {i : Nat} {d : PyData} (hi : rows[i]? = some d) (h : (rowD A B d && (endR d == decide ((i : Int) = (rows.length : Int) - 1))) = false) : blockD A B (.tuple rows) = false := by
  refine Bool.eq_false_iff.mpr fun e => ?_
  obtain ⟨h1, h2⟩ := (blk_iff.mp e).2 i d hi
  have e3 : decide ((i : Int) = (rows.length : Int) - 1) = decide (i + 1 = rows.length) := decide_eq_decide.mpr (by omega)
  rw [h1, h2, e3, beq_self_eq_true] at h
  cases h
theorem blk_ok {A B : Int} {rows : List PyData} (hl : 1 ≤ rows.length) (h : ∀ (i : Nat) (d : PyData), rows[i]? = some d → (rowD A B d && (endR d == decide ((i : Int) = (rows.length : Int) - 1))) = true) : blockD A B (.tuple rows) = true := by
  refine blk_iff.mpr ⟨hl, fun i d hi => ?_⟩
  have z := h i d hi
  have e3 : decide ((i : Int) = (rows.length : Int) - 1) = decide (i + 1 = rows.length) := decide_eq_decide.mpr (by omega)
  rw [Bool.and_eq_true, beq_iff_eq, e3] at z
  exact z
theorem pre_snoc {α : Type} {p : α → Prop} {l : List α} {i : Nat} {d : α} (h : ∀ (j : Nat) (e : α), j < i → l[j]? = some e → p e) (hd : l[i]? = some d) (q : p d) : ∀ (j : Nat) (e : α), j < i + 1 → l[j]? = some e → p e := fun j e hj he => by
  by_cases c : j = i
  · rw [c, hd] at he
    cases he
    exact q
  · exact h j e (by omega) he
def sp_law_is_program (K : PySem.W.Frag) : Sp := fun vs H Q _ => ∃ (x : V) (d : PyData), vs = [x] ∧ Im H x d ∧ Wd 1000 9 d ∧ ∀ H', Same H H' → Q (.bl (irB d)) H'
theorem sc_law_is_program : FnScope ["thing", "one", "block", "k"] ["thing"] (defScope (topS 29)) := ⟨rfl, rfl, rfl, by decide +kernel, rfl, by decide +kernel, by decide +kernel⟩
theorem ok_law_is_program (T : Txt fa fn K mg (CsOk cs K w)) : Dn P w K mg base CX0 3 "_law_is_program" ["thing"] (sp_law_is_program K) := by
  refine mk_dn (d := dOf "_law_is_program" 29) T 20 20 rfl rfl rfl rfl rfl sc_law_is_program (by walk_at "len") (fun _ _ _ _ _ _ us hl => match us, hl with | [_], _ => rfl) (fun cdv A outer s H vs Q E hr h => ⟨_, (pss_cons (ps_if (PW.pt (pw_or (pt_not (pt_tru (K := K) rfl (pe_callB (c_isi (K := K) rfl) rfl (T.free 28 rfl) (by decide +kernel) (pa_cons (pv 0) (pa_cons (pe_bltn (v := .ty "tuple") rfl (T.free 32 rfl) (by decide +kernel) rfl) pa_nil))))) (pw_or (pt_cmpR (op_neU (K := K) rfl hr.units) (pe_callB (c_len (K := K) rfl) rfl (T.free 29 rfl) (by decide +kernel) (pa_cons (pv 0) pa_nil)) pe_int (nomark _)) (pw_or (pt_not (pt_tru (K := K) rfl (pe_callB (c_isi (K := K) rfl) rfl (T.free 28 rfl) (by decide +kernel) (pa_cons (pe_ixU (K := K) rfl (hu_of hr) (pv 0) pe_int) (pa_cons (pe_bltn (v := .ty "tuple") rfl (T.free 32 rfl) (by decide +kernel) rfl) pa_nil))))) (pw_or1 (pt_not (pt_tru (K := K) rfl (pe_callB (c_isi (K := K) rfl) rfl (T.free 28 rfl) (by decide +kernel) (pa_cons (pe_ixU (K := K) rfl (hu_of hr) (pv 0) pe_int) (pa_cons (pe_bltn (v := .ty "tuple") rfl (T.free 32 rfl) (by decide +kernel) rfl) pa_nil)))))))))) (pss_one (ps_ret pe_bl)) pss_nil)
      (pss_cons (ps_for PassesOwn.never rfl (pi_seq (K := K) rfl (pe_ixU (K := K) rfl (hu_of hr) (pv 0) pe_int)) (pg_name (i := 1) sc_law_is_program.nd rfl (.inl rfl)) (pss_cons (ps_if (PW.pt (pw_or (pt_not (pt_tru (K := K) rfl (pe_callB (c_isi (K := K) rfl) rfl (T.free 28 rfl) (by decide +kernel) (pa_cons (pv 1) (pa_cons (pe_bltn (v := .ty "tuple") rfl (T.free 32 rfl) (by decide +kernel) rfl) pa_nil))))) (pw_or (pt_cmpR (op_neU (K := K) rfl hr.units) (pe_callB (c_len (K := K) rfl) rfl (T.free 29 rfl) (by decide +kernel) (pa_cons (pv 1) pa_nil)) pe_int (nomark _)) (pw_or (pt_not (pt_tru (K := K) rfl (pe_callB (c_isi (K := K) rfl) rfl (T.free 28 rfl) (by decide +kernel) (pa_cons (pe_ixU (K := K) rfl (hu_of hr) (pv 1) pe_int) (pa_cons (pe_bltn (v := .ty "str") rfl (T.free 31 rfl) (by decide +kernel) rfl) pa_nil))))) (pw_or (pt_not (pt_tru (K := K) rfl (pe_callD (K := K) rfl (ok_law_is_number T) (hr.mono (by decide)) rfl pass0 (pa_cons (pe_ixU (K := K) rfl (hu_of hr) (pv 1) pe_int) (pa_cons pe_int pa_nil))))) (pw_or1 (pt_cmpR (op_eqU (K := K) rfl hr.units) (pe_ixU (K := K) rfl (hu_of hr) (pv 1) pe_int) pe_int (nomark _)))))))) (pss_one (ps_ret pe_bl)) pss_nil)
      (pss_one (ps_if (PW.pt (pw_or (pt_not (pt_tru (K := K) rfl (pe_callB (c_isi (K := K) rfl) rfl (T.free 28 rfl) (by decide +kernel) (pa_cons (pe_ixU (K := K) rfl (hu_of hr) (pv 1) pe_int) (pa_cons (pe_bltn (v := .ty "str") rfl (T.free 31 rfl) (by decide +kernel) rfl) pa_nil))))) (pw_or1 (pt_cmpR (op_niU (K := K) rfl (hu65 hr)) (pe_ixU (K := K) rfl (hu_of hr) (pv 1) pe_int) (pe_lst (pa_cons pe_str (pa_cons pe_str pa_nil))) (by rfl))))) (pss_one (ps_ret pe_bl)) pss_nil))))
      (pss_cons (ps_if (PW.pt (pw_or (pt_not (pt_tru (K := K) rfl (pe_callD (K := K) rfl (ok_law_is_number T) (hr.mono (by decide)) rfl pass0 (pa_cons (pe_ixU (K := K) rfl (hu_of hr) (pv 0) pe_int) (pa_cons pe_int pa_nil))))) (pw_or1 (pt_cmpR (op_eqU (K := K) rfl hr.units) (pe_ixU (K := K) rfl (hu_of hr) (pv 0) pe_int) (pe_tup pa_nil) (nomark _))))) (pss_one (ps_ret pe_bl)) pss_nil)
      (pss_cons (ps_for PassesOwn.never rfl (pi_seq (K := K) rfl (pe_ixU (K := K) rfl (hu_of hr) (pv 0) pe_int)) (pg_name (i := 2) sc_law_is_program.nd rfl (.inl rfl)) (pss_cons (ps_if (PW.pt (pw_or (pt_not (pt_tru (K := K) rfl (pe_callB (c_isi (K := K) rfl) rfl (T.free 28 rfl) (by decide +kernel) (pa_cons (pv 2) (pa_cons (pe_bltn (v := .ty "tuple") rfl (T.free 32 rfl) (by decide +kernel) rfl) pa_nil))))) (pw_or1 (pt_cmpR (op_eqU (K := K) rfl hr.units) (pv 2) (pe_tup pa_nil) (nomark _))))) (pss_one (ps_ret pe_bl)) pss_nil)
      (pss_one (ps_for PassesOwn.never rfl (pi_r1 rfl (T.free 30 rfl) (pa_cons (pe_callB (c_len (K := K) rfl) rfl (T.free 29 rfl) (by decide +kernel) (pa_cons (pv 2) pa_nil)) pa_nil)) (pg_name (i := 3) sc_law_is_program.nd rfl (.inl rfl)) (pss_one (ps_if (pt_not (pt_tru (K := K) rfl (pe_callD (K := K) rfl (ok_law_is_row T) (hr.mono (by decide)) rfl pass0 (pa_cons (pe_ixU (K := K) rfl (hu_of hr) (pv 2) (pv 3)) (pa_cons (pe_callB (c_len (K := K) rfl) rfl (T.free 29 rfl) (by decide +kernel) (pa_cons (pe_ixU (K := K) rfl (hu_of hr) (pv 0) pe_int) pa_nil)) (pa_cons (pe_callB (c_len (K := K) rfl) rfl (T.free 29 rfl) (by decide +kernel) (pa_cons (pe_ixU (K := K) rfl (hu_of hr) (pv 0) pe_int) pa_nil)) (pa_cons (pe_cmpR (op_eqU (K := K) rfl hr.units) (pv 3) (pe_op op_sub (pe_callB (c_len (K := K) rfl) rfl (T.free 29 rfl) (by decide +kernel) (pa_cons (pv 2) pa_nil)) pe_int) (nomark _)) pa_nil))))))) (pss_one (ps_ret pe_bl)) pss_nil))))))
      (pss_one (ps_ret pe_bl)))))), ?_⟩)
  obtain ⟨x, d, rfl, him, wd, hQ⟩ := h
  walk_at "go"
  refine m_isiU him ?_
  walk_at "go"
  refine g_ifBn (fun c => ?_) (fun c => ?_)
  · walk_at "go"
    refine q_bl (ir_not ?_) (hQ _ (Same.refl H))
    unfold lenI
    split
    · cases c
    · rfl
  obtain ⟨ds, rfl⟩ := isT_inv c
  walk_at "go"
  refine m_len him ?_
  walk_at "go"
  refine g_ifN (fun c2 => ?_) (fun c2 => ?_)
  · walk_at "go"
    exact q_bl (ir_not (d := .tuple ds) (decide_eq_false c2)) (hQ _ (Same.refl H))
  obtain ⟨as, p, bs, ed⟩ := len3 (d := .tuple ds) (decide_eq_true c2)
  rw [ed] at him hQ wd
  walk_at "go"
  refine m_ix him (n := 0) rfl rfl (fun v1 hv1 => ?_)
  walk_at "go"
  refine m_isiU hv1 ?_
  walk_at "go"
  refine g_ifBn (fun c3 => ?_) (fun c3 => ?_)
  · walk_at "go"
    exact q_bl (ir_a c3) (hQ _ (Same.refl H))
  obtain ⟨as, rfl⟩ := isT_inv c3
  walk_at "go"
  refine m_ix him (n := 2) rfl rfl (fun v2 hv2 => ?_)
  walk_at "go"
  refine m_isiU hv2 ?_
  walk_at "go"
  refine g_ifBn (fun c4 => ?_) (fun c4 => ?_)
  · walk_at "go"
    exact q_bl (ir_b c4) (hQ _ (Same.refl H))
  obtain ⟨bs, rfl⟩ := isT_inv c4
  have w1 : Wd 1000 8 (.tuple as) := wd.2 _ (by simp)
  have w3 : Wd 1000 8 (.tuple bs) := wd.2 _ (by simp)
  have al := w1.1
  have bl' := w3.1
  walk_at "go"
  refine m_ix him (n := 0) rfl rfl (fun v3 hv3 => ?_)
  refine m_seq hv3 (fun a xs e ha hs => ?_)
  subst e
  have hl := hs.length
  refine f_tup (xs := xs) (fun i σ H' => ∃ (o1 o2 o3 : Option V), σ = [some x, o1, o2, o3] ∧ Same H H' ∧ ∀ (j : Nat) (e : PyData), j < i → as[j]? = some e → arrD e = true) ⟨_, _, _, rfl, Same.refl H, fun j e hj => absurd hj (Nat.not_lt_zero _)⟩ ?_ ?_ ?_
  · rintro i σ H' hi ⟨o1, o2, o3, rfl, sm, hp⟩
    exact SqT.of (sm _ _ ha)
  · rintro i y σ H' hi ⟨o1, o2, o3, rfl, sm, hp⟩
    obtain ⟨hlt, hy⟩ := List.getElem?_eq_some_iff.mp hi
    have hd : as[i]? = some (as[i]'(by omega)) := List.getElem?_eq_getElem _
    generalize as[i]'(by omega) = dv at hd
    obtain ⟨y', hy', hiy⟩ := hs.get hd
    rw [hi] at hy'
    cases hy'
    have hiy1 := hiy.same sm
    have bad : arrD dv = false → Q (.bl false) H' := fun e => q_bl (ir_no1 (all_no hd e)) (hQ _ sm)
    walk_at "go"
    refine m_isiU hiy1 ?_
    walk_at "go"
    refine g_ifBn (fun c1 => ?_) (fun c1 => ?_)
    · walk_at "go"
      refine bad (arr_not ?_)
      unfold lenI
      split
      · cases c1
      · rfl
    walk_at "go"
    obtain ⟨es, rfl⟩ := isT_inv c1
    refine m_len hiy1 ?_
    walk_at "go"
    refine g_ifN (fun c3 => ?_) (fun c3 => ?_)
    · walk_at "go"
      exact bad (arr_not (d := .tuple es) (decide_eq_false c3))
    obtain ⟨d1, d2, d3, ed⟩ := len3 (d := .tuple es) (decide_eq_true c3)
    rw [ed] at hiy1 bad hd
    have e3 : arrD (.tuple [d1, d2, d3]) = (isS d1 && (numD 1 64 d2 && strD LAB d3)) := rfl
    walk_at "go"
    refine m_ix hiy1 (n := 0) rfl rfl (fun v4 hv4 => ?_)
    walk_at "go"
    refine m_isiS hv4 ?_
    walk_at "go"
    refine g_ifBn (fun c5 => ?_) (fun c5 => ?_)
    · walk_at "go"
      exact bad (by rw [e3, c5, Bool.false_and])
    walk_at "go"
    refine m_ix hiy1 (n := 1) rfl rfl (fun v5 hv5 => ?_)
    walk_at "go"
    refine ⟨v5, 64, d2, rfl, hv5, ?_⟩
    walk_at "go"
    refine g_ifBn (fun c6 => ?_) (fun c6 => ?_)
    · walk_at "go"
      exact bad (by rw [e3, num_1 c6, Bool.false_and, Bool.and_false])
    obtain ⟨n, rfl, _, _⟩ := num_inv c6
    walk_at "go"
    refine m_ix hiy1 (n := 1) rfl rfl (fun v6 hv6 => ?_)
    obtain rfl := hv6.int_inv
    walk_at "go"
    refine g_if (fun c7 => ?_) (fun c7 => ?_)
    · walk_at "go"
      exact bad (by rw [e3, num_2 c6, decide_eq_false (by omega), Bool.false_and, Bool.and_false])
    walk_at "go"
    refine m_ix hiy1 (n := 2) rfl rfl (fun v7 hv7 => ?_)
    walk_at "go"
    refine m_isiS hv7 ?_
    walk_at "go"
    refine g_ifBn (fun c8 => ?_) (fun c8 => ?_)
    · walk_at "go"
      exact bad (by rw [e3, str_not c8, Bool.and_false, Bool.and_false])
    obtain ⟨z, rfl⟩ := isS_inv c8
    walk_at "go"
    refine m_ix hiy1 (n := 2) rfl rfl (fun v8 hv8 => ?_)
    obtain rfl := hv8.str_inv
    walk_at "go"
    refine ⟨by show 2 ≤ sizeLine; decide, fun q hq => ?_⟩
    have sq := Same.new (o := .lst (LAB.map V.str)) hq
    refine g_niTs (ks := LAB) (.inr upd_same) ?_
    walk_at "go"
    refine g_ifBn (fun c9 => ?_) (fun c9 => ?_)
    · walk_at "go"
      have e9 : strD LAB (.str z) = false := c9
      refine q_bl (ir_no1 (all_no hd ?_)) (hQ _ (sm.trans sq))
      rw [e3, e9, Bool.and_false, Bool.and_false]
    · walk_at "go"
      have e9 : strD LAB (.str z) = true := c9
      refine ⟨_, _, _, rfl, sm.trans sq, pre_snoc hp hd ?_⟩
      rw [e3, c5, num_2 c6, decide_eq_true (by omega), e9]
      rfl
  rintro σ H' ⟨o1, o2, o3, rfl, sm, hp⟩
  have hall : as.all arrD = true := all_yes fun i e he => hp i e (by have := (List.getElem?_eq_some_iff.mp he).1; omega) he
  walk_at "go"
  refine m_ix (him.same sm) (n := 1) rfl rfl (fun v4 hv4 => ?_)
  walk_at "go"
  refine ⟨v4, _, p, rfl, hv4, ?_⟩
  walk_at "go"
  refine g_ifBn (fun c5 => ?_) (fun c5 => ?_)
  · walk_at "go"
    exact q_bl (ir_no2 c5) (hQ _ sm)
  walk_at "go"
  refine m_ix (him.same sm) (n := 2) rfl rfl (fun v5 hv5 => ?_)
  walk_at "go"
  refine m_new (ds := []) .nil (by simp) (fun p1 H1 s1 hp1 j1 => ?_)
  have s01 := sm.trans s1
  refine m_eq (hv5.same s1) j1 (w3.lay.shaped (by decide)) lay_nil ?_
  rw [eqv_nil]
  walk_at "go"
  refine g_ifB (fun c6 => ?_) (fun c6 => ?_)
  · walk_at "go"
    have e : bs = [] := List.isEmpty_iff.mp c6
    subst e
    exact hQ _ s01
  have hlb : 1 ≤ bs.length := by
    cases bs with
    | nil => cases c6
    | cons _ _ => exact Nat.succ_le_succ (Nat.zero_le _)
  walk_at "go"
  refine m_ix (him.same s01) (n := 2) rfl rfl (fun v6 hv6 => ?_)
  refine m_seq hv6 (fun b ys e hb hbs => ?_)
  subst e
  have hlen := hbs.length
  refine f_tup (xs := ys) (fun i σ H' => ∃ (o1 o2 o3 : Option V), σ = [some x, o1, o2, o3] ∧ Same H1 H' ∧ ∀ (j : Nat) (e : PyData), j < i → bs[j]? = some e → blockD as.length bs.length e = true) ⟨_, _, _, rfl, Same.refl _, fun j e hj => absurd hj (Nat.not_lt_zero _)⟩ ?_ ?_ ?_
  · rintro i σ H' hi ⟨o1, o2, o3, rfl, s2, hp⟩
    exact SqT.of (s2 _ _ hb)
  · rintro i y σ H' hi ⟨o1, o2, o3, rfl, s2, hpb⟩
    obtain ⟨hlt, hy⟩ := List.getElem?_eq_some_iff.mp hi
    have hd : bs[i]? = some (bs[i]'(by omega)) := List.getElem?_eq_getElem _
    generalize bs[i]'(by omega) = dv at hd
    obtain ⟨y', hy', hiy⟩ := hbs.get hd
    rw [hi] at hy'
    cases hy'
    have hiy1 := hiy.same s2
    have wb : Wd 1000 7 dv := w3.2 _ (List.mem_of_getElem? hd)
    have s02 := s01.trans s2
    have bad : ∀ H3, Same H' H3 → blockD as.length bs.length dv = false → Q (.bl false) H3 := fun H3 s3 e => q_bl (ir_no3 (all_no hd e)) (hQ _ (s02.trans s3))
    walk_at "go"
    refine m_isiU hiy1 ?_
    walk_at "go"
    refine g_ifBn (fun c1 => ?_) (fun c1 => ?_)
    · walk_at "go"
      exact bad _ (Same.refl _) (blk_not c1)
    obtain ⟨rows, rfl⟩ := isT_inv c1
    walk_at "go"
    refine m_new (ds := []) .nil (by simp) (fun p3 H3 s3 hp3 j3 => ?_)
    have hiy3 := hiy1.same s3
    refine m_eq hiy3 j3 (wb.lay.shaped (by decide)) lay_nil ?_
    rw [eqv_nil]
    walk_at "go"
    refine g_ifB (fun c7 => ?_) (fun c7 => ?_)
    · walk_at "go"
      have e : rows = [] := List.isEmpty_iff.mp c7
      subst e
      exact bad _ s3 rfl
    have hlr : 1 ≤ rows.length := by
      cases rows with
      | nil => cases c7
      | cons _ _ => exact Nat.succ_le_succ (Nat.zero_le _)
    have rlen : rows.length ≤ 1000 := wb.1
    walk_at "go"
    refine m_len hiy3 ?_
    walk_at "go"
    rw [Int.toNat_natCast]
    refine f_range (fun j σ H' => ∃ (o1 o3 : Option V), σ = [some x, o1, some y, o3] ∧ Same H3 H' ∧ ∀ (j' : Nat) (e : PyData), j' < j → rows[j']? = some e → (rowD as.length bs.length e && (endR e == decide ((j' : Int) = (rows.length : Int) - 1))) = true)
      ⟨_, _, rfl, Same.refl _, fun j e hj => absurd hj (Nat.not_lt_zero _)⟩ ?_ ?_
    · rintro j σ H4 hj ⟨o1, o3, rfl, s4, hpr⟩
      have s04 := (s02.trans s3).trans s4
      have e0 : (0 : Int) + (j : Int) = (j : Int) := by omega
      have hrj : rows[j]? = some (rows[j]'hj) := List.getElem?_eq_getElem _
      generalize rows[j]'hj = rj at hrj
      walk_at "go"
      refine m_ix (hiy3.same s4) (n := j) (by omega) hrj (fun v8 hv8 => ?_)
      walk_at "go"
      refine m_ix (him.same s04) (n := 0) rfl rfl (fun va hva => ?_)
      walk_at "go"
      refine m_len hva ?_
      walk_at "go"
      refine m_ix (him.same s04) (n := 2) rfl rfl (fun vb hvb => ?_)
      walk_at "go"
      refine m_len hvb ?_
      walk_at "go"
      refine m_len (hiy3.same s4) ?_
      walk_at "go"
      refine ⟨v8, _, _, _, rj, rfl, hv8, ((wb.2 _ (List.mem_of_getElem? hrj)).lay).mono (by decide), fun H5 s5 => ?_⟩
      rw [e0]
      walk_at "go"
      refine g_ifBn (fun c8 => ?_) (fun c8 => ?_)
      · walk_at "go"
        exact bad _ ((s3.trans s4).trans s5) (blk_bad hrj c8)
      · walk_at "go"
        refine ⟨_, _, rfl, s4.trans s5, fun j' e hj' he => ?_⟩
        by_cases cj : j' = j
        · subst cj
          rw [hrj] at he
          cases he
          exact c8
        · exact hpr j' e (by omega) he
    · rintro σ H4 ⟨o1, o3, rfl, s4, hpr⟩
      walk_at "go"
      refine ⟨_, _, _, rfl, (s2.trans s3).trans s4, pre_snoc hpb hd (blk_ok hlr fun j e he => hpr j e ((List.getElem?_eq_some_iff.mp he).1) he)⟩
  · rintro σ H' ⟨o1, o2, o3, rfl, s2, hpb⟩
    walk_at "go"
    have hallb : bs.all (blockD as.length bs.length) = true := all_yes fun i e he => hpb i e (by have := (List.getElem?_eq_some_iff.mp he).1; omega) he
    refine q_bl ?_ (hQ _ (s01.trans s2))
    rw [ir_3, hall, c5, hallb, decide_eq_true hlb]
    rfl


/-! ### k60: sums in plain whole numbers -/
theorem bit2 (x k : Nat) : x / 2 ^ k % 2 = 0 ∨ x / 2 ^ k % 2 = 1 := by omega
theorem tbn {x k n : Nat} (h : x.testBit k = decide (n = 1)) (hn : n = 0 ∨ n = 1) : x / 2 ^ k % 2 = n := by
  rw [Nat.testBit_eq_decide_div_mod_eq] at h
  have h := decide_eq_decide.mp h
  have := bit2 x k
  omega
theorem and_step (x y k : Nat) : (x &&& y) % 2 ^ (k + 1) = (x &&& y) % 2 ^ k + (if x / 2 ^ k % 2 + y / 2 ^ k % 2 = 2 then 2 ^ k else 0) := by
  rw [Nat.mod_pow_succ]
  have e : (x &&& y) / 2 ^ k % 2 = if x / 2 ^ k % 2 + y / 2 ^ k % 2 = 2 then 1 else 0 := by
    refine tbn ?_ (by split <;> simp)
    rw [Nat.testBit_and, Nat.testBit_eq_decide_div_mod_eq, Nat.testBit_eq_decide_div_mod_eq]
    rcases bit2 x k with h | h <;> rcases bit2 y k with g | g <;> simp [h, g]
  rw [e]
  split <;> simp
theorem or_step (x y k : Nat) : (x ||| y) % 2 ^ (k + 1) = (x ||| y) % 2 ^ k + (if x / 2 ^ k % 2 + y / 2 ^ k % 2 > 0 then 2 ^ k else 0) := by
  rw [Nat.mod_pow_succ]
  have e : (x ||| y) / 2 ^ k % 2 = if x / 2 ^ k % 2 + y / 2 ^ k % 2 > 0 then 1 else 0 := by
    refine tbn ?_ (by split <;> simp)
    rw [Nat.testBit_or, Nat.testBit_eq_decide_div_mod_eq, Nat.testBit_eq_decide_div_mod_eq]
    rcases bit2 x k with h | h <;> rcases bit2 y k with g | g <;> simp [h, g]
  rw [e]
  split <;> simp
theorem xor_step (x y k : Nat) : (x ^^^ y) % 2 ^ (k + 1) = (x ^^^ y) % 2 ^ k + (if ¬ x / 2 ^ k % 2 = y / 2 ^ k % 2 then 2 ^ k else 0) := by
  rw [Nat.mod_pow_succ]
  have e : (x ^^^ y) / 2 ^ k % 2 = if ¬ x / 2 ^ k % 2 = y / 2 ^ k % 2 then 1 else 0 := by
    refine tbn ?_ (by split <;> simp)
    rw [Nat.testBit_xor, Nat.testBit_eq_decide_div_mod_eq, Nat.testBit_eq_decide_div_mod_eq]
    rcases bit2 x k with h | h <;> rcases bit2 y k with g | g <;> simp [h, g]
  rw [e]
  split <;> simp
theorem bitI (x k : Nat) : ((x : Int) / (1 * 2 ^ k)) % 2 = ((x / 2 ^ k % 2 : Nat) : Int) := by
  rw [Int.one_mul]
  have : ((2 : Int) ^ k) = ((2 ^ k : Nat) : Int) := by simp
  rw [this]
  omega
theorem divs {a b q r : Int} (h : a = q * b + r) (h0 : 0 ≤ r) (h1 : r < b) : a / b = q ∧ a % b = r := by
  have hb : 0 < b := by omega
  subst h
  constructor
  · rw [Int.add_comm, Int.add_mul_ediv_right _ _ (by omega), Int.ediv_eq_zero_of_lt h0 h1]; omega
  · rw [Int.add_comm, Int.add_mul_emod_self_right, Int.emod_eq_of_lt h0 h1]
theorem pw_split {k : Nat} (h : k < 32) : (2 : Int) ^ (32 - k) = 2 * 2 ^ (31 - k) := by
  have e : 32 - k = (31 - k) + 1 := by omega
  rw [e, Int.pow_succ]; omega
theorem shl_step (a : Int) (k : Nat) : (a * (1 * 2 ^ k) % 4294967296 * 2) % 4294967296 = a * (1 * 2 ^ (k + 1)) % 4294967296 := by
  rw [Int.mul_emod, Int.emod_emod, ← Int.mul_emod, Int.pow_succ, Int.one_mul, Int.one_mul, Int.mul_assoc]
theorem shr_step (a : Int) (k : Nat) : a / (1 * 2 ^ k) / 2 = a / (1 * 2 ^ (k + 1)) := by
  have hp : (0 : Int) < 2 ^ k := Int.pow_pos (by decide)
  rw [Int.one_mul, Int.one_mul, Int.pow_succ, Int.ediv_ediv, if_neg (by omega), Int.sub_zero]
theorem div_step {a b q r : Int} {k : Nat} (hk : k < 32) (h : a = q * b + r) (h1 : r < b * 2 ^ (32 - k)) :
    (b * (1 * 2 ^ (31 - k)) ≤ r → a = (q + 1 * 2 ^ (31 - k)) * b + (r - b * (1 * 2 ^ (31 - k))) ∧ 0 ≤ r - b * (1 * 2 ^ (31 - k)) ∧ r - b * (1 * 2 ^ (31 - k)) < b * 2 ^ (31 - k)) ∧ (¬ b * (1 * 2 ^ (31 - k)) ≤ r → r < b * 2 ^ (31 - k)) := by
  rw [pw_split hk, show b * (2 * 2 ^ (31 - k)) = 2 * (b * 2 ^ (31 - k)) by rw [← Int.mul_assoc, Int.mul_comm b 2, Int.mul_assoc]] at h1
  rw [Int.one_mul, Int.add_mul, Int.mul_comm (2 ^ (31 - k)) b]
  constructor
  · intro h2
    refine ⟨by omega, by omega, by omega⟩
  · intro h2
    omega
theorem pow31 {i : Nat} (h : i < 32) : 0 < 1 * (2 : Int) ^ (0 + (i : Int)).toNat ∧ 1 * (2 : Int) ^ (0 + (i : Int)).toNat < 18446744073709551616 := by
  have e : (0 + (i : Int)).toNat = i := by omega
  have k : ∀ j : Nat, j < 32 → 0 < 1 * (2 : Int) ^ j ∧ 1 * (2 : Int) ^ j < 18446744073709551616 := by decide +kernel
  rw [e]
  exact k i h
theorem bitI0 (x i : Nat) : ((x : Int) / (1 * 2 ^ (0 + (i : Int)).toNat)) % 2 = ((x / 2 ^ i % 2 : Nat) : Int) := by
  have e : (0 + (i : Int)).toNat = i := by omega
  rw [e, bitI]
theorem addP {p q i : Nat} (h : q = p + 2 ^ i) : (p : Int) + 1 * 2 ^ (0 + (i : Int)).toNat = (q : Int) := by
  have e : (0 + (i : Int)).toNat = i := by omega
  have e2 : ((2 : Int) ^ i) = ((2 ^ i : Nat) : Int) := by simp
  rw [e, Int.one_mul, e2]
  omega
def sp_law_bits (K : PySem.W.Frag) : Sp := fun vs H Q _ => ∃ (s : Sg) (z : Str) (x y : Nat), vs = [.str z, .int (x : Int), .int (y : Int)] ∧ z = s.s ∧ (s = .band ∨ s = .bor ∨ s = .bxor) ∧ x < 4294967296 ∧ y < 4294967296 ∧ Q (.int (appD s x y)) H
theorem sc_law_bits : FnScope ["sign", "a", "b", "word", "k", "one", "other"] ["sign", "a", "b"] (defScope (topS 25)) := ⟨rfl, rfl, rfl, by decide +kernel, rfl, by decide +kernel, by decide +kernel⟩
theorem ok_law_bits (T : Txt fa fn K mg (CsOk cs K w)) : Dn P w K mg base CX0 1 "_law_bits" ["sign", "a", "b"] (sp_law_bits K) := by
  refine mk_dn (d := dOf "_law_bits" 25) T 16 16 rfl rfl rfl rfl rfl sc_law_bits (by walk_at "len") (fun _ _ _ _ _ _ us hl => match us, hl with | [_, _, _], _ => rfl) (fun cdv A outer s H vs Q E hr h => ⟨_, (pss_cons (ps_set (i := 3) sc_law_bits.nd rfl (.inl rfl) pe_int)
      (pss_cons (ps_for PassesOwn.never rfl (pi_r1 rfl (T.free 30 rfl) (pa_cons pe_int pa_nil)) (pg_name (i := 4) sc_law_bits.nd rfl (.inl rfl)) (pss_cons (ps_set (i := 5) sc_law_bits.nd rfl (.inl rfl) (pe_op o_mod (pe_callTy c_int rfl (T.free 27 rfl) (by decide +kernel) (pa_cons (pe_op o_fdiv (pv 1) (pe_op o_shl pe_int (pv 4))) pa_nil)) pe_int))
      (pss_cons (ps_set (i := 6) sc_law_bits.nd rfl (.inl rfl) (pe_op o_mod (pe_callTy c_int rfl (T.free 27 rfl) (by decide +kernel) (pa_cons (pe_op o_fdiv (pv 2) (pe_op o_shl pe_int (pv 4))) pa_nil)) pe_int))
      (pss_one (ps_if (PW.pt (pw_or (PW.pt (pw_and (pt_cmpR (op_eqU (K := K) rfl hr.units) (pv 0) pe_str (nomark _)) (pw_and1 (pt_cmpR (op_eqU (K := K) rfl hr.units) (pe_op (op_addU (K := K) rfl) (pv 5) (pv 6)) pe_int (nomark _))))) (pw_or (PW.pt (pw_and (pt_cmpR (op_eqU (K := K) rfl hr.units) (pv 0) pe_str (nomark _)) (pw_and1 (pt_cmpR o_gt (pe_op (op_addU (K := K) rfl) (pv 5) (pv 6)) pe_int (nomark _))))) (pw_or1 (PW.pt (pw_and (pt_cmpR (op_eqU (K := K) rfl hr.units) (pv 0) pe_str (nomark _)) (pw_and1 (pt_cmpR (op_neU (K := K) rfl hr.units) (pv 5) (pv 6) (nomark _))))))))) (pss_one (ps_aug (i := 3) sc_law_bits.nd rfl (.inl rfl) (pe_op o_shl pe_int (pv 4)) ip_add)) pss_nil)))))
      (pss_one (ps_ret (pv 3))))), ?_⟩)
  obtain ⟨s, z, x, y, rfl, hz, hs, hx, hy, hQ⟩ := h
  have hx2 : x < 2 ^ 32 := hx
  have hy2 : y < 2 ^ 32 := hy
  rcases hs with rfl | rfl | rfl <;> (simp only [Sg.s] at hz; subst hz)
  · have ef : appD .band x y = ((x &&& y : Nat) : Int) := bitAnd_pp (Int.natCast_nonneg x) (Int.natCast_nonneg y)
    have hlt : x &&& y < 2 ^ 32 := Nat.and_lt_two_pow x hy2
    walk_at "go"
    refine f_range (fun i σ H' => ∃ (k o p : Option V), σ = [some (.str "&"), some (.int (x : Int)), some (.int (y : Int)), some (.int (((x &&& y) % 2 ^ i : Nat) : Int)), k, o, p] ∧ H' = H) ⟨_, _, _, by rw [Nat.pow_zero, Nat.mod_one]; rfl, rfl⟩ ?_ ?_
    · rintro i σ H' hi ⟨k, o, p, rfl, rfl⟩
      have hi : i < 32 := hi
      obtain ⟨p1, p2⟩ := pow31 hi
      have st := and_step x y i
      walk_at "go"
      rw [bitI0, bitI0]
      walk_at "go"
      refine g_if (fun c => ?_) (fun c => ?_)
      · rw [if_pos (by omega)] at st
        refine g_ifT ?_
        walk_at "go"
        rw [addP st]
        exact ⟨_, _, _, rfl, rfl⟩
      · rw [if_neg (by omega)] at st
        have e : (x &&& y) % 2 ^ (i + 1) = (x &&& y) % 2 ^ i := st
        walk_at "go"
        rw [e]
        exact ⟨_, _, _, rfl, rfl⟩
    · rintro σ H' ⟨k, o, p, rfl, rfl⟩
      walk_at "go"
      have e : (x &&& y) % 2 ^ Int.toNat 32 = x &&& y := Nat.mod_eq_of_lt hlt
      rw [e, ← ef]
      exact hQ
  · have ef : appD .bor x y = ((x ||| y : Nat) : Int) := Bits.bitOr_pp (Int.natCast_nonneg x) (Int.natCast_nonneg y)
    have hlt : x ||| y < 2 ^ 32 := Nat.or_lt_two_pow hx2 hy2
    walk_at "go"
    refine f_range (fun i σ H' => ∃ (k o p : Option V), σ = [some (.str "|"), some (.int (x : Int)), some (.int (y : Int)), some (.int (((x ||| y) % 2 ^ i : Nat) : Int)), k, o, p] ∧ H' = H) ⟨_, _, _, by rw [Nat.pow_zero, Nat.mod_one]; rfl, rfl⟩ ?_ ?_
    · rintro i σ H' hi ⟨k, o, p, rfl, rfl⟩
      have hi : i < 32 := hi
      obtain ⟨p1, p2⟩ := pow31 hi
      have st := or_step x y i
      walk_at "go"
      rw [bitI0, bitI0]
      walk_at "go"
      refine g_if (fun c => ?_) (fun c => ?_)
      · rw [if_pos (by omega)] at st
        refine g_ifT ?_
        walk_at "go"
        rw [addP st]
        exact ⟨_, _, _, rfl, rfl⟩
      · rw [if_neg (by omega)] at st
        have e : (x ||| y) % 2 ^ (i + 1) = (x ||| y) % 2 ^ i := st
        walk_at "go"
        rw [e]
        exact ⟨_, _, _, rfl, rfl⟩
    · rintro σ H' ⟨k, o, p, rfl, rfl⟩
      walk_at "go"
      have e : (x ||| y) % 2 ^ Int.toNat 32 = x ||| y := Nat.mod_eq_of_lt hlt
      rw [e, ← ef]
      exact hQ
  · have ef : appD .bxor x y = ((x ^^^ y : Nat) : Int) := Bits.bitXor_pp (Int.natCast_nonneg x) (Int.natCast_nonneg y)
    have hlt : x ^^^ y < 2 ^ 32 := Nat.xor_lt_two_pow hx2 hy2
    walk_at "go"
    refine f_range (fun i σ H' => ∃ (k o p : Option V), σ = [some (.str "^"), some (.int (x : Int)), some (.int (y : Int)), some (.int (((x ^^^ y) % 2 ^ i : Nat) : Int)), k, o, p] ∧ H' = H) ⟨_, _, _, by rw [Nat.pow_zero, Nat.mod_one]; rfl, rfl⟩ ?_ ?_
    · rintro i σ H' hi ⟨k, o, p, rfl, rfl⟩
      have hi : i < 32 := hi
      obtain ⟨p1, p2⟩ := pow31 hi
      have st := xor_step x y i
      walk_at "go"
      rw [bitI0, bitI0]
      walk_at "go"
      refine g_ifN (fun c => ?_) (fun c => ?_)
      · rw [if_pos (by omega)] at st
        walk_at "go"
        rw [addP st]
        exact ⟨_, _, _, rfl, rfl⟩
      · rw [if_neg (by omega)] at st
        have e : (x ^^^ y) % 2 ^ (i + 1) = (x ^^^ y) % 2 ^ i := st
        walk_at "go"
        rw [e]
        exact ⟨_, _, _, rfl, rfl⟩
    · rintro σ H' ⟨k, o, p, rfl, rfl⟩
      walk_at "go"
      have e : (x ^^^ y) % 2 ^ Int.toNat 32 = x ^^^ y := Nat.mod_eq_of_lt hlt
      rw [e, ← ef]
      exact hQ
theorem div0 {x y : Nat} (hx : x < 4294967296) (hy : 0 < y) : (x : Int) < y * 2 ^ (32 - 0) := by
  have e : (2 : Int) ^ (32 - 0) = 4294967296 := by decide
  rw [e]
  omega
theorem div1 {y : Nat} {r : Int} (h : r < y * 2 ^ (32 - 32)) : r < y := by
  have e : (2 : Int) ^ (32 - 32) = 1 := by decide
  rw [e] at h
  omega
theorem pow31r {i : Nat} (h : i < 32) : 0 < 1 * (2 : Int) ^ (31 - (0 + (i : Int))).toNat ∧ 1 * (2 : Int) ^ (31 - (0 + (i : Int))).toNat < 18446744073709551616 ∧ 1 * (2 : Int) ^ (31 - (0 + (i : Int))).toNat = 1 * (2 : Int) ^ (31 - i) := by
  have e : (31 - (0 + (i : Int))).toNat = 31 - i := by omega
  have k : ∀ j : Nat, j < 32 → 0 < 1 * (2 : Int) ^ j ∧ 1 * (2 : Int) ^ j < 18446744073709551616 := by decide +kernel
  rw [e]
  exact ⟨(k _ (by omega)).1, (k _ (by omega)).2, rfl⟩
def sp_law_applied (K : PySem.W.Frag) : Sp := fun vs H Q _ => ∃ (s : Sg) (z : Str) (x y : Nat), vs = [.str z, .int (x : Int), .int (y : Int)] ∧ z = s.s ∧ x < 4294967296 ∧ y < 4294967296 ∧ ∀ H', Same H H' → Q (.int (appD s x y)) H'
theorem sc_law_applied : FnScope ["sign", "a", "b", "quotient", "rest", "k", "word", "result"] ["sign", "a", "b"] (defScope (topS 26)) := ⟨rfl, rfl, rfl, by decide +kernel, rfl, by decide +kernel, by decide +kernel⟩
theorem ok_law_applied (T : Txt fa fn K mg (CsOk cs K w)) : Dn P w K mg base CX0 2 "_law_applied" ["sign", "a", "b"] (sp_law_applied K) := by
  refine mk_dn (d := dOf "_law_applied" 26) T 17 17 rfl rfl rfl rfl rfl sc_law_applied (by walk_at "len") (fun _ _ _ _ _ _ us hl => match us, hl with | [_, _, _], _ => rfl) (fun cdv A outer s H vs Q E hr h => ⟨_, (pss_cons (ps_if (pt_cmpR (op_inU (K := K) rfl (hu65 hr)) (pv 0) (pe_lst (pa_cons pe_str (pa_cons pe_str (pa_cons pe_str pa_nil)))) (by rfl)) (pss_one (ps_ret (pe_callD (K := K) rfl (ok_law_bits T) (hr.mono (by decide)) rfl pass0 (pa_cons (pv 0) (pa_cons (pv 1) (pa_cons (pv 2) pa_nil)))))) pss_nil)
      (pss_cons (ps_if (pt_cmpR (op_eqU (K := K) rfl hr.units) (pv 0) pe_str (nomark _)) (pss_cons (ps_set (i := 6) sc_law_applied.nd rfl (.inl rfl) (pv 1))
      (pss_cons (ps_for PassesOwn.never rfl (pi_r1 rfl (T.free 30 rfl) (pa_cons (pe_op o_mod (pe_callTy c_int rfl (T.free 27 rfl) (by decide +kernel) (pa_cons (pv 2) pa_nil)) pe_int) pa_nil)) (pg_name (i := 5) sc_law_applied.nd rfl (.inl rfl)) (pss_one (ps_set (i := 6) sc_law_applied.nd rfl (.inl rfl) (pe_op o_mod (pe_callTy c_int rfl (T.free 27 rfl) (by decide +kernel) (pa_cons (pe_op op_mulU (pv 6) pe_int) pa_nil)) pe_int))))
      (pss_one (ps_ret (pv 6))))) pss_nil)
      (pss_cons (ps_if (pt_cmpR (op_eqU (K := K) rfl hr.units) (pv 0) pe_str (nomark _)) (pss_cons (ps_set (i := 6) sc_law_applied.nd rfl (.inl rfl) (pv 1))
      (pss_cons (ps_for PassesOwn.never rfl (pi_r1 rfl (T.free 30 rfl) (pa_cons (pe_op o_mod (pe_callTy c_int rfl (T.free 27 rfl) (by decide +kernel) (pa_cons (pv 2) pa_nil)) pe_int) pa_nil)) (pg_name (i := 5) sc_law_applied.nd rfl (.inl rfl)) (pss_one (ps_set (i := 6) sc_law_applied.nd rfl (.inl rfl) (pe_op o_fdiv (pv 6) pe_int))))
      (pss_one (ps_ret (pv 6))))) pss_nil)
      (pss_cons (ps_if (pt_cmpR (op_inU (K := K) rfl (hu65 hr)) (pv 0) (pe_lst (pa_cons pe_str (pa_cons pe_str (pa_cons pe_str pa_nil)))) (by rfl)) (pss_one (ps_ret (pe_callTy c_int rfl (T.free 27 rfl) (by decide +kernel) (pa_cons (pe_or (pe_and (pe_cmpR (op_eqU (K := K) rfl hr.units) (pv 0) pe_str (nomark _)) (pe_one (pe_cmpR (op_eqU (K := K) rfl hr.units) (pv 1) (pv 2) (nomark _)))) (pe_or (pe_and (pe_cmpR (op_eqU (K := K) rfl hr.units) (pv 0) pe_str (nomark _)) (pe_one (pe_cmpR o_lt (pv 1) (pv 2) (nomark _)))) (pe_one (pe_and (pe_cmpR (op_eqU (K := K) rfl hr.units) (pv 0) pe_str (nomark _)) (pe_one (pe_not (pe_cmpR o_lt (pv 2) (pv 1) (nomark _)))))))) pa_nil)))) pss_nil)
      (pss_cons (ps_if (pt_cmpR (op_inU (K := K) rfl (hu65 hr)) (pv 0) (pe_lst (pa_cons pe_str (pa_cons pe_str (pa_cons pe_str pa_nil)))) (by rfl)) (pss_cons (ps_set (i := 7) sc_law_applied.nd rfl (.inl rfl) (pe_op (op_addU (K := K) rfl) (pv 1) (pv 2)))
      (pss_cons (ps_if (pt_cmpR (op_eqU (K := K) rfl hr.units) (pv 0) pe_str (nomark _)) (pss_one (ps_set (i := 7) sc_law_applied.nd rfl (.inl rfl) (pe_op (op_addU (K := K) rfl) (pe_op op_sub (pv 1) (pv 2)) pe_int))) (pss_one (ps_if (pt_cmpR (op_eqU (K := K) rfl hr.units) (pv 0) pe_str (nomark _)) (pss_one (ps_set (i := 7) sc_law_applied.nd rfl (.inl rfl) (pe_op op_mulU (pv 1) (pv 2)))) pss_nil)))
      (pss_one (ps_ret (pe_op op_sub (pv 7) (pe_op op_mulU pe_int (pe_op o_fdiv (pv 7) pe_int))))))) pss_nil)
      (pss_cons (ps_if (pt_cmpR (op_eqU (K := K) rfl hr.units) (pv 2) pe_int (nomark _)) (pss_one (ps_ret (pe_ixU (K := K) rfl (hu_of hr) (pe_lst (pa_cons pe_int (pa_cons (pv 1) pa_nil))) (pe_callTy c_int rfl (T.free 27 rfl) (by decide +kernel) (pa_cons (pe_cmpR (op_eqU (K := K) rfl hr.units) (pv 0) pe_str (nomark _)) pa_nil))))) pss_nil)
      (pss_cons (ps_set (i := 3) sc_law_applied.nd rfl (.inl rfl) pe_int)
      (pss_cons (ps_set (i := 4) sc_law_applied.nd rfl (.inl rfl) (pv 1))
      (pss_cons (ps_for PassesOwn.never rfl (pi_r1 rfl (T.free 30 rfl) (pa_cons pe_int pa_nil)) (pg_name (i := 5) sc_law_applied.nd rfl (.inl rfl)) (pss_one (ps_if (pt_cmpR o_le (pe_op op_mulU (pv 2) (pe_op o_shl pe_int (pe_op op_sub pe_int (pv 5)))) (pv 4) (nomark _)) (pss_cons (ps_set (i := 4) sc_law_applied.nd rfl (.inl rfl) (pe_op op_sub (pv 4) (pe_op op_mulU (pv 2) (pe_op o_shl pe_int (pe_op op_sub pe_int (pv 5))))))
      (pss_one (ps_set (i := 3) sc_law_applied.nd rfl (.inl rfl) (pe_op (op_addU (K := K) rfl) (pv 3) (pe_op o_shl pe_int (pe_op op_sub pe_int (pv 5))))))) pss_nil)))
      (pss_one (ps_ret (pe_ixU (K := K) rfl (hu_of hr) (pe_lst (pa_cons (pv 3) (pa_cons (pv 4) pa_nil))) (pe_callTy c_int rfl (T.free 27 rfl) (by decide +kernel) (pa_cons (pe_cmpR (op_eqU (K := K) rfl hr.units) (pv 0) pe_str (nomark _)) pa_nil)))))))))))))), ?_⟩)
  obtain ⟨s, z, x, y, rfl, hz, hx, hy, hQ⟩ := h
  walk_at "go"
  refine ⟨by decide, fun q hq => ?_⟩
  have s1 := Same.new (o := .lst [.str "&", .str "|", .str "^"]) hq
  refine g_inTs (ks := ["&", "|", "^"]) (.inr upd_same) ?_
  walk_at "go"
  cases s <;> (simp only [Sg.s] at hz; subst hz)
  case band =>
    refine g_is (by decide +kernel) ?_
    walk_at "go"
    exact ⟨.band, _, x, y, rfl, rfl, .inl rfl, hx, hy, hQ _ s1⟩
  case bor =>
    refine g_is (by decide +kernel) ?_
    walk_at "go"
    exact ⟨.bor, _, x, y, rfl, rfl, .inr (.inl rfl), hx, hy, hQ _ s1⟩
  case bxor =>
    refine g_is (by decide +kernel) ?_
    walk_at "go"
    exact ⟨.bxor, _, x, y, rfl, rfl, .inr (.inr rfl), hx, hy, hQ _ s1⟩
  all_goals
    refine g_isnt (by decide +kernel) ?_
    walk_at "go"
  case shl =>
    refine f_range (fun i σ H' => ∃ (w : Int) (k o1 o2 o3 : Option V), σ = [some (.str "<<"), some (.int (x : Int)), some (.int (y : Int)), k, o1, o2, some (.int w), o3] ∧ Same H H' ∧ w = (x : Int) * (1 * 2 ^ i) % 4294967296 ∧ 0 ≤ w ∧ w < 4294967296) ⟨x, _, _, _, _, rfl, s1, by rw [Int.pow_zero]; omega, by omega, by omega⟩ ?_ ?_
    · rintro i σ H' hi ⟨w, k, o1, o2, o3, rfl, sm, hw, h0, h1⟩
      walk_at "go"
      exact ⟨w * 2 % 4294967296, _, _, _, _, rfl, sm, by rw [hw, shl_step], by omega, by omega⟩
    · rintro σ H' ⟨w, k, o1, o2, o3, rfl, sm, hw, h0, h1⟩
      walk_at "go"
      rw [hw]
      exact hQ _ sm
  case shr =>
    refine f_range (fun i σ H' => ∃ (w : Int) (k o1 o2 o3 : Option V), σ = [some (.str ">>"), some (.int (x : Int)), some (.int (y : Int)), k, o1, o2, some (.int w), o3] ∧ Same H H' ∧ w = (x : Int) / (1 * 2 ^ i)) ⟨x, _, _, _, _, rfl, s1, by rw [Int.pow_zero]; omega⟩ ?_ ?_
    · rintro i σ H' hi ⟨w, k, o1, o2, o3, rfl, sm, hw⟩
      walk_at "go"
      exact ⟨w / 2, _, _, _, _, rfl, sm, by rw [hw, shr_step]⟩
    · rintro σ H' ⟨w, k, o1, o2, o3, rfl, sm, hw⟩
      walk_at "go"
      rw [hw]
      exact hQ _ sm
  all_goals
    refine ⟨by decide, fun q2 hq2 => ?_⟩
    have s2 := s1.trans (Same.new (o := .lst [.str "==", .str "<", .str "<="]) hq2)
    refine g_inTs (ks := ["==", "<", "<="]) (.inr upd_same) ?_
    walk_at "go"
  case eq =>
    refine g_is (by decide +kernel) ?_
    walk_at "go"
    refine g_if (fun c => ?_) (fun c => ?_)
    · walk_at "go"
      refine q_int ?_ (hQ _ s2)
      show (if decide ((x : Int) = y) then (1 : Int) else 0) = _
      rw [decide_eq_true c]
    · walk_at "go"
      refine q_int ?_ (hQ _ s2)
      show (if decide ((x : Int) = y) then (1 : Int) else 0) = _
      rw [decide_eq_false c]
  case lt =>
    refine g_is (by decide +kernel) ?_
    walk_at "go"
    refine g_if (fun c => ?_) (fun c => ?_)
    · walk_at "go"
      refine q_int ?_ (hQ _ s2)
      show (if decide ((x : Int) < y) then (1 : Int) else 0) = _
      rw [decide_eq_true c]
    · walk_at "go"
      refine q_int ?_ (hQ _ s2)
      show (if decide ((x : Int) < y) then (1 : Int) else 0) = _
      rw [decide_eq_false c]
  case le =>
    refine g_is (by decide +kernel) ?_
    walk_at "go"
    refine q_int ?_ (hQ _ s2)
    show (if decide ((x : Int) ≤ y) then (1 : Int) else 0) = _
    by_cases c : (y : Int) < x
    · rw [decide_eq_true c, decide_eq_false (by omega)]
      rfl
    · rw [decide_eq_false c, decide_eq_true (by omega)]
      rfl
  all_goals
    refine g_isnt (by decide +kernel) ?_
    walk_at "go"
    refine ⟨by decide, fun q3 hq3 => ?_⟩
    have s3 := s2.trans (Same.new (o := .lst [.str "+", .str "-", .str "*"]) hq3)
    refine g_inTs (ks := ["+", "-", "*"]) (.inr upd_same) ?_
    walk_at "go"
  case add =>
    refine g_is (by decide +kernel) ?_
    walk_at "go"
    refine q_int ?_ (hQ _ s3)
    show ((x : Int) + y) % 4294967296 = _
    omega
  case sub =>
    refine g_is (by decide +kernel) ?_
    walk_at "go"
    refine q_int ?_ (hQ _ s3)
    show ((x : Int) - y) % 4294967296 = _
    omega
  case mul =>
    refine g_is (by decide +kernel) ?_
    walk_at "go"
    refine q_int ?_ (hQ _ s3)
    show ((x : Int) * y) % 4294967296 = _
    rw [Int.emod_def]
  case div =>
    refine g_isnt (by decide +kernel) ?_
    walk_at "go"
    refine g_if (fun c => ?_) (fun c => ?_)
    · walk_at "go"
      refine ⟨by show 2 ≤ sizeLine; decide, fun q4 hq4 => ?_⟩
      have s4 := s3.trans (Same.new (o := .lst [.int 0, .int (x : Int)]) hq4)
      walk_at "go"
      refine g_ixL (SqL.of upd_same) (n := 0) rfl rfl ?_
      refine q_int ?_ (hQ _ s4)
      show (if (y : Int) = 0 then (0 : Int) else _) = _
      rw [if_pos c]
    · have py : 0 < y := by omega
      walk_at "go"
      refine f_range (fun i σ H' => ∃ (q r : Int) (k o1 o2 : Option V), σ = [some (.str "div"), some (.int (x : Int)), some (.int (y : Int)), some (.int q), some (.int r), k, o1, o2] ∧ Same H H' ∧ (x : Int) = q * y + r ∧ 0 ≤ r ∧ r < y * 2 ^ (32 - i)) ⟨0, x, _, _, _, rfl, s3, by omega, by omega, div0 hx py⟩ ?_ ?_
      · rintro i σ H' hi ⟨q, r, k, o1, o2, rfl, sm, h1, h2, h3⟩
        have hi : i < 32 := hi
        obtain ⟨p1, p2, p3⟩ := pow31r hi
        obtain ⟨d1, d2⟩ := div_step hi h1 h3
        have ei : (31 - (0 + (i : Int))).toNat = 31 - i := by omega
        have e32 : 32 - (i + 1) = 31 - i := by omega
        walk_at "go"
        refine g_if (fun c1 => ?_) (fun c1 => ?_)
        · rw [p3] at c1
          obtain ⟨f1, f2, f3⟩ := d1 c1
          walk_at "go"
          refine ⟨_, _, _, _, _, rfl, sm, ?_, ?_, ?_⟩
          · rw [p3]
            exact f1
          · rw [p3]
            exact f2
          · rw [p3, e32]
            exact f3
        · rw [p3] at c1
          walk_at "go"
          exact ⟨_, _, _, _, _, rfl, sm, h1, h2, by rw [e32]; exact d2 c1⟩
      · rintro σ H' ⟨q, r, k, o1, o2, rfl, sm, h1, h2, h3⟩
        obtain ⟨e1, e2⟩ := divs h1 h2 (div1 h3)
        walk_at "go"
        refine ⟨by show 2 ≤ sizeLine; decide, fun q4 hq4 => ?_⟩
        have s4 := sm.trans (Same.new (o := .lst [.int q, .int r]) hq4)
        walk_at "go"
        refine g_ixL (SqL.of upd_same) (n := 0) rfl rfl ?_
        refine q_int ?_ (hQ _ s4)
        show (if (y : Int) = 0 then (0 : Int) else (x : Int) / y) = _
        rw [if_neg c, e1]
  case mod =>
    refine g_isnt (by decide +kernel) ?_
    walk_at "go"
    refine g_if (fun c => ?_) (fun c => ?_)
    · walk_at "go"
      refine ⟨by show 2 ≤ sizeLine; decide, fun q4 hq4 => ?_⟩
      have s4 := s3.trans (Same.new (o := .lst [.int 0, .int (x : Int)]) hq4)
      walk_at "go"
      refine g_ixL (SqL.of upd_same) (n := 1) rfl rfl ?_
      refine q_int ?_ (hQ _ s4)
      show (if (y : Int) = 0 then (x : Int) else _) = _
      rw [if_pos c]
    · have py : 0 < y := by omega
      walk_at "go"
      refine f_range (fun i σ H' => ∃ (q r : Int) (k o1 o2 : Option V), σ = [some (.str "mod"), some (.int (x : Int)), some (.int (y : Int)), some (.int q), some (.int r), k, o1, o2] ∧ Same H H' ∧ (x : Int) = q * y + r ∧ 0 ≤ r ∧ r < y * 2 ^ (32 - i)) ⟨0, x, _, _, _, rfl, s3, by omega, by omega, div0 hx py⟩ ?_ ?_
      · rintro i σ H' hi ⟨q, r, k, o1, o2, rfl, sm, h1, h2, h3⟩
        have hi : i < 32 := hi
        obtain ⟨p1, p2, p3⟩ := pow31r hi
        obtain ⟨d1, d2⟩ := div_step hi h1 h3
        have ei : (31 - (0 + (i : Int))).toNat = 31 - i := by omega
        have e32 : 32 - (i + 1) = 31 - i := by omega
        walk_at "go"
        refine g_if (fun c1 => ?_) (fun c1 => ?_)
        · rw [p3] at c1
          obtain ⟨f1, f2, f3⟩ := d1 c1
          walk_at "go"
          refine ⟨_, _, _, _, _, rfl, sm, ?_, ?_, ?_⟩
          · rw [p3]
            exact f1
          · rw [p3]
            exact f2
          · rw [p3, e32]
            exact f3
        · rw [p3] at c1
          walk_at "go"
          exact ⟨_, _, _, _, _, rfl, sm, h1, h2, by rw [e32]; exact d2 c1⟩
      · rintro σ H' ⟨q, r, k, o1, o2, rfl, sm, h1, h2, h3⟩
        obtain ⟨e1, e2⟩ := divs h1 h2 (div1 h3)
        walk_at "go"
        refine ⟨by show 2 ≤ sizeLine; decide, fun q4 hq4 => ?_⟩
        have s4 := sm.trans (Same.new (o := .lst [.int q, .int r]) hq4)
        walk_at "go"
        refine g_ixL (SqL.of upd_same) (n := 1) rfl rfl ?_
        refine q_int ?_ (hQ _ s4)
        show (if (y : Int) = 0 then (x : Int) else (x : Int) % y) = _
        rw [if_neg c, e2]


/-! ### k60: words, bent programs -/
def sp_law_word (K : PySem.W.Frag) : Sp := fun vs H Q _ => ∃ (d : Addr) (L : List (Addr × HO)), vs = [.ref d] ∧ DrL H d L ∧ ∀ H' x, Keep [d] H H' → DrL H' d L → W32 x → Q (.int x) H'
theorem sc_law_word : FnScope ["w"] ["w"] (defScope (topS 24)) := ⟨rfl, rfl, rfl, by decide +kernel, rfl, by decide +kernel, by decide +kernel⟩
theorem ok_law_word (T : Txt fa fn K mg (CsOk cs K w)) : Dn P w K mg base CX0 2 "_law_word" ["w"] (sp_law_word K) := by
  refine mk_dn (d := dOf "_law_word" 24) T 15 15 rfl rfl rfl rfl rfl sc_law_word (by walk_at "len") (fun _ _ _ _ _ _ us hl => match us, hl with | [_], _ => rfl) (fun cdv A outer s H vs Q E hr h => ⟨_, (pss_one (ps_ret (pe_ixU (K := K) rfl (hu_of hr) (pe_lst (pa_cons (pe_callD (K := K) rfl (ok_law_next T) (hr.mono (by decide)) rfl pass0 (pa_cons (pv 0) (pa_cons pe_int pa_nil))) (pa_cons (pe_callD (K := K) rfl (ok_law_next T) (hr.mono (by decide)) rfl pass0 (pa_cons (pv 0) (pa_cons pe_int pa_nil))) (pa_cons (pe_op op_sub pe_int (pe_callD (K := K) rfl (ok_law_next T) (hr.mono (by decide)) rfl pass0 (pa_cons (pv 0) (pa_cons pe_int pa_nil)))) (pa_cons (pe_op op_mulU (pe_callD (K := K) rfl (ok_law_next T) (hr.mono (by decide)) rfl pass0 (pa_cons (pv 0) (pa_cons pe_int pa_nil))) pe_int) pa_nil))))) (pe_callD (K := K) rfl (ok_law_next T) (hr.mono (by decide)) rfl pass0 (pa_cons (pv 0) (pa_cons pe_int pa_nil)))))), ?_⟩)
  obtain ⟨d, L, rfl, D, hQ⟩ := h
  walk_at "go"
  refine use_nx D (by decide) (fun H1 v1 k1 D1 h10 h11 => ?_)
  walk_at "go"
  refine use_nx D1 (by decide) (fun H2 v2 k2 D2 h20 h21 => ?_)
  walk_at "go"
  refine use_nx D2 (by decide) (fun H3 v3 k3 D3 h30 h31 => ?_)
  walk_at "go"
  refine use_nx D3 (by decide) (fun H4 v4 k4 D4 h40 h41 => ?_)
  walk_at "go"
  refine use_pk D4 rfl rfl (by simp) (by simp) (fun H5 v k5 D5 hv => ?_)
  have kk := (((k1.trans k2).trans k3).trans k4).trans k5
  simp only [List.mem_cons, List.not_mem_nil, or_false] at hv
  rcases hv with rfl | rfl | rfl | rfl
  · exact hQ _ _ kk D5 ⟨h10, by omega⟩
  · exact hQ _ _ kk D5 ⟨h20, by omega⟩
  · exact hQ _ _ kk D5 ⟨by omega, by omega⟩
  · exact hQ _ _ kk D5 ⟨by omega, by omega⟩
def sp_law_spoilt (K : PySem.W.Frag) : Nat → Sp
  | 0 => fun _ _ _ _ => False
  | n + 1 => fun vs H Q _ => ∃ (d : Addr) (L : List (Addr × HO)) (x : V) (m : Int) (e : PyData) (W k : Nat), vs = [.ref d, x, .int m] ∧ DrL H d L ∧ Im H x e ∧ Wd W k e ∧ 0 ≤ m ∧ m ≤ (n : Int) ∧ 4 ≤ W ∧ W ≤ 1000 ∧ k ≤ 9 ∧
    ∀ H' v e', Keep [d] H H' → DrL H' d L → Im H' v e' → Wd (W + 1) (k + 2) e' → Q v H'
theorem thg0 : Wd 4 2 (.tuple []) := wd_t (by simp) (fun x hx => by cases hx)
theorem thg1 : Wd 4 2 (.tuple [.str "stop", .int 0]) := wd_t (by simp) (by
  intro x hx
  simp only [List.mem_cons, List.not_mem_nil, or_false] at hx
  rcases hx with rfl | rfl
  · exact wd_s (by decide +kernel)
  · exact wd_i)
theorem thg2 : Wd 4 2 (.tuple [.str "a", .int 1, .str "secret"]) := wd_t (by simp) (by
  intro x hx
  simp only [List.mem_cons, List.not_mem_nil, or_false] at hx
  rcases hx with rfl | rfl | rfl
  · exact wd_s (by decide +kernel)
  · exact wd_i
  · exact wd_s (by decide +kernel))
theorem thg3 : Wd 4 2 (.tuple [.tuple [.str "jump", .int 0]]) := wd_t (by simp) (by
  intro x hx
  rw [List.mem_singleton.mp hx]
  refine wd_t (by simp) (fun x hx => ?_)
  simp only [List.mem_cons, List.not_mem_nil, or_false] at hx
  rcases hx with rfl | rfl
  · exact wd_s (by decide +kernel)
  · exact wd_i)
theorem wd_cut3 {W k : Nat} {ds es : List PyData} {t : Nat} (wd : Wd W (k + 1) (.tuple ds)) (ht : t < ds.length) (he : ∀ y ∈ es, Wd (W + 1) (k + 2) y) (hl : es.length ≤ 1) : Wd (W + 1) (k + 1 + 2) (.tuple (ds.take t ++ es ++ ds.drop t)) ∧ Wd (W + 1) (k + 1 + 2) (.tuple (ds.take t ++ es ++ ds.drop (t + 1))) := by
  have h1 := wd.1
  have hd : ∀ y ∈ ds, Wd (W + 1) (k + 2) y := fun y hy => (wd.2 y hy).mono (by omega) (by omega)
  constructor
  · refine wd_t ?_ fun y hy => ?_
    · simp only [List.length_append, List.length_take, List.length_drop]
      omega
    · rcases List.mem_append.mp hy with hy | hy
      · rcases List.mem_append.mp hy with hy | hy
        · exact hd y (List.mem_of_mem_take hy)
        · exact he y hy
      · exact hd y (List.mem_of_mem_drop hy)
  · refine wd_t ?_ fun y hy => ?_
    · simp only [List.length_append, List.length_take, List.length_drop]
      omega
    · rcases List.mem_append.mp hy with hy | hy
      · rcases List.mem_append.mp hy with hy | hy
        · exact hd y (List.mem_of_mem_take hy)
        · exact he y hy
      · exact hd y (List.mem_of_mem_drop hy)
theorem sc_law_spoilt : FnScope ["w", "thing", "steps", "at", "turn", "others"] ["w", "thing", "steps"] (defScope (topS 30)) := ⟨rfl, rfl, rfl, by decide +kernel, rfl, by decide +kernel, by decide +kernel⟩
theorem ok_law_spoilt (T : Txt fa fn K mg (CsOk cs K w)) : ∀ n : Nat, Dn P w K mg base CX0 (2 + n) "_law_spoilt" ["w", "thing", "steps"] (sp_law_spoilt K n)
| 0 => Dn.imp (mk_dn (k := 1) (d := dOf "_law_spoilt" 30) T 21 21 rfl rfl rfl rfl rfl sc_law_spoilt (sp := fun _ _ _ _ => False) (fun _ _ _ _ h => h.elim) (fun _ _ _ _ _ _ us hl => match us, hl with | [_, _, _], _ => rfl) (fun _ _ _ _ _ _ _ _ _ h => h.elim)) (fun _ _ _ _ h => (h : False))
| n + 1 => by
  refine mk_dn (k := 2 + n) (d := dOf "_law_spoilt" 30) T 21 21 rfl rfl rfl rfl rfl sc_law_spoilt (by walk_at "len") (fun _ _ _ _ _ _ us hl => match us, hl with | [_, _, _], _ => rfl) (fun cdv A outer s H vs Q E hr h => ⟨_, (pss_cons (ps_if (PW.pt (pw_or (pt_not (pt_tru (K := K) rfl (pe_callB (c_isi (K := K) rfl) rfl (T.free 28 rfl) (by decide +kernel) (pa_cons (pv 1) (pa_cons (pe_bltn (v := .ty "tuple") rfl (T.free 32 rfl) (by decide +kernel) rfl) pa_nil))))) (pw_or (pt_cmpR (op_eqU (K := K) rfl hr.units) (pv 1) (pe_tup pa_nil) (nomark _)) (pw_or (pt_cmpR (op_eqU (K := K) rfl hr.units) (pv 2) pe_int (nomark _)) (pw_or1 (pt_cmpR (op_eqU (K := K) rfl hr.units) (pe_callD (K := K) rfl (ok_law_next T) (hr.mono (by omega)) rfl pass0 (pa_cons (pv 0) (pa_cons pe_int pa_nil))) pe_int (nomark _))))))) (pss_cons (ps_set (i := 5) sc_law_spoilt.nd rfl (.inl rfl) (pe_lst (pa_cons pe_non (pa_cons pe_bl (pa_cons pe_bl (pa_cons (pe_un un_neg pe_int) (pa_cons pe_int (pa_cons pe_int (pa_cons pe_int (pa_cons pe_int (pa_cons pe_int (pa_cons pe_str (pa_cons pe_str (pa_cons pe_str (pa_cons pe_str (pa_cons (pe_tup pa_nil) (pa_cons (pe_tup (pa_cons pe_str (pa_cons pe_int pa_nil))) (pa_cons (pe_tup (pa_cons pe_str (pa_cons pe_int (pa_cons pe_str pa_nil)))) (pa_cons (pe_tup (pa_cons (pe_tup (pa_cons pe_str (pa_cons pe_int pa_nil))) pa_nil)) pa_nil)))))))))))))))))))
      (pss_one (ps_ret (pe_ixU (K := K) rfl (hu_of hr) (pv 5) (pe_callD (K := K) rfl (ok_law_next T) (hr.mono (by omega)) rfl pass0 (pa_cons (pv 0) (pa_cons (pe_callB (c_len (K := K) rfl) rfl (T.free 29 rfl) (by decide +kernel) (pa_cons (pv 5) pa_nil)) pa_nil))))))) pss_nil)
      (pss_cons (ps_set (i := 3) sc_law_spoilt.nd rfl (.inl rfl) (pe_callD (K := K) rfl (ok_law_next T) (hr.mono (by omega)) rfl pass0 (pa_cons (pv 0) (pa_cons (pe_callB (c_len (K := K) rfl) rfl (T.free 29 rfl) (by decide +kernel) (pa_cons (pv 1) pa_nil)) pa_nil))))
      (pss_cons (ps_set (i := 4) sc_law_spoilt.nd rfl (.inl rfl) (pe_callD (K := K) rfl (ok_law_next T) (hr.mono (by omega)) rfl pass0 (pa_cons (pv 0) (pa_cons pe_int pa_nil))))
      (pss_cons (ps_if (pt_cmpR (op_eqU (K := K) rfl hr.units) (pv 4) pe_int (nomark _)) (pss_one (ps_ret (pe_op (op_addU (K := K) rfl) (pe_slice (sl_U (K := K) rfl) (pv 1) po_none (po_some (pv 3))) (pe_slice (sl_U (K := K) rfl) (pv 1) (po_some (pe_op (op_addU (K := K) rfl) (pv 3) pe_int)) po_none)))) pss_nil)
      (pss_cons (ps_if (pt_cmpR (op_eqU (K := K) rfl hr.units) (pv 4) pe_int (nomark _)) (pss_one (ps_ret (pe_op (op_addU (K := K) rfl) (pe_op (op_addU (K := K) rfl) (pe_slice (sl_U (K := K) rfl) (pv 1) po_none (po_some (pv 3))) (pe_tup (pa_cons (pe_ixU (K := K) rfl (hu_of hr) (pv 1) (pv 3)) pa_nil))) (pe_slice (sl_U (K := K) rfl) (pv 1) (po_some (pv 3)) po_none)))) pss_nil)
      (pss_one (ps_ret (pe_op (op_addU (K := K) rfl) (pe_op (op_addU (K := K) rfl) (pe_slice (sl_U (K := K) rfl) (pv 1) po_none (po_some (pv 3))) (pe_tup (pa_cons (pe_callD (K := K) rfl (ok_law_spoilt T n) (hr.mono (by omega)) rfl pass0 (pa_cons (pv 0) (pa_cons (pe_ixU (K := K) rfl (hu_of hr) (pv 1) (pv 3)) (pa_cons (pe_op op_sub (pv 2) pe_int) pa_nil)))) pa_nil))) (pe_slice (sl_U (K := K) rfl) (pv 1) (po_some (pe_op (op_addU (K := K) rfl) (pv 3) pe_int)) po_none))))))))), ?_⟩)
  obtain ⟨d, L, x, m, e, W, k, rfl, D, him, wd, hm0, hmn, hW0, hW1, hk9, hQ⟩ := h
  walk_at "go"
  refine m_isiU him ?_
  walk_at "go"
  refine g_ifBn (fun c => ?_) (fun c => ?_)
  · skip
    walk_at "go"
    refine m_new (ds := []) .nil (by simp) (fun a1 G1 t1 ha1 j1 => ?_)
    walk_at "go"
    refine m_new (.cons (.str _) (.cons (.int _) .nil)) (by simp) (fun a2 G2 t2 ha2 j2 => ?_)
    walk_at "go"
    refine m_new (.cons (.str _) (.cons (.int _) (.cons (.str _) .nil))) (by simp) (fun a3 G3 t3 ha3 j3 => ?_)
    walk_at "go"
    refine m_new (.cons (.str _) (.cons (.int _) .nil)) (by simp) (fun a4 G4 t4 ha4 j4 => ?_)
    walk_at "go"
    refine m_new (.cons j4 .nil) (by simp) (fun a5 G5 t5 ha5 j5 => ?_)
    walk_at "go"
    refine ⟨by show 17 ≤ sizeLine; decide, fun q1 hq1 => ?_⟩
    generalize hxs : [V.non, V.bl true, _, _, _, _, _, _, _, _, _, _, _, _, _, _, _] = xs
    have lx : xs.length = 17 := by rw [← hxs]; rfl
    have tq := Same.new (o := .lst xs) hq1
    have hq' : upd G5 q1 (.lst xs) q1 = some (.lst xs) := upd_same
    generalize upd G5 q1 (.lst xs) = G6 at tq hq'
    have j1' := ((((j1.same t2).same t3).same t4).same t5).same tq
    have j2' := (((j2.same t3).same t4).same t5).same tq
    have j3' := ((j3.same t4).same t5).same tq
    have j5' := j5.same tq
    have tt := ((((t1.trans t2).trans t3).trans t4).trans t5).trans tq
    have D9 := D.same tt
    have mem : ∀ v ∈ xs, ∃ e, Im G6 v e ∧ Wd 4 2 e := by
      intro v hv
      rw [← hxs] at hv
      simp only [List.mem_cons, List.not_mem_nil, or_false] at hv
      rcases hv with rfl | rfl | rfl | rfl | rfl | rfl | rfl | rfl | rfl | rfl | rfl | rfl | rfl | rfl | rfl | rfl | rfl
      all_goals first | exact ⟨_, .non, wd_o⟩ | exact ⟨_, .bl _, wd_b⟩ | exact ⟨_, .int _, wd_i⟩ | exact ⟨_, .str _, wd_s (by decide +kernel)⟩ | exact ⟨_, j1', thg0⟩ | exact ⟨_, j2', thg1⟩ | exact ⟨_, j3', thg2⟩ | exact ⟨_, j5', thg3⟩
    walk_at "go"
    refine use_nx D9 (by rw [lx]; decide) (fun G10 v10 k10 D10 h100 h101 => ?_)
    rw [lx] at h101
    have hx : v10.toNat < xs.length := by omega
    walk_at "go"
    refine g_ixL (SqL.of (D9.at_ k10 hq' (fun _ e => nomatch e))) (n := v10.toNat) (by omega) (List.getElem?_eq_getElem hx) ?_
    obtain ⟨e1, ie1, we1⟩ := mem _ (List.getElem_mem hx)
    exact hQ _ _ e1 ((Keep.of tt).trans k10) D10 (D9.im k10 ie1) (we1.mono (by omega) (by omega))
  obtain ⟨ds, rfl⟩ := isT_inv c
  obtain ⟨k, rfl⟩ : ∃ k', k = k' + 1 := by
    cases k with
    | zero => exact wd.elim
    | succ k' => exact ⟨k', rfl⟩
  have hlen := wd.1
  walk_at "go"
  refine m_new (ds := []) .nil (by simp) (fun p1 H1 s1 hp1 i1 => ?_)
  have D1 := D.same s1
  have him1 := him.same s1
  refine m_eq him1 i1 (wd.lay.shaped (by omega)) lay_nil ?_
  rw [eqv_nil]
  walk_at "go"
  refine g_ifB (fun c1 => ?_) (fun c1 => ?_)
  · skip
    walk_at "go"
    refine m_new (ds := []) .nil (by simp) (fun a1 G1 t1 ha1 j1 => ?_)
    walk_at "go"
    refine m_new (.cons (.str _) (.cons (.int _) .nil)) (by simp) (fun a2 G2 t2 ha2 j2 => ?_)
    walk_at "go"
    refine m_new (.cons (.str _) (.cons (.int _) (.cons (.str _) .nil))) (by simp) (fun a3 G3 t3 ha3 j3 => ?_)
    walk_at "go"
    refine m_new (.cons (.str _) (.cons (.int _) .nil)) (by simp) (fun a4 G4 t4 ha4 j4 => ?_)
    walk_at "go"
    refine m_new (.cons j4 .nil) (by simp) (fun a5 G5 t5 ha5 j5 => ?_)
    walk_at "go"
    refine ⟨by show 17 ≤ sizeLine; decide, fun q1 hq1 => ?_⟩
    generalize hxs : [V.non, V.bl true, _, _, _, _, _, _, _, _, _, _, _, _, _, _, _] = xs
    have lx : xs.length = 17 := by rw [← hxs]; rfl
    have tq := Same.new (o := .lst xs) hq1
    have hq' : upd G5 q1 (.lst xs) q1 = some (.lst xs) := upd_same
    generalize upd G5 q1 (.lst xs) = G6 at tq hq'
    have j1' := ((((j1.same t2).same t3).same t4).same t5).same tq
    have j2' := (((j2.same t3).same t4).same t5).same tq
    have j3' := ((j3.same t4).same t5).same tq
    have j5' := j5.same tq
    have tt := ((((t1.trans t2).trans t3).trans t4).trans t5).trans tq
    have D9 := D1.same tt
    have mem : ∀ v ∈ xs, ∃ e, Im G6 v e ∧ Wd 4 2 e := by
      intro v hv
      rw [← hxs] at hv
      simp only [List.mem_cons, List.not_mem_nil, or_false] at hv
      rcases hv with rfl | rfl | rfl | rfl | rfl | rfl | rfl | rfl | rfl | rfl | rfl | rfl | rfl | rfl | rfl | rfl | rfl
      all_goals first | exact ⟨_, .non, wd_o⟩ | exact ⟨_, .bl _, wd_b⟩ | exact ⟨_, .int _, wd_i⟩ | exact ⟨_, .str _, wd_s (by decide +kernel)⟩ | exact ⟨_, j1', thg0⟩ | exact ⟨_, j2', thg1⟩ | exact ⟨_, j3', thg2⟩ | exact ⟨_, j5', thg3⟩
    walk_at "go"
    refine use_nx D9 (by rw [lx]; decide) (fun G10 v10 k10 D10 h100 h101 => ?_)
    rw [lx] at h101
    have hx : v10.toNat < xs.length := by omega
    walk_at "go"
    refine g_ixL (SqL.of (D9.at_ k10 hq' (fun _ e => nomatch e))) (n := v10.toNat) (by omega) (List.getElem?_eq_getElem hx) ?_
    obtain ⟨e1, ie1, we1⟩ := mem _ (List.getElem_mem hx)
    exact hQ _ _ e1 (((Keep.of s1).trans (Keep.of tt)).trans k10) D10 (D9.im k10 ie1) (we1.mono (by omega) (by omega))
  have hl1 : 1 ≤ ds.length := by
    cases ds with
    | nil => cases c1
    | cons _ _ => exact Nat.succ_le_succ (Nat.zero_le _)
  walk_at "go"
  refine g_if (fun c2 => ?_) (fun c2 => ?_)
  · skip
    walk_at "go"
    refine m_new (ds := []) .nil (by simp) (fun a1 G1 t1 ha1 j1 => ?_)
    walk_at "go"
    refine m_new (.cons (.str _) (.cons (.int _) .nil)) (by simp) (fun a2 G2 t2 ha2 j2 => ?_)
    walk_at "go"
    refine m_new (.cons (.str _) (.cons (.int _) (.cons (.str _) .nil))) (by simp) (fun a3 G3 t3 ha3 j3 => ?_)
    walk_at "go"
    refine m_new (.cons (.str _) (.cons (.int _) .nil)) (by simp) (fun a4 G4 t4 ha4 j4 => ?_)
    walk_at "go"
    refine m_new (.cons j4 .nil) (by simp) (fun a5 G5 t5 ha5 j5 => ?_)
    walk_at "go"
    refine ⟨by show 17 ≤ sizeLine; decide, fun q1 hq1 => ?_⟩
    generalize hxs : [V.non, V.bl true, _, _, _, _, _, _, _, _, _, _, _, _, _, _, _] = xs
    have lx : xs.length = 17 := by rw [← hxs]; rfl
    have tq := Same.new (o := .lst xs) hq1
    have hq' : upd G5 q1 (.lst xs) q1 = some (.lst xs) := upd_same
    generalize upd G5 q1 (.lst xs) = G6 at tq hq'
    have j1' := ((((j1.same t2).same t3).same t4).same t5).same tq
    have j2' := (((j2.same t3).same t4).same t5).same tq
    have j3' := ((j3.same t4).same t5).same tq
    have j5' := j5.same tq
    have tt := ((((t1.trans t2).trans t3).trans t4).trans t5).trans tq
    have D9 := D1.same tt
    have mem : ∀ v ∈ xs, ∃ e, Im G6 v e ∧ Wd 4 2 e := by
      intro v hv
      rw [← hxs] at hv
      simp only [List.mem_cons, List.not_mem_nil, or_false] at hv
      rcases hv with rfl | rfl | rfl | rfl | rfl | rfl | rfl | rfl | rfl | rfl | rfl | rfl | rfl | rfl | rfl | rfl | rfl
      all_goals first | exact ⟨_, .non, wd_o⟩ | exact ⟨_, .bl _, wd_b⟩ | exact ⟨_, .int _, wd_i⟩ | exact ⟨_, .str _, wd_s (by decide +kernel)⟩ | exact ⟨_, j1', thg0⟩ | exact ⟨_, j2', thg1⟩ | exact ⟨_, j3', thg2⟩ | exact ⟨_, j5', thg3⟩
    walk_at "go"
    refine use_nx D9 (by rw [lx]; decide) (fun G10 v10 k10 D10 h100 h101 => ?_)
    rw [lx] at h101
    have hx : v10.toNat < xs.length := by omega
    walk_at "go"
    refine g_ixL (SqL.of (D9.at_ k10 hq' (fun _ e => nomatch e))) (n := v10.toNat) (by omega) (List.getElem?_eq_getElem hx) ?_
    obtain ⟨e1, ie1, we1⟩ := mem _ (List.getElem_mem hx)
    exact hQ _ _ e1 (((Keep.of s1).trans (Keep.of tt)).trans k10) D10 (D9.im k10 ie1) (we1.mono (by omega) (by omega))
  walk_at "go"
  refine use_nx D1 (by decide) (fun H2 v2 k2 D2 h20 h21 => ?_)
  have kk2 := (Keep.of s1).trans k2
  have im2 := D1.im k2 him1
  walk_at "go"
  refine g_if (fun c3 => ?_) (fun c3 => ?_)
  · skip
    walk_at "go"
    refine m_new (ds := []) .nil (by simp) (fun a1 G1 t1 ha1 j1 => ?_)
    walk_at "go"
    refine m_new (.cons (.str _) (.cons (.int _) .nil)) (by simp) (fun a2 G2 t2 ha2 j2 => ?_)
    walk_at "go"
    refine m_new (.cons (.str _) (.cons (.int _) (.cons (.str _) .nil))) (by simp) (fun a3 G3 t3 ha3 j3 => ?_)
    walk_at "go"
    refine m_new (.cons (.str _) (.cons (.int _) .nil)) (by simp) (fun a4 G4 t4 ha4 j4 => ?_)
    walk_at "go"
    refine m_new (.cons j4 .nil) (by simp) (fun a5 G5 t5 ha5 j5 => ?_)
    walk_at "go"
    refine ⟨by show 17 ≤ sizeLine; decide, fun q1 hq1 => ?_⟩
    generalize hxs : [V.non, V.bl true, _, _, _, _, _, _, _, _, _, _, _, _, _, _, _] = xs
    have lx : xs.length = 17 := by rw [← hxs]; rfl
    have tq := Same.new (o := .lst xs) hq1
    have hq' : upd G5 q1 (.lst xs) q1 = some (.lst xs) := upd_same
    generalize upd G5 q1 (.lst xs) = G6 at tq hq'
    have j1' := ((((j1.same t2).same t3).same t4).same t5).same tq
    have j2' := (((j2.same t3).same t4).same t5).same tq
    have j3' := ((j3.same t4).same t5).same tq
    have j5' := j5.same tq
    have tt := ((((t1.trans t2).trans t3).trans t4).trans t5).trans tq
    have D9 := D2.same tt
    have mem : ∀ v ∈ xs, ∃ e, Im G6 v e ∧ Wd 4 2 e := by
      intro v hv
      rw [← hxs] at hv
      simp only [List.mem_cons, List.not_mem_nil, or_false] at hv
      rcases hv with rfl | rfl | rfl | rfl | rfl | rfl | rfl | rfl | rfl | rfl | rfl | rfl | rfl | rfl | rfl | rfl | rfl
      all_goals first | exact ⟨_, .non, wd_o⟩ | exact ⟨_, .bl _, wd_b⟩ | exact ⟨_, .int _, wd_i⟩ | exact ⟨_, .str _, wd_s (by decide +kernel)⟩ | exact ⟨_, j1', thg0⟩ | exact ⟨_, j2', thg1⟩ | exact ⟨_, j3', thg2⟩ | exact ⟨_, j5', thg3⟩
    walk_at "go"
    refine use_nx D9 (by rw [lx]; decide) (fun G10 v10 k10 D10 h100 h101 => ?_)
    rw [lx] at h101
    have hx : v10.toNat < xs.length := by omega
    walk_at "go"
    refine g_ixL (SqL.of (D9.at_ k10 hq' (fun _ e => nomatch e))) (n := v10.toNat) (by omega) (List.getElem?_eq_getElem hx) ?_
    obtain ⟨e1, ie1, we1⟩ := mem _ (List.getElem_mem hx)
    exact hQ _ _ e1 ((kk2.trans (Keep.of tt)).trans k10) D10 (D9.im k10 ie1) (we1.mono (by omega) (by omega))
  walk_at "go"
  refine m_len im2 ?_
  walk_at "go"
  refine use_nx D2 (by omega) (fun H3 v3 k3 D3 h30 h31 => ?_)
  obtain ⟨t, rfl, ht⟩ := nat_lt_of h30 h31
  have im3' := D2.im k3 im2
  walk_at "go"
  refine use_nx D3 (by decide) (fun H4 v4 k4 D4 h40 h41 => ?_)
  have im4 := D3.im k4 im3'
  have kk4 := (kk2.trans k3).trans k4
  have hd : ds[t]? = some ds[t] := List.getElem?_eq_getElem ht
  generalize ds[t] = dt at hd
  have wt : Wd W k dt := wd.2 _ (List.mem_of_getElem? hd)
  walk_at "go"
  refine g_if (fun c4 => ?_) (fun c4 => ?_)
  · walk_at "go"
    refine m_sl im4 (fun p5 H5 s5 i5 => ?_)
    walk_at "go"
    refine m_sl (im4.same s5) (fun p6 H6 s6 i6 => ?_)
    rw [cutD_to] at i5
    rw [show (t : Int) + 1 = ((t + 1 : Nat) : Int) by omega, cutD_from] at i6
    refine m_cat (i5.same s6) i6 (by simp only [List.length_take, List.length_drop]; omega) (fun p7 H7 s7 i7 => ?_)
    have w := (wd_cut3 (es := []) wd ht (fun y hy => nomatch hy) (Nat.zero_le _)).2
    rw [List.append_nil] at w
    exact hQ _ _ _ (kk4.trans (Keep.of ((s5.trans s6).trans s7))) (D4.same ((s5.trans s6).trans s7)) i7 w
  walk_at "go"
  refine g_if (fun c5 => ?_) (fun c5 => ?_)
  · walk_at "go"
    refine m_sl im4 (fun p5 H5 s5 i5 => ?_)
    walk_at "go"
    refine m_ix (im4.same s5) (n := t) rfl hd (fun v hv => ?_)
    walk_at "go"
    refine m_new (.cons hv .nil) (by simp) (fun p6 H6 s6 hp6 i6 => ?_)
    rw [cutD_to] at i5
    refine m_cat (i5.same s6) i6 (by simp only [List.length_take, List.length_cons, List.length_nil]; omega) (fun p7 H7 s7 i7 => ?_)
    walk_at "go"
    refine m_sl (((im4.same s5).same s6).same s7) (fun p8 H8 s8 i8 => ?_)
    rw [cutD_from] at i8
    refine m_cat (i7.same s8) i8 (by simp only [List.length_append, List.length_take, List.length_drop, List.length_cons, List.length_nil]; omega) (fun p9 H9 s9 i9 => ?_)
    have ss := (((s5.trans s6).trans s7).trans s8).trans s9
    exact hQ _ _ _ (kk4.trans (Keep.of ss)) (D4.same ss) i9 (wd_cut3 wd ht (fun y hy => by rw [List.mem_singleton.mp hy]; exact wt.mono (by omega) (by omega)) (Nat.le_refl _)).1
  walk_at "go"
  refine m_sl im4 (fun p5 H5 s5 i5 => ?_)
  rw [cutD_to] at i5
  walk_at "go"
  refine m_ix (im4.same s5) (n := t) rfl hd (fun v hv => ?_)
  walk_at "go"
  obtain ⟨n', rfl⟩ : ∃ n', n = n' + 1 := ⟨n - 1, by omega⟩
  refine ⟨d, L, v, m - 1, dt, W, k, rfl, D4.same s5, hv, wt, by omega, by omega, hW0, hW1, by omega, fun H6 v6 e6 k6 D6 i6 w6 => ?_⟩
  walk_at "go"
  refine m_new (.cons i6 .nil) (by simp) (fun p7 H7 s7 hp7 i7 => ?_)
  have i5' := (D4.same s5).im k6 i5
  refine m_cat (i5'.same s7) i7 (by simp only [List.length_take, List.length_cons, List.length_nil]; omega) (fun p8 H8 s8 i8 => ?_)
  walk_at "go"
  have im8 := (((D4.same s5).im k6 (im4.same s5)).same s7).same s8
  refine m_sl im8 (fun p9 H9 s9 i9 => ?_)
  rw [show (t : Int) + 1 = ((t + 1 : Nat) : Int) by omega, cutD_from] at i9
  refine m_cat (i8.same s9) i9 (by simp only [List.length_append, List.length_take, List.length_drop, List.length_cons, List.length_nil]; omega) (fun p10 H10 s10 i10 => ?_)
  have ss := ((s7.trans s8).trans s9).trans s10
  exact hQ _ _ _ (((kk4.trans (Keep.of s5)).trans k6).trans (Keep.of ss)) (D6.same ss) i10 (wd_cut3 wd ht (fun y hy => by rw [List.mem_singleton.mp hy]; exact w6) (Nat.le_refl _)).2


/-! ### k60: the law -/
/-! ### size_of -/
/-- the least power of two that is not less (up to 64) -/
def pw (n : Nat) : Nat := if n ≤ 1 then 1 else if n ≤ 2 then 2 else if n ≤ 4 then 4 else if n ≤ 8 then 8 else if n ≤ 16 then 16 else if n ≤ 32 then 32 else 64
def P2 (n : Nat) : Prop := n = 1 ∨ n = 2 ∨ n = 4 ∨ n = 8 ∨ n = 16 ∨ n = 32 ∨ n = 64
theorem pw_p2 (n : Nat) : P2 (pw n) := by
  unfold pw P2
  repeat' split
  all_goals omega
theorem pw_le {n : Nat} (h : n ≤ 64) : n ≤ pw n := by
  unfold pw
  repeat' split
  all_goals omega
theorem pw_at {n z : Nat} (hz : P2 z) (h : z ≤ pw n) (h2 : n ≤ z) : z = pw n := by
  unfold pw P2 at *
  revert h
  repeat' split
  all_goals omega
theorem pw_dbl {n z : Nat} (hz : P2 z) (hn : n ≤ 64) (h : z < n) : P2 (z * 2) ∧ z * 2 ≤ pw n := by
  unfold pw P2 at *
  constructor
  · omega
  · repeat' split
    all_goals omega
theorem p2_pos {z : Nat} (h : P2 z) : 0 < z ∧ z ≤ 64 := by
  unfold P2 at h
  omega
def sp_size_of (K : PySem.W.Frag) : Sp := fun vs H Q _ => ∃ n : Nat, vs = [.int (n : Int)] ∧ n ≤ 64 ∧ Q (.int (pw n : Nat)) H
theorem sc_size_of : FnScope ["length", "size"] ["length"] (defScope (topS 11)) := ⟨rfl, rfl, rfl, by decide +kernel, rfl, by decide +kernel, by decide +kernel⟩
theorem ok_size_of (T : Txt fa fn K mg (CsOk cs K w)) : Dn P w K mg base CX0 1 "size_of" ["length"] (sp_size_of K) := by
  refine mk_dn (d := dOf "size_of" 11) T 3 3 rfl rfl rfl rfl rfl sc_size_of (by walk_at "len") (fun _ _ _ _ _ _ us hl => match us, hl with | [_], _ => rfl) (fun cdv A outer s H vs Q E hr h => ⟨_, (pss_cons (ps_set (i := 1) sc_size_of.nd rfl (.inl rfl) pe_int)
      (pss_cons (ps_while PassesOwn.never (pt_cmpR o_lt (pv 1) (pv 0) (nomark _)) (pss_one (ps_set (i := 1) sc_size_of.nd rfl (.inl rfl) (pe_op op_mulU (pv 1) pe_int))))
      (pss_one (ps_ret (pv 1))))), ?_⟩)
  obtain ⟨n, rfl, hn, hQ⟩ := h
  walk_at "go"
  refine ⟨fun m σ H' => ∃ z : Nat, σ = [some (.int (n : Int)), some (.int (z : Int))] ∧ H' = H ∧ P2 z ∧ z ≤ pw n ∧ m + z = 64, ⟨_, 1, rfl, rfl, .inl rfl, by have := p2_pos (pw_p2 n); omega, show 63 + 1 = 64 from rfl⟩, ?_⟩
  rintro m σ H' ⟨z, rfl, rfl, hz, hp, hm⟩
  walk_at "go"
  refine g_if (fun c => ?_) (fun c => ?_)
  · refine g_whileT ?_
    walk_at "go"
    obtain ⟨d1, d2⟩ := pw_dbl hz hn (by omega)
    have := (p2_pos d1).2
    exact ⟨64 - z * 2, by have := p2_pos hz; omega, z * 2, rfl, rfl, d1, d2, by omega⟩
  · walk_at "go"
    rw [pw_at hz hp (by omega)]
    exact hQ

theorem pw_lt {n : Nat} (h : 1 ≤ n) (h2 : n ≤ 64) : pw n < 2 * n := by
  unfold pw
  repeat' split
  all_goals omega
theorem pw_in (n : Nat) : ([1, 2, 4, 8, 16, 32, 64] : List Int).contains (pw n : Int) = true := by
  rcases pw_p2 n with h | h | h | h | h | h | h <;> rw [h] <;> decide
theorem inV_ints {i : Int} {ks : List Int} : inV (.int i) (ks.map V.int) = ks.contains i := by
  unfold inV
  induction ks with
  | nil => rfl
  | cons z ks ih =>
    rw [List.map_cons, List.any_cons, ih, List.contains_cons]
    congr 1
    have e : eqV (.int z) (.int i) = (z == i) := rfl
    rw [e, Bool.beq_comm]
theorem flat_ints {ks : List Int} : (ks.map V.int).all flatV = true := by
  induction ks with
  | nil => rfl
  | cons z ks ih => rw [List.map_cons, List.all_cons, ih]; rfl
theorem g_niLi {K : PySem.W.Frag} {H : Hp} {Q : VK} {i : Int} {p : Addr} {ks : List Int} (h : H p = some (.lst (ks.map V.int))) (q : Q (.bl (!ks.contains i)) H) : rInU K true (.int i) (.ref p) H Q := by
  refine .inl ⟨p, ks.map V.int, rfl, .inl (SqL.of h), rfl, flat_ints, ?_⟩
  rw [inV_ints]
  exact q
def SGL : List Sg := [.add, .sub, .mul, .band, .bor, .bxor, .shl, .shr, .eq, .lt, .le, .div, .mod]
theorem sg_at {k : Nat} (h : k < 13) : ∃ s : Sg, (SGS.map V.str)[k]? = some (.str s.s) := by
  have e : SGS.map V.str = SGL.map fun s => V.str s.s := rfl
  have hl : k < SGL.length := h
  refine ⟨SGL[k], ?_⟩
  rw [e, List.getElem?_map, List.getElem?_eq_getElem hl]
  rfl
section
variable {A B : Nat} {r : Ins}
theorem p_r {a : Nat} (h : a < 9) : numD 0 100000 (nI a) = true := num_of (by omega) (by omega)
theorem p_n {n : Int} (h : W32 n) : numD 0 4294967295 (.int n) = true := num_of h.l (by have := h.u; omega)
theorem p_i {a : Nat} (h : a < A) : numD 0 ((A : Int) - 1) (nI a) = true := num_of (by omega) (by omega)
theorem p_g (s : Sg) : strD SGS (.str s.s) = true := by cases s <;> decide +kernel
theorem row_ok (h : InsOk 9 A B r) : rowD A B r.d = true := by
  cases r with
  | const d n =>
    show rowD A B (.tuple (.str "const" :: [nI d, .int n])) = true
    rw [row_s (ks := [.r, .n]) (by decide +kernel)]
    show (true && (numD 0 100000 (nI d) && (numD 0 4294967295 (.int n) && true))) = true
    rw [p_r h.1, p_n h.2]
    rfl
  | copy d a =>
    show rowD A B (.tuple (.str "copy" :: [nI d, nI a])) = true
    rw [row_s (ks := [.r, .r]) (by decide +kernel)]
    show (true && (numD 0 100000 (nI d) && (numD 0 100000 (nI a) && true))) = true
    rw [p_r h.1, p_r h.2]
    rfl
  | op s d a b =>
    show rowD A B (.tuple (.str "op" :: [.str s.s, nI d, nI a, nI b])) = true
    rw [row_s (ks := [.g, .r, .r, .r]) (by decide +kernel)]
    show (true && (strD SGS (.str s.s) && (numD 0 100000 (nI d) && (numD 0 100000 (nI a) && (numD 0 100000 (nI b) && true))))) = true
    rw [p_g, p_r h.1, p_r h.2.1, p_r h.2.2]
    rfl
  | sel d c a b =>
    show rowD A B (.tuple (.str "select" :: [nI d, nI c, nI a, nI b])) = true
    rw [row_s (ks := [.r, .r, .r, .r]) (by decide +kernel)]
    show (true && (numD 0 100000 (nI d) && (numD 0 100000 (nI c) && (numD 0 100000 (nI a) && (numD 0 100000 (nI b) && true))))) = true
    rw [p_r h.1, p_r h.2.1, p_r h.2.2.1, p_r h.2.2.2]
    rfl
  | ld d i a =>
    show rowD A B (.tuple (.str "load" :: [nI d, nI i, nI a])) = true
    rw [row_s (ks := [.r, .i, .r]) (by decide +kernel)]
    show (true && (numD 0 100000 (nI d) && (numD 0 ((A : Int) - 1) (nI i) && (numD 0 100000 (nI a) && true)))) = true
    rw [p_r h.1, p_i h.2.1, p_r h.2.2]
    rfl
  | st i a b =>
    show rowD A B (.tuple (.str "store" :: [nI i, nI a, nI b])) = true
    rw [row_s (ks := [.i, .r, .r]) (by decide +kernel)]
    show (true && (numD 0 ((A : Int) - 1) (nI i) && (numD 0 100000 (nI a) && (numD 0 100000 (nI b) && true)))) = true
    rw [p_i h.1, p_r h.2.1, p_r h.2.2]
    rfl
  | out a =>
    show rowD A B (.tuple (.str "out" :: [nI a])) = true
    rw [row_s (ks := [.r]) (by decide +kernel)]
    show (true && (numD 0 100000 (nI a) && true)) = true
    rw [p_r h]
    rfl
  | jmp t =>
    show rowD A B (.tuple (.str "jump" :: [nI t])) = true
    rw [row_s (ks := [.t]) (by decide +kernel)]
    show (true && (numD 0 ((B : Int) - 1) (nI t) && true)) = true
    rw [p_i h]
    rfl
  | br a t u =>
    show rowD A B (.tuple (.str "branch" :: [nI a, nI t, nI u])) = true
    rw [row_s (ks := [.r, .t, .t]) (by decide +kernel)]
    show (true && (numD 0 100000 (nI a) && (numD 0 ((B : Int) - 1) (nI t) && (numD 0 ((B : Int) - 1) (nI u) && true)))) = true
    rw [p_r h.1, p_i h.2.1, p_i h.2.2]
    rfl
  | stp a =>
    show rowD A B (.tuple (.str "stop" :: [nI a])) = true
    rw [row_s (ks := [.r]) (by decide +kernel)]
    show (true && (numD 0 100000 (nI a) && true)) = true
    rw [p_r h]
    rfl
theorem end_r : endR r.d = r.ends := by
  cases r with
  | const _ _ => exact (show ENS.contains "const" = false by decide +kernel)
  | copy _ _ => exact (show ENS.contains "copy" = false by decide +kernel)
  | op _ _ _ _ => exact (show ENS.contains "op" = false by decide +kernel)
  | sel _ _ _ _ => exact (show ENS.contains "select" = false by decide +kernel)
  | ld _ _ _ => exact (show ENS.contains "load" = false by decide +kernel)
  | st _ _ _ => exact (show ENS.contains "store" = false by decide +kernel)
  | out _ => exact (show ENS.contains "out" = false by decide +kernel)
  | jmp _ => exact (show ENS.contains "jump" = true by decide +kernel)
  | br _ _ _ => exact (show ENS.contains "branch" = true by decide +kernel)
  | stp _ => exact (show ENS.contains "stop" = true by decide +kernel)
theorem blk_true {m : Nat} {b : List Ins} (h : BlkOk 9 A B m b) : blockD A B (blkD b) = true := by
  obtain ⟨rs, e, rfl, _, hrs, he, hie⟩ := h
  refine blk_iff.mpr ⟨by rw [List.length_map, List.length_append]; exact Nat.le_add_left _ _, fun i d hi => ?_⟩
  rw [List.getElem?_map] at hi
  obtain ⟨r, hr, rfl⟩ := Option.map_eq_some_iff.mp hi
  rw [end_r, List.length_map, List.length_append, List.length_singleton]
  by_cases c : i < rs.length
  · rw [List.getElem?_append_left c] at hr
    obtain ⟨h1, h2⟩ := hrs r (List.mem_of_getElem? hr)
    exact ⟨row_ok h2, by rw [h1, decide_eq_false (by omega)]⟩
  · rw [List.getElem?_append_right (by omega)] at hr
    have hlt := (List.getElem?_eq_some_iff.mp hr).1
    rw [List.length_singleton] at hlt
    have e0 : i - rs.length = 0 := by omega
    rw [e0] at hr
    cases hr
    exact ⟨row_ok hie, by rw [he, decide_eq_true (by omega)]⟩
theorem arr_true {g : Arr} (h1 : 1 ≤ g.n ∧ g.n ≤ 64) (h2 : g.l = "public" ∨ g.l = "secret") : arrD g.d = true := by
  show (isS (.str g.z) && (numD 1 64 (nI g.n) && strD LAB (.str g.l))) = true
  rw [num_of (show (1 : Int) ≤ (g.n : Int) by omega) (show (g.n : Int) ≤ 64 by omega)]
  have e : strD LAB (.str g.l) = true := by
    rcases h2 with h | h <;> rw [h] <;> decide +kernel
  rw [e]
  rfl
theorem ir_true {arrs : List Arr} {np : Nat} {bls : List (List Ins)} (h : IrOk 9 7 arrs np bls) : irB (irD arrs np bls) = true := by
  have hn := h.np
  rw [ir_3, List.length_map, List.length_map, decide_eq_true h.b1, List.all_map, List.all_map, num_of (show (0 : Int) ≤ (np : Int) by omega) (show (np : Int) ≤ 100001 by omega)]
  have e1 : arrs.all (arrD ∘ Arr.d) = true := List.all_eq_true.mpr fun g hg => arr_true (h.an g hg) (h.ab g hg)
  have e2 : bls.all (blockD arrs.length bls.length ∘ blkD) = true := List.all_eq_true.mpr fun b hb => blk_true (h.bs b hb)
  rw [e1, e2]
  rfl
theorem ins_wd (r : Ins) : Wd 12 1 r.d := by
  cases r with
  | op s d a b =>
    refine wd_t (by show 5 ≤ 12; decide) fun x hx => ?_
    simp only [List.mem_cons, List.not_mem_nil, or_false] at hx
    rcases hx with rfl | rfl | rfl | rfl | rfl
    · exact wd_s (by decide +kernel)
    · exact wd_s (by cases s <;> decide +kernel)
    · exact wd_i
    · exact wd_i
    · exact wd_i
  | sel d c a b =>
    refine wd_t (by show 5 ≤ 12; decide) fun x hx => ?_
    simp only [List.mem_cons, List.not_mem_nil, or_false] at hx
    rcases hx with rfl | rfl | rfl | rfl | rfl <;> first | exact wd_i | exact wd_s (by decide +kernel)
  | const _ _ | copy _ _ | jmp _ | stp _ | out _ | ld _ _ _ | st _ _ _ | br _ _ _ =>
    refine wd_t (by simp) fun x hx => ?_
    simp only [List.mem_cons, List.not_mem_nil, or_false] at hx
    repeat' (rcases hx with rfl | hx)
    all_goals first | exact wd_i | exact wd_s (by decide +kernel) | (rw [hx]; exact wd_i)
theorem ir_wd {arrs : List Arr} {np : Nat} {bls : List (List Ins)} (h : IrOk 9 7 arrs np bls) : Wd 12 4 (irD arrs np bls) := by
  refine wd_t (by show 3 ≤ 12; decide) fun x hx => ?_
  simp only [List.mem_cons, List.not_mem_nil, or_false] at hx
  rcases hx with rfl | rfl | rfl
  · refine wd_t (by rw [List.length_map]; have := h.al; omega) fun x hx => ?_
    obtain ⟨g, hg, rfl⟩ := List.mem_map.mp hx
    refine wd_t (by show 3 ≤ 12; decide) fun x hx => ?_
    simp only [List.mem_cons, List.not_mem_nil, or_false] at hx
    rcases hx with rfl | rfl | rfl
    · exact wd_s (h.az g hg)
    · exact wd_i
    · exact wd_s (lbl_ok (h.ab g hg))
  · exact wd_i
  · refine wd_t (by rw [List.length_map]; have := h.b2; omega) fun x hx => ?_
    obtain ⟨b, hb, rfl⟩ := List.mem_map.mp hx
    obtain ⟨rs, e, rfl, hl, _⟩ := h.bs b hb
    refine wd_t (by rw [List.length_map, List.length_append, List.length_singleton]; omega) fun x hx => ?_
    obtain ⟨r, _, rfl⟩ := List.mem_map.mp hx
    exact ins_wd r
end
theorem DrL.madeW {H : Hp} {d r : Addr} {row : List Int} (hd : H d = some (.dK [])) (hr : H r = some (.lst (row.map V.int))) (ok : RowW row) : DrL (upd H d (.dK (mergeK [] [(.inr "draws", .ref r), (.inr "at", .int 0)]))) d [] := by
  have M0 : Has H [(r, HO.lst (row.map V.int))] := Has.one hr
  have ne : d ≠ r := fun e => by
    rw [e, hr] at hd
    cases hd
  have M1 : Has H [(d, HO.dK []), (r, .lst (row.map V.int))] := ⟨by simp [ne], fun q hq => by
    simp only [List.mem_cons, List.not_mem_nil, or_false] at hq
    rcases hq with rfl | rfl
    · exact hd
    · exact hr⟩
  exact ⟨r, 0, _, row, M1.set (o' := .dK (mergeK [] [(.inr "draws", .ref r), (.inr "at", .int 0)])) 0 rfl, KvW.made, ok, Int.le_refl _⟩
theorem ims_strs {H : Hp} : ∀ (l : List Str), Ims H (l.map V.str) (l.map PyData.str)
  | [] => .nil
  | z :: l => .cons (.str z) (ims_strs l)
def sp_law (K : PySem.W.Frag) : Sp := fun vs H Q _ => ∃ (a : Addr) (ns : List Int), vs = [.ref a] ∧ SqL K H a (ns.map V.int) ∧ ns.length ≤ 63 ∧ ∀ H', Q (.bl true) H'
theorem sc_law : FnScope ["script", "w", "k", "length", "size", "program", "a", "b", "told", "thing"] ["script"] (defScope (topS 31)) := ⟨rfl, rfl, rfl, by decide +kernel, rfl, by decide +kernel, by decide +kernel⟩
theorem ok_law (T : Txt fa fn K mg (CsOk cs K w)) : Dn P w K mg base CX0 9 "law" ["script"] (sp_law K) := by
  refine mk_dn (d := dOf "law" 31) T 22 22 rfl rfl rfl rfl rfl sc_law (by walk_at "len") (fun _ _ _ _ _ _ us hl => match us, hl with | [_], _ => rfl) (fun cdv A outer s H vs Q E hr h => ⟨_, (pss_cons (ps_set (i := 1) sc_law.nd rfl (.inl rfl) (pe_disp (pps_cons pe_str (pe_callD (K := K) rfl (ok_law_draws T) (hr.mono (by decide)) rfl pass0 (pa_cons (pv 0) (pa_cons pe_int pa_nil))) (pps_cons pe_str pe_int pps_nil)) (by rfl) (by rfl) (fun z => by cases z) (by decide)))
      (pss_cons (ps_if (pt_cmpR (op_neU (K := K) rfl hr.units) (pe_callTy (c_tuple (K := K) rfl) rfl (T.free 32 rfl) (by decide +kernel) (pa_cons (pe_glob (v := .ref (He.ga K "SIGNS")) rfl (T.glo 36 rfl) rfl) pa_nil)) (pe_tup (pa_cons pe_str (pa_cons pe_str (pa_cons pe_str (pa_cons pe_str (pa_cons pe_str (pa_cons pe_str (pa_cons pe_str (pa_cons pe_str (pa_cons pe_str (pa_cons pe_str (pa_cons pe_str (pa_cons pe_str (pa_cons pe_str pa_nil)))))))))))))) (nomark _)) (pss_one (ps_ret pe_bl)) pss_nil)
      (pss_cons (ps_for PassesOwn.never rfl (pi_r1 rfl (T.free 30 rfl) (pa_cons pe_int pa_nil)) (pg_name (i := 2) sc_law.nd rfl (.inl rfl)) (pss_cons (ps_set (i := 6) sc_law.nd rfl (.inl rfl) (pe_callD (K := K) rfl (ok_law_word T) (hr.mono (by decide)) rfl pass0 (pa_cons (pv 1) pa_nil)))
      (pss_cons (ps_set (i := 7) sc_law.nd rfl (.inl rfl) (pe_ixU (K := K) rfl (hu_of hr) (pe_lst (pa_cons (pe_callD (K := K) rfl (ok_law_word T) (hr.mono (by decide)) rfl pass0 (pa_cons (pv 1) pa_nil)) (pa_cons (pv 6) (pa_cons (pe_callD (K := K) rfl (ok_law_next T) (hr.mono (by decide)) rfl pass0 (pa_cons (pv 1) (pa_cons pe_int pa_nil))) pa_nil)))) (pe_callD (K := K) rfl (ok_law_next T) (hr.mono (by decide)) rfl pass0 (pa_cons (pv 1) (pa_cons pe_int pa_nil)))))
      (pss_cons (ps_set (i := 8) sc_law.nd rfl (.inl rfl) (pe_callD (K := K) rfl (ok_apply T) (hr.mono (by decide)) rfl pass0 (pa_cons (pe_ixU (K := K) rfl (hu_of hr) (pe_glob (v := .ref (He.ga K "SIGNS")) rfl (T.glo 36 rfl) rfl) (pv 2)) (pa_cons (pv 6) (pa_cons (pv 7) pa_nil)))))
      (pss_one (ps_if (PW.pt (pw_or (pt_not (pt_tru (K := K) rfl (pe_callD (K := K) rfl (ok_law_is_number T) (hr.mono (by decide)) rfl pass0 (pa_cons (pv 8) (pa_cons pe_int pa_nil))))) (pw_or1 (pt_cmpR (op_neU (K := K) rfl hr.units) (pv 8) (pe_callD (K := K) rfl (ok_law_applied T) (hr.mono (by decide)) rfl pass0 (pa_cons (pe_ixU (K := K) rfl (hu_of hr) (pe_glob (v := .ref (He.ga K "SIGNS")) rfl (T.glo 36 rfl) rfl) (pv 2)) (pa_cons (pv 6) (pa_cons (pv 7) pa_nil)))) (nomark _))))) (pss_one (ps_ret pe_bl)) pss_nil))))))
      (pss_cons (ps_set (i := 3) sc_law.nd rfl (.inl rfl) (pe_op (op_addU (K := K) rfl) pe_int (pe_callD (K := K) rfl (ok_law_next T) (hr.mono (by decide)) rfl pass0 (pa_cons (pv 1) (pa_cons pe_int pa_nil)))))
      (pss_cons (ps_set (i := 4) sc_law.nd rfl (.inl rfl) (pe_callD (K := K) rfl (ok_size_of T) (hr.mono (by decide)) rfl pass0 (pa_cons (pv 3) pa_nil)))
      (pss_cons (ps_if (PW.pt (pw_or (pt_cmpR (op_niU (K := K) rfl (hu65 hr)) (pv 4) (pe_lst (pa_cons pe_int (pa_cons pe_int (pa_cons pe_int (pa_cons pe_int (pa_cons pe_int (pa_cons pe_int (pa_cons pe_int pa_nil)))))))) (by rfl)) (pw_or (pt_cmpR o_lt (pv 4) (pv 3) (nomark _)) (pw_or1 (pt_cmpR o_ge (pv 4) (pe_op op_mulU pe_int (pv 3)) (nomark _)))))) (pss_one (ps_ret pe_bl)) pss_nil)
      (pss_cons (ps_set (i := 5) sc_law.nd rfl (.inl rfl) (pe_callD (K := K) rfl (ok_law_program T) (hr.mono (by decide)) rfl pass0 (pa_cons (pv 1) pa_nil)))
      (pss_cons (ps_if (pt_cmpR op_notBl (pe_callD (K := K) rfl (ok_is_ir T) (hr.mono (by decide)) rfl pass0 (pa_cons (pv 5) pa_nil)) pe_bl (nomark _)) (pss_one (ps_ret pe_bl)) pss_nil)
      (pss_cons (ps_for PassesOwn.never rfl (pi_r1 rfl (T.free 30 rfl) (pa_cons pe_int pa_nil)) (pg_name (i := 2) sc_law.nd rfl (.inl rfl)) (pss_cons (ps_set (i := 9) sc_law.nd rfl (.inl rfl) (pe_callD (K := K) rfl (ok_law_spoilt T 6) (hr.mono (by decide)) rfl pass0 (pa_cons (pv 1) (pa_cons (pv 5) (pa_cons (pe_op (op_addU (K := K) rfl) pe_int (pe_callD (K := K) rfl (ok_law_next T) (hr.mono (by decide)) rfl pass0 (pa_cons (pv 1) (pa_cons pe_int pa_nil)))) pa_nil)))))
      (pss_cons (ps_set (i := 8) sc_law.nd rfl (.inl rfl) (pe_callD (K := K) rfl (ok_is_ir T) (hr.mono (by decide)) rfl pass0 (pa_cons (pv 9) pa_nil)))
      (pss_one (ps_if (PW.pt (pw_or (pt_not (pt_tru (K := K) rfl (pe_callB (c_isi (K := K) rfl) rfl (T.free 28 rfl) (by decide +kernel) (pa_cons (pv 8) (pa_cons (pe_bltn (v := .ty "bool") rfl (T.free 26 rfl) (by decide +kernel) rfl) pa_nil))))) (pw_or1 (pt_cmpR (op_neU (K := K) rfl hr.units) (pv 8) (pe_callD (K := K) rfl (ok_law_is_program T) (hr.mono (by decide)) rfl pass0 (pa_cons (pv 9) pa_nil)) (nomark _))))) (pss_one (ps_ret pe_bl)) pss_nil)))))
      (pss_one (ps_ret pe_bl))))))))))), ?_⟩)
  obtain ⟨a, ns, rfl, hS, hlen, hQ⟩ := h
  walk_at "go"
  intro d hd
  have sd := Same.new (o := .dK []) hd
  walk_at "go"
  refine ⟨a, ns, 420, rfl, sd.seq hS, hlen, by decide, by decide, fun H1 p row s1 hp hr ok => ?_⟩
  have hd1 : H1 d = some (.dK []) := s1 _ _ upd_same
  walk_at "go"
  refine ⟨hd1, [(.inr "draws", .ref p), (.inr "at", .int 0)], rfl, by show 2 ≤ 15; decide, ?_⟩
  have D2 := DrL.madeW hd1 hr ok
  generalize upd H1 d (HO.dK (mergeK [] [(.inr "draws", .ref p), (.inr "at", .int 0)])) = H2 at D2
  walk_at "go"
  refine ⟨_, rfl, .inr ⟨_, _, rfl, fz_SIGNS T _, ?_⟩⟩
  walk_at "go"
  refine m_new (ds := SGS.map .str) (ims_strs SGS) (by show 13 ≤ 100000; decide) (fun q3 H3 s3 hq3 i3 => ?_)
  refine g_neD (T.m.tup in_SIGNS H3) i3.dp (by decide +kernel) (by decide +kernel) ?_
  rw [show PyData.eqv _ (.tuple (SGS.map .str)) = true from by decide +kernel]
  walk_at "go"
  have D3 := D2.same s3
  refine f_range (fun i σ H' => ∃ (o2 o3 o4 o5 o6 o7 o8 o9 : Option V), σ = [some (.ref a), some (.ref d), o2, o3, o4, o5, o6, o7, o8, o9] ∧ DrL H' d []) ⟨_, _, _, _, _, _, _, _, rfl, D3⟩ ?_ ?_
  · rintro i σ H4 hi ⟨o2, o3, o4, o5, o6, o7, o8, o9, rfl, D4⟩
    have hi : i < 13 := hi
    obtain ⟨sg, hsg⟩ := sg_at hi
    have e0 : (0 : Int) + (i : Int) = (i : Int) := by omega
    walk_at "go"
    refine ⟨d, [], rfl, D4, fun H5 x5 k5 D5 w5 => ?_⟩
    walk_at "go"
    refine ⟨d, [], rfl, D5, fun H6 x6 k6 D6 w6 => ?_⟩
    walk_at "go"
    refine use_nx D6 (by decide) (fun H7 v7 k7 D7 h70 h71 => ?_)
    walk_at "go"
    refine use_pk D7 rfl rfl (by simp) (by simp) (fun H8 v k8 D8 hv => ?_)
    obtain ⟨y, rfl, wy⟩ : ∃ y : Int, v = .int y ∧ W32 y := by
      simp only [List.mem_cons, List.not_mem_nil, or_false] at hv
      rcases hv with rfl | rfl | rfl
      · exact ⟨_, rfl, w6⟩
      · exact ⟨_, rfl, w5⟩
      · exact ⟨_, rfl, h70, by omega⟩
    obtain ⟨p, rfl⟩ : ∃ p : Nat, x5 = (p : Int) := ⟨x5.toNat, by have := w5.l; omega⟩
    obtain ⟨q, rfl⟩ : ∃ q : Nat, y = (q : Int) := ⟨y.toNat, by have := wy.l; omega⟩
    have hp : p < 4294967296 := by have := w5.u; omega
    have hq : q < 4294967296 := by have := wy.u; omega
    walk_at "go"
    refine g_ixT (fz_SIGNS T _) (n := i) e0 hsg ?_
    walk_at "go"
    refine ⟨sg, _, _, _, rfl, rfl, w5, wy, fun H9 s9 => ?_⟩
    have wt := appD_w (s := sg) w5 wy
    generalize hv9 : appD sg p q = t at wt
    have D9 := D8.same s9
    walk_at "go"
    refine ⟨_, _, _, rfl, .int t, ?_⟩
    rw [p_n wt]
    walk_at "go"
    refine g_ixT (fz_SIGNS T _) (n := i) e0 hsg ?_
    walk_at "go"
    refine ⟨sg, _, p, q, rfl, rfl, hp, hq, fun H10 s10 => ?_⟩
    rw [hv9]
    walk_at "go"
    refine g_ifN (fun c => absurd rfl c) (fun _ => ?_)
    walk_at "go"
    exact ⟨_, _, _, _, _, _, _, _, rfl, D9.same s10⟩
  · rintro σ H4 ⟨o2, o3, o4, o5, o6, o7, o8, o9, rfl, D4⟩
    walk_at "go"
    refine use_nx D4 (by decide) (fun H5 v5 k5 D5 h50 h51 => ?_)
    obtain ⟨n, rfl, hn⟩ := nat_lt_of (m := 64) h50 h51
    have en : (1 : Int) + (n : Int) = ((n + 1 : Nat) : Int) := by omega
    walk_at "go"
    rw [en]
    refine ⟨n + 1, rfl, by omega, ?_⟩
    have q1 := pw_le (n := n + 1) (by omega)
    have q2 := pw_lt (n := n + 1) (by omega) (by omega)
    walk_at "go"
    refine ⟨by show 7 ≤ sizeLine; decide, fun q6 hq6 => ?_⟩
    have s6 := Same.new (o := .lst (([1, 2, 4, 8, 16, 32, 64] : List Int).map V.int)) hq6
    refine g_niLi (ks := [1, 2, 4, 8, 16, 32, 64]) upd_same ?_
    rw [pw_in]
    have D6 := D5.same s6
    walk_at "go"
    refine g_if (fun c => absurd c (by omega)) (fun _ => ?_)
    walk_at "go"
    refine g_if (fun c => absurd c (by omega)) (fun _ => ?_)
    walk_at "go"
    refine ⟨d, [], rfl, D6, fun H7 pv arrs np bls k7 D7 ip iok => ?_⟩
    walk_at "go"
    refine ⟨pv, _, rfl, ip, (ir_wd iok).mono (by decide) (by decide), fun H8 s8 => ?_⟩
    rw [ir_true iok]
    have D8 := D7.same s8
    have ip8 := ip.same s8
    walk_at "go"
    refine g_ifN (fun c => absurd rfl c) (fun _ => ?_)
    walk_at "go"
    refine f_range (fun i σ H' => ∃ (o2 o3 o4 o6 o7 o8 o9 : Option V), σ = [some (.ref a), some (.ref d), o2, o3, o4, some pv, o6, o7, o8, o9] ∧ DrL H' d [] ∧ Im H' pv (irD arrs np bls)) ⟨_, _, _, _, _, _, _, rfl, D8, ip8⟩ ?_ ?_
    · rintro i σ H9 hi ⟨o2, o3, o4, o6, o7, o8, o9, rfl, D9, ip9⟩
      walk_at "go"
      refine use_nx D9 (by decide) (fun H10 v10 k10 D10 h100 h101 => ?_)
      have ip10 := D9.im k10 ip9
      walk_at "go"
      refine ⟨d, [], pv, 1 + v10, _, 12, 4, rfl, D10, ip10, ir_wd iok, by omega, (by show 1 + v10 ≤ (5 : Int); omega), by omega, by omega, by omega, fun H11 y e k11 D11 i11 w11 => ?_⟩
      have ip11 := D10.im k11 ip10
      walk_at "go"
      refine ⟨y, e, rfl, i11, w11.mono (by decide) (by decide), fun H12 s12 => ?_⟩
      walk_at "go"
      refine ⟨y, e, rfl, i11.same s12, w11.mono (by decide) (by decide), fun H13 s13 => ?_⟩
      walk_at "go"
      refine g_ifN (fun c => absurd rfl c) (fun _ => ?_)
      walk_at "go"
      exact ⟨_, _, _, _, _, _, _, rfl, D11.same (s12.trans s13), ip11.same (s12.trans s13)⟩
    · rintro σ H9 ⟨o2, o3, o4, o6, o7, o8, o9, rfl, D9, ip9⟩
      walk_at "go"
      exact hQ _


theorem facts {P : Program} {w : World} {K : PySem.W.Frag} {h : Heap} {mg : Str → Option Value} {f : Addr} (X : K.In h) (G : h.Ns mainGlobals mg) (hfa : mg ("law" : Str) = some (.ref f)) (c : He.SaysX fa fn (tabs cs) [] (exB cs) w h K) :
    ∃ fd : FuncData, (∀ (s : Shared) (v : Value), BindsTo s fd ⟨[v], []⟩ [("script", v)]) ∧ ∀ base : Heap, K.In base → base.Ns mainGlobals mg → FnOk P w K mg base CX0 9 f fd ["script"] (sp_law K) :=
  law_facts (d := dOf "law" 31) X G hfa c.t.d (CsOk.of c) 22 22 rfl rfl rfl rfl rfl (fun _ _ _ _ _ _ us hl => match us, hl with | [_], _ => rfl) fun _ T => ok_law T
end K60
open PySem PySem.W PySem.Calls PyProof.Rows
theorem PySem.Challenge.cw_sameclock_k60_words_and_programs_that_ar_holds : PySem.Challenge.rw_sameclock_k60_words_and_programs_that_ar.Holds := by
  w_on; o_law
  refine HandSHeadRun.head_any (r := OpenLaw.row PySem.Challenge.rw_sameclock_k60_words_and_programs_that_ar) (q := view (OpenLaw.row PySem.Challenge.rw_sameclock_k60_words_and_programs_that_ar).prog [31]) (H := K60.hk) (ob := K60.ob) (M := 8000) (loose := ["SIGNS", "WORD", "MOST", "LONGEST", "LABELS", "SHAPES", "ENDS", "shifted", "divided", "apply", "size_of", "is_number", "is_text", "part_fits", "is_row", "is_block", "is_array", "is_ir", "_law_draws", "_law_next", "_law_row", "_law_program", "_law_word", "_law_bits", "_law_applied", "_law_is_number", "_law_is_row", "_law_is_program", "_law_spoilt"]) (d := HandSHeadRun.topDef (OpenLaw.row PySem.Challenge.rw_sameclock_k60_words_and_programs_that_ar).prog 31) (kwd := []) K60.ob_eq
    (by kernel_rfl) (fun s => by kernel_rfl) K60.run (by kernel_rfl) (by kernel_rfl) (by kernel_rfl) (by rfl) (by first | assumption | decide +kernel) (by decide +kernel) ⟨rfl, rfl, rfl, rfl, rfl, by decide +kernel⟩ ?hw ?hc
  case hw => w_witness2
  case hc =>
    refine L2.walk_ofE (l := PySem.Challenge.rw_sameclock_k60_words_and_programs_that_ar) (n := 63) (k := 9) (x := "script") (CX := L2.CX0) rfl (by decide) (by kernel_rfl) ⟨rfl, by decide, by decide⟩ ?F (fun _ _ _ _ z => z)
    intro w mg fa h Y G hmg0
    obtain ⟨K, KX, c⟩ := Y
    have hmg : mg ("law" : PySem.Str) = some (.ref fa) := by
      have e : (HandSHeadRun.topDef (OpenLaw.row PySem.Challenge.rw_sameclock_k60_words_and_programs_that_ar).prog 31).name = ("law" : PySem.Str) := by kernel_rfl
      rw [← e]
      exact hmg0
    obtain ⟨fd, hb, hF⟩ := K60.facts (P := (PySem.Challenge.rw_sameclock_k60_words_and_programs_that_ar).prog) (w := w) KX G hmg c
    exact ⟨K, fd, K60.sp_law K, KX, hb, fun H a ns hl _ hS => ⟨a, ns, rfl, hS, hl, fun _ => rfl⟩, hF⟩
#print axioms PySem.Challenge.cw_sameclock_k60_words_and_programs_that_ar_holds

