import PyProof.Rows.All
import Wide.All
import OpenK.AllK
import Wide.FinOn
import HandS.ForMost
import HandS.Wide
import HandS.WideMore
import HandS.IsInst
import HandS.Defaults
import HandS.Flow
import HandS.TupAny
import HandS.Conv
import HandS.Exc
import HandS.TupMul
import HandS.Zip
import HandS.SetFor
import HandS.Strs
import HandS.Dict
import HandS.TupSets
import HandS.Style
import HandS.Head0
import HandS.Head1
import HandS.Head2
import HandS.HeadEnd
import HandS.HeadHook1
import HandS.HeadHook2
import HandS.HeadHook3
import HandS.HeadHook4
import HandS.More
import PySem.Challenge.RW_sameclock_k85_whole_the_machine_by_its_r
set_option Elab.async false
set_option linter.all false
set_option maxRecDepth 100000
set_option maxHeartbeats 4000000
/-! Own base: a heap told by a list of its objects, frames of calls, joins of ways, whiles by a measure, calls by one structure. -/
namespace G
open PySem PySem.Spec PyProof.Rows L2

/-- the objects one speaks of, each once -/
structure Has (H : Hp) (L : List (Addr × HO)) : Prop where
  nd : (L.map (·.1)).Nodup
  is_ : ∀ p ∈ L, H p.1 = some p.2

section
variable {H H' : Hp} {L : List (Addr × HO)} {a p : Addr} {o o' : HO}
theorem Has.nil : Has H [] := ⟨List.nodup_nil, fun _ h => nomatch h⟩
theorem Has.get (M : Has H L) (i : Nat) (h : L[i]? = some (a, o)) : H a = some o := M.is_ _ (List.mem_of_getElem? h)
theorem Has.one (h : H a = some o) : Has H [(a, o)] := ⟨by simp, fun p hp => by
  rw [List.mem_singleton.mp hp]
  exact h⟩
theorem keep_new (h : H a = some o) (hp : H p = none) : upd H p o' a = some o := by
  rw [upd_ne (ne_of_none h hp)]
  exact h
theorem Has.fresh (M : Has H L) (hp : H p = none) : p ∉ L.map (·.1) := fun h => by
  obtain ⟨q, hq, e⟩ := List.mem_map.mp h
  have := M.is_ q hq
  rw [e, hp] at this
  cases this
theorem Has.new (M : Has H L) (hp : H p = none) : Has (upd H p o) (L ++ [(p, o)]) where
  nd := by
    rw [List.map_append, List.nodup_append]
    refine ⟨M.nd, by simp, fun x hx y hy e => ?_⟩
    simp only [List.map_cons, List.map_nil, List.mem_singleton] at hy
    subst hy
    subst e
    exact M.fresh hp hx
  is_ := fun q hq => by
    rcases List.mem_append.mp hq with h | h
    · exact keep_new (M.is_ q h) hp
    · rw [List.mem_singleton.mp h]
      exact upd_same
theorem nodup_fst {L : List (Addr × HO)} (nd : (L.map (·.1)).Nodup) {i j : Nat} {a : Addr} {x y : HO} (hi : L[i]? = some (a, x)) (hj : L[j]? = some (a, y)) : i = j := by
  have h1 : (L.map (·.1))[i]? = some a := by rw [List.getElem?_map, hi]; rfl
  have h2 : (L.map (·.1))[j]? = some a := by rw [List.getElem?_map, hj]; rfl
  exact nd_ix nd h1 h2
theorem map_fst_set : ∀ {L : List (Addr × HO)} {i : Nat} {o o' : HO} {a : Addr}, L[i]? = some (a, o) → (L.set i (a, o')).map (·.1) = L.map (·.1)
  | [], _, _, _, _, h => by simp at h
  | p :: L, 0, _, _, _, h => by
    simp only [List.getElem?_cons_zero, Option.some.injEq] at h
    subst h
    rfl
  | p :: L, i + 1, o, o', a, h => by
    simp only [List.getElem?_cons_succ] at h
    simp only [List.set_cons_succ, List.map_cons, List.cons.injEq, true_and]
    exact map_fst_set h
/-- the object at place i is another one in H', the others stand -/
theorem Has.put (M : Has H L) (i : Nat) (h : L[i]? = some (a, o)) (k : ∀ b u, H b = some u → b ≠ a → H' b = some u) (e : H' a = some o') : Has H' (L.set i (a, o')) where
  nd := by
    rw [map_fst_set h]
    exact M.nd
  is_ := fun q hq => by
    obtain ⟨j, hj, e2⟩ := List.mem_iff_getElem.mp hq
    have hj' : (L.set i (a, o'))[j]? = some q := by rw [List.getElem?_eq_getElem hj, e2]
    rw [List.getElem?_set] at hj'
    split at hj'
    · split at hj'
      · cases hj'
        exact e
      · cases hj'
    · rename_i hij
      have hm := M.is_ q (List.mem_of_getElem? hj')
      refine k _ _ hm fun ea => hij ?_
      obtain ⟨b, u⟩ := q
      subst ea
      exact nodup_fst M.nd h hj'
theorem Has.set (M : Has H L) (i : Nat) (h : L[i]? = some (a, o)) : Has (upd H a o') (L.set i (a, o')) :=
  M.put i h (fun b u e n => by rw [upd_ne n]; exact e) upd_same
theorem Has.keep (M : Has H L) (k : Same H H') : Has H' L := ⟨M.nd, fun p hp => k _ _ (M.is_ p hp)⟩
theorem Has.sub (M : Has H L) {L' : List (Addr × HO)} (h : L'.Sublist L) : Has H L' := ⟨M.nd.sublist (h.map _), fun p hp => M.is_ p (h.subset hp)⟩
theorem Has.perm (M : Has H L) {L' : List (Addr × HO)} (h : L.Perm L') : Has H L' := ⟨(h.map _).nodup_iff.mp M.nd, fun p hp => M.is_ p (h.mem_iff.mpr hp)⟩
theorem Has.ne (M : Has H L) {b : Addr} {u : HO} (i j : Nat) (hi : L[i]? = some (a, o)) (hj : L[j]? = some (b, u)) (hij : i ≠ j) : a ≠ b := fun e => by
  subst e
  exact hij (nodup_fst M.nd hi hj)
end

/-- all that was tracked stands, but what stands at ms -/
def Keep (ms : List Addr) (H H' : Hp) : Prop := ∀ b o, H b = some o → b ∉ ms → H' b = some o
section
variable {ms : List Addr} {H H1 H2 : Hp} {L : List (Addr × HO)} {a p : Addr} {o o' : HO}
theorem Keep.refl : Keep ms H H := fun _ _ h _ => h
theorem Keep.trans (x : Keep ms H H1) (y : Keep ms H1 H2) : Keep ms H H2 := fun b o h n => y b o (x b o h n) n
theorem Keep.of (x : Same H H1) : Keep ms H H1 := fun b o h _ => x b o h
theorem Keep.same (x : Keep [] H H1) : Same H H1 := fun b o h => x b o h (nomatch ·)
theorem Keep.mono {ns : List Addr} (x : Keep ms H H1) (h : ∀ b ∈ ms, b ∈ ns) : Keep ns H H1 := fun b o e n => x b o e fun z => n (h b z)
theorem Same.new (hp : H p = none) : Same H (upd H p o) := fun b u h => keep_new h hp
theorem Keep.new (hp : H p = none) : Keep ms H (upd H p o) := .of (Same.new hp)
theorem Keep.set (h : a ∈ ms) : Keep ms H (upd H a o) := fun b u e n => by
  rw [upd_ne fun z => n (by rw [z]; exact h)]
  exact e
/-- an object that H does not know is changed -/
theorem Keep.mut (x : Keep ms H H1) (h : H a = none) : Keep ms H (upd H1 a o) := fun b u e n => by
  rw [upd_ne (ne_of_none e h)]
  exact x b u e n
theorem Has.call1 (M : Has H L) (k : Keep [a] H H1) (i : Nat) (h : L[i]? = some (a, o)) (e : H1 a = some o') : Has H1 (L.set i (a, o')) :=
  M.put i h (fun b u q n => k b u q (by simpa using n)) e
theorem Same.back (k : Same H H1) (h : H1 p = none) : H p = none := k.free h
theorem Keep.back (k : Keep ms H H1) (h : H1 p = none) (hm : p ∉ ms) : H p = none := by
  cases e : H p with
  | none => rfl
  | some o =>
    rw [k p o e hm] at h
    cases h
end

/-! ### joins, whiles -/
section
variable {X : Cx} {st : Stmt} {sts : List Stmt} {t : TS}
/-- behind a statement N holds, from which one goes on -/
def tJoin (t : TS) : TS := fun D σ H => ∃ N : L2.St → Hp → Prop, t { D with nx := N } σ H ∧ ∀ σ' H', N σ' H' → D.nx σ' H'
theorem SP.nx {pins : List (Addr × Obj)} {D : Ends} {N : L2.St → Hp → Prop} (h : ∀ σ' H', N σ' H' → D.nx σ' H') {f : PySem.Flow} {s' : Shared} (z : SP X pins { D with nx := N } f s') : SP X pins D f s' := by
  cases f with
  | next =>
    obtain ⟨σ', H', I, q⟩ := z
    exact ⟨σ', H', I, h _ _ q⟩
  | brk => exact z
  | cont => exact z
  | ret u => exact z
theorem ps_join (h : PS X st t) : PS X st (tJoin t) := ⟨fun pins s σ H D I ⟨N, h1, h2⟩ => thn (h.run pins s σ H _ I h1) fun _ _ z => SP.nx h2 z⟩
theorem pss_join (h : PSs X sts t) : PSs X sts (tJoin t) := ⟨fun pins s σ H D I ⟨N, h1, h2⟩ => thn (h.run pins s σ H _ I h1) fun _ _ z => SP.nx h2 z⟩
end

/-! ### the text's facts, defs by name -/
structure Txt (fa : List He.Fa) (fn : List He.DefD) (K : PySem.W.Frag) (mg : Str → Option Value) (ex : Prop := True) : Prop where
  c : He.SaysD fa fn K
  h : ∃ h : Heap, K.In h ∧ h.Ns mainGlobals mg
  m : ex
/-- a def that calls may name -/
structure Dn (P : Program) (w : World) (K : PySem.W.Frag) (mg : Str → Option Value) (base : Heap) (CX : CXT) (k : Nat) (x : Str) (ps : List Str) (sp : Sp) : Prop where
  ex : ∃ (f : Addr) (fd : FuncData), FnOk P w K mg base CX k f fd ps sp ∧ mg x = some (.ref f) ∧ PySem.W.keepIn K (.ref f) = true ∧ Binds K fd ps [] ∧ ∃ oc od osl, K.lookup f = some ⟨oc, od, .func fd, osl⟩
section
variable {fa : List He.Fa} {fn : List He.DefD} {P : Program} {w : World} {K : PySem.W.Frag} {mg : Str → Option Value} {base : Heap} {ex : Prop}
theorem Txt.glo (T : Txt fa fn K mg ex) (j : Nat) {x : Str} (h : fa[j]? = some (.glo x)) : mg x = some (.ref (He.ga K x)) := by
  obtain ⟨_, X, G⟩ := T.h
  exact He.glo_ok X G (T.c.fact j h)
theorem Txt.free (T : Txt fa fn K mg ex) (j : Nat) {x : Str} (h : fa[j]? = some (.free x)) : mg x = none := by
  obtain ⟨_, X, G⟩ := T.h
  exact He.free_ok X G (T.c.fact j h)
theorem Txt.int (T : Txt fa fn K mg ex) (j : Nat) {x : Str} {i : Int} (h : fa[j]? = some (.int x i)) : ∃ t, mg x = some (.int i t) := by
  obtain ⟨_, X, G⟩ := T.h
  exact He.int_ok X G (T.c.fact j h)
theorem Txt.def_ (T : Txt fa fn K mg ex) (i j : Nat) {d : He.DefD} (hd : fn[i]? = some d) (hg : fa[j]? = some (.glo d.at_.1)) (hm : d.at_.2 = none) (h1 : d.dfl = []) (h2 : d.kwd = []) :
    (∃ fd, FunD K d.name d.qual d.params d.body d.scope [] [] (He.ga K d.at_.1) fd) ∧ mg d.at_.1 = some (.ref (He.ga K d.at_.1)) := by
  refine ⟨?_, T.glo j hg⟩
  obtain ⟨fd, F⟩ := T.c.def_ i hd
  have e : He.fAd K d.at_ = He.ga K d.at_.1 := by
    unfold He.fAd
    rw [hm]
  have e1 : d.dvs K = [] := by
    unfold He.DefD.dvs
    rw [h1]
    rfl
  have e2 : d.kws K = [] := by
    unfold He.DefD.kws
    rw [h2]
    rfl
  rw [e, e1, e2] at F
  exact ⟨fd, F⟩
theorem Txt.str (T : Txt fa fn K mg ex) (j : Nat) {x z : Str} (h : fa[j]? = some (.str x z)) : ∃ t, mg x = some (.str z t) := by
  obtain ⟨_, X, G⟩ := T.h
  exact He.str_ok X G (T.c.fact j h)
/-- a global number, a global text -/
theorem pe_gint {X : Cx} (T : Txt fa fn K mg ex) (e : X.mg = mg) {x : Str} {i : Int} {pos : Pos} (j : Nat) (h : fa[j]? = some (.int x i)) (hg : Gl X x) (hd : (x == ("__debug__" : Str)) = false := by decide) : PE X (.Name x pos) (tC (.int i)) := by
  obtain ⟨t, ht⟩ := T.int j h
  exact pe_glob hg (by rw [e]; exact ht) ⟨t, rfl⟩ hd
theorem pe_gstr {X : Cx} (T : Txt fa fn K mg ex) (e : X.mg = mg) {x z : Str} {pos : Pos} (j : Nat) (h : fa[j]? = some (.str x z)) (hg : Gl X x) (hd : (x == ("__debug__" : Str)) = false := by decide) : PE X (.Name x pos) (tC (.str z)) := by
  obtain ⟨t, ht⟩ := T.str j h
  exact pe_glob hg (by rw [e]; exact ht) ⟨t, rfl⟩ hd
/-- a def without defaults that lets nothing out -/
theorem mk_dn (T : Txt fa fn K mg ex) (i j : Nat) {d : He.DefD} {N ps : List Str} {k : Nat} {sp : Sp} (hd : fn[i]? = some d) (hg : fa[j]? = some (.glo d.at_.1)) (hm : d.at_.2 = none) (h1 : d.dfl = []) (h2 : d.kwd = [])
    (S : FnScope N ps d.scope) (len : ∀ vs H Q E, sp vs H Q E → vs.length = ps.length)
    (hb : ∀ (kV doc pm : Value) (an : Option Addr) (cdv ct : Value) (us : List Value), us.length = ps.length → bindArgs (PySem.W.fnOf d.name d.qual d.params d.body d.scope .none kV doc pm an cdv ct) ⟨us, []⟩ = pure (ps.zip us))
    (hbody : ∀ (cdv : Value) (A : Around) (outer : List Env) (s : Shared) (H : Hp) (vs : List V) (Q : VK) (E : XK), Room k (A.deeper (envOfC d.qual d.scope s.heap.objs.size (He.ga K d.at_.1) cdv)) → sp vs H Q E →
      ∃ t, PSs (cxOf CX0 P w K mg base N d.qual d.scope (He.ga K d.at_.1) cdv A outer s H E).nox d.body t ∧ t { nx := fun _ H' => Q .non H', rt := Q } (start N vs) H) : Dn P w K mg base CX0 (k + 1) d.at_.1 ps sp := by
  obtain ⟨⟨fd, F⟩, g⟩ := T.def_ i j hd hg hm h1 h2
  refine ⟨_, fd, F.ok S len fun cdv A outer s H vs Q E hr h => ?_, g, F.kp, F.bindsN hb, by
    obtain ⟨oc, od, dV, kV, doc, pm, an, cdv, ct, osl, e, lk, _⟩ := F.ex
    exact ⟨_, _, _, lk⟩⟩
  obtain ⟨t, p, q⟩ := hbody cdv A outer s H vs Q E hr h
  exact ⟨t, p.nox, q⟩
theorem Dn.imp {CX : CXT} {k : Nat} {x : Str} {ps : List Str} {sp sp' : Sp} (D : Dn P w K mg base CX k x ps sp) (h : ∀ vs H Q E, sp' vs H Q E → sp vs H Q E) : Dn P w K mg base CX k x ps sp' := by
  obtain ⟨f, fd, F, a, b, c⟩ := D.ex
  exact ⟨f, fd, F.imp h, a, b, c⟩
theorem Dn.mono {CX : CXT} {j k : Nat} {x : Str} {ps : List Str} {sp : Sp} (D : Dn P w K mg base CX j x ps sp) (h : j ≤ k) : Dn P w K mg base CX k x ps sp := by
  obtain ⟨f, fd, F, a, b, c⟩ := D.ex
  exact ⟨f, fd, F.mono h, a, b, c⟩
end
section
variable {X : Cx} {CX : CXT} {k : Nat} {ps : List Str} {sp : Sp} {E : XK} {x : Str} {p pos : Pos} {e : Expr} {es : List Expr} {t : TA}
theorem pe_callD {K : PySem.W.Frag} (hK : X.K = K) (D : Dn X.prog X.w K X.mg X.base CX k x ps sp) (hr : Room k X.A) (hg : Gl X x) (hx : Passes CX X E)
    (ha : PA X (e :: es) t) (hdb : (x == ("__debug__" : Str)) = false := by decide) (he : starEach (e :: es) X.env = (false, eval e X.env) :: starEach es X.env := by rfl) (hpl : (backTo pos (starEach es X.env)).any (·.1) = false := by rfl) :
    PE X (.Call (.Name x p) (e :: es) [] pos) (tCall sp [] E t) := by
  subst hK
  obtain ⟨f, fd, F, m, kp, b, _⟩ := D.ex
  exact pe_call F hr hg m kp b .nil hx ha hdb he hpl
theorem pe_callD0 {K : PySem.W.Frag} (hK : X.K = K) (D : Dn X.prog X.w K X.mg X.base CX k x ps sp) (hr : Room k X.A) (hg : Gl X x) (hx : Passes CX X E)
    (hdb : (x == ("__debug__" : Str)) = false := by decide) :
    PE X (.Call (.Name x p) [] [] pos) (tCall sp [] E tNil) := by
  subst hK
  obtain ⟨f, fd, F, m, kp, b, _⟩ := D.ex
  exact pe_call0 F hr hg m kp b .nil hx hdb
end

/-! ### the law's own end -/
theorem law_facts {ex : Prop} {fa : List He.Fa} {fn : List He.DefD} {P : Program} {w : World} {K : PySem.W.Frag} {h : Heap} {mg : Str → Option Value} {f : Addr} {d : He.DefD} {k : Nat} {sp : Sp} (X : K.In h) (G : h.Ns mainGlobals mg)
    (hfa : mg d.at_.1 = some (.ref f)) (c : He.SaysD fa fn K) (m : ex) (i j : Nat) (hd : fn[i]? = some d) (hg : fa[j]? = some (.glo d.at_.1)) (hm : d.at_.2 = none) (h1 : d.dfl = []) (h2 : d.kwd = [])
    (hb : ∀ (kV doc pm : Value) (an : Option Addr) (cdv ct : Value) (us : List Value), us.length = 1 → bindArgs (PySem.W.fnOf d.name d.qual d.params d.body d.scope .none kV doc pm an cdv ct) ⟨us, []⟩ = pure ((["script"] : List Str).zip us))
    (ok : ∀ base, Txt fa fn K mg ex → Dn P w K mg base CX0 k d.at_.1 ["script"] sp) :
    ∃ fd : FuncData, (∀ (s : Shared) (v : Value), BindsTo s fd ⟨[v], []⟩ [("script", v)]) ∧ ∀ base : Heap, K.In base → base.Ns mainGlobals mg → FnOk P w K mg base CX0 k f fd ["script"] sp := by
  have T : Txt fa fn K mg ex := ⟨c, ⟨h, X, G⟩, m⟩
  obtain ⟨⟨fd, F⟩, g⟩ := T.def_ i j hd hg hm h1 h2
  rw [hfa] at g
  cases g
  have b := FunD.bindsA (ps := ["script"]) F hb
  refine ⟨fd, fun s v => b s [v] rfl, fun base _ _ => ?_⟩
  obtain ⟨f2, fd2, F2, m, _, _, oc, od, osl, lk⟩ := (ok base T).ex
  rw [hfa] at m
  cases m
  obtain ⟨oc', od', dV, kV, doc, pm, an, cdv, ct, osl', e, lk', _⟩ := F.ex
  rw [lk] at lk'
  cases lk'
  exact F2

/-! ### classes -/
section
variable {fa : List He.Fa} {fn : List He.DefD} {P : Program} {w : World} {K : PySem.W.Frag} {mg : Str → Option Value} {base : Heap} {ex : Prop}
theorem Txt.cls (T : Txt fa fn K mg ex) (j : Nat) {x : Str} (h : fa[j]? = some (.cls x)) : Cls K (He.ga K x) := He.cls_ok (T.c.fact j h)
theorem Txt.noat (T : Txt fa fn K mg ex) (j : Nat) {x f : Str} (h : fa[j]? = some (.noat x f)) : NoAttr K (He.ga K x) f := He.noat_ok (T.c.fact j h)
theorem Txt.meth (T : Txt fa fn K mg ex) (j : Nat) {x m : Str} (h : fa[j]? = some (.meth x m)) : Meth K (He.ga K x) m (He.ma K (He.ga K x) m) := He.meth_ok (T.c.fact j h)
theorem Txt.mkr (T : Txt fa fn K mg ex) (j : Nat) {x : Str} (h : fa[j]? = some (.mkr x)) : Mk K (He.ga K x) (He.ma K (He.ga K x) "__init__") := He.mkr_ok (T.c.fact j h)
/-- a method by its class's name -/
structure Mt (P : Program) (w : World) (K : PySem.W.Frag) (mg : Str → Option Value) (base : Heap) (CX : CXT) (k : Nat) (c m : Str) (ps : List Str) (sp : Sp) : Prop where
  ex : ∃ (f : Addr) (fd : FuncData), FnOk P w K mg base CX k f fd ps sp ∧ f = He.ma K (He.ga K c) m ∧ Binds K fd ps []
theorem Txt.defm (T : Txt fa fn K mg ex) (i : Nat) {d : He.DefD} {c m : Str} (hd : fn[i]? = some d) (hm : d.at_ = (c, some m)) (h1 : d.dfl = []) (h2 : d.kwd = []) :
    ∃ fd, FunD K d.name d.qual d.params d.body d.scope [] [] (He.ma K (He.ga K c) m) fd := by
  obtain ⟨fd, F⟩ := T.c.def_ i hd
  have e : He.fAd K d.at_ = He.ma K (He.ga K c) m := by
    unfold He.fAd
    rw [hm]
  have e1 : d.dvs K = [] := by
    unfold He.DefD.dvs
    rw [h1]
    rfl
  have e2 : d.kws K = [] := by
    unfold He.DefD.kws
    rw [h2]
    rfl
  rw [e, e1, e2] at F
  exact ⟨fd, F⟩
/-- a method without defaults that lets nothing out -/
theorem mk_mt (T : Txt fa fn K mg ex) (i : Nat) {d : He.DefD} {c m : Str} {N ps : List Str} {k : Nat} {sp : Sp} (hd : fn[i]? = some d) (hm : d.at_ = (c, some m)) (h1 : d.dfl = []) (h2 : d.kwd = [])
    (S : FnScope N ps d.scope) (len : ∀ vs H Q E, sp vs H Q E → vs.length = ps.length)
    (hb : ∀ (kV doc pm : Value) (an : Option Addr) (cdv ct : Value) (us : List Value), us.length = ps.length → bindArgs (PySem.W.fnOf d.name d.qual d.params d.body d.scope .none kV doc pm an cdv ct) ⟨us, []⟩ = pure (ps.zip us))
    (hbody : ∀ (cdv : Value) (A : Around) (outer : List Env) (s : Shared) (H : Hp) (vs : List V) (Q : VK) (E : XK), Room k (A.deeper (envOfC d.qual d.scope s.heap.objs.size (He.ma K (He.ga K c) m) cdv)) → sp vs H Q E →
      ∃ t, PSs (cxOf CX0 P w K mg base N d.qual d.scope (He.ma K (He.ga K c) m) cdv A outer s H E).nox d.body t ∧ t { nx := fun _ H' => Q .non H', rt := Q } (start N vs) H) : Mt P w K mg base CX0 (k + 1) c m ps sp := by
  obtain ⟨fd, F⟩ := T.defm i hd hm h1 h2
  refine ⟨_, fd, F.ok S len fun cdv A outer s H vs Q E hr h => ?_, rfl, F.bindsN hb⟩
  obtain ⟨t, p, q⟩ := hbody cdv A outer s H vs Q E hr h
  exact ⟨t, p.nox, q⟩
theorem Mt.mono {CX : CXT} {j k : Nat} {c m : Str} {ps : List Str} {sp : Sp} (D : Mt P w K mg base CX j c m ps sp) (h : j ≤ k) : Mt P w K mg base CX k c m ps sp := by
  obtain ⟨f, fd, F, a, b⟩ := D.ex
  exact ⟨f, fd, F.mono h, a, b⟩
end
section
variable {X : Cx} {CX : CXT} {k : Nat} {ps : List Str} {sp : Sp} {E : XK} {c m : Str} {p pos apos : Pos} {e o : Expr} {es : List Expr} {ta : TE} {t : TA}
theorem pe_methD {K : PySem.W.Frag} (hK : X.K = K) {pl : Sem Bool} (D : Mt X.prog X.w K X.mg X.base CX k c m ps sp) (cl : Cls K (He.ga K c)) (hm : Meth K (He.ga K c) m (He.ma K (He.ga K c) m)) (hr : Room k X.A) (hx : Passes CX X E) (he : PE X o ta) (ha : PA X (e :: es) t)
    (hst : starEach (e :: es) X.env = (false, eval e X.env) :: starEach es X.env := by rfl) (hpl : (backTo pos (starEach es X.env)).any (·.1) = false := by rfl)
    (ht : eval (.Call (.Attribute o m apos) (e :: es) [] pos) X.env = (do let ov ← eval o X.env; standAt apos.atName; let (f, first) ← holding [ov] (getMethod ov m pl); callWith pos f first (backTo pos (starEach (e :: es) X.env)) (backToKw pos (keywordEach [] X.env))) := by rfl) :
    PE X (.Call (.Attribute o m apos) (e :: es) [] pos) (tMeth (He.ga K c) m sp [] E ta t) := by
  subst hK
  obtain ⟨f, fd, F, rfl, b⟩ := D.ex
  exact pe_meth he cl hm F hr b .nil hx ha hst hpl ht
theorem pe_methD0 {K : PySem.W.Frag} (hK : X.K = K) {pl : Sem Bool} (D : Mt X.prog X.w K X.mg X.base CX k c m ps sp) (cl : Cls K (He.ga K c)) (hm : Meth K (He.ga K c) m (He.ma K (He.ga K c) m)) (hr : Room k X.A) (hx : Passes CX X E) (he : PE X o ta)
    (ht : eval (.Call (.Attribute o m apos) [] [] pos) X.env = (do let ov ← eval o X.env; standAt apos.atName; let (f, first) ← holding [ov] (getMethod ov m pl); callWith pos f first (backTo pos (starEach [] X.env)) (backToKw pos (keywordEach [] X.env))) := by rfl) :
    PE X (.Call (.Attribute o m apos) [] [] pos) (tMeth (He.ga K c) m sp [] E ta tNil) := by
  subst hK
  obtain ⟨f, fd, F, rfl, b⟩ := D.ex
  exact pe_meth0 he cl hm F hr b .nil hx ht
theorem pe_makeD {K : PySem.W.Frag} (hK : X.K = K) (D : Mt X.prog X.w K X.mg X.base CX k c "__init__" ps sp) (M : Mk K (He.ga K c) (He.ma K (He.ga K c) "__init__")) (hr : Room (k + 1) X.A) (hg : Gl X c) (hm : X.mg c = some (.ref (He.ga K c))) (hx : Passes CX X E)
    (ha : PA X (e :: es) t) (hdb : (c == ("__debug__" : Str)) = false := by decide) (he : starEach (e :: es) X.env = (false, eval e X.env) :: starEach es X.env := by rfl) (hpl : (backTo pos (starEach es X.env)).any (·.1) = false := by rfl) :
    PE X (.Call (.Name c p) (e :: es) [] pos) (tMake (He.ga K c) sp [] E t) := by
  subst hK
  obtain ⟨f, fd, F, rfl, b⟩ := D.ex
  exact pe_make M F hr hg hm b .nil hx ha hdb he hpl
end
/-! ### fields by their places -/
section
variable {fs : List (Str × V)} {f : Str} {v y : V}
theorem lk_ix : ∀ {fs : List (Str × V)} (n : Nat), (fs.map (·.1)).Nodup → fs[n]? = some (f, v) → fs.lookup f = some v
  | [], _, _, h => by simp at h
  | p :: fs, 0, _, h => by
    simp only [List.getElem?_cons_zero, Option.some.injEq] at h
    subst h
    simp [List.lookup]
  | p :: fs, n + 1, nd, h => by
    simp only [List.getElem?_cons_succ] at h
    obtain ⟨g, x⟩ := p
    rw [List.map_cons, List.nodup_cons] at nd
    have hm : f ∈ fs.map (·.1) := List.mem_map.mpr ⟨(f, v), List.mem_of_getElem? h, rfl⟩
    have ne : (f == g) = false := beq_eq_false_iff_ne.mpr fun e => nd.1 (e ▸ hm)
    simp only [List.lookup, ne]
    exact lk_ix n nd.2 h
theorem lk_none : ∀ {fs : List (Str × V)}, f ∉ fs.map (·.1) → fs.lookup f = none
  | [], _ => rfl
  | (g, x) :: fs, h => by
    rw [List.map_cons, List.mem_cons, not_or] at h
    have ne : (f == g) = false := beq_eq_false_iff_ne.mpr h.1
    simp only [List.lookup, ne]
    exact lk_none h.2
theorem pt_ix : ∀ {fs : List (Str × V)} (n : Nat), (fs.map (·.1)).Nodup → fs[n]? = some (f, v) → putF f y fs = fs.set n (f, y)
  | [], _, _, h => by simp at h
  | p :: fs, 0, _, h => by
    simp only [List.getElem?_cons_zero, Option.some.injEq] at h
    subst h
    simp [putF]
  | p :: fs, n + 1, nd, h => by
    simp only [List.getElem?_cons_succ] at h
    obtain ⟨g, x⟩ := p
    rw [List.map_cons, List.nodup_cons] at nd
    have hm : f ∈ fs.map (·.1) := List.mem_map.mpr ⟨(f, v), List.mem_of_getElem? h, rfl⟩
    have ne : ¬ g = f := fun e => nd.1 (e ▸ hm)
    simp only [putF, if_neg ne, List.set_cons_succ]
    rw [pt_ix n nd.2 h]
theorem pt_new : ∀ {fs : List (Str × V)}, f ∉ fs.map (·.1) → putF f y fs = fs ++ [(f, y)]
  | [], _ => rfl
  | (g, x) :: fs, h => by
    rw [List.map_cons, List.mem_cons, not_or] at h
    have ne : ¬ g = f := fun e => h.1 e.symm
    simp only [putF, if_neg ne, List.cons_append]
    rw [pt_new h.2]
end

section
variable {H H' : Hp} {L : List (Addr × HO)} {a : Addr} {o : HO}
theorem Has.add (M : Has H L) (h : H a = some o) (n : a ∉ L.map (·.1)) : Has H (L ++ [(a, o)]) where
  nd := by
    rw [List.map_append, List.nodup_append]
    refine ⟨M.nd, by simp, fun x hx y hy e => ?_⟩
    rw [List.map_singleton, List.mem_singleton] at hy
    have e2 : x = a := e.trans hy
    exact n (e2 ▸ hx)
  is_ := fun q hq => by
    rcases List.mem_append.mp hq with z | z
    · exact M.is_ q z
    · rw [List.mem_singleton.mp z]
      exact h
end

theorem Keep.tup {ms : List Addr} {H H' : Hp} {t : Addr} {xs : List V} (k : Keep ms H H') (hm : ∀ m ∈ ms, ∃ o, H m = some o ∧ ∀ xs, o ≠ .tup xs) (h : H t = some (.tup xs)) : H' t = some (.tup xs) :=
  k t _ h fun z => by
    obtain ⟨o, e, n⟩ := hm t z
    rw [h] at e
    exact n xs (Option.some.inj e).symm

/-! ### parts of the heap's list, tables of lists -/
section
variable {H H' : Hp} {X Y L L' : List (Addr × HO)} {a : Addr} {o o' : HO}
theorem Has.mid (M : Has H (X ++ (L ++ Y))) : Has H L := M.sub ((List.sublist_append_left L Y).trans (List.sublist_append_right X _))
/-- a part has changed, the rest stands -/
theorem Has.frame (M : Has H (X ++ (L ++ Y))) (k : Keep (L.map (·.1)) H H') (M' : Has H' L') (e : L'.map (·.1) = L.map (·.1)) : Has H' (X ++ (L' ++ Y)) where
  nd := by
    have z := M.nd
    rw [List.map_append, List.map_append] at z ⊢
    rw [e]
    exact z
  is_ := fun q hq => by
    have z := M.nd
    rw [List.map_append, List.map_append, List.nodup_append] at z
    obtain ⟨_, z2, z3⟩ := z
    rw [List.nodup_append] at z2
    obtain ⟨_, _, z4⟩ := z2
    rcases List.mem_append.mp hq with h | h
    · refine k _ _ (M.is_ q (List.mem_append_left _ h)) fun hm => ?_
      exact z3 q.1 (List.mem_map_of_mem h) q.1 (List.mem_append_left _ hm) rfl
    · rcases List.mem_append.mp h with h | h
      · exact M'.is_ q h
      · refine k _ _ (M.is_ q (List.mem_append_right _ (List.mem_append_right _ h))) fun hm => ?_
        exact z4 q.1 hm q.1 (List.mem_map_of_mem h) rfl
/-- the lists at these addresses -/
def tab : List Addr → List (List V) → List (Addr × HO)
  | a :: as, r :: rs => (a, .lst r) :: tab as rs
  | _, _ => []
theorem tab_get : ∀ {as : List Addr} {rs : List (List V)} {i : Nat} {a : Addr} {r : List V}, as[i]? = some a → rs[i]? = some r → (tab as rs)[i]? = some (a, .lst r)
  | [], _, _, _, _, h, _ => by simp at h
  | _ :: _, [], _, _, _, _, h => by simp at h
  | a :: as, r :: rs, 0, _, _, h, h2 => by
    simp only [List.getElem?_cons_zero, Option.some.injEq] at h h2
    subst h
    subst h2
    rfl
  | a :: as, r :: rs, i + 1, _, _, h, h2 => by
    simp only [List.getElem?_cons_succ] at h h2
    exact tab_get (as := as) h h2
theorem tab_set : ∀ {as : List Addr} {rs : List (List V)} {i : Nat} {a : Addr} {r : List V}, as[i]? = some a → (tab as rs).set i (a, .lst r) = tab as (rs.set i r)
  | [], _, _, _, _, h => by simp at h
  | _ :: _, [], _, _, _, _ => rfl
  | a :: as, r :: rs, 0, _, _, h => by
    simp only [List.getElem?_cons_zero, Option.some.injEq] at h
    subst h
    rfl
  | a :: as, r :: rs, i + 1, _, _, h => by
    simp only [List.getElem?_cons_succ] at h
    show (a, HO.lst r) :: (tab as rs).set i _ = _
    rw [tab_set h]
    rfl
theorem tab_fst : ∀ {as : List Addr} {rs : List (List V)}, as.length = rs.length → (tab as rs).map (·.1) = as
  | [], [], _ => rfl
  | [], _ :: _, h => by simp at h
  | _ :: _, [], h => by simp at h
  | a :: as, r :: rs, h => by
    simp only [List.length_cons, Nat.add_right_cancel_iff] at h
    show a :: (tab as rs).map (·.1) = _
    rw [tab_fst h]
variable {as : List Addr} {rs : List (List V)} {i : Nat} {r r' : List V}
theorem Has.tabGet (M : Has H (X ++ (tab as rs ++ Y))) (ha : as[i]? = some a) (hr : rs[i]? = some r) : H a = some (.lst r) := M.mid.get i (tab_get ha hr)
theorem Has.tabSet (M : Has H (X ++ (tab as rs ++ Y))) (ha : as[i]? = some a) (hr : rs[i]? = some r) : Has (upd H a (.lst r')) (X ++ (tab as (rs.set i r') ++ Y)) := by
  have h := tab_get ha hr
  have hi := (List.getElem?_eq_some_iff.mp h).1
  have h2 : (X ++ (tab as rs ++ Y))[X.length + i]? = some (a, .lst r) := by
    rw [List.getElem?_append_right (Nat.le_add_right _ _), Nat.add_sub_cancel_left, List.getElem?_append_left hi]
    exact h
  have M2 := M.set (o' := .lst r') _ h2
  have e : (X ++ (tab as rs ++ Y)).set (X.length + i) (a, .lst r') = X ++ (tab as (rs.set i r') ++ Y) := by
    rw [List.set_append_right _ _ (Nat.le_add_right _ _), Nat.add_sub_cancel_left, List.set_append_left _ _ hi, tab_set ha]
  rw [e] at M2
  exact M2
/-- one more list at the end of a table -/
theorem tab_snoc : ∀ {as : List Addr} {rs : List (List V)}, as.length = rs.length → tab (as ++ [a]) (rs ++ [r]) = tab as rs ++ [(a, .lst r)]
  | [], [], _ => rfl
  | [], _ :: _, h => by simp at h
  | _ :: _, [], h => by simp at h
  | b :: as, r' :: rs, h => by
    simp only [List.length_cons, Nat.add_right_cancel_iff] at h
    show (b, HO.lst r') :: tab (as ++ [a]) (rs ++ [r]) = _
    rw [tab_snoc h]
    rfl
end
/-! ### constants of the module: tuples, dicts with text keys -/
inductive GD
  | dat (d : PyData)
  | dic (kvs : List (Str × PyData))
mutual
def gisB (K : PySem.W.Frag) : PyData → Value → Bool
  | .none, .none => true
  | .bool a, .bool b => a == b
  | .int i, .int j _ => decide (i = j)
  | .str x, .str y _ => decide (x = y)
  | .tuple ds, .ref a => (match K.lookup a with
    | some ⟨.type c, _, .seq its _, _⟩ => decide (c = "tuple") && (decide (its.size ≤ 1000) && gisAllB K ds its.toList)
    | _ => false)
  | _, _ => false
def gisAllB (K : PySem.W.Frag) : List PyData → List Value → Bool
  | [], [] => true
  | d :: ds, u :: us => gisB K d u && gisAllB K ds us
  | _, _ => false
end
section
variable {K : PySem.W.Frag}
theorem gis_tup {ds : List PyData} {u : Value} (h : gisB K (.tuple ds) u = true) : ∃ (a : Addr) (o : Obj) (its : Array Value) (n : Nat), u = .ref a ∧ K.lookup a = some o ∧ o.cls = .type "tuple" ∧ o.data = .seq its n ∧ its.size ≤ 1000 ∧ gisAllB K ds its.toList = true := by
  cases u <;> first | (unfold gisB at h; cases h; done) | skip
  rename_i a
  unfold gisB at h
  cases q : K.lookup a with
  | none =>
    rw [q] at h
    cases h
  | some o =>
    obtain ⟨oc, od, dt, osl⟩ := o
    rw [q] at h
    cases oc <;> cases dt <;> first | (cases h; done) | skip
    rename_i c its n
    replace h : (decide (c = "tuple") && (decide (its.size ≤ 1000) && gisAllB K ds its.toList)) = true := h
    obtain ⟨h1, h2⟩ := Bool.and_eq_true_iff.mp h
    obtain ⟨h3, h4⟩ := Bool.and_eq_true_iff.mp h2
    have e : c = "tuple" := of_decide_eq_true h1
    exact ⟨a, _, its, n, rfl, q, by rw [e], rfl, of_decide_eq_true h3, h4⟩
mutual
theorem gis_ok : ∀ (d : PyData) (u : Value), gisB K d u = true → ∃ v, RelV v u ∧ ∀ H, Dp K H v d
  | .none, u, h => by
    cases u <;> first | (unfold gisB at h; cases h; done) | skip
    exact ⟨.non, rfl, fun _ => .non⟩
  | .bool a, u, h => by
    cases u <;> first | (unfold gisB at h; cases h; done) | skip
    rename_i b
    unfold gisB at h
    obtain rfl := beq_iff_eq.mp h
    exact ⟨.bl a, rfl, fun _ => .bl a⟩
  | .int i, u, h => by
    cases u <;> first | (unfold gisB at h; cases h; done) | skip
    rename_i j t
    unfold gisB at h
    obtain rfl := of_decide_eq_true h
    exact ⟨.int i, ⟨t, rfl⟩, fun _ => .int i⟩
  | .str x, u, h => by
    cases u <;> first | (unfold gisB at h; cases h; done) | skip
    rename_i y t
    unfold gisB at h
    obtain rfl := of_decide_eq_true h
    exact ⟨.str x, ⟨t, rfl⟩, fun _ => .str x⟩
  | .tuple ds, u, h => by
    obtain ⟨a, o, its, n, rfl, h1, h2, h3, h4, h5⟩ := gis_tup h
    obtain ⟨vs, r, hd⟩ := gisAll_ok ds its.toList h5
    exact ⟨.ref a, rfl, fun H => .tup (.inr ⟨o, its, n, h1, h2, h3, Nat.le_trans h4 (by decide), r⟩) (hd H)⟩
  | .list _, u, h => by unfold gisB at h; cases h
  | .dict _, u, h => by unfold gisB at h; cases h
theorem gisAll_ok : ∀ (ds : List PyData) (us : List Value), gisAllB K ds us = true → ∃ vs, Vals vs us ∧ ∀ H, DpAll K H vs ds
  | [], us, h => by
    cases us with
    | nil => exact ⟨[], .nil, fun _ => .nil⟩
    | cons => unfold gisAllB at h; cases h
  | d :: ds, us, h => by
    cases us with
    | nil => unfold gisAllB at h; cases h
    | cons u us =>
      unfold gisAllB at h
      obtain ⟨h1, h2⟩ := Bool.and_eq_true_iff.mp h
      obtain ⟨v, r, hv⟩ := gis_ok d u h1
      obtain ⟨vs, rs, hvs⟩ := gisAll_ok ds us h2
      exact ⟨v :: vs, .cons r rs, fun H => .cons (hv H) (hvs H)⟩
end
end
def gokB (K : PySem.W.Frag) (x : Str) : GD → Bool
  | .dat d => (match PySem.W.nsIn K mainGlobals x with
    | some (some u) => gisB K d u
    | _ => false)
  | .dic kvs => kvs.all fun q => match PySem.W.nsIn K (He.ga K x) q.1 with
    | some (some u) => gisB K q.2 u
    | _ => false
def exB (cs : List (Str × GD)) (K : PySem.W.Frag) : Bool := cs.all fun q => gokB K q.1 q.2
def tabs : List (Str × GD) → List He.Tab
  | [] => []
  | (x, .dic kvs) :: cs => (fun K => He.ga K x, kvs.map (·.1)) :: tabs cs
  | (_, .dat _) :: cs => tabs cs
/-- the constants stand -/
structure CsOk (cs : List (Str × GD)) (K : PySem.W.Frag) (w : World) : Prop where
  e : exB cs K = true
  t : (tabs cs).map (fun t => He.dicW K (t.1 K)) = (tabs cs).map fun t => some (He.keysIn w.params t.2)
section
variable {fa : List He.Fa} {fn : List He.DefD} {cs : List (Str × GD)} {K : PySem.W.Frag} {w : World} {x k : Str} {d : PyData} {ds : List PyData} {kvs : List (Str × PyData)} {h : Heap}
theorem CsOk.of (c : He.SaysX fa fn (tabs cs) [] (exB cs) w h K) : CsOk cs K w := ⟨c.more, congrArg (fun z : He.AlT => z.2) c.t⟩
theorem tab_eq : ∀ {cs : List (Str × GD)}, (tabs cs).map (fun t => He.dicW K (t.1 K)) = (tabs cs).map (fun t => some (He.keysIn w.params t.2)) → (x, GD.dic kvs) ∈ cs → He.dicW K (He.ga K x) = some (He.keysIn w.params (kvs.map (·.1)))
  | [], _, h => by cases h
  | (y, .dic ks) :: cs, e, h => by
    have e1 : He.dicW K (He.ga K y) :: (tabs cs).map (fun t => He.dicW K (t.1 K)) = some (He.keysIn w.params (ks.map (·.1))) :: (tabs cs).map fun t => some (He.keysIn w.params t.2) := e
    injection e1 with e2 e3
    rcases List.mem_cons.mp h with z | z
    · injection z with z1 z2
      injection z2 with z2
      subst z1
      subst z2
      exact e2
    · exact tab_eq e3 z
  | (y, .dat _) :: cs, e, h => by
    rcases List.mem_cons.mp h with z | z
    · injection z with z1 z2
      cases z2
    · exact tab_eq (cs := cs) e z
theorem CsOk.dat (c : CsOk cs K w) (h : (x, GD.dat d) ∈ cs) : ∃ u, PySem.W.nsIn K mainGlobals x = some (some u) ∧ gisB K d u = true := by
  have h1 : gokB K x (.dat d) = true := List.all_eq_true.mp c.e _ h
  unfold gokB at h1
  cases q : PySem.W.nsIn K mainGlobals x with
  | none =>
    rw [q] at h1
    cases h1
  | some r =>
    rw [q] at h1
    cases r with
    | none => cases h1
    | some u => exact ⟨u, rfl, h1⟩
theorem CsOk.tup (c : CsOk cs K w) (h : (x, GD.dat (.tuple ds)) ∈ cs) (H : Hp) : Dp K H (.ref (He.ga K x)) (.tuple ds) := by
  obtain ⟨u, h1, h2⟩ := c.dat h
  obtain ⟨v, r, hv⟩ := gis_ok _ u h2
  obtain ⟨a, _, _, _, rfl, _⟩ := gis_tup h2
  have e : He.ga K x = a := by
    unfold He.ga
    rw [h1]
  obtain rfl : v = .ref a := RelV.inj r rfl
  rw [e]
  exact hv H
theorem CsOk.kd (c : CsOk cs K w) (h : (x, GD.dic kvs) ∈ cs) : ∃ es n, KDict K w (He.ga K x) es n := He.dicW_ok (tab_eq c.t h)
theorem CsOk.key (c : CsOk cs K w) (h : (x, GD.dic kvs) ∈ cs) (hk : (k, d) ∈ kvs) : ∃ u v, PySem.W.nsIn K (He.ga K x) k = some (some u) ∧ RelV v u ∧ ∀ H, Dp K H v d := by
  have h1 : gokB K x (.dic kvs) = true := List.all_eq_true.mp c.e _ h
  unfold gokB at h1
  have h2 := List.all_eq_true.mp h1 _ hk
  cases q : PySem.W.nsIn K (He.ga K x) k with
  | none =>
    rw [q] at h2
    cases h2
  | some r =>
    rw [q] at h2
    cases r with
    | none => cases h2
    | some u =>
      obtain ⟨v, hv⟩ := gis_ok d u h2
      exact ⟨u, v, rfl, hv⟩
theorem keyOf_of {e : DictEntry} {y : Str} {i : Int} (h : He.keyOf e = some (y, i)) : ∃ t, e.key = .str y t := by
  unfold He.keyOf at h
  split at h
  · rename_i z t q
    injection h with h
    injection h with h1 h2
    subst h1
    exact ⟨t, q⟩
  · cases h
theorem keys_no {P : Params} : ∀ {l : List DictEntry} {ks : List Str}, l.map He.keyOf = He.keysIn P ks → k ∉ ks → (l.find? (·.key.isStr k)) = none ∧ (l.any (·.refKey)) = false
  | [], _, _, _ => ⟨rfl, rfl⟩
  | e :: l, [], h, _ => by cases h
  | e :: l, y :: ks, h, hk => by
    have h1 : He.keyOf e :: l.map He.keyOf = some (y, PyData.keyHash P y) :: He.keysIn P ks := h
    injection h1 with h2 h3
    obtain ⟨t, q⟩ := keyOf_of h2
    obtain ⟨i1, i2⟩ := keys_no h3 (fun z => hk (List.mem_cons_of_mem _ z))
    have n : e.key.isStr k = false := by
      rw [q]
      have : (y == k) = false := beq_eq_false_iff_ne.mpr fun z => hk (by rw [z]; exact List.mem_cons_self)
      first | exact this | (unfold Value.isStr; exact this) | simp [Value.isStr, this]
    refine ⟨by rw [List.find?_cons, n]; exact i1, ?_⟩
    rw [List.any_cons, i2, Bool.or_false]
    unfold DictEntry.refKey
    rw [q]
theorem CsOk.nokey (c : CsOk cs K w) (h : (x, GD.dic kvs) ∈ cs) (hk : k ∉ kvs.map (·.1)) : PySem.W.nsIn K (He.ga K x) k = some none := by
  have e := tab_eq c.t h
  obtain ⟨es, n, D⟩ := He.dicW_ok e
  unfold He.dicW at e
  rw [D.at_] at e
  replace e : (match decide ("dict" = "dict") && ((#[] : Array (Option Value)).isEmpty && !(He.ga K x == sysModules)) with
    | true => some (es.toList.map He.keyOf)
    | false => none) = some (He.keysIn w.params (kvs.map (·.1))) := e
  rw [D.low] at e
  replace e : some (es.toList.map He.keyOf) = some (He.keysIn w.params (kvs.map (·.1))) := e
  obtain ⟨i1, i2⟩ := keys_no (Option.some.inj e) hk
  unfold PySem.W.nsIn
  rw [D.at_]
  show (match es.toList.find? (·.key.isStr k) with
      | some e => some (some e.val)
      | none => if es.toList.any (·.refKey) then none else some none) = some none
  rw [i1, i2]
  rfl
theorem dp_strs {H : Hp} {a : Addr} {ks : List Str} (h : Dp K H (.ref a) (.tuple (ks.map .str))) : SqT K H a (ks.map V.str) := by
  have go : ∀ {ks : List Str} {xs : List V}, DpAll K H xs (ks.map .str) → xs = ks.map V.str := by
    intro ks
    induction ks with
    | nil => intro xs h; cases h; rfl
    | cons z ks ih =>
      intro xs h
      cases h with
      | cons h t =>
        cases h
        rw [ih t]
        rfl
  cases h with
  | tup h t =>
    rw [← go t]
    exact h
theorem dp_ints {H : Hp} {a : Addr} {ks : List Int} (h : Dp K H (.ref a) (.tuple (ks.map .int))) : SqT K H a (ks.map V.int) := by
  have go : ∀ {ks : List Int} {xs : List V}, DpAll K H xs (ks.map .int) → xs = ks.map V.int := by
    intro ks
    induction ks with
    | nil => intro xs h; cases h; rfl
    | cons z ks ih =>
      intro xs h
      cases h with
      | cons h t =>
        cases h
        rw [ih t]
        rfl
  cases h with
  | tup h t =>
    rw [← go t]
    exact h
end
/-! d[key], key in d of such a dict -/
def rIxG (K : PySem.W.Frag) (d : Addr) : R2 := fun x y H Q => ∃ (z : Str) (u : Value) (v : V), x = .ref d ∧ y = .str z ∧ PySem.W.nsIn K d z = some (some u) ∧ RelV v u ∧ Q v H
def rInG (K : PySem.W.Frag) (d : Addr) (neg : Bool) : R2 := fun x y H Q => ∃ (z : Str) (r : Option Value), x = .str z ∧ y = .ref d ∧ PySem.W.nsIn K d z = some r ∧ Q (.bl (if neg then !r.isSome else r.isSome)) H
section
variable {X : Cx} {cs : List (Str × GD)} {x : Str} {kvs : List (Str × PyData)}
theorem ix_G {K : PySem.W.Frag} {w0 : World} (hK : X.K = K) (hw : X.w = w0) (c : CsOk cs K w0) (h : (x, GD.dic kvs) ∈ cs) : IxR X (rIxG K (He.ga K x)) := by
  subst hK
  subst hw
  obtain ⟨es, n, D⟩ := c.kd h
  intro value slice pins s σ H x y v u Q I rx ry h hs
  obtain ⟨z, u0, v0, rfl, rfl, e, r, q⟩ := h
  have rx' := rx
  cases rx
  exact tail_any (kd_type D I) PySem.F.slot_dict_getitem.lookup (op_item_kd D pins s σ H _ _ _ u Q I rx' ry ⟨z, u0, v0, rfl, rfl, e, r, q⟩) hs
theorem op_inG {K : PySem.W.Frag} {w0 : World} (hK : X.K = K) (hw : X.w = w0) (c : CsOk cs K w0) (h : (x, GD.dic kvs) ∈ cs) : OpR X (compareOp .In) (rInG K (He.ga K x) false) := by
  subst hK
  subst hw
  obtain ⟨es, n, D⟩ := c.kd h
  intro pins s σ H x y v u Q I rx ry h
  obtain ⟨z, r, rfl, rfl, e, q⟩ := h
  exact op_in_kd D pins s σ H _ _ v u Q I rx ry ⟨z, r, rfl, rfl, e, q⟩
theorem op_niG {K : PySem.W.Frag} {w0 : World} (hK : X.K = K) (hw : X.w = w0) (c : CsOk cs K w0) (h : (x, GD.dic kvs) ∈ cs) : OpR X (compareOp .NotIn) (rInG K (He.ga K x) true) := by
  subst hK
  subst hw
  obtain ⟨es, n, D⟩ := c.kd h
  intro pins s σ H x y v u Q I rx ry h
  obtain ⟨z, r, rfl, rfl, e, q⟩ := h
  exact op_notIn_kd D pins s σ H _ _ v u Q I rx ry ⟨z, r, rfl, rfl, e, q⟩
theorem pe_ixG {K : PySem.W.Frag} {w0 : World} (hK : X.K = K) (hw : X.w = w0) (c : CsOk cs K w0) (h : (x, GD.dic kvs) ∈ cs) {a b : Expr} {ta tb : TE} {pos : Pos} (ha : PE X a ta) (hb : PE X b tb) (hs : PlainIx b := by exact fun _ _ => rfl) :
    PE X (.Subscript a b pos) (tOp (rIxG K (He.ga K x)) ta tb) := pe_ix (ix_G hK hw c h) ha hb hs
end
end G

set_option Elab.async false
set_option linter.all false
set_option maxRecDepth 100000
set_option maxHeartbeats 4000000
/-! Rules that take any kind of value, and the walk of a reading step by step. -/
namespace G
open PySem PySem.Spec PyProof.Rows L2

/-! ### a tuple, repeated -/
theorem tuple_mul1 (l : Addr) (items : Array Value) (n : Nat) (dd : Option Addr) (sl : Array (Option Value)) (u : Tok) :
    Meets (Builtin.«tuple.__mul__» ⟨[.ref l, .int 1 u], []⟩) (fun _ R s => s.heap.get? l = some { cls := .type "tuple", dict := dd, data := .seq items n, slots := sl } ∧
      R (.ok (.ret (Value.ref l))) s) :=
  .of_wp fun prog w A R s h => by
    obtain ⟨hp, g, d, tk, os⟩ := s
    obtain ⟨hl, h⟩ := h
    have f1 := AutoSeq1.idx_int
    have c0 : (decide ((1 : Int) < -(2 ^ 63)) || decide ((1 : Int) ≥ 2 ^ 63)) = false := by decide
    have c1 : (items.isEmpty || (1 : Int) == 1) = true := by rw [Bool.or_eq_true]; exact .inr rfl
    wp_walk using wpAny_loadPart' hl
    repeat (first
      | (refine wpAny_ite_false (decide_eq_false (by rw [c0]; exact Bool.false_ne_true)) ?_; wp_walk using wpAny_loadPart' hl)
      | (refine wpAny_ite_true (decide_eq_true c1) ?_; wp_walk using wpAny_loadPart' hl))
    exact ⟨_, rfl, h⟩
def rRepT1 (K : PySem.W.Frag) : R2 := fun x y H Q => ∃ l xs, x = .ref l ∧ y = .int 1 ∧ SqT K H l xs ∧ Q x H
theorem op_repT1 {X : Cx} : OpR X (binaryOp .Mult) (rRepT1 X.K) := by
  intro pins s σ H x y v u Q I rx ry h
  obtain ⟨l, xs, rfl, rfl, hT, q⟩ := h
  cases rx
  obtain ⟨t, rfl⟩ := ry
  obtain ⟨its, r, ⟨⟨cls, dd, data, sl⟩, ho, hc, n, hd⟩, hs⟩ := I.tuple hT
  simp only at hc hd
  subst hc hd
  exact wpAny_binaryOp_repeat_ref (T := "tuple") (U := "int") (by decide) ⟨_, ho, rfl⟩ (fun s' => typeIs_int s' 1 t) noFill_tuple_mul F.fills_int_mul F.slot_int_rmul repeat_tuple F.slot_int_index.lookup
    (call_meets F.slot_int_rmul (typeIs_int s 1 t) F.entry_int_rmul (F.args_int_rmul_2 _ _) (int_rmul_tuple 1 t l its.toArray n dd sl)
      ⟨ho, rfl, ⟨_, ho, rfl⟩, call_meets F.slot_tuple_mul ⟨_, ho, rfl⟩ F.entry_tuple_mul (F.args_tuple_mul_2 _ _) (tuple_mul1 l its.toArray n dd sl t) ⟨ho, ⟨.ref l, H, I, rfl, q⟩⟩⟩)
/-- t * k of a tuple, 1 to 1000 times -/
def rRepTU : R2 := fun x y H Q => ∃ l k xs, x = .ref l ∧ y = .int k ∧ H l = some (.tup xs) ∧ xs ≠ [] ∧ 1 ≤ k ∧ k ≤ 1000 ∧ xs.length ≤ 1000 ∧ ∀ p H', Same H H' → H' p = some (.tup (List.replicate k.toNat xs).flatten) → Q (.ref p) H'
theorem op_repTU {X : Cx} : OpR X (binaryOp .Mult) rRepTU := by
  intro pins s σ H x y v u Q I rx ry h
  obtain ⟨l, k, xs, rfl, rfl, hT, hne, h1, h2, hl, q⟩ := h
  by_cases hk : k = 1
  · subst hk
    refine op_repT1 pins s σ H _ _ v u Q I rx ry ⟨l, xs, rfl, rfl, SqT.of hT, q l H (Same.refl H) ?_⟩
    rw [hT]
    simp
  · exact op_repT pins s σ H _ _ v u Q I rx ry ⟨l, k, xs, rfl, rfl, SqT.of hT, hne, by omega, h2, hl, fun p hp => q p _ (Same.new hp) upd_same⟩
/-! ### rules for any kind of value -/
def rAddU (K : PySem.W.Frag) : R2 := fun x y H Q => match x, y with
  | .int i, .int j => Q (.int (i + j)) H
  | .str a, .str b => a.length + b.length ≤ sizeLine ∧ Q (.str (a ++ b)) H
  | .ref a, .ref b => rCat (.ref a) (.ref b) H Q ∨ rCatA K (.ref a) (.ref b) H Q
  | _, _ => False
def rMulU : R2 := fun x y H Q => match x, y with
  | .int i, .int j => (CMul i j ∨ CMulW i j) ∧ Q (.int (i * j)) H
  | .ref a, .int j => rRep (.ref a) (.int j) H Q ∨ rRepTU (.ref a) (.int j) H Q
  | _, _ => False
def rEqU (K : PySem.W.Frag) (neg : Bool) : R2 := fun x y H Q => (scal x y = true ∧ Q (.bl (if neg then !decide (x = y) else decide (x = y))) H) ∨ (if neg then rNeD K x y H Q else rEqD K x y H Q)
/-- the heap's dict at a holds o at y -/
def rInDT (K : PySem.W.Frag) (neg : Bool) : R2 := fun x y H Q => ∃ d ds, Dp K H x d ∧ (Dp K H y (.tuple ds) ∨ Dp K H y (.list ds)) ∧ SeqAt.shaped d = true ∧ PyData.canLayAll0 ds = true ∧ Q (.bl (if neg then !(ds.any fun z => PyData.eqv z d) else ds.any fun z => PyData.eqv z d)) H
theorem hu65 {A : Around} {k : Nat} (hr : Room k A) : A.units + 65 < cLine := by have := hr.un; omega
theorem op_inDT {X : Cx} (hu : X.A.units + 65 < cLine) : OpR X (compareOp .In) (rInDT X.K false) := by
  intro pins s σ H x y v u Q I rx ry h
  obtain ⟨d, ds, hd, he, sd, se, q⟩ := h
  obtain ⟨as, r1⟩ := Dp.reads I d x v hd rx
  rcases he with he | he
  · obtain ⟨bs, r2⟩ := Dp.reads I (.tuple ds) y u he ry
    exact SeqAt.in_tuple_reads r2 r1 se (SeqAt.canLay_of_shaped sd) (room_in_shaped sd hu) ⟨.bl _, H, I, rfl, q⟩
  · obtain ⟨bs, r2⟩ := Dp.reads I (.list ds) y u he ry
    exact SeqAt.in_list_reads r2 r1 se (SeqAt.canLay_of_shaped sd) (room_in_shaped sd hu) ⟨.bl _, H, I, rfl, q⟩
theorem op_niDT {X : Cx} (hu : X.A.units + 65 < cLine) : OpR X (compareOp .NotIn) (rInDT X.K true) := by
  intro pins s σ H x y v u Q I rx ry h
  obtain ⟨d, ds, hd, he, sd, se, q⟩ := h
  obtain ⟨as, r1⟩ := Dp.reads I d x v hd rx
  rcases he with he | he
  · obtain ⟨bs, r2⟩ := Dp.reads I (.tuple ds) y u he ry
    exact SeqAt.notIn_tuple_reads r2 r1 se (SeqAt.canLay_of_shaped sd) (room_in_shaped sd hu) ⟨.bl _, H, I, rfl, q⟩
  · obtain ⟨bs, r2⟩ := Dp.reads I (.list ds) y u he ry
    exact SeqAt.notIn_list_reads r2 r1 se (SeqAt.canLay_of_shaped sd) (room_in_shaped sd hu) ⟨.bl _, H, I, rfl, q⟩
def rInU (K : PySem.W.Frag) (neg : Bool) : R2 := fun x y H Q => rIn K neg x y H Q ∨ (∃ a o, y = .ref a ∧ DGet H a x o ∧ Q (.bl (if neg then !o.isSome else o.isSome)) H) ∨
  (∃ c z, x = .str ⟨#[c]⟩ ∧ y = .str z ∧ Q (.bl (if neg then !decide (c ∈ z.cps.toList) else decide (c ∈ z.cps.toList))) H) ∨ rInDT K neg x y H Q
def rIxU (K : PySem.W.Frag) : R2 := fun x y H Q => rIxL K x y H Q ∨ rIxT K x y H Q ∨ rIxS x y H Q ∨ ∃ a v, x = .ref a ∧ DGet H a y (some v) ∧ Q v H
def rLenU (K : PySem.W.Frag) : List V → Hp → VK → Prop := fun xs H Q => (∃ x n, xs = [x] ∧ LenV K x H n ∧ Q (.int n) H) ∨ ∃ a kvs, xs = [.ref a] ∧ H a = some (.dK kvs) ∧ Q (.int (kvs.length : Nat)) H
def rAbs : List V → Hp → VK → Prop := fun xs H Q => ∃ i, xs = [.int i] ∧ Q (.int (if i < 0 then -i else i)) H
def rMax2 : List V → Hp → VK → Prop := fun xs H Q => ∃ i j, xs = [.int i, .int j] ∧ Q (.int (if j > i then j else i)) H
def rMin2 : List V → Hp → VK → Prop := fun xs H Q => ∃ i j, xs = [.int i, .int j] ∧ Q (.int (if j < i then j else i)) H
def rInt1 : List V → Hp → VK → Prop := fun xs H Q => (∃ i, xs = [.int i] ∧ Q (.int i) H) ∨ ∃ k, xs = [.bl k] ∧ Q (.int (if k then 1 else 0)) H
def rStrI : List V → Hp → VK → Prop := fun xs H Q => ∃ i, xs = [.int i] ∧ i.natAbs.log2 < 1920 ∧ Q (.str (toString i)) H
def rCmpI (p : Int → Int → Bool) : R2 := rI0 fun i j => .bl (p i j)

section
variable {X : Cx} {a b c : Expr} {ta tb tc : TE} {pos : Pos}
theorem op_addU {K : PySem.W.Frag} (hK : X.K = K) : OpR X (binaryOp .Add) (rAddU K) := by
  subst hK
  intro pins s σ H x y v u Q I rx ry h
  cases x <;> cases y <;> first | exact h.elim | skip
  · exact op_add pins s σ H _ _ v u Q I rx ry ⟨_, _, rfl, rfl, h⟩
  · exact op_add_str pins s σ H _ _ v u Q I rx ry ⟨_, _, rfl, rfl, h.1, h.2⟩
  · rcases h with h | h
    · exact op_cat pins s σ H _ _ v u Q I rx ry h
    · exact op_catA pins s σ H _ _ v u Q I rx ry h
theorem op_mulU : OpR X (binaryOp .Mult) rMulU := by
  intro pins s σ H x y v u Q I rx ry h
  cases x <;> cases y <;> first | exact h.elim | skip
  · rcases h with ⟨h | h, q⟩
    · exact op_mul pins s σ H _ _ v u Q I rx ry ⟨_, _, rfl, rfl, h, q⟩
    · exact op_mulW pins s σ H _ _ v u Q I rx ry ⟨_, _, rfl, rfl, h, q⟩
  · rcases h with h | h
    · exact op_rep pins s σ H _ _ v u Q I rx ry h
    · exact op_repTU pins s σ H _ _ v u Q I rx ry h
theorem op_eqU {K : PySem.W.Frag} (hK : X.K = K) (hu : X.A.units + 64 < cLine) : OpR X (compareOp .Eq) (rEqU K false) := by
  subst hK
  intro pins s σ H x y v u Q I rx ry h
  rcases h with ⟨hs, q⟩ | h
  · exact op_eq pins s σ H x y v u Q I rx ry ⟨hs, q⟩
  · exact op_eqD hu pins s σ H x y v u Q I rx ry h
theorem op_neU {K : PySem.W.Frag} (hK : X.K = K) (hu : X.A.units + 64 < cLine) : OpR X (compareOp .NotEq) (rEqU K true) := by
  subst hK
  intro pins s σ H x y v u Q I rx ry h
  rcases h with ⟨hs, q⟩ | h
  · exact op_ne pins s σ H x y v u Q I rx ry ⟨hs, q⟩
  · exact op_neD hu pins s σ H x y v u Q I rx ry h
theorem op_inU {K : PySem.W.Frag} (hK : X.K = K) (hu : X.A.units + 65 < cLine) : OpR X (compareOp .In) (rInU K false) := by
  subst hK
  intro pins s σ H x y v u Q I rx ry h
  rcases h with h | ⟨a, o, rfl, g, q⟩ | ⟨c, z, rfl, rfl, q⟩ | h
  · exact op_in_seq pins s σ H x y v u Q I rx ry h
  · obtain rfl : u = Value.ref a := ry
    exact d_in (by omega) I g rx fun s1 I1 => ⟨.bl _, H, I1, rfl, q⟩
  · exact op_in_sign pins s σ H _ _ v u Q I rx ry ⟨c, z, rfl, rfl, q⟩
  · exact op_inDT hu pins s σ H x y v u Q I rx ry h
theorem op_niU {K : PySem.W.Frag} (hK : X.K = K) (hu : X.A.units + 65 < cLine) : OpR X (compareOp .NotIn) (rInU K true) := by
  subst hK
  intro pins s σ H x y v u Q I rx ry h
  rcases h with h | ⟨a, o, rfl, g, q⟩ | ⟨c, z, rfl, rfl, q⟩ | h
  · exact op_notIn_seq pins s σ H x y v u Q I rx ry h
  · obtain rfl : u = Value.ref a := ry
    exact d_notIn (by omega) I g rx fun s1 I1 => ⟨.bl _, H, I1, rfl, q⟩
  · exact op_notIn_sign pins s σ H _ _ v u Q I rx ry ⟨c, z, rfl, rfl, q⟩
  · exact op_niDT hu pins s σ H x y v u Q I rx ry h
theorem ix_dict (hu : X.A.units + 1 < cLine) : IxR X (fun x y H Q => ∃ a v, x = .ref a ∧ DGet H a y (some v) ∧ Q v H) := by
  intro value slice pins s σ H x y v u Q I rx ry h hs
  obtain ⟨a, z, rfl, g, q⟩ := h
  obtain rfl : v = Value.ref a := rx
  exact tail_any (dict_typeIs I g) PySem.F.slot_dict_getitem.lookup (d_getItem hu I g ry fun w' s' I' rw' => ⟨z, H, I', rw', q⟩) hs
theorem ix_U {K : PySem.W.Frag} (hK : X.K = K) (hu : X.A.units + 1 < cLine) : IxR X (rIxU K) := by
  subst hK
  exact ix_list.or (ix_tup.or (ix_str.or (ix_dict hu)))
theorem pe_ixU {K : PySem.W.Frag} (hK : X.K = K) {a b : Expr} {ta tb : TE} {pos : Pos} (hu : X.A.units + 1 < cLine) (ha : PE X a ta) (hb : PE X b tb) (hs : PlainIx b := by exact fun _ _ => rfl) : PE X (.Subscript a b pos) (tOp (rIxU K) ta tb) := pe_ix (ix_U hK hu) ha hb hs
theorem c_len {K : PySem.W.Frag} (hK : X.K = K) : CallR X (.builtin "len") (rLenU K) := by
  subst hK
  intro pins s σ H xs us Q I r h
  rcases h with h | ⟨a, kvs, rfl, e, q⟩
  · exact call_len pins s σ H xs us Q I r h
  · rw [Vals.ref1 r]
    exact d_len I (.inl e) fun t s1 I1 => ⟨.int _, H, I1, ⟨_, rfl⟩, q⟩
theorem c_abs : CallR X (.builtin "abs") rAbs := call_abs
theorem c_max2 (hc : X.calm = true) : CallR X (.builtin "max") rMax2 := call_max2 hc
theorem c_min2 (hc : X.calm = true) : CallR X (.builtin "min") rMin2 := call_min2 hc
theorem c_int : CallR X (.type "int") rInt1 := call_int1
theorem c_str : CallR X (.type "str") rStrI := call_str_int
theorem c_isi {K : PySem.W.Frag} (hK : X.K = K) : CallR X (.builtin "isinstance") (rIsi K) := by
  subst hK
  exact call_isi
theorem o_lt : OpR X (compareOp .Lt) (rCmpI fun i j => decide (i < j)) := op_lt
theorem o_le : OpR X (compareOp .LtE) (rCmpI fun i j => decide (i ≤ j)) := op_le
theorem o_gt : OpR X (compareOp .Gt) (rCmpI fun i j => decide (j < i)) := op_gt
theorem o_ge : OpR X (compareOp .GtE) (rCmpI fun i j => decide (j ≤ i)) := op_ge
/-- what is walked: a list or a tuple -/
def iSeq (K : PySem.W.Frag) (tl : TE) : TI := fun σ H R => tl σ H fun x H1 => (∃ a xs, x = .ref a ∧ SqL K H1 a xs ∧ R (Itl K a) H1) ∨ ∃ a xs, x = .ref a ∧ SqT K H1 a xs ∧ R (Itt K a) H1
/-- an iterator that was just laid -/
theorem pie_new {pins : List (Addr × Obj)} {σ : L2.St} {H : Hp} {s : Shared} {R : It → Hp → Prop} {tg : Expr} {o : Obj} {J : It} {tn : Nat → Heap → Prop} (I : Inv X pins σ H s)
    (tu : Turn X.prog X.w X.K tg J [s.heap.objs.size] s.heap.objs.size tn) (h0 : tn 0 (s.heap.push o)) (q : R J H) : PIE X pins σ tg R (.ref s.heap.objs.size) { s with heap := s.heap.push o } := by
  have k := I.kept (t' := s.toks) (h' := s.heap.push o) (fun b u e => Heap.get?_push_of_some _ e)
  refine ⟨_, _, tn, J, H, rfl, k, tu, h0, ?_, q⟩
  intro b hb
  rw [List.mem_singleton.mp hb]
  exact I.fpOk (Nat.le_refl _) (I.hok.fresh (Nat.le_refl _))
theorem pi_seq {K : PySem.W.Frag} (hK : X.K = K) {tg l : Expr} {tl : TE} (hl : PE X l tl) : PI X tg l (iSeq K tl) := by
  subst hK
  refine ⟨fun pins s σ H R I h => thn (hl.run pins s σ H _ I h) ?_⟩
  rintro v s1 ⟨x, H1, I1, r1, ⟨a, xs, rfl, hq, q⟩ | ⟨a, xs, rfl, hq, q⟩⟩ <;> cases r1
  · obtain ⟨its, _, p, _⟩ := I1.list hq
    exact wpAny_pyIter_list p.isList (pie_new I1 (turn_list a _) ⟨_, Heap.get?_push_size _ rfl, rfl, rfl⟩ q)
  · obtain ⟨its, _, p, _⟩ := I1.tuple hq
    exact wpAny_pyIter_tuple (show s1.heap.IsTuple a its.toArray from p) (pie_new I1 (turn_tuple a _) ⟨_, Heap.get?_push_size _ rfl, rfl, rfl⟩ q)
/-- a value's truth as a test -/
def tTru (K : PySem.W.Frag) (ta : TE) : TT := fun σ H Q => ta σ H fun x H' => ∃ k, TruV K x H' k ∧ Q k H'
theorem pt_tru {K : PySem.W.Frag} (hK : X.K = K) (ha : PE X a ta) (he : ∀ whole, isTrue a X.env whole = (do let v ← whole; standAt a.pos; holding [v] (truthy v)) := by intro _; rfl) : PT X a (tTru K ta) := by
  subst hK
  exact pt_truth ha he
end

/-! ### the steps of a reading -/
/-- a new tuple, a new list, of these -/
def rTupN (xs : List V) : Hp → VK → Prop := fun H Q => xs.length ≤ sizeLine ∧ ∀ p, H p = none → Q (.ref p) (upd H p (.tup xs))
def rLstN (xs : List V) : Hp → VK → Prop := fun H Q => xs.length ≤ sizeLine ∧ ∀ p, H p = none → Q (.ref p) (upd H p (.lst xs))
section
variable {K : PySem.W.Frag} {σ : L2.St} {H : Hp} {D : Ends} {t u : TS} {te ta tb tc : TE} {tt tt' : TT} {Q : VK} {QB : Bool → Hp → Prop} {QA : List V → Hp → Prop} {QS : L2.St → Hp → Prop} {g : TG} {r r' : R2} {v x y : V} {i j : Int} {b c : Bool} {k : Nat} {tA tA' : TA} {A B : Prop} {p q : Prop} {sp : Sp} {E : XK} {dvs vs : List V} {xs ys : List V} {a d C dx : Addr} {fs : List (Str × V)} {f : Str} {z z' : Str}
theorem g_seq (h : t { nx := u D, rt := D.rt, bk := D.bk, ct := D.ct } σ H) : tSeq t u D σ H := h
theorem g_next (h : D.nx σ H) : tNext D σ H := h
theorem g_asg (h : te σ H fun x H1 => g x σ H1 D.nx) : tAsg te g D σ H := h
theorem g_drop (h : te σ H fun _ H1 => D.nx σ H1) : tDrop te D σ H := h
theorem g_ret (h : te σ H D.rt) : tRet te D σ H := h
theorem g_retN (h : D.rt .non H) : tRetN D σ H := h
theorem g_brk (h : D.bk σ H) : tBreak D σ H := h
theorem g_ct (h : D.ct σ H) : tCont D σ H := h
theorem g_ifS (h : tt σ H fun b H1 => if b = true then t D σ H1 else u D σ H1) : tIfS tt t u D σ H := h
theorem g_name (h : QS (σ.set k (some v)) H) : gName k v σ H QS := h
theorem g_aug {ti : TIp} (e : σ[k]? = some (some x)) (h : te σ H fun y H1 => ti x y H1 fun z H2 => D.nx (σ.set k (some z)) H2) : tAug k te ti D σ H := ⟨x, e, h⟩
theorem g_ipI {f : Int → Int → Int} (h : Q (.int (f i j)) H) : ipI f (.int i) (.int j) H Q := ⟨i, j, rfl, rfl, h⟩
theorem g_var (e : σ[k]? = some (some v)) (h : Q v H) : tVar k σ H Q := ⟨v, e, h⟩
theorem g_c (h : Q v H) : tC v σ H Q := h
theorem g_op (h : ta σ H fun x H1 => tb σ H1 fun y H2 => r x y H2 Q) : tOp r ta tb σ H Q := h
theorem g_un {r : V → Hp → VK → Prop} (h : ta σ H fun x H1 => r x H1 Q) : tUn r ta σ H Q := h
theorem g_rU {g : Int → V} (h : Q (g i) H) : rU g (.int i) H Q := ⟨i, rfl, h⟩
theorem g_I0 {g : Int → Int → V} (h : Q (g i j) H) : rI0 g (.int i) (.int j) H Q := ⟨i, j, rfl, rfl, h⟩
theorem g_I {C : Int → Int → Prop} {g : Int → Int → V} (hc : C i j) (h : Q (g i j) H) : rI C g (.int i) (.int j) H Q := ⟨i, j, rfl, rfl, hc, h⟩
theorem g_cmpI {p : Int → Int → Bool} (h : Q (.bl (p i j)) H) : rCmpI p (.int i) (.int j) H Q := ⟨i, j, rfl, rfl, h⟩
theorem g_addI (h : Q (.int (i + j)) H) : rAddU K (.int i) (.int j) H Q := h
theorem g_addS (hl : z.length + z'.length ≤ sizeLine) (h : Q (.str (z ++ z')) H) : rAddU K (.str z) (.str z') H Q := ⟨hl, h⟩
theorem g_mulI (hc : CMul i j ∨ CMulW i j) (h : Q (.int (i * j)) H) : rMulU (.int i) (.int j) H Q := ⟨hc, h⟩
theorem g_eqI (h : Q (.bl (decide (i = j))) H) : rEqU K false (.int i) (.int j) H Q := .inl ⟨rfl, by
  have e : decide (V.int i = V.int j) = decide (i = j) := by simp
  show Q (.bl (decide (V.int i = V.int j))) H
  rw [e]
  exact h⟩
theorem g_neI (h : Q (.bl (!decide (i = j))) H) : rEqU K true (.int i) (.int j) H Q := .inl ⟨rfl, by
  have e : decide (V.int i = V.int j) = decide (i = j) := by simp
  show Q (.bl (!decide (V.int i = V.int j))) H
  rw [e]
  exact h⟩
theorem g_eqS (h : Q (.bl (decide (z = z'))) H) : rEqU K false (.str z) (.str z') H Q := .inl ⟨rfl, by
  have e : decide (V.str z = V.str z') = decide (z = z') := by simp
  show Q (.bl (decide (V.str z = V.str z'))) H
  rw [e]
  exact h⟩
theorem g_neS (h : Q (.bl (!decide (z = z'))) H) : rEqU K true (.str z) (.str z') H Q := .inl ⟨rfl, by
  have e : decide (V.str z = V.str z') = decide (z = z') := by simp
  show Q (.bl (!decide (V.str z = V.str z'))) H
  rw [e]
  exact h⟩
theorem g_eqB (h : Q (.bl (decide (b = c))) H) : rEqU K false (.bl b) (.bl c) H Q := .inl ⟨rfl, by
  have e : decide (V.bl b = V.bl c) = decide (b = c) := by simp
  show Q (.bl (decide (V.bl b = V.bl c))) H
  rw [e]
  exact h⟩
theorem g_neB (h : Q (.bl (!decide (b = c))) H) : rEqU K true (.bl b) (.bl c) H Q := .inl ⟨rfl, by
  have e : decide (V.bl b = V.bl c) = decide (b = c) := by simp
  show Q (.bl (!decide (V.bl b = V.bl c))) H
  rw [e]
  exact h⟩
theorem g_eqD {d e : PyData} (h1 : Dp K H x d) (h2 : Dp K H y e) (s1 : SeqAt.shaped d = true) (s2 : SeqAt.shaped e = true) (h : Q (.bl (PyData.eqv d e)) H) : rEqU K false x y H Q := .inr ⟨d, e, h1, h2, s1, s2, h⟩
theorem g_neD {d e : PyData} (h1 : Dp K H x d) (h2 : Dp K H y e) (s1 : SeqAt.shaped d = true) (s2 : SeqAt.shaped e = true) (h : Q (.bl (!PyData.eqv d e)) H) : rEqU K true x y H Q := .inr ⟨d, e, h1, h2, s1, s2, h⟩
theorem g_test (h : te σ H fun x H' => ∃ k, x = .bl k ∧ QB k H') : tTest te σ H QB := h
theorem g_B (h : te σ H fun x H' => ∃ k, x = .bl k ∧ QB k H') : tB te σ H QB := h
theorem g_exb {R : Bool → Prop} (h : R b) : ∃ k, V.bl b = V.bl k ∧ R k := ⟨b, rfl, h⟩
theorem g_tru (h : te σ H fun x H' => ∃ k, TruV K x H' k ∧ QB k H') : tTru K te σ H QB := h
theorem g_truB {R : Bool → Prop} (h : R b) : ∃ k, TruV K (.bl b) H k ∧ R k := ⟨b, rfl, h⟩
theorem g_truI {R : Bool → Prop} (h : R (i != 0)) : ∃ k, TruV K (.int i) H k ∧ R k := ⟨_, rfl, h⟩
theorem g_truN {R : Bool → Prop} (h : R false) : ∃ k, TruV K .non H k ∧ R k := ⟨_, rfl, h⟩
theorem g_not (h : tt σ H fun c H1 => QB (!c) H1) : tNot tt σ H QB := h
theorem g_and (h : tt σ H fun c H1 => if c = true then tt' σ H1 QB else QB false H1) : tAnd tt tt' σ H QB := h
theorem g_or (h : tt σ H fun c H1 => if c = true then QB true H1 else tt' σ H1 QB) : tOr tt tt' σ H QB := h
theorem g_notV (h : ta σ H fun x H1 => ∃ c, x = .bl c ∧ Q (.bl (!c)) H1) : tNotV ta σ H Q := h
theorem g_andV (h : ta σ H fun x H1 => ∃ c, x = .bl c ∧ if c = true then tb σ H1 Q else Q (.bl false) H1) : tAndV ta tb σ H Q := h
theorem g_orV (h : ta σ H fun x H1 => ∃ c, x = .bl c ∧ if c = true then Q (.bl true) H1 else tb σ H1 Q) : tOrV ta tb σ H Q := h
theorem g_ifE (h : tt σ H fun c H1 => if c = true then ta σ H1 Q else tb σ H1 Q) : tIf tt ta tb σ H Q := h
theorem g_chain (h : ta σ H fun x H1 => tb σ H1 fun y H2 => r x y H2 fun z H3 => ∃ k, z = .bl k ∧ (if k = true then tc σ H3 fun w' H4 => r' y w' H4 Q else Q (.bl false) H3)) : tChain r r' ta tb tc σ H Q := h
theorem g_nilA (h : QA [] H) : tNil σ H QA := h
theorem g_consA (h : ta σ H fun x H1 => tA σ H1 fun xs H2 => QA (x :: xs) H2) : tCons ta tA σ H QA := h
theorem g_tup (h : tA σ H fun xs H1 => rTupN xs H1 Q) : tTup tA σ H Q := h
theorem g_lst (h : tA σ H fun xs H1 => rLstN xs H1 Q) : tLst tA σ H Q := h
theorem g_cb {r : List V → Hp → VK → Prop} (h : tA σ H fun vs H1 => r vs H1 Q) : tCB r tA σ H Q := h
theorem g_call (h : tA σ H fun vs H1 => sp (vs ++ dvs) H1 Q E) : tCall sp dvs E tA σ H Q := h
theorem g_bm {T : String} {r : V → List V → Hp → VK → Prop} (h : te σ H fun x H1 => tyV K T x H1 ∧ tA σ H1 fun xs H2 => r x xs H2 Q) : tBM K T r te tA σ H Q := h
theorem g_bm0 {T : String} {r : V → List V → Hp → VK → Prop} (h : te σ H fun x H1 => tyV K T x H1 ∧ r x [] H1 Q) : tBM0 K T r te σ H Q := h
theorem g_lenL (hl : SqL K H a xs) (h : Q (.int (xs.length : Nat)) H) : rLenU K [.ref a] H Q := .inl ⟨_, _, rfl, .inl ⟨_, hl, rfl⟩, h⟩
theorem g_lenT (hl : SqT K H a xs) (h : Q (.int (xs.length : Nat)) H) : rLenU K [.ref a] H Q := .inl ⟨_, _, rfl, .inr ⟨_, hl, rfl⟩, h⟩
theorem g_lenS (hl : z.length ≤ sizeLine) (h : Q (.int (z.length : Nat)) H) : rLenU K [.str z] H Q := .inl ⟨_, _, rfl, ⟨hl, rfl⟩, h⟩
theorem g_abs (h : Q (.int (if i < 0 then -i else i)) H) : rAbs [.int i] H Q := ⟨i, rfl, h⟩
theorem g_max2 (h : Q (.int (if j > i then j else i)) H) : rMax2 [.int i, .int j] H Q := ⟨i, j, rfl, h⟩
theorem g_min2 (h : Q (.int (if j < i then j else i)) H) : rMin2 [.int i, .int j] H Q := ⟨i, j, rfl, h⟩
theorem g_intI (h : Q (.int i) H) : rInt1 [.int i] H Q := .inl ⟨i, rfl, h⟩
theorem g_intB (h : Q (.int (if b then 1 else 0)) H) : rInt1 [.bl b] H Q := .inr ⟨b, rfl, h⟩
theorem g_ixL {n : Nat} (hl : SqL K H a xs) (e : i = (n : Int)) (hv : xs[n]? = some v) (h : Q v H) : rIxU K (.ref a) (.int i) H Q := .inl ⟨_, _, _, _, rfl, rfl, hl, by rw [e]; exact atI_nat hv, h⟩
theorem g_ixL' (hl : SqL K H a xs) (hv : atI xs i = some v) (h : Q v H) : rIxU K (.ref a) (.int i) H Q := .inl ⟨_, _, _, _, rfl, rfl, hl, hv, h⟩
theorem g_ixT {n : Nat} (hl : SqT K H a xs) (e : i = (n : Int)) (hv : xs[n]? = some v) (h : Q v H) : rIxU K (.ref a) (.int i) H Q := .inr (.inl ⟨_, _, _, _, rfl, rfl, hl, by rw [e]; exact atI_nat hv, h⟩)
theorem g_ixT' (hl : SqT K H a xs) (hv : atI xs i = some v) (h : Q v H) : rIxU K (.ref a) (.int i) H Q := .inr (.inl ⟨_, _, _, _, rfl, rfl, hl, hv, h⟩)
theorem g_ixD (g : DGet H a x (some v)) (h : Q v H) : rIxU K (.ref a) x H Q := .inr (.inr (.inr ⟨_, _, rfl, g, h⟩))
theorem g_isi {t u : Value} (hc : ClsV y u) (ht : TyX K H x t) (hk : PySem.W.kitOne K t u = some b) (h : Q (.bl b) H) : rIsi K [x, y] H Q := ⟨x, y, t, u, b, rfl, hc, ht, hk, h⟩
/-- branches -/
theorem g_if [Decidable p] (h1 : p → A) (h2 : ¬ p → B) : if decide p = true then A else B := by
  by_cases h : p
  · rw [if_pos (decide_eq_true h)]
    exact h1 h
  · rw [if_neg fun z => h (of_decide_eq_true z)]
    exact h2 h
theorem g_ifN [Decidable p] (h1 : ¬ p → A) (h2 : p → B) : if (!decide p) = true then A else B := by
  by_cases h : p
  · rw [decide_eq_true h]
    exact h2 h
  · rw [decide_eq_false h]
    exact h1 h
theorem g_ifB (h1 : b = true → A) (h2 : b = false → B) : if b = true then A else B := by
  cases b with
  | true => exact h1 rfl
  | false => exact h2 rfl
theorem g_ifBn (h1 : b = false → A) (h2 : b = true → B) : if (!b) = true then A else B := by
  cases b with
  | true => exact h2 rfl
  | false => exact h1 rfl
theorem g_ifT (h : A) : if true = true then A else B := h
theorem g_ifF (h : B) : if false = true then A else B := h
theorem g_ifNT (h : B) : if (!true) = true then A else B := h
theorem g_ifNF (h : A) : if (!false) = true then A else B := h
/-- a list grown -/
theorem g_append {L : List (Addr × HO)} (M : Has H L) (n : Nat) (h : L[n]? = some (a, .lst xs)) (hl : xs.length < sizeLine) (k : Has (upd H a (.lst (xs ++ [y]))) (L.set n (a, .lst (xs ++ [y]))) → Q .non (upd H a (.lst (xs ++ [y])))) : rAppend (.ref a) [y] H Q :=
  ⟨a, xs, y, rfl, rfl, M.get n h, hl, k (M.set n h)⟩
theorem g_setL {L : List (Addr × HO)} {R : Hp → Prop} {m : Nat} (M : Has H L) (n : Nat) (h : L[n]? = some (a, .lst xs)) (hi : ixN xs.length i = some m) (k : Has (upd H a (.lst (xs.set m y))) (L.set n (a, .lst (xs.set m y))) → R (upd H a (.lst (xs.set m y)))) : rSetL (.ref a) (.int i) y H R :=
  ⟨a, xs, i, m, rfl, rfl, M.get n h, hi, k (M.set n h)⟩
/-- a new object -/
theorem g_new {L : List (Addr × HO)} {o : HO} {R : Addr → Hp → Prop} (M : Has H L) (k : ∀ p, H p = none → Has (upd H p o) (L ++ [(p, o)]) → R p (upd H p o)) : ∀ p, H p = none → R p (upd H p o) := fun p hp => k p hp (M.new hp)
end
theorem mul_ok {i j : Int} (h : -18446744073709551616 < j) (h2 : j < 18446744073709551616) : CMul i j ∨ CMulW i j := .inl (.inr ⟨h, h2⟩)
theorem mul_ok' {i j : Int} (h : -18446744073709551616 < i) (h2 : i < 18446744073709551616) : CMul i j ∨ CMulW i j := .inl (.inl ⟨h, h2⟩)
theorem cdivW_of {i j : Int} (h : 0 < j) (h2 : j < 2 ^ 64) : CDivW i j := wide_div h (b := 64) (by omega) (by decide) (by decide)
theorem cpow_of {i j : Int} (h : 0 ≤ j) (h2 : j ≤ 1000000) (h3 : i.natAbs < 2 ^ 64) : CPow i j := ⟨h, h2, h3⟩

/-! ### loops -/
/-- what a for asks once its iterator has come -/
def ForW (g : TG) (tb : TS) (D : Ends) (σ : L2.St) : It → Hp → Prop := fun J H1 => ∃ W : Nat → Nat → L2.St → Hp → Prop, (∃ m, W 0 m σ H1) ∧ ∀ i m σ H, W i m σ H →
  (J.stop i H ∧ D.nx σ H) ∨ (J.go i H ∧ ∃ N : L2.St → Hp → Prop, (∀ σ' H', N σ' H' → ∃ m', m' < m ∧ W (i + 1) m' σ' H') ∧ ∀ x H', J.yld i H x H' → g x σ H' fun σ2 H2 => tb { D with nx := N, ct := N, bk := D.nx } σ2 H2)
def rR1 : List V → Hp → (It → Hp → Prop) → Prop := fun vs H R => ∃ j : Int, vs = [.int j] ∧ -(2 ^ 62) ≤ j ∧ j < 2 ^ 62 ∧ R (Itr 0 j.toNat) H
def rR2 : List V → Hp → (It → Hp → Prop) → Prop := fun vs H R => ∃ i j : Int, vs = [.int i, .int j] ∧ (-(2 ^ 62) ≤ i ∧ i < 2 ^ 62 ∧ -(2 ^ 62) ≤ j ∧ j < 2 ^ 62) ∧ R (Itr i (j - i).toNat) H
def iR (r : List V → Hp → (It → Hp → Prop) → Prop) (ta : TA) : TI := fun σ H R => ta σ H fun vs H1 => r vs H1 R
theorem pi_r1 {X : Cx} {tg a : Expr} {ta : TA} {p pos : Pos} (hg : Gl X "range") (hm : X.mg "range" = none) (ha : PA X [a] ta) (hs : starEach [a] X.env = [(false, eval a X.env)] := by rfl) : PI X tg (.Call (.Name "range" p) [a] [] pos) (iR rR1 ta) := pi_range1 hg hm ha hs
theorem pi_r2 {X : Cx} {tg a b : Expr} {ta : TA} {p pos : Pos} (hg : Gl X "range") (hm : X.mg "range" = none) (ha : PA X [a, b] ta) (hs : starEach [a, b] X.env = [(false, eval a X.env), (false, eval b X.env)] := by rfl) (hs2 : starEach [b] X.env = [(false, eval b X.env)] := by rfl) : PI X tg (.Call (.Name "range" p) [a, b] [] pos) (iR rR2 ta) := pi_range2 hg hm ha hs hs2
section
variable {K : PySem.W.Frag} {σ : L2.St} {H : Hp} {D : Ends} {wi : TI} {g : TG} {tb : TS} {ta : TA} {te : TE} {R : It → Hp → Prop} {r : List V → Hp → (It → Hp → Prop) → Prop} {i j : Int} {a : Addr} {xs : List V} {Q : VK} {n lo : Int}
theorem g_for (h : wi σ H (ForW g tb D σ)) : tFor wi g tb D σ H := h
theorem g_iR (h : ta σ H fun vs H1 => r vs H1 R) : iR r ta σ H R := h
theorem g_rR1 (h1 : -4611686018427387904 ≤ i) (h2 : i < 4611686018427387904) (h : R (Itr 0 i.toNat) H) : rR1 [.int i] H R := ⟨i, rfl, h1, h2, h⟩
theorem g_rR2 (h1 : -4611686018427387904 ≤ i ∧ i < 4611686018427387904 ∧ -4611686018427387904 ≤ j ∧ j < 4611686018427387904) (h : R (Itr i (j - i).toNat) H) : rR2 [.int i, .int j] H R := ⟨i, j, rfl, h1, h⟩
theorem g_iSeq (h : te σ H fun x H1 => (∃ a xs, x = .ref a ∧ SqL K H1 a xs ∧ R (Itl K a) H1) ∨ ∃ a xs, x = .ref a ∧ SqT K H1 a xs ∧ R (Itt K a) H1) : iSeq K te σ H R := h
theorem g_seqL (hl : SqL K H a xs) (h : R (Itl K a) H) : (∃ b ys, V.ref a = .ref b ∧ SqL K H b ys ∧ R (Itl K b) H) ∨ ∃ b ys, V.ref a = .ref b ∧ SqT K H b ys ∧ R (Itt K b) H := .inl ⟨a, xs, rfl, hl, h⟩
theorem g_seqT (hl : SqT K H a xs) (h : R (Itt K a) H) : (∃ b ys, V.ref a = .ref b ∧ SqL K H b ys ∧ R (Itl K b) H) ∨ ∃ b ys, V.ref a = .ref b ∧ SqT K H b ys ∧ R (Itt K b) H := .inr ⟨a, xs, rfl, hl, h⟩
theorem f_range {lo : Int} {n : Nat} (Pv : Nat → L2.St → Hp → Prop) (h0 : Pv 0 σ H)
    (hs : ∀ i σ H, i < n → Pv i σ H → g (.int (lo + i)) σ H fun σ2 H2 => tb { nx := Pv (i + 1), rt := D.rt, ct := Pv (i + 1), bk := D.nx } σ2 H2) (hd : ∀ σ H, Pv n σ H → D.nx σ H) : ForW g tb D σ (Itr lo n) H := for_range Pv h0 hs hd
theorem f_list (Pv : Nat → L2.St → Hp → Prop) (h0 : Pv 0 σ H) (hl : ∀ i σ H, i ≤ xs.length → Pv i σ H → SqL K H a xs)
    (hs : ∀ i x σ H, xs[i]? = some x → Pv i σ H → g x σ H fun σ2 H2 => tb { nx := Pv (i + 1), rt := D.rt, ct := Pv (i + 1), bk := D.nx } σ2 H2) (hd : ∀ σ H, Pv xs.length σ H → D.nx σ H) : ForW g tb D σ (Itl K a) H := for_list Pv h0 hl hs hd
theorem f_tup (Pv : Nat → L2.St → Hp → Prop) (h0 : Pv 0 σ H) (hl : ∀ i σ H, i ≤ xs.length → Pv i σ H → SqT K H a xs)
    (hs : ∀ i x σ H, xs[i]? = some x → Pv i σ H → g x σ H fun σ2 H2 => tb { nx := Pv (i + 1), rt := D.rt, ct := Pv (i + 1), bk := D.nx } σ2 H2) (hd : ∀ σ H, Pv xs.length σ H → D.nx σ H) : ForW g tb D σ (Itt K a) H := for_tup Pv h0 hl hs hd
/-- while: W by a measure and the state -/
def WhileW (c : TT) (tb : TS) (D : Ends) (W : Nat → L2.St → Hp → Prop) : Prop := ∀ m σ H, W m σ H →
  c σ H fun b H1 => if b = true then ∃ N : L2.St → Hp → Prop, (∀ σ' H', N σ' H' → ∃ m', m' < m ∧ W m' σ' H') ∧ tb { D with nx := N, ct := N, bk := D.nx } σ H1 else D.nx σ H1
theorem g_whileT {m : Nat} {W : Nat → L2.St → Hp → Prop} {A : (L2.St → Hp → Prop) → Prop} (h : A fun σ' H' => ∃ m', m' < m ∧ W m' σ' H') : ∃ N : L2.St → Hp → Prop, (∀ σ' H', N σ' H' → ∃ m', m' < m ∧ W m' σ' H') ∧ A N := ⟨_, fun _ _ h => h, h⟩
/-! ### isinstance of the scalars -/
theorem isi_of {x : V} {T T' : String} {b : Bool} (ht : TyX K H x (.type T)) (hk : kitB T T' = some b) (h : Q (.bl b) H) : rIsi K [x, .ty T'] H Q := ⟨x, .ty T', .type T, .type T', b, rfl, .ty T', ht, kit_ty hk, h⟩
theorem k_ii : kitB "int" "int" = some true := by decide +kernel
theorem k_ib : kitB "int" "bool" = some false := by decide +kernel
theorem k_bi : kitB "bool" "int" = some true := by decide +kernel
theorem k_bb : kitB "bool" "bool" = some true := by decide +kernel
theorem k_is_ : kitB "int" "str" = some false := by decide +kernel
theorem k_bs : kitB "bool" "str" = some false := by decide +kernel
theorem k_it : kitB "int" "tuple" = some false := by decide +kernel
theorem k_bt : kitB "bool" "tuple" = some false := by decide +kernel
theorem k_si : kitB "str" "int" = some false := by decide +kernel
theorem k_sb : kitB "str" "bool" = some false := by decide +kernel
theorem k_ss : kitB "str" "str" = some true := by decide +kernel
theorem k_st : kitB "str" "tuple" = some false := by decide +kernel
theorem k_ni : kitB "NoneType" "int" = some false := by decide +kernel
theorem k_nb : kitB "NoneType" "bool" = some false := by decide +kernel
theorem k_ns : kitB "NoneType" "str" = some false := by decide +kernel
theorem k_nt : kitB "NoneType" "tuple" = some false := by decide +kernel
theorem k_tt : kitB "tuple" "tuple" = some true := by decide +kernel
theorem k_ti : kitB "tuple" "int" = some false := by decide +kernel
theorem k_tb : kitB "tuple" "bool" = some false := by decide +kernel
theorem k_ts : kitB "tuple" "str" = some false := by decide +kernel
variable {z : Str} {b : Bool}
theorem g_isiIi (h : Q (.bl true) H) : rIsi K [.int i, .ty "int"] H Q := isi_of (.base (.int i)) k_ii h
theorem g_isiIb (h : Q (.bl false) H) : rIsi K [.int i, .ty "bool"] H Q := isi_of (.base (.int i)) k_ib h
theorem g_isiIs (h : Q (.bl false) H) : rIsi K [.int i, .ty "str"] H Q := isi_of (.base (.int i)) k_is_ h
theorem g_isiIt (h : Q (.bl false) H) : rIsi K [.int i, .ty "tuple"] H Q := isi_of (.base (.int i)) k_it h
theorem g_isiBi (h : Q (.bl true) H) : rIsi K [.bl b, .ty "int"] H Q := isi_of (.base (.bl b)) k_bi h
theorem g_isiBb (h : Q (.bl true) H) : rIsi K [.bl b, .ty "bool"] H Q := isi_of (.base (.bl b)) k_bb h
theorem g_isiBs (h : Q (.bl false) H) : rIsi K [.bl b, .ty "str"] H Q := isi_of (.base (.bl b)) k_bs h
theorem g_isiBt (h : Q (.bl false) H) : rIsi K [.bl b, .ty "tuple"] H Q := isi_of (.base (.bl b)) k_bt h
theorem g_isiSi (h : Q (.bl false) H) : rIsi K [.str z, .ty "int"] H Q := isi_of (.base (.str z)) k_si h
theorem g_isiSb (h : Q (.bl false) H) : rIsi K [.str z, .ty "bool"] H Q := isi_of (.base (.str z)) k_sb h
theorem g_isiSs (h : Q (.bl true) H) : rIsi K [.str z, .ty "str"] H Q := isi_of (.base (.str z)) k_ss h
theorem g_isiSt (h : Q (.bl false) H) : rIsi K [.str z, .ty "tuple"] H Q := isi_of (.base (.str z)) k_st h
theorem g_isiNi (h : Q (.bl false) H) : rIsi K [.non, .ty "int"] H Q := isi_of (.base .non) k_ni h
theorem g_isiNb (h : Q (.bl false) H) : rIsi K [.non, .ty "bool"] H Q := isi_of (.base .non) k_nb h
theorem g_isiNs (h : Q (.bl false) H) : rIsi K [.non, .ty "str"] H Q := isi_of (.base .non) k_ns h
theorem g_isiNt (h : Q (.bl false) H) : rIsi K [.non, .ty "tuple"] H Q := isi_of (.base .non) k_nt h
end
section
variable {H H1 : Hp} {a : Addr} {o : HO}
theorem Same.mut (x : Same H H1) (h : H a = none) : Same H (upd H1 a o) := fun b u e => by
  rw [upd_ne (ne_of_none e h)]
  exact x b u e
theorem Same.new' (x : Same H H1) (h : H1 a = none) : Same H (upd H1 a o) := fun b u e => keep_new (x b u e) h
end
theorem q_int {Q : VK} {x y : Int} {H : Hp} (e : x = y) (h : Q (.int x) H) : Q (.int y) H := e ▸ h
theorem q_bl {Q : VK} {x y : Bool} {H : Hp} (e : x = y) (h : Q (.bl x) H) : Q (.bl y) H := e ▸ h
theorem q_str {Q : VK} {x y : Str} {H : Hp} (e : x = y) (h : Q (.str x) H) : Q (.str y) H := e ▸ h
theorem g_disp {trs : List (TE × TE)} {σ : L2.St} {H : Hp} {Q : VK} (h : ∀ p, H p = none → tPairs trs σ (upd H p (.dK [])) fun ps H2 => H2 p = some (.dK []) ∧ ∃ kvs : List (Key × V), ps = kvs.map (fun kv => (kV kv.1, kv.2)) ∧ kvs.length ≤ 15 ∧ Q (.ref p) (upd H2 p (.dK (mergeK [] kvs)))) : tDisp trs σ H Q := h
theorem g_pairN {σ : L2.St} {H : Hp} {R : List (V × V) → Hp → Prop} (h : R [] H) : tPairs [] σ H R := h
theorem g_pairC {tk tv : TE} {r : List (TE × TE)} {σ : L2.St} {H : Hp} {R : List (V × V) → Hp → Prop} (h : tk σ H fun x H1 => tv σ H1 fun y H2 => tPairs r σ H2 fun ps H3 => R ((x, y) :: ps) H3) : tPairs ((tk, tv) :: r) σ H R := h
theorem g_dput {td ty tv : TE} {D : Ends} {σ : L2.St} {H : Hp} (h : tv σ H fun v H1 => td σ H1 fun x H2 => ty σ H2 fun y H3 => ∃ a H4, x = .ref a ∧ DPut H3 a y v H4 ∧ D.nx σ H4) : sDPut td ty tv D σ H := h

/-! ### the laws' draws: a dict with a row, a place and a seed -/
theorem ne_ra : ¬ (("row" : Str) = "at") := by decide +kernel
theorem ne_rs : ¬ (("row" : Str) = "seed") := by decide +kernel
theorem ne_as : ¬ (("at" : Str) = "seed") := by decide +kernel
theorem ne_sa : ¬ (("seed" : Str) = "at") := by decide +kernel
theorem ne_ar : ¬ (("at" : Str) = "row") := by decide +kernel
theorem ne_sr : ¬ (("seed" : Str) = "row") := by decide +kernel
def drK (r : Addr) (n sd : Int) : List (Key × V) := [(.inr "row", .ref r), (.inr "at", .int n), (.inr "seed", .int sd)]
structure RowOk (row : List Int) (sd : Int) : Prop where
  dig : ∀ x ∈ row, 0 ≤ x ∧ x < 1000
  len : row.length ≤ 1260
  s0 : 0 ≤ sd
  s1 : sd < 1000003
theorem dr_row (r : Addr) (n sd : Int) : valV (drK r n sd) (.inr "row") = some (.ref r) := by
  unfold drK
  exact valV_pos rfl
theorem dr_at (r : Addr) (n sd : Int) : valV (drK r n sd) (.inr "at") = some (.int n) := by
  unfold drK
  rw [valV_neg (fun e => ne_ra (Sum.inr.inj e))]
  exact valV_pos rfl
theorem dr_seed (r : Addr) (n sd : Int) : valV (drK r n sd) (.inr "seed") = some (.int sd) := by
  unfold drK
  rw [valV_neg (fun e => ne_rs (Sum.inr.inj e)), valV_neg (fun e => ne_as (Sum.inr.inj e))]
  exact valV_pos rfl
theorem dr_put (r : Addr) (n m sd : Int) : putK (drK r n sd) (.inr "at") (.int m) = drK r m sd := by
  unfold putK
  rw [valV_any, dr_at]
  simp only [Option.isSome_some, if_true]
  unfold drK
  simp only [List.map_cons, List.map_nil]
  rw [if_neg (fun e => ne_ra (Sum.inr.inj e)), if_pos trivial, if_neg (fun e => ne_sa (Sum.inr.inj e))]
theorem dr_made (r : Addr) (n sd : Int) : mergeK [] [(.inr "row", .ref r), (.inr "at", .int n), (.inr "seed", .int sd)] = drK r n sd := by
  have h1 : putK ([] : List (Key × V)) (.inr "row") (.ref r) = [(.inr "row", .ref r)] := putK_new _ rfl
  have h2 : putK ([(.inr "row", .ref r)] : List (Key × V)) (.inr "at") (.int n) = [(.inr "row", .ref r)] ++ [(.inr "at", .int n)] := putK_new _ (by rw [valV_neg (fun e => ne_ra (Sum.inr.inj e))]; rfl)
  have h3 : putK ([(.inr "row", .ref r), (.inr "at", .int n)] : List (Key × V)) (.inr "seed") (.int sd) = [(.inr "row", .ref r), (.inr "at", .int n)] ++ [(.inr "seed", .int sd)] := putK_new _ (by
    rw [valV_neg (fun e => ne_rs (Sum.inr.inj e)), valV_neg (fun e => ne_as (Sum.inr.inj e))]; rfl)
  unfold mergeK
  simp only [List.foldl_cons, List.foldl_nil]
  rw [h1, h2]
  exact h3
theorem dg_row {H : Hp} {d r : Addr} {n sd : Int} (h : H d = some (.dK (drK r n sd))) : DGet H d (.str "row") (some (.ref r)) := by
  rw [← dr_row r n sd]
  exact DGet.k (k := .inr "row") h
theorem dg_at {H : Hp} {d r : Addr} {n sd : Int} (h : H d = some (.dK (drK r n sd))) : DGet H d (.str "at") (some (.int n)) := by
  rw [← dr_at r n sd]
  exact DGet.k (k := .inr "at") h
theorem dg_seed {H : Hp} {d r : Addr} {n sd : Int} (h : H d = some (.dK (drK r n sd))) : DGet H d (.str "seed") (some (.int sd)) := by
  rw [← dr_seed r n sd]
  exact DGet.k (k := .inr "seed") h
theorem dp_at {H : Hp} {d r : Addr} {n sd : Int} (m : Int) (h : H d = some (.dK (drK r n sd))) : DPut H d (.str "at") (.int m) (upd H d (.dK (drK r m sd))) := by
  rw [← dr_put r n m sd]
  exact DPut.k (k := .inr "at") h (by show 3 < sizeLine; decide)
theorem szl {n : Nat} (h : n ≤ 100000) : n < sizeLine := Nat.lt_of_le_of_lt h (by decide)
theorem szle {n : Nat} (h : n ≤ 100000) : n ≤ sizeLine := Nat.le_trans h (by decide)

/-! ### //, %, shifts by name -/
def rMod : R2 := rI (fun _ j => 0 < j) fun i j => .int (i % j)
def rFdiv : R2 := rI CDivW fun i j => .int (i / j)
def rShl : R2 := rI CPow fun i j => .int (i * 2 ^ j.toNat)
def rPow : R2 := rI CPow fun i j => .int (i ^ j.toNat)
def rShr : R2 := rI (fun _ j => 0 ≤ j) fun i j => .int (i / 2 ^ j.toNat)
section
variable {X : Cx} {i j : Int} {H : Hp} {Q : VK}
theorem o_mod : OpR X (binaryOp .Mod) rMod := op_mod
theorem o_fdiv : OpR X (binaryOp .FloorDiv) rFdiv := op_fdivW
theorem o_shl : OpR X (binaryOp .LShift) rShl := op_shl
theorem o_pow : OpR X (binaryOp .Pow) rPow := op_pow
theorem o_shr : OpR X (binaryOp .RShift) rShr := op_shr
theorem io_fdiv : OpR X (inplaceOp .FloorDiv) rFdiv := iop_fdivW
theorem io_mod : OpR X (inplaceOp .Mod) rMod := iop_mod
theorem g_mod (h : 0 < j) (q : Q (.int (i % j)) H) : rMod (.int i) (.int j) H Q := ⟨i, j, rfl, rfl, h, q⟩
theorem g_fdiv (h : 0 < j) (h2 : j < 18446744073709551616) (q : Q (.int (i / j)) H) : rFdiv (.int i) (.int j) H Q := ⟨i, j, rfl, rfl, cdivW_of h h2, q⟩
theorem g_shl (h : 0 ≤ j) (h2 : j ≤ 1000000) (h3 : i.natAbs < 18446744073709551616) (q : Q (.int (i * 2 ^ j.toNat)) H) : rShl (.int i) (.int j) H Q := ⟨i, j, rfl, rfl, ⟨h, h2, h3⟩, q⟩
theorem g_pow (h : 0 ≤ j) (h2 : j ≤ 1000000) (h3 : i.natAbs < 18446744073709551616) (q : Q (.int (i ^ j.toNat)) H) : rPow (.int i) (.int j) H Q := ⟨i, j, rfl, rfl, ⟨h, h2, h3⟩, q⟩
theorem g_shr (h : 0 ≤ j) (q : Q (.int (i / 2 ^ j.toNat)) H) : rShr (.int i) (.int j) H Q := ⟨i, j, rfl, rfl, h, q⟩
end

/-! ### fields, methods, makes -/
def rFld (K : PySem.W.Frag) (f : Str) : V → Hp → VK → Prop := fun x H Q => ∃ a C dx fs v, x = .ref a ∧ H a = some (.ins C dx fs) ∧ Cls K C ∧ NoAttr K C f ∧ fs.lookup f = some v ∧ Q v H
def rSFld (K : PySem.W.Frag) (f : Str) : V → V → Hp → (Hp → Prop) → Prop := fun x y H R => ∃ a C dx fs, x = .ref a ∧ H a = some (.ins C dx fs) ∧ Cls K C ∧ NoAttr K C f ∧ fs.length < 1000 ∧ R (upd H a (.ins C dx (putF f y fs)))
def tSFld (K : PySem.W.Frag) (ta tv : TE) (f : Str) : TS := fun D σ H => tv σ H fun y H1 => ta σ H1 fun x H2 => rSFld K f x y H2 (D.nx σ)
/-- o.f as a target within a tuple -/
def gFldU (K : PySem.W.Frag) (to : TE) (f : Str) : TG := fun v σ H Q => to σ H fun x H1 => rSFld K f x v H1 (Q σ)
theorem pg_fldU {X : Cx} {K : PySem.W.Frag} (hK : X.K = K) {o : Expr} {to : TE} {f : Str} {pos : Pos} (ho : PE X o to) : PG X (.Attribute o f pos) (gFldU K to f) := by
  subst hK
  refine ⟨fun pins s σ H v u Q I r h => ?_⟩
  rw [PySem.assign_Attribute]
  refine wpAny_bind (wpAny_holding (thn (ho.run pins s σ H _ I h) fun ov s1 ⟨x, H1, I1, rx, a, C, dx, fs, ex, ea, c, n, l, q⟩ => ?_))
  subst ex
  obtain rfl : ov = Value.ref a := rx
  refine wpAny_bind (wpAny_standAt (wpAny_bind (wpAny_holding (setattr_ok I1 ea c n l r fun s3 I3 => ?_))))
  exact wpAny_release ⟨σ, _, I3, q⟩
theorem g_gfld {K : PySem.W.Frag} {to : TE} {f : Str} {v : V} {σ : L2.St} {H : Hp} {Q : L2.St → Hp → Prop} (h : to σ H fun x H1 => rSFld K f x v H1 (Q σ)) : gFldU K to f v σ H Q := h
/-- the receiver of a method's call -/
def rRcv (C : Addr) (m : Str) : V → Hp → (Hp → Prop) → Prop := fun x H R => ∃ a dx fs, x = .ref a ∧ H a = some (.ins C dx fs) ∧ fs.lookup m = none ∧ R H
section
variable {X : Cx} {o e value : Expr} {f : Str} {pos pos' : Pos} {ta tv : TE}
theorem pe_fldU {K : PySem.W.Frag} (hK : X.K = K) (he : PE X e ta) (hb : attributeBase e f X.env (eval e X.env) = eval e X.env) : PE X (.Attribute e f pos) (tUn (rFld K f) ta) := by
  subst hK
  exact pe_fld he hb
theorem ps_fldU {K : PySem.W.Frag} (hK : X.K = K) (ha : PE X o ta) (hv : PE X value tv) (hs : swapsWith value (some (.Attribute o f pos')) pos.line X.env = pure false) : PS X (.Assign [.Attribute o f pos'] value pos) (tSFld K ta tv f) := by
  subst hK
  exact ps_fld ha hv hs
end
section
variable {K : PySem.W.Frag} {σ : L2.St} {H : Hp} {D : Ends} {ta tv : TE} {t : TA} {Q : VK} {v y : V} {a C dx : Addr} {fs fs' : List (Str × V)} {f m : Str} {sp : Sp} {dvs : List V} {E : XK} {L : List (Addr × HO)} {R : Hp → Prop}
theorem g_fld (he : H a = some (.ins C dx fs)) (cl : Cls K C) (na : NoAttr K C f) (l : fs.lookup f = some v) (h : Q v H) : rFld K f (.ref a) H Q := ⟨a, C, dx, fs, v, rfl, he, cl, na, l, h⟩
theorem g_sfld (h : tv σ H fun y H1 => ta σ H1 fun x H2 => rSFld K f x y H2 (D.nx σ)) : tSFld K ta tv f D σ H := h
theorem g_setF (M : Has H L) (n : Nat) (he : L[n]? = some (a, .ins C dx fs)) (cl : Cls K C) (na : NoAttr K C f) (hl : fs.length < 1000) (e : putF f y fs = fs') (k : Has (upd H a (.ins C dx fs')) (L.set n (a, .ins C dx fs')) → R (upd H a (.ins C dx fs'))) : rSFld K f (.ref a) y H R :=
  ⟨a, C, dx, fs, rfl, M.get n he, cl, na, hl, by rw [e]; exact k (M.set n he)⟩
theorem g_meth (h : ta σ H fun x H1 => ∃ a dx fs, x = .ref a ∧ H1 a = some (.ins C dx fs) ∧ fs.lookup m = none ∧ t σ H1 fun vs H2 => sp (x :: (vs ++ dvs)) H2 Q E) : tMeth C m sp dvs E ta t σ H Q := h
theorem g_rcv {A : Prop} (he : H a = some (.ins C dx fs)) (l : fs.lookup m = none) (h : A) : ∃ b dx' fs', V.ref a = .ref b ∧ H b = some (.ins C dx' fs') ∧ fs'.lookup m = none ∧ A := ⟨a, dx, fs, rfl, he, l, h⟩
theorem g_make (h : t σ H fun vs H1 => ∀ x dx, H1 x = none → H1 dx = none → dx ≠ x → sp (.ref x :: (vs ++ dvs)) (upd (upd H1 dx (.own x)) x (.ins C dx [])) (fun v H2 => v = .non ∧ Q (.ref x) H2) E) : tMake C sp dvs E t σ H Q := h
end
section
variable {H : Hp} {x dx C : Addr}
/-- the heap in which an __init__ starts -/
def made (H : Hp) (x dx C : Addr) : Hp := upd (upd H dx (.own x)) x (.ins C dx [])
theorem made_same (hx : H x = none) (hd : H dx = none) : Same H (made H x dx C) := fun b o e => by
  unfold made
  rw [upd_ne (ne_of_none e hx), upd_ne (ne_of_none e hd)]
  exact e
theorem made_at : made H x dx C x = some (.ins C dx []) := upd_same
theorem made_none {p : Addr} (h : made H x dx C p = none) : H p = none ∧ p ≠ x ∧ p ≠ dx := by
  unfold made at h
  by_cases h1 : p = x
  · subst h1; rw [upd_same] at h; cases h
  · rw [upd_ne h1] at h
    by_cases h2 : p = dx
    · subst h2; rw [upd_same] at h; cases h
    · rw [upd_ne h2] at h
      exact ⟨h, h1, h2⟩
end

/-! ### stores by place, replicated lists, slices, all and any -/
def rSetU : V → V → V → Hp → (Hp → Prop) → Prop := fun o i v H Q => rSetL o i v H Q ∨ ∃ a H', o = .ref a ∧ DPut H a i v H' ∧ Q H'
section
variable {X : Cx}
theorem set_U (hu : X.A.units + 1 < cLine) : PSet X rSetU := by
  intro pins s σ H o i v ov iv u Q I ro ri rv h
  rcases h with h | ⟨a, H', rfl, g, q⟩
  · exact set_list pins s σ H o i v ov iv u Q I ro ri rv h
  · obtain rfl : ov = Value.ref a := ro
    exact d_setItem hu I g ri rv fun s1 I1 => ⟨H', I1, q⟩
end
section
variable {K : PySem.W.Frag} {σ : L2.St} {H : Hp} {R : Hp → Prop} {RS : L2.St → Hp → Prop} {te ti : TE} {t : TSet} {v y : V} {a : Addr} {xs : List V} {i : Int} {L : List (Addr × HO)} {m : Nat} {Q : VK}
theorem g_sub (h : te σ H fun o H1 => ti σ H1 fun i H2 => t o i v H2 fun H3 => RS σ H3) : gSub te ti t v σ H RS := h
theorem g_setU (M : Has H L) (n : Nat) (h : L[n]? = some (a, .lst xs)) (hi : i = (m : Int)) (hm : m < xs.length) (k : Has (upd H a (.lst (xs.set m y))) (L.set n (a, .lst (xs.set m y))) → R (upd H a (.lst (xs.set m y)))) : rSetU (.ref a) (.int i) y H R :=
  .inl ⟨a, xs, i, m, rfl, rfl, M.get n h, by
    unfold ixN
    rw [if_pos (by omega), if_pos (by omega)]
    congr 1
    omega, k (M.set n h)⟩
theorem rep_flat {x : V} : ∀ n : Nat, (List.replicate n [x]).flatten = List.replicate n x
  | 0 => rfl
  | n + 1 => by
    rw [List.replicate_succ, List.replicate_succ, List.flatten_cons, rep_flat n]
    rfl
theorem g_rep {x : V} {k : Int} (h : H a = some (.lst [x])) (h0 : -4611686018427387904 ≤ k) (h1 : k ≤ 100000) (q : ∀ p, H p = none → Q (.ref p) (upd H p (.lst (List.replicate k.toNat x)))) : rMulU (.ref a) (.int k) H Q := by
  refine .inl ⟨a, k, [x], rfl, rfl, h, by omega, by omega, szle (by simp; omega), fun p hp => ?_⟩
  rw [rep_flat]
  exact q p hp
theorem g_repI {x : Int} {k : Int} (h : H a = some (.lst [.int x])) (h0 : -4611686018427387904 ≤ k) (h1 : k ≤ 100000) (q : ∀ p, H p = none → Q (.ref p) (upd H p (.lst ((List.replicate k.toNat x).map V.int)))) : rMulU (.ref a) (.int k) H Q :=
  g_rep h h0 h1 fun p hp => by
    have z := q p hp
    rw [List.map_replicate] at z
    exact z
end
def rAllU (K : PySem.W.Frag) : List V → Hp → VK → Prop := fun vs H Q => ∃ (a : Addr) (bs : List Bool), vs = [V.ref a] ∧ SqL K H a (bs.map V.bl) ∧ Q (.bl (bs.all id)) H
def rAnyU (K : PySem.W.Frag) : List V → Hp → VK → Prop := fun vs H Q => ∃ (a : Addr) (bs : List Bool), vs = [V.ref a] ∧ SqL K H a (bs.map V.bl) ∧ Q (.bl (bs.any id)) H
section
variable {X : Cx} {K : PySem.W.Frag} {H : Hp} {Q : VK} {a : Addr} {bs : List Bool}
theorem c_all {K : PySem.W.Frag} (hK : X.K = K) (hc : X.calm = true) : CallR X (.builtin "all") (rAllU K) := by
  subst hK
  exact cr_all hc
theorem c_any {K : PySem.W.Frag} (hK : X.K = K) (hc : X.calm = true) : CallR X (.builtin "any") (rAnyU K) := by
  subst hK
  exact cr_any hc
theorem g_all (h : SqL K H a (bs.map V.bl)) (q : Q (.bl (bs.all id)) H) : rAllU K [.ref a] H Q := ⟨a, bs, rfl, h, q⟩
theorem g_any (h : SqL K H a (bs.map V.bl)) (q : Q (.bl (bs.any id)) H) : rAnyU K [.ref a] H Q := ⟨a, bs, rfl, h, q⟩
end
/-! slices -/
def rSlU (K : PySem.W.Frag) : V → Option Int → Option Int → Hp → VK → Prop := fun x lo hi H Q => rSlL K x lo hi H Q ∨ rSlA K x lo hi H Q ∨ ∃ z, x = .str z ∧ z.length ≤ sizeLine ∧ Q (.str (cutS z lo hi)) H
theorem sl_U {X : Cx} {K : PySem.W.Frag} (hK : X.K = K) : SlR X (rSlU K) := by
  subst hK
  exact sl_list.or (sl_tupA.or sl_str)
section
variable {K : PySem.W.Frag} {σ : L2.St} {H : Hp} {Q : VK} {te : TE} {tl th : TO} {QO : Option Int → Hp → Prop} {r : V → Option Int → Option Int → Hp → VK → Prop} {a : Addr} {xs : List V} {lo hi : Option Int} {i : Int} {z : Str}
theorem g_sl (h : te σ H fun x H1 => tl σ H1 fun l H2 => th σ H2 fun u H3 => r x l u H3 Q) : tSl r te tl th σ H Q := h
theorem g_part (h : te σ H fun x H1 => ∃ i, x = .int i ∧ QO (some i) H1) : tPart te σ H QO := h
theorem g_exi {A : Int → Prop} (h : A i) : ∃ j, V.int i = .int j ∧ A j := ⟨i, rfl, h⟩
theorem g_noPart (h : QO none H) : tNoPart σ H QO := h
theorem g_slL (h : SqL K H a xs) (q : ∀ p, H p = none → Q (.ref p) (upd H p (.lst (cutV xs lo hi)))) : rSlU K (.ref a) lo hi H Q := .inl ⟨a, xs, rfl, h, q⟩
theorem g_slS (hl : z.length ≤ sizeLine) (q : Q (.str (cutS z lo hi)) H) : rSlU K (.str z) lo hi H Q := .inr (.inr ⟨z, rfl, hl, q⟩)
end
theorem cutV_from {xs : List V} {n : Nat} : cutV xs (some (n : Int)) none = xs.drop n := by
  unfold cutV
  rw [HT.sIx_nat, HT.sIx_none]
  by_cases h : n ≤ xs.length
  · rw [Nat.min_eq_left h, List.take_of_length_le (by simp)]
  · rw [Nat.min_eq_right (by omega), List.drop_of_length_le (by omega), List.drop_of_length_le (by omega)]
    simp

/-! ### methods of built-in types, own methods: the written part named -/
section
variable {X : Cx} {K : PySem.W.Frag} {o e : Expr} {es : List Expr} {to : TE} {t : TA} {name : Str} {apos cpos pos : Pos} {T id : String} {r : V → List V → Hp → VK → Prop}
def rTyV (K : PySem.W.Frag) (T : String) : V → Hp → (Hp → Prop) → Prop := fun x H R => tyV K T x H ∧ R H
def tBMU (K : PySem.W.Frag) (T : String) (r : V → List V → Hp → VK → Prop) (to : TE) (t : TA) : TE := fun σ H Q => to σ H fun x H1 => rTyV K T x H1 fun H2 => t σ H2 fun xs H3 => r x xs H3 Q
end
theorem g_lenM {K : PySem.W.Frag} {H : Hp} {a : Addr} {Q : VK} {α : Type} {f : α → V} {ns : List α} (h : SqL K H a (ns.map f)) (q : Q (.int (ns.length : Nat)) H) : rLenU K [.ref a] H Q := g_lenL h (by rw [List.length_map]; exact q)
theorem g_ty_ {K : PySem.W.Frag} {T : String} {x : V} {H : Hp} {A : Prop} (h : tyV K T x H) (q : A) : tyV K T x H ∧ A := ⟨h, q⟩

/-! ### list comprehensions -/
def LcW (g : TG) (tt : TT) (te : TE) (vs : List Nat) (σ : L2.St) (Q : VK) : It → Hp → Prop := fun J H1 => ∀ D, H1 D = none → ∃ W : Nat → Nat → Hp → Prop, (∃ m, W 0 m (upd H1 D (.lst []))) ∧ ∀ i m H, W i m H →
  (J.stop i H ∧ Q (.ref D) H) ∨ (J.go i H ∧ ∃ Nx : Hp → Prop, (∀ H', Nx H' → ∃ m', m' < m ∧ W (i + 1) m' H') ∧ ∀ x H', J.yld i H x H' → g x (wipe σ vs) H' fun σ2 H2 => wipe σ2 vs = wipe σ vs ∧ tt σ2 H2 fun b H3 =>
    if b = true then te σ2 H3 fun y H4 => ∃ acc, H4 D = some (.lst acc) ∧ acc.length < sizeLine ∧ Nx (upd H4 D (.lst (acc ++ [y]))) else Nx H3)
section
variable {K : PySem.W.Frag} {σ : L2.St} {H : Hp} {g : TG} {tt : TT} {te : TE} {wi : TI} {vs : List Nat} {Q : VK} {lo : Int} {n : Nat} {a : Addr} {xs : List V} {QB : Bool → Hp → Prop}
theorem g_lc (h : wi σ H (LcW g tt te vs σ Q)) : tLc wi g tt te vs σ H Q := h
theorem g_yes (h : QB true H) : tYes σ H QB := h
theorem g_wipe {σ1 σ2 : L2.St} {A : Prop} (e : wipe σ1 vs = wipe σ2 vs) (h : A) : wipe σ1 vs = wipe σ2 vs ∧ A := ⟨e, h⟩
theorem l_range (Pv : Addr → Nat → Hp → Prop) (h0 : ∀ D, H D = none → Pv D 0 (upd H D (.lst [])))
    (hs : ∀ D, H D = none → ∀ i H', i < n → Pv D i H' → g (.int (lo + i)) (wipe σ vs) H' fun σ2 H2 => wipe σ2 vs = wipe σ vs ∧ tt σ2 H2 fun b H3 => if b = true then te σ2 H3 fun y H4 => ∃ acc, H4 D = some (.lst acc) ∧ acc.length < sizeLine ∧ Pv D (i + 1) (upd H4 D (.lst (acc ++ [y]))) else Pv D (i + 1) H3)
    (hd : ∀ D, H D = none → ∀ H', Pv D n H' → Q (.ref D) H') : LcW g tt te vs σ Q (Itr lo n) H := fun D hD => lc_range (Pv D) (h0 D hD) (hs D hD) (hd D hD)
theorem l_list (Pv : Addr → Nat → Hp → Prop) (h0 : ∀ D, H D = none → Pv D 0 (upd H D (.lst []))) (hl : ∀ D, H D = none → ∀ i H', i ≤ xs.length → Pv D i H' → SqL K H' a xs)
    (hs : ∀ D, H D = none → ∀ i x H', xs[i]? = some x → Pv D i H' → g x (wipe σ vs) H' fun σ2 H2 => wipe σ2 vs = wipe σ vs ∧ tt σ2 H2 fun b H3 => if b = true then te σ2 H3 fun y H4 => ∃ acc, H4 D = some (.lst acc) ∧ acc.length < sizeLine ∧ Pv D (i + 1) (upd H4 D (.lst (acc ++ [y]))) else Pv D (i + 1) H3)
    (hd : ∀ D, H D = none → ∀ H', Pv D xs.length H' → Q (.ref D) H') : LcW g tt te vs σ Q (Itl K a) H := fun D hD => lc_list (Pv D) (h0 D hD) (hl D hD) (hs D hD) (hd D hD)
theorem l_tup (Pv : Addr → Nat → Hp → Prop) (h0 : ∀ D, H D = none → Pv D 0 (upd H D (.lst []))) (hl : ∀ D, H D = none → ∀ i H', i ≤ xs.length → Pv D i H' → SqT K H' a xs)
    (hs : ∀ D, H D = none → ∀ i x H', xs[i]? = some x → Pv D i H' → g x (wipe σ vs) H' fun σ2 H2 => wipe σ2 vs = wipe σ vs ∧ tt σ2 H2 fun b H3 => if b = true then te σ2 H3 fun y H4 => ∃ acc, H4 D = some (.lst acc) ∧ acc.length < sizeLine ∧ Pv D (i + 1) (upd H4 D (.lst (acc ++ [y]))) else Pv D (i + 1) H3)
    (hd : ∀ D, H D = none → ∀ H', Pv D xs.length H' → Q (.ref D) H') : LcW g tt te vs σ Q (Itt K a) H := fun D hD => lc_tup (Pv D) (h0 D hD) (hl D hD) (hs D hD) (hd D hD)
end
section
variable {H H1 : Hp} {L : List (Addr × HO)} {a b : Addr} {o o' u u' : HO}
/-- two objects have changed -/
theorem Has.call2 (M : Has H L) (k : Keep [a, b] H H1) (i j : Nat) (hi : L[i]? = some (a, o)) (hj : L[j]? = some (b, u)) (hij : i ≠ j) (e1 : H1 a = some o') (e2 : H1 b = some u') : Has H1 ((L.set i (a, o')).set j (b, u')) := by
  have nab : a ≠ b := M.ne i j hi hj hij
  have k1 : Keep [a] H (upd H1 b u) := fun x w e n => by
    by_cases hx : x = b
    · subst hx
      rw [upd_same]
      exact (M.get j hj).symm.trans e
    · rw [upd_ne hx]
      refine k x w e ?_
      simp only [List.mem_cons, List.not_mem_nil, or_false, not_or]
      exact ⟨fun z => n (List.mem_singleton.mpr z), hx⟩
  have M1 : Has (upd H1 b u) (L.set i (a, o')) := M.call1 k1 i hi (by rw [upd_ne nab]; exact e1)
  have hj' : (L.set i (a, o'))[j]? = some (b, u) := by rw [List.getElem?_set_ne hij]; exact hj
  have M2 := M1.set (o' := u') j hj'
  have e : upd (upd H1 b u) b u' = H1 := by
    rw [upd_upd]
    funext x
    by_cases hx : x = b
    · subst hx
      rw [upd_same, e2]
    · rw [upd_ne hx]
  rw [e] at M2
  exact M2
end

/-! ### None asked -/
def rIsN (neg : Bool) : R2 := fun x y H Q => y = .non ∧ Q (.bl (if neg then !decide (x = .non) else decide (x = .non))) H
theorem o_isN {X : Cx} : OpR X (compareOp .Is) (rIsN false) := op_isN
theorem o_notN {X : Cx} : OpR X (compareOp .IsNot) (rIsN true) := op_notN
section
variable {H : Hp} {Q : VK} {i : Int} {z : Str} {b : Bool} {a : Addr}
theorem g_isNn (h : Q (.bl true) H) : rIsN false .non .non H Q := ⟨rfl, h⟩
theorem g_isNi (h : Q (.bl false) H) : rIsN false (.int i) .non H Q := ⟨rfl, h⟩
theorem g_isNs (h : Q (.bl false) H) : rIsN false (.str z) .non H Q := ⟨rfl, h⟩
theorem g_isNb (h : Q (.bl false) H) : rIsN false (.bl b) .non H Q := ⟨rfl, h⟩
theorem g_isNr (h : Q (.bl false) H) : rIsN false (.ref a) .non H Q := ⟨rfl, h⟩
theorem g_noNn (h : Q (.bl false) H) : rIsN true .non .non H Q := ⟨rfl, h⟩
theorem g_noNi (h : Q (.bl true) H) : rIsN true (.int i) .non H Q := ⟨rfl, h⟩
theorem g_noNs (h : Q (.bl true) H) : rIsN true (.str z) .non H Q := ⟨rfl, h⟩
theorem g_noNb (h : Q (.bl true) H) : rIsN true (.bl b) .non H Q := ⟨rfl, h⟩
theorem g_noNr (h : Q (.bl true) H) : rIsN true (.ref a) .non H Q := ⟨rfl, h⟩
end

/-! ### list.index, min and max of a list -/
def rIndexU (K : PySem.W.Frag) : V → List V → Hp → VK → Prop := rIndex K
theorem m_index {X : Cx} {K : PySem.W.Frag} (hK : X.K = K) : MtR X "list.index" (rIndexU K) := by
  subst hK
  exact mt_index
def rMin1 (K : PySem.W.Frag) : List V → Hp → VK → Prop := rMin K
def rMax1 (K : PySem.W.Frag) : List V → Hp → VK → Prop := rMax K
theorem c_min1 {X : Cx} {K : PySem.W.Frag} (hK : X.K = K) (hc : X.calm = true) : CallR X (.builtin "min") (rMin1 K) := by
  subst hK
  exact cr_min hc
theorem c_max1 {X : Cx} {K : PySem.W.Frag} (hK : X.K = K) (hc : X.calm = true) : CallR X (.builtin "max") (rMax1 K) := by
  subst hK
  exact cr_max hc
section
variable {K : PySem.W.Frag} {H : Hp} {Q : VK} {a : Addr} {ns : List Int} {ys : List V} {y z : V} {j : Nat}
theorem g_min1 (h : SqL K H a (ns.map V.int)) (h0 : 0 < ns.length) (q : ∀ m, m ∈ ns → (∀ y, y ∈ ns → m ≤ y) → Q (.int m) H) : rMin1 K [.ref a] H Q := ⟨a, ns, rfl, h, h0, q⟩
theorem g_max1 (h : SqL K H a (ns.map V.int)) (h0 : 0 < ns.length) (q : ∀ m, m ∈ ns → (∀ y, y ∈ ns → y ≤ m) → Q (.int m) H) : rMax1 K [.ref a] H Q := ⟨a, ns, rfl, h, h0, q⟩
theorem g_index (h : SqL K H a ys) (f1 : flatV y = true) (f2 : ys.all flatV = true) (hj : ys[j]? = some z) (e : eqV z y = true) (n : ∀ (m : Nat) (z' : V), m < j → ys[m]? = some z' → eqV z' y = false) (q : Q (.int (j : Nat)) H) : rIndexU K (.ref a) [y] H Q :=
  ⟨a, ys, y, j, z, rfl, rfl, h, f1, f2, hj, e, n, q⟩
end

/-! ### unpacking -/
section
variable {K : PySem.W.Frag} {σ : L2.St} {H : Hp} {R : L2.St → Hp → Prop} {t : TGs} {g : TG} {n : Nat} {a : Addr} {xs r : List V} {v : V}
theorem g_unp (h : SqT K H a xs) (hn : xs.length = n) (k : t xs σ H R) : gTup K n t (.ref a) σ H R := ⟨a, xs, rfl, h, hn, k⟩
theorem g_gc (k : g v σ H fun σ' H' => t r σ' H' R) : gCons g t (v :: r) σ H R := ⟨v, r, rfl, k⟩
theorem g_gn (k : R σ H) : gNil [] σ H R := ⟨rfl, k⟩
end
/-! e.f += x -/
def rFA (K : PySem.W.Frag) (tv : TE) (rd : V → V → Hp → VK → Prop) (f : Str) (σ : L2.St) : V → Hp → (Hp → Prop) → Prop := fun x H1 R => ∃ a C dx fs v, x = .ref a ∧ H1 a = some (.ins C dx fs) ∧ Cls K C ∧ NoAttr K C f ∧ fs.lookup f = some v ∧
  tv σ H1 fun y H2 => rd v y H2 fun z H3 => ∃ dx' fs', H3 a = some (.ins C dx' fs') ∧ fs'.length < 1000 ∧ R (upd H3 a (.ins C dx' (putF f z fs')))
section
variable {K : PySem.W.Frag} {σ : L2.St} {H : Hp} {D : Ends} {ta tv : TE} {a C dx : Addr} {fs fs' : List (Str × V)} {f : Str} {L : List (Addr × HO)} {R : Hp → Prop} {i j : Int} {rd : V → V → Hp → VK → Prop}
theorem g_fldaug (h : ta σ H fun x H1 => rFA K tv rd f σ x H1 (D.nx σ)) : sFldAug K ta tv rd f D σ H := h
theorem g_fa1 (M : Has H L) (n : Nat) (he : L[n]? = some (a, .ins C dx fs)) (cl : Cls K C) (na : NoAttr K C f) (l : fs.lookup f = some (.int i)) (hv : tv σ H fun y H2 => y = .int j ∧ H2 = H) (hl : fs.length < 1000) (e : putF f (.int (i + j)) fs = fs')
    (hm : ∀ {Q Q' : VK}, (∀ v H, Q v H → Q' v H) → tv σ H Q → tv σ H Q' := by intro Q Q' hh z; exact hh _ _ z) (k : Has (upd H a (.ins C dx fs')) (L.set n (a, .ins C dx fs')) → R (upd H a (.ins C dx fs'))) : rFA K tv rAdd f σ (.ref a) H R := by
  refine ⟨a, C, dx, fs, .int i, rfl, M.get n he, cl, na, l, hm (fun y H2 z => ?_) hv⟩
  obtain ⟨rfl, rfl⟩ := z
  exact ⟨i, j, rfl, rfl, dx, fs, M.get n he, hl, by rw [e]; exact k (M.set n he)⟩
end
theorem g_repT {H : Hp} {Q : VK} {a : Addr} {x : V} {k : Int} (h : H a = some (.tup [x])) (h0 : 1 ≤ k) (h1 : k ≤ 1000) (q : ∀ p H', Same H H' → H' p = some (.tup (List.replicate k.toNat x)) → Q (.ref p) H') : rMulU (.ref a) (.int k) H Q :=
  .inr ⟨a, k, [x], rfl, rfl, h, by simp, h0, h1, by simp, fun p H' sm hp => q p H' sm (by rw [rep_flat] at hp; exact hp)⟩
theorem g_isB {H : Hp} {Q : VK} {a b : Bool} (h : Q (.bl (decide (a = b))) H) : rIsB (.bl a) (.bl b) H Q := ⟨a, b, rfl, rfl, h⟩
theorem g_notB {H : Hp} {Q : VK} {a b : Bool} (h : Q (.bl (!decide (a = b))) H) : rNotB (.bl a) (.bl b) H Q := ⟨a, b, rfl, rfl, h⟩
/-! len(set(xs)) of ints, each once -/
def rLS (K : PySem.W.Frag) : V → Hp → VK → Prop := fun x H1 Q => ∃ (l : Addr) (ns : List Int), x = V.ref l ∧ SqL K H1 l (ns.map V.int) ∧ ns.length < 64 ∧ ns.Nodup ∧ Q (.int ns.length) H1
def tLS (K : PySem.W.Frag) (ta : TE) : TE := fun σ H Q => ta σ H fun x H1 => rLS K x H1 Q
theorem pe_lenSetU {X : Cx} {K : PySem.W.Frag} (hK : X.K = K) {a : Expr} {ta : TE} {p p2 q pos : Pos} (hc : X.calm = true) (hg : Gl X "len") (hm : X.mg "len" = none) (hg2 : Gl X "set") (hm2 : X.mg "set" = none) (ha : PE X a ta)
    (na : starEach [a] X.env = (false, eval a X.env) :: starEach [] X.env := by rfl) : PE X (.Call (.Name "len" p) [.Call (.Name "set" p2) [a] [] q] [] pos) (tLS K ta) := by
  subst hK
  exact pe_lenSetI hc hg hm hg2 hm2 ha na
section
variable {K : PySem.W.Frag} {σ : L2.St} {H : Hp} {ta : TE} {Q : VK} {l : Addr} {ns : List Int}
theorem g_lset (h : ta σ H fun x H1 => rLS K x H1 Q) : tLS K ta σ H Q := h
theorem g_ls (h : SqL K H l (ns.map V.int)) (hl : ns.length < 64) (hn : ns.Nodup) (q : Q (.int (ns.length : Nat)) H) : rLS K (.ref l) H Q := ⟨l, ns, rfl, h, hl, hn, q⟩
end
theorem _root_.G.Has.right {H : Hp} {X C : List (Addr × HO)} (M : Has H (X ++ C)) : Has H C := M.sub (List.sublist_append_right X C)
theorem _root_.G.Has.left {H : Hp} {X C : List (Addr × HO)} (M : Has H (X ++ C)) : Has H X := M.sub (List.sublist_append_left X C)
theorem _root_.G.Has.frameR {H H' : Hp} {X C C' : List (Addr × HO)} (M : Has H (X ++ C)) (k : Keep (C.map (·.1)) H H') (M' : Has H' C') (e : C'.map (·.1) = C.map (·.1)) : Has H' (X ++ C') := by
  have z := Has.frame (X := X) (L := C) (Y := []) (L' := C') (by rw [List.append_nil]; exact M) k M' e
  rw [List.append_nil] at z
  exact z
/-! texts that stand written: equal, not equal -/
section
variable {K : PySem.W.Frag} {H : Hp} {Q : VK} {z z' : Str}
theorem g_eqSS (h : Q (.bl true) H) : rEqU K false (.str z) (.str z) H Q := g_eqS (by rw [decide_eq_true (rfl : z = z)]; exact h)
theorem g_eqSx (e : ¬ z = z') (h : Q (.bl false) H) : rEqU K false (.str z) (.str z') H Q := g_eqS (by rw [decide_eq_false e]; exact h)
theorem g_neSS (h : Q (.bl false) H) : rEqU K true (.str z) (.str z) H Q := g_neS (by rw [decide_eq_true (rfl : z = z)]; exact h)
theorem g_neSx (e : ¬ z = z') (h : Q (.bl true) H) : rEqU K true (.str z) (.str z') H Q := g_neS (by rw [decide_eq_false e]; exact h)
end
theorem pg_tupU {X : Cx} {K : PySem.W.Frag} (hK : X.K = K) {es : List Expr} {k : Nat} {t : TGs} {n : Nat} {pos : Pos} (hc : X.calm = true) (h : PGs X es t)
    (hn : (assignEach es X.env).length = n := by rfl) (hst : (assignEach es X.env).findIdx? (·.1) = none := by rfl) : PG X (.Tuple es k pos) (gTup K n t) := by
  subst hK
  exact pg_tup hc h hn hst
/-! zip of two lists, of two tuples; a tuple's item by a written place -/
def rZipU (K : PySem.W.Frag) : List V → Hp → (It → Hp → Prop) → Prop := fun vs H1 R => ∃ a b xs ys, vs = [.ref a, .ref b] ∧ ((SqL K H1 a xs ∧ SqL K H1 b ys ∧ R (Itz K a b) H1) ∨ (SqT K H1 a xs ∧ SqT K H1 b ys ∧ R (RZ.ItzT K a b) H1))
theorem pi_zipU {X : Cx} {K : PySem.W.Frag} (hK : X.K = K) {e e2 : Expr} {ta : TA} {p pos tpos : Pos} {elts : List Expr} {kk : Nat} (hg : Gl X "zip") (hm : X.mg "zip" = none) (ha : PA X [e, e2] ta)
    (hs : starEach [e, e2] X.env = (false, eval e X.env) :: starEach [e2] X.env := by rfl) (hpl : (backTo pos (starEach [e2] X.env)).any (·.1) = false := by rfl) :
    PI X (.Tuple elts kk tpos) (.Call (.Name "zip" p) [e, e2] [] pos) (iR (rZipU K) ta) := by
  subst hK
  exact RZ.pi_zipA hg hm ha hs hpl
section
variable {K : PySem.W.Frag} {H : Hp} {Q : VK} {a b : Addr} {xs ys : List V} {i : Int} {v : V} {R : It → Hp → Prop} {td ty tx : TE} {σ : L2.St} {g : TG} {tb : TS} {D : Ends}
theorem g_ixA (h : H a = some (.tup xs)) (h0 : 0 ≤ i) (hv : xs[i.toNat]? = some v) (q : Q v H) : rIxU K (.ref a) (.int i) H Q := g_ixT (SqT.of h) (n := i.toNat) (Int.toNat_of_nonneg h0).symm hv q
theorem g_zipT (h1 : SqT K H a xs) (h2 : SqT K H b ys) (h : R (RZ.ItzT K a b) H) : rZipU K [.ref a, .ref b] H R := ⟨a, b, xs, ys, rfl, .inr ⟨h1, h2, h⟩⟩
theorem f_zipT (hl : xs.length = ys.length) (Pv : Nat → L2.St → Hp → Prop) (h0 : Pv 0 σ H) (hq : ∀ i σ H, Pv i σ H → SqT K H a xs ∧ SqT K H b ys)
    (hs : ∀ (i : Nat) (x y : V) (T : Addr) (σ : L2.St) (H : Hp), xs[i]? = some x → ys[i]? = some y → Pv i σ H → H T = none → g (.ref T) σ (upd H T (.tup [x, y])) fun σ2 H2 => tb { D with nx := Pv (i + 1), ct := Pv (i + 1), bk := D.nx } σ2 H2) (hd : ∀ σ H, Pv xs.length σ H → D.nx σ H) : ForW g tb D σ (RZ.ItzT K a b) H := RZ.for_zipT hl Pv h0 hq hs hd
theorem g_dget2 (h : td σ H fun x H1 => ∃ a, x = .ref a ∧ IsD H1 a ∧ ty σ H1 fun y H2 => tx σ H2 fun z H3 => ∃ o, DGet H3 a y o ∧ Q (o.getD z) H3) : tDGet2 td ty tx σ H Q := h
theorem g_dget1 (h : td σ H fun x H1 => ∃ a, x = .ref a ∧ IsD H1 a ∧ ty σ H1 fun y H2 => ∃ o, DGet H2 a y o ∧ Q (o.getD .non) H2) : tDGet1 td ty σ H Q := h
theorem g_isD {kvs : List (Key × V)} {A : Addr → Prop} (h : H a = some (.dK kvs)) (q : A a) : ∃ b, V.ref a = .ref b ∧ IsD H b ∧ A b := ⟨a, rfl, .inl ⟨kvs, .inl h⟩, q⟩
end
end G

set_option Elab.async false
set_option linter.all false
set_option maxRecDepth 100000
set_option maxHeartbeats 4000000
/-! Data that never changes: None, bools, ints, texts, tuples of such. -/
namespace G
open PySem PySem.Spec PyProof.Rows L2

mutual
/-- the value v is the data d, by the heap H -/
inductive Im (H : Hp) : V → PyData → Prop
  | non : Im H .non .none
  | bl (b : Bool) : Im H (.bl b) (.bool b)
  | int (i : Int) : Im H (.int i) (.int i)
  | str (x : Str) : Im H (.str x) (.str x)
  | tup {a : Addr} {xs : List V} {ds : List PyData} : H a = some (.tup xs) → Ims H xs ds → Im H (.ref a) (.tuple ds)
inductive Ims (H : Hp) : List V → List PyData → Prop
  | nil : Ims H [] []
  | cons {v : V} {vs : List V} {d : PyData} {ds : List PyData} : Im H v d → Ims H vs ds → Ims H (v :: vs) (d :: ds)
end
section
variable {K : PySem.W.Frag} {H H' : Hp} {v x y : V} {d e : PyData} {vs xs : List V} {ds es : List PyData} {a b p : Addr} {ms : List Addr} {i : Int} {z : Str}
mutual
theorem Im.mono : ∀ {v : V} {d : PyData}, Im H v d → (∀ a xs, H a = some (.tup xs) → H' a = some (.tup xs)) → Im H' v d
  | _, _, .non, _ => .non
  | _, _, .bl b, _ => .bl b
  | _, _, .int i, _ => .int i
  | _, _, .str x, _ => .str x
  | _, _, .tup h hs, k => .tup (k _ _ h) (Ims.mono hs k)
theorem Ims.mono : ∀ {vs : List V} {ds : List PyData}, Ims H vs ds → (∀ a xs, H a = some (.tup xs) → H' a = some (.tup xs)) → Ims H' vs ds
  | _, _, .nil, _ => .nil
  | _, _, .cons h t, k => .cons (Im.mono h k) (Ims.mono t k)
end
theorem Im.same (h : Im H v d) (k : Same H H') : Im H' v d := h.mono fun a xs e => k a _ e
theorem Ims.same (h : Ims H vs ds) (k : Same H H') : Ims H' vs ds := h.mono fun a xs e => k a _ e
/-- no tuple stands at ms -/
def NoTup (H : Hp) (ms : List Addr) : Prop := ∀ m ∈ ms, ∀ xs, H m ≠ some (.tup xs)
theorem NoTup.nil : NoTup H [] := fun _ h => nomatch h
theorem NoTup.one {o : HO} (h : H a = some o) (n : ∀ xs, o ≠ .tup xs) : NoTup H [a] := fun m hm xs e => by
  rw [List.mem_singleton.mp hm, h] at e
  exact n xs (Option.some.inj e)
theorem NoTup.new (h : H a = none) : NoTup H [a] := fun m hm xs e => by
  rw [List.mem_singleton.mp hm, h] at e
  cases e
theorem NoTup.cons {o : HO} (h : H a = some o) (n : ∀ xs, o ≠ .tup xs) (t : NoTup H ms) : NoTup H (a :: ms) := fun m hm xs e => by
  rcases List.mem_cons.mp hm with z | z
  · rw [z, h] at e
    exact n xs (Option.some.inj e)
  · exact t m z xs e
theorem Im.keep (h : Im H v d) (k : Keep ms H H') (n : NoTup H ms) : Im H' v d := h.mono fun a xs e => k a _ e fun z => n a z xs e
theorem Ims.keep (h : Ims H vs ds) (k : Keep ms H H') (n : NoTup H ms) : Ims H' vs ds := h.mono fun a xs e => k a _ e fun z => n a z xs e
mutual
theorem Im.dp : ∀ {v : V} {d : PyData}, Im H v d → Dp K H v d
  | _, _, .non => .non
  | _, _, .bl b => .bl b
  | _, _, .int i => .int i
  | _, _, .str x => .str x
  | _, _, .tup h hs => .tup (SqT.of h) (Ims.dp hs)
theorem Ims.dp : ∀ {vs : List V} {ds : List PyData}, Ims H vs ds → DpAll K H vs ds
  | _, _, .nil => .nil
  | _, _, .cons h t => .cons (Im.dp h) (Ims.dp t)
end
theorem Ims.length : ∀ {vs : List V} {ds : List PyData}, Ims H vs ds → vs.length = ds.length
  | _, _, .nil => rfl
  | _, _, .cons _ t => by rw [List.length_cons, List.length_cons, t.length]
theorem Ims.get : ∀ {vs : List V} {ds : List PyData} {n : Nat} {d : PyData}, Ims H vs ds → ds[n]? = some d → ∃ v, vs[n]? = some v ∧ Im H v d
  | _, _, n, _, .nil, e => by simp at e
  | _, _, 0, _, .cons h t, e => by
    simp only [List.getElem?_cons_zero, Option.some.injEq] at e
    subst e
    exact ⟨_, rfl, h⟩
  | _, _, n + 1, _, .cons h t, e => by
    simp only [List.getElem?_cons_succ] at e
    obtain ⟨v, h1, h2⟩ := t.get e
    exact ⟨v, by simpa using h1, h2⟩
theorem Ims.append : ∀ {vs xs : List V} {ds es : List PyData}, Ims H vs ds → Ims H xs es → Ims H (vs ++ xs) (ds ++ es)
  | _, _, _, _, .nil, s => s
  | _, _, _, _, .cons h t, s => .cons h (t.append s)
theorem Ims.take : ∀ {vs : List V} {ds : List PyData} (n : Nat), Ims H vs ds → Ims H (vs.take n) (ds.take n)
  | _, _, 0, _ => .nil
  | _, _, _ + 1, .nil => .nil
  | _, _, n + 1, .cons h t => .cons h (t.take n)
theorem Ims.drop : ∀ {vs : List V} {ds : List PyData} (n : Nat), Ims H vs ds → Ims H (vs.drop n) (ds.drop n)
  | _, _, 0, h => h
  | _, _, _ + 1, .nil => .nil
  | _, _, n + 1, .cons _ t => t.drop n
theorem Ims.one (h : Im H v d) : Ims H [v] [d] := .cons h .nil
theorem Im.int_inv (h : Im H v (.int i)) : v = .int i := by cases h; rfl
theorem Im.bl_inv {b : Bool} (h : Im H v (.bool b)) : v = .bl b := by cases h; rfl
theorem Im.str_inv (h : Im H v (.str z)) : v = .str z := by cases h; rfl
theorem Im.non_inv (h : Im H v .none) : v = .non := by cases h; rfl
theorem Im.tup_inv (h : Im H v (.tuple ds)) : ∃ a xs, v = .ref a ∧ H a = some (.tup xs) ∧ Ims H xs ds := by
  cases h with
  | tup h hs => exact ⟨_, _, rfl, h, hs⟩
/-- the items of ds[lo:hi] -/
def cutD (ds : List PyData) (lo hi : Option Int) : List PyData := (ds.drop (HT.sIx ds.length 0 lo)).take (HT.sIx ds.length ds.length hi - HT.sIx ds.length 0 lo)
theorem Ims.cut {lo hi : Option Int} (h : Ims H vs ds) : Ims H (cutV vs lo hi) (cutD ds lo hi) := by
  unfold cutV cutD
  rw [h.length]
  exact (h.drop _).take _
theorem cutD_to {n : Nat} : cutD ds none (some (n : Int)) = ds.take n := by
  unfold cutD
  rw [HT.sIx_nat, HT.sIx_none, Nat.sub_zero, List.drop_zero]
  by_cases h : n ≤ ds.length
  · rw [Nat.min_eq_left h]
  · rw [Nat.min_eq_right (by omega), List.take_of_length_le (Nat.le_refl _), List.take_of_length_le (by omega)]
theorem cutD_from {n : Nat} : cutD ds (some (n : Int)) none = ds.drop n := by
  unfold cutD
  rw [HT.sIx_nat, HT.sIx_none]
  by_cases h : n ≤ ds.length
  · rw [Nat.min_eq_left h, List.take_of_length_le (by simp)]
  · rw [Nat.min_eq_right (by omega), List.drop_of_length_le (by omega), List.drop_of_length_le (by omega)]
    simp
theorem cutD_length (ds : List PyData) (lo hi : Option Int) : (cutD ds lo hi).length ≤ ds.length := by
  unfold cutD
  rw [List.length_take, List.length_drop]
  omega
end
/-! ### the steps over data -/
section
variable {K : PySem.W.Frag} {H : Hp} {Q : VK} {v x y : V} {d e : PyData} {vs xs : List V} {ds es : List PyData} {a b p : Addr} {i : Int} {z : Str} {n : Nat} {lo hi : Option Int} {R : It → Hp → Prop} {QB : Bool → Hp → Prop}
/-- a new tuple of data -/
theorem m_new (h : Ims H xs ds) (hl : ds.length ≤ 100000) (k : ∀ p H', Same H H' → H p = none → Im H' (.ref p) (.tuple ds) → Q (.ref p) H') : rTupN xs H Q :=
  ⟨szle (by rw [h.length]; exact hl), fun p hp => k p _ (Same.new hp) hp (.tup upd_same (h.same (Same.new hp)))⟩
theorem m_ix (h : Im H x (.tuple ds)) (e : i = (n : Int)) (hd : ds[n]? = some d) (k : ∀ v, Im H v d → Q v H) : rIxU K x (.int i) H Q := by
  obtain ⟨a, xs, rfl, h1, h2⟩ := h.tup_inv
  obtain ⟨v, hv, hm⟩ := h2.get hd
  exact g_ixT (SqT.of h1) e hv (k v hm)
theorem m_len (h : Im H x (.tuple ds)) (q : Q (.int (ds.length : Nat)) H) : rLenU K [x] H Q := by
  obtain ⟨a, xs, rfl, h1, h2⟩ := h.tup_inv
  refine g_lenT (SqT.of h1) ?_
  rw [h2.length]
  exact q
theorem m_eq (hx : Im H x d) (hy : Im H y e) (s1 : SeqAt.shaped d = true) (s2 : SeqAt.shaped e = true) (h : Q (.bl (PyData.eqv d e)) H) : rEqU K false x y H Q := g_eqD hx.dp hy.dp s1 s2 h
theorem m_ne (hx : Im H x d) (hy : Im H y e) (s1 : SeqAt.shaped d = true) (s2 : SeqAt.shaped e = true) (h : Q (.bl (!PyData.eqv d e)) H) : rEqU K true x y H Q := g_neD hx.dp hy.dp s1 s2 h
theorem m_cat (hx : Im H x (.tuple ds)) (hy : Im H y (.tuple es)) (hl : ds.length + es.length ≤ 100000) (k : ∀ p H', Same H H' → Im H' (.ref p) (.tuple (ds ++ es)) → Q (.ref p) H') : rAddU K x y H Q := by
  obtain ⟨a, xs, rfl, h1, h2⟩ := hx.tup_inv
  obtain ⟨b, ys, rfl, h3, h4⟩ := hy.tup_inv
  refine .inr ⟨a, b, xs, ys, rfl, rfl, SqT.of h1, SqT.of h3, szle (by rw [h2.length, h4.length]; exact hl), fun e => ?_, fun _ e => ?_, fun _ _ p hp => ?_⟩
  · subst e
    have : ds = [] := by cases h2; rfl
    subst this
    exact k b H (Same.refl H) hy
  · subst e
    have : es = [] := by cases h4; rfl
    subst this
    rw [List.append_nil] at k
    exact k a H (Same.refl H) hx
  · exact k p _ (Same.new hp) (.tup upd_same ((h2.append h4).same (Same.new hp)))
theorem m_sl (hx : Im H x (.tuple ds)) (k : ∀ p H', Same H H' → Im H' (.ref p) (.tuple (cutD ds lo hi)) → Q (.ref p) H') : rSlU K x lo hi H Q := by
  obtain ⟨a, xs, rfl, h1, h2⟩ := hx.tup_inv
  refine .inr (.inl ⟨a, xs, rfl, SqT.of h1, fun e => ?_, fun _ p hp => ?_⟩)
  · have z : cutD ds lo hi = ds := by
      unfold cutD
      rw [← h2.length, e.1, e.2, List.drop_zero, Nat.sub_zero, h2.length, List.take_length]
    rw [z] at k
    exact k a H (Same.refl H) hx
  · exact k p _ (Same.new hp) (.tup upd_same (h2.cut.same (Same.new hp)))
theorem m_isiT {T' : String} {b : Bool} (hx : Im H x (.tuple ds)) (hk : kitB "tuple" T' = some b) (h : Q (.bl b) H) : rIsi K [x, .ty T'] H Q := by
  obtain ⟨a, xs, rfl, h1, _⟩ := hx.tup_inv
  exact isi_of (.base (.tup h1)) hk h
theorem m_seq (hx : Im H x (.tuple ds)) (k : ∀ a xs, x = .ref a → H a = some (.tup xs) → Ims H xs ds → R (Itt K a) H) : (∃ b ys, x = .ref b ∧ SqL K H b ys ∧ R (Itl K b) H) ∨ ∃ b ys, x = .ref b ∧ SqT K H b ys ∧ R (Itt K b) H := by
  obtain ⟨a, xs, e, h1, h2⟩ := hx.tup_inv
  exact .inr ⟨a, xs, e, SqT.of h1, k a xs e h1 h2⟩
end
/-! tuple(..) -/
def rTupU (K : PySem.W.Frag) : List V → Hp → VK → Prop := fun vs H Q => ∃ x, vs = [x] ∧ kTup K x H Q
theorem c_tuple {X : Cx} {K : PySem.W.Frag} (hK : X.K = K) : CallR X (.type "tuple") (rTupU K) := by
  subst hK
  rintro pins s σ H _ us Q I r ⟨x, rfl, h⟩
  obtain ⟨u, rfl, ru⟩ := vals1 r
  exact rl_tuple pins s σ H x u Q I ru h
section
variable {K : PySem.W.Frag} {H : Hp} {Q : VK} {x : V} {a : Addr} {xs : List V} {ds : List PyData}
theorem m_tupleT (hx : Im H x (.tuple ds)) (q : Q x H) : rTupU K [x] H Q := by
  obtain ⟨a, xs, rfl, h1, _⟩ := hx.tup_inv
  exact ⟨_, rfl, .inr ⟨a, xs, rfl, SqT.of h1, q⟩⟩
theorem m_tupleL (h : SqL K H a xs) (hm : Ims H xs ds) (k : ∀ p H', Same H H' → H p = none → Im H' (.ref p) (.tuple ds) → Q (.ref p) H') : rTupU K [.ref a] H Q :=
  ⟨_, rfl, .inl ⟨a, xs, rfl, h, fun p hp => k p _ (Same.new hp) hp (.tup upd_same (hm.same (Same.new hp)))⟩⟩
end
/-! ### what == says -/
theorem shaped_of {d : PyData} (h : d.canLay0 = true) (h2 : d.depth ≤ 64) : SeqAt.shaped d = true := by
  unfold SeqAt.shaped
  rw [h, decide_eq_true h2]
  rfl
theorem layAll_mem : ∀ {ds : List PyData}, (∀ d ∈ ds, d.canLay0 = true) → PyData.canLayAll0 ds = true
  | [], _ => rfl
  | d :: ds, h => by
    rw [PyData.canLayAll0, h d List.mem_cons_self, layAll_mem fun x hx => h x (List.mem_cons_of_mem _ hx)]
    rfl
theorem depthAll_mem {k : Nat} : ∀ {ds : List PyData}, (∀ d ∈ ds, d.depth ≤ k) → PyData.depthAll ds ≤ k
  | [], _ => by rw [PyData.depthAll]; exact Nat.zero_le _
  | d :: ds, h => by
    rw [PyData.depthAll]
    exact Nat.max_le.mpr ⟨h d List.mem_cons_self, depthAll_mem fun x hx => h x (List.mem_cons_of_mem _ hx)⟩
/-- data of depth at most k -/
def Lay (k : Nat) (d : PyData) : Prop := d.canLay0 = true ∧ d.depth ≤ k
theorem Lay.shaped {k : Nat} {d : PyData} (h : Lay k d) (hk : k ≤ 64) : SeqAt.shaped d = true := shaped_of h.1 (Nat.le_trans h.2 hk)
theorem Lay.tup {k : Nat} {ds : List PyData} (h : ∀ d ∈ ds, Lay k d) : Lay (k + 1) (.tuple ds) :=
  ⟨by rw [PyData.canLay0]; exact layAll_mem fun d hd => (h d hd).1, by rw [PyData.depth]; exact Nat.succ_le_succ (depthAll_mem fun d hd => (h d hd).2)⟩
theorem Lay.int {k : Nat} {i : Int} : Lay k (.int i) := ⟨by rw [PyData.canLay0], by rw [PyData.depth]; exact Nat.zero_le _⟩
theorem Lay.bl {k : Nat} {b : Bool} : Lay k (.bool b) := ⟨by rw [PyData.canLay0], by rw [PyData.depth]; exact Nat.zero_le _⟩
theorem Lay.non {k : Nat} : Lay k .none := ⟨by rw [PyData.canLay0], by rw [PyData.depth]; exact Nat.zero_le _⟩
theorem Lay.str {k : Nat} {z : Str} (h : PyData.strOk z = true) : Lay k (.str z) := ⟨by rw [PyData.canLay0]; exact h, by rw [PyData.depth]; exact Nat.zero_le _⟩
theorem Lay.mono {k k' : Nat} {d : PyData} (h : Lay k d) (hk : k ≤ k') : Lay k' d := ⟨h.1, Nat.le_trans h.2 hk⟩
theorem Lay.refl {k : Nat} {d : PyData} (h : Lay k d) : PyData.eqv d d = true := SeqAt.eqv_refl d h.1
theorem inV_strs {k : Str} {ks : List Str} : inV (.str k) (ks.map V.str) = ks.contains k := by
  unfold inV
  induction ks with
  | nil => rfl
  | cons z ks ih =>
    rw [List.map_cons, List.any_cons, ih, List.contains_cons]
    congr 1
    have e : eqV (.str z) (.str k) = (z == k) := rfl
    rw [e]
    by_cases h : z = k
    · subst h; rfl
    · rw [beq_eq_false_iff_ne.mpr h, beq_eq_false_iff_ne.mpr (Ne.symm h)]
theorem flat_strs {ks : List Str} : (ks.map V.str).all flatV = true := by
  induction ks with
  | nil => rfl
  | cons z ks ih => rw [List.map_cons, List.all_cons, ih]; rfl
/-- a text within a new tuple, a new list of texts -/
theorem g_inTs {K : PySem.W.Frag} {H : Hp} {Q : VK} {k : Str} {p : Addr} {ks : List Str} (h : H p = some (.tup (ks.map V.str)) ∨ H p = some (.lst (ks.map V.str))) (q : Q (.bl (ks.contains k)) H) : rInU K false (.str k) (.ref p) H Q := by
  refine .inl ⟨p, ks.map V.str, rfl, ?_, rfl, flat_strs, ?_⟩
  · rcases h with h | h
    · exact .inr (SqT.of h)
    · exact .inl (SqL.of h)
  · rw [inV_strs]
    exact q
theorem g_niTs {K : PySem.W.Frag} {H : Hp} {Q : VK} {k : Str} {p : Addr} {ks : List Str} (h : H p = some (.tup (ks.map V.str)) ∨ H p = some (.lst (ks.map V.str))) (q : Q (.bl (!ks.contains k)) H) : rInU K true (.str k) (.ref p) H Q := by
  refine .inl ⟨p, ks.map V.str, rfl, ?_, rfl, flat_strs, ?_⟩
  · rcases h with h | h
    · exact .inr (SqT.of h)
    · exact .inl (SqL.of h)
  · rw [inV_strs]
    exact q
theorem map_take_succ {α β : Type} {f : α → β} {ds : List α} {i : Nat} {d : α} (h : ds[i]? = some d) : (ds.take (i + 1)).map f = (ds.take i).map f ++ [f d] := by
  rw [List.take_add_one, h, List.map_append]
  rfl
theorem filter_take_succ {α : Type} {f : α → Bool} {ds : List α} {i : Nat} {d : α} (h : ds[i]? = some d) : (ds.take (i + 1)).filter f = (ds.take i).filter f ++ (if f d then [d] else []) := by
  rw [List.take_add_one, h, List.filter_append]
  congr 1
  show [d].filter f = _
  rw [List.filter_cons]
  rfl
/-! ### data of any kind, looked at -/
def isI : PyData → Bool
  | .int _ => true
  | .bool _ => true
  | _ => false
def isB : PyData → Bool
  | .bool _ => true
  | _ => false
def isS : PyData → Bool
  | .str _ => true
  | _ => false
def isT : PyData → Bool
  | .tuple _ => true
  | _ => false
def strD (ks : List Str) : PyData → Bool
  | .str z => ks.contains z
  | _ => false
def numD (lo hi : Int) : PyData → Bool
  | .int i => decide (lo ≤ i) && decide (i ≤ hi)
  | _ => false
def lenI (n : Int) : PyData → Bool
  | .tuple ds => decide ((ds.length : Int) = n)
  | _ => false
section
variable {K : PySem.W.Frag} {H : Hp} {Q : VK} {x y : V} {d e : PyData} {vs xs : List V} {ds es : List PyData} {a b p : Addr} {i lo hi : Int} {z : Str} {n : Nat} {ks : List Str}
theorem m_isiI (hx : Im H x d) (q : Q (.bl (isI d)) H) : rIsi K [x, .ty "int"] H Q := by
  cases hx with
  | non => exact g_isiNi q
  | bl b => exact g_isiBi q
  | int i => exact g_isiIi q
  | str z => exact g_isiSi q
  | tup h hs => exact m_isiT (.tup h hs) k_ti q
theorem m_isiB (hx : Im H x d) (q : Q (.bl (isB d)) H) : rIsi K [x, .ty "bool"] H Q := by
  cases hx with
  | non => exact g_isiNb q
  | bl b => exact g_isiBb q
  | int i => exact g_isiIb q
  | str z => exact g_isiSb q
  | tup h hs => exact m_isiT (.tup h hs) k_tb q
theorem m_isiS (hx : Im H x d) (q : Q (.bl (isS d)) H) : rIsi K [x, .ty "str"] H Q := by
  cases hx with
  | non => exact g_isiNs q
  | bl b => exact g_isiBs q
  | int i => exact g_isiIs q
  | str z => exact g_isiSs q
  | tup h hs => exact m_isiT (.tup h hs) k_ts q
theorem m_isiU (hx : Im H x d) (q : Q (.bl (isT d)) H) : rIsi K [x, .ty "tuple"] H Q := by
  cases hx with
  | non => exact g_isiNt q
  | bl b => exact g_isiBt q
  | int i => exact g_isiIt q
  | str z => exact g_isiSt q
  | tup h hs => exact m_isiT (.tup h hs) k_tt q
theorem isT_inv (h : isT d = true) : ∃ ds, d = .tuple ds := by
  cases d <;> first | (cases h; done) | exact ⟨_, rfl⟩
theorem isS_inv (h : isS d = true) : ∃ z, d = .str z := by
  cases d <;> first | (cases h; done) | exact ⟨_, rfl⟩
theorem isB_inv (h : isB d = true) : ∃ b, d = .bool b := by
  cases d <;> first | (cases h; done) | exact ⟨_, rfl⟩
theorem num_inv (h : numD lo hi d = true) : ∃ i, d = .int i ∧ lo ≤ i ∧ i ≤ hi := by
  cases d <;> first | (cases h; done) | skip
  rename_i i
  replace h : (decide (lo ≤ i) && decide (i ≤ hi)) = true := h
  rw [Bool.and_eq_true, decide_eq_true_eq, decide_eq_true_eq] at h
  exact ⟨i, rfl, h.1, h.2⟩
theorem num_of (h1 : lo ≤ i) (h2 : i ≤ hi) : numD lo hi (.int i) = true := by
  show (decide (lo ≤ i) && decide (i ≤ hi)) = true
  rw [decide_eq_true h1, decide_eq_true h2]
  rfl
theorem str_inv (h : strD ks d = true) : ∃ z, d = .str z ∧ z ∈ ks := by
  cases d <;> first | (cases h; done) | skip
  rename_i z
  exact ⟨z, rfl, List.contains_iff_mem.mp h⟩
theorem len_inv (h : lenI (n : Int) d = true) : ∃ ds, d = .tuple ds ∧ ds.length = n := by
  cases d <;> first | (cases h; done) | skip
  rename_i ds
  replace h : decide ((ds.length : Int) = n) = true := h
  rw [decide_eq_true_eq] at h
  exact ⟨ds, rfl, by omega⟩
theorem len1 (h : lenI 1 d = true) : ∃ a, d = .tuple [a] := by
  obtain ⟨ds, rfl, hl⟩ := len_inv (n := 1) h
  match ds, hl with
  | [a], _ => exact ⟨a, rfl⟩
theorem len2 (h : lenI 2 d = true) : ∃ a b, d = .tuple [a, b] := by
  obtain ⟨ds, rfl, hl⟩ := len_inv (n := 2) h
  match ds, hl with
  | [a, b], _ => exact ⟨a, b, rfl⟩
theorem len3 (h : lenI 3 d = true) : ∃ a b c, d = .tuple [a, b, c] := by
  obtain ⟨ds, rfl, hl⟩ := len_inv (n := 3) h
  match ds, hl with
  | [a, b, c], _ => exact ⟨a, b, c, rfl⟩
theorem len4 (h : lenI 4 d = true) : ∃ a b c e, d = .tuple [a, b, c, e] := by
  obtain ⟨ds, rfl, hl⟩ := len_inv (n := 4) h
  match ds, hl with
  | [a, b, c, e], _ => exact ⟨a, b, c, e, rfl⟩
theorem len7 (h : lenI 7 d = true) : ∃ a b c e f g k, d = .tuple [a, b, c, e, f, g, k] := by
  obtain ⟨ds, rfl, hl⟩ := len_inv (n := 7) h
  match ds, hl with
  | [a, b, c, e, f, g, k], _ => exact ⟨a, b, c, e, f, g, k, rfl⟩
theorem Ims.cons_inv (h : Ims H vs (d :: ds)) : ∃ v ws, vs = v :: ws ∧ Im H v d ∧ Ims H ws ds := by
  cases h with
  | cons h t => exact ⟨_, _, rfl, h, t⟩
theorem Ims.nil_inv (h : Ims H vs []) : vs = [] := by
  cases h
  rfl
theorem Ims.mem : ∀ {vs : List V} {ds : List PyData} {v : V}, Ims H vs ds → v ∈ vs → ∃ d ∈ ds, Im H v d
  | _, _, _, .nil, h => by cases h
  | _, _, _, .cons h t, hv => by
    rcases List.mem_cons.mp hv with rfl | hv
    · exact ⟨_, List.mem_cons_self, h⟩
    · obtain ⟨d, hd, hi⟩ := t.mem hv
      exact ⟨d, List.mem_cons_of_mem _ hd, hi⟩
theorem ims_strs : ∀ (ks : List Str), Ims H (ks.map V.str) (ks.map PyData.str)
  | [] => .nil
  | z :: ks => .cons (.str z) (ims_strs ks)
theorem any_strs : ∀ (ks : List Str), ((ks.map PyData.str).any fun z => PyData.eqv z d) = strD ks d
  | [] => by cases d <;> rfl
  | z :: ks => by
    rw [List.map_cons, List.any_cons, any_strs ks]
    cases d <;> first | (unfold PyData.eqv strD; rfl) | skip
    rename_i y
    show (PyData.eqv (.str z) (.str y) || ks.contains y) = (z :: ks).contains y
    unfold PyData.eqv
    rw [List.contains_cons, Bool.beq_comm]
theorem lay_strs (h : ∀ k ∈ ks, PyData.strOk k = true) : PyData.canLayAll0 (ks.map PyData.str) = true := layAll_mem fun d hd => by
  obtain ⟨k, hk, rfl⟩ := List.mem_map.mp hd
  rw [PyData.canLay0]
  exact h k hk
/-- data within a tuple of texts -/
theorem m_inTs (h : H p = some (.tup (ks.map V.str))) (hx : Im H x d) (sd : SeqAt.shaped d = true) (hs : ∀ k ∈ ks, PyData.strOk k = true) (q : Q (.bl (strD ks d)) H) : rInU K false x (.ref p) H Q := by
  refine .inr (.inr (.inr ⟨d, ks.map PyData.str, hx.dp, .inl (Im.dp (.tup h (ims_strs ks))), sd, lay_strs hs, ?_⟩))
  rw [any_strs]
  exact q
theorem m_niTs (h : H p = some (.tup (ks.map V.str))) (hx : Im H x d) (sd : SeqAt.shaped d = true) (hs : ∀ k ∈ ks, PyData.strOk k = true) (q : Q (.bl (!strD ks d)) H) : rInU K true x (.ref p) H Q := by
  refine .inr (.inr (.inr ⟨d, ks.map PyData.str, hx.dp, .inl (Im.dp (.tup h (ims_strs ks))), sd, lay_strs hs, ?_⟩))
  rw [any_strs]
  exact q
theorem strD_eqv : PyData.eqv d (.str z) = strD [z] d := by
  cases d <;> first | (unfold PyData.eqv strD; rfl) | skip
  rename_i y
  show PyData.eqv (.str y) (.str z) = [z].contains y
  unfold PyData.eqv
  rw [List.contains_cons]
  simp
theorem m_eqS (hx : Im H x d) (sd : SeqAt.shaped d = true) (hz : PyData.strOk z = true) (q : Q (.bl (strD [z] d)) H) : rEqU K false x (.str z) H Q :=
  m_eq hx (.str z) sd ((Lay.str (k := 0) hz).shaped (by decide)) (by rw [strD_eqv]; exact q)
theorem m_neS (hx : Im H x d) (sd : SeqAt.shaped d = true) (hz : PyData.strOk z = true) (q : Q (.bl (!strD [z] d)) H) : rEqU K true x (.str z) H Q :=
  m_ne hx (.str z) sd ((Lay.str (k := 0) hz).shaped (by decide)) (by rw [strD_eqv]; exact q)
theorem im1 {d1 : PyData} (h : Im H x (.tuple [d1])) : ∃ a x1, x = .ref a ∧ H a = some (.tup [x1]) ∧ Im H x1 d1 := by
  obtain ⟨a, xs, rfl, h1, h2⟩ := h.tup_inv
  obtain ⟨x1, r, rfl, i1, h2⟩ := h2.cons_inv
  rw [h2.nil_inv] at h1
  exact ⟨a, x1, rfl, h1, i1⟩
theorem im2 {d1 d2 : PyData} (h : Im H x (.tuple [d1, d2])) : ∃ a x1 x2, x = .ref a ∧ H a = some (.tup [x1, x2]) ∧ Im H x1 d1 ∧ Im H x2 d2 := by
  obtain ⟨a, xs, rfl, h1, h2⟩ := h.tup_inv
  obtain ⟨x1, r, rfl, i1, h2⟩ := h2.cons_inv
  obtain ⟨x2, r, rfl, i2, h2⟩ := h2.cons_inv
  rw [h2.nil_inv] at h1
  exact ⟨a, x1, x2, rfl, h1, i1, i2⟩
theorem im3 {d1 d2 d3 : PyData} (h : Im H x (.tuple [d1, d2, d3])) : ∃ a x1 x2 x3, x = .ref a ∧ H a = some (.tup [x1, x2, x3]) ∧ Im H x1 d1 ∧ Im H x2 d2 ∧ Im H x3 d3 := by
  obtain ⟨a, xs, rfl, h1, h2⟩ := h.tup_inv
  obtain ⟨x1, r, rfl, i1, h2⟩ := h2.cons_inv
  obtain ⟨x2, r, rfl, i2, h2⟩ := h2.cons_inv
  obtain ⟨x3, r, rfl, i3, h2⟩ := h2.cons_inv
  rw [h2.nil_inv] at h1
  exact ⟨a, x1, x2, x3, rfl, h1, i1, i2, i3⟩
theorem im4 {d1 d2 d3 d4 : PyData} (h : Im H x (.tuple [d1, d2, d3, d4])) : ∃ a x1 x2 x3 x4, x = .ref a ∧ H a = some (.tup [x1, x2, x3, x4]) ∧ Im H x1 d1 ∧ Im H x2 d2 ∧ Im H x3 d3 ∧ Im H x4 d4 := by
  obtain ⟨a, xs, rfl, h1, h2⟩ := h.tup_inv
  obtain ⟨x1, r, rfl, i1, h2⟩ := h2.cons_inv
  obtain ⟨x2, r, rfl, i2, h2⟩ := h2.cons_inv
  obtain ⟨x3, r, rfl, i3, h2⟩ := h2.cons_inv
  obtain ⟨x4, r, rfl, i4, h2⟩ := h2.cons_inv
  rw [h2.nil_inv] at h1
  exact ⟨a, x1, x2, x3, x4, rfl, h1, i1, i2, i3, i4⟩
end
theorem layAll_inv : ∀ {ds : List PyData}, PyData.canLayAll0 ds = true → ∀ d ∈ ds, d.canLay0 = true
  | [], _, d, hd => by cases hd
  | e :: ds, h, d, hd => by
    rw [PyData.canLayAll0, Bool.and_eq_true] at h
    rcases List.mem_cons.mp hd with rfl | hd
    · exact h.1
    · exact layAll_inv h.2 d hd
theorem depthAll_inv {k : Nat} : ∀ {ds : List PyData}, PyData.depthAll ds ≤ k → ∀ d ∈ ds, d.depth ≤ k
  | [], _, d, hd => by cases hd
  | e :: ds, h, d, hd => by
    rw [PyData.depthAll] at h
    rcases List.mem_cons.mp hd with rfl | hd
    · omega
    · exact depthAll_inv (by omega) d hd
theorem Lay.items {k : Nat} {ds : List PyData} (h : Lay k (.tuple ds)) : ∀ d ∈ ds, Lay k d := fun d hd => by
  obtain ⟨h1, h2⟩ := h
  rw [PyData.canLay0] at h1
  rw [PyData.depth] at h2
  exact ⟨layAll_inv h1 d hd, depthAll_inv (by omega) d hd⟩
/-! how wide, how deep -/
def Wd (n : Nat) : Nat → PyData → Prop
  | 0, .none => True
  | 0, .bool _ => True
  | 0, .int _ => True
  | 0, .str z => PyData.strOk z = true
  | k + 1, .tuple ds => ds.length ≤ n ∧ ∀ x ∈ ds, Wd n k x
  | _ + 1, .none => True
  | _ + 1, .bool _ => True
  | _ + 1, .int _ => True
  | _ + 1, .str z => PyData.strOk z = true
  | _, _ => False
theorem Wd.lay {n : Nat} : ∀ {k : Nat} {d : PyData}, Wd n k d → Lay k d
  | 0, .none, _ => Lay.non
  | 0, .bool _, _ => Lay.bl
  | 0, .int _, _ => Lay.int
  | 0, .str _, h => Lay.str h
  | 0, .tuple _, h => h.elim
  | 0, .list _, h => h.elim
  | 0, .dict _, h => h.elim
  | _ + 1, .none, _ => Lay.non
  | _ + 1, .bool _, _ => Lay.bl
  | _ + 1, .int _, _ => Lay.int
  | _ + 1, .str _, h => Lay.str h
  | k + 1, .tuple ds, h => Lay.tup fun d hd => (h.2 d hd).lay
  | _ + 1, .list _, h => h.elim
  | _ + 1, .dict _, h => h.elim
theorem Wd.mono {n m : Nat} (hn : n ≤ m) : ∀ {k l : Nat} {d : PyData}, k ≤ l → Wd n k d → Wd m l d
  | 0, 0, .none, _, _ => trivial
  | 0, 0, .bool _, _, _ => trivial
  | 0, 0, .int _, _, _ => trivial
  | 0, 0, .str _, _, h => h
  | 0, l + 1, .none, _, _ => trivial
  | 0, l + 1, .bool _, _, _ => trivial
  | 0, l + 1, .int _, _, _ => trivial
  | 0, l + 1, .str _, _, h => h
  | 0, _, .tuple _, _, h => h.elim
  | 0, _, .list _, _, h => h.elim
  | 0, _, .dict _, _, h => h.elim
  | k + 1, 0, _, e, _ => absurd e (by omega)
  | k + 1, l + 1, .none, _, _ => trivial
  | k + 1, l + 1, .bool _, _, _ => trivial
  | k + 1, l + 1, .int _, _, _ => trivial
  | k + 1, l + 1, .str _, _, h => h
  | k + 1, l + 1, .tuple ds, e, h => ⟨Nat.le_trans h.1 hn, fun x hx => Wd.mono hn (by omega) (h.2 x hx)⟩
  | k + 1, _, .list _, _, h => h.elim
  | k + 1, _, .dict _, _, h => h.elim
theorem cutD_mem {ds : List PyData} {lo hi : Option Int} {d : PyData} (h : d ∈ cutD ds lo hi) : d ∈ ds := by
  unfold cutD at h
  exact List.mem_of_mem_drop (List.mem_of_mem_take h)
theorem Wd.cut {n k : Nat} {ds : List PyData} {lo hi : Option Int} (h : Wd n (k + 1) (.tuple ds)) : Wd n (k + 1) (.tuple (cutD ds lo hi)) := ⟨Nat.le_trans (cutD_length ds lo hi) h.1, fun x hx => h.2 x (cutD_mem hx)⟩
theorem Wd.cat {n m k : Nat} {ds es : List PyData} (h : Wd n (k + 1) (.tuple ds)) (g : Wd m (k + 1) (.tuple es)) : Wd (n + m) (k + 1) (.tuple (ds ++ es)) :=
  ⟨by rw [List.length_append]; exact Nat.add_le_add h.1 g.1, fun x hx => by
    rcases List.mem_append.mp hx with hx | hx
    · exact (h.2 x hx).mono (by omega) (Nat.le_refl _)
    · exact (g.2 x hx).mono (by omega) (Nat.le_refl _)⟩
/-! lists of ints as data -/
theorem lst_shaped {ns : List Int} : SeqAt.shaped (.list (ns.map .int)) = true := shaped_of (by
    rw [PyData.canLay0]
    exact layAll_mem fun d hd => by
      obtain ⟨x, _, rfl⟩ := List.mem_map.mp hd
      rw [PyData.canLay0]) (by
    rw [PyData.depth]
    have : PyData.depthAll (ns.map .int) ≤ 0 := depthAll_mem fun d hd => by
      obtain ⟨x, _, rfl⟩ := List.mem_map.mp hd
      rw [PyData.depth]
      exact Nat.le_refl _
    omega)
theorem lst_all {K : PySem.W.Frag} {H : Hp} : ∀ ms : List Int, DpAll K H (ms.map V.int) (ms.map .int)
  | [] => .nil
  | m :: ms => .cons (.int m) (lst_all ms)
theorem lst_dp {K : PySem.W.Frag} {H : Hp} {a : Addr} {ns : List Int} (h : H a = some (.lst (ns.map V.int))) : Dp K H (.ref a) (.list (ns.map .int)) := .lst (SqL.of h) (lst_all ns)
theorem eqv_lnil {ds : List PyData} : PyData.eqv (.list ds) (.list []) = ds.isEmpty := by
  unfold PyData.eqv
  cases ds with
  | nil => unfold PyData.eqvAll; rfl
  | cons d ds => unfold PyData.eqvAll; rfl
theorem wd_s {z : Str} {n k : Nat} (h : PyData.strOk z = true) : Wd n k (.str z) := by
  cases k <;> exact h
theorem wd_i {i : Int} {n k : Nat} : Wd n k (.int i) := by
  cases k <;> trivial
theorem wd_b {b : Bool} {n k : Nat} : Wd n k (.bool b) := by
  cases k <;> trivial
theorem wd_o {n k : Nat} : Wd n k .none := by
  cases k <;> trivial
theorem wd_t {n k : Nat} {ds : List PyData} (h : ds.length ≤ n) (g : ∀ x ∈ ds, Wd n k x) : Wd n (k + 1) (.tuple ds) := ⟨h, g⟩
theorem g_dK {H : Hp} {a : Addr} {kvs : List (Key × V)} {z : Str} {P : Option V → Prop} (h : H a = some (.dK kvs)) (q : P (valV kvs (.inr z))) : ∃ o, DGet H a (.str z) o ∧ P o := ⟨_, DGet.k (k := .inr z) h, q⟩
theorem dp_k {H : Hp} {a : Addr} {kvs : List (Key × V)} {z : Str} {v : V} (h : H a = some (.dK kvs)) (hl : kvs.length < sizeLine) : DPut H a (.str z) v (upd H a (.dK (putK kvs (.inr z) v))) := DPut.k (k := .inr z) h hl
/-- (a list) + (a list) -/
theorem g_catL {K : PySem.W.Frag} {H : Hp} {Q : VK} {a b : Addr} {xs ys : List V} (h1 : H a = some (.lst xs)) (h2 : H b = some (.lst ys)) (hl : xs.length + ys.length ≤ 100000) (k : ∀ p, H p = none → Q (.ref p) (upd H p (.lst (xs ++ ys)))) : rAddU K (.ref a) (.ref b) H Q :=
  .inl ⟨a, b, xs, ys, rfl, rfl, h1, h2, szle hl, k⟩
end G

set_option Elab.async false
set_option linter.all false
set_option maxRecDepth 100000
set_option maxHeartbeats 4000000
namespace K85
open PySem PySem.Spec PyProof.Rows L2 G
local macro_rules | `(tactic| walk_at "sc") => `(tactic| first | (with_reducible assumption) | decide | omega | assumption | (simp only [List.length_cons, List.length_nil, List.length_append, List.length_map, List.length_replicate, List.length_set]; omega) | (show _ ≤ sizeLine; decide) | (show _ < sizeLine; decide))
local macro_rules | `(tactic| walk_at "sq") => `(tactic| first | assumption | exact SqL.of (by walk_at "hi") | exact SqT.of (by walk_at "hi"))
local macro_rules | `(tactic| walk_at "sd") => `(tactic| first | exact mul_ok (by first | omega | walk_at "sc") (by first | omega | walk_at "sc") | exact mul_ok' (by first | omega | walk_at "sc") (by first | omega | walk_at "sc"))
local macro_rules | `(tactic| walk_at "hi") => `(tactic| first | assumption | exact Has.get (by assumption) 0 rfl | exact Has.get (by assumption) 1 rfl | exact Has.get (by assumption) 2 rfl | exact Has.get (by assumption) 3 rfl | exact Has.get (by assumption) 4 rfl | exact Has.get (by assumption) 5 rfl | exact Has.get (by assumption) 6 rfl | exact Has.get (by assumption) 7 rfl | exact Has.get (by assumption) 8 rfl | exact Has.get (by assumption) 9 rfl)
local macro_rules | `(tactic| walk_at "s") => `(tactic| first
  | (with_reducible first
  | refine g_seq ?_ | refine g_asg ?_ | refine g_var rfl ?_ | refine g_c ?_ | refine g_op ?_ | refine g_name ?_ | refine g_consA ?_ | refine g_nilA ?_
  | refine g_test ?_ | refine g_exb ?_ | refine g_ifS ?_ | refine g_ret ?_ | refine g_call ?_ | refine g_cb ?_ | refine g_eqI ?_ | refine g_neI ?_
  | refine g_cmpI ?_ | refine g_I0 ?_ | refine g_addI ?_ | refine g_intI ?_ | refine g_abs ?_ | refine g_max2 ?_ | refine g_min2 ?_ | refine g_next ?_ | refine g_drop ?_ | refine g_aug rfl ?_ | refine g_ipI ?_
  | refine g_tru ?_ | refine g_truB ?_ | refine g_truI ?_ | refine g_truN ?_ | refine g_not ?_ | refine g_and ?_ | refine g_or ?_ | refine g_notV ?_ | refine g_andV ?_ | refine g_orV ?_ | refine g_ifE ?_ | refine g_chain ?_
  | refine g_un ?_ | refine g_rU ?_ | refine g_retN ?_ | refine g_brk ?_ | refine g_ct ?_ | refine g_B ?_ | refine g_eqB ?_ | refine g_neB ?_ | refine g_bm ?_ | refine g_bm0 ?_ | refine g_intB ?_
  | refine g_disp ?_ | refine g_dget2 ?_ | refine g_dget1 ?_ | refine g_pairN ?_ | refine g_pairC ?_ | refine g_dput ?_ | refine g_isNn ?_ | refine g_isNi ?_ | refine g_isNs ?_ | refine g_isNb ?_ | refine g_isNr ?_ | refine g_isB ?_ | refine g_lset ?_ | refine g_notB ?_ | refine g_noNn ?_ | refine g_noNi ?_ | refine g_noNs ?_ | refine g_noNb ?_ | refine g_noNr ?_ | refine g_gc ?_ | refine g_gn ?_ | refine g_gfld ?_ | refine g_lc ?_ | refine g_yes ?_ | refine g_sfld ?_ | refine g_meth ?_ | refine g_make ?_ | refine g_sub ?_ | refine g_sl ?_ | refine g_part ?_ | refine g_exi ?_ | refine g_noPart ?_ | refine g_for ?_ | refine g_iR ?_ | refine g_iSeq ?_ | refine g_isiIi ?_ | refine g_isiIb ?_ | refine g_isiIs ?_ | refine g_isiIt ?_ | refine g_isiBi ?_ | refine g_isiBb ?_ | refine g_isiBs ?_ | refine g_isiBt ?_ | refine g_isiSi ?_ | refine g_isiSb ?_ | refine g_isiSs ?_ | refine g_isiSt ?_ | refine g_isiNi ?_ | refine g_isiNb ?_ | refine g_isiNs ?_ | refine g_isiNt ?_
  | refine g_ifT ?_ | refine g_ifF ?_ | refine g_ifNT ?_ | refine g_ifNF ?_ | refine g_tup ?_ | refine g_lst ?_)
  | (with_reducible refine g_eqSS ?_) | (with_reducible refine g_neSS ?_) | ((with_reducible refine g_eqSx ?c ?_); (case c => decide +kernel)) | ((with_reducible refine g_neSx ?c ?_); (case c => decide +kernel)) | (with_reducible refine g_eqS ?_) | (with_reducible refine g_neS ?_)
  | ((with_reducible refine g_mod ?c ?_); (case c => walk_at "sc")) | ((with_reducible refine g_fdiv ?c ?d ?_); (case c => walk_at "sc"); (case d => walk_at "sc")) | ((with_reducible refine g_shr ?c ?_); (case c => walk_at "sc"))
  | ((with_reducible refine g_shl ?c ?d ?e ?_); (case c => walk_at "sc"); (case d => walk_at "sc"); (case e => walk_at "sc")) | ((with_reducible refine g_pow ?c ?d ?e ?_); (case c => walk_at "sc"); (case d => walk_at "sc"); (case e => walk_at "sc")) | ((with_reducible refine g_mulI ?c ?_); (case c => walk_at "sd"))
  | ((with_reducible refine' g_unp ?h ?n ?_); (case h => walk_at "sq"); (case n => rfl)) | ((with_reducible refine g_wipe ?e ?_); (case e => rfl)) | walk_at "fld" | ((with_reducible refine g_rR1 ?c1 ?c2 ?_); (case c1 => walk_at "sc"); (case c2 => walk_at "sc")) | ((with_reducible refine g_rR2 ?c1 ?_); (case c1 => exact ⟨by walk_at "sc", by walk_at "sc", by walk_at "sc", by walk_at "sc"⟩))
  | ((with_reducible refine' g_ixA ?h ?z ?v ?_); (case h => assumption); (case z => decide); (case v => rfl)) | ((with_reducible refine' g_isD ?h ?_); (case h => walk_at "hi")) | ((with_reducible refine' g_lenM ?c ?_); (case c => walk_at "sq")) | ((with_reducible refine' g_lenL ?c ?_); (case c => walk_at "sq")) | ((with_reducible refine' g_seqL ?c ?_); (case c => walk_at "sq"))
  | ((with_reducible refine' g_ty_ ?c ?_); (case c => exact .inl ⟨rfl, _, by walk_at "sq"⟩)))
local macro_rules | `(tactic| walk_at "go") => `(tactic| repeat walk_at "s")
local macro_rules | `(tactic| walk_at "len") => `(tactic| (intro vs H Q E h; first | (obtain ⟨e, _⟩ := h; rw [e]; rfl) | (obtain ⟨_, e, _⟩ := h; rw [e]; rfl) | (obtain ⟨_, _, e, _⟩ := h; rw [e]; rfl) | (obtain ⟨_, _, _, e, _⟩ := h; rw [e]; rfl) | (obtain ⟨_, _, _, _, e, _⟩ := h; rw [e]; rfl) | (obtain ⟨_, _, _, _, _, e, _⟩ := h; rw [e]; rfl) | (obtain ⟨_, _, _, _, _, _, e, _⟩ := h; rw [e]; rfl) | (obtain ⟨_, _, _, _, _, _, _, e, _⟩ := h; rw [e]; rfl) | (obtain ⟨_, _, _, _, _, _, _, _, e, _⟩ := h; rw [e]; rfl) | (obtain ⟨_, _, _, _, _, _, _, _, _, e, _⟩ := h; rw [e]; rfl) | (obtain ⟨_, _, _, _, _, _, _, _, _, _, e, _⟩ := h; rw [e]; rfl) | (obtain ⟨_, _, _, _, _, _, _, _, _, _, _, e, _⟩ := h; rw [e]; rfl) | (obtain ⟨_, _, _, _, _, _, _, _, _, _, _, _, e, _⟩ := h; rw [e]; rfl) | (obtain ⟨_, _, _, _, _, _, _, _, _, _, _, _, _, e, _⟩ := h; rw [e]; rfl) | (obtain ⟨_, _, _, _, _, _, _, _, _, _, _, _, _, _, e, _⟩ := h; rw [e]; rfl) | (obtain ⟨_, _, _, _, _, _, _, _, _, _, _, _, _, _, _, e, _⟩ := h; rw [e]; rfl) | (obtain ⟨_, _, _, _, _, _, _, _, _, _, _, _, _, _, _, _, e, _⟩ := h; rw [e]; rfl) | (obtain ⟨_, _, _, _, _, _, _, _, _, _, _, _, _, _, _, _, _, e, _⟩ := h; rw [e]; rfl) | (obtain ⟨_, _, _, _, _, _, _, _, _, _, _, _, _, _, _, _, _, _, e, _⟩ := h; rw [e]; rfl) | (obtain ⟨_, _, _, _, _, _, _, _, _, _, _, _, _, _, _, _, _, _, _, e, _⟩ := h; rw [e]; rfl) | (obtain ⟨_, _, _, _, _, _, _, _, _, _, _, _, _, _, _, _, _, _, _, _, e, _⟩ := h; rw [e]; rfl) | (obtain ⟨_, _, _, _, _, _, _, _, _, _, _, _, _, _, _, _, _, _, _, _, _, e, _⟩ := h; rw [e]; rfl) | (obtain ⟨_, _, _, _, _, _, _, _, _, _, _, _, _, _, _, _, _, _, _, _, _, _, e, _⟩ := h; rw [e]; rfl) | (obtain ⟨_, _, _, _, _, _, _, _, _, _, _, _, _, _, _, _, _, _, _, _, _, _, _, e, _⟩ := h; rw [e]; rfl)))

def topS (i : Nat) : Stmt := PySem.Challenge.pw_sameclock_k85_whole_the_machine_by_its_r.main.body.getD i (.Pass ⟨0, 0, 0, 0⟩)
def dOf (x : Str) (i : Nat) : He.DefD := ⟨(x, none), x, x, defArgs (topS i), defBody (topS i), defScope (topS i), [], []⟩
def mOf (c m q : Str) (s : Stmt) : He.DefD := ⟨(c, some m), m, q, defArgs s, defBody s, defScope s, [], []⟩
def fn : List He.DefD := [dOf "shifted" 4, dOf "divided" 5, dOf "apply" 6, dOf "reads" 9, dOf "digits_of" 13, dOf "cost_of" 14, dOf "words_of" 15, dOf "run_machine" 18, dOf "_law_draws" 20, dOf "_law_reader" 21, dOf "_law_next" 22, dOf "_law_cache" 23, dOf "_law_predictor" 24, dOf "_law_before" 25, dOf "_law_visits" 26, dOf "_law_settings" 27, dOf "_law_word" 28, dOf "_law_regions" 29, dOf "_law_span" 30, dOf "_law_register" 31, dOf "_law_op" 32, dOf "_law_row" 33, dOf "_law_code" 34, dOf "_law_contents" 35, dOf "_law_end" 36, dOf "_law_last" 37, dOf "_law_pointed" 38, dOf "_law_moment" 39, dOf "_law_victim" 40, dOf "_law_touch" 41, dOf "_law_drop" 42, dOf "_law_past" 43, dOf "_law_place" 44, dOf "_law_guess" 45, dOf "_law_apply" 46, dOf "_law_memory" 47, dOf "_law_held" 48, dOf "_law_shelf" 49, dOf "_law_machine" 50, dOf "_law_visited" 51, dOf "_law_fetched" 52, dOf "_law_read" 53, dOf "_law_digits" 54, dOf "_law_cost" 55, dOf "_law_put" 56, dOf "_law_data" 57, dOf "_law_work" 58, dOf "_law_way" 59, dOf "_law_wrong" 60, dOf "_law_branched" 61, dOf "_law_run" 62, dOf "_law_kinds" 63, dOf "law" 64, mOf "Cache" "__init__" "Cache.__init__" (inClass (topS 1) 0), mOf "Cache" "line_of" "Cache.line_of" (inClass (topS 1) 1), mOf "Cache" "places" "Cache.places" (inClass (topS 1) 2), mOf "Cache" "touch" "Cache.touch" (inClass (topS 1) 3), mOf "Cache" "free_place" "Cache.free_place" (inClass (topS 1) 4), mOf "Cache" "pointed_place" "Cache.pointed_place" (inClass (topS 1) 5), mOf "Cache" "turn_away" "Cache.turn_away" (inClass (topS 1) 6), mOf "Cache" "drop" "Cache.drop" (inClass (topS 1) 7), mOf "Predictor" "__init__" "Predictor.__init__" (inClass (topS 11) 0), mOf "Predictor" "place_of" "Predictor.place_of" (inClass (topS 11) 1), mOf "Predictor" "guess" "Predictor.guess" (inClass (topS 11) 2), mOf "Predictor" "learn" "Predictor.learn" (inClass (topS 11) 3), mOf "State" "__init__" "State.__init__" (inClass (topS 16) 0), mOf "State" "copied" "State.copied" (inClass (topS 16) 1), mOf "State" "put" "State.put" (inClass (topS 16) 2), mOf "State" "contents" "State.contents" (inClass (topS 16) 3), mOf "Machine" "__init__" "Machine.__init__" (inClass (topS 17) 0), mOf "Machine" "prepare" "Machine.prepare" (inClass (topS 17) 1), mOf "Machine" "visit" "Machine.visit" (inClass (topS 17) 2), mOf "Machine" "fetch" "Machine.fetch" (inClass (topS 17) 3), mOf "Machine" "wait" "Machine.wait" (inClass (topS 17) 4), mOf "Machine" "touch_data" "Machine.touch_data" (inClass (topS 17) 5), mOf "Machine" "calculate" "Machine.calculate" (inClass (topS 17) 6), mOf "Machine" "load" "Machine.load" (inClass (topS 17) 7), mOf "Machine" "store" "Machine.store" (inClass (topS 17) 8), mOf "Machine" "work" "Machine.work" (inClass (topS 17) 9), mOf "Machine" "guess" "Machine.guess" (inClass (topS 17) 10), mOf "Machine" "after" "Machine.after" (inClass (topS 17) 11), mOf "Machine" "branch" "Machine.branch" (inClass (topS 17) 12), mOf "Machine" "wrong_way" "Machine.wrong_way" (inClass (topS 17) 13), mOf "Machine" "run" "Machine.run" (inClass (topS 17) 14)]
def fa : List He.Fa := [.glo "shifted", .glo "divided", .glo "apply", .glo "reads", .glo "digits_of", .glo "cost_of", .glo "words_of", .glo "run_machine", .glo "_law_draws", .glo "_law_reader", .glo "_law_next", .glo "_law_cache", .glo "_law_predictor", .glo "_law_before", .glo "_law_visits", .glo "_law_settings", .glo "_law_word", .glo "_law_regions", .glo "_law_span", .glo "_law_register", .glo "_law_op", .glo "_law_row", .glo "_law_code", .glo "_law_contents", .glo "_law_end", .glo "_law_last", .glo "_law_pointed", .glo "_law_moment", .glo "_law_victim", .glo "_law_touch", .glo "_law_drop", .glo "_law_past", .glo "_law_place", .glo "_law_guess", .glo "_law_apply", .glo "_law_memory", .glo "_law_held", .glo "_law_shelf", .glo "_law_machine", .glo "_law_visited", .glo "_law_fetched", .glo "_law_read", .glo "_law_digits", .glo "_law_cost", .glo "_law_put", .glo "_law_data", .glo "_law_work", .glo "_law_way", .glo "_law_wrong", .glo "_law_branched", .glo "_law_run", .glo "_law_kinds", .glo "law", .glo "Cache", .glo "Predictor", .glo "State", .glo "Machine", .cls "Cache", .mkr "Cache", .meth "Cache" "line_of", .meth "Cache" "places", .meth "Cache" "touch", .meth "Cache" "free_place", .meth "Cache" "pointed_place", .meth "Cache" "turn_away", .meth "Cache" "drop", .noat "Cache" "_sets", .noat "Cache" "_ways", .noat "Cache" "_line", .noat "Cache" "_policy", .noat "Cache" "_places", .noat "Cache" "_times", .noat "Cache" "_pointers", .noat "Cache" "_time", .cls "Predictor", .mkr "Predictor", .meth "Predictor" "place_of", .meth "Predictor" "guess", .meth "Predictor" "learn", .noat "Predictor" "_kind", .noat "Predictor" "_bits", .noat "Predictor" "_history", .noat "Predictor" "_counters", .cls "State", .mkr "State", .meth "State" "copied", .meth "State" "put", .meth "State" "contents", .noat "State" "registers", .noat "State" "ready", .noat "State" "words", .cls "Machine", .mkr "Machine", .meth "Machine" "prepare", .meth "Machine" "visit", .meth "Machine" "fetch", .meth "Machine" "wait", .meth "Machine" "touch_data", .meth "Machine" "calculate", .meth "Machine" "load", .meth "Machine" "store", .meth "Machine" "work", .meth "Machine" "guess", .meth "Machine" "after", .meth "Machine" "branch", .meth "Machine" "wrong_way", .meth "Machine" "run", .noat "Machine" "rows", .noat "Machine" "depth", .noat "Machine" "visits", .noat "Machine" "miss", .noat "Machine" "wrong", .noat "Machine" "data", .noat "Machine" "code", .noat "Machine" "predictor", .noat "Machine" "state", .noat "Machine" "clock", .noat "Machine" "fetches", .noat "Machine" "visited", .noat "Machine" "outs", .noat "Machine" "trace", .free "abs", .free "all", .free "bool", .free "dict", .free "int", .free "isinstance", .free "len", .free "list", .free "max", .free "min", .free "range", .free "set", .free "sorted", .free "sum", .free "tuple", .free "zip", .int "WORD" 4294967296, .glo "PARTS"]
def kv_PARTS : List (Str × PyData) := [("const", .tuple [.str "d", .str "n"]), ("op", .tuple [.str "sign", .str "d", .str "a", .str "a"]), ("select", .tuple [.str "d", .str "a", .str "a", .str "a"]), ("load", .tuple [.str "d", .str "a", .str "base", .str "mask"]), ("store", .tuple [.str "a", .str "base", .str "mask", .str "a"]), ("out", .tuple [.str "a"]), ("jump", .tuple [.str "t"]), ("branch", .tuple [.str "a", .str "t"]), ("stop", .tuple [.str "a"])]
def cs : List (Str × GD) := [("PARTS", GD.dic kv_PARTS)]
theorem in_PARTS : (("PARTS" : Str), GD.dic kv_PARTS) ∈ cs := List.mem_of_getElem? (i := 0) rfl
variable {P : Program} {w : World} {K : PySem.W.Frag} {mg : Str → Option Value} {base : Heap}
theorem nd_Cache : (["_sets", "_ways", "_line", "_policy", "_places", "_times", "_pointers", "_time"] : List Str).Nodup := by decide +kernel
abbrev fs_Cache (v0 v1 v2 v3 v4 v5 v6 v7 : V) : List (Str × V) := [("_sets", v0), ("_ways", v1), ("_line", v2), ("_policy", v3), ("_places", v4), ("_times", v5), ("_pointers", v6), ("_time", v7)]
theorem cl_Cache (T : Txt fa fn K mg (CsOk cs K w)) : Cls K (He.ga K "Cache") := T.cls 57 rfl
theorem na_Cache__sets (T : Txt fa fn K mg (CsOk cs K w)) : NoAttr K (He.ga K "Cache") "_sets" := T.noat 66 rfl
theorem nf_Cache__sets : ("_sets" : Str) ∉ ([] : List Str) := by decide +kernel
theorem na_Cache__ways (T : Txt fa fn K mg (CsOk cs K w)) : NoAttr K (He.ga K "Cache") "_ways" := T.noat 67 rfl
theorem nf_Cache__ways : ("_ways" : Str) ∉ (["_sets"] : List Str) := by decide +kernel
theorem na_Cache__line (T : Txt fa fn K mg (CsOk cs K w)) : NoAttr K (He.ga K "Cache") "_line" := T.noat 68 rfl
theorem nf_Cache__line : ("_line" : Str) ∉ (["_sets", "_ways"] : List Str) := by decide +kernel
theorem na_Cache__policy (T : Txt fa fn K mg (CsOk cs K w)) : NoAttr K (He.ga K "Cache") "_policy" := T.noat 69 rfl
theorem nf_Cache__policy : ("_policy" : Str) ∉ (["_sets", "_ways", "_line"] : List Str) := by decide +kernel
theorem na_Cache__places (T : Txt fa fn K mg (CsOk cs K w)) : NoAttr K (He.ga K "Cache") "_places" := T.noat 70 rfl
theorem nf_Cache__places : ("_places" : Str) ∉ (["_sets", "_ways", "_line", "_policy"] : List Str) := by decide +kernel
theorem na_Cache__times (T : Txt fa fn K mg (CsOk cs K w)) : NoAttr K (He.ga K "Cache") "_times" := T.noat 71 rfl
theorem nf_Cache__times : ("_times" : Str) ∉ (["_sets", "_ways", "_line", "_policy", "_places"] : List Str) := by decide +kernel
theorem na_Cache__pointers (T : Txt fa fn K mg (CsOk cs K w)) : NoAttr K (He.ga K "Cache") "_pointers" := T.noat 72 rfl
theorem nf_Cache__pointers : ("_pointers" : Str) ∉ (["_sets", "_ways", "_line", "_policy", "_places", "_times"] : List Str) := by decide +kernel
theorem na_Cache__time (T : Txt fa fn K mg (CsOk cs K w)) : NoAttr K (He.ga K "Cache") "_time" := T.noat 73 rfl
theorem nf_Cache__time : ("_time" : Str) ∉ (["_sets", "_ways", "_line", "_policy", "_places", "_times", "_pointers"] : List Str) := by decide +kernel
theorem nm_Cache_line_of : ("line_of" : Str) ∉ (["_sets", "_ways", "_line", "_policy", "_places", "_times", "_pointers", "_time"] : List Str) := by decide +kernel
theorem nm_Cache_places : ("places" : Str) ∉ (["_sets", "_ways", "_line", "_policy", "_places", "_times", "_pointers", "_time"] : List Str) := by decide +kernel
theorem nm_Cache_touch : ("touch" : Str) ∉ (["_sets", "_ways", "_line", "_policy", "_places", "_times", "_pointers", "_time"] : List Str) := by decide +kernel
theorem nm_Cache_free_place : ("free_place" : Str) ∉ (["_sets", "_ways", "_line", "_policy", "_places", "_times", "_pointers", "_time"] : List Str) := by decide +kernel
theorem nm_Cache_pointed_place : ("pointed_place" : Str) ∉ (["_sets", "_ways", "_line", "_policy", "_places", "_times", "_pointers", "_time"] : List Str) := by decide +kernel
theorem nm_Cache_turn_away : ("turn_away" : Str) ∉ (["_sets", "_ways", "_line", "_policy", "_places", "_times", "_pointers", "_time"] : List Str) := by decide +kernel
theorem nm_Cache_drop : ("drop" : Str) ∉ (["_sets", "_ways", "_line", "_policy", "_places", "_times", "_pointers", "_time"] : List Str) := by decide +kernel
theorem nd_Predictor : (["_kind", "_bits", "_history", "_counters"] : List Str).Nodup := by decide +kernel
abbrev fs_Predictor (v0 v1 v2 v3 : V) : List (Str × V) := [("_kind", v0), ("_bits", v1), ("_history", v2), ("_counters", v3)]
theorem cl_Predictor (T : Txt fa fn K mg (CsOk cs K w)) : Cls K (He.ga K "Predictor") := T.cls 74 rfl
theorem na_Predictor__kind (T : Txt fa fn K mg (CsOk cs K w)) : NoAttr K (He.ga K "Predictor") "_kind" := T.noat 79 rfl
theorem nf_Predictor__kind : ("_kind" : Str) ∉ ([] : List Str) := by decide +kernel
theorem na_Predictor__bits (T : Txt fa fn K mg (CsOk cs K w)) : NoAttr K (He.ga K "Predictor") "_bits" := T.noat 80 rfl
theorem nf_Predictor__bits : ("_bits" : Str) ∉ (["_kind"] : List Str) := by decide +kernel
theorem na_Predictor__history (T : Txt fa fn K mg (CsOk cs K w)) : NoAttr K (He.ga K "Predictor") "_history" := T.noat 81 rfl
theorem nf_Predictor__history : ("_history" : Str) ∉ (["_kind", "_bits"] : List Str) := by decide +kernel
theorem na_Predictor__counters (T : Txt fa fn K mg (CsOk cs K w)) : NoAttr K (He.ga K "Predictor") "_counters" := T.noat 82 rfl
theorem nf_Predictor__counters : ("_counters" : Str) ∉ (["_kind", "_bits", "_history"] : List Str) := by decide +kernel
theorem nm_Predictor_place_of : ("place_of" : Str) ∉ (["_kind", "_bits", "_history", "_counters"] : List Str) := by decide +kernel
theorem nm_Predictor_guess : ("guess" : Str) ∉ (["_kind", "_bits", "_history", "_counters"] : List Str) := by decide +kernel
theorem nm_Predictor_learn : ("learn" : Str) ∉ (["_kind", "_bits", "_history", "_counters"] : List Str) := by decide +kernel
theorem nd_State : (["registers", "ready", "words"] : List Str).Nodup := by decide +kernel
abbrev fs_State (v0 v1 v2 : V) : List (Str × V) := [("registers", v0), ("ready", v1), ("words", v2)]
theorem cl_State (T : Txt fa fn K mg (CsOk cs K w)) : Cls K (He.ga K "State") := T.cls 83 rfl
theorem na_State_registers (T : Txt fa fn K mg (CsOk cs K w)) : NoAttr K (He.ga K "State") "registers" := T.noat 88 rfl
theorem nf_State_registers : ("registers" : Str) ∉ ([] : List Str) := by decide +kernel
theorem na_State_ready (T : Txt fa fn K mg (CsOk cs K w)) : NoAttr K (He.ga K "State") "ready" := T.noat 89 rfl
theorem nf_State_ready : ("ready" : Str) ∉ (["registers"] : List Str) := by decide +kernel
theorem na_State_words (T : Txt fa fn K mg (CsOk cs K w)) : NoAttr K (He.ga K "State") "words" := T.noat 90 rfl
theorem nf_State_words : ("words" : Str) ∉ (["registers", "ready"] : List Str) := by decide +kernel
theorem nm_State_copied : ("copied" : Str) ∉ (["registers", "ready", "words"] : List Str) := by decide +kernel
theorem nm_State_put : ("put" : Str) ∉ (["registers", "ready", "words"] : List Str) := by decide +kernel
theorem nm_State_contents : ("contents" : Str) ∉ (["registers", "ready", "words"] : List Str) := by decide +kernel
theorem nd_Machine : (["rows", "depth", "visits", "miss", "wrong", "data", "code", "predictor", "state", "clock", "fetches", "visited", "outs", "trace"] : List Str).Nodup := by decide +kernel
abbrev fs_Machine (v0 v1 v2 v3 v4 v5 v6 v7 v8 v9 v10 v11 v12 v13 : V) : List (Str × V) := [("rows", v0), ("depth", v1), ("visits", v2), ("miss", v3), ("wrong", v4), ("data", v5), ("code", v6), ("predictor", v7), ("state", v8), ("clock", v9), ("fetches", v10), ("visited", v11), ("outs", v12), ("trace", v13)]
theorem cl_Machine (T : Txt fa fn K mg (CsOk cs K w)) : Cls K (He.ga K "Machine") := T.cls 91 rfl
theorem na_Machine_rows (T : Txt fa fn K mg (CsOk cs K w)) : NoAttr K (He.ga K "Machine") "rows" := T.noat 107 rfl
theorem nf_Machine_rows : ("rows" : Str) ∉ ([] : List Str) := by decide +kernel
theorem na_Machine_depth (T : Txt fa fn K mg (CsOk cs K w)) : NoAttr K (He.ga K "Machine") "depth" := T.noat 108 rfl
theorem nf_Machine_depth : ("depth" : Str) ∉ (["rows"] : List Str) := by decide +kernel
theorem na_Machine_visits (T : Txt fa fn K mg (CsOk cs K w)) : NoAttr K (He.ga K "Machine") "visits" := T.noat 109 rfl
theorem nf_Machine_visits : ("visits" : Str) ∉ (["rows", "depth"] : List Str) := by decide +kernel
theorem na_Machine_miss (T : Txt fa fn K mg (CsOk cs K w)) : NoAttr K (He.ga K "Machine") "miss" := T.noat 110 rfl
theorem nf_Machine_miss : ("miss" : Str) ∉ (["rows", "depth", "visits"] : List Str) := by decide +kernel
theorem na_Machine_wrong (T : Txt fa fn K mg (CsOk cs K w)) : NoAttr K (He.ga K "Machine") "wrong" := T.noat 111 rfl
theorem nf_Machine_wrong : ("wrong" : Str) ∉ (["rows", "depth", "visits", "miss"] : List Str) := by decide +kernel
theorem na_Machine_data (T : Txt fa fn K mg (CsOk cs K w)) : NoAttr K (He.ga K "Machine") "data" := T.noat 112 rfl
theorem nf_Machine_data : ("data" : Str) ∉ (["rows", "depth", "visits", "miss", "wrong"] : List Str) := by decide +kernel
theorem na_Machine_code (T : Txt fa fn K mg (CsOk cs K w)) : NoAttr K (He.ga K "Machine") "code" := T.noat 113 rfl
theorem nf_Machine_code : ("code" : Str) ∉ (["rows", "depth", "visits", "miss", "wrong", "data"] : List Str) := by decide +kernel
theorem na_Machine_predictor (T : Txt fa fn K mg (CsOk cs K w)) : NoAttr K (He.ga K "Machine") "predictor" := T.noat 114 rfl
theorem nf_Machine_predictor : ("predictor" : Str) ∉ (["rows", "depth", "visits", "miss", "wrong", "data", "code"] : List Str) := by decide +kernel
theorem na_Machine_state (T : Txt fa fn K mg (CsOk cs K w)) : NoAttr K (He.ga K "Machine") "state" := T.noat 115 rfl
theorem nf_Machine_state : ("state" : Str) ∉ (["rows", "depth", "visits", "miss", "wrong", "data", "code", "predictor"] : List Str) := by decide +kernel
theorem na_Machine_clock (T : Txt fa fn K mg (CsOk cs K w)) : NoAttr K (He.ga K "Machine") "clock" := T.noat 116 rfl
theorem nf_Machine_clock : ("clock" : Str) ∉ (["rows", "depth", "visits", "miss", "wrong", "data", "code", "predictor", "state"] : List Str) := by decide +kernel
theorem na_Machine_fetches (T : Txt fa fn K mg (CsOk cs K w)) : NoAttr K (He.ga K "Machine") "fetches" := T.noat 117 rfl
theorem nf_Machine_fetches : ("fetches" : Str) ∉ (["rows", "depth", "visits", "miss", "wrong", "data", "code", "predictor", "state", "clock"] : List Str) := by decide +kernel
theorem na_Machine_visited (T : Txt fa fn K mg (CsOk cs K w)) : NoAttr K (He.ga K "Machine") "visited" := T.noat 118 rfl
theorem nf_Machine_visited : ("visited" : Str) ∉ (["rows", "depth", "visits", "miss", "wrong", "data", "code", "predictor", "state", "clock", "fetches"] : List Str) := by decide +kernel
theorem na_Machine_outs (T : Txt fa fn K mg (CsOk cs K w)) : NoAttr K (He.ga K "Machine") "outs" := T.noat 119 rfl
theorem nf_Machine_outs : ("outs" : Str) ∉ (["rows", "depth", "visits", "miss", "wrong", "data", "code", "predictor", "state", "clock", "fetches", "visited"] : List Str) := by decide +kernel
theorem na_Machine_trace (T : Txt fa fn K mg (CsOk cs K w)) : NoAttr K (He.ga K "Machine") "trace" := T.noat 120 rfl
theorem nf_Machine_trace : ("trace" : Str) ∉ (["rows", "depth", "visits", "miss", "wrong", "data", "code", "predictor", "state", "clock", "fetches", "visited", "outs"] : List Str) := by decide +kernel
theorem nm_Machine_prepare : ("prepare" : Str) ∉ (["rows", "depth", "visits", "miss", "wrong", "data", "code", "predictor", "state", "clock", "fetches", "visited", "outs", "trace"] : List Str) := by decide +kernel
theorem nm_Machine_visit : ("visit" : Str) ∉ (["rows", "depth", "visits", "miss", "wrong", "data", "code", "predictor", "state", "clock", "fetches", "visited", "outs", "trace"] : List Str) := by decide +kernel
theorem nm_Machine_fetch : ("fetch" : Str) ∉ (["rows", "depth", "visits", "miss", "wrong", "data", "code", "predictor", "state", "clock", "fetches", "visited", "outs", "trace"] : List Str) := by decide +kernel
theorem nm_Machine_wait : ("wait" : Str) ∉ (["rows", "depth", "visits", "miss", "wrong", "data", "code", "predictor", "state", "clock", "fetches", "visited", "outs", "trace"] : List Str) := by decide +kernel
theorem nm_Machine_touch_data : ("touch_data" : Str) ∉ (["rows", "depth", "visits", "miss", "wrong", "data", "code", "predictor", "state", "clock", "fetches", "visited", "outs", "trace"] : List Str) := by decide +kernel
theorem nm_Machine_calculate : ("calculate" : Str) ∉ (["rows", "depth", "visits", "miss", "wrong", "data", "code", "predictor", "state", "clock", "fetches", "visited", "outs", "trace"] : List Str) := by decide +kernel
theorem nm_Machine_load : ("load" : Str) ∉ (["rows", "depth", "visits", "miss", "wrong", "data", "code", "predictor", "state", "clock", "fetches", "visited", "outs", "trace"] : List Str) := by decide +kernel
theorem nm_Machine_store : ("store" : Str) ∉ (["rows", "depth", "visits", "miss", "wrong", "data", "code", "predictor", "state", "clock", "fetches", "visited", "outs", "trace"] : List Str) := by decide +kernel
theorem nm_Machine_work : ("work" : Str) ∉ (["rows", "depth", "visits", "miss", "wrong", "data", "code", "predictor", "state", "clock", "fetches", "visited", "outs", "trace"] : List Str) := by decide +kernel
theorem nm_Machine_guess : ("guess" : Str) ∉ (["rows", "depth", "visits", "miss", "wrong", "data", "code", "predictor", "state", "clock", "fetches", "visited", "outs", "trace"] : List Str) := by decide +kernel
theorem nm_Machine_after : ("after" : Str) ∉ (["rows", "depth", "visits", "miss", "wrong", "data", "code", "predictor", "state", "clock", "fetches", "visited", "outs", "trace"] : List Str) := by decide +kernel
theorem nm_Machine_branch : ("branch" : Str) ∉ (["rows", "depth", "visits", "miss", "wrong", "data", "code", "predictor", "state", "clock", "fetches", "visited", "outs", "trace"] : List Str) := by decide +kernel
theorem nm_Machine_wrong_way : ("wrong_way" : Str) ∉ (["rows", "depth", "visits", "miss", "wrong", "data", "code", "predictor", "state", "clock", "fetches", "visited", "outs", "trace"] : List Str) := by decide +kernel
theorem nm_Machine_run : ("run" : Str) ∉ (["rows", "depth", "visits", "miss", "wrong", "data", "code", "predictor", "state", "clock", "fetches", "visited", "outs", "trace"] : List Str) := by decide +kernel
local macro_rules | `(tactic| walk_at "fld") => `(tactic| first | ((with_reducible refine' g_fld (f := "_sets") ?h ?c ?n ?l ?_); (case h => walk_at "hi"); (case c => exact cl_Cache (by assumption)); (case n => exact na_Cache__sets (by assumption)); (case l => exact lk_ix 0 nd_Cache rfl)) | ((with_reducible refine' g_fld (f := "_ways") ?h ?c ?n ?l ?_); (case h => walk_at "hi"); (case c => exact cl_Cache (by assumption)); (case n => exact na_Cache__ways (by assumption)); (case l => exact lk_ix 1 nd_Cache rfl)) | ((with_reducible refine' g_fld (f := "_line") ?h ?c ?n ?l ?_); (case h => walk_at "hi"); (case c => exact cl_Cache (by assumption)); (case n => exact na_Cache__line (by assumption)); (case l => exact lk_ix 2 nd_Cache rfl)) | ((with_reducible refine' g_fld (f := "_policy") ?h ?c ?n ?l ?_); (case h => walk_at "hi"); (case c => exact cl_Cache (by assumption)); (case n => exact na_Cache__policy (by assumption)); (case l => exact lk_ix 3 nd_Cache rfl)) | ((with_reducible refine' g_fld (f := "_places") ?h ?c ?n ?l ?_); (case h => walk_at "hi"); (case c => exact cl_Cache (by assumption)); (case n => exact na_Cache__places (by assumption)); (case l => exact lk_ix 4 nd_Cache rfl)) | ((with_reducible refine' g_fld (f := "_times") ?h ?c ?n ?l ?_); (case h => walk_at "hi"); (case c => exact cl_Cache (by assumption)); (case n => exact na_Cache__times (by assumption)); (case l => exact lk_ix 5 nd_Cache rfl)) | ((with_reducible refine' g_fld (f := "_pointers") ?h ?c ?n ?l ?_); (case h => walk_at "hi"); (case c => exact cl_Cache (by assumption)); (case n => exact na_Cache__pointers (by assumption)); (case l => exact lk_ix 6 nd_Cache rfl)) | ((with_reducible refine' g_fld (f := "_time") ?h ?c ?n ?l ?_); (case h => walk_at "hi"); (case c => exact cl_Cache (by assumption)); (case n => exact na_Cache__time (by assumption)); (case l => exact lk_ix 7 nd_Cache rfl)) | ((with_reducible refine' g_fld (f := "_kind") ?h ?c ?n ?l ?_); (case h => walk_at "hi"); (case c => exact cl_Predictor (by assumption)); (case n => exact na_Predictor__kind (by assumption)); (case l => exact lk_ix 0 nd_Predictor rfl)) | ((with_reducible refine' g_fld (f := "_bits") ?h ?c ?n ?l ?_); (case h => walk_at "hi"); (case c => exact cl_Predictor (by assumption)); (case n => exact na_Predictor__bits (by assumption)); (case l => exact lk_ix 1 nd_Predictor rfl)) | ((with_reducible refine' g_fld (f := "_history") ?h ?c ?n ?l ?_); (case h => walk_at "hi"); (case c => exact cl_Predictor (by assumption)); (case n => exact na_Predictor__history (by assumption)); (case l => exact lk_ix 2 nd_Predictor rfl)) | ((with_reducible refine' g_fld (f := "_counters") ?h ?c ?n ?l ?_); (case h => walk_at "hi"); (case c => exact cl_Predictor (by assumption)); (case n => exact na_Predictor__counters (by assumption)); (case l => exact lk_ix 3 nd_Predictor rfl)) | ((with_reducible refine' g_fld (f := "registers") ?h ?c ?n ?l ?_); (case h => walk_at "hi"); (case c => exact cl_State (by assumption)); (case n => exact na_State_registers (by assumption)); (case l => exact lk_ix 0 nd_State rfl)) | ((with_reducible refine' g_fld (f := "ready") ?h ?c ?n ?l ?_); (case h => walk_at "hi"); (case c => exact cl_State (by assumption)); (case n => exact na_State_ready (by assumption)); (case l => exact lk_ix 1 nd_State rfl)) | ((with_reducible refine' g_fld (f := "words") ?h ?c ?n ?l ?_); (case h => walk_at "hi"); (case c => exact cl_State (by assumption)); (case n => exact na_State_words (by assumption)); (case l => exact lk_ix 2 nd_State rfl)) | ((with_reducible refine' g_fld (f := "rows") ?h ?c ?n ?l ?_); (case h => walk_at "hi"); (case c => exact cl_Machine (by assumption)); (case n => exact na_Machine_rows (by assumption)); (case l => exact lk_ix 0 nd_Machine rfl)) | ((with_reducible refine' g_fld (f := "depth") ?h ?c ?n ?l ?_); (case h => walk_at "hi"); (case c => exact cl_Machine (by assumption)); (case n => exact na_Machine_depth (by assumption)); (case l => exact lk_ix 1 nd_Machine rfl)) | ((with_reducible refine' g_fld (f := "visits") ?h ?c ?n ?l ?_); (case h => walk_at "hi"); (case c => exact cl_Machine (by assumption)); (case n => exact na_Machine_visits (by assumption)); (case l => exact lk_ix 2 nd_Machine rfl)) | ((with_reducible refine' g_fld (f := "miss") ?h ?c ?n ?l ?_); (case h => walk_at "hi"); (case c => exact cl_Machine (by assumption)); (case n => exact na_Machine_miss (by assumption)); (case l => exact lk_ix 3 nd_Machine rfl)) | ((with_reducible refine' g_fld (f := "wrong") ?h ?c ?n ?l ?_); (case h => walk_at "hi"); (case c => exact cl_Machine (by assumption)); (case n => exact na_Machine_wrong (by assumption)); (case l => exact lk_ix 4 nd_Machine rfl)) | ((with_reducible refine' g_fld (f := "data") ?h ?c ?n ?l ?_); (case h => walk_at "hi"); (case c => exact cl_Machine (by assumption)); (case n => exact na_Machine_data (by assumption)); (case l => exact lk_ix 5 nd_Machine rfl)) | ((with_reducible refine' g_fld (f := "code") ?h ?c ?n ?l ?_); (case h => walk_at "hi"); (case c => exact cl_Machine (by assumption)); (case n => exact na_Machine_code (by assumption)); (case l => exact lk_ix 6 nd_Machine rfl)) | ((with_reducible refine' g_fld (f := "predictor") ?h ?c ?n ?l ?_); (case h => walk_at "hi"); (case c => exact cl_Machine (by assumption)); (case n => exact na_Machine_predictor (by assumption)); (case l => exact lk_ix 7 nd_Machine rfl)) | ((with_reducible refine' g_fld (f := "state") ?h ?c ?n ?l ?_); (case h => walk_at "hi"); (case c => exact cl_Machine (by assumption)); (case n => exact na_Machine_state (by assumption)); (case l => exact lk_ix 8 nd_Machine rfl)) | ((with_reducible refine' g_fld (f := "clock") ?h ?c ?n ?l ?_); (case h => walk_at "hi"); (case c => exact cl_Machine (by assumption)); (case n => exact na_Machine_clock (by assumption)); (case l => exact lk_ix 9 nd_Machine rfl)) | ((with_reducible refine' g_fld (f := "fetches") ?h ?c ?n ?l ?_); (case h => walk_at "hi"); (case c => exact cl_Machine (by assumption)); (case n => exact na_Machine_fetches (by assumption)); (case l => exact lk_ix 10 nd_Machine rfl)) | ((with_reducible refine' g_fld (f := "visited") ?h ?c ?n ?l ?_); (case h => walk_at "hi"); (case c => exact cl_Machine (by assumption)); (case n => exact na_Machine_visited (by assumption)); (case l => exact lk_ix 11 nd_Machine rfl)) | ((with_reducible refine' g_fld (f := "outs") ?h ?c ?n ?l ?_); (case h => walk_at "hi"); (case c => exact cl_Machine (by assumption)); (case n => exact na_Machine_outs (by assumption)); (case l => exact lk_ix 12 nd_Machine rfl)) | ((with_reducible refine' g_fld (f := "trace") ?h ?c ?n ?l ?_); (case h => walk_at "hi"); (case c => exact cl_Machine (by assumption)); (case n => exact na_Machine_trace (by assumption)); (case l => exact lk_ix 13 nd_Machine rfl)) | ((with_reducible refine' g_rcv (m := "line_of") ?h ?l ?_); (case h => walk_at "hi"); (case l => exact lk_none nm_Cache_line_of)) | ((with_reducible refine' g_rcv (m := "places") ?h ?l ?_); (case h => walk_at "hi"); (case l => exact lk_none nm_Cache_places)) | ((with_reducible refine' g_rcv (m := "touch") ?h ?l ?_); (case h => walk_at "hi"); (case l => exact lk_none nm_Cache_touch)) | ((with_reducible refine' g_rcv (m := "free_place") ?h ?l ?_); (case h => walk_at "hi"); (case l => exact lk_none nm_Cache_free_place)) | ((with_reducible refine' g_rcv (m := "pointed_place") ?h ?l ?_); (case h => walk_at "hi"); (case l => exact lk_none nm_Cache_pointed_place)) | ((with_reducible refine' g_rcv (m := "turn_away") ?h ?l ?_); (case h => walk_at "hi"); (case l => exact lk_none nm_Cache_turn_away)) | ((with_reducible refine' g_rcv (m := "drop") ?h ?l ?_); (case h => walk_at "hi"); (case l => exact lk_none nm_Cache_drop)) | ((with_reducible refine' g_rcv (m := "place_of") ?h ?l ?_); (case h => walk_at "hi"); (case l => exact lk_none nm_Predictor_place_of)) | ((with_reducible refine' g_rcv (m := "guess") ?h ?l ?_); (case h => walk_at "hi"); (case l => exact lk_none nm_Predictor_guess)) | ((with_reducible refine' g_rcv (m := "learn") ?h ?l ?_); (case h => walk_at "hi"); (case l => exact lk_none nm_Predictor_learn)) | ((with_reducible refine' g_rcv (m := "copied") ?h ?l ?_); (case h => walk_at "hi"); (case l => exact lk_none nm_State_copied)) | ((with_reducible refine' g_rcv (m := "put") ?h ?l ?_); (case h => walk_at "hi"); (case l => exact lk_none nm_State_put)) | ((with_reducible refine' g_rcv (m := "contents") ?h ?l ?_); (case h => walk_at "hi"); (case l => exact lk_none nm_State_contents)) | ((with_reducible refine' g_rcv (m := "prepare") ?h ?l ?_); (case h => walk_at "hi"); (case l => exact lk_none nm_Machine_prepare)) | ((with_reducible refine' g_rcv (m := "visit") ?h ?l ?_); (case h => walk_at "hi"); (case l => exact lk_none nm_Machine_visit)) | ((with_reducible refine' g_rcv (m := "fetch") ?h ?l ?_); (case h => walk_at "hi"); (case l => exact lk_none nm_Machine_fetch)) | ((with_reducible refine' g_rcv (m := "wait") ?h ?l ?_); (case h => walk_at "hi"); (case l => exact lk_none nm_Machine_wait)) | ((with_reducible refine' g_rcv (m := "touch_data") ?h ?l ?_); (case h => walk_at "hi"); (case l => exact lk_none nm_Machine_touch_data)) | ((with_reducible refine' g_rcv (m := "calculate") ?h ?l ?_); (case h => walk_at "hi"); (case l => exact lk_none nm_Machine_calculate)) | ((with_reducible refine' g_rcv (m := "load") ?h ?l ?_); (case h => walk_at "hi"); (case l => exact lk_none nm_Machine_load)) | ((with_reducible refine' g_rcv (m := "store") ?h ?l ?_); (case h => walk_at "hi"); (case l => exact lk_none nm_Machine_store)) | ((with_reducible refine' g_rcv (m := "work") ?h ?l ?_); (case h => walk_at "hi"); (case l => exact lk_none nm_Machine_work)) | ((with_reducible refine' g_rcv (m := "guess") ?h ?l ?_); (case h => walk_at "hi"); (case l => exact lk_none nm_Machine_guess)) | ((with_reducible refine' g_rcv (m := "after") ?h ?l ?_); (case h => walk_at "hi"); (case l => exact lk_none nm_Machine_after)) | ((with_reducible refine' g_rcv (m := "branch") ?h ?l ?_); (case h => walk_at "hi"); (case l => exact lk_none nm_Machine_branch)) | ((with_reducible refine' g_rcv (m := "wrong_way") ?h ?l ?_); (case h => walk_at "hi"); (case l => exact lk_none nm_Machine_wrong_way)) | ((with_reducible refine' g_rcv (m := "run") ?h ?l ?_); (case h => walk_at "hi"); (case l => exact lk_none nm_Machine_run)))
/-! ### the head -/
abbrev R : PySem.W.OpenRow := PySem.W.OpenLaw.row PySem.Challenge.rw_sameclock_k85_whole_the_machine_by_its_r
abbrev hk : PySem.W.Hook := He.hookX 5 fa fn (tabs cs) [] (exB cs)
def ob (s : PySem.W.SharedT) : He.AlX := He.obsX 5 fa fn (tabs cs) [] (exB cs) (HandSHeadRun.getT s)
theorem ob_eq (s : PySem.W.SharedT) : ob s = hk.obs s.abs := He.obsX_eq (HandSHeadRun.getT_eq s)
section
open PySem PySem.W PySem.Calls PyProof.Rows HandSHeadRun
abbrev lo : List Str := (("Cache" : Str) :: ("WORD" : Str) :: ("shifted" : Str) :: ("divided" : Str) :: ("apply" : Str) :: ("PARTS" : Str) :: ("reads" : Str) :: ("Predictor" : Str) :: ("digits_of" : Str) :: ("cost_of" : Str) :: ("words_of" : Str) :: ("State" : Str) :: ("Machine" : Str) :: ("run_machine" : Str) :: ("_law_draws" : Str) :: ("_law_reader" : Str) :: ("_law_next" : Str) :: ("_law_cache" : Str) :: ("_law_predictor" : Str) :: ("_law_before" : Str) :: ("_law_visits" : Str) :: ("_law_settings" : Str) :: ("_law_word" : Str) :: ("_law_regions" : Str) :: ("_law_span" : Str) :: ("_law_register" : Str) :: ("_law_op" : Str) :: ("_law_row" : Str) :: ("_law_code" : Str) :: ("_law_contents" : Str) :: ("_law_end" : Str) :: ("_law_last" : Str) :: ("_law_pointed" : Str) :: ("_law_moment" : Str) :: ("_law_victim" : Str) :: ("_law_touch" : Str) :: ("_law_drop" : Str) :: ("_law_past" : Str) :: ("_law_place" : Str) :: ("_law_guess" : Str) :: ("_law_apply" : Str) :: ("_law_memory" : Str) :: ("_law_held" : Str) :: ("_law_shelf" : Str) :: ("_law_machine" : Str) :: ("_law_visited" : Str) :: ("_law_fetched" : Str) :: ("_law_read" : Str) :: ("_law_digits" : Str) :: ("_law_cost" : Str) :: ("_law_put" : Str) :: ("_law_data" : Str) :: ("_law_work" : Str) :: ("_law_way" : Str) :: ("_law_wrong" : Str) :: ("_law_branched" : Str) :: ("_law_run" : Str) :: ("_law_kinds" : Str) :: [])
theorem run3 {α β γ δ : Type} {x : Option α} {f : α → β} {g : α → γ} {h : α → δ} {a : β} {b : γ} {c : δ} (e1 : x.map f = some a) (e2 : x.map g = some b) (e3 : x.map h = some c) : x.map (fun s => (f s, g s, h s)) = some (a, b, c) := by
  cases x with
  | none => cases e1
  | some s =>
    cases e1
    cases e2
    cases e3
    rfl
theorem ra_false (w : World) (os : OsState) : (endF (stepQ (denQ tabQ) R.prog (w.withFollow "special-get-raises" false)) 8000 R.prog (w.withFollow "special-get-raises" false) os).map (fun s => looksF R.prog (boot_heap (w.withFollow "special-get-raises" false).params) s.abs) = some true := by kernel_rfl
theorem rb_false (w : World) (os : OsState) : (endF (stepQ (denQ tabQ) R.prog (w.withFollow "special-get-raises" false)) 8000 R.prog (w.withFollow "special-get-raises" false) os).map (fun s => seenQ (PySem.W.view R.prog [64]) lo (importedModules R.prog.main.body) (fun s => xlAt (PySem.W.view R.prog [64]) [] s && recOk R.toRowW.records s) s.abs) = some (openGood (PySem.W.view R.prog [64]) lo) := by kernel_rfl
theorem rc_false (w : World) (os : OsState) : (endF (stepQ (denQ tabQ) R.prog (w.withFollow "special-get-raises" false)) 8000 R.prog (w.withFollow "special-get-raises" false) os).map (fun s => ob s) = some (hk.val (w.withFollow "special-get-raises" false)) := by kernel_rfl
theorem run_false (w : World) : HandSHeadRun.RunEq R (PySem.W.view R.prog [64]) hk ob 8000 lo (w.withFollow "special-get-raises" false) := fun os => run3 (ra_false w os) (rb_false w os) (rc_false w os)
theorem ra_true (w : World) (os : OsState) : (endF (stepQ (denQ tabQ) R.prog (w.withFollow "special-get-raises" true)) 8000 R.prog (w.withFollow "special-get-raises" true) os).map (fun s => looksF R.prog (boot_heap (w.withFollow "special-get-raises" true).params) s.abs) = some true := by kernel_rfl
theorem rb_true (w : World) (os : OsState) : (endF (stepQ (denQ tabQ) R.prog (w.withFollow "special-get-raises" true)) 8000 R.prog (w.withFollow "special-get-raises" true) os).map (fun s => seenQ (PySem.W.view R.prog [64]) lo (importedModules R.prog.main.body) (fun s => xlAt (PySem.W.view R.prog [64]) [] s && recOk R.toRowW.records s) s.abs) = some (openGood (PySem.W.view R.prog [64]) lo) := by kernel_rfl
theorem rc_true (w : World) (os : OsState) : (endF (stepQ (denQ tabQ) R.prog (w.withFollow "special-get-raises" true)) 8000 R.prog (w.withFollow "special-get-raises" true) os).map (fun s => ob s) = some (hk.val (w.withFollow "special-get-raises" true)) := by kernel_rfl
theorem run_true (w : World) : HandSHeadRun.RunEq R (PySem.W.view R.prog [64]) hk ob 8000 lo (w.withFollow "special-get-raises" true) := fun os => run3 (ra_true w os) (rb_true w os) (rc_true w os)
end
theorem run (w : World) : HandSHeadRun.RunEq R (PySem.W.view R.prog [64]) hk ob 8000 (("Cache" : Str) :: ("WORD" : Str) :: ("shifted" : Str) :: ("divided" : Str) :: ("apply" : Str) :: ("PARTS" : Str) :: ("reads" : Str) :: ("Predictor" : Str) :: ("digits_of" : Str) :: ("cost_of" : Str) :: ("words_of" : Str) :: ("State" : Str) :: ("Machine" : Str) :: ("run_machine" : Str) :: ("_law_draws" : Str) :: ("_law_reader" : Str) :: ("_law_next" : Str) :: ("_law_cache" : Str) :: ("_law_predictor" : Str) :: ("_law_before" : Str) :: ("_law_visits" : Str) :: ("_law_settings" : Str) :: ("_law_word" : Str) :: ("_law_regions" : Str) :: ("_law_span" : Str) :: ("_law_register" : Str) :: ("_law_op" : Str) :: ("_law_row" : Str) :: ("_law_code" : Str) :: ("_law_contents" : Str) :: ("_law_end" : Str) :: ("_law_last" : Str) :: ("_law_pointed" : Str) :: ("_law_moment" : Str) :: ("_law_victim" : Str) :: ("_law_touch" : Str) :: ("_law_drop" : Str) :: ("_law_past" : Str) :: ("_law_place" : Str) :: ("_law_guess" : Str) :: ("_law_apply" : Str) :: ("_law_memory" : Str) :: ("_law_held" : Str) :: ("_law_shelf" : Str) :: ("_law_machine" : Str) :: ("_law_visited" : Str) :: ("_law_fetched" : Str) :: ("_law_read" : Str) :: ("_law_digits" : Str) :: ("_law_cost" : Str) :: ("_law_put" : Str) :: ("_law_data" : Str) :: ("_law_work" : Str) :: ("_law_way" : Str) :: ("_law_wrong" : Str) :: ("_law_branched" : Str) :: ("_law_run" : Str) :: ("_law_kinds" : Str) :: []) w :=
  PySem.W.byRow2 "special-get-raises" (P := fun w => HandSHeadRun.RunEq R (PySem.W.view R.prog [64]) hk ob 8000 (("Cache" : Str) :: ("WORD" : Str) :: ("shifted" : Str) :: ("divided" : Str) :: ("apply" : Str) :: ("PARTS" : Str) :: ("reads" : Str) :: ("Predictor" : Str) :: ("digits_of" : Str) :: ("cost_of" : Str) :: ("words_of" : Str) :: ("State" : Str) :: ("Machine" : Str) :: ("run_machine" : Str) :: ("_law_draws" : Str) :: ("_law_reader" : Str) :: ("_law_next" : Str) :: ("_law_cache" : Str) :: ("_law_predictor" : Str) :: ("_law_before" : Str) :: ("_law_visits" : Str) :: ("_law_settings" : Str) :: ("_law_word" : Str) :: ("_law_regions" : Str) :: ("_law_span" : Str) :: ("_law_register" : Str) :: ("_law_op" : Str) :: ("_law_row" : Str) :: ("_law_code" : Str) :: ("_law_contents" : Str) :: ("_law_end" : Str) :: ("_law_last" : Str) :: ("_law_pointed" : Str) :: ("_law_moment" : Str) :: ("_law_victim" : Str) :: ("_law_touch" : Str) :: ("_law_drop" : Str) :: ("_law_past" : Str) :: ("_law_place" : Str) :: ("_law_guess" : Str) :: ("_law_apply" : Str) :: ("_law_memory" : Str) :: ("_law_held" : Str) :: ("_law_shelf" : Str) :: ("_law_machine" : Str) :: ("_law_visited" : Str) :: ("_law_fetched" : Str) :: ("_law_read" : Str) :: ("_law_digits" : Str) :: ("_law_cost" : Str) :: ("_law_put" : Str) :: ("_law_data" : Str) :: ("_law_work" : Str) :: ("_law_way" : Str) :: ("_law_wrong" : Str) :: ("_law_branched" : Str) :: ("_law_run" : Str) :: ("_law_kinds" : Str) :: []) w) run_false run_true w
abbrev spL (K : PySem.W.Frag) : Sp := fun vs H Q _ => ∃ (a : Addr) (ns : List Int), vs = [.ref a] ∧ SqL K H a (ns.map V.int) ∧ ns.length ≤ 63 ∧ ∀ H', Q (.bl true) H'
abbrev FactsT : Prop := ∀ {P : Program} {w : World} {K : PySem.W.Frag} {h : Heap} {mg : Str → Option Value} {f : Addr} (X : K.In h) (G : h.Ns mainGlobals mg) (hfa : mg ("law" : Str) = some (.ref f)) (c : He.SaysX fa fn (tabs cs) [] (exB cs) w h K), ∃ fd : FuncData, (∀ (s : Shared) (v : Value), BindsTo s fd ⟨[v], []⟩ [("script", v)]) ∧ ∀ base : Heap, K.In base → base.Ns mainGlobals mg → FnOk P w K mg base CX0 11 f fd ["script"] (spL K)
section
open PySem PySem.W PySem.Calls PyProof.Rows
theorem fin (F : FactsT) : PySem.Challenge.rw_sameclock_k85_whole_the_machine_by_its_r.Holds := by
  w_on; o_law
  refine HandSHeadRun.head_any (r := OpenLaw.row PySem.Challenge.rw_sameclock_k85_whole_the_machine_by_its_r) (q := PySem.W.view (OpenLaw.row PySem.Challenge.rw_sameclock_k85_whole_the_machine_by_its_r).prog [64]) (H := K85.hk) (ob := K85.ob) (M := 8000) (loose := (("Cache" : Str) :: ("WORD" : Str) :: ("shifted" : Str) :: ("divided" : Str) :: ("apply" : Str) :: ("PARTS" : Str) :: ("reads" : Str) :: ("Predictor" : Str) :: ("digits_of" : Str) :: ("cost_of" : Str) :: ("words_of" : Str) :: ("State" : Str) :: ("Machine" : Str) :: ("run_machine" : Str) :: ("_law_draws" : Str) :: ("_law_reader" : Str) :: ("_law_next" : Str) :: ("_law_cache" : Str) :: ("_law_predictor" : Str) :: ("_law_before" : Str) :: ("_law_visits" : Str) :: ("_law_settings" : Str) :: ("_law_word" : Str) :: ("_law_regions" : Str) :: ("_law_span" : Str) :: ("_law_register" : Str) :: ("_law_op" : Str) :: ("_law_row" : Str) :: ("_law_code" : Str) :: ("_law_contents" : Str) :: ("_law_end" : Str) :: ("_law_last" : Str) :: ("_law_pointed" : Str) :: ("_law_moment" : Str) :: ("_law_victim" : Str) :: ("_law_touch" : Str) :: ("_law_drop" : Str) :: ("_law_past" : Str) :: ("_law_place" : Str) :: ("_law_guess" : Str) :: ("_law_apply" : Str) :: ("_law_memory" : Str) :: ("_law_held" : Str) :: ("_law_shelf" : Str) :: ("_law_machine" : Str) :: ("_law_visited" : Str) :: ("_law_fetched" : Str) :: ("_law_read" : Str) :: ("_law_digits" : Str) :: ("_law_cost" : Str) :: ("_law_put" : Str) :: ("_law_data" : Str) :: ("_law_work" : Str) :: ("_law_way" : Str) :: ("_law_wrong" : Str) :: ("_law_branched" : Str) :: ("_law_run" : Str) :: ("_law_kinds" : Str) :: [])) (d := HandSHeadRun.topDef (OpenLaw.row PySem.Challenge.rw_sameclock_k85_whole_the_machine_by_its_r).prog 64) (kwd := []) K85.ob_eq
    (by kernel_rfl) (fun s => by kernel_rfl) K85.run (by kernel_rfl) (by kernel_rfl) (by kernel_rfl) (by rfl) (by first | assumption | decide +kernel) (by decide +kernel) ⟨rfl, rfl, rfl, rfl, rfl, by decide +kernel⟩ ?hw ?hc
  case hw => w_witness2
  case hc =>
    refine L2.walk_ofE (l := PySem.Challenge.rw_sameclock_k85_whole_the_machine_by_its_r) (n := 63) (k := 11) (x := "script") (CX := L2.CX0) rfl (by decide) (by kernel_rfl) ⟨rfl, by decide, by decide⟩ ?F (fun _ _ _ _ z => z)
    intro w mg fa h Y G hmg0
    obtain ⟨K, KX, c⟩ := Y
    have hmg : mg ("law" : PySem.Str) = some (.ref fa) := by
      have e : (HandSHeadRun.topDef (OpenLaw.row PySem.Challenge.rw_sameclock_k85_whole_the_machine_by_its_r).prog 64).name = ("law" : PySem.Str) := by kernel_rfl
      rw [← e]
      exact hmg0
    obtain ⟨fd, hb, hF⟩ := F (P := (PySem.Challenge.rw_sameclock_k85_whole_the_machine_by_its_r).prog) (w := w) KX G hmg c
    exact ⟨K, fd, K85.spL K, KX, hb, fun H a ns hl _ hS => ⟨a, ns, rfl, hS, hl, fun _ => rfl⟩, hF⟩
end

def sp_law_draws (K : PySem.W.Frag) : Sp := fun vs H Q _ => ∃ (a : Addr) (ns : List Int), vs = [.ref a] ∧ SqL K H a (ns.map V.int) ∧ ns.length ≤ 63 ∧
  ∀ H' p (row : List Int), Same H H' → H p = none → H' p = some (.lst (row.map V.int)) → (∀ x ∈ row, 0 ≤ x ∧ x < 1000) → row.length ≤ 1260 → Q (.ref p) H'
structure DrI (H : Hp) (a p : Addr) (b : Nat) (cell : Option V → Prop) (σ : L2.St) (H' : Hp) : Prop where
  ex : ∃ (row : List Int) (k c t m : Option V), σ = [some (.ref a), some (.ref p), k, c, t, m] ∧ cell c ∧ Same H H' ∧ Has H' [(p, .lst (row.map V.int))] ∧ (∀ x ∈ row, 0 ≤ x ∧ x < 1000) ∧ row.length ≤ b
theorem app_map {row : List Int} {x : Int} : row.map V.int ++ [V.int x] = (row ++ [x]).map V.int := by simp
theorem sc_law_draws : FnScope ["script", "draws", "k", "cell", "turn", "mixed"] ["script"] (defScope (topS 20)) := ⟨rfl, rfl, rfl, by decide +kernel, rfl, by decide +kernel, by decide +kernel⟩
theorem ok_law_draws (T : Txt fa fn K mg (CsOk cs K w)) : Dn P w K mg base CX0 1 "_law_draws" ["script"] (sp_law_draws K) := by
  refine mk_dn (d := dOf "_law_draws" 20) T 8 8 rfl rfl rfl rfl rfl sc_law_draws (by walk_at "len") (fun _ _ _ _ _ _ us hl => match us, hl with | [_], _ => rfl) (fun cdv A outer s H vs Q E hr h => ⟨_, (pss_cons (ps_set (i := 1) sc_law_draws.nd rfl (.inl rfl) (pe_lst pa_nil))
      (pss_cons (ps_for PassesOwn.never rfl (pi_r1 rfl (T.free 131 rfl) (pa_cons (pe_callB (c_min2 rfl) rfl (T.free 130 rfl) (by decide +kernel) (pa_cons (pe_callB (c_len (K := K) rfl) rfl (T.free 127 rfl) (by decide +kernel) (pa_cons (pv 0) pa_nil)) (pa_cons pe_int pa_nil))) pa_nil)) (pg_name (i := 2) sc_law_draws.nd rfl (.inl rfl)) (pss_cons (ps_set (i := 3) sc_law_draws.nd rfl (.inl rfl) (pe_callB c_abs rfl (T.free 121 rfl) (by decide +kernel) (pa_cons (pe_ixU (K := K) rfl (hu_of hr) (pv 0) (pv 2)) pa_nil)))
      (pss_one (ps_if (pt_cmpR o_ge (pv 3) (pe_op o_pow pe_int pe_int) (nomark _)) (pss_one (ps_for PassesOwn.never rfl (pi_r1 rfl (T.free 131 rfl) (pa_cons pe_int pa_nil)) (pg_name (i := 4) sc_law_draws.nd rfl (.inl rfl)) (pss_one (ps_if (pt_cmpR o_gt (pv 3) pe_int (nomark _)) (pss_cons (ps_expr (pe_bm PySem.F.plainAttrs_list PySem.F.slot_list_append PySem.F.type_list_append mt_append (pv 1) (pa_cons (pe_op o_mod (pv 3) pe_int) pa_nil)))
      (pss_one (ps_set (i := 3) sc_law_draws.nd rfl (.inl rfl) (pe_op o_fdiv (pv 3) pe_int)))) pss_nil)))) (pss_cons (ps_set (i := 5) sc_law_draws.nd rfl (.inl rfl) (pe_op o_mod (pe_callTy c_int rfl (T.free 125 rfl) (by decide +kernel) (pa_cons (pe_op (op_addU (K := K) rfl) (pe_op (op_addU (K := K) rfl) (pe_op op_mulU (pe_ixU (K := K) rfl (hu_of hr) (pv 0) (pv 2)) pe_int) (pe_op op_mulU (pv 2) pe_int)) pe_int) pa_nil)) pe_int))
      (pss_one (ps_for PassesOwn.never rfl (pi_r1 rfl (T.free 131 rfl) (pa_cons pe_int pa_nil)) (pg_name (i := 4) sc_law_draws.nd rfl (.inl rfl)) (pss_cons (ps_set (i := 5) sc_law_draws.nd rfl (.inl rfl) (pe_op o_mod (pe_callTy c_int rfl (T.free 125 rfl) (by decide +kernel) (pa_cons (pe_op (op_addU (K := K) rfl) (pe_op (op_addU (K := K) rfl) (pe_op op_mulU (pv 5) (pv 5)) (pe_op op_mulU (pv 4) pe_int)) pe_int) pa_nil)) pe_int))
      (pss_one (ps_expr (pe_bm PySem.F.plainAttrs_list PySem.F.slot_list_append PySem.F.type_list_append mt_append (pv 1) (pa_cons (pe_op o_mod (pv 5) pe_int) pa_nil))))))))))))
      (pss_one (ps_ret (pv 1))))), ?_⟩)
  obtain ⟨a, ns, rfl, hS, hlen, hQ⟩ := h
  walk_at "go"
  refine ⟨by decide, fun p hp => ?_⟩
  walk_at "go"
  have hS1 : SqL K (upd H p (.lst [])) a (ns.map V.int) := (Same.new hp).seq hS
  refine g_lenL hS1 ?_
  walk_at "go"
  have hn : (ns.map V.int).length = ns.length := List.length_map _
  rw [hn]
  have hj : (if (63 : Int) < (ns.length : Int) then (63 : Int) else (ns.length : Int)).toNat = ns.length := by split <;> omega
  rw [hj]
  have M0 : Has (upd H p (.lst [])) [(p, .lst (([] : List Int).map V.int))] := Has.one upd_same
  refine f_range (fun i σ H' => ∃ (row : List Int) (k c t m : Option V), σ = [some (.ref a), some (.ref p), k, c, t, m] ∧ Same H H' ∧ Has H' [(p, .lst (row.map V.int))] ∧ (∀ x ∈ row, 0 ≤ x ∧ x < 1000) ∧ row.length ≤ 20 * i)
    ⟨[], _, _, _, _, rfl, Same.new hp, M0, (fun _ h => nomatch h), Nat.le_refl _⟩ ?_ ?_
  · rintro i σ H' hi ⟨row, k, c, t, m, rfl, hs, M, hr1, hr2⟩
    walk_at "go"
    have hS2 := hs.seq hS
    obtain ⟨z, hz⟩ : ∃ z, ns[i]? = some z := ⟨_, List.getElem?_eq_getElem hi⟩
    have hz' : (ns.map V.int)[i]? = some (V.int z) := by rw [List.getElem?_map, hz]; rfl
    refine g_ixL hS2 (n := i) (by omega) hz' ?_
    walk_at "go"
    have hb : 0 ≤ (if z < 0 then -z else z) := by split <;> omega
    generalize (if z < 0 then -z else z) = cell at hb
    refine g_if (fun hc => ?_) (fun hc => ?_)
    · walk_at "go"
      refine f_range (fun j σ H' => ∃ (row : List Int) (cell : Int) (k t m : Option V), σ = [some (.ref a), some (.ref p), k, some (.int cell), t, m] ∧ 0 ≤ cell ∧ Same H H' ∧ Has H' [(p, .lst (row.map V.int))] ∧ (∀ x ∈ row, 0 ≤ x ∧ x < 1000) ∧ row.length ≤ 20 * i + j)
        ⟨row, cell, _, _, _, rfl, hb, hs, M, hr1, by omega⟩ ?_ ?_
      · rintro j σ H2 hj ⟨row, cell, k, t, m, rfl, hb, hs, M, hr1, hr2⟩
        walk_at "go"
        refine g_if (fun h0 => ?_) (fun h0 => ?_)
        · walk_at "go"
          refine g_append M 0 rfl (szl (by rw [List.length_map]; have hj' : j < 20 := hj; omega)) (fun M1 => ?_)
          walk_at "go"
          refine ⟨row ++ [cell % 1000], cell / 1000, _, _, _, rfl, by omega, Same.mut hs hp, by rw [← app_map]; exact M1, ?_, by rw [List.length_append]; simp; omega⟩
          intro x hx
          rcases List.mem_append.mp hx with hx | hx
          · exact hr1 x hx
          · rw [List.mem_singleton.mp hx]
            omega
        · walk_at "go"
          exact ⟨row, cell, _, _, _, rfl, hb, hs, M, hr1, by omega⟩
      · rintro σ H2 ⟨row, cell, k, t, m, rfl, hb, hs, M, hr1, hr2⟩
        walk_at "go"
        exact ⟨row, _, _, _, _, rfl, hs, M, hr1, by have h20 : (20 : Int).toNat = 20 := rfl; omega⟩
    · walk_at "go"
      have hz2 := hs.seq hS
      refine g_ixL hz2 (n := i) (by omega) hz' ?_
      walk_at "go"
      refine f_range (fun j σ H' => ∃ (row : List Int) (mixed : Int) (k c t : Option V), σ = [some (.ref a), some (.ref p), k, c, t, some (.int mixed)] ∧ 0 ≤ mixed ∧ mixed < 2147483647 ∧ Same H H' ∧ Has H' [(p, .lst (row.map V.int))] ∧ (∀ x ∈ row, 0 ≤ x ∧ x < 1000) ∧ row.length ≤ 20 * i + j)
        ⟨row, _, _, _, _, rfl, Int.emod_nonneg _ (by decide), Int.emod_lt_of_pos _ (by decide), hs, M, hr1, by omega⟩ ?_ ?_
      · rintro j σ H2 hj ⟨row, mixed, k, c, t, rfl, hm0, hm1, hs, M, hr1, hr2⟩
        walk_at "go"
        have hj' : j < 3 := hj
        refine g_append M 0 rfl (szl (by rw [List.length_map]; omega)) (fun M1 => ?_)
        walk_at "go"
        refine ⟨row ++ [_], _, _, _, _, rfl, Int.emod_nonneg _ (by decide), Int.lt_of_lt_of_le (Int.emod_lt_of_pos _ (by decide)) (by decide), Same.mut hs hp, by rw [← app_map]; exact M1, ?_, by rw [List.length_append]; simp; omega⟩
        intro x hx
        rcases List.mem_append.mp hx with hx | hx
        · exact hr1 x hx
        · rw [List.mem_singleton.mp hx]
          exact ⟨Int.emod_nonneg _ (by decide), Int.emod_lt_of_pos _ (by decide)⟩
      · rintro σ H2 ⟨row, mixed, k, c, t, rfl, hm0, hm1, hs, M, hr1, hr2⟩
        walk_at "go"
        exact ⟨row, _, _, _, _, rfl, hs, M, hr1, by have h20 : (3 : Int).toNat = 3 := rfl; omega⟩
  · rintro σ H' ⟨row, k, c, t, m, rfl, hs, M, hr1, hr2⟩
    walk_at "go"
    exact hQ H' p row hs hp (M.get 0 rfl) hr1 (by omega)

def sp_law_reader (K : PySem.W.Frag) : Sp := fun vs H Q _ => ∃ (a : Addr) (ns : List Int), vs = [.ref a] ∧ SqL K H a (ns.map V.int) ∧ ns.length ≤ 63 ∧
  ∀ H' d r (row : List Int) (sd : Int), Same H H' → H d = none → H r = none → Has H' [(d, .dK (drK r 0 sd)), (r, .lst (row.map V.int))] → RowOk row sd → Q (.ref d) H'
theorem sc_law_reader : FnScope ["script", "row", "seed"] ["script"] (defScope (topS 21)) := ⟨rfl, rfl, rfl, by decide +kernel, rfl, by decide +kernel, by decide +kernel⟩
theorem ok_law_reader (T : Txt fa fn K mg (CsOk cs K w)) : Dn P w K mg base CX0 2 "_law_reader" ["script"] (sp_law_reader K) := by
  refine mk_dn (d := dOf "_law_reader" 21) T 9 9 rfl rfl rfl rfl rfl sc_law_reader (by walk_at "len") (fun _ _ _ _ _ _ us hl => match us, hl with | [_], _ => rfl) (fun cdv A outer s H vs Q E hr h => ⟨_, (pss_cons (ps_set (i := 1) sc_law_reader.nd rfl (.inl rfl) (pe_callD (K := K) rfl (ok_law_draws T) (hr.mono (by decide)) rfl pass0 (pa_cons (pv 0) pa_nil)))
      (pss_cons (ps_set (i := 2) sc_law_reader.nd rfl (.inl rfl) pe_int)
      (pss_cons (ps_if (pt_cmpR o_gt (pe_callB (c_len (K := K) rfl) rfl (T.free 127 rfl) (by decide +kernel) (pa_cons (pv 0) pa_nil)) pe_int (nomark _)) (pss_one (ps_set (i := 2) sc_law_reader.nd rfl (.inl rfl) (pe_op o_mod (pe_callB c_abs rfl (T.free 121 rfl) (by decide +kernel) (pa_cons (pe_ixU (K := K) rfl (hu_of hr) (pv 0) (pe_un un_neg pe_int)) pa_nil)) pe_int))) pss_nil)
      (pss_one (ps_ret (pe_disp (pps_cons pe_str (pv 1) (pps_cons pe_str pe_int (pps_cons pe_str (pv 2) pps_nil))) (by rfl) (by rfl) (fun z => by cases z) (by decide))))))), ?_⟩)
  obtain ⟨a, ns, rfl, hS, hlen, hQ⟩ := h
  walk_at "go"
  refine ⟨a, ns, rfl, hS, hlen, fun H1 p row s1 hp hr hr1 hr2 => ?_⟩
  walk_at "go"
  have hS1 := s1.seq hS
  refine g_lenL hS1 ?_
  walk_at "go"
  have fin : ∀ (sd : Int), 0 ≤ sd → sd < 1000003 → ∀ d, H1 d = none → upd H1 d (.dK []) d = some (.dK []) ∧ ∃ kvs : List (Key × V), [(V.str "row", V.ref p), (V.str "at", V.int 0), (V.str "seed", V.int sd)] = kvs.map (fun kv => (kV kv.1, kv.2)) ∧ kvs.length ≤ 15 ∧ Q (.ref d) (upd (upd H1 d (.dK [])) d (.dK (mergeK [] kvs))) := by
    intro sd h0 h1 d hd
    refine ⟨upd_same, [(.inr "row", .ref p), (.inr "at", .int 0), (.inr "seed", .int sd)], rfl, (by show 3 ≤ 15; decide), ?_⟩
    rw [dr_made, upd_upd]
    refine hQ _ d p row sd (Same.new' s1 hd) (s1.free hd) hp ?_ ⟨hr1, hr2, h0, h1⟩
    have M : Has (upd H1 d (.dK (drK p 0 sd))) ([(p, .lst (row.map V.int))] ++ [(d, .dK (drK p 0 sd))]) := (Has.one hr).new hd
    exact M.perm (List.perm_append_comm (l₁ := [_]) (l₂ := [_]))
  refine g_if (fun h0 => ?_) (fun h0 => ?_)
  · walk_at "go"
    have hn : (ns.map V.int).length = ns.length := List.length_map _
    rw [hn] at h0
    obtain ⟨z, hz⟩ : ∃ z, ns[ns.length - 1]? = some z := ⟨_, List.getElem?_eq_getElem (by omega)⟩
    have hz' : (ns.map V.int)[ns.length - 1]? = some (V.int z) := by rw [List.getElem?_map, hz]; rfl
    refine g_ixL' hS1 (v := .int z) ?_ ?_
    · show (ixN _ (-1)).bind _ = _
      unfold ixN
      rw [if_neg (by decide), if_pos (by omega), hn]
      have e : ((-1 : Int) + (ns.length : Int)).toNat = ns.length - 1 := by omega
      show (ns.map V.int)[((-1 : Int) + (ns.length : Int)).toNat]? = _
      rw [e]
      exact hz'
    · walk_at "go"
      intro d hd
      walk_at "go"
      exact fin _ (Int.emod_nonneg _ (by decide)) (Int.emod_lt_of_pos _ (by decide)) d hd
  · walk_at "go"
    intro d hd
    walk_at "go"
    exact fin _ (by decide) (by decide) d hd
def sp_law_next (K : PySem.W.Frag) : Sp := fun vs H Q _ => ∃ (d r : Addr) (n sd m : Int) (row : List Int), vs = [.ref d, .int m] ∧ H d = some (.dK (drK r n sd)) ∧ H r = some (.lst (row.map V.int)) ∧ RowOk row sd ∧ 0 ≤ n ∧ 0 < m ∧
  ∀ H' v, Keep [d] H H' → H' d = some (.dK (drK r (n + 1) sd)) → 0 ≤ v → v < m → Q (.int v) H'
theorem sc_law_next : FnScope ["draws", "many", "at", "mixed"] ["draws", "many"] (defScope (topS 22)) := ⟨rfl, rfl, rfl, by decide +kernel, rfl, by decide +kernel, by decide +kernel⟩
theorem ok_law_next (T : Txt fa fn K mg (CsOk cs K w)) : Dn P w K mg base CX0 1 "_law_next" ["draws", "many"] (sp_law_next K) := by
  refine mk_dn (d := dOf "_law_next" 22) T 10 10 rfl rfl rfl rfl rfl sc_law_next (by walk_at "len") (fun _ _ _ _ _ _ us hl => match us, hl with | [_, _], _ => rfl) (fun cdv A outer s H vs Q E hr h => ⟨_, (pss_cons (ps_set (i := 2) sc_law_next.nd rfl (.inl rfl) (pe_ixU (K := K) rfl (hu_of hr) (pv 0) pe_str))
      (pss_cons (ps_dput (hu_of hr) (pv 0) pe_str (pe_op (op_addU (K := K) rfl) (pv 2) pe_int) rfl)
      (pss_cons (ps_if (pt_cmpR o_lt (pv 2) (pe_callB (c_len (K := K) rfl) rfl (T.free 127 rfl) (by decide +kernel) (pa_cons (pe_ixU (K := K) rfl (hu_of hr) (pv 0) pe_str) pa_nil)) (nomark _)) (pss_one (ps_ret (pe_op o_mod (pe_callTy c_int rfl (T.free 125 rfl) (by decide +kernel) (pa_cons (pe_ixU (K := K) rfl (hu_of hr) (pe_ixU (K := K) rfl (hu_of hr) (pv 0) pe_str) (pv 2)) pa_nil)) (pv 1)))) pss_nil)
      (pss_cons (ps_set (i := 3) sc_law_next.nd rfl (.inl rfl) (pe_op o_mod (pe_callTy c_int rfl (T.free 125 rfl) (by decide +kernel) (pa_cons (pe_op op_mulU (pe_op (op_addU (K := K) rfl) (pe_op (op_addU (K := K) rfl) (pe_ixU (K := K) rfl (hu_of hr) (pv 0) pe_str) (pe_op op_mulU pe_int (pv 2))) pe_int) pe_int) pa_nil)) pe_int))
      (pss_one (ps_ret (pe_op o_mod (pe_op o_fdiv (pe_op o_mod (pe_callTy c_int rfl (T.free 125 rfl) (by decide +kernel) (pa_cons (pe_op (op_addU (K := K) rfl) (pe_op op_mulU (pv 3) (pv 3)) (pv 2)) pa_nil)) pe_int) pe_int) (pv 1)))))))), ?_⟩)
  obtain ⟨d, r, n, sd, m, row, rfl, hd, hr, ok, hn, hm, hQ⟩ := h
  walk_at "go"
  refine g_ixD (dg_at hd) ?_
  walk_at "go"
  refine ⟨d, _, rfl, dp_at (n + 1) hd, ?_⟩
  have ne : r ≠ d := ne_of hr hd (by intro z; cases z)
  have hd1 : upd H d (.dK (drK r (n + 1) sd)) d = some (.dK (drK r (n + 1) sd)) := upd_same
  have hr1 : upd H d (.dK (drK r (n + 1) sd)) r = some (.lst (row.map V.int)) := by rw [upd_ne ne]; exact hr
  have hk : Keep [d] H (upd H d (.dK (drK r (n + 1) sd))) := Keep.set (List.mem_singleton.mpr rfl)
  walk_at "go"
  refine g_ixD (dg_row hd1) ?_
  walk_at "go"
  refine g_if (fun h0 => ?_) (fun h0 => ?_)
  · walk_at "go"
    refine g_ixD (dg_row hd1) ?_
    walk_at "go"
    obtain ⟨z, hz⟩ : ∃ z, row[n.toNat]? = some z := ⟨_, List.getElem?_eq_getElem (by omega)⟩
    refine g_ixL (SqL.of hr1) (n := n.toNat) (by omega) (by rw [List.getElem?_map, hz]; rfl) ?_
    walk_at "go"
    exact hQ _ _ hk hd1 (Int.emod_nonneg _ (by omega)) (Int.emod_lt_of_pos _ hm)
  · walk_at "go"
    refine g_ixD (dg_seed hd1) ?_
    walk_at "go"
    exact hQ _ _ hk hd1 (Int.emod_nonneg _ (by omega)) (Int.emod_lt_of_pos _ hm)
theorem use_next {H : Hp} {d r : Addr} {n sd m : Int} {row : List Int} {Q : VK} {E : XK} (hd : H d = some (.dK (drK r n sd))) (hr : H r = some (.lst (row.map V.int))) (ok : RowOk row sd) (hn : 0 ≤ n) (hm : 0 < m)
    (k : ∀ H' v, Keep [d] H H' → H' d = some (.dK (drK r (n + 1) sd)) → H' r = some (.lst (row.map V.int)) → 0 ≤ v → v < m → Q (.int v) H') : sp_law_next K ([.ref d, .int m] ++ []) H Q E :=
  ⟨d, r, n, sd, m, row, rfl, hd, hr, ok, hn, hm, fun H' v kp h1 h2 h3 => k H' v kp h1 (kp r _ hr (by
    have ne : r ≠ d := ne_of hr hd (by intro z; cases z)
    simpa using ne)) h2 h3⟩
theorem use_nextM {H : Hp} {L : List (Addr × HO)} {d r : Addr} {n sd m : Int} {row : List Int} {Q : VK} {E : XK} (M : Has H ((d, .dK (drK r n sd)) :: (r, .lst (row.map V.int)) :: L)) (ok : RowOk row sd) (hn : 0 ≤ n) (hm : 0 < m)
    (k : ∀ H' v, Keep [d] H H' → Has H' ((d, .dK (drK r (n + 1) sd)) :: (r, .lst (row.map V.int)) :: L) → 0 ≤ v → v < m → Q (.int v) H') : sp_law_next K ([.ref d, .int m] ++ []) H Q E :=
  ⟨d, r, n, sd, m, row, rfl, M.get 0 rfl, M.get 1 rfl, ok, hn, hm, fun H' v kp h1 h2 h3 => k H' v kp (M.call1 kp 0 rfl h1) h2 h3⟩

/-! ### draws, bundled -/
/-- the draws dict stands at d, beside the objects L -/
structure DrL (H : Hp) (d : Addr) (L : List (Addr × HO)) : Prop where
  ex : ∃ (r : Addr) (n sd : Int) (row : List Int), Has H ((d, .dK (drK r n sd)) :: (r, .lst (row.map V.int)) :: L) ∧ RowOk row sd ∧ 0 ≤ n
section
variable {H H' : Hp} {d p a : Addr} {L L' : List (Addr × HO)} {o o' : HO} {Q : VK} {E : XK} {m : Int} {v : V} {e : PyData} {xs : List V} {ds : List PyData} {σ : L2.St} {j : Nat}
theorem DrL.has (D : DrL H d L) : Has H L := by
  obtain ⟨r, n, sd, row, M, _⟩ := D.ex
  exact M.sub ((List.sublist_cons_self _ _).trans (List.sublist_cons_self _ _))
theorem DrL.get (D : DrL H d L) (i : Nat) (h : L[i]? = some (a, o)) : H a = some o := D.has.get i h
theorem DrL.new (D : DrL H d L) (hp : H p = none) : DrL (upd H p o) d (L ++ [(p, o)]) := by
  obtain ⟨r, n, sd, row, M, ok, hn⟩ := D.ex
  exact ⟨r, n, sd, row, M.new hp, ok, hn⟩
theorem DrL.same (D : DrL H d L) (k : Same H H') : DrL H' d L := by
  obtain ⟨r, n, sd, row, M, ok, hn⟩ := D.ex
  exact ⟨r, n, sd, row, M.keep k, ok, hn⟩
theorem DrL.sub (D : DrL H d L) (h : L'.Sublist L) : DrL H d L' := by
  obtain ⟨r, n, sd, row, M, ok, hn⟩ := D.ex
  exact ⟨r, n, sd, row, M.sub ((h.cons₂ _).cons₂ _), ok, hn⟩
theorem DrL.set (D : DrL H d L) (i : Nat) (h : L[i]? = some (a, o)) : DrL (upd H a o') d (L.set i (a, o')) := by
  obtain ⟨r, n, sd, row, M, ok, hn⟩ := D.ex
  exact ⟨r, n, sd, row, M.set (i + 2) h, ok, hn⟩
theorem DrL.noTup (D : DrL H d L) : NoTup H [d] := by
  obtain ⟨r, n, sd, row, M, ok, hn⟩ := D.ex
  exact NoTup.one (M.get 0 rfl) (fun xs e => nomatch e)
theorem DrL.im (D : DrL H d L) (k : Keep [d] H H') (h : Im H v e) : Im H' v e := h.keep k D.noTup
theorem DrL.ims (D : DrL H d L) (k : Keep [d] H H') (h : Ims H xs ds) : Ims H' xs ds := h.keep k D.noTup
theorem DrL.ne (D : DrL H d L) (hp : H p = none) : p ≠ d := by
  obtain ⟨r, n, sd, row, M, ok, hn⟩ := D.ex
  rintro rfl
  have := M.get 0 rfl
  rw [hp] at this
  cases this
theorem DrL.at_ (D : DrL H d L) (k : Keep [d] H H') (h : H a = some o) (n : ∀ kvs, o ≠ .dK kvs) : H' a = some o := by
  obtain ⟨r, q, sd, row, M, ok, hn⟩ := D.ex
  refine k a o h fun z => ?_
  rw [List.mem_singleton.mp z, M.get 0 rfl] at h
  exact n _ (Option.some.inj h).symm
theorem use_nx (D : DrL H d L) (hm : 0 < m) (k : ∀ H' v, Keep [d] H H' → DrL H' d L → 0 ≤ v → v < m → Q (.int v) H') : sp_law_next K ([.ref d, .int m] ++ []) H Q E := by
  obtain ⟨r, n, sd, row, M, ok, hn⟩ := D.ex
  exact use_nextM M ok hn hm fun H' v kp M' h0 h1 => k H' v kp ⟨r, _, sd, row, M', ok, by omega⟩ h0 h1
/-- one of a written list, by a draw -/
theorem use_pk (D : DrL H d L) (hj : σ[j]? = some (some (.ref d))) (hm : (xs.length : Int) = m) (h0 : 0 < xs.length) (hs : xs.length ≤ 1000) (k : ∀ H' v, Keep [d] H H' → DrL H' d L → v ∈ xs → Q v H') :
    rLstN xs H fun x H1 => tCall (sp_law_next K) [] E (tCons (tVar j) (tCons (tC (.int m)) tNil)) σ H1 fun y H2 => rIxU K x y H2 Q := by
  refine ⟨szle (by omega), fun p hp => ?_⟩
  refine g_call (g_consA (g_var hj (g_consA (g_c (g_nilA ?_)))))
  have D1 := D.same (Same.new (o := .lst xs) hp)
  refine use_nx D1 (by omega) fun H2 v k2 D2 h1 h2 => ?_
  have hv : v.toNat < xs.length := by omega
  have hx : xs[v.toNat]? = some xs[v.toNat] := List.getElem?_eq_getElem hv
  exact g_ixL (SqL.of (D1.at_ k2 upd_same (fun _ e => nomatch e))) (n := v.toNat) (by omega) hx (k H2 _ ((Keep.new hp).trans k2) D2 (List.getElem_mem hv))
theorem gD_append (D : DrL H d L) (n : Nat) (h : L[n]? = some (a, .lst xs)) (hl : xs.length < 100000) (k : DrL (upd H a (.lst (xs ++ [v]))) d (L.set n (a, .lst (xs ++ [v]))) → Q .non (upd H a (.lst (xs ++ [v])))) : rAppend (.ref a) [v] H Q :=
  ⟨a, xs, v, rfl, rfl, D.get n h, szl (by omega), k (D.set n h)⟩
theorem use_readerD {a : Addr} {ns : List Int} (hS : SqL K H a (ns.map V.int)) (hl : ns.length ≤ 63) (k : ∀ H' d, Same H H' → H d = none → DrL H' d [] → Q (.ref d) H') : sp_law_reader K ([.ref a] ++ []) H Q E :=
  ⟨a, ns, rfl, hS, hl, fun H' d r row sd sm h1 h2 M ok => k H' d sm h1 ⟨r, 0, sd, row, M, ok, by decide⟩⟩
end

/-! ### comprehensions that make data -/
section
variable {K : PySem.W.Frag} {σ : L2.St} {H : Hp} {g : TG} {te : TE} {vs : List Nat} {Q : VK} {a d : Addr} {xs : List V} {ds : List PyData} {n k : Nat} {lo : Int}
theorem ims_snoc {H H2 : Hp} {us : List V} {es : List PyData} {v : V} {e : PyData} {D : Addr} {o : HO} (h : Ims H us es) (hv : Im H v e) (hD : H D = some (.lst us)) : Ims (upd H D o) (us ++ [v]) (es ++ [e]) :=
  (h.append (Ims.one hv)).keep (Keep.set (List.mem_singleton.mpr rfl)) (NoTup.one hD (fun _ e => nomatch e))
/-- over a tuple of data -/
theorem l_map {f : PyData → PyData} (ha : H a = some (.tup xs)) (hs : Ims H xs ds) (hl : ds.length ≤ 1000)
    (step : ∀ (i : Nat) (e : PyData) (y : V) (H' : Hp) (R : VK), ds[i]? = some e → Same H H' → Im H' y e → (∀ H2 v, Same H' H2 → Im H2 v (f e) → R v H2) → g y (wipe σ vs) H' fun σ2 H2 => wipe σ2 vs = wipe σ vs ∧ te σ2 H2 R)
    (hm : ∀ (y : V) (σ1 : L2.St) (H1 : Hp) (R R' : L2.St → Hp → Prop), (∀ σ2 H2, R σ2 H2 → R' σ2 H2) → g y σ1 H1 R → g y σ1 H1 R')
    (q : ∀ D H' us, Same H H' → H' D = some (.lst us) → Ims H' us (ds.map f) → Q (.ref D) H') : LcW g tYes te vs σ Q (Itt K a) H := by
  have hlen := hs.length
  refine l_tup (xs := xs) (fun D i H' => ∃ us, H' D = some (.lst us) ∧ Ims H' us ((ds.take i).map f) ∧ Same H H') (fun D hD => ⟨[], upd_same, .nil, Same.new hD⟩) ?_ ?_ ?_
  · rintro D hD i H' hi ⟨us, hD', im, sm⟩
    exact SqT.of (sm _ _ ha)
  · rintro D hD i y H' hi ⟨us, hD', im, sm⟩
    obtain ⟨hlt, _⟩ := List.getElem?_eq_some_iff.mp hi
    have hd : ds[i]? = some (ds[i]'(by omega)) := List.getElem?_eq_getElem _
    generalize ds[i]'(by omega) = dv at hd
    obtain ⟨y', hy', hiy⟩ := hs.get hd
    rw [hi] at hy'
    cases hy'
    have hul : us.length = (ds.take i).length := by rw [im.length, List.length_map]
    refine hm _ _ _ _ _ ?_ (step i dv y H' (fun v H3 => ∃ acc, H3 D = some (.lst acc) ∧ acc.length < sizeLine ∧ ∃ us, upd H3 D (.lst (acc ++ [v])) D = some (.lst us) ∧ Ims (upd H3 D (.lst (acc ++ [v]))) us ((ds.take (i + 1)).map f) ∧ Same H (upd H3 D (.lst (acc ++ [v])))) hd sm (hiy.same sm) (fun H2 v sm2 imv => ?_))
    · rintro σ2 H2 ⟨e1, e2⟩
      exact ⟨e1, g_yes (g_ifT e2)⟩
    · have hD2 := sm2 _ _ hD'
      refine ⟨us, hD2, szl (by rw [hul, List.length_take]; omega), _, upd_same, ?_, Same.mut (sm.trans sm2) hD⟩
      rw [map_take_succ hd]
      exact ims_snoc (H2 := H2) (im.same sm2) imv hD2
  · rintro D hD H' ⟨us, hD', im, sm⟩
    refine q D H' us sm hD' ?_
    rw [hlen, List.take_length] at im
    exact im
/-- over a range -/
theorem l_mapR {f : Nat → PyData} (hn : n ≤ 10000) (hwp : ∀ x : V, wipe ((wipe σ vs).set k (some x)) vs = wipe σ vs)
    (step : ∀ (i : Nat) (H' : Hp) (R : VK), i < n → Same H H' → (∀ H2 v, Same H' H2 → Im H2 v (f i) → R v H2) → te ((wipe σ vs).set k (some (.int (lo + i)))) H' R)
    (q : ∀ D H' us, Same H H' → H' D = some (.lst us) → Ims H' us ((List.range n).map f) → Q (.ref D) H') : LcW (gName k) tYes te vs σ Q (Itr lo n) H := by
  refine l_range (fun D i H' => ∃ us, H' D = some (.lst us) ∧ Ims H' us ((List.range i).map f) ∧ Same H H') (fun D hD => ⟨[], upd_same, .nil, Same.new hD⟩) ?_ ?_
  · rintro D hD i H' hi ⟨us, hD', im, sm⟩
    have hul : us.length = i := by rw [im.length, List.length_map, List.length_range]
    refine g_name (g_wipe (hwp _) (g_yes (g_ifT ?_)))
    refine step i H' _ hi sm (fun H2 v sm2 imv => ?_)
    have hD2 := sm2 _ _ hD'
    refine ⟨us, hD2, szl (by omega), _, upd_same, ?_, Same.mut (sm.trans sm2) hD⟩
    rw [List.range_succ, List.map_append]
    exact ims_snoc (H2 := H2) (im.same sm2) imv hD2
  · rintro D hD H' ⟨us, hD', im, sm⟩
    exact q D H' us sm hD' im
/-- over a range, with draws -/
theorem l_drawR {P : Nat → PyData → Prop} {L : List (Addr × HO)} (D0 : DrL H d L) (hn : n ≤ 10000) (hwp : ∀ x : V, wipe ((wipe σ vs).set k (some x)) vs = wipe σ vs)
    (step : ∀ (i : Nat) (H' : Hp) (R : VK) (L' : List (Addr × HO)), i < n → Keep [d] H H' → DrL H' d L' → (∀ H2 v e, Keep [d] H' H2 → DrL H2 d L' → Im H2 v e → P i e → R v H2) → te ((wipe σ vs).set k (some (.int (lo + i)))) H' R)
    (q : ∀ D H' us es, H D = none → Keep [d] H H' → DrL H' d (L ++ [(D, .lst us)]) → Ims H' us es → es.length = n → (∀ i e, es[i]? = some e → P i e) → Q (.ref D) H') : LcW (gName k) tYes te vs σ Q (Itr lo n) H := by
  refine l_range (fun D i H' => ∃ us es, DrL H' d (L ++ [(D, .lst us)]) ∧ Ims H' us es ∧ es.length = i ∧ (∀ j e, es[j]? = some e → P j e) ∧ Keep [d] H H') (fun D hD => ⟨[], [], D0.new hD, .nil, rfl, fun j e h => by simp at h, Keep.new hD⟩) ?_ ?_
  · rintro D hD i H' hi ⟨us, es, D1, im, hl, hp, kp⟩
    have hul : us.length = i := by rw [im.length, hl]
    refine g_name (g_wipe (hwp _) (g_yes (g_ifT ?_)))
    refine step i H' _ _ hi kp D1 (fun H2 v e k2 D2 imv pe => ?_)
    have hD2 : H2 D = some (.lst us) := D2.get L.length (by simp)
    have D3 := D2.set (o' := .lst (us ++ [v])) L.length (by simp : (L ++ [(D, HO.lst us)])[L.length]? = some (D, HO.lst us))
    refine ⟨us, hD2, szl (by omega), us ++ [v], es ++ [e], ?_, ims_snoc (H2 := H2) (D1.ims k2 im) imv hD2, by rw [List.length_append, hl]; rfl, fun j e' hj => ?_, (kp.trans k2).mut hD⟩
    · rw [show (L ++ [(D, HO.lst us)]).set L.length (D, HO.lst (us ++ [v])) = L ++ [(D, HO.lst (us ++ [v]))] by simp] at D3
      exact D3
    · by_cases hj2 : j < es.length
      · rw [List.getElem?_append_left hj2] at hj
        exact hp j e' hj
      · rw [List.getElem?_append_right (by omega)] at hj
        cases hk : j - es.length with
        | zero =>
          rw [hk] at hj
          simp only [List.getElem?_cons_zero, Option.some.injEq] at hj
          subst hj
          have : j = i := by omega
          rw [this]
          exact pe
        | succ m =>
          rw [hk] at hj
          simp at hj
  · rintro D hD H' ⟨us, es, D1, im, hl, hp, kp⟩
    exact q D H' us es hD kp D1 im hl hp
/-- over a tuple of data, with draws -/
theorem l_drawT {P : Nat → PyData → Prop} {L : List (Addr × HO)} (D0 : DrL H d L) (ha : H a = some (.tup xs)) (hs : Ims H xs ds) (hl : ds.length ≤ 1000)
    (step : ∀ (i : Nat) (e0 : PyData) (y : V) (H' : Hp) (R : VK) (L' : List (Addr × HO)), ds[i]? = some e0 → Keep [d] H H' → Im H' y e0 → DrL H' d L' → (∀ H2 v e, Keep [d] H' H2 → DrL H2 d L' → Im H2 v e → P i e → R v H2) → g y (wipe σ vs) H' fun σ2 H2 => wipe σ2 vs = wipe σ vs ∧ te σ2 H2 R)
    (hm : ∀ (y : V) (σ1 : L2.St) (H1 : Hp) (R R' : L2.St → Hp → Prop), (∀ σ2 H2, R σ2 H2 → R' σ2 H2) → g y σ1 H1 R → g y σ1 H1 R')
    (q : ∀ D H' us es, H D = none → Keep [d] H H' → DrL H' d (L ++ [(D, .lst us)]) → Ims H' us es → es.length = ds.length → (∀ i e, es[i]? = some e → P i e) → Q (.ref D) H') : LcW g tYes te vs σ Q (Itt K a) H := by
  have hlen := hs.length
  refine l_tup (xs := xs) (fun D i H' => ∃ us es, DrL H' d (L ++ [(D, .lst us)]) ∧ Ims H' us es ∧ es.length = i ∧ (∀ j e, es[j]? = some e → P j e) ∧ Keep [d] H H') (fun D hD => ⟨[], [], D0.new hD, .nil, rfl, fun j e h => by simp at h, Keep.new hD⟩) ?_ ?_ ?_
  · rintro D hD i H' hi ⟨us, es, D1, im, hl2, hp, kp⟩
    exact SqT.of (D0.at_ kp ha (fun _ e => nomatch e))
  · rintro D hD i y H' hi ⟨us, es, D1, im, hl2, hp, kp⟩
    obtain ⟨hlt, _⟩ := List.getElem?_eq_some_iff.mp hi
    have hd : ds[i]? = some (ds[i]'(by omega)) := List.getElem?_eq_getElem _
    generalize ds[i]'(by omega) = dv at hd
    obtain ⟨y', hy', hiy⟩ := hs.get hd
    rw [hi] at hy'
    cases hy'
    have hul : us.length = i := by rw [im.length, hl2]
    refine hm _ _ _ _ _ ?_ (step i dv y H' (fun v H3 => ∃ acc, H3 D = some (.lst acc) ∧ acc.length < sizeLine ∧ ∃ us es, DrL (upd H3 D (.lst (acc ++ [v]))) d (L ++ [(D, .lst us)]) ∧ Ims (upd H3 D (.lst (acc ++ [v]))) us es ∧ es.length = i + 1 ∧ (∀ j e, es[j]? = some e → P j e) ∧ Keep [d] H (upd H3 D (.lst (acc ++ [v])))) _ hd kp (D0.im kp hiy) D1 (fun H2 v e k2 D2 imv pe => ?_))
    · rintro σ2 H2 ⟨e1, e2⟩
      exact ⟨e1, g_yes (g_ifT e2)⟩
    · have hD2 : H2 D = some (.lst us) := D2.get L.length (by simp)
      have D3 := D2.set (o' := .lst (us ++ [v])) L.length (by simp : (L ++ [(D, HO.lst us)])[L.length]? = some (D, HO.lst us))
      refine ⟨us, hD2, szl (by omega), us ++ [v], es ++ [e], ?_, ims_snoc (H2 := H2) (D1.ims k2 im) imv hD2, by rw [List.length_append, hl2]; rfl, fun j e' hj => ?_, (kp.trans k2).mut hD⟩
      · rw [show (L ++ [(D, HO.lst us)]).set L.length (D, HO.lst (us ++ [v])) = L ++ [(D, HO.lst (us ++ [v]))] by simp] at D3
        exact D3
      · by_cases hj2 : j < es.length
        · rw [List.getElem?_append_left hj2] at hj
          exact hp j e' hj
        · rw [List.getElem?_append_right (by omega)] at hj
          cases hk : j - es.length with
          | zero =>
            rw [hk] at hj
            simp only [List.getElem?_cons_zero, Option.some.injEq] at hj
            subst hj
            have : j = i := by omega
            rw [this]
            exact pe
          | succ m =>
            rw [hk] at hj
            simp at hj
  · rintro D hD H' ⟨us, es, D1, im, hl2, hp, kp⟩
    exact q D H' us es hD kp D1 im (by omega) hp
end

/-! ### set(xs) of a list of ints (with doubles), sorted of it -/
section
open PyProof.Rows
variable {prog : Program} {w0 : World} {A0 : Around} {E0' : Value → Shared → Prop} {st : Shared}
/-- an empty set, just made -/
abbrev eSet (w0 : World) : Obj := { cls := .type "set", dict := none, data := .set #[] 0 (.fresh 0 0 (!w0.params.followText "set-order")) }
set_option maxHeartbeats 3200000 in
theorem set_of_list {q : Addr} {us : Array Value} (ms : List Int) {R : Value → Shared → Prop} (a0 : A0.handled = none) (hq : st.heap.IsList q us) (hi : IntsAre us.toList ms) (hz : ms.length + 1 < scanBound)
    (fin : ∀ (g : Heap) (tk k : Nat), SetR w0 g st.heap.objs.size (fun j => decide (j ∈ ms)) k → k ≤ ms.length → (∀ b o, st.heap.get? b = some o → g.get? b = some o) → R (.ref st.heap.objs.size) { st with heap := g, toks := tk }) :
    wpAny (model prog w0) A0 (call (.type "set") [.ref q]) R E0' st := by
  have usz : us.size = ms.length := by have z := IntsAre.length hi; rw [Array.length_toList] at z; exact z
  obtain ⟨c1, t1, mro⟩ := F.called_set.mro
  have m1 := F.called_set.made
  have m2 := F.called_set.sub
  refine wpAny_call (codeAny_of_tree (?_ : wpAny _ _ (callAny (.type "set") _) _ _ _))
  refine wpAny_pure ⟨Code.quiet_builtin _ (by decide +kernel), codeAny_builtin (F.entry_type_call : _ = _) ?_⟩
  rw [Around.under_plain (weight_type_call_type "set" [.ref q] []) rfl]
  have m3 := F.called_set.notType
  have m4 := F.called_set.canCreate
  have m5 := F.typeCall_set_1 (.ref q)
  repeat (any_goals (first | assumption | wp_step))
  refine codeAny_mono (code_set_led1 (.ref q) (E := E0') (Q₁ := fun ob s1 => ob = .ref st.heap.objs.size ∧ s1 = { st with heap := st.heap.push (eSet w0) }) ⟨rfl, rfl⟩) fun res s1 hres => ?_
  cases res with
  | error e => exact hres
  | ok fl =>
    cases fl with
    | ret ob =>
      obtain ⟨rfl, rfl⟩ := hres
      have at1 : (st.heap.push (eSet w0)).get? st.heap.objs.size = some (eSet w0) := Heap.get?_push_size _ rfl
      have ty1 : Shared.TypeIs { st with heap := st.heap.push (eSet w0) } (.ref st.heap.objs.size) "set" := ⟨_, at1, rfl⟩
      have i1 := F.called_set.init.lookup
      have i2 := F.called_set.init.bind (.ref st.heap.objs.size)
      repeat (any_goals (first | assumption | wp_step))
      refine codeAny_mono (codeAny_call_builtin (R := wants (fun r s2 => r = .none ∧ ∃ g tk k, s2 = { st with heap := g, toks := tk } ∧ SetR w0 g st.heap.objs.size (fun j => decide (j ∈ ms)) k ∧ k ≤ ms.length ∧ (∀ b o, st.heap.get? b = some o → g.get? b = some o)) E0') F.called_set.init.plain F.entry_set_init (check_set_init_1 ty1 ?_)) fun res2 s2 hres2 => ?_
      · obtain ⟨⟨oc, od, odt, osl⟩, ho, hcl, nl, hdt⟩ := hq
        simp only at hcl hdt
        subst hcl
        subst hdt
        have ho1 : (st.heap.push (eSet w0)).get? q = some { cls := .type "list", dict := od, data := .seq us nl, slots := osl } := Heap.get?_push_of_some _ ho
        have b1 := F.sub_list_set
        have b2 := F.sub_list_frozenset
        have b3 : (Value.type "list" == Value.type "dict") = false := (by decide : _)
        have lst1 : (st.heap.push (eSet w0)).IsList q us := ⟨_, ho1, rfl, nl, rfl⟩
        unfold Builtin.«set.__init__» noKeywords Builtin.Frozenset.updateFrom
        generalize hPI : pyIter = PI
        wp_walk
        subst hPI
        refine wpAny_pyIter_list lst1 (wpAny_bind (wpAny_runValue ?_))
        have qlt : q < st.heap.objs.size := Heap.lt_size ho
        have a3 : A0.in1.in1.in1.handled = none := by simp [a0]
        have sz1 : (st.heap.push (eSet w0)).objs.size = st.heap.objs.size + 1 := Heap.size_push ..
        have qne : q ≠ (st.heap.push (eSet w0)).objs.size := by rw [sz1]; exact Nat.ne_of_lt (Nat.lt_succ_of_lt qlt)
        have nin : st.heap.objs.size ∉ [(st.heap.push (eSet w0)).objs.size, q] := by
          rw [sz1]
          simp only [List.mem_cons, List.not_mem_nil, or_false, not_or]
          exact ⟨Nat.ne_of_lt (Nat.lt_succ_self _), Nat.ne_of_gt qlt⟩
        have vals : ∀ (i : Nat) (v : Value), us[i]? = some v → ∃ k t, ms[i]? = some k ∧ v = .int k t := fun i v hv => by
          have hlt : i < ms.length := by rw [← usz]; exact (Array.getElem?_eq_some_iff.mp hv).1
          obtain ⟨t, e⟩ := PyProof.Rows.IntsAre.int_at hi i v (by rw [Array.getElem?_toList]; exact hv)
          exact ⟨ms[i], t, List.getElem?_eq_getElem hlt, by rw [e, List.getD_eq_getElem?_getD, List.getElem?_eq_getElem hlt] <;> rfl⟩
        refine set_update_ints ((Walks.list a3 _ q qne us).toS) st.heap.objs.size nin ms usz hz vals (us.size - 0) 0 _ (by omega) (Nat.zero_le _) ⟨⟨_, Heap.get?_push_size _ rfl, rfl, rfl⟩, (lst1.push _)⟩ ?start ?end_
        case start => exact ⟨0, Nat.le_refl 0, setR_new_at (Heap.get?_push_of_some _ at1)⟩
        case end_ =>
          intro s3 k moved hk hset
          obtain ⟨g, gs, dr, tk, os3⟩ := s3
          have e1 : gs = st.gens := moved.gens
          have e2 : dr = st.drawn := moved.drawn
          have e3 : os3 = st.os := moved.os
          subst e1
          subst e2
          subst e3
          show wpAny _ _ _ _ _ _
          refine wpAny_pure (?_ : wpAny _ _ (ret Value.none) _ _ _)
          rw [usz] at hk
          refine wpAny_pure ⟨rfl, g, tk, k, rfl, hset, hk, fun b o e => ?_⟩
          have blt : b < st.heap.objs.size := Heap.lt_size e
          refine moved.heap b o ?_ (Heap.get?_push_of_some _ (Heap.get?_push_of_some _ e))
          rw [sz1]
          simp only [List.mem_cons, List.not_mem_nil, or_false, not_or]
          exact ⟨Nat.ne_of_lt blt, Nat.ne_of_lt (Nat.lt_succ_of_lt blt)⟩
      · cases res2 with
        | error e => exact hres2
        | ok fl2 =>
          cases fl2 with
          | ret r =>
            obtain ⟨rfl, g, tk, k, rfl, hset, hk, kp⟩ := hres2
            repeat (any_goals (first | assumption | wp_step))
            exact fin _ _ _ hset hk kp
          | _ => exact hres2.elim
    | _ => exact hres.elim
end
/-- set(xs) of ints -/
def rSetL (K : PySem.W.Frag) (w0 : World) : List V → Hp → VK → Prop := fun vs H Q => ∃ (a : Addr) (ns : List Int), vs = [V.ref a] ∧ SqL K H a (ns.map V.int) ∧ ns.length ≤ 1000 ∧
  ∀ (p : Addr) (k : Nat), k ≤ ns.length → H p = none → Q (.ref p) (upd H p (SetO w0 p (fun j => decide (j ∈ ns)) k))
theorem c_setL {X : Cx} {K : PySem.W.Frag} (hK : X.K = K) (hc : X.calm = true) : CallR X (.type "set") (rSetL K X.w) := by
  subst hK
  intro pins s σ H vs us Q I r h
  obtain ⟨a, ns, rfl, hq, hl, q⟩ := h
  obtain ⟨its, rv, pl, _⟩ := I.list hq
  rw [Vals.ref1 r]
  refine set_of_list ns (I.ok.hd hc) pl.isList (by simpa using rv.ints) (by unfold scanBound; omega) fun g tk k hset hk kp => ?_
  exact ⟨.ref _, upd H s.heap.objs.size (SetO X.w s.heap.objs.size (fun j => decide (j ∈ ns)) k), I.laid (t' := tk) kp (Nat.le_refl _) (setO_new hset), rfl, q _ k hk (I.hok.fresh (Nat.le_refl _))⟩
/-- sorted(set(xs)): ascending, the same ints -/
def rSetS (w0 : World) : List V → Hp → VK → Prop := rSortedSet w0
theorem c_setS {X : Cx} {w0 : World} (hw : X.w = w0) (hc : X.calm = true) : CallR X (.builtin "sorted") (rSetS w0) := by
  subst hw
  exact cr_sortedSet hc
section
variable {K : PySem.W.Frag} {w0 : World} {H : Hp} {Q : VK} {a p : Addr} {ns : List Int} {k : Nat}
theorem g_setL (h : SqL K H a (ns.map V.int)) (hl : ns.length ≤ 1000) (q : ∀ p k, k ≤ ns.length → H p = none → Q (.ref p) (upd H p (SetO w0 p (fun j => decide (j ∈ ns)) k))) : rSetL K w0 [.ref a] H Q := ⟨a, ns, rfl, h, hl, q⟩
theorem g_setS (h : H p = some (SetO w0 p (fun j => decide (j ∈ ns)) k)) (hk : k < 64) (q : ∀ (ms : List Int) q, ms.Pairwise (· < ·) → (∀ j : Int, j ∈ ms ↔ j ∈ ns) → ms.length = k → H q = none → Q (.ref q) (upd H q (.lst (ms.map V.int)))) : rSetS w0 [.ref p] H Q :=
  ⟨p, _, k, rfl, h, hk, fun ms q' h1 h2 h3 h4 => q ms q' h1 (fun j => (h2 j).trans (by simp)) h3 h4⟩
end
/-- ascending lists of the same ints are the same -/
theorem asc_eq : ∀ {l m : List Int}, l.Pairwise (· < ·) → m.Pairwise (· < ·) → (∀ j, j ∈ l ↔ j ∈ m) → l = m
  | [], [], _, _, _ => rfl
  | [], b :: m, _, _, h => absurd ((h b).mpr List.mem_cons_self) (by simp)
  | a :: l, [], _, _, h => absurd ((h a).mp List.mem_cons_self) (by simp)
  | a :: l, b :: m, h1, h2, h => by
    obtain ⟨a1, l1⟩ := List.pairwise_cons.mp h1
    obtain ⟨b1, m1⟩ := List.pairwise_cons.mp h2
    have hab : a = b := by
      rcases List.mem_cons.mp ((h a).mp List.mem_cons_self) with z | z
      · exact z
      · rcases List.mem_cons.mp ((h b).mpr List.mem_cons_self) with y | y
        · exact y.symm
        · have := a1 b y
          have := b1 a z
          omega
    subst hab
    congr 1
    refine asc_eq l1 m1 fun j => ?_
    constructor
    · intro hj
      rcases List.mem_cons.mp ((h j).mp (List.mem_cons_of_mem _ hj)) with z | z
      · have := a1 j hj
        omega
      · exact z
    · intro hj
      rcases List.mem_cons.mp ((h j).mpr (List.mem_cons_of_mem _ hj)) with z | z
      · have := b1 j hj
        omega
      · exact z

def rLstU (K : PySem.W.Frag) : List V → Hp → VK → Prop := fun xs H Q => ∃ p ys, xs = [.ref p] ∧ (SqL K H p ys ∨ SqT K H p ys) ∧ ∀ l, H l = none → Q (.ref l) (upd H l (.lst ys))
theorem c_list {X : Cx} {K : PySem.W.Frag} (hK : X.K = K) : CallR X (.type "list") (rLstU K) := by
  subst hK
  exact call_list_of
def rSumK (K : PySem.W.Frag) : List V → Hp → VK → Prop := rSum K
theorem c_sumK {X : Cx} {K : PySem.W.Frag} (hK : X.K = K) (hc : X.calm = true) : CallR X (.builtin "sum") (rSumK K) := by
  subst hK
  exact cr_sum hc
theorem g_sum {K : PySem.W.Frag} {H : Hp} {Q : VK} {a : Addr} {ns : List Int} (h : SqL K H a (ns.map V.int)) (q : Q (.int ns.sum) H) : rSumK K [.ref a] H Q := ⟨a, ns, rfl, h, q⟩


/-! ### the cache -/
structure CSt where
  S : Nat
  W : Nat
  Z : Nat
  P : Str
  pl : List (List (Option Int))
  tm : List (List Int)
  pt : List (List Int)
  t : Int
def ovV : Option Int → V
  | none => .non
  | some i => .int i
abbrev plR (c : CSt) : List (List V) := c.pl.map (·.map ovV)
abbrev tmR (c : CSt) : List (List V) := c.tm.map (·.map V.int)
abbrev ptR (c : CSt) : List (List V) := c.pt.map (·.map V.int)
/-- where a cache's objects stand -/
structure CAd where
  p : Addr
  dx : Addr
  A : Addr
  B : Addr
  G : Addr
  as : List Addr
  bs : List Addr
  gs : List Addr
abbrev caO (K : PySem.W.Frag) (d : CAd) (c : CSt) : HO := .ins (He.ga K "Cache") d.dx (fs_Cache (.int c.S) (.int c.W) (.int c.Z) (.str c.P) (.ref d.A) (.ref d.B) (.ref d.G) (.int c.t))
abbrev caF (K : PySem.W.Frag) (d : CAd) (c : CSt) : List (Addr × HO) := [(d.p, caO K d c), (d.A, .lst (d.as.map V.ref)), (d.B, .lst (d.bs.map V.ref)), (d.G, .lst (d.gs.map V.ref))]
abbrev CaL (K : PySem.W.Frag) (d : CAd) (c : CSt) : List (Addr × HO) := caF K d c ++ (tab d.as (plR c) ++ (tab d.bs (tmR c) ++ (tab d.gs (ptR c) ++ [])))
structure CWf (d : CAd) (c : CSt) : Prop where
  s0 : 0 < c.S
  s1 : c.S ≤ 1000
  w0 : 0 < c.W
  w1 : c.W ≤ 1000
  z0 : 0 < c.Z
  z1 : c.Z ≤ 1000000
  la : d.as.length = c.S
  lb : d.bs.length = c.S
  lg : d.gs.length = c.S
  lp : c.pl.length = c.S
  lt : c.tm.length = c.S
  lq : c.pt.length = c.S
  rp : ∀ r ∈ c.pl, r.length = c.W
  rt : ∀ r ∈ c.tm, r.length = c.W
  rq : ∀ r ∈ c.pt, r.length = c.W ∧ ∀ x ∈ r, x = 0 ∨ x = 1
section
variable {K : PySem.W.Frag} {H : Hp} {d : CAd} {c : CSt} {i : Nat} {a : Addr}
theorem ca_pl {r : List (Option Int)} (M : Has H (CaL K d c)) (ha : d.as[i]? = some a) (hr : c.pl[i]? = some r) : H a = some (.lst (r.map ovV)) :=
  M.tabGet ha (by rw [List.getElem?_map, hr]; rfl)
theorem ca_pl_set {r r' : List (Option Int)} (M : Has H (CaL K d c)) (ha : d.as[i]? = some a) (hr : c.pl[i]? = some r) : Has (upd H a (.lst (r'.map ovV))) (CaL K d { c with pl := c.pl.set i r' }) := by
  have z := M.tabSet (r' := r'.map ovV) ha (by rw [List.getElem?_map, hr]; rfl)
  rw [← List.map_set (f := fun x => List.map ovV x)] at z
  exact z
theorem ca_tm {r : List Int} (M : Has H (CaL K d c)) (ha : d.bs[i]? = some a) (hr : c.tm[i]? = some r) : H a = some (.lst (r.map V.int)) := by
  have M' : Has H ((caF K d c ++ tab d.as (plR c)) ++ (tab d.bs (tmR c) ++ (tab d.gs (ptR c) ++ []))) := by
    rw [List.append_assoc]
    exact M
  exact M'.tabGet ha (by rw [List.getElem?_map, hr]; rfl)
theorem ca_tm_set {r r' : List Int} (M : Has H (CaL K d c)) (ha : d.bs[i]? = some a) (hr : c.tm[i]? = some r) : Has (upd H a (.lst (r'.map V.int))) (CaL K d { c with tm := c.tm.set i r' }) := by
  have M' : Has H ((caF K d c ++ tab d.as (plR c)) ++ (tab d.bs (tmR c) ++ (tab d.gs (ptR c) ++ []))) := by
    rw [List.append_assoc]
    exact M
  have z := M'.tabSet (r' := r'.map V.int) ha (by rw [List.getElem?_map, hr]; rfl)
  rw [← List.map_set (f := fun x => List.map V.int x), List.append_assoc] at z
  exact z
theorem ca_pt {r : List Int} (M : Has H (CaL K d c)) (ha : d.gs[i]? = some a) (hr : c.pt[i]? = some r) : H a = some (.lst (r.map V.int)) := by
  have M' : Has H (((caF K d c ++ tab d.as (plR c)) ++ tab d.bs (tmR c)) ++ (tab d.gs (ptR c) ++ [])) := by
    rw [List.append_assoc, List.append_assoc]
    exact M
  exact M'.tabGet ha (by rw [List.getElem?_map, hr]; rfl)
theorem ca_pt_set {r r' : List Int} (M : Has H (CaL K d c)) (ha : d.gs[i]? = some a) (hr : c.pt[i]? = some r) : Has (upd H a (.lst (r'.map V.int))) (CaL K d { c with pt := c.pt.set i r' }) := by
  have M' : Has H (((caF K d c ++ tab d.as (plR c)) ++ tab d.bs (tmR c)) ++ (tab d.gs (ptR c) ++ [])) := by
    rw [List.append_assoc, List.append_assoc]
    exact M
  have z := M'.tabSet (r' := r'.map V.int) ha (by rw [List.getElem?_map, hr]; rfl)
  rw [← List.map_set (f := fun x => List.map V.int x), List.append_assoc, List.append_assoc] at z
  exact z
end

/-! rows of places -/
theorem eqV_ov {y x : Option Int} : eqV (ovV y) (ovV x) = decide (y = x) := by
  cases y <;> cases x
  · rfl
  · rfl
  · rfl
  · rename_i a b
    show (a == b) = _
    by_cases h : a = b
    · subst h; simp
    · rw [beq_eq_false_iff_ne.mpr h]; simp [h]
theorem flat_ov {r : List (Option Int)} : (r.map ovV).all flatV = true := by
  rw [List.all_eq_true]
  intro v hv
  obtain ⟨o, _, rfl⟩ := List.mem_map.mp hv
  cases o <;> rfl
theorem inV_ov {x : Option Int} {r : List (Option Int)} : inV (ovV x) (r.map ovV) = decide (x ∈ r) := by
  unfold inV
  induction r with
  | nil => simp
  | cons y r ih =>
    rw [List.map_cons, List.any_cons, ih, eqV_ov]
    by_cases h : y = x
    · subst h; simp
    · have h' : ¬ x = y := fun e => h e.symm
      simp [h, h']
/-- the first place of x -/
def ixo (x : Option Int) (r : List (Option Int)) : Nat := r.findIdx fun y => decide (y = x)
theorem ixo_lt {x : Option Int} {r : List (Option Int)} (h : x ∈ r) : ixo x r < r.length := List.findIdx_lt_length_of_exists ⟨x, h, by simp⟩
theorem ixo_at {x : Option Int} {r : List (Option Int)} (h : x ∈ r) : r[ixo x r]? = some x := by
  have z := List.findIdx_getElem (w := ixo_lt h)
  rw [List.getElem?_eq_getElem (ixo_lt h)]
  rw [decide_eq_true_eq] at z
  exact congrArg some z
theorem ixo_no {x y : Option Int} {r : List (Option Int)} {m : Nat} (h : m < ixo x r) (e : r[m]? = some y) : y ≠ x := by
  have hm : m < r.length := (List.getElem?_eq_some_iff.mp e).1
  have z := List.not_of_lt_findIdx h
  rw [List.getElem?_eq_getElem hm] at e
  cases e
  simpa using z
theorem g_inO {K : PySem.W.Frag} {H : Hp} {Q : VK} {neg : Bool} {x : Option Int} {v : V} {p : Addr} {r : List (Option Int)} (hv : v = ovV x) (h : H p = some (.lst (r.map ovV))) (q : Q (.bl (if neg then !decide (x ∈ r) else decide (x ∈ r))) H) : rInU K neg v (.ref p) H Q := by
  subst hv
  refine .inl ⟨p, r.map ovV, rfl, .inl (SqL.of h), by cases x <;> rfl, flat_ov, ?_⟩
  rw [inV_ov]
  exact q
theorem g_indexO {K : PySem.W.Frag} {H : Hp} {Q : VK} {x : Option Int} {v : V} {p : Addr} {r : List (Option Int)} (hv : v = ovV x) (h : H p = some (.lst (r.map ovV))) (hm : x ∈ r) (q : Q (.int (ixo x r : Nat)) H) : rIndexU K (.ref p) [v] H Q := by
  subst hv
  refine g_index (SqL.of h) (by cases x <;> rfl) flat_ov (j := ixo x r) (z := ovV x) (by rw [List.getElem?_map, ixo_at hm]; rfl) (by rw [eqV_ov]; simp) (fun m z' hm' hz => ?_) q
  rw [List.getElem?_map] at hz
  cases e : r[m]? with
  | none => rw [e] at hz; cases hz
  | some y =>
    rw [e] at hz
    cases hz
    rw [eqV_ov]
    exact decide_eq_false (ixo_no hm' e)
/-- the first place of the least -/
def mnI (r : List Int) : Nat := r.findIdx fun y => r.all fun z => decide (y ≤ z)
theorem mnI_eq {r : List Int} {m : Int} (h1 : m ∈ r) (h2 : ∀ y ∈ r, m ≤ y) : mnI r = r.findIdx fun y => decide (y = m) := by
  unfold mnI
  have : ∀ (l : List Int), (∀ y ∈ l, y ∈ r) → l.findIdx (fun y => r.all fun z => decide (y ≤ z)) = l.findIdx fun y => decide (y = m) := by
    intro l
    induction l with
    | nil => intro _; rfl
    | cons y l ih =>
      intro hl
      have e : (r.all fun z => decide (y ≤ z)) = decide (y = m) := by
        by_cases hy : y = m
        · subst hy
          rw [decide_eq_true (rfl : y = y), List.all_eq_true]
          exact fun z hz => decide_eq_true (h2 z hz)
        · rw [decide_eq_false hy]
          rw [Bool.eq_false_iff]
          intro ha
          rw [List.all_eq_true] at ha
          have z1 := of_decide_eq_true (ha m h1)
          have z2 := h2 y (hl y (by simp))
          exact hy (by omega)
      rw [List.findIdx_cons, List.findIdx_cons, e, ih fun z hz => hl z (by simp [hz])]
  exact this r fun _ h => h
theorem ixi_lt {x : Int} {r : List Int} (h : x ∈ r) : r.findIdx (fun y => decide (y = x)) < r.length := List.findIdx_lt_length_of_exists ⟨x, h, by simp⟩
theorem g_indexI {K : PySem.W.Frag} {H : Hp} {Q : VK} {x : Int} {p : Addr} {r : List Int} (h : SqL K H p (r.map V.int)) (hm : x ∈ r) (q : Q (.int (r.findIdx (fun y => decide (y = x)) : Nat)) H) : rIndexU K (.ref p) [.int x] H Q := by
  have fl : (r.map V.int).all flatV = true := by
    rw [List.all_eq_true]
    intro v hv
    obtain ⟨o, _, rfl⟩ := List.mem_map.mp hv
    rfl
  have ev : ∀ y : Int, eqV (.int y) (.int x) = decide (y = x) := fun y => by
    show (y == x) = _
    by_cases h : y = x
    · subst h; simp
    · rw [beq_eq_false_iff_ne.mpr h]; simp [h]
  have hlt := ixi_lt hm
  have z := List.findIdx_getElem (w := hlt)
  rw [decide_eq_true_eq] at z
  refine g_index h rfl fl (z := .int x) (by rw [List.getElem?_map, List.getElem?_eq_getElem hlt, z]; rfl) (by rw [ev]; simp) (fun m z' hm' hz => ?_) q
  rw [List.getElem?_map] at hz
  have hl : m < r.length := by omega
  rw [List.getElem?_eq_getElem hl] at hz
  cases hz
  rw [ev]
  have w := List.not_of_lt_findIdx hm'
  simpa using w

/-! what a cache does -/
def tmv (c : CSt) (n : Nat) : List Int := c.tm.getD n []
def ptv (c : CSt) (n : Nat) : List Int := c.pt.getD n []
def row (c : CSt) (n : Nat) : List (Option Int) := c.pl.getD n []
def ptGo (r : List Int) (W : Nat) : Nat → Nat → Nat
  | 0, node => node
  | f + 1, node => if node < W then ptGo r W f (2 * node + (r.getD node 0).toNat) else node
def tnGo : Nat → Nat → List Int → List Int
  | 0, _, r => r
  | f + 1, node, r => if 1 < node then tnGo f (node / 2) (r.set (node / 2) (1 - (node : Int) % 2)) else r
abbrev ptV (r : List Int) (W : Nat) : Nat := ptGo r W W 1 - W
abbrev tnV (r : List Int) (W place : Nat) : List Int := tnGo (place + W) (place + W) r
def fpV (c : CSt) (n : Nat) : Nat := if none ∈ row c n then ixo none (row c n) else if c.P = "plru" then ptV (ptv c n) c.W else mnI (tmv c n)
def lnO (c : CSt) (x : Int) : Int := x / (c.Z : Int)
def nmO (c : CSt) (x : Int) : Nat := (lnO c x % (c.S : Int)).toNat
abbrev hitV (c : CSt) (x : Int) : Prop := some (lnO c x) ∈ row c (nmO c x)
def plO (c : CSt) (x : Int) : Nat := if hitV c x then ixo (some (lnO c x)) (row c (nmO c x)) else fpV c (nmO c x)
/-- the state behind a touch -/
def tcV (c : CSt) (x : Int) : CSt := { c with
  t := c.t + 1
  pl := if hitV c x then c.pl else c.pl.set (nmO c x) ((row c (nmO c x)).set (plO c x) (some (lnO c x)))
  tm := if ¬ hitV c x ∨ c.P = "lru" then c.tm.set (nmO c x) ((tmv c (nmO c x)).set (plO c x) (c.t + 1)) else c.tm
  pt := if c.P = "plru" then c.pt.set (nmO c x) (tnV (ptv c (nmO c x)) c.W (plO c x)) else c.pt }
/-- the state behind a drop -/
def dpV (c : CSt) (x : Int) : CSt := { c with
  pl := if hitV c x then c.pl.set (nmO c x) ((row c (nmO c x)).set (ixo (some (lnO c x)) (row c (nmO c x))) none) else c.pl }
theorem getD_some {α : Type} {l : List α} {n : Nat} {d : α} (h : n < l.length) : l[n]? = some (l.getD n d) := by
  rw [List.getD_eq_getElem?_getD, List.getElem?_eq_getElem h]
  rfl
theorem getD_mem {α : Type} {l : List α} {n : Nat} {d : α} (h : n < l.length) : l.getD n d ∈ l := List.mem_of_getElem? (getD_some h)
theorem ref_at {as : List Addr} {n : Nat} (h : n < as.length) : ∃ a, as[n]? = some a ∧ (as.map V.ref)[n]? = some (.ref a) := ⟨_, List.getElem?_eq_getElem h, by rw [List.getElem?_map, List.getElem?_eq_getElem h]; rfl⟩
section
variable {d : CAd} {c : CSt} {n : Nat} {x : Int}
theorem CWf.rowL (wf : CWf d c) (h : n < c.S) : (row c n).length = c.W := wf.rp _ (getD_mem (by rw [wf.lp]; exact h))
theorem CWf.tmL (wf : CWf d c) (h : n < c.S) : (tmv c n).length = c.W := wf.rt _ (getD_mem (by rw [wf.lt]; exact h))
theorem CWf.ptL (wf : CWf d c) (h : n < c.S) : (ptv c n).length = c.W := (wf.rq _ (getD_mem (by rw [wf.lq]; exact h))).1
theorem CWf.pt01 (wf : CWf d c) (h : n < c.S) : ∀ x ∈ ptv c n, x = 0 ∨ x = 1 := (wf.rq _ (getD_mem (by rw [wf.lq]; exact h))).2
theorem CWf.nm (wf : CWf d c) (x : Int) : nmO c x < c.S ∧ lnO c x % (c.S : Int) = (nmO c x : Int) := by
  have h0 := wf.s0
  have h1 := Int.emod_nonneg (lnO c x) (b := (c.S : Int)) (by omega)
  have h2 := Int.emod_lt_of_pos (lnO c x) (b := (c.S : Int)) (by omega)
  unfold nmO
  omega
theorem pt_at (r : List Int) (h : ∀ x ∈ r, x = 0 ∨ x = 1) {m : Nat} (hm : m < r.length) : r[m]? = some (((r.getD m 0).toNat : Nat) : Int) ∧ (r.getD m 0).toNat ≤ 1 := by
  have e := getD_some (d := (0 : Int)) hm
  rcases h _ (getD_mem (d := (0 : Int)) hm) with z | z <;> (rw [z] at e ⊢; exact ⟨e, by decide⟩)
theorem ptGo_b {r : List Int} {W : Nat} (h : ∀ x ∈ r, x = 0 ∨ x = 1) (hr : r.length = W) : ∀ f node, 1 ≤ node → node < 2 * W → W ≤ node + f → W ≤ ptGo r W f node ∧ ptGo r W f node < 2 * W
  | 0, node, _, h2, h3 => ⟨by simpa [ptGo] using h3, by simpa [ptGo] using h2⟩
  | f + 1, node, h1, h2, h3 => by
    unfold ptGo
    split
    · rename_i hl
      have := (pt_at r h (m := node) (by omega)).2
      exact ptGo_b h hr f _ (by omega) (by omega) (by omega)
    · omega
theorem ptGo_mono {r : List Int} {W : Nat} : ∀ f g node, 1 ≤ node → W ≤ node + f → f ≤ g → ptGo r W g node = ptGo r W f node
  | 0, 0, _, _, _, _ => rfl
  | 0, g + 1, node, _, h, _ => by unfold ptGo; rw [if_neg (by omega)]
  | f + 1, 0, _, _, _, h => by omega
  | f + 1, g + 1, node, h1, h, hg => by
    unfold ptGo
    split
    · exact ptGo_mono f g _ (by omega) (by omega) (by omega)
    · rfl
theorem ptGo_step {r : List Int} {W node : Nat} (h1 : 1 ≤ node) (h : node < W) : ptGo r W W node = ptGo r W W (2 * node + (r.getD node 0).toNat) := by
  have e : ptGo r W (W + 1) node = ptGo r W W node := ptGo_mono W (W + 1) node h1 (by omega) (by omega)
  rw [← e]
  rw [show ptGo r W (W + 1) node = if node < W then ptGo r W W (2 * node + (r.getD node 0).toNat) else node from rfl, if_pos h]
theorem ptGo_end {r : List Int} {W f node : Nat} (h : W ≤ node) : ptGo r W f node = node := by
  cases f with
  | zero => rfl
  | succ f => unfold ptGo; rw [if_neg (by omega)]
theorem tnGo_mono : ∀ f g node r, node ≤ f → f ≤ g → tnGo g node r = tnGo f node r
  | 0, 0, _, _, _, _ => rfl
  | 0, g + 1, node, r, h, _ => by unfold tnGo; rw [if_neg (by omega)]
  | f + 1, 0, _, _, _, h => by omega
  | f + 1, g + 1, node, r, h, hg => by
    unfold tnGo
    split
    · exact tnGo_mono f g _ _ (by omega) (by omega)
    · rfl
theorem tnGo_step {f node : Nat} {r : List Int} (h : 1 < node) (hf : node ≤ f) : tnGo f node r = tnGo f (node / 2) (r.set (node / 2) (1 - (node : Int) % 2)) := by
  have e : tnGo (f + 1) node r = tnGo f node r := tnGo_mono f (f + 1) node r hf (by omega)
  rw [← e]
  rw [show tnGo (f + 1) node r = if 1 < node then tnGo f (node / 2) (r.set (node / 2) (1 - (node : Int) % 2)) else r from rfl, if_pos h]
theorem tnGo_end {f node : Nat} {r : List Int} (h : node ≤ 1) : tnGo f node r = r := by
  cases f with
  | zero => rfl
  | succ f => unfold tnGo; rw [if_neg (by omega)]
theorem tnGo_len : ∀ {f node : Nat} {r : List Int}, (tnGo f node r).length = r.length
  | 0, _, _ => rfl
  | f + 1, node, r => by
    unfold tnGo
    split
    · rw [tnGo_len, List.length_set]
    · rfl
theorem tnGo_01 : ∀ {f node : Nat} {r : List Int}, (∀ x ∈ r, x = 0 ∨ x = 1) → ∀ x ∈ tnGo f node r, x = 0 ∨ x = 1
  | 0, _, _, h => h
  | f + 1, node, r, h => by
    unfold tnGo
    split
    · refine tnGo_01 fun x hx => ?_
      rcases List.mem_or_eq_of_mem_set hx with hx | hx
      · exact h x hx
      · omega
    · exact h
theorem mnI_lt {r : List Int} (h : 0 < r.length) : mnI r < r.length := by
  have : ∀ l : List Int, l ≠ [] → ∃ m ∈ l, ∀ z ∈ l, m ≤ z := by
    intro l
    induction l with
    | nil => intro h; exact (h rfl).elim
    | cons x l ih =>
      intro _
      by_cases hl : l = []
      · subst hl
        exact ⟨x, by simp, by simp⟩
      · obtain ⟨m, hm, hz⟩ := ih hl
        by_cases hx : x ≤ m
        · refine ⟨x, by simp, fun z hz' => ?_⟩
          rcases List.mem_cons.mp hz' with e | e
          · omega
          · have := hz z e; omega
        · refine ⟨m, by simp [hm], fun z hz' => ?_⟩
          rcases List.mem_cons.mp hz' with e | e
          · omega
          · exact hz z e
  obtain ⟨m, hm, hz⟩ := this r (by intro e; subst e; simp at h)
  rw [mnI_eq hm hz]
  exact ixi_lt hm
theorem CWf.fp (wf : CWf d c) (h : n < c.S) : fpV c n < c.W := by
  have h0 := wf.w0
  unfold fpV
  split
  · rename_i hm
    have := ixo_lt hm
    rw [wf.rowL h] at this
    exact this
  · split
    · have := ptGo_b (wf.pt01 h) (wf.ptL h) c.W 1 (by omega) (by omega) (by omega)
      unfold ptV
      omega
    · have := mnI_lt (r := tmv c n) (by rw [wf.tmL h]; exact h0)
      rw [wf.tmL h] at this
      exact this
theorem CWf.pl_ (wf : CWf d c) : plO c x < c.W := by
  have h := (wf.nm x).1
  unfold plO
  split
  · rename_i hm
    have := ixo_lt hm
    rw [wf.rowL h] at this
    exact this
  · exact wf.fp h
theorem CWf.tc (wf : CWf d c) : CWf d (tcV c x) := by
  have h := (wf.nm x).1
  refine ⟨wf.s0, wf.s1, wf.w0, wf.w1, wf.z0, wf.z1, wf.la, wf.lb, wf.lg, ?_, ?_, ?_, ?_, ?_, ?_⟩
  · show (if _ then _ else _ : List (List (Option Int))).length = c.S
    split
    · exact wf.lp
    · rw [List.length_set]; exact wf.lp
  · show (if _ then _ else _ : List (List Int)).length = c.S
    split
    · rw [List.length_set]; exact wf.lt
    · exact wf.lt
  · show (if _ then _ else _ : List (List Int)).length = c.S
    split
    · rw [List.length_set]; exact wf.lq
    · exact wf.lq
  · intro r hr
    have hr' : r ∈ (if hitV c x then c.pl else c.pl.set (nmO c x) ((row c (nmO c x)).set (plO c x) (some (lnO c x)))) := hr
    split at hr'
    · exact wf.rp r hr'
    · rcases List.mem_or_eq_of_mem_set hr' with e | e
      · exact wf.rp r e
      · rw [e, List.length_set]; exact wf.rowL h
  · intro r hr
    have hr' : r ∈ (if ¬ hitV c x ∨ c.P = "lru" then c.tm.set (nmO c x) ((tmv c (nmO c x)).set (plO c x) (c.t + 1)) else c.tm) := hr
    split at hr'
    · rcases List.mem_or_eq_of_mem_set hr' with e | e
      · exact wf.rt r e
      · rw [e, List.length_set]; exact wf.tmL h
    · exact wf.rt r hr'
  · intro r hr
    have hr' : r ∈ (if c.P = "plru" then c.pt.set (nmO c x) (tnV (ptv c (nmO c x)) c.W (plO c x)) else c.pt) := hr
    split at hr'
    · rcases List.mem_or_eq_of_mem_set hr' with e | e
      · exact wf.rq r e
      · rw [e]
        exact ⟨tnGo_len.trans (wf.ptL h), tnGo_01 (wf.pt01 h)⟩
    · exact wf.rq r hr'
theorem CWf.dp (wf : CWf d c) : CWf d (dpV c x) := by
  have h := (wf.nm x).1
  refine ⟨wf.s0, wf.s1, wf.w0, wf.w1, wf.z0, wf.z1, wf.la, wf.lb, wf.lg, ?_, wf.lt, wf.lq, ?_, wf.rt, wf.rq⟩
  · show (if _ then _ else _ : List (List (Option Int))).length = c.S
    split
    · rw [List.length_set]; exact wf.lp
    · exact wf.lp
  · intro r hr
    have hr' : r ∈ (if hitV c x then c.pl.set (nmO c x) ((row c (nmO c x)).set (ixo (some (lnO c x)) (row c (nmO c x))) none) else c.pl) := hr
    split at hr'
    · rcases List.mem_or_eq_of_mem_set hr' with e | e
      · exact wf.rp r e
      · rw [e, List.length_set]; exact wf.rowL h
    · exact wf.rp r hr'
end
/-! where a cache's objects stand -/
def CaA (d : CAd) : List Addr := [d.p, d.A, d.B, d.G] ++ (d.as ++ (d.bs ++ (d.gs ++ [])))
theorem ca_fst {K : PySem.W.Frag} {d : CAd} {c : CSt} (wf : CWf d c) : (CaL K d c).map (·.1) = CaA d := by
  unfold CaL CaA caF
  rw [List.map_append, List.map_append, List.map_append, List.map_append, tab_fst (by rw [wf.la, List.length_map, wf.lp]), tab_fst (by rw [wf.lb, List.length_map, wf.lt]), tab_fst (by rw [wf.lg, List.length_map, wf.lq])]
  rfl
theorem caA_p {d : CAd} : d.p ∈ CaA d := by simp [CaA]
theorem caA_a {d : CAd} {n : Nat} {a : Addr} (h : d.as[n]? = some a) : a ∈ CaA d := by have := List.mem_of_getElem? h; simp [CaA, this]
theorem caA_b {d : CAd} {n : Nat} {a : Addr} (h : d.bs[n]? = some a) : a ∈ CaA d := by have := List.mem_of_getElem? h; simp [CaA, this]
theorem caA_g {d : CAd} {n : Nat} {a : Addr} (h : d.gs[n]? = some a) : a ∈ CaA d := by have := List.mem_of_getElem? h; simp [CaA, this]
def sp_Cache_line_of (K : PySem.W.Frag) : Sp := fun vs H Q _ => ∃ (d : CAd) (c : CSt) (x : Int), vs = [.ref d.p, .int x] ∧ Has H (CaL K d c) ∧ CWf d c ∧ Q (.int (x / (c.Z : Int))) H
theorem sc_Cache_line_of : FnScope ["self", "address"] ["self", "address"] (defScope (inClass (topS 1) 1)) := ⟨rfl, rfl, rfl, by decide +kernel, rfl, by decide +kernel, by decide +kernel⟩
theorem mt_Cache_line_of (T : Txt fa fn K mg (CsOk cs K w)) : Mt P w K mg base CX0 1 "Cache" "line_of" ["self", "address"] (sp_Cache_line_of K) := by
  refine mk_mt (d := mOf "Cache" "line_of" "Cache.line_of" (inClass (topS 1) 1)) T 54 rfl rfl rfl rfl sc_Cache_line_of (by walk_at "len") (fun _ _ _ _ _ _ us hl => match us, hl with | [_, _], _ => rfl) (fun cdv A outer s H vs Q E hr h => ⟨_, (pss_one (ps_ret (pe_op o_fdiv (pv 1) (pe_fldU (K := K) rfl (pv 0) rfl)))), ?_⟩)
  obtain ⟨d, c, x, rfl, M, wf, hQ⟩ := h
  have z0 := wf.z0
  have z1 := wf.z1
  walk_at "go"
  exact hQ
def sp_Cache_places (K : PySem.W.Frag) : Sp := fun vs H Q _ => ∃ (d : CAd) (c : CSt) (n : Nat), vs = [.ref d.p, .int n] ∧ Has H (CaL K d c) ∧ CWf d c ∧ n < c.S ∧ ∀ p H', Same H H' → H' p = some (.tup ((row c n).map ovV)) → Q (.ref p) H'
theorem sc_Cache_places : FnScope ["self", "number"] ["self", "number"] (defScope (inClass (topS 1) 2)) := ⟨rfl, rfl, rfl, by decide +kernel, rfl, by decide +kernel, by decide +kernel⟩
theorem mt_Cache_places (T : Txt fa fn K mg (CsOk cs K w)) : Mt P w K mg base CX0 1 "Cache" "places" ["self", "number"] (sp_Cache_places K) := by
  refine mk_mt (d := mOf "Cache" "places" "Cache.places" (inClass (topS 1) 2)) T 55 rfl rfl rfl rfl sc_Cache_places (by walk_at "len") (fun _ _ _ _ _ _ us hl => match us, hl with | [_, _], _ => rfl) (fun cdv A outer s H vs Q E hr h => ⟨_, (pss_one (ps_ret (pe_callTy (c_tuple (K := K) rfl) rfl (T.free 135 rfl) (by decide +kernel) (pa_cons (pe_ixU (K := K) rfl (hu_of hr) (pe_fldU (K := K) rfl (pv 0) rfl) (pv 1)) pa_nil)))), ?_⟩)
  obtain ⟨d, c, n, rfl, M, wf, hn, hQ⟩ := h
  obtain ⟨a, ha, ha2⟩ := ref_at (as := d.as) (n := n) (by rw [wf.la]; exact hn)
  have hr := ca_pl M ha (getD_some (d := []) (by rw [wf.lp]; exact hn))
  walk_at "go"
  refine g_ixL (SqL.of (M.get 1 rfl)) rfl ha2 ?_
  walk_at "go"
  exact ⟨_, rfl, .inl ⟨a, _, rfl, SqL.of hr, fun p hp => hQ p _ (Same.new hp) upd_same⟩⟩
def sp_Cache_pointed_place (K : PySem.W.Frag) : Sp := fun vs H Q _ => ∃ (d : CAd) (c : CSt) (n : Nat), vs = [.ref d.p, .int n] ∧ Has H (CaL K d c) ∧ CWf d c ∧ n < c.S ∧ Q (.int (ptV (ptv c n) c.W : Nat)) H
theorem sc_Cache_pointed_place : FnScope ["self", "number", "pointers", "node"] ["self", "number"] (defScope (inClass (topS 1) 5)) := ⟨rfl, rfl, rfl, by decide +kernel, rfl, by decide +kernel, by decide +kernel⟩
theorem mt_Cache_pointed_place (T : Txt fa fn K mg (CsOk cs K w)) : Mt P w K mg base CX0 1 "Cache" "pointed_place" ["self", "number"] (sp_Cache_pointed_place K) := by
  refine mk_mt (d := mOf "Cache" "pointed_place" "Cache.pointed_place" (inClass (topS 1) 5)) T 58 rfl rfl rfl rfl sc_Cache_pointed_place (by walk_at "len") (fun _ _ _ _ _ _ us hl => match us, hl with | [_, _], _ => rfl) (fun cdv A outer s H vs Q E hr h => ⟨_, (pss_cons (ps_set (i := 2) sc_Cache_pointed_place.nd rfl (.inl rfl) (pe_ixU (K := K) rfl (hu_of hr) (pe_fldU (K := K) rfl (pv 0) rfl) (pv 1)))
      (pss_cons (ps_set (i := 3) sc_Cache_pointed_place.nd rfl (.inl rfl) pe_int)
      (pss_cons (ps_while PassesOwn.never (pt_cmpR o_lt (pv 3) (pe_fldU (K := K) rfl (pv 0) rfl) (nomark _)) (pss_one (ps_set (i := 3) sc_Cache_pointed_place.nd rfl (.inl rfl) (pe_op (op_addU (K := K) rfl) (pe_op op_mulU pe_int (pv 3)) (pe_ixU (K := K) rfl (hu_of hr) (pv 2) (pv 3))))))
      (pss_one (ps_ret (pe_op op_sub (pv 3) (pe_fldU (K := K) rfl (pv 0) rfl))))))), ?_⟩)
  obtain ⟨d, c, n, rfl, M, wf, hn, hQ⟩ := h
  obtain ⟨a, ha, ha2⟩ := ref_at (as := d.gs) (n := n) (by rw [wf.lg]; exact hn)
  have hr := ca_pt M ha (getD_some (d := []) (by rw [wf.lq]; exact hn))
  have hw := wf.w0
  have hw1 := wf.w1
  walk_at "go"
  refine g_ixL (SqL.of (M.get 3 rfl)) rfl ha2 ?_
  walk_at "go"
  refine ⟨fun m σ H' => ∃ node : Nat, σ = [some (.ref d.p), some (.int n), some (.ref a), some (.int node)] ∧ H' = H ∧ m = c.W - node ∧ 1 ≤ node ∧ node < 2 * c.W ∧ ptGo (ptv c n) c.W c.W node = ptGo (ptv c n) c.W c.W 1, ⟨_, 1, rfl, rfl, rfl, by omega, by omega, rfl⟩, ?_⟩
  rintro m σ H' ⟨node, rfl, rfl, rfl, h1, h2, h3⟩
  walk_at "go"
  refine g_if (fun h => ?_) (fun h => ?_)
  · refine g_whileT ?_
    have hl : node < c.W := by omega
    have z := pt_at (ptv c n) (wf.pt01 hn) (m := node) (by rw [wf.ptL hn]; exact hl)
    walk_at "go"
    refine g_ixL (SqL.of hr) rfl (v := .int (((ptv c n).getD node 0).toNat : Nat)) (by rw [List.getElem?_map]; exact congrArg _ z.1) ?_
    walk_at "go"
    refine ⟨_, ?_, 2 * node + ((ptv c n).getD node 0).toNat, ?_, rfl, rfl, by omega, by have := z.2; omega, ?_⟩
    · have := z.2; omega
    · rw [show (2 : Int) * (node : Int) + (((ptv c n).getD node 0).toNat : Int) = ((2 * node + ((ptv c n).getD node 0).toNat : Nat) : Int) by omega]
      rfl
    · rw [← ptGo_step h1 hl]
      exact h3
  · walk_at "go"
    have e : ptGo (ptv c n) c.W c.W 1 = node := by rw [← h3, ptGo_end (by omega)]
    have : ((node : Int) - (c.W : Int)) = ((ptV (ptv c n) c.W : Nat) : Int) := by unfold ptV; rw [e]; omega
    rw [this]
    exact hQ

def sp_Cache_turn_away (K : PySem.W.Frag) : Sp := fun vs H Q _ => ∃ (d : CAd) (c : CSt) (n place : Nat), vs = [.ref d.p, .int n, .int place] ∧ Has H (CaL K d c) ∧ CWf d c ∧ n < c.S ∧ place < c.W ∧
  ∀ H', Keep (CaA d) H H' → Has H' (CaL K d { c with pt := c.pt.set n (tnV (ptv c n) c.W place) }) → Q .non H'
theorem sc_Cache_turn_away : FnScope ["self", "number", "place", "pointers", "node"] ["self", "number", "place"] (defScope (inClass (topS 1) 6)) := ⟨rfl, rfl, rfl, by decide +kernel, rfl, by decide +kernel, by decide +kernel⟩
theorem mt_Cache_turn_away (T : Txt fa fn K mg (CsOk cs K w)) : Mt P w K mg base CX0 1 "Cache" "turn_away" ["self", "number", "place"] (sp_Cache_turn_away K) := by
  refine mk_mt (d := mOf "Cache" "turn_away" "Cache.turn_away" (inClass (topS 1) 6)) T 59 rfl rfl rfl rfl sc_Cache_turn_away (by walk_at "len") (fun _ _ _ _ _ _ us hl => match us, hl with | [_, _, _], _ => rfl) (fun cdv A outer s H vs Q E hr h => ⟨_, (pss_cons (ps_set (i := 3) sc_Cache_turn_away.nd rfl (.inl rfl) (pe_ixU (K := K) rfl (hu_of hr) (pe_fldU (K := K) rfl (pv 0) rfl) (pv 1)))
      (pss_cons (ps_set (i := 4) sc_Cache_turn_away.nd rfl (.inl rfl) (pe_op (op_addU (K := K) rfl) (pv 2) (pe_fldU (K := K) rfl (pv 0) rfl)))
      (pss_one (ps_while PassesOwn.never (pt_cmpR o_gt (pv 4) pe_int (nomark _)) (pss_cons (ps_asg (pe_op op_sub pe_int (pe_op o_mod (pv 4) pe_int)) (pg_sub (pv 3) (pe_op o_fdiv (pv 4) pe_int) (set_U (hu_of hr))))
      (pss_one (ps_aug (i := 4) sc_Cache_turn_away.nd rfl (.inl rfl) pe_int io_fdiv))))))), ?_⟩)
  obtain ⟨d, c, n, place, rfl, M, wf, hn, hpl, hQ⟩ := h
  obtain ⟨a, ha, ha2⟩ := ref_at (as := d.gs) (n := n) (by rw [wf.lg]; exact hn)
  have hw := wf.w0
  have hw1 := wf.w1
  have hq : n < c.pt.length := by rw [wf.lq]; exact hn
  walk_at "go"
  refine g_ixL (SqL.of (M.get 3 rfl)) rfl ha2 ?_
  walk_at "go"
  refine ⟨fun m σ H' => ∃ (node : Nat) (r : List Int), σ = [some (.ref d.p), some (.int n), some (.int place), some (.ref a), some (.int node)] ∧ Keep (CaA d) H H' ∧ Has H' (CaL K d { c with pt := c.pt.set n r }) ∧ r.length = c.W ∧ m = node ∧ node ≤ place + c.W ∧ node < 2 * c.W ∧ tnGo (place + c.W) node r = tnV (ptv c n) c.W place,
    ⟨_, place + c.W, ptv c n, rfl, Keep.refl, ?_, wf.ptL hn, rfl, Nat.le_refl _, by omega, rfl⟩, ?_⟩
  · have e : c.pt.set n (ptv c n) = c.pt := by
      apply List.ext_getElem?
      intro j
      rw [List.getElem?_set]
      split
      · rename_i e; subst e
        exact (getD_some hq).symm
      · rfl
    rw [e]
    exact M
  rintro m σ H' ⟨node, r, rfl, kp, M', hr, hm, h1, h2, h3⟩
  walk_at "go"
  refine g_if (fun h => ?_) (fun h => ?_)
  · refine g_whileT ?_
    have hl : 1 < node := by omega
    walk_at "go"
    have hrow := ca_pt M' ha (r := r) (by
      show (c.pt.set n r)[n]? = some r
      rw [List.getElem?_set, if_pos rfl, if_pos hq])
    refine .inl ⟨a, r.map V.int, _, node / 2, rfl, rfl, hrow, ?_, ?_⟩
    · unfold ixN
      rw [List.length_map, if_pos (by omega), if_pos (by omega)]
      congr 1
    have M2 := ca_pt_set (r' := r.set (node / 2) (1 - (node : Int) % 2)) M' ha (r := r) (by
      show (c.pt.set n r)[n]? = some r
      rw [List.getElem?_set, if_pos rfl, if_pos hq])
    rw [List.map_set] at M2
    have e2 : ({ { c with pt := c.pt.set n r } with pt := ({ c with pt := c.pt.set n r } : CSt).pt.set n (r.set (node / 2) (1 - (node : Int) % 2)) } : CSt) = { c with pt := c.pt.set n (r.set (node / 2) (1 - (node : Int) % 2)) } := by
      simp [List.set_set]
    rw [e2] at M2
    walk_at "go"
    refine ⟨node / 2, by omega, node / 2, r.set (node / 2) (1 - (node : Int) % 2), rfl, kp.trans (Keep.set (caA_g ha)), M2, by rw [List.length_set]; exact hr, rfl, by omega, by omega, ?_⟩
    rw [← tnGo_step hl h1]
    exact h3
  · walk_at "go"
    have e : r = tnV (ptv c n) c.W place := by rw [← h3, tnGo_end (by omega)]
    rw [← e] at hQ
    exact hQ H' kp M'

def sp_Cache_free_place (K : PySem.W.Frag) : Sp := fun vs H Q _ => ∃ (d : CAd) (c : CSt) (n : Nat), vs = [.ref d.p, .int n] ∧ Has H (CaL K d c) ∧ CWf d c ∧ n < c.S ∧ Q (.int (fpV c n : Nat)) H
theorem sc_Cache_free_place : FnScope ["self", "number", "row", "times"] ["self", "number"] (defScope (inClass (topS 1) 4)) := ⟨rfl, rfl, rfl, by decide +kernel, rfl, by decide +kernel, by decide +kernel⟩
theorem mt_Cache_free_place (T : Txt fa fn K mg (CsOk cs K w)) : Mt P w K mg base CX0 2 "Cache" "free_place" ["self", "number"] (sp_Cache_free_place K) := by
  refine mk_mt (d := mOf "Cache" "free_place" "Cache.free_place" (inClass (topS 1) 4)) T 57 rfl rfl rfl rfl sc_Cache_free_place (by walk_at "len") (fun _ _ _ _ _ _ us hl => match us, hl with | [_, _], _ => rfl) (fun cdv A outer s H vs Q E hr h => ⟨_, (pss_cons (ps_set (i := 2) sc_Cache_free_place.nd rfl (.inl rfl) (pe_ixU (K := K) rfl (hu_of hr) (pe_fldU (K := K) rfl (pv 0) rfl) (pv 1)))
      (pss_cons (ps_if (pt_cmpR (op_inU (K := K) rfl (hu65 hr)) pe_non (pv 2) (by rfl)) (pss_one (ps_ret (pe_bm PySem.F.plainAttrs_list PySem.F.slot_list_index PySem.F.type_list_index (m_index (K := K) rfl) (pv 2) (pa_cons pe_non pa_nil)))) pss_nil)
      (pss_cons (ps_if (pt_cmpR (op_eqU (K := K) rfl hr.units) (pe_fldU (K := K) rfl (pv 0) rfl) pe_str (nomark _)) (pss_one (ps_ret (pe_methD (K := K) rfl (mt_Cache_pointed_place T) (cl_Cache T) (T.meth 63 rfl) (hr.mono (by decide)) pass0 (pv 0) (pa_cons (pv 1) pa_nil)))) pss_nil)
      (pss_cons (ps_set (i := 3) sc_Cache_free_place.nd rfl (.inl rfl) (pe_ixU (K := K) rfl (hu_of hr) (pe_fldU (K := K) rfl (pv 0) rfl) (pv 1)))
      (pss_one (ps_ret (pe_bm PySem.F.plainAttrs_list PySem.F.slot_list_index PySem.F.type_list_index (m_index (K := K) rfl) (pv 3) (pa_cons (pe_callB (c_min1 (K := K) rfl rfl) rfl (T.free 130 rfl) (by decide +kernel) (pa_cons (pv 3) pa_nil)) pa_nil)))))))), ?_⟩)
  obtain ⟨d, c, n, rfl, M, wf, hn, hQ⟩ := h
  obtain ⟨a, ha, ha2⟩ := ref_at (as := d.as) (n := n) (by rw [wf.la]; exact hn)
  have hr := ca_pl M ha (getD_some (d := []) (by rw [wf.lp]; exact hn))
  obtain ⟨b, hb, hb2⟩ := ref_at (as := d.bs) (n := n) (by rw [wf.lb]; exact hn)
  have ht := ca_tm M hb (getD_some (d := []) (by rw [wf.lt]; exact hn))
  unfold fpV at hQ
  walk_at "go"
  refine g_ixL (SqL.of (M.get 1 rfl)) rfl ha2 ?_
  walk_at "go"
  refine g_inO (x := none) rfl hr ?_
  walk_at "go"
  refine g_if (fun h => ?_) (fun h => ?_)
  · have h' : none ∈ row c n := h
    rw [if_pos h'] at hQ
    walk_at "go"
    exact g_indexO (x := none) rfl hr h hQ
  · have h' : ¬ none ∈ row c n := h
    rw [if_neg h'] at hQ
    walk_at "go"
    refine g_if (fun h2 => ?_) (fun h2 => ?_)
    · rw [if_pos h2] at hQ
      walk_at "go"
      exact ⟨d, c, n, rfl, M, wf, hn, hQ⟩
    · rw [if_neg h2] at hQ
      walk_at "go"
      refine g_ixL (SqL.of (M.get 2 rfl)) rfl hb2 ?_
      walk_at "go"
      refine g_min1 (SqL.of ht) (by have := wf.tmL hn; have := wf.w0; show 0 < (tmv c n).length; omega) fun m hm hle => ?_
      walk_at "go"
      refine g_indexI (SqL.of ht) hm ?_
      have e := mnI_eq hm hle
      rw [← e]
      exact hQ

def sp_Cache_touch (K : PySem.W.Frag) : Sp := fun vs H Q _ => ∃ (d : CAd) (c : CSt) (x : Int), vs = [.ref d.p, .int x] ∧ Has H (CaL K d c) ∧ CWf d c ∧
  ∀ H', Keep (CaA d) H H' → Has H' (CaL K d (tcV c x)) → Q (.bl (decide (hitV c x))) H'
def sp_Cache_drop (K : PySem.W.Frag) : Sp := fun vs H Q _ => ∃ (d : CAd) (c : CSt) (x : Int), vs = [.ref d.p, .int x] ∧ Has H (CaL K d c) ∧ CWf d c ∧
  ∀ H', Keep (CaA d) H H' → Has H' (CaL K d (dpV c x)) → Q (.bl (decide (hitV c x))) H'
theorem sc_Cache_drop : FnScope ["self", "address", "line", "row"] ["self", "address"] (defScope (inClass (topS 1) 7)) := ⟨rfl, rfl, rfl, by decide +kernel, rfl, by decide +kernel, by decide +kernel⟩
theorem mt_Cache_drop (T : Txt fa fn K mg (CsOk cs K w)) : Mt P w K mg base CX0 1 "Cache" "drop" ["self", "address"] (sp_Cache_drop K) := by
  refine mk_mt (d := mOf "Cache" "drop" "Cache.drop" (inClass (topS 1) 7)) T 60 rfl rfl rfl rfl sc_Cache_drop (by walk_at "len") (fun _ _ _ _ _ _ us hl => match us, hl with | [_, _], _ => rfl) (fun cdv A outer s H vs Q E hr h => ⟨_, (pss_cons (ps_set (i := 2) sc_Cache_drop.nd rfl (.inl rfl) (pe_op o_fdiv (pv 1) (pe_fldU (K := K) rfl (pv 0) rfl)))
      (pss_cons (ps_set (i := 3) sc_Cache_drop.nd rfl (.inl rfl) (pe_ixU (K := K) rfl (hu_of hr) (pe_fldU (K := K) rfl (pv 0) rfl) (pe_op o_mod (pv 2) (pe_fldU (K := K) rfl (pv 0) rfl))))
      (pss_cons (ps_if (pt_cmpR (op_niU (K := K) rfl (hu65 hr)) (pv 2) (pv 3) (by rfl)) (pss_one (ps_ret pe_bl)) pss_nil)
      (pss_cons (ps_asg pe_non (pg_sub (pv 3) (pe_bm PySem.F.plainAttrs_list PySem.F.slot_list_index PySem.F.type_list_index (m_index (K := K) rfl) (pv 3) (pa_cons (pv 2) pa_nil)) (set_U (hu_of hr))))
      (pss_one (ps_ret pe_bl)))))), ?_⟩)
  obtain ⟨d, c, x, rfl, M, wf, hQ⟩ := h
  obtain ⟨hn, hne⟩ := wf.nm x
  obtain ⟨a, ha, ha2⟩ := ref_at (as := d.as) (n := nmO c x) (by rw [wf.la]; exact hn)
  have hp := getD_some (l := c.pl) (n := nmO c x) (d := []) (by rw [wf.lp]; exact hn)
  have hr := ca_pl M ha hp
  have z0 := wf.z0
  have z1 := wf.z1
  have s0 := wf.s0
  have s1 := wf.s1
  walk_at "go"
  refine g_ixL (SqL.of (M.get 1 rfl)) (n := nmO c x) hne ha2 ?_
  walk_at "go"
  refine g_inO (x := some (lnO c x)) rfl hr ?_
  walk_at "go"
  refine g_ifN (fun h => ?_) (fun h => ?_)
  · walk_at "go"
    have h' : ¬ hitV c x := h
    have e : dpV c x = c := by unfold dpV; rw [if_neg h']
    rw [decide_eq_false h', e] at hQ
    exact hQ H Keep.refl M
  · have h' : hitV c x := h
    walk_at "go"
    refine g_indexO (x := some (lnO c x)) rfl hr h ?_
    walk_at "go"
    refine .inl ⟨a, _, _, ixo (some (lnO c x)) (row c (nmO c x)), rfl, rfl, hr, ?_, ?_⟩
    · unfold ixN
      have : ixo (some (lnO c x)) (c.pl.getD (nmO c x) []) < (c.pl.getD (nmO c x) []).length := ixo_lt h'
      rw [List.length_map, if_pos (by omega), if_pos (by omega)]
      rfl
    · have M2 := ca_pl_set (r' := (row c (nmO c x)).set (ixo (some (lnO c x)) (row c (nmO c x))) none) M ha hp
      rw [List.map_set] at M2
      walk_at "go"
      have e : dpV c x = { c with pl := c.pl.set (nmO c x) ((row c (nmO c x)).set (ixo (some (lnO c x)) (row c (nmO c x))) none) } := by unfold dpV; rw [if_pos h']
      rw [decide_eq_true h', e] at hQ
      exact hQ _ (Keep.set (caA_a ha)) M2

theorem sc_Cache_touch : FnScope ["self", "address", "line", "number", "row", "hit", "place"] ["self", "address"] (defScope (inClass (topS 1) 3)) := ⟨rfl, rfl, rfl, by decide +kernel, rfl, by decide +kernel, by decide +kernel⟩
theorem mt_Cache_touch (T : Txt fa fn K mg (CsOk cs K w)) : Mt P w K mg base CX0 3 "Cache" "touch" ["self", "address"] (sp_Cache_touch K) := by
  refine mk_mt (d := mOf "Cache" "touch" "Cache.touch" (inClass (topS 1) 3)) T 56 rfl rfl rfl rfl sc_Cache_touch (by walk_at "len") (fun _ _ _ _ _ _ us hl => match us, hl with | [_, _], _ => rfl) (fun cdv A outer s H vs Q E hr h => ⟨_, (pss_cons (ps_set (i := 2) sc_Cache_touch.nd rfl (.inl rfl) (pe_op o_fdiv (pv 1) (pe_fldU (K := K) rfl (pv 0) rfl)))
      (pss_cons (ps_set (i := 3) sc_Cache_touch.nd rfl (.inl rfl) (pe_op o_mod (pv 2) (pe_fldU (K := K) rfl (pv 0) rfl)))
      (pss_cons (ps_set (i := 4) sc_Cache_touch.nd rfl (.inl rfl) (pe_ixU (K := K) rfl (hu_of hr) (pe_fldU (K := K) rfl (pv 0) rfl) (pv 3)))
      (pss_cons (ps_fldaug (pv 0) pe_int in_add)
      (pss_cons (ps_set (i := 5) sc_Cache_touch.nd rfl (.inl rfl) (pe_cmpR (op_inU (K := K) rfl (hu65 hr)) (pv 2) (pv 4) (by rfl)))
      (pss_cons (ps_join (ps_if (pt_tru (K := K) rfl (pv 5)) (pss_one (ps_set (i := 6) sc_Cache_touch.nd rfl (.inl rfl) (pe_bm PySem.F.plainAttrs_list PySem.F.slot_list_index PySem.F.type_list_index (m_index (K := K) rfl) (pv 4) (pa_cons (pv 2) pa_nil)))) (pss_cons (ps_set (i := 6) sc_Cache_touch.nd rfl (.inl rfl) (pe_methD (K := K) rfl (mt_Cache_free_place T) (cl_Cache T) (T.meth 62 rfl) (hr.mono (by decide)) pass0 (pv 0) (pa_cons (pv 3) pa_nil)))
      (pss_one (ps_asg (pv 2) (pg_sub (pv 4) (pv 6) (set_U (hu_of hr))))))))
      (pss_cons (ps_join (ps_if (PW.pt (pw_or (pt_not (pt_tru (K := K) rfl (pv 5))) (pw_or1 (pt_cmpR (op_eqU (K := K) rfl hr.units) (pe_fldU (K := K) rfl (pv 0) rfl) pe_str (nomark _))))) (pss_one (ps_asg (pe_fldU (K := K) rfl (pv 0) rfl) (pg_sub (pe_ixU (K := K) rfl (hu_of hr) (pe_fldU (K := K) rfl (pv 0) rfl) (pv 3)) (pv 6) (set_U (hu_of hr))))) pss_nil))
      (pss_cons (ps_if (pt_cmpR (op_eqU (K := K) rfl hr.units) (pe_fldU (K := K) rfl (pv 0) rfl) pe_str (nomark _)) (pss_one (ps_expr (pe_methD (K := K) rfl (mt_Cache_turn_away T) (cl_Cache T) (T.meth 64 rfl) (hr.mono (by decide)) pass0 (pv 0) (pa_cons (pv 3) (pa_cons (pv 6) pa_nil))))) pss_nil)
      (pss_one (ps_ret (pv 5))))))))))), ?_⟩)
  obtain ⟨d, c, x, rfl, M, wf, hQ⟩ := h
  obtain ⟨hn, hne⟩ := wf.nm x
  obtain ⟨a, ha, ha2⟩ := ref_at (as := d.as) (n := nmO c x) (by rw [wf.la]; exact hn)
  obtain ⟨b, hb, hb2⟩ := ref_at (as := d.bs) (n := nmO c x) (by rw [wf.lb]; exact hn)
  have hp := getD_some (l := c.pl) (n := nmO c x) (d := []) (by rw [wf.lp]; exact hn)
  have htm := getD_some (l := c.tm) (n := nmO c x) (d := []) (by rw [wf.lt]; exact hn)
  have z0 := wf.z0
  have z1 := wf.z1
  have s0 := wf.s0
  have s1 := wf.s1
  walk_at "go"
  refine g_ixL (SqL.of (M.get 1 rfl)) (n := nmO c x) hne ha2 ?_
  walk_at "go"
  refine g_fldaug ?_
  walk_at "go"
  refine g_fa1 (j := 1) M 0 rfl (cl_Cache T) (na_Cache__time T) (lk_ix 7 nd_Cache rfl) ⟨rfl, rfl⟩ (by show 8 < 1000; decide) (pt_ix 7 nd_Cache rfl) (k := fun M1 => ?_)
  have M1 : Has _ (CaL K d { c with t := c.t + 1 }) := M1
  have wf1 : CWf d { c with t := c.t + 1 } := ⟨wf.s0, wf.s1, wf.w0, wf.w1, wf.z0, wf.z1, wf.la, wf.lb, wf.lg, wf.lp, wf.lt, wf.lq, wf.rp, wf.rt, wf.rq⟩
  have k1 : Keep (CaA d) H (upd H d.p (caO K d { c with t := c.t + 1 })) := Keep.set caA_p
  have hr := ca_pl M1 ha hp
  walk_at "go"
  refine g_inO (x := some (lnO c x)) rfl hr ?_
  walk_at "go"
  have hpl := wf.pl_ (x := x)
  refine ⟨fun σ' H' => σ' = [some (.ref d.p), some (.int x), some (.int (lnO c x)), some (.int (nmO c x)), some (.ref a), some (.bl (decide (hitV c x))), some (.int (plO c x : Nat))] ∧ Keep (CaA d) H H' ∧ Has H' (CaL K d { c with t := c.t + 1, pl := (tcV c x).pl }), ?_, ?_⟩
  · walk_at "go"
    refine g_if (fun h => ?_) (fun h => ?_)
    · have h' : hitV c x := h
      walk_at "go"
      refine g_indexO (x := some (lnO c x)) rfl hr h ?_
      walk_at "go"
      refine ⟨?_, k1, ?_⟩
      · unfold plO
        rw [if_pos h', ← hne]
        rfl
      · unfold tcV
        rw [if_pos h']
        exact M1
    · have h' : ¬ hitV c x := h
      walk_at "go"
      refine ⟨d, { c with t := c.t + 1 }, nmO c x, by rw [← hne]; rfl, M1, wf1, hn, ?_⟩
      walk_at "go"
      have e : plO c x = fpV c (nmO c x) := by unfold plO; rw [if_neg h']
      refine .inl ⟨a, _, _, plO c x, rfl, rfl, hr, ?_, ?_⟩
      · have hl : (c.pl.getD (nmO c x) []).length = c.W := wf.rowL hn
        have e2 : fpV { c with t := c.t + 1 } (nmO c x) = plO c x := by rw [e]; rfl
        unfold ixN
        rw [e2, List.length_map, if_pos (by omega), if_pos (by omega)]
        rfl
      · have M2 := ca_pl_set (r' := (row c (nmO c x)).set (plO c x) (some (lnO c x))) M1 ha hp
        rw [List.map_set] at M2
        walk_at "go"
        refine ⟨?_, k1.trans (Keep.set (caA_a ha)), ?_⟩
        · rw [e, ← hne]
          rfl
        · unfold tcV
          rw [if_neg h']
          exact M2
  rintro σ' H' ⟨rfl, k2, M2⟩
  walk_at "go"
  refine ⟨fun σ' H' => σ' = [some (.ref d.p), some (.int x), some (.int (lnO c x)), some (.int (nmO c x)), some (.ref a), some (.bl (decide (hitV c x))), some (.int (plO c x : Nat))] ∧ Keep (CaA d) H H' ∧ Has H' (CaL K d { c with t := c.t + 1, pl := (tcV c x).pl, tm := (tcV c x).tm }), ?_, ?_⟩
  · have yes : (¬ hitV c x ∨ c.P = "lru") → ∀ R : Hp → Prop, (∀ H'', Keep (CaA d) H H'' → Has H'' (CaL K d { c with t := c.t + 1, pl := (tcV c x).pl, tm := (tcV c x).tm }) → R H'') → rSetU (.ref b) (.int (plO c x : Nat)) (.int (c.t + 1)) H' R := by
      intro hy R hR
      have ht := ca_tm M2 hb htm
      refine .inl ⟨b, _, _, plO c x, rfl, rfl, ht, ?_, ?_⟩
      · have hl : (c.tm.getD (nmO c x) []).length = c.W := wf.tmL hn
        unfold ixN
        rw [List.length_map, if_pos (by omega), if_pos (by omega)]
        rfl
      · have M3 := ca_tm_set (r' := (tmv c (nmO c x)).set (plO c x) (c.t + 1)) M2 hb htm
        rw [List.map_set] at M3
        refine hR _ (k2.trans (Keep.set (caA_b hb))) ?_
        have e : (tcV c x).tm = c.tm.set (nmO c x) ((tmv c (nmO c x)).set (plO c x) (c.t + 1)) := by unfold tcV; exact if_pos hy
        rw [e]
        exact M3
    have no : ¬ (¬ hitV c x ∨ c.P = "lru") → Has H' (CaL K d { c with t := c.t + 1, pl := (tcV c x).pl, tm := (tcV c x).tm }) := by
      intro hy
      have e : (tcV c x).tm = c.tm := by unfold tcV; exact if_neg hy
      rw [e]
      exact M2
    walk_at "go"
    refine g_ifN (fun h => ?_) (fun h => ?_)
    · walk_at "go"
      refine g_ixL (SqL.of (M2.get 2 rfl)) (n := nmO c x) rfl hb2 ?_
      walk_at "go"
      refine yes (.inl h) _ fun H3 k3 M3 => ?_
      walk_at "go"
      exact ⟨rfl, k3, M3⟩
    · walk_at "go"
      refine g_if (fun h2 => ?_) (fun h2 => ?_)
      · walk_at "go"
        refine g_ixL (SqL.of (M2.get 2 rfl)) (n := nmO c x) rfl hb2 ?_
        walk_at "go"
        refine yes (.inr h2) _ fun H3 k3 M3 => ?_
        walk_at "go"
        exact ⟨rfl, k3, M3⟩
      · walk_at "go"
        exact ⟨rfl, k2, no (by rintro (h3 | h3); exact h3 h; exact h2 h3)⟩
  rintro σ' H' ⟨rfl, k3, M3⟩
  walk_at "go"
  have wf3 : CWf d { c with t := c.t + 1, pl := (tcV c x).pl, tm := (tcV c x).tm } := by
    have w := wf.tc (x := x)
    exact ⟨wf.s0, wf.s1, wf.w0, wf.w1, wf.z0, wf.z1, wf.la, wf.lb, wf.lg, w.lp, w.lt, wf.lq, w.rp, w.rt, wf.rq⟩
  refine g_if (fun h => ?_) (fun h => ?_)
  · walk_at "go"
    refine ⟨d, _, nmO c x, plO c x, rfl, M3, wf3, hn, hpl, fun H4 k4 M4 => ?_⟩
    walk_at "go"
    refine hQ H4 (k3.trans k4) ?_
    have e : (tcV c x).pt = c.pt.set (nmO c x) (tnV (ptv c (nmO c x)) c.W (plO c x)) := by unfold tcV; exact if_pos h
    have e2 : tcV c x = { c with t := c.t + 1, pl := (tcV c x).pl, tm := (tcV c x).tm, pt := (tcV c x).pt } := rfl
    rw [e2, e]
    exact M4
  · walk_at "go"
    refine hQ H' k3 ?_
    have e : (tcV c x).pt = c.pt := by unfold tcV; exact if_neg h
    have e2 : tcV c x = { c with t := c.t + 1, pl := (tcV c x).pl, tm := (tcV c x).tm, pt := (tcV c x).pt } := rfl
    rw [e2, e]
    exact M3
/-! a new cache -/
abbrev c0V (S W Z : Nat) (P : Str) : CSt := ⟨S, W, Z, P, List.replicate S (List.replicate W none), List.replicate S (List.replicate W 0), List.replicate S (List.replicate W 0), 0⟩
/-- a table in the making -/
abbrev mkL (L : List (Addr × HO)) (D : Addr) (as : List Addr) (r : List V) : List (Addr × HO) := L ++ ((D, .lst (as.map V.ref)) :: tab as (List.replicate as.length r))
theorem mk_snoc {H : Hp} {L : List (Addr × HO)} {D q : Addr} {as : List Addr} {r : List V} (M : Has H (mkL L D as r)) (hq : H q = none) : Has (upd (upd H q (.lst r)) D (.lst (as.map V.ref ++ [.ref q]))) (mkL L D (as ++ [q]) r) := by
  have M1 := M.new (o := .lst r) hq
  have e : mkL L D as r ++ [(q, .lst r)] = L ++ ((D, .lst (as.map V.ref)) :: tab (as ++ [q]) (List.replicate (as ++ [q]).length r)) := by
    rw [List.length_append, List.length_singleton, List.replicate_succ', tab_snoc (by simp)]
    simp [mkL]
  rw [e] at M1
  have h : (L ++ ((D, .lst (as.map V.ref)) :: tab (as ++ [q]) (List.replicate (as ++ [q]).length r)))[L.length]? = some (D, .lst (as.map V.ref)) := by
    rw [List.getElem?_append_right (Nat.le_refl _), Nat.sub_self]
    rfl
  have M2 := M1.set (o' := .lst (as.map V.ref ++ [.ref q])) L.length h
  rw [List.set_append_right _ _ (Nat.le_refl _), Nat.sub_self] at M2
  have e3 : (as ++ [q]).map V.ref = as.map V.ref ++ [.ref q] := by simp
  unfold mkL
  rw [e3]
  exact M2
theorem mk_at {H : Hp} {L : List (Addr × HO)} {D : Addr} {as : List Addr} {r : List V} (M : Has H (mkL L D as r)) : H D = some (.lst (as.map V.ref)) := M.get L.length (by
  rw [List.getElem?_append_right (Nat.le_refl _), Nat.sub_self]
  rfl)
theorem l_rows {σ : L2.St} {H : Hp} {L : List (Addr × HO)} {lo : Int} {n k j w : Nat} {v : V} {vs : List Nat} {Q : VK} (M : Has H L) (hn : n ≤ 1000) (hw : w ≤ 1000) (hσ : ∀ x : V, ((wipe σ vs).set k (some x))[j]? = some (some (.int w))) (hwp : ∀ x : V, wipe ((wipe σ vs).set k (some x)) vs = wipe σ vs)
    (q : ∀ D as H', H D = none → as.length = n → Same H H' → (∀ a ∈ as, H a = none) → Has H' (mkL L D as (List.replicate w v)) → Q (.ref D) H') : LcW (gName k) tYes (tOp rMulU (tLst (tCons (tC v) tNil)) (tVar j)) vs σ Q (Itr lo n) H := by
  refine l_range (fun D i H' => ∃ as, as.length = i ∧ Same H H' ∧ (∀ a ∈ as, H a = none) ∧ Has H' (mkL L D as (List.replicate w v))) (fun D hD => ⟨[], rfl, Same.new hD, (fun _ h => nomatch h), M.new hD⟩) ?_ ?_
  · rintro D hD i H' hi ⟨as, rfl, sm, hf, M'⟩
    refine g_name (g_wipe (hwp _) (g_yes (g_ifT (g_op (g_lst (g_consA (g_c (g_nilA ?_))))))))
    refine ⟨by show 1 ≤ sizeLine; decide, fun u hu => ?_⟩
    refine g_var (hσ _) ?_
    refine g_rep upd_same (by omega) (by omega) (fun p hp => ?_)
    rw [Int.toNat_natCast]
    have M1 : Has (upd H' u (.lst [v])) (mkL L D as (List.replicate w v)) := M'.keep (Same.new hu)
    have sm1 : Same H (upd H' u (.lst [v])) := Same.new' sm hu
    have hD1 := mk_at (M1.keep (Same.new (o := .lst (List.replicate w v)) hp))
    refine ⟨as.map V.ref, hD1, szl (by rw [List.length_map]; omega), as ++ [p], by simp, Same.mut (Same.new' sm1 hp) hD, fun a ha => ?_, mk_snoc M1 hp⟩
    rcases List.mem_append.mp ha with h | h
    · exact hf a h
    · rw [List.mem_singleton.mp h]
      exact sm1.free hp
  · rintro D hD H' ⟨as, ha, sm, hf, M'⟩
    exact q D as H' hD ha sm hf M'
theorem has_ca {K : PySem.W.Frag} {H : Hp} {c : CSt} {d : CAd} {r1 r2 r3 : List V} (M : Has H (mkL (mkL (mkL [(d.p, caO K d c)] d.A d.as r1) d.B d.bs r2) d.G d.gs r3)) (h1 : tab d.as (List.replicate d.as.length r1) = tab d.as (plR c)) (h2 : tab d.bs (List.replicate d.bs.length r2) = tab d.bs (tmR c)) (h3 : tab d.gs (List.replicate d.gs.length r3) = tab d.gs (ptR c)) : Has H (CaL K d c) := by
  unfold mkL at M
  rw [h1, h2, h3] at M
  refine M.perm ?_
  unfold CaL caF
  generalize tab d.as (plR c) = A
  generalize tab d.bs (tmR c) = B
  generalize tab d.gs (ptR c) = C
  rw [List.append_nil]
  simp only [List.cons_append, List.nil_append, List.append_assoc]
  refine .cons _ (.cons _ (List.perm_middle.trans (.cons _ ?_)))
  rw [← List.append_assoc]
  refine List.perm_middle.trans (.cons _ ?_)
  rw [List.append_assoc]
theorem nn {H : Hp} {a : Addr} {o : HO} (h : H a = some o) : H a ≠ none := fun z => by rw [z] at h; cases h
def sp_Cache___init__ (K : PySem.W.Frag) : Sp := fun vs H Q _ => ∃ (x dx s : Addr) (S W Z : Nat) (P : Str), vs = [.ref x, .ref s] ∧ H x = some (.ins (He.ga K "Cache") dx []) ∧ H s = some (.tup [.int S, .int W, .int Z, .str P]) ∧ 0 < S ∧ S ≤ 1000 ∧ 0 < W ∧ W ≤ 1000 ∧ 0 < Z ∧ Z ≤ 1000000 ∧
  ∀ H' d, d.p = x → d.dx = dx → Keep [x] H H' → (∀ a ∈ CaA d, a ≠ x → H a = none) → Has H' (CaL K d (c0V S W Z P)) → CWf d (c0V S W Z P) → Q .non H'
theorem sc_Cache___init__ : FnScope ["self", "settings", "sets", "ways", "line", "policy", "number"] ["self", "settings"] (defScope (inClass (topS 1) 0)) := ⟨rfl, rfl, rfl, by decide +kernel, rfl, by decide +kernel, by decide +kernel⟩
theorem mt_Cache___init__ (T : Txt fa fn K mg (CsOk cs K w)) : Mt P w K mg base CX0 1 "Cache" "__init__" ["self", "settings"] (sp_Cache___init__ K) := by
  refine mk_mt (d := mOf "Cache" "__init__" "Cache.__init__" (inClass (topS 1) 0)) T 53 rfl rfl rfl rfl sc_Cache___init__ (by walk_at "len") (fun _ _ _ _ _ _ us hl => match us, hl with | [_, _], _ => rfl) (fun cdv A outer s H vs Q E hr h => ⟨_, (pss_cons (ps_asg (pv 1) (pg_tup rfl (pgs_cons (pg_name (i := 2) sc_Cache___init__.nd rfl (.inl rfl)) (pgs_cons (pg_name (i := 3) sc_Cache___init__.nd rfl (.inr rfl)) (pgs_cons (pg_name (i := 4) sc_Cache___init__.nd rfl (.inl rfl)) (pgs_cons (pg_name (i := 5) sc_Cache___init__.nd rfl (.inl rfl)) pgs_nil))))))
      (pss_cons (ps_fldU (K := K) rfl (pv 0) (pv 2) rfl)
      (pss_cons (ps_fldU (K := K) rfl (pv 0) (pv 3) rfl)
      (pss_cons (ps_fldU (K := K) rfl (pv 0) (pv 4) rfl)
      (pss_cons (ps_fldU (K := K) rfl (pv 0) (pv 5) rfl)
      (pss_cons (ps_fldU (K := K) rfl (pv 0) (pe_lc rfl sc_Cache___init__.nd (pi_r1 rfl (T.free 131 rfl) (pa_cons (pv 2) pa_nil)) (blkOk_by (own := [("number", 6)]) (N := ["self", "settings", "sets", "ways", "line", "policy", "number"]) (sc := defScope (inClass (topS 1) 0)) (by decide +kernel)) (fun _ _ _ _ _ => (pg_name (i := 6) sc_Cache___init__.nd rfl (.inl rfl))) (fun _ _ _ _ _ => pts_nil) (fun _ _ _ _ _ => (pe_op op_mulU (pe_lst (pa_cons pe_non pa_nil)) (pv 3)))) rfl)
      (pss_cons (ps_fldU (K := K) rfl (pv 0) (pe_lc rfl sc_Cache___init__.nd (pi_r1 rfl (T.free 131 rfl) (pa_cons (pv 2) pa_nil)) (blkOk_by (own := [("number", 6)]) (N := ["self", "settings", "sets", "ways", "line", "policy", "number"]) (sc := defScope (inClass (topS 1) 0)) (by decide +kernel)) (fun _ _ _ _ _ => (pg_name (i := 6) sc_Cache___init__.nd rfl (.inl rfl))) (fun _ _ _ _ _ => pts_nil) (fun _ _ _ _ _ => (pe_op op_mulU (pe_lst (pa_cons pe_int pa_nil)) (pv 3)))) rfl)
      (pss_cons (ps_fldU (K := K) rfl (pv 0) (pe_lc rfl sc_Cache___init__.nd (pi_r1 rfl (T.free 131 rfl) (pa_cons (pv 2) pa_nil)) (blkOk_by (own := [("number", 6)]) (N := ["self", "settings", "sets", "ways", "line", "policy", "number"]) (sc := defScope (inClass (topS 1) 0)) (by decide +kernel)) (fun _ _ _ _ _ => (pg_name (i := 6) sc_Cache___init__.nd rfl (.inl rfl))) (fun _ _ _ _ _ => pts_nil) (fun _ _ _ _ _ => (pe_op op_mulU (pe_lst (pa_cons pe_int pa_nil)) (pv 3)))) rfl)
      (pss_one (ps_fldU (K := K) rfl (pv 0) pe_int rfl)))))))))), ?_⟩)
  obtain ⟨x, dx, s, S, W, Z, P, rfl, hx, hs, s0, s1, w0, w1, z0, z1, hQ⟩ := h
  have M := Has.one hx
  walk_at "go"

  refine g_setF M 0 rfl (cl_Cache T) (na_Cache__sets T) (by show 0 < 1000; decide) (pt_new nf_Cache__sets) (fun M1 => ?_)
  walk_at "go"
  refine g_setF M1 0 rfl (cl_Cache T) (na_Cache__ways T) (by show 1 < 1000; decide) (pt_new nf_Cache__ways) (fun M2 => ?_)
  walk_at "go"
  refine g_setF M2 0 rfl (cl_Cache T) (na_Cache__line T) (by show 2 < 1000; decide) (pt_new nf_Cache__line) (fun M3 => ?_)
  walk_at "go"
  refine g_setF M3 0 rfl (cl_Cache T) (na_Cache__policy T) (by show 3 < 1000; decide) (pt_new nf_Cache__policy) (fun M4 => ?_)
  walk_at "go"
  have k4 : Keep [x] H (upd (upd (upd (upd H x (.ins (He.ga K "Cache") dx [("_sets", .int S)])) x (.ins (He.ga K "Cache") dx [("_sets", .int S), ("_ways", .int W)])) x (.ins (He.ga K "Cache") dx [("_sets", .int S), ("_ways", .int W), ("_line", .int Z)])) x (.ins (He.ga K "Cache") dx [("_sets", .int S), ("_ways", .int W), ("_line", .int Z), ("_policy", .str P)])) := (((Keep.set (by simp)).trans (Keep.set (by simp))).trans (Keep.set (by simp))).trans (Keep.set (by simp))
  have bk : ∀ {H' : Hp} {a : Addr}, Keep [x] H H' → H' x ≠ none → H' a = none → H a = none := by
    intro H' a k h1 h2
    refine k.back h2 ?_
    rw [List.mem_singleton]
    intro e
    subst e
    exact h1 h2
  have x4 := M4.get 0 rfl
  refine l_rows (w := W) M4 (by omega) w1 (fun _ => rfl) (fun _ => rfl) (fun DA as H5 hDA las sm5 fa5 M5 => ?_)
  have hDA' := bk k4 (nn x4) hDA
  have fa5' : ∀ a ∈ as, H a = none := fun a h => bk k4 (nn x4) (fa5 a h)
  have k5 := k4.trans (Keep.of sm5)
  walk_at "go"
  refine g_setF M5 0 rfl (cl_Cache T) (na_Cache__places T) (by show 4 < 1000; decide) (pt_new nf_Cache__places) (fun M6 => ?_)
  have k6 := k5.trans (Keep.set (a := x) (o := .ins (He.ga K "Cache") dx [("_sets", .int S), ("_ways", .int W), ("_line", .int Z), ("_policy", .str P), ("_places", .ref DA)]) (by simp))
  have x6 := M6.get 0 rfl
  walk_at "go"
  refine l_rows (w := W) M6 (by omega) w1 (fun _ => rfl) (fun _ => rfl) (fun DB bs H7 hDB lbs sm7 fa7 M7 => ?_)
  have hDB' := bk k6 (nn x6) hDB
  have fa7' : ∀ a ∈ bs, H a = none := fun a h => bk k6 (nn x6) (fa7 a h)
  have k7 := k6.trans (Keep.of sm7)
  walk_at "go"
  refine g_setF M7 0 rfl (cl_Cache T) (na_Cache__times T) (by show 5 < 1000; decide) (pt_new nf_Cache__times) (fun M8 => ?_)
  have k8 := k7.trans (Keep.set (a := x) (o := .ins (He.ga K "Cache") dx [("_sets", .int S), ("_ways", .int W), ("_line", .int Z), ("_policy", .str P), ("_places", .ref DA), ("_times", .ref DB)]) (by simp))
  have x8 := M8.get 0 rfl
  walk_at "go"
  refine l_rows (w := W) M8 (by omega) w1 (fun _ => rfl) (fun _ => rfl) (fun DG gs H9 hDG lgs sm9 fa9 M9 => ?_)
  have hDG' := bk k8 (nn x8) hDG
  have fa9' : ∀ a ∈ gs, H a = none := fun a h => bk k8 (nn x8) (fa9 a h)
  have k9 := k8.trans (Keep.of sm9)
  walk_at "go"
  refine g_setF M9 0 rfl (cl_Cache T) (na_Cache__pointers T) (by show 6 < 1000; decide) (pt_new nf_Cache__pointers) (fun M10 => ?_)
  have k10 := k9.trans (Keep.set (a := x) (o := .ins (He.ga K "Cache") dx [("_sets", .int S), ("_ways", .int W), ("_line", .int Z), ("_policy", .str P), ("_places", .ref DA), ("_times", .ref DB), ("_pointers", .ref DG)]) (by simp))
  walk_at "go"
  refine g_setF M10 0 rfl (cl_Cache T) (na_Cache__time T) (by show 7 < 1000; decide) (pt_new nf_Cache__time) (fun M11 => ?_)
  have k11 := k10.trans (Keep.set (a := x) (o := .ins (He.ga K "Cache") dx [("_sets", .int S), ("_ways", .int W), ("_line", .int Z), ("_policy", .str P), ("_places", .ref DA), ("_times", .ref DB), ("_pointers", .ref DG), ("_time", .int 0)]) (by simp))
  walk_at "go"
  rw [Int.toNat_natCast] at las lbs lgs
  refine hQ _ ⟨x, dx, DA, DB, DG, as, bs, gs⟩ rfl rfl k11 ?_ (has_ca (r1 := List.replicate W .non) (r2 := List.replicate W (.int 0)) (r3 := List.replicate W (.int 0)) M11 ?_ ?_ ?_) ?_
  · intro a ha hne
    simp only [CaA, List.mem_append, List.mem_cons, List.not_mem_nil, or_false] at ha
    rcases ha with (rfl | rfl | rfl | rfl) | h | h | h
    · exact (hne rfl).elim
    · exact hDA'
    · exact hDB'
    · exact hDG'
    · exact fa5' a h
    · exact fa7' a h
    · exact fa9' a h
  · show tab as (List.replicate as.length _) = tab as ((List.replicate S (List.replicate W none)).map (·.map ovV))
    rw [las, List.map_replicate, List.map_replicate]
    rfl
  · show tab bs (List.replicate bs.length _) = tab bs ((List.replicate S (List.replicate W 0)).map (·.map V.int))
    rw [lbs, List.map_replicate, List.map_replicate]
  · show tab gs (List.replicate gs.length _) = tab gs ((List.replicate S (List.replicate W 0)).map (·.map V.int))
    rw [lgs, List.map_replicate, List.map_replicate]
  · refine ⟨s0, s1, w0, w1, z0, z1, las, lbs, lgs, List.length_replicate, List.length_replicate, List.length_replicate, ?_, ?_, ?_⟩
    · intro r hr
      rw [List.eq_of_mem_replicate hr, List.length_replicate]
    · intro r hr
      rw [List.eq_of_mem_replicate hr, List.length_replicate]
    · intro r hr
      rw [List.eq_of_mem_replicate hr, List.length_replicate]
      exact ⟨rfl, fun y hy => .inl (List.eq_of_mem_replicate hy)⟩
/-! for the callers -/
section
variable {K : PySem.W.Frag} {H : Hp} {X Y : List (Addr × HO)} {d : CAd} {c : CSt} {x : Int} {Q : VK} {E : XK}
theorem use_touch (M : Has H (X ++ (CaL K d c ++ Y))) (wf : CWf d c) (k : ∀ H', Keep (CaA d) H H' → Has H' (X ++ (CaL K d (tcV c x) ++ Y)) → Q (.bl (decide (hitV c x))) H') : sp_Cache_touch K (.ref d.p :: ([.int x] ++ [])) H Q E :=
  ⟨d, c, x, rfl, M.mid, wf, fun H' kp M' => k H' kp (M.frame (by rw [ca_fst wf]; exact kp) M' (by rw [ca_fst wf, ca_fst wf.tc]))⟩
theorem use_drop (M : Has H (X ++ (CaL K d c ++ Y))) (wf : CWf d c) (k : ∀ H', Keep (CaA d) H H' → Has H' (X ++ (CaL K d (dpV c x) ++ Y)) → Q (.bl (decide (hitV c x))) H') : sp_Cache_drop K (.ref d.p :: ([.int x] ++ [])) H Q E :=
  ⟨d, c, x, rfl, M.mid, wf, fun H' kp M' => k H' kp (M.frame (by rw [ca_fst wf]; exact kp) M' (by rw [ca_fst wf, ca_fst wf.dp]))⟩
theorem has_join {H : Hp} {L L' : List (Addr × HO)} (M : Has H L) (M' : Has H L') (h : ∀ a ∈ L'.map (·.1), a ∉ L.map (·.1)) : Has H (L ++ L') where
  nd := by
    rw [List.map_append, List.nodup_append]
    exact ⟨M.nd, M'.nd, fun a ha b hb e => h b hb (e ▸ ha)⟩
  is_ := fun p hp => by
    rcases List.mem_append.mp hp with h | h
    · exact M.is_ p h
    · exact M'.is_ p h
theorem use_cache {L : List (Addr × HO)} {p dx s : Addr} {S W Z : Nat} {P : Str} {R : Hp → Prop} (M : Has H L) (hx : H p = none) (hd : H dx = none) (hs : H s = some (.tup [.int S, .int W, .int Z, .str P])) (s0 : 0 < S) (s1 : S ≤ 1000) (w0 : 0 < W) (w1 : W ≤ 1000) (z0 : 0 < Z) (z1 : Z ≤ 1000000)
    (k : ∀ H' d, d.p = p → Same H H' → Has H' (L ++ CaL K d (c0V S W Z P)) → CWf d (c0V S W Z P) → R H') :
    sp_Cache___init__ K (.ref p :: ([.ref s] ++ [])) (upd (upd H dx (.own p)) p (.ins (He.ga K "Cache") dx [])) (fun v H2 => v = .non ∧ R H2) E := by
  refine ⟨p, dx, s, S, W, Z, P, rfl, upd_same, made_same hx hd _ _ hs, s0, s1, w0, w1, z0, z1, fun H' d e1 e2 kp fr M' wf => ⟨rfl, ?_⟩⟩
  have sm : Same H H' := fun b o e => kp b o (made_same hx hd _ _ e) (fun z => by
    rw [List.mem_singleton] at z
    subst z
    rw [hx] at e
    cases e)
  refine k H' d e1 sm (has_join (M.keep sm) M' ?_) wf
  intro a ha
  rw [ca_fst wf] at ha
  by_cases h : a = p
  · subst h
    exact M.fresh hx
  · exact M.fresh (made_none (fr a ha h)).1
end


/-! ### the predictor -/
/-- its counters' place -/
def plV (k : Str) (h : Int) (n : Nat) (row : Int) : Int := if k = "history" then Builtin.bitXor (row % n) h else row % n
/-- where it may be asked -/
structure PrOk (k : Str) (b h : Int) (cs : List Int) : Prop where
  kind : k = "taken" ∨ (k = "two" ∧ 0 < cs.length) ∨ (k = "history" ∧ 0 ≤ b ∧ b ≤ 60 ∧ cs.length = 2 ^ b.toNat ∧ 0 ≤ h ∧ h < 2 ^ b.toNat)
theorem th_ne : ¬ ("taken" : Str) = "history" := by decide +kernel
theorem t2_ne : ¬ ("two" : Str) = "history" := by decide +kernel
theorem t2_nt : ¬ ("two" : Str) = "taken" := by decide +kernel
theorem tt_ne : ¬ ("taken" : Str) = "two" := by decide +kernel
theorem h2_ne : ¬ ("history" : Str) = "two" := by decide +kernel
theorem ht_ne : ¬ ("history" : Str) = "taken" := by decide +kernel
theorem pw_cast (n : Nat) : ((2 ^ n : Nat) : Int) = 2 ^ n := by simp
theorem pw_int (n : Nat) : (2 : Int) ^ n = ((2 ^ n : Nat) : Int) := by simp
theorem PrOk.pl {k : Str} {b h row : Int} {cs : List Int} (o : PrOk k b h cs) (nt : ¬ k = "taken") : 0 < cs.length ∧ 0 ≤ plV k h cs.length row ∧ plV k h cs.length row < cs.length := by
  rcases o.kind with e | ⟨e, h0⟩ | ⟨e, h0, h1, h2, h3, h4⟩
  · exact (nt e).elim
  · subst e
    unfold plV
    rw [if_neg t2_ne]
    refine ⟨h0, Int.emod_nonneg _ (by omega), Int.emod_lt_of_pos _ (by omega)⟩
  · subst e
    have hp : 0 < cs.length := by rw [h2]; exact Nat.two_pow_pos _
    unfold plV
    rw [if_pos rfl]
    have a0 : 0 ≤ row % (cs.length : Int) := Int.emod_nonneg _ (by omega)
    have a1 : row % (cs.length : Int) < cs.length := Int.emod_lt_of_pos _ (by omega)
    refine ⟨hp, Bits.bitXor_nonneg a0 h3, ?_⟩
    rw [Bits.bitXor_pp a0 h3]
    have e1 : (row % (cs.length : Int)).toNat < 2 ^ b.toNat := by rw [← h2]; omega
    have e2 : h.toNat < 2 ^ b.toNat := by
      rw [pw_int] at h4
      omega
    have := Nat.xor_lt_two_pow e1 e2
    rw [← h2] at this
    exact Int.ofNat_lt.mpr this
/-- the predictor at p, its counters at c -/
abbrev prO (K : PySem.W.Frag) (dx : Addr) (k : Str) (b h : Int) (c : Addr) : HO := .ins (He.ga K "Predictor") dx (fs_Predictor (.str k) (.int b) (.int h) (.ref c))
abbrev ctO (cs : List Int) : HO := .lst (cs.map V.int)
def sp_Predictor_place_of (K : PySem.W.Frag) : Sp := fun vs H Q _ => ∃ (p dx c : Addr) (k : Str) (b h : Int) (cs : List Int) (row : Int), vs = [.ref p, .int row] ∧ H p = some (prO K dx k b h c) ∧ H c = some (ctO cs) ∧ 0 < cs.length ∧ Q (.int (plV k h cs.length row)) H
theorem sc_Predictor_place_of : FnScope ["self", "row", "place"] ["self", "row"] (defScope (inClass (topS 11) 1)) := ⟨rfl, rfl, rfl, by decide +kernel, rfl, by decide +kernel, by decide +kernel⟩
theorem mt_Predictor_place_of (T : Txt fa fn K mg (CsOk cs K w)) : Mt P w K mg base CX0 1 "Predictor" "place_of" ["self", "row"] (sp_Predictor_place_of K) := by
  refine mk_mt (d := mOf "Predictor" "place_of" "Predictor.place_of" (inClass (topS 11) 1)) T 62 rfl rfl rfl rfl sc_Predictor_place_of (by walk_at "len") (fun _ _ _ _ _ _ us hl => match us, hl with | [_, _], _ => rfl) (fun cdv A outer s H vs Q E hr h => ⟨_, (pss_cons (ps_set (i := 2) sc_Predictor_place_of.nd rfl (.inl rfl) (pe_op o_mod (pv 1) (pe_callB (c_len (K := K) rfl) rfl (T.free 127 rfl) (by decide +kernel) (pa_cons (pe_fldU (K := K) rfl (pv 0) rfl) pa_nil))))
      (pss_cons (ps_if (pt_cmpR (op_eqU (K := K) rfl hr.units) (pe_fldU (K := K) rfl (pv 0) rfl) pe_str (nomark _)) (pss_one (ps_set (i := 2) sc_Predictor_place_of.nd rfl (.inl rfl) (pe_op op_xor (pv 2) (pe_fldU (K := K) rfl (pv 0) rfl)))) pss_nil)
      (pss_one (ps_ret (pv 2))))), ?_⟩)
  obtain ⟨p, dx, c, k, b, h, cs, row, rfl, hp, hc, h0, hQ⟩ := h
  have hl : (cs.map V.int).length = cs.length := List.length_map _
  walk_at "go"
  refine g_if (fun h1 => ?_) (fun h1 => ?_)
  · walk_at "go"
    refine q_int ?_ hQ
    unfold plV
    rw [if_pos h1]
  · walk_at "go"
    refine q_int ?_ hQ
    unfold plV
    rw [if_neg h1]
def gsV (k : Str) (h : Int) (cs : List Int) (row : Int) : Bool := if k = "taken" then true else decide (2 ≤ cs.getD (plV k h cs.length row).toNat 0)
def sp_Predictor_guess (K : PySem.W.Frag) : Sp := fun vs H Q _ => ∃ (p dx c : Addr) (k : Str) (b h : Int) (cs : List Int) (row : Int), vs = [.ref p, .int row] ∧ H p = some (prO K dx k b h c) ∧ H c = some (ctO cs) ∧ PrOk k b h cs ∧ Q (.bl (gsV k h cs row)) H
theorem getD_at {cs : List Int} {i : Int} (h0 : 0 ≤ i) (h1 : i < cs.length) : (cs.map V.int)[i.toNat]? = some (.int (cs.getD i.toNat 0)) := by
  rw [List.getElem?_map, List.getD_eq_getElem?_getD, List.getElem?_eq_getElem (by omega)]
  rfl
theorem sc_Predictor_guess : FnScope ["self", "row"] ["self", "row"] (defScope (inClass (topS 11) 2)) := ⟨rfl, rfl, rfl, by decide +kernel, rfl, by decide +kernel, by decide +kernel⟩
theorem mt_Predictor_guess (T : Txt fa fn K mg (CsOk cs K w)) : Mt P w K mg base CX0 2 "Predictor" "guess" ["self", "row"] (sp_Predictor_guess K) := by
  refine mk_mt (d := mOf "Predictor" "guess" "Predictor.guess" (inClass (topS 11) 2)) T 63 rfl rfl rfl rfl sc_Predictor_guess (by walk_at "len") (fun _ _ _ _ _ _ us hl => match us, hl with | [_, _], _ => rfl) (fun cdv A outer s H vs Q E hr h => ⟨_, (pss_cons (ps_if (pt_cmpR (op_eqU (K := K) rfl hr.units) (pe_fldU (K := K) rfl (pv 0) rfl) pe_str (nomark _)) (pss_one (ps_ret pe_bl)) pss_nil)
      (pss_one (ps_ret (pe_cmpR o_ge (pe_ixU (K := K) rfl (hu_of hr) (pe_fldU (K := K) rfl (pv 0) rfl) (pe_methD (K := K) rfl (mt_Predictor_place_of T) (cl_Predictor T) (T.meth 76 rfl) (hr.mono (by decide)) pass0 (pv 0) (pa_cons (pv 1) pa_nil))) pe_int (nomark _))))), ?_⟩)
  obtain ⟨p, dx, c, k, b, h, cs, row, rfl, hp, hc, ok, hQ⟩ := h
  walk_at "go"
  refine g_if (fun h1 => ?_) (fun h1 => ?_)
  · walk_at "go"
    refine q_bl ?_ hQ
    unfold gsV
    rw [if_pos h1]
  · walk_at "go"
    obtain ⟨h0, h2, h3⟩ := ok.pl (row := row) h1
    refine ⟨p, dx, c, k, b, h, cs, row, rfl, hp, hc, h0, ?_⟩
    walk_at "go"
    refine g_ixL (SqL.of hc) (n := (plV k h cs.length row).toNat) (by omega) (getD_at h2 h3) ?_
    walk_at "go"
    refine q_bl ?_ hQ
    unfold gsV
    rw [if_neg h1]
/-- a counter turned -/
def upV (t : Bool) (c : Int) : Int := if t then min 3 (c + 1) else max 0 (c - 1)
def lcV (k : Str) (h : Int) (cs : List Int) (row : Int) (t : Bool) : List Int := if k = "taken" then cs else cs.set (plV k h cs.length row).toNat (upV t (cs.getD (plV k h cs.length row).toNat 0))
def lhV (k : Str) (b h : Int) (t : Bool) : Int := if k = "history" then (2 * h + if t then 1 else 0) % 2 ^ b.toNat else h
def sp_Predictor_learn (K : PySem.W.Frag) : Sp := fun vs H Q _ => ∃ (p dx c : Addr) (k : Str) (b h : Int) (cs : List Int) (row : Int) (t : Bool), vs = [.ref p, .int row, .bl t] ∧ H p = some (prO K dx k b h c) ∧ H c = some (ctO cs) ∧ PrOk k b h cs ∧
  ∀ H', Keep [p, c] H H' → H' p = some (prO K dx k b (lhV k b h t) c) → H' c = some (ctO (lcV k h cs row t)) → Q .non H'
theorem set_map_int {cs : List Int} {n : Nat} {x : Int} : (cs.map V.int).set n (.int x) = (cs.set n x).map V.int := by rw [List.map_set]
theorem sc_Predictor_learn : FnScope ["self", "row", "taken", "place"] ["self", "row", "taken"] (defScope (inClass (topS 11) 3)) := ⟨rfl, rfl, rfl, by decide +kernel, rfl, by decide +kernel, by decide +kernel⟩
theorem mt_Predictor_learn (T : Txt fa fn K mg (CsOk cs K w)) : Mt P w K mg base CX0 2 "Predictor" "learn" ["self", "row", "taken"] (sp_Predictor_learn K) := by
  refine mk_mt (d := mOf "Predictor" "learn" "Predictor.learn" (inClass (topS 11) 3)) T 64 rfl rfl rfl rfl sc_Predictor_learn (by walk_at "len") (fun _ _ _ _ _ _ us hl => match us, hl with | [_, _, _], _ => rfl) (fun cdv A outer s H vs Q E hr h => ⟨_, (pss_cons (ps_if (pt_cmpR (op_eqU (K := K) rfl hr.units) (pe_fldU (K := K) rfl (pv 0) rfl) pe_str (nomark _)) (pss_one ps_retN) pss_nil)
      (pss_cons (ps_set (i := 3) sc_Predictor_learn.nd rfl (.inl rfl) (pe_methD (K := K) rfl (mt_Predictor_place_of T) (cl_Predictor T) (T.meth 76 rfl) (hr.mono (by decide)) pass0 (pv 0) (pa_cons (pv 1) pa_nil)))
      (pss_cons (ps_join (ps_if (pt_tru (K := K) rfl (pv 2)) (pss_one (ps_asg (pe_callB (c_min2 rfl) rfl (T.free 130 rfl) (by decide +kernel) (pa_cons pe_int (pa_cons (pe_op (op_addU (K := K) rfl) (pe_ixU (K := K) rfl (hu_of hr) (pe_fldU (K := K) rfl (pv 0) rfl) (pv 3)) pe_int) pa_nil))) (pg_sub (pe_fldU (K := K) rfl (pv 0) rfl) (pv 3) (set_U (hu_of hr))))) (pss_one (ps_asg (pe_callB (c_max2 rfl) rfl (T.free 129 rfl) (by decide +kernel) (pa_cons pe_int (pa_cons (pe_op op_sub (pe_ixU (K := K) rfl (hu_of hr) (pe_fldU (K := K) rfl (pv 0) rfl) (pv 3)) pe_int) pa_nil))) (pg_sub (pe_fldU (K := K) rfl (pv 0) rfl) (pv 3) (set_U (hu_of hr)))))))
      (pss_one (ps_if (pt_cmpR (op_eqU (K := K) rfl hr.units) (pe_fldU (K := K) rfl (pv 0) rfl) pe_str (nomark _)) (pss_one (ps_fldU (K := K) rfl (pv 0) (pe_op o_mod (pe_op (op_addU (K := K) rfl) (pe_op op_mulU pe_int (pe_fldU (K := K) rfl (pv 0) rfl)) (pe_callTy c_int rfl (T.free 125 rfl) (by decide +kernel) (pa_cons (pv 2) pa_nil))) (pe_op o_shl pe_int (pe_fldU (K := K) rfl (pv 0) rfl))) rfl)) pss_nil))))), ?_⟩)
  obtain ⟨p, dx, c, k, b, h, cs, row, t, rfl, hp, hc, ok, hQ⟩ := h
  walk_at "go"
  refine g_if (fun h1 => ?_) (fun h1 => ?_)
  · walk_at "go"
    refine hQ H Keep.refl ?_ ?_
    · unfold lhV
      rw [if_neg (fun e => ht_ne (e.symm.trans h1))]
      exact hp
    · unfold lcV
      rw [if_pos h1]
      exact hc
  walk_at "go"
  obtain ⟨h0, h2, h3⟩ := ok.pl (row := row) h1
  refine ⟨p, dx, c, k, b, h, cs, row, rfl, hp, hc, h0, ?_⟩
  walk_at "go"
  have M : Has H [(p, prO K dx k b h c), (c, ctO cs)] := ⟨by
    have ne : p ≠ c := ne_of hp hc (by intro z; cases z)
    simp [ne], fun q hq => by
    rcases List.mem_cons.mp hq with e | hq
    · rw [e]; exact hp
    · rw [List.mem_singleton.mp hq]; exact hc⟩
  have hix := getD_at h2 h3
  have hl : (cs.map V.int).length = cs.length := List.length_map _
  refine ⟨fun σ H' => σ = [some (.ref p), some (.int row), some (.bl t), some (.int (plV k h cs.length row))] ∧ Keep [p, c] H H' ∧ Has H' [(p, prO K dx k b h c), (c, ctO (lcV k h cs row t))], ?_, ?_⟩
  · walk_at "go"
    have fin : ∀ x, x = upV t (cs.getD (plV k h cs.length row).toNat 0) → Has (upd H c (.lst ((cs.map V.int).set (plV k h cs.length row).toNat (.int x)))) [(p, prO K dx k b h c), (c, ctO (lcV k h cs row t))] := fun x e => by
      have z : ctO (lcV k h cs row t) = .lst ((cs.map V.int).set (plV k h cs.length row).toNat (.int x)) := by
        unfold ctO lcV
        rw [if_neg h1, set_map_int, e]
      rw [z]
      exact M.set 1 rfl
    cases t with
    | true =>
      walk_at "go"
      refine g_ixL (SqL.of hc) (n := (plV k h cs.length row).toNat) (by omega) hix ?_
      walk_at "go"
      refine g_setU M 1 rfl (m := (plV k h cs.length row).toNat) (by omega) (by omega) (fun _ => ?_)
      walk_at "go"
      refine ⟨rfl, Keep.set (by simp), fin _ ?_⟩
      unfold upV
      simp only [if_true]
      omega
    | false =>
      walk_at "go"
      refine g_ixL (SqL.of hc) (n := (plV k h cs.length row).toNat) (by omega) hix ?_
      walk_at "go"
      refine g_setU M 1 rfl (m := (plV k h cs.length row).toNat) (by omega) (by omega) (fun _ => ?_)
      walk_at "go"
      refine ⟨rfl, Keep.set (by simp), fin _ ?_⟩
      unfold upV
      simp only [Bool.false_eq_true, if_false]
      omega
  rintro σ H1 ⟨rfl, k1, M1⟩
  walk_at "go"
  have hp1 := M1.get 0 rfl
  refine g_if (fun h4 => ?_) (fun h4 => ?_)
  · walk_at "go"
    rcases ok.kind with e | ⟨e, _⟩ | ⟨e, b0, b1, b2, b3, b4⟩
    · exact (h1 e).elim
    · exact (t2_ne (e.symm.trans h4)).elim
    have hpw : (0 : Int) < 1 * 2 ^ b.toNat := by
      have := Nat.two_pow_pos b.toNat
      rw [pw_int]
      omega
    refine g_shl (by omega) (by omega) (by decide) ?_
    refine g_mod hpw ?_
    walk_at "go"
    refine g_setF M1 0 rfl (cl_Predictor T) (na_Predictor__history T) (by show 4 < 1000; decide) (pt_ix 2 nd_Predictor rfl) (fun M2 => ?_)
    walk_at "go"
    have e : lhV k b h t = (2 * h + if t then 1 else 0) % (1 * 2 ^ b.toNat) := by
      unfold lhV
      rw [if_pos h4, Int.one_mul]
    refine hQ _ (k1.trans (Keep.set (by simp))) ?_ (M2.get 1 rfl)
    rw [e]
    exact M2.get 0 rfl
  · walk_at "go"
    refine hQ _ k1 ?_ (M1.get 1 rfl)
    have e : lhV k b h t = h := by
      unfold lhV
      rw [if_neg h4]
    rw [e]
    exact hp1
/-- what a predictor's settings are -/
inductive PSet_ : Str → Int → List V → Prop
  | taken : PSet_ "taken" 0 [.str "taken"]
  | two (n : Int) (h : 0 < n) (h2 : n ≤ 100000) : PSet_ "two" n [.str "two", .int n]
  | hist (n : Int) (h : 0 ≤ n) (h2 : n ≤ 16) : PSet_ "history" n [.str "history", .int n]
def b0V (k : Str) (n : Int) : Int := if k = "history" then n else 0
def k0V (k : Str) (n : Int) : List Int := if k = "two" then List.replicate n.toNat 1 else if k = "history" then List.replicate (2 ^ n.toNat) 1 else []
def sp_Predictor___init__ (K : PySem.W.Frag) : Sp := fun vs H Q _ => ∃ (p dx s : Addr) (k : Str) (n : Int) (xs : List V), vs = [.ref p, .ref s] ∧ H p = some (.ins (He.ga K "Predictor") dx []) ∧ H s = some (.tup xs) ∧ PSet_ k n xs ∧
  ∀ H' c, Keep [p] H H' → H c = none → H' p = some (prO K dx k (b0V k n) 0 c) → H' c = some (ctO (k0V k n)) → Q .non H'
theorem pr_start {k : Str} {n : Int} {xs : List V} (h : PSet_ k n xs) : PrOk k (b0V k n) 0 (k0V k n) := by
  cases h with
  | taken => exact ⟨.inl rfl⟩
  | two n h h2 =>
    refine ⟨.inr (.inl ⟨rfl, ?_⟩)⟩
    unfold k0V
    rw [if_pos rfl, List.length_replicate]
    omega
  | hist n h h2 =>
    refine ⟨.inr (.inr ⟨rfl, ?_⟩)⟩
    unfold b0V k0V
    rw [if_pos rfl, if_neg h2_ne, if_pos rfl, List.length_replicate]
    refine ⟨h, by omega, rfl, Int.le_refl _, ?_⟩
    rw [pw_int]
    have := Nat.two_pow_pos n.toNat
    omega

theorem new_ne {H : Hp} {p q : Addr} {o : HO} (hp : H p = some o) (hq : H q = none) : q ∉ [p] := fun z => by
  rw [List.mem_singleton] at z
  subst z
  rw [hp] at hq
  cases hq
theorem sc_Predictor___init__ : FnScope ["self", "settings"] ["self", "settings"] (defScope (inClass (topS 11) 0)) := ⟨rfl, rfl, rfl, by decide +kernel, rfl, by decide +kernel, by decide +kernel⟩
theorem mt_Predictor___init__ (T : Txt fa fn K mg (CsOk cs K w)) : Mt P w K mg base CX0 1 "Predictor" "__init__" ["self", "settings"] (sp_Predictor___init__ K) := by
  refine mk_mt (d := mOf "Predictor" "__init__" "Predictor.__init__" (inClass (topS 11) 0)) T 61 rfl rfl rfl rfl sc_Predictor___init__ (by walk_at "len") (fun _ _ _ _ _ _ us hl => match us, hl with | [_, _], _ => rfl) (fun cdv A outer s H vs Q E hr h => ⟨_, (pss_cons (ps_fldU (K := K) rfl (pv 0) (pe_ixU (K := K) rfl (hu_of hr) (pv 1) pe_int) rfl)
      (pss_cons (ps_fldU (K := K) rfl (pv 0) pe_int rfl)
      (pss_cons (ps_fldU (K := K) rfl (pv 0) pe_int rfl)
      (pss_cons (ps_fldU (K := K) rfl (pv 0) (pe_lst pa_nil) rfl)
      (pss_one (ps_if (pt_cmpR (op_eqU (K := K) rfl hr.units) (pe_fldU (K := K) rfl (pv 0) rfl) pe_str (nomark _)) (pss_one (ps_fldU (K := K) rfl (pv 0) (pe_op op_mulU (pe_lst (pa_cons pe_int pa_nil)) (pe_ixU (K := K) rfl (hu_of hr) (pv 1) pe_int)) rfl)) (pss_one (ps_if (pt_cmpR (op_eqU (K := K) rfl hr.units) (pe_fldU (K := K) rfl (pv 0) rfl) pe_str (nomark _)) (pss_cons (ps_fldU (K := K) rfl (pv 0) (pe_ixU (K := K) rfl (hu_of hr) (pv 1) pe_int) rfl)
      (pss_one (ps_fldU (K := K) rfl (pv 0) (pe_op op_mulU (pe_lst (pa_cons pe_int pa_nil)) (pe_op o_shl pe_int (pe_fldU (K := K) rfl (pv 0) rfl))) rfl))) pss_nil)))))))), ?_⟩)
  obtain ⟨p, dx, s, k, n, xs, rfl, hp, hs, hset, hQ⟩ := h
  have nsp : p ≠ s := ne_of hp hs (by intro z; cases z)
  have M0 : Has H [(p, .ins (He.ga K "Predictor") dx []), (s, .tup xs)] := ⟨by simp [nsp], fun q hq => by
    rcases List.mem_cons.mp hq with e | hq
    · rw [e]; exact hp
    · rw [List.mem_singleton.mp hq]; exact hs⟩
  have k0 : Keep [p] H H := Keep.refl
  have mp : p ∈ [p] := List.mem_singleton.mpr rfl
  obtain ⟨tl, rfl⟩ : ∃ tl, xs = .str k :: tl := by cases hset <;> exact ⟨_, rfl⟩
  walk_at "go"
  try refine g_ixT (SqT.of hs) (n := 0) rfl rfl ?_
  walk_at "go"
  refine g_setF M0 0 rfl (cl_Predictor T) (na_Predictor__kind T) (by decide) (pt_new nf_Predictor__kind) (fun M1 => ?_)
  have k1 := k0.trans (Keep.set (o := .ins (He.ga K "Predictor") dx [("_kind", .str k)]) mp)
  walk_at "go"
  refine g_setF M1 0 rfl (cl_Predictor T) (na_Predictor__bits T) (by show 1 < 1000; decide) (pt_new nf_Predictor__bits) (fun M2 => ?_)
  have k2 := k1.trans (Keep.set (o := .ins (He.ga K "Predictor") dx [("_kind", .str k), ("_bits", .int 0)]) mp)
  walk_at "go"
  refine g_setF M2 0 rfl (cl_Predictor T) (na_Predictor__history T) (by show 2 < 1000; decide) (pt_new nf_Predictor__history) (fun M3 => ?_)
  have k3 := k2.trans (Keep.set (o := .ins (He.ga K "Predictor") dx [("_kind", .str k), ("_bits", .int 0), ("_history", .int 0)]) mp)
  walk_at "go"
  refine ⟨by decide, fun q hq => ?_⟩
  have M4 := M3.new (o := .lst []) hq
  have k4 := k3.trans (Keep.new (o := .lst []) hq)
  have hHq : H q = none := k3.back hq (new_ne (M3.get 0 rfl) hq)
  walk_at "go"
  refine g_setF M4 0 rfl (cl_Predictor T) (na_Predictor__counters T) (by show 3 < 1000; decide) (pt_new nf_Predictor__counters) (fun M5 => ?_)
  have k5 := k4.trans (Keep.set (o := prO K dx k 0 0 q) mp)
  have hs5 := M5.get 1 rfl
  walk_at "go"
  cases hset with
  | taken =>
    try refine g_if (fun e => (tt_ne e).elim) (fun _ => ?_)
    walk_at "go"
    try refine g_if (fun e => (th_ne e).elim) (fun _ => ?_)
    walk_at "go"
    refine hQ _ q k5 hHq ?_ ?_
    · unfold b0V
      rw [if_neg th_ne]
      exact M5.get 0 rfl
    · unfold k0V
      rw [if_neg tt_ne, if_neg th_ne]
      exact M5.get 2 rfl
  | two _ h h2 =>
    try refine g_if (fun _ => ?_) (fun e => (e rfl).elim)
    walk_at "go"
    refine ⟨by show 1 ≤ sizeLine; decide, fun u hu => ?_⟩
    have M6 := M5.new (o := .lst [.int 1]) hu
    have k6 := k5.trans (Keep.new (o := .lst [.int 1]) hu)
    walk_at "go"
    try refine g_ixT (SqT.of (M6.get 1 rfl)) (n := 1) rfl rfl ?_
    refine g_repI (M6.get 3 rfl) (by omega) (by omega) (fun c hc => ?_)
    have M7 := M6.new (o := ctO (List.replicate n.toNat 1)) hc
    have k7 := k6.trans (Keep.new (o := ctO (List.replicate n.toNat 1)) hc)
    have hHc : H c = none := k6.back hc (new_ne (M6.get 0 rfl) hc)
    walk_at "go"
    refine g_setF M7 0 rfl (cl_Predictor T) (na_Predictor__counters T) (by show 4 < 1000; decide) (pt_ix 3 nd_Predictor rfl) (fun M8 => ?_)
    have k8 := k7.trans (Keep.set (o := prO K dx "two" 0 0 c) mp)
    walk_at "go"
    refine hQ _ c k8 hHc ?_ ?_
    · unfold b0V
      rw [if_neg t2_ne]
      exact M8.get 0 rfl
    · unfold k0V
      rw [if_pos rfl]
      exact M8.get 4 rfl
  | hist _ h h2 =>
    try refine g_if (fun e => (h2_ne e).elim) (fun _ => ?_)
    walk_at "go"
    try refine g_if (fun _ => ?_) (fun e => (e rfl).elim)
    walk_at "go"
    try refine g_ixT (SqT.of hs5) (n := 1) rfl rfl ?_
    walk_at "go"
    refine g_setF M5 0 rfl (cl_Predictor T) (na_Predictor__bits T) (by show 4 < 1000; decide) (pt_ix 1 nd_Predictor rfl) (fun M6 => ?_)
    have k6 := k5.trans (Keep.set (o := prO K dx "history" n 0 q) mp)
    walk_at "go"
    refine ⟨by show 1 ≤ sizeLine; decide, fun u hu => ?_⟩
    have M7 := M6.new (o := .lst [.int 1]) hu
    have k7 := k6.trans (Keep.new (o := .lst [.int 1]) hu)
    walk_at "go"
    have hpw : (1 : Int) * 2 ^ n.toNat = ((2 ^ n.toNat : Nat) : Int) := by rw [pw_int, Int.one_mul]
    have hp16 : 2 ^ n.toNat ≤ 2 ^ 16 := Nat.pow_le_pow_right (by decide) (by omega)
    rw [hpw]
    have hpa : (-4611686018427387904 : Int) ≤ ((2 ^ n.toNat : Nat) : Int) := Int.le_trans (by decide) (Int.natCast_nonneg _)
    have hpb : ((2 ^ n.toNat : Nat) : Int) ≤ 100000 := Int.ofNat_le.mpr (Nat.le_trans hp16 (by decide))
    refine g_repI (M7.get 3 rfl) hpa hpb (fun c hc => ?_)
    rw [Int.toNat_natCast] at *
    have M8 := M7.new (o := ctO (List.replicate (2 ^ n.toNat) 1)) hc
    have k8 := k7.trans (Keep.new (o := ctO (List.replicate (2 ^ n.toNat) 1)) hc)
    have hHc : H c = none := k7.back hc (new_ne (M7.get 0 rfl) hc)
    walk_at "go"
    refine g_setF M8 0 rfl (cl_Predictor T) (na_Predictor__counters T) (by show 4 < 1000; decide) (pt_ix 3 nd_Predictor rfl) (fun M9 => ?_)
    have k9 := k8.trans (Keep.set (o := prO K dx "history" n 0 c) mp)
    walk_at "go"
    refine hQ _ c k9 hHc ?_ ?_
    · unfold b0V
      rw [if_pos rfl]
      exact M9.get 0 rfl
    · unfold k0V
      rw [if_neg h2_ne, if_pos rfl]
      exact M9.get 4 rfl

theorem use_init {H : Hp} {L : List (Addr × HO)} {x dx s : Addr} {k : Str} {n : Int} {xs : List V} {R : Hp → Prop} {E : XK} (M : Has H L) (hx : H x = none) (hd : H dx = none) (hs : H s = some (.tup xs)) (hset : PSet_ k n xs)
    (kk : ∀ H' c, Same H H' → Has H' (L ++ [(x, prO K dx k (b0V k n) 0 c)] ++ [(c, ctO (k0V k n))]) → R H') :
    sp_Predictor___init__ K (.ref x :: ([.ref s] ++ [])) (upd (upd H dx (.own x)) x (.ins (He.ga K "Predictor") dx [])) (fun v H2 => v = .non ∧ R H2) E := by
  refine ⟨x, dx, s, k, n, xs, rfl, upd_same, made_same hx hd _ _ hs, hset, fun H' c kp hc h1 h2 => ⟨rfl, ?_⟩⟩
  obtain ⟨c0, c1, c2⟩ := made_none hc
  have sm : Same H H' := fun b o e => kp b o (made_same hx hd _ _ e) (fun z => by
    rw [List.mem_singleton] at z
    subst z
    rw [hx] at e
    cases e)
  refine kk H' c sm (((M.keep sm).add h1 (M.fresh hx)).add h2 ?_)
  rw [List.map_append, List.mem_append, not_or]
  exact ⟨M.fresh c0, by simpa using c1⟩
theorem use_learn {H : Hp} {L : List (Addr × HO)} {p dx c : Addr} {k : Str} {b h : Int} {cs : List Int} {row : Int} {t : Bool} {Q : VK} {E : XK} (M : Has H L) (i j : Nat) (hi : L[i]? = some (p, prO K dx k b h c)) (hj : L[j]? = some (c, ctO cs)) (hij : i ≠ j) (ok : PrOk k b h cs)
    (kk : ∀ H', Keep [p, c] H H' → Has H' ((L.set i (p, prO K dx k b (lhV k b h t) c)).set j (c, ctO (lcV k h cs row t))) → Q .non H') : sp_Predictor_learn K (.ref p :: ([.int row, .bl t] ++ [])) H Q E :=
  ⟨p, dx, c, k, b, h, cs, row, t, rfl, M.get i hi, M.get j hj, ok, fun H' kp h1 h2 => kk H' kp (M.call2 kp i j hi hj hij h1 h2)⟩
theorem lcV_len {k : Str} {h : Int} {cs : List Int} {row : Int} {t : Bool} : (lcV k h cs row t).length = cs.length := by
  unfold lcV
  split
  · rfl
  · rw [List.length_set]
theorem PrOk.learn {k : Str} {b h : Int} {cs : List Int} {row : Int} {t : Bool} (o : PrOk k b h cs) : PrOk k b (lhV k b h t) (lcV k h cs row t) := by
  rcases o.kind with e | ⟨e, h0⟩ | ⟨e, h0, h1, h2, h3, h4⟩
  · exact ⟨.inl e⟩
  · exact ⟨.inr (.inl ⟨e, by rw [lcV_len]; exact h0⟩)⟩
  · refine ⟨.inr (.inr ⟨e, h0, h1, by rw [lcV_len]; exact h2, ?_, ?_⟩)⟩
    · unfold lhV
      rw [if_pos e]
      exact Int.emod_nonneg _ (by rw [pw_int]; have := Nat.two_pow_pos b.toNat; omega)
    · unfold lhV
      rw [if_pos e]
      exact Int.emod_lt_of_pos _ (by rw [pw_int]; have := Nat.two_pow_pos b.toNat; omega)
/-- counters within their bounds -/
def EB (cs : List Int) : Prop := ∀ x ∈ cs, 0 ≤ x ∧ x ≤ 3
theorem up_b {t : Bool} {c : Int} (h : 0 ≤ c ∧ c ≤ 3) : 0 ≤ upV t c ∧ upV t c ≤ 3 := by
  unfold upV
  split <;> omega
theorem getD_b {cs : List Int} (h : EB cs) (n : Nat) : 0 ≤ cs.getD n 0 ∧ cs.getD n 0 ≤ 3 := by
  rw [List.getD_eq_getElem?_getD]
  cases e : cs[n]? with
  | none => simp
  | some x => exact h x (List.mem_of_getElem? e)
theorem set_b {cs : List Int} (h : EB cs) (n : Nat) (t : Bool) : EB (cs.set n (upV t (cs.getD n 0))) := fun x hx => by
  rcases List.mem_or_eq_of_mem_set hx with hx | hx
  · exact h x hx
  · rw [hx]
    exact up_b (getD_b h n)
theorem EB.learn {k : Str} {h : Int} {cs : List Int} {row : Int} {t : Bool} (e : EB cs) : EB (lcV k h cs row t) := by
  unfold lcV
  split
  · exact e
  · exact set_b e _ t
theorem EB.start {k : Str} {n : Int} : EB (k0V k n) := fun x hx => by
  unfold k0V at hx
  split at hx
  · rw [List.eq_of_mem_replicate hx]; decide
  · split at hx
    · rw [List.eq_of_mem_replicate hx]; decide
    · cases hx

/-! ### words, signs, what a row does -/
inductive Sg
  | add | sub | mul | band | bor | bxor | shl | shr | eq | lt | le | div | mod
def Sg.s : Sg → Str
  | .add => "+" | .sub => "-" | .mul => "*" | .band => "&" | .bor => "|" | .bxor => "^" | .shl => "<<" | .shr => ">>" | .eq => "==" | .lt => "<" | .le => "<=" | .div => "div" | .mod => "mod"
def appD : Sg → Int → Int → Int
  | .add, a, b => (a + b) % 4294967296
  | .sub, a, b => (a - b) % 4294967296
  | .mul, a, b => (a * b) % 4294967296
  | .band, a, b => Builtin.bitAnd a b
  | .bor, a, b => Builtin.bitOr a b
  | .bxor, a, b => Builtin.bitXor a b
  | .shl, a, b => a * (1 * 2 ^ (b % 32).toNat) % 4294967296
  | .shr, a, b => a / (1 * 2 ^ (b % 32).toNat)
  | .eq, a, b => if decide (a = b) then 1 else 0
  | .lt, a, b => if decide (a < b) then 1 else 0
  | .le, a, b => if decide (a ≤ b) then 1 else 0
  | .div, a, b => if b = 0 then 0 else a / b
  | .mod, a, b => if b = 0 then a else a % b
structure W32 (x : Int) : Prop where
  l : 0 ≤ x
  u : x < 4294967296
theorem nat_lt {x : Int} (h : W32 x) : x.toNat < 2 ^ 32 := by
  have h1 := h.l
  have h2 := h.u
  show x.toNat < 4294967296
  omega
theorem pow32 {b : Int} : 0 < 1 * (2 : Int) ^ (b % 32).toNat ∧ 1 * (2 : Int) ^ (b % 32).toNat < 18446744073709551616 := by
  have h1 : (b % 32).toNat < 32 := by omega
  have h2 : ∀ n : Nat, n < 32 → 0 < 1 * (2 : Int) ^ n ∧ 1 * (2 : Int) ^ n < 18446744073709551616 := by decide +kernel
  exact h2 _ h1
theorem b01 {p : Bool} : W32 (if p then 1 else 0) := by
  cases p
  · exact ⟨by decide, by decide⟩
  · exact ⟨by decide, by decide⟩
theorem appD_w {s : Sg} {a b : Int} (ha : W32 a) (hb : W32 b) : W32 (appD s a b) := by
  have a1 := ha.l
  have a2 := ha.u
  have b1 := hb.l
  have b2 := hb.u
  cases s with
  | add => exact ⟨Int.emod_nonneg _ (by decide), Int.emod_lt_of_pos _ (by decide)⟩
  | sub => exact ⟨Int.emod_nonneg _ (by decide), Int.emod_lt_of_pos _ (by decide)⟩
  | mul => exact ⟨Int.emod_nonneg _ (by decide), Int.emod_lt_of_pos _ (by decide)⟩
  | shl => exact ⟨Int.emod_nonneg _ (by decide), Int.emod_lt_of_pos _ (by decide)⟩
  | band =>
    show W32 (Builtin.bitAnd a b)
    rw [bitAnd_pp a1 b1]
    have := Nat.and_lt_two_pow a.toNat (nat_lt hb)
    refine ⟨by omega, ?_⟩
    have h : (2 : Nat) ^ 32 = 4294967296 := by decide
    omega
  | bor =>
    show W32 (Builtin.bitOr a b)
    rw [Bits.bitOr_pp a1 b1]
    have := Nat.or_lt_two_pow (nat_lt ha) (nat_lt hb)
    refine ⟨by omega, ?_⟩
    have h : (2 : Nat) ^ 32 = 4294967296 := by decide
    omega
  | bxor =>
    show W32 (Builtin.bitXor a b)
    rw [Bits.bitXor_pp a1 b1]
    have := Nat.xor_lt_two_pow (nat_lt ha) (nat_lt hb)
    refine ⟨by omega, ?_⟩
    have h : (2 : Nat) ^ 32 = 4294967296 := by decide
    omega
  | shr =>
    obtain ⟨p1, p2⟩ := pow32 (b := b)
    show W32 (a / (1 * 2 ^ (b % 32).toNat))
    generalize 1 * (2 : Int) ^ (b % 32).toNat = S at p1 p2
    exact ⟨Int.ediv_nonneg a1 (by omega), Int.lt_of_le_of_lt (Int.ediv_le_self _ a1) a2⟩
  | eq => exact b01
  | lt => exact b01
  | le => exact b01
  | div =>
    show W32 (if b = 0 then 0 else a / b)
    split
    · exact ⟨by decide, by decide⟩
    · exact ⟨Int.ediv_nonneg a1 b1, Int.lt_of_le_of_lt (Int.ediv_le_self _ a1) a2⟩
  | mod =>
    show W32 (if b = 0 then a else a % b)
    split
    · exact ha
    · have h1 := Int.emod_nonneg a (b := b) (by omega)
      have h2 := Int.emod_lt_of_pos a (b := b) (by omega)
      exact ⟨h1, by omega⟩
abbrev nI (n : Nat) : PyData := .int (n : Int)
/-- one of the thirteen signs -/
theorem sg_pick {v : V} (hv : v ∈ [V.str "+", V.str "-", V.str "*", V.str "&", V.str "|", V.str "^", V.str "<<", V.str ">>", V.str "==", V.str "<", V.str "<=", V.str "div", V.str "mod"]) : ∃ s : Sg, v = .str s.s := by
  simp only [List.mem_cons, List.not_mem_nil, or_false] at hv
  rcases hv with rfl | rfl | rfl | rfl | rfl | rfl | rfl | rfl | rfl | rfl | rfl | rfl | rfl
  · exact ⟨.add, rfl⟩
  · exact ⟨.sub, rfl⟩
  · exact ⟨.mul, rfl⟩
  · exact ⟨.band, rfl⟩
  · exact ⟨.bor, rfl⟩
  · exact ⟨.bxor, rfl⟩
  · exact ⟨.shl, rfl⟩
  · exact ⟨.shr, rfl⟩
  · exact ⟨.eq, rfl⟩
  · exact ⟨.lt, rfl⟩
  · exact ⟨.le, rfl⟩
  · exact ⟨.div, rfl⟩
  · exact ⟨.mod, rfl⟩

inductive Row
  | const (d : Nat) (n : Int)
  | op (s : Sg) (d a b : Nat)
  | select (d c a b : Nat)
  | load (d a : Nat) (base mask : Int)
  | store (a : Nat) (base mask : Int) (b : Nat)
  | out (a : Nat)
  | jump (t : Nat)
  | branch (a t : Nat)
  | stop (a : Nat)
def Row.d : Row → PyData
  | .const d n => .tuple [.str "const", nI d, .int n]
  | .op s d a b => .tuple [.str "op", .str s.s, nI d, nI a, nI b]
  | .select d c a b => .tuple [.str "select", nI d, nI c, nI a, nI b]
  | .load d a base mask => .tuple [.str "load", nI d, nI a, .int base, .int mask]
  | .store a base mask b => .tuple [.str "store", nI a, .int base, .int mask, nI b]
  | .out a => .tuple [.str "out", nI a]
  | .jump t => .tuple [.str "jump", nI t]
  | .branch a t => .tuple [.str "branch", nI a, nI t]
  | .stop a => .tuple [.str "stop", nI a]
/-- a row at place k among many rows -/
def RowOkD (many k : Nat) : Row → Prop
  | .const d n => d < 16 ∧ W32 n ∧ k + 1 < many
  | .op _ d a b => d < 16 ∧ a < 16 ∧ b < 16 ∧ k + 1 < many
  | .select d c a b => d < 16 ∧ c < 16 ∧ a < 16 ∧ b < 16 ∧ k + 1 < many
  | .load d a _ _ => d < 16 ∧ a < 16 ∧ k + 1 < many
  | .store a _ _ b => a < 16 ∧ b < 16 ∧ k + 1 < many
  | .out a => a < 16 ∧ k + 1 < many
  | .jump t => t < many
  | .branch a t => a < 16 ∧ t < many ∧ k + 1 < many
  | .stop a => a < 16
structure MS where
  rg : List Int
  wd : List (Key × V)
  ou : List Int
def rgV (ms : MS) (a : Nat) : Int := ms.rg.getD a 0
def wdV (wd : List (Key × V)) (a : Int) : Int := match valV wd (.inl a) with
  | some (.int x) => x
  | _ => 0
def put (ms : MS) (d : Nat) (x : Int) : MS := { ms with rg := ms.rg.set d x }
def doRow (ms : MS) : Row → MS
  | .const d n => put ms d n
  | .op s d a b => put ms d (appD s (rgV ms a) (rgV ms b))
  | .select d c a b => put ms d (if rgV ms c = 0 then rgV ms b else rgV ms a)
  | .load d a base mask => put ms d (wdV ms.wd (base + Builtin.bitAnd (rgV ms a) mask))
  | .store a base mask b => { ms with wd := putK ms.wd (.inl (base + Builtin.bitAnd (rgV ms a) mask)) (.int (rgV ms b)) }
  | .out a => { ms with ou := ms.ou ++ [rgV ms a] }
  | _ => ms
def nextAt (ms : MS) (at_ : Nat) : Row → Nat
  | .jump t => t
  | .branch a t => if rgV ms a = 0 then at_ + 1 else t
  | _ => at_ + 1
def runM (rows : List Row) : Nat → Nat → MS → Option Int × MS
  | 0, _, ms => (none, ms)
  | n + 1, at_, ms => match rows[at_]? with
    | some (.stop a) => (some (rgV ms a), ms)
    | some r => runM rows n (nextAt (doRow ms r) at_ r) (doRow ms r)
    | none => (none, ms)
/-- the state is in order; at most b words -/
structure MOk (b : Nat) (cov : Int → Prop) (ms : MS) : Prop where
  l : ms.rg.length = 16
  r : ∀ x ∈ ms.rg, W32 x
  w : ∀ k v, valV ms.wd k = some v → ∃ x, v = .int x ∧ W32 x
  o : ∀ x ∈ ms.ou, W32 x
  c : ∀ a, cov a → (valV ms.wd (.inl a)).isSome = true
  n : ms.wd.length ≤ b
  m : ms.ou.length ≤ b
section
variable {b : Nat} {cov : Int → Prop} {ms : MS} {a d : Nat} {x : Int}
theorem MOk.at_ (h : MOk b cov ms) (ha : a < 16) : ms.rg[a]? = some (rgV ms a) := by
  unfold rgV
  rw [List.getD_eq_getElem?_getD, List.getElem?_eq_getElem (by rw [h.l]; exact ha)]
  rfl
theorem MOk.reg (h : MOk b cov ms) (ha : a < 16) : W32 (rgV ms a) := h.r _ (List.mem_of_getElem? (h.at_ ha))
theorem MOk.wv (h : MOk b cov ms) (i : Int) : W32 (wdV ms.wd i) := by
  unfold wdV
  cases e : valV ms.wd (.inl i) with
  | none => exact ⟨by decide, by decide⟩
  | some v =>
    obtain ⟨x, rfl, hx⟩ := h.w _ _ e
    exact hx
theorem MOk.put (h : MOk b cov ms) (hx : W32 x) : MOk (b + 1) cov (put ms d x) where
  l := by
    show (ms.rg.set d x).length = 16
    rw [List.length_set]
    exact h.l
  r := fun y hy => by
    rcases List.mem_or_eq_of_mem_set hy with z | z
    · exact h.r y z
    · rw [z]; exact hx
  w := h.w
  o := h.o
  c := h.c
  n := Nat.le_succ_of_le h.n
  m := Nat.le_succ_of_le h.m
theorem putK_len {κ : Type} [DecidableEq κ] (c : List (κ × V)) (k : κ) (x : V) : (putK c k x).length ≤ c.length + 1 := by
  unfold putK
  split
  · rw [List.length_map]; omega
  · rw [List.length_append]; simp
theorem MOk.same (h : MOk b cov ms) : MOk (b + 1) cov ms := ⟨h.l, h.r, h.w, h.o, h.c, Nat.le_succ_of_le h.n, Nat.le_succ_of_le h.m⟩
theorem MOk.do_ {many k : Nat} {r : Row} (h : MOk b cov ms) (hr : RowOkD many k r) : MOk (b + 1) cov (doRow ms r) := by
  cases r with
  | const d n => exact h.put hr.2.1
  | op s d a b => exact h.put (appD_w (h.reg hr.2.1) (h.reg hr.2.2.1))
  | select d c a b =>
    refine h.put ?_
    split
    · exact h.reg hr.2.2.2.1
    · exact h.reg hr.2.2.1
  | load d a base mask => exact h.put (h.wv _)
  | store a base mask b =>
    refine ⟨h.l, h.r, fun k v e => ?_, h.o, fun a ha => ?_, Nat.le_trans (putK_len _ _ _) (Nat.succ_le_succ h.n), Nat.le_succ_of_le h.m⟩
    · have e : valV (putK ms.wd (.inl _) (.int (rgV ms b))) k = some v := e
      rw [valV_put] at e
      split at e
      · cases e
        exact ⟨_, rfl, h.reg hr.2.1⟩
      · exact h.w k v e
    · show (valV (putK ms.wd (.inl _) (.int (rgV ms b))) (.inl a)).isSome = true
      rw [valV_put]
      split
      · rfl
      · exact h.c a ha
  | out a =>
    refine ⟨h.l, h.r, h.w, fun x hx => ?_, h.c, Nat.le_succ_of_le h.n, ?_⟩
    · rcases List.mem_append.mp hx with z | z
      · exact h.o x z
      · rw [List.mem_singleton.mp z]
        exact h.reg hr.1
    · show (ms.ou ++ [_]).length ≤ b + 1
      rw [List.length_append]
      exact Nat.succ_le_succ h.m
  | jump t => exact h.same
  | branch a t => exact h.same
  | stop a => exact h.same
end
theorem next_lt {many k : Nat} {r : Row} {ms : MS} (hr : RowOkD many k r) (hs : ∀ a, r ≠ .stop a) : nextAt ms k r < many := by
  cases r with
  | const d n => exact hr.2.2
  | op s d a b => exact hr.2.2.2
  | select d c a b => exact hr.2.2.2.2
  | load d a base mask => exact hr.2.2
  | store a base mask b => exact hr.2.2
  | out a => exact hr.2
  | jump t => exact hr
  | branch a t =>
    show (if rgV ms a = 0 then k + 1 else t) < many
    split
    · exact hr.2.2
    · exact hr.2.1
  | stop a => exact absurd rfl (hs a)
/-! ### apply -/
def sp_shifted (K : PySem.W.Frag) : Sp := fun vs H Q _ => ∃ (s : Sg) (z : Str) (a b : Int), vs = [.str z, .int a, .int b] ∧ z = s.s ∧ (s = .shl ∨ s = .shr) ∧ W32 a ∧ W32 b ∧ Q (.int (appD s a b)) H
theorem sc_shifted : FnScope ["sign", "a", "b", "by"] ["sign", "a", "b"] (defScope (topS 4)) := ⟨rfl, rfl, rfl, by decide +kernel, rfl, by decide +kernel, by decide +kernel⟩
theorem ok_shifted (T : Txt fa fn K mg (CsOk cs K w)) : Dn P w K mg base CX0 1 "shifted" ["sign", "a", "b"] (sp_shifted K) := by
  refine mk_dn (d := dOf "shifted" 4) T 0 0 rfl rfl rfl rfl rfl sc_shifted (by walk_at "len") (fun _ _ _ _ _ _ us hl => match us, hl with | [_, _, _], _ => rfl) (fun cdv A outer s H vs Q E hr h => ⟨_, (pss_cons (ps_set (i := 3) sc_shifted.nd rfl (.inl rfl) (pe_op o_mod (pe_callTy c_int rfl (T.free 125 rfl) (by decide +kernel) (pa_cons (pv 2) pa_nil)) pe_int))
      (pss_cons (ps_if (pt_cmpR (op_eqU (K := K) rfl hr.units) (pv 0) pe_str (nomark _)) (pss_one (ps_ret (pe_op o_mod (pe_callTy c_int rfl (T.free 125 rfl) (by decide +kernel) (pa_cons (pe_op op_mulU (pv 1) (pe_op o_shl pe_int (pv 3))) pa_nil)) (pe_gint T rfl 137 rfl rfl)))) pss_nil)
      (pss_one (ps_ret (pe_op o_fdiv (pv 1) (pe_op o_shl pe_int (pv 3))))))), ?_⟩)
  obtain ⟨s, z, a, b, rfl, hz, hs, wa, wb, hQ⟩ := h
  have a1 := wa.l
  have a2 := wa.u
  obtain ⟨p1, p2⟩ := pow32 (b := b)
  rcases hs with rfl | rfl <;> (simp only [Sg.s] at hz; subst hz)
  · walk_at "go"
    exact hQ
  · walk_at "go"
    exact hQ
def sp_divided (K : PySem.W.Frag) : Sp := fun vs H Q _ => ∃ (s : Sg) (z : Str) (a b : Int), vs = [.str z, .int a, .int b] ∧ z = s.s ∧ (s = .div ∨ s = .mod) ∧ W32 a ∧ W32 b ∧ Q (.int (appD s a b)) H
theorem sc_divided : FnScope ["sign", "a", "b"] ["sign", "a", "b"] (defScope (topS 5)) := ⟨rfl, rfl, rfl, by decide +kernel, rfl, by decide +kernel, by decide +kernel⟩
theorem ok_divided (T : Txt fa fn K mg (CsOk cs K w)) : Dn P w K mg base CX0 1 "divided" ["sign", "a", "b"] (sp_divided K) := by
  refine mk_dn (d := dOf "divided" 5) T 1 1 rfl rfl rfl rfl rfl sc_divided (by walk_at "len") (fun _ _ _ _ _ _ us hl => match us, hl with | [_, _, _], _ => rfl) (fun cdv A outer s H vs Q E hr h => ⟨_, (pss_cons (ps_if (pt_cmpR (op_eqU (K := K) rfl hr.units) (pv 0) pe_str (nomark _)) (pss_one (ps_ret (pe_ifExp (pt_cmpR (op_neU (K := K) rfl hr.units) (pv 2) pe_int (nomark _)) (pe_op o_fdiv (pv 1) (pv 2)) pe_int))) pss_nil)
      (pss_one (ps_ret (pe_ifExp (pt_cmpR (op_neU (K := K) rfl hr.units) (pv 2) pe_int (nomark _)) (pe_op op_sub (pv 1) (pe_op op_mulU (pv 2) (pe_op o_fdiv (pv 1) (pv 2)))) (pv 1))))), ?_⟩)
  obtain ⟨s, z, a, b, rfl, hz, hs, wa, wb, hQ⟩ := h
  have a1 := wa.l
  have a2 := wa.u
  have b1 := wb.l
  have b2 := wb.u
  rcases hs with rfl | rfl <;> (simp only [Sg.s] at hz; subst hz)
  · walk_at "go"
    refine g_ifN (fun c => ?_) (fun c => ?_)
    · walk_at "go"
      refine q_int ?_ hQ
      show (if b = 0 then 0 else a / b) = _
      rw [if_neg c]
    · walk_at "go"
      refine q_int ?_ hQ
      show (if b = 0 then 0 else a / b) = _
      rw [if_pos c]
  · walk_at "go"
    refine g_ifN (fun c => ?_) (fun c => ?_)
    · walk_at "go"
      refine q_int ?_ hQ
      show (if b = 0 then a else a % b) = _
      rw [if_neg c, Int.emod_def]
    · walk_at "go"
      refine q_int ?_ hQ
      show (if b = 0 then a else a % b) = _
      rw [if_pos c]
def sp_apply (K : PySem.W.Frag) : Sp := fun vs H Q _ => ∃ (s : Sg) (z : Str) (a b : Int), vs = [.str z, .int a, .int b] ∧ z = s.s ∧ W32 a ∧ W32 b ∧ ∀ H', Same H H' → Q (.int (appD s a b)) H'
theorem g_is {α : Prop} {β : Prop} {b : Bool} (h : b = true) (q : α) : if b = true then α else β := by rw [if_pos h]; exact q
theorem g_isnt {α : Prop} {β : Prop} {b : Bool} (h : b = false) (q : β) : if b = true then α else β := by rw [if_neg (by rw [h]; exact Bool.false_ne_true)]; exact q
theorem sc_apply : FnScope ["sign", "a", "b"] ["sign", "a", "b"] (defScope (topS 6)) := ⟨rfl, rfl, rfl, by decide +kernel, rfl, by decide +kernel, by decide +kernel⟩
theorem ok_apply (T : Txt fa fn K mg (CsOk cs K w)) : Dn P w K mg base CX0 2 "apply" ["sign", "a", "b"] (sp_apply K) := by
  refine mk_dn (d := dOf "apply" 6) T 2 2 rfl rfl rfl rfl rfl sc_apply (by walk_at "len") (fun _ _ _ _ _ _ us hl => match us, hl with | [_, _, _], _ => rfl) (fun cdv A outer s H vs Q E hr h => ⟨_, (pss_cons (ps_if (pt_cmpR (op_inU (K := K) rfl (hu65 hr)) (pv 0) (pe_tup (pa_cons pe_str (pa_cons pe_str pa_nil))) (by rfl)) (pss_one (ps_ret (pe_callD (K := K) rfl (ok_shifted T) (hr.mono (by decide)) rfl pass0 (pa_cons (pv 0) (pa_cons (pv 1) (pa_cons (pv 2) pa_nil)))))) pss_nil)
      (pss_cons (ps_if (pt_cmpR (op_inU (K := K) rfl (hu65 hr)) (pv 0) (pe_tup (pa_cons pe_str (pa_cons pe_str pa_nil))) (by rfl)) (pss_one (ps_ret (pe_callD (K := K) rfl (ok_divided T) (hr.mono (by decide)) rfl pass0 (pa_cons (pv 0) (pa_cons (pv 1) (pa_cons (pv 2) pa_nil)))))) pss_nil)
      (pss_cons (ps_if (pt_cmpR (op_eqU (K := K) rfl hr.units) (pv 0) pe_str (nomark _)) (pss_one (ps_ret (pe_callTy c_int rfl (T.free 125 rfl) (by decide +kernel) (pa_cons (pe_cmpR (op_eqU (K := K) rfl hr.units) (pv 1) (pv 2) (nomark _)) pa_nil)))) pss_nil)
      (pss_cons (ps_if (pt_cmpR (op_eqU (K := K) rfl hr.units) (pv 0) pe_str (nomark _)) (pss_one (ps_ret (pe_callTy c_int rfl (T.free 125 rfl) (by decide +kernel) (pa_cons (pe_cmpR o_lt (pv 1) (pv 2) (nomark _)) pa_nil)))) pss_nil)
      (pss_cons (ps_if (pt_cmpR (op_eqU (K := K) rfl hr.units) (pv 0) pe_str (nomark _)) (pss_one (ps_ret (pe_callTy c_int rfl (T.free 125 rfl) (by decide +kernel) (pa_cons (pe_cmpR o_le (pv 1) (pv 2) (nomark _)) pa_nil)))) pss_nil)
      (pss_cons (ps_if (pt_cmpR (op_eqU (K := K) rfl hr.units) (pv 0) pe_str (nomark _)) (pss_one (ps_ret (pe_op op_and (pv 1) (pv 2)))) pss_nil)
      (pss_cons (ps_if (pt_cmpR (op_eqU (K := K) rfl hr.units) (pv 0) pe_str (nomark _)) (pss_one (ps_ret (pe_op op_or (pv 1) (pv 2)))) pss_nil)
      (pss_cons (ps_if (pt_cmpR (op_eqU (K := K) rfl hr.units) (pv 0) pe_str (nomark _)) (pss_one (ps_ret (pe_op op_xor (pv 1) (pv 2)))) pss_nil)
      (pss_cons (ps_if (pt_cmpR (op_eqU (K := K) rfl hr.units) (pv 0) pe_str (nomark _)) (pss_one (ps_ret (pe_op o_mod (pe_callTy c_int rfl (T.free 125 rfl) (by decide +kernel) (pa_cons (pe_op (op_addU (K := K) rfl) (pv 1) (pv 2)) pa_nil)) (pe_gint T rfl 137 rfl rfl)))) pss_nil)
      (pss_cons (ps_if (pt_cmpR (op_eqU (K := K) rfl hr.units) (pv 0) pe_str (nomark _)) (pss_one (ps_ret (pe_op o_mod (pe_callTy c_int rfl (T.free 125 rfl) (by decide +kernel) (pa_cons (pe_op op_sub (pv 1) (pv 2)) pa_nil)) (pe_gint T rfl 137 rfl rfl)))) pss_nil)
      (pss_one (ps_ret (pe_op o_mod (pe_callTy c_int rfl (T.free 125 rfl) (by decide +kernel) (pa_cons (pe_op op_mulU (pv 1) (pv 2)) pa_nil)) (pe_gint T rfl 137 rfl rfl)))))))))))))), ?_⟩)
  obtain ⟨s, z, a, b, rfl, hz, wa, wb, hQ⟩ := h
  have a1 := wa.l
  have a2 := wa.u
  have b1 := wb.l
  have b2 := wb.u
  walk_at "go"
  refine ⟨by decide, fun q hq => ?_⟩
  have s1 := Same.new (o := .tup [.str "<<", .str ">>"]) hq
  refine g_inTs (ks := ["<<", ">>"]) (.inl upd_same) ?_
  walk_at "go"
  cases s <;> (simp only [Sg.s] at hz; subst hz)
  case shl =>
    refine g_is (by decide +kernel) ?_
    walk_at "go"
    exact ⟨.shl, _, a, b, rfl, rfl, .inl rfl, wa, wb, hQ _ s1⟩
  case shr =>
    refine g_is (by decide +kernel) ?_
    walk_at "go"
    exact ⟨.shr, _, a, b, rfl, rfl, .inr rfl, wa, wb, hQ _ s1⟩
  all_goals
    refine g_isnt (by decide +kernel) ?_
    walk_at "go"
    refine ⟨by decide, fun q2 hq2 => ?_⟩
    have s2 := s1.trans (Same.new (o := .tup [.str "div", .str "mod"]) hq2)
    refine g_inTs (ks := ["div", "mod"]) (.inl upd_same) ?_
    walk_at "go"
  case div =>
    refine g_is (by decide +kernel) ?_
    walk_at "go"
    exact ⟨.div, _, a, b, rfl, rfl, .inl rfl, wa, wb, hQ _ s2⟩
  case mod =>
    refine g_is (by decide +kernel) ?_
    walk_at "go"
    exact ⟨.mod, _, a, b, rfl, rfl, .inr rfl, wa, wb, hQ _ s2⟩
  all_goals
    refine g_isnt (by decide +kernel) ?_
    walk_at "go"
    exact hQ _ s2

theorem mg3 {k1 k2 k3 k : Str} {v1 v2 v3 : V} : valV (mergeK [] [(.inr k1, v1), (.inr k2, v2), (.inr k3, v3)]) (.inr k : Key) = if k = k3 then some v3 else if k = k2 then some v2 else if k = k1 then some v1 else none := by
  unfold mergeK
  simp only [List.foldl_cons, List.foldl_nil]
  rw [valV_put, valV_put, valV_put, valV_nil]
  simp only [Sum.inr.injEq]
theorem mg2 {k1 k2 k : Str} {v1 v2 : V} : valV (mergeK [] [(.inr k1, v1), (.inr k2, v2)]) (.inr k : Key) = if k = k2 then some v2 else if k = k1 then some v1 else none := by
  unfold mergeK
  simp only [List.foldl_cons, List.foldl_nil]
  rw [valV_put, valV_put, valV_nil]
  simp only [Sum.inr.injEq]
theorem dg_of {H : Hp} {a : Addr} {kvs : List (Key × V)} {k : Str} {v : V} (h : H a = some (.dK kvs)) (e : valV kvs (.inr k) = some v) : DGet H a (.str k) (some v) := by
  rw [← e]
  exact DGet.k (k := .inr k) h
def sp_law_apply (K : PySem.W.Frag) : Sp := fun vs H Q _ => ∃ (s : Sg) (z : Str) (a b : Int), vs = [.str z, .int a, .int b] ∧ z = s.s ∧ W32 a ∧ W32 b ∧ ∀ H', Same H H' → Q (.int (appD s a b)) H'
/-- a written dict of three, of two -/
theorem g_d3 {A : Prop} {R : List (Key × V) → Prop} {k1 k2 k3 : Str} {v1 v2 v3 : V} (h : A) (q : R [(.inr k1, v1), (.inr k2, v2), (.inr k3, v3)]) :
    A ∧ ∃ kvs : List (Key × V), [(V.str k1, v1), (V.str k2, v2), (V.str k3, v3)] = kvs.map (fun kv => (kV kv.1, kv.2)) ∧ kvs.length ≤ 15 ∧ R kvs :=
  ⟨h, [(.inr k1, v1), (.inr k2, v2), (.inr k3, v3)], rfl, (by show 3 ≤ 15; decide), q⟩
theorem g_d2 {A : Prop} {R : List (Key × V) → Prop} {k1 k2 : Str} {v1 v2 : V} (h : A) (q : R [(.inr k1, v1), (.inr k2, v2)]) :
    A ∧ ∃ kvs : List (Key × V), [(V.str k1, v1), (V.str k2, v2)] = kvs.map (fun kv => (kV kv.1, kv.2)) ∧ kvs.length ≤ 15 ∧ R kvs :=
  ⟨h, [(.inr k1, v1), (.inr k2, v2)], rfl, (by show 2 ≤ 15; decide), q⟩
theorem ev3a {k1 k2 k3 : Str} {v1 v2 v3 : V} (h : ¬ k1 = k3) (h2 : ¬ k1 = k2) : (if k1 = k3 then some v3 else if k1 = k2 then some v2 else if k1 = k1 then some v1 else none) = some v1 := by rw [if_neg h, if_neg h2, if_pos rfl]
theorem ev3b {k1 k2 k3 : Str} {v1 v2 v3 : V} (h : ¬ k2 = k3) : (if k2 = k3 then some v3 else if k2 = k2 then some v2 else if k2 = k1 then some v1 else none) = some v2 := by rw [if_neg h, if_pos rfl]
theorem ev3c {k1 k2 k3 : Str} {v1 v2 v3 : V} : (if k3 = k3 then some v3 else if k3 = k2 then some v2 else if k3 = k1 then some v1 else none) = some v3 := by rw [if_pos rfl]
theorem ev2a {k1 k2 : Str} {v1 v2 : V} (h : ¬ k1 = k2) : (if k1 = k2 then some v2 else if k1 = k1 then some v1 else none) = some v1 := by rw [if_neg h, if_pos rfl]
theorem ev2b {k1 k2 : Str} {v1 v2 : V} : (if k2 = k2 then some v2 else if k2 = k1 then some v1 else none) = some v2 := by rw [if_pos rfl]
theorem sc_law_apply : FnScope ["sign", "a", "b"] ["sign", "a", "b"] (defScope (topS 46)) := ⟨rfl, rfl, rfl, by decide +kernel, rfl, by decide +kernel, by decide +kernel⟩
theorem ok_law_apply (T : Txt fa fn K mg (CsOk cs K w)) : Dn P w K mg base CX0 1 "_law_apply" ["sign", "a", "b"] (sp_law_apply K) := by
  refine mk_dn (d := dOf "_law_apply" 46) T 34 34 rfl rfl rfl rfl rfl sc_law_apply (by walk_at "len") (fun _ _ _ _ _ _ us hl => match us, hl with | [_, _, _], _ => rfl) (fun cdv A outer s H vs Q E hr h => ⟨_, (pss_cons (ps_if (pt_cmpR (op_inU (K := K) rfl (hu65 hr)) (pv 0) (pe_lst (pa_cons pe_str (pa_cons pe_str (pa_cons pe_str pa_nil)))) (by rfl)) (pss_one (ps_ret (pe_op o_mod (pe_callTy c_int rfl (T.free 125 rfl) (by decide +kernel) (pa_cons (pe_ixU (K := K) rfl (hu_of hr) (pe_disp (pps_cons pe_str (pe_op (op_addU (K := K) rfl) (pv 1) (pv 2)) (pps_cons pe_str (pe_op op_sub (pv 1) (pv 2)) (pps_cons pe_str (pe_op op_mulU (pv 1) (pv 2)) pps_nil))) (by rfl) (by rfl) (fun z => by cases z) (by decide)) (pv 0)) pa_nil)) pe_int))) pss_nil)
      (pss_cons (ps_if (pt_cmpR (op_inU (K := K) rfl (hu65 hr)) (pv 0) (pe_lst (pa_cons pe_str (pa_cons pe_str (pa_cons pe_str pa_nil)))) (by rfl)) (pss_one (ps_ret (pe_ixU (K := K) rfl (hu_of hr) (pe_disp (pps_cons pe_str (pe_op op_and (pv 1) (pv 2)) (pps_cons pe_str (pe_op op_or (pv 1) (pv 2)) (pps_cons pe_str (pe_op op_xor (pv 1) (pv 2)) pps_nil))) (by rfl) (by rfl) (fun z => by cases z) (by decide)) (pv 0)))) pss_nil)
      (pss_cons (ps_if (pt_cmpR (op_eqU (K := K) rfl hr.units) (pv 0) pe_str (nomark _)) (pss_one (ps_ret (pe_op o_mod (pe_callTy c_int rfl (T.free 125 rfl) (by decide +kernel) (pa_cons (pe_op op_mulU (pv 1) (pe_op o_shl pe_int (pe_op o_mod (pv 2) pe_int))) pa_nil)) pe_int))) pss_nil)
      (pss_cons (ps_if (pt_cmpR (op_eqU (K := K) rfl hr.units) (pv 0) pe_str (nomark _)) (pss_one (ps_ret (pe_op o_fdiv (pv 1) (pe_op o_shl pe_int (pe_op o_mod (pv 2) pe_int))))) pss_nil)
      (pss_cons (ps_if (pt_cmpR (op_inU (K := K) rfl (hu65 hr)) (pv 0) (pe_lst (pa_cons pe_str (pa_cons pe_str (pa_cons pe_str pa_nil)))) (by rfl)) (pss_one (ps_ret (pe_callTy c_int rfl (T.free 125 rfl) (by decide +kernel) (pa_cons (pe_ixU (K := K) rfl (hu_of hr) (pe_disp (pps_cons pe_str (pe_cmpR (op_eqU (K := K) rfl hr.units) (pv 1) (pv 2) (nomark _)) (pps_cons pe_str (pe_cmpR o_lt (pv 1) (pv 2) (nomark _)) (pps_cons pe_str (pe_cmpR o_le (pv 1) (pv 2) (nomark _)) pps_nil))) (by rfl) (by rfl) (fun z => by cases z) (by decide)) (pv 0)) pa_nil)))) pss_nil)
      (pss_cons (ps_if (pt_cmpR (op_eqU (K := K) rfl hr.units) (pv 2) pe_int (nomark _)) (pss_one (ps_ret (pe_ixU (K := K) rfl (hu_of hr) (pe_disp (pps_cons pe_str pe_int (pps_cons pe_str (pv 1) pps_nil)) (by rfl) (by rfl) (fun z => by cases z) (by decide)) (pv 0)))) pss_nil)
      (pss_one (ps_ret (pe_ixU (K := K) rfl (hu_of hr) (pe_disp (pps_cons pe_str (pe_op o_fdiv (pv 1) (pv 2)) (pps_cons pe_str (pe_op o_mod (pv 1) (pv 2)) pps_nil)) (by rfl) (by rfl) (fun z => by cases z) (by decide)) (pv 0)))))))))), ?_⟩)
  obtain ⟨s, z, a, b, rfl, hz, wa, wb, hQ⟩ := h
  have a1 := wa.l
  have a2 := wa.u
  have b1 := wb.l
  have b2 := wb.u
  obtain ⟨p1, p2⟩ := pow32 (b := b)
  walk_at "go"
  refine ⟨by decide, fun q hq => ?_⟩
  have s1 := Same.new (o := .lst [.str "+", .str "-", .str "*"]) hq
  refine g_inTs (ks := ["+", "-", "*"]) (.inr upd_same) ?_
  walk_at "go"
  cases s <;> (simp only [Sg.s] at hz; subst hz)
  case add | sub | mul =>
    refine g_is (by decide +kernel) ?_
    walk_at "go"
    intro m hm
    walk_at "go"
    refine g_d3 upd_same ?_
    rw [upd_upd]
    walk_at "go"
    first
    | (refine g_ixD (dg_of upd_same (mg3.trans (ev3a (by decide) (by decide)))) ?_
       walk_at "go"
       exact hQ _ (s1.trans (Same.new hm)))
    | (refine g_ixD (dg_of upd_same (mg3.trans (ev3b (by decide)))) ?_
       walk_at "go"
       exact hQ _ (s1.trans (Same.new hm)))
    | (refine g_ixD (dg_of upd_same (mg3.trans ev3c)) ?_
       walk_at "go"
       exact hQ _ (s1.trans (Same.new hm)))
  all_goals
    refine g_isnt (by decide +kernel) ?_
    walk_at "go"
    refine ⟨by decide, fun q2 hq2 => ?_⟩
    have s2 := s1.trans (Same.new (o := .lst [.str "&", .str "|", .str "^"]) hq2)
    refine g_inTs (ks := ["&", "|", "^"]) (.inr upd_same) ?_
    walk_at "go"
  case band | bor | bxor =>
    refine g_is (by decide +kernel) ?_
    walk_at "go"
    intro m hm
    walk_at "go"
    refine g_d3 upd_same ?_
    rw [upd_upd]
    walk_at "go"
    first
    | (refine g_ixD (dg_of upd_same (mg3.trans (ev3a (by decide) (by decide)))) ?_
       exact hQ _ (s2.trans (Same.new hm)))
    | (refine g_ixD (dg_of upd_same (mg3.trans (ev3b (by decide)))) ?_
       exact hQ _ (s2.trans (Same.new hm)))
    | (refine g_ixD (dg_of upd_same (mg3.trans ev3c)) ?_
       exact hQ _ (s2.trans (Same.new hm)))
  all_goals
    refine g_isnt (by decide +kernel) ?_
    walk_at "go"
  case shl => exact hQ _ s2
  case shr => exact hQ _ s2
  all_goals
    refine ⟨by decide, fun q3 hq3 => ?_⟩
    have s3 := s2.trans (Same.new (o := .lst [.str "==", .str "<", .str "<="]) hq3)
    refine g_inTs (ks := ["==", "<", "<="]) (.inr upd_same) ?_
    walk_at "go"
  case eq | lt | le =>
    refine g_is (by decide +kernel) ?_
    walk_at "go"
    intro m hm
    walk_at "go"
    refine g_d3 upd_same ?_
    rw [upd_upd]
    walk_at "go"
    first
    | (refine g_ixD (dg_of upd_same (mg3.trans (ev3a (by decide) (by decide)))) ?_
       walk_at "go"
       exact hQ _ (s3.trans (Same.new hm)))
    | (refine g_ixD (dg_of upd_same (mg3.trans (ev3b (by decide)))) ?_
       walk_at "go"
       exact hQ _ (s3.trans (Same.new hm)))
    | (refine g_ixD (dg_of upd_same (mg3.trans ev3c)) ?_
       walk_at "go"
       exact hQ _ (s3.trans (Same.new hm)))
  case div =>
    refine g_isnt (by decide +kernel) ?_
    walk_at "go"
    refine g_if (fun c => ?_) (fun c => ?_)
    · walk_at "go"
      intro m hm
      walk_at "go"
      refine g_d2 upd_same ?_
      rw [upd_upd]
      walk_at "go"
      refine g_ixD (dg_of upd_same (mg2.trans (ev2a (by decide)))) ?_
      refine q_int ?_ (hQ _ (s3.trans (Same.new hm)))
      show (if b = 0 then 0 else a / b) = _
      rw [if_pos c]
    · walk_at "go"
      intro m hm
      walk_at "go"
      refine g_d2 upd_same ?_
      rw [upd_upd]
      walk_at "go"
      refine g_ixD (dg_of upd_same (mg2.trans (ev2a (by decide)))) ?_
      refine q_int ?_ (hQ _ (s3.trans (Same.new hm)))
      show (if b = 0 then 0 else a / b) = _
      rw [if_neg c]
  case mod =>
    refine g_isnt (by decide +kernel) ?_
    walk_at "go"
    refine g_if (fun c => ?_) (fun c => ?_)
    · walk_at "go"
      intro m hm
      walk_at "go"
      refine g_d2 upd_same ?_
      rw [upd_upd]
      walk_at "go"
      refine g_ixD (dg_of upd_same (mg2.trans ev2b)) ?_
      refine q_int ?_ (hQ _ (s3.trans (Same.new hm)))
      show (if b = 0 then a else a % b) = _
      rw [if_pos c]
    · walk_at "go"
      intro m hm
      walk_at "go"
      refine g_d2 upd_same ?_
      rw [upd_upd]
      walk_at "go"
      refine g_ixD (dg_of upd_same (mg2.trans ev2b)) ?_
      refine q_int ?_ (hQ _ (s3.trans (Same.new hm)))
      show (if b = 0 then a else a % b) = _
      rw [if_neg c]


theorem all_snoc {α : Type} {p : α → Prop} {l : List α} {y : α} (h : ∀ x ∈ l, p x) (hy : p y) : ∀ x ∈ l ++ [y], p x := fun x hx => by
  rcases List.mem_append.mp hx with hx | hx
  · exact h x hx
  · rw [List.mem_singleton.mp hx]
    exact hy
theorem sub_last {L : List (Addr × HO)} {x : Addr × HO} : L.Sublist (L ++ [x]) := List.sublist_append_left L [x]
theorem get_last {L : List (Addr × HO)} {x : Addr × HO} : (L ++ [x])[L.length]? = some x := by simp
theorem set_last {L : List (Addr × HO)} {x y : Addr × HO} : (L ++ [x]).set L.length y = L ++ [y] := by simp

/-! ### rows on the heap -/
def toV : PyData → V
  | .int i => .int i
  | .str z => .str z
  | _ => .non
def Row.v : Row → List V
  | .const d n => [.str "const", .int d, .int n]
  | .op s d a b => [.str "op", .str s.s, .int d, .int a, .int b]
  | .select d c a b => [.str "select", .int d, .int c, .int a, .int b]
  | .load d a base mask => [.str "load", .int d, .int a, .int base, .int mask]
  | .store a base mask b => [.str "store", .int a, .int base, .int mask, .int b]
  | .out a => [.str "out", .int a]
  | .jump t => [.str "jump", .int t]
  | .branch a t => [.str "branch", .int a, .int t]
  | .stop a => [.str "stop", .int a]
theorem ims_flat {H : Hp} : ∀ {xs : List V} {ds : List PyData}, Ims H xs ds → (∀ d ∈ ds, isI d = true ∧ isB d = false ∨ isS d = true) → xs = ds.map toV
  | _, _, .nil, _ => rfl
  | _, _, .cons h t, f => by
    rw [List.map_cons, ims_flat t fun d hd => f d (List.mem_cons_of_mem _ hd)]
    congr 1
    have := f _ List.mem_cons_self
    cases h with
    | int i => rfl
    | str z => rfl
    | non => rcases this with ⟨h, _⟩ | h <;> cases h
    | bl b => rcases this with ⟨_, h⟩ | h <;> cases h
    | tup _ _ => rcases this with ⟨h, _⟩ | h <;> cases h
theorem row_tup {H : Hp} {x : V} {r : Row} (h : Im H x r.d) : ∃ a, x = .ref a ∧ H a = some (.tup r.v) := by
  cases r <;>
  · obtain ⟨a, xs, rfl, h1, h2⟩ := h.tup_inv
    have e := ims_flat h2 (by intro d hd; simp only [List.mem_cons, List.not_mem_nil, or_false] at hd; rcases hd with rfl | rfl | rfl | rfl | rfl <;> first | exact .inl ⟨rfl, rfl⟩ | exact .inr rfl)
    subst e
    exact ⟨a, rfl, h1⟩
abbrev ML (rg wd o : Addr) (ms : MS) : List (Addr × HO) := [(rg, .lst (ms.rg.map V.int)), (wd, .dK ms.wd), (o, .lst (ms.ou.map V.int))]
section
variable {K : PySem.W.Frag} {H H' : Hp} {Q : VK} {R : Hp → Prop} {p : Addr × HO} {rg wd o ra : Addr} {ms : MS} {b : Nat} {cov : Int → Prop} {a d : Nat} {i x : Int} {xs : List V}
theorem ml_reg (M : Has H (p :: ML rg wd o ms)) (h : MOk b cov ms) (ha : a < 16) (q : Q (.int (rgV ms a)) H) : rIxU K (.ref rg) (.int (a : Int)) H Q :=
  g_ixL (SqL.of (M.get 1 rfl)) (n := a) rfl (by rw [List.getElem?_map, h.at_ ha]; rfl) q
theorem ml_set (M : Has H (p :: ML rg wd o ms)) (h : MOk b cov ms) (hd : d < 16) (q : ∀ H', Keep [rg, wd, o] H H' → Has H' (p :: ML rg wd o (put ms d x)) → R H') : rSetU (.ref rg) (.int (d : Int)) (.int x) H R := by
  have e : (ms.rg.map V.int).set d (.int x) = (put ms d x).rg.map V.int := List.map_set.symm
  refine g_setU M 1 rfl rfl (by rw [List.length_map, h.l]; exact hd) ?_
  rw [e]
  intro M'
  exact q _ (Keep.set (by simp)) M'
theorem ml_get {A : Option V → Prop} (M : Has H (p :: ML rg wd o ms)) (h : MOk b cov ms) (q : ∀ ov : Option V, ov.getD (.int 0) = .int (wdV ms.wd i) → A ov) : ∃ ov, DGet H wd (.int i) ov ∧ A ov := by
  refine ⟨valV ms.wd (.inl i), DGet.k (k := .inl i) (M.get 2 rfl), q _ ?_⟩
  unfold wdV
  cases e : valV ms.wd (.inl i) with
  | none => rfl
  | some v =>
    obtain ⟨x, rfl, _⟩ := h.w _ _ e
    rfl
theorem ml_put (M : Has H (p :: ML rg wd o ms)) (h : MOk b cov ms) (hb : b ≤ 90000) (q : ∀ H', Keep [rg, wd, o] H H' → Has H' (p :: ML rg wd o { ms with wd := putK ms.wd (.inl i) (.int x) }) → R H') : rSetU (.ref wd) (.int i) (.int x) H R := by
  refine .inr ⟨wd, _, rfl, DPut.k (k := .inl i) (M.get 2 rfl) (szl (by have := h.n; omega)), ?_⟩
  exact q _ (Keep.set (by simp)) (M.set 2 rfl)
theorem ml_out (M : Has H (p :: ML rg wd o ms)) (h : MOk b cov ms) (hb : b ≤ 90000) (q : ∀ H', Keep [rg, wd, o] H H' → Has H' (p :: ML rg wd o { ms with ou := ms.ou ++ [x] }) → Q .non H') : rAppend (.ref o) [.int x] H Q := by
  refine g_append M 3 rfl (szl (by rw [List.length_map]; have := h.m; omega)) (fun M' => ?_)
  have e : ms.ou.map V.int ++ [V.int x] = (ms.ou ++ [x]).map V.int := by simp
  rw [e] at M' ⊢
  exact q _ (Keep.set (by simp)) M'
theorem ml_tup (M : Has H (p :: ML rg wd o ms)) (k : Keep [rg, wd, o] H H') (h : H ra = some (.tup xs)) : H' ra = some (.tup xs) := by
  refine k ra _ h fun z => ?_
  simp only [List.mem_cons, List.not_mem_nil, or_false] at z
  rcases z with rfl | rfl | rfl
  · have := M.get 1 rfl; rw [h] at this; cases this
  · have := M.get 2 rfl; rw [h] at this; cases this
  · have := M.get 3 rfl; rw [h] at this; cases this
theorem ml_noTup (M : Has H (p :: ML rg wd o ms)) : NoTup H [rg, wd, o] :=
  NoTup.cons (M.get 1 rfl) (fun _ e => nomatch e) (NoTup.cons (M.get 2 rfl) (fun _ e => nomatch e) (NoTup.one (M.get 3 rfl) (fun _ e => nomatch e)))
end
def Row.plain : Row → Bool
  | .jump _ => false
  | .branch _ _ => false
  | .stop _ => false
  | _ => true
abbrev stO (K : PySem.W.Frag) (dx rg rd wd : Addr) : HO := .ins (He.ga K "State") dx (fs_State (.ref rg) (.ref rd) (.ref wd))
def sp_State___init__ (K : PySem.W.Frag) : Sp := fun vs H Q _ => ∃ (s dx rg rd wd : Addr) (L : List (Addr × HO)), vs = [.ref s, .ref rg, .ref rd, .ref wd] ∧ Has H ((s, .ins (He.ga K "State") dx []) :: L) ∧ (Has (upd H s (stO K dx rg rd wd)) ((s, stO K dx rg rd wd) :: L) → Q .non (upd H s (stO K dx rg rd wd)))
theorem sc_State___init__ : FnScope ["self", "registers", "ready", "words"] ["self", "registers", "ready", "words"] (defScope (inClass (topS 16) 0)) := ⟨rfl, rfl, rfl, by decide +kernel, rfl, by decide +kernel, by decide +kernel⟩
theorem mt_State___init__ (T : Txt fa fn K mg (CsOk cs K w)) : Mt P w K mg base CX0 1 "State" "__init__" ["self", "registers", "ready", "words"] (sp_State___init__ K) := by
  refine mk_mt (d := mOf "State" "__init__" "State.__init__" (inClass (topS 16) 0)) T 65 rfl rfl rfl rfl sc_State___init__ (by walk_at "len") (fun _ _ _ _ _ _ us hl => match us, hl with | [_, _, _, _], _ => rfl) (fun cdv A outer s H vs Q E hr h => ⟨_, (pss_cons (ps_fldU (K := K) rfl (pv 0) (pv 1) rfl)
      (pss_cons (ps_fldU (K := K) rfl (pv 0) (pv 2) rfl)
      (pss_one (ps_fldU (K := K) rfl (pv 0) (pv 3) rfl)))), ?_⟩)
  obtain ⟨s, dx, rg, rd, wd, L, rfl, M, hQ⟩ := h
  walk_at "go"
  refine g_setF M 0 rfl (cl_State T) (na_State_registers T) (by show 0 < 1000; decide) (pt_new nf_State_registers) (fun M1 => ?_)
  walk_at "go"
  refine g_setF M1 0 rfl (cl_State T) (na_State_ready T) (by show 1 < 1000; decide) (pt_new nf_State_ready) (fun M2 => ?_)
  walk_at "go"
  refine g_setF M2 0 rfl (cl_State T) (na_State_words T) (by show 2 < 1000; decide) (pt_new nf_State_words) (fun M3 => ?_)
  rw [upd_upd, upd_upd] at M3 ⊢
  exact hQ M3
def sp_plain_row (K : PySem.W.Frag) : Sp := fun vs H Q _ => ∃ (ra s rg rd wd o dx : Addr) (r : Row) (many k b : Nat) (cov : Int → Prop) (ms : MS), vs = [.ref ra, .ref s, .ref o] ∧ H ra = some (.tup r.v) ∧ Has H ((s, stO K dx rg rd wd) :: ML rg wd o ms) ∧ MOk b cov ms ∧ RowOkD many k r ∧ b ≤ 90000 ∧ r.plain = true ∧
  ∀ H', Keep [rg, wd, o] H H' → Has H' ((s, stO K dx rg rd wd) :: ML rg wd o (doRow ms r)) → Q .non H'
/-! ### the memory -/
structure Rg where
  b : Int
  n : Nat
  l : Str
def Rg.d (g : Rg) : PyData := .tuple [.int g.b, nI g.n, .str g.l]
def memK (base : Int) (row : List Int) (n : Nat) (kvs : List (Key × V)) : List (Key × V) := (List.range n).foldl (fun acc (k : Nat) => putK acc (.inl (base + (k : Int))) (.int (row.getD k 0))) kvs
def stepR (acc : List (Key × V)) (p : Rg × List Int) : List (Key × V) := memK p.1.b p.2 p.1.n acc
def mem (rgs : List Rg) (cs : List (List Int)) : List (Key × V) := (rgs.zip cs).foldl stepR []
theorem memK_succ {base : Int} {row : List Int} {n : Nat} {kvs : List (Key × V)} : memK base row (n + 1) kvs = putK (memK base row n kvs) (.inl (base + (n : Int))) (.int (row.getD n 0)) := by
  unfold memK
  rw [List.range_succ, List.foldl_append]
  rfl
theorem memK_len {base : Int} {row : List Int} {kvs : List (Key × V)} : ∀ n : Nat, (memK base row n kvs).length ≤ kvs.length + n
  | 0 => Nat.le_refl _
  | n + 1 => by
    rw [memK_succ]
    have h1 := memK_len (base := base) (row := row) (kvs := kvs) n
    have h2 := putK_len (memK base row n kvs) (.inl (base + n)) (.int (row.getD n 0))
    omega
theorem foldl_take_succ {α β : Type} {f : β → α → β} {ds : List α} {i : Nat} {e : α} {z : β} (h : ds[i]? = some e) : (ds.take (i + 1)).foldl f z = f ((ds.take i).foldl f z) e := by
  rw [List.take_add_one, h, List.foldl_append]
  rfl
/-- regions and contents in order -/
structure MemOk (rgs : List Rg) (cs : List (List Int)) : Prop where
  l : cs.length = rgs.length
  m : rgs.length ≤ 4
  n : ∀ (i : Nat) (g : Rg) (c : List Int), rgs[i]? = some g → cs[i]? = some c → c.length = g.n
  z : ∀ g ∈ rgs, g.n ≤ 100
  w : ∀ c ∈ cs, ∀ x ∈ c, W32 x
  s : ∀ g ∈ rgs, PyData.strOk g.l = true
theorem mem_len {rgs : List Rg} {cs : List (List Int)} (h : MemOk rgs cs) : ∀ i : Nat, (((rgs.zip cs).take i).foldl stepR []).length ≤ 100 * i
  | 0 => Nat.le_refl _
  | i + 1 => by
    have ih := mem_len h i
    cases e : (rgs.zip cs)[i]? with
    | none =>
      rw [List.take_add_one, e]
      simp only [Option.toList_none, List.append_nil]
      omega
    | some p =>
      rw [foldl_take_succ e]
      have h1 := memK_len (base := p.1.b) (row := p.2) (kvs := ((rgs.zip cs).take i).foldl stepR []) p.1.n
      have h2 := h.z p.1 (List.of_mem_zip (List.mem_of_getElem? e)).1
      show (memK _ _ _ _).length ≤ _
      omega
def cD (c : List Int) : PyData := .tuple (c.map .int)
abbrev codeD (rgs : List Rg) (rows : List Row) : PyData := .tuple [.tuple (rgs.map Rg.d), .tuple (rows.map Row.d)]
abbrev contD (cs : List (List Int)) : PyData := .tuple (cs.map cD)
def sp_words_of (K : PySem.W.Frag) : Sp := fun vs H Q _ => ∃ (code cont : V) (rgs : List Rg) (cs : List (List Int)) (rows : List Row), vs = [code, cont] ∧ Im H code (codeD rgs rows) ∧ Im H cont (contD cs) ∧ MemOk rgs cs ∧
  ∀ H' wd, Same H H' → H wd = none → H' wd = some (.dK (mem rgs cs)) → Q (.ref wd) H'
theorem im3v {H : Hp} {x : V} {g : Rg} (h : Im H x g.d) : ∃ a, x = .ref a ∧ H a = some (.tup [.int g.b, .int g.n, .str g.l]) := by
  obtain ⟨a, x1, x2, x3, rfl, h1, i1, i2, i3⟩ := im3 h
  obtain rfl := i1.int_inv
  obtain rfl := i2.int_inv
  obtain rfl := i3.str_inv
  exact ⟨a, rfl, h1⟩
theorem zip_at {α β : Type} {xs : List α} {ys : List β} {i : Nat} {x : α} {y : β} (hx : xs[i]? = some x) (hy : ys[i]? = some y) : (xs.zip ys)[i]? = some (x, y) := by
  rw [List.getElem?_zip_eq_some]
  exact ⟨hx, hy⟩
theorem sc_words_of : FnScope ["code", "contents", "words", "region", "row", "k"] ["code", "contents"] (defScope (topS 15)) := ⟨rfl, rfl, rfl, by decide +kernel, rfl, by decide +kernel, by decide +kernel⟩
theorem ok_words_of (T : Txt fa fn K mg (CsOk cs K w)) : Dn P w K mg base CX0 1 "words_of" ["code", "contents"] (sp_words_of K) := by
  refine mk_dn (d := dOf "words_of" 15) T 6 6 rfl rfl rfl rfl rfl sc_words_of (by walk_at "len") (fun _ _ _ _ _ _ us hl => match us, hl with | [_, _], _ => rfl) (fun cdv A outer s H vs Q E hr h => ⟨_, (pss_cons (ps_set (i := 2) sc_words_of.nd rfl (.inl rfl) pe_dnewK)
      (pss_cons (ps_for PassesOwn.never rfl (pi_zipU (K := K) rfl rfl (T.free 136 rfl) (pa_cons (pe_ixU (K := K) rfl (hu_of hr) (pv 0) pe_int) (pa_cons (pv 1) pa_nil))) (pg_tup rfl (pgs_cons (pg_name (i := 3) sc_words_of.nd rfl (.inl rfl)) (pgs_cons (pg_name (i := 4) sc_words_of.nd rfl (.inl rfl)) pgs_nil))) (pss_one (ps_for PassesOwn.never rfl (pi_r1 rfl (T.free 131 rfl) (pa_cons (pe_ixU (K := K) rfl (hu_of hr) (pv 3) pe_int) pa_nil)) (pg_name (i := 5) sc_words_of.nd rfl (.inl rfl)) (pss_one (ps_asg (pe_ixU (K := K) rfl (hu_of hr) (pv 4) (pv 5)) (pg_sub (pv 2) (pe_op (op_addU (K := K) rfl) (pe_ixU (K := K) rfl (hu_of hr) (pv 3) pe_int) (pv 5)) (set_U (hu_of hr))))))))
      (pss_one (ps_ret (pv 2))))), ?_⟩)
  obtain ⟨code, cont, rgs, cs, rows, rfl, ic, ik, ok, hQ⟩ := h
  walk_at "go"
  intro wd hwd
  walk_at "go"
  have s0 : Same H (upd H wd (.dK [])) := Same.new hwd
  refine m_ix (ic.same s0) (n := 0) rfl rfl (fun v hv => ?_)
  walk_at "go"
  obtain ⟨a1, xs1, rfl, h1, hs1⟩ := hv.tup_inv
  obtain ⟨a2, xs2, rfl, h2, hs2⟩ := (ik.same s0).tup_inv
  have l1 := hs1.length
  have l2 := hs2.length
  rw [List.length_map] at l1 l2
  have lk := ok.l
  refine g_zipT (SqT.of h1) (SqT.of h2) ?_
  refine f_zipT (xs := xs1) (ys := xs2) (by omega) (fun i σ H' => ∃ (r1 r2 k : Option V), σ = [some code, some (.ref a2), some (.ref wd), r1, r2, k] ∧ Keep [wd] (upd H wd (.dK [])) H' ∧ H' wd = some (.dK (((rgs.zip cs).take i).foldl stepR [])) ∧ i ≤ rgs.length) ⟨_, _, _, rfl, Keep.refl, upd_same, Nat.zero_le _⟩ ?_ ?_ ?_
  · rintro i σ H' ⟨r1, r2, k, rfl, kp, hw, _⟩
    have nt : NoTup (upd H wd (.dK [])) [wd] := NoTup.one upd_same (fun _ e => nomatch e)
    exact ⟨SqT.of (kp _ _ h1 (fun z => nt a1 z _ h1)), SqT.of (kp _ _ h2 (fun z => nt a2 z _ h2))⟩
  · rintro i x y Tp σ H' hx hy ⟨r1, r2, k, rfl, kp, hw, hil⟩ hT
    have nt : NoTup (upd H wd (.dK [])) [wd] := NoTup.one upd_same (fun _ e => nomatch e)
    obtain ⟨hlt, _⟩ := List.getElem?_eq_some_iff.mp hx
    have hg : rgs[i]? = some (rgs[i]'(by omega)) := List.getElem?_eq_getElem _
    generalize rgs[i]'(by omega) = rgn at hg
    have hc : cs[i]? = some (cs[i]'(by omega)) := List.getElem?_eq_getElem _
    generalize cs[i]'(by omega) = c at hc
    obtain ⟨x', hx', hix⟩ := hs1.get (n := i) (d := rgn.d) (by rw [List.getElem?_map, hg]; rfl)
    rw [hx] at hx'
    cases hx'
    obtain ⟨y', hy', hiy⟩ := hs2.get (n := i) (d := cD c) (by rw [List.getElem?_map, hc]; rfl)
    rw [hy] at hy'
    cases hy'
    have sT : Same H' (upd H' Tp (.tup [x, y])) := Same.new hT
    have hix := (hix.keep kp nt).same sT
    have hiy := (hiy.keep kp nt).same sT
    obtain ⟨ax, rfl, hax⟩ := im3v hix
    have hTT : upd H' Tp (.tup [.ref ax, y]) Tp = some (.tup [.ref ax, y]) := upd_same
    have hw1 := sT _ _ hw
    have cl := ok.n i rgn c hg hc
    have ml := mem_len ok i
    have zl := ok.z rgn (List.mem_of_getElem? hg)
    have m4 := ok.m
    walk_at "go"
    rw [Int.toNat_natCast]
    refine f_range (fun j σ H2 => ∃ (k : Option V), σ = [some code, some (.ref a2), some (.ref wd), some (.ref ax), some y, k] ∧ Keep [wd] (upd H' Tp (.tup [.ref ax, y])) H2 ∧ H2 wd = some (.dK (memK rgn.b c j (((rgs.zip cs).take i).foldl stepR [])))) ⟨_, rfl, Keep.refl, hw1⟩ ?_ ?_
    · rintro j σ H2 hj ⟨k, rfl, k2, hw2⟩
      have nt2 : NoTup (upd H' Tp (.tup [.ref ax, y])) [wd] := NoTup.one hw1 (fun _ e => nomatch e)
      have hax2 : H2 ax = some (.tup [.int rgn.b, .int rgn.n, .str rgn.l]) := k2 _ _ hax (fun z => nt2 ax z _ hax)
      have hiy2 := hiy.keep k2 nt2
      have hcj : c[j]? = some (c.getD j 0) := by rw [List.getD_eq_getElem?_getD, List.getElem?_eq_getElem (by omega)]; rfl
      walk_at "go"
      refine m_ix hiy2 (n := j) (by omega) (by rw [List.getElem?_map, hcj]; rfl) (fun v hv => ?_)
      obtain rfl := hv.int_inv
      walk_at "go"
      have e0 : (0 : Int) + (j : Int) = (j : Int) := by omega
      rw [e0]
      refine .inr ⟨wd, _, rfl, DPut.k (k := .inl (rgn.b + j)) hw2 (szl ?_), ?_⟩
      · have := memK_len (base := rgn.b) (row := c) (kvs := ((rgs.zip cs).take i).foldl stepR []) j
        omega
      · walk_at "go"
        refine ⟨_, rfl, k2.trans (Keep.set (by simp)), ?_⟩
        rw [memK_succ]
        exact upd_same
    · rintro σ H2 ⟨k, rfl, k2, hw2⟩
      walk_at "go"
      refine ⟨_, _, _, rfl, (kp.trans (Keep.of sT)).trans k2, ?_, by omega⟩
      rw [foldl_take_succ (zip_at hg hc)]
      exact hw2
  · rintro σ H' ⟨r1, r2, k, rfl, kp, hw, hil⟩
    walk_at "go"
    have e : ((rgs.zip cs).take xs1.length) = rgs.zip cs := List.take_of_length_le (by rw [List.length_zip]; omega)
    rw [e] at hw
    exact hQ H' wd (fun bb u hb => kp bb u (s0 bb u hb) (fun z => by
      rw [List.mem_singleton] at z
      subst z
      rw [hwd] at hb
      cases hb)) hwd hw
/-! ### the contents at the end -/
def heldD (rgs : List Rg) (ms : MS) : List PyData := rgs.map fun g => .tuple ((List.range g.n).map fun (j : Nat) => .int (wdV ms.wd (g.b + (j : Int))))
def covG (rgs : List Rg) (a : Int) : Prop := ∃ g ∈ rgs, ∃ j : Nat, j < g.n ∧ a = g.b + j
def sp_State_contents (K : PySem.W.Frag) : Sp := fun vs H Q _ => ∃ (s rg rd wd dx : Addr) (x : V) (rgs : List Rg) (ms : MS) (b : Nat), vs = [.ref s, x] ∧ H s = some (stO K dx rg rd wd) ∧ H wd = some (.dK ms.wd) ∧ Im H x (.tuple (rgs.map Rg.d)) ∧ MOk b (covG rgs) ms ∧ (∀ g ∈ rgs, g.n ≤ 100) ∧ rgs.length ≤ 4 ∧
  ∀ H' v, Same H H' → Im H' v (.tuple (heldD rgs ms)) → Q v H'
theorem ml_at {wd : Addr} {H : Hp} {ms : MS} {b : Nat} {cov : Int → Prop} {i : Int} (hw : H wd = some (.dK ms.wd)) (h : MOk b cov ms) (hc : cov i) : DGet H wd (.int i) (some (.int (wdV ms.wd i))) := by
  have e : valV ms.wd (.inl i) = some (.int (wdV ms.wd i)) := by
    unfold wdV
    cases e : valV ms.wd (.inl i) with
    | none =>
      have := h.c i hc
      rw [e] at this
      cases this
    | some v =>
      obtain ⟨x, rfl, _⟩ := h.w _ _ e
      rfl
  rw [← e]
  exact DGet.k (k := .inl i) hw
theorem sc_State_contents : FnScope ["self", "regions", "base", "label", "size", "k"] ["self", "regions"] (defScope (inClass (topS 16) 3)) := ⟨rfl, rfl, rfl, by decide +kernel, rfl, by decide +kernel, by decide +kernel⟩
theorem mt_State_contents (T : Txt fa fn K mg (CsOk cs K w)) : Mt P w K mg base CX0 1 "State" "contents" ["self", "regions"] (sp_State_contents K) := by
  refine mk_mt (d := mOf "State" "contents" "State.contents" (inClass (topS 16) 3)) T 68 rfl rfl rfl rfl sc_State_contents (by walk_at "len") (fun _ _ _ _ _ _ us hl => match us, hl with | [_, _], _ => rfl) (fun cdv A outer s H vs Q E hr h => ⟨_, (pss_one (ps_ret (pe_callTy (c_tuple (K := K) rfl) rfl (T.free 135 rfl) (by decide +kernel) (pa_cons (pe_lc rfl sc_State_contents.nd (pi_seq (K := K) rfl (pv 1)) (blkOk_by (own := [("base", 2), ("size", 4), ("label", 3)]) (N := ["self", "regions", "base", "label", "size", "k"]) (sc := defScope (inClass (topS 16) 3)) (by decide +kernel)) (fun _ _ _ _ _ => (pg_tupU (K := K) (n := 3) rfl rfl (pgs_cons (pg_name (i := 2) sc_State_contents.nd rfl (.inr rfl) (.inl rfl)) (pgs_cons (pg_name (i := 4) sc_State_contents.nd rfl (.inl rfl) (.inr rfl)) (pgs_cons (pg_name (i := 3) sc_State_contents.nd rfl (.inl rfl) (.inr rfl)) pgs_nil))))) (fun _ _ _ _ _ => pts_nil) (fun _ _ _ _ _ => (pe_callTy (c_tuple (K := K) rfl) rfl (T.free 135 rfl) (by decide +kernel) (pa_cons (pe_lc rfl sc_State_contents.nd (pi_r1 rfl (T.free 131 rfl) (pa_cons (pv 4) pa_nil)) (blkOk_by (own := [("k", 5)]) (by kernel_rfl)) (fun _ _ _ _ _ => (pg_name (i := 5) sc_State_contents.nd rfl (.inl rfl))) (fun _ _ _ _ _ => pts_nil) (fun _ _ _ _ _ => (pe_ixU (K := K) rfl (hu_of hr) (pe_fldU (K := K) rfl (pv 0) rfl) (pe_op (op_addU (K := K) rfl) (pv 2) (pv 5))))) pa_nil)))) pa_nil)))), ?_⟩)
  obtain ⟨s, rg, rd, wd, dx, x, rgs, ms, b, rfl, hs, hw, ix, hm, hz, hl, hQ⟩ := h
  walk_at "go"
  refine m_seq ix (fun a xs e ha his => ?_)
  subst e
  refine l_map (f := fun d => match d with | .tuple [.int b, .int n, _] => .tuple ((List.range n.toNat).map fun (j : Nat) => .int (wdV ms.wd (b + (j : Int)))) | _ => .none) ha his (by rw [List.length_map]; omega) (fun i e y H1 R hi s1 iy hR => ?_) ?_ (fun D H1 us s1 hD im => ?_)
  · rw [List.getElem?_map] at hi
    obtain ⟨g, hg, rfl⟩ := Option.map_eq_some_iff.mp hi
    have gm := List.mem_of_getElem? hg
    have zz := hz g gm
    obtain ⟨t, rfl, ht⟩ := im3v iy
    walk_at "go"
    rw [Int.toNat_natCast]
    have hs1 := s1 _ _ hs
    have hw1 := s1 _ _ hw
    refine l_mapR (f := fun (j : Nat) => .int (wdV ms.wd (g.b + (j : Int)))) (by omega) (fun _ => rfl) (fun j H2 R2 hj s2 hR2 => ?_) (fun D2 H2 us2 s2 hD2 im2 => ?_)
    · have hs2 := s2 _ _ hs1
      have hw2 := s2 _ _ hw1
      walk_at "go"
      have e0 : (0 : Int) + (j : Int) = (j : Int) := by omega
      rw [e0]
      refine g_ixD (ml_at hw2 hm ⟨g, gm, j, hj, rfl⟩) ?_
      exact hR2 _ _ (Same.refl H2) (.int _)
    · walk_at "go"
      refine m_tupleL (SqL.of hD2) im2 (fun q H3 s3 hq im3 => ?_)
      refine hR _ _ (s2.trans s3) ?_
      exact im3
  · intro y σ1 H1 R R' hh h
    obtain ⟨a, xs, e, h1, h2, h3⟩ := h
    refine ⟨a, xs, e, h1, h2, ?_⟩
    obtain ⟨v1, r1, e1, h3⟩ := h3
    refine ⟨v1, r1, e1, ?_⟩
    obtain ⟨v2, r2, e2, h3⟩ := h3
    refine ⟨v2, r2, e2, ?_⟩
    obtain ⟨v3, r3, e3, h3⟩ := h3
    refine ⟨v3, r3, e3, h3.1, hh _ _ h3.2⟩
  · walk_at "go"
    refine m_tupleL (SqL.of hD) im (fun q H2 s2 hq im2 => ?_)
    refine hQ _ _ (s1.trans s2) ?_
    rw [List.map_map] at im2
    exact im2


/-! ### the whole plain run -/
def ms0 (rgs : List Rg) (cs : List (List Int)) : MS := ⟨List.replicate 16 0, mem rgs cs, []⟩
def GoodK (kvs : List (Key × V)) : Prop := ∀ k v, valV kvs k = some v → ∃ x, v = .int x ∧ W32 x
theorem memK_good {base : Int} {row : List Int} {kvs : List (Key × V)} (h : GoodK kvs) (hr : ∀ x ∈ row, W32 x) : ∀ n : Nat, GoodK (memK base row n kvs)
  | 0 => h
  | n + 1 => by
    rw [memK_succ]
    intro k v e
    rw [valV_put] at e
    split at e
    · cases e
      refine ⟨_, rfl, ?_⟩
      rw [List.getD_eq_getElem?_getD]
      cases q : row[n]? with
      | none => exact ⟨by decide, by decide⟩
      | some x => exact hr x (List.mem_of_getElem? q)
    · exact memK_good h hr n k v e
theorem memK_mono {base a : Int} {row : List Int} {kvs : List (Key × V)} (h : (valV kvs (.inl a)).isSome = true) : ∀ n : Nat, (valV (memK base row n kvs) (.inl a)).isSome = true
  | 0 => h
  | n + 1 => by
    rw [memK_succ, valV_put]
    split
    · rfl
    · exact memK_mono h n
theorem memK_has {base : Int} {row : List Int} {kvs : List (Key × V)} {j : Nat} : ∀ n : Nat, j < n → (valV (memK base row n kvs) (.inl (base + (j : Int)))).isSome = true
  | 0, h => absurd h (by omega)
  | n + 1, h => by
    rw [memK_succ, valV_put]
    split
    · rfl
    · rename_i hne
      refine memK_has n ?_
      by_cases e : j = n
      · subst e
        exact absurd rfl hne
      · omega
theorem mem_good {rgs : List Rg} {cs : List (List Int)} (h : MemOk rgs cs) : ∀ i : Nat, GoodK (((rgs.zip cs).take i).foldl stepR [])
  | 0 => fun k v e => by cases e
  | i + 1 => by
    cases e : (rgs.zip cs)[i]? with
    | none =>
      rw [List.take_add_one, e]
      simp only [Option.toList_none, List.append_nil]
      exact mem_good h i
    | some p =>
      rw [foldl_take_succ e]
      exact memK_good (mem_good h i) (h.w p.2 (List.of_mem_zip (List.mem_of_getElem? e)).2) _
theorem mem_cov {rgs : List Rg} {cs : List (List Int)} : ∀ (i : Nat) (t : Nat) (g : Rg) (c : List Int) (j : Nat), t < i → (rgs.zip cs)[t]? = some (g, c) → j < g.n → (valV (((rgs.zip cs).take i).foldl stepR []) (.inl (g.b + (j : Int)))).isSome = true
  | 0, t, _, _, _, h, _, _ => absurd h (by omega)
  | i + 1, t, g, c, j, h, hg, hj => by
    cases e : (rgs.zip cs)[i]? with
    | none =>
      rw [List.take_add_one, e]
      simp only [Option.toList_none, List.append_nil]
      by_cases q : t = i
      · subst q
        rw [hg] at e
        cases e
      · exact mem_cov i t g c j (by omega) hg hj
    | some p =>
      rw [foldl_take_succ e]
      by_cases q : t = i
      · subst q
        rw [hg] at e
        cases e
        exact memK_has _ hj
      · exact memK_mono (mem_cov i t g c j (by omega) hg hj) _
theorem ms0_ok {rgs : List Rg} {cs : List (List Int)} (h : MemOk rgs cs) : MOk 500 (covG rgs) (ms0 rgs cs) where
  l := by
    show (List.replicate 16 (0 : Int)).length = 16
    rw [List.length_replicate]
  r := fun x hx => by
    rw [(List.mem_replicate.mp hx).2]
    exact ⟨by decide, by decide⟩
  w := by
    have z := mem_good h (rgs.zip cs).length
    rw [List.take_length] at z
    exact z
  o := fun x hx => by cases hx
  c := fun a ⟨g, hg, j, hj, e⟩ => by
    subst e
    obtain ⟨t, ht, eg⟩ := List.mem_iff_getElem.mp hg
    have l := h.l
    have z := mem_cov (rgs := rgs) (cs := cs) (rgs.zip cs).length t g (cs[t]'(by omega)) j (by rw [List.length_zip]; omega) (zip_at (by rw [List.getElem?_eq_getElem ht, eg]) (List.getElem?_eq_getElem _)) hj
    rw [List.take_length] at z
    exact z
  n := by
    have z := mem_len h (rgs.zip cs).length
    rw [List.take_length] at z
    have m := h.m
    have l := h.l
    rw [List.length_zip] at z
    show ((rgs.zip cs).foldl stepR []).length ≤ 500
    omega
  m := by
    show ([] : List Int).length ≤ 500
    decide
def rsD : Option Int → PyData
  | none => .none
  | some i => .int i
def rsV : Option Int → V
  | none => .non
  | some i => .int i
def resD (rgs : List Rg) (p : Option Int × MS) : List PyData := [.tuple (p.2.ou.map .int), rsD p.1, .tuple (heldD rgs p.2)]
theorem im_rs {H : Hp} (r : Option Int) : Im H (rsV r) (rsD r) := by
  cases r
  · exact .non
  · exact .int _
theorem ims_ints {H : Hp} : ∀ (ns : List Int), Ims H (ns.map V.int) (ns.map .int)
  | [] => .nil
  | n :: ns => .cons (.int n) (ims_ints ns)
theorem has_add {H H' : Hp} {L : List (Addr × HO)} {p : Addr} {o : HO} (M : Has H L) (sm : Same H H') (hn : H p = none) (hp : H' p = some o) : Has H' (L ++ [(p, o)]) where
  nd := by
    have z := (M.new (o := o) hn).nd
    exact z
  is_ := fun q hq => by
    rcases List.mem_append.mp hq with h | h
    · exact sm _ _ (M.is_ q h)
    · rw [List.mem_singleton.mp h]
      exact hp
theorem same_keep {H H1 H2 : Hp} {ms : List Addr} (s : Same H H1) (k : Keep ms H1 H2) (hn : ∀ m ∈ ms, H m = none) : Same H H2 := fun b u e => k b u (s b u e) fun z => by
  rw [hn b z] at e
  cases e
def Row.nm : Row → Str
  | .const _ _ => "const"
  | .op _ _ _ _ => "op"
  | .select _ _ _ _ => "select"
  | .load _ _ _ _ => "load"
  | .store _ _ _ _ => "store"
  | .out _ => "out"
  | .jump _ => "jump"
  | .branch _ _ => "branch"
  | .stop _ => "stop"
theorem row0 {r : Row} : r.v[0]? = some (.str r.nm) := by cases r <;> rfl
theorem pl_stop {r : Row} (h : r.plain = true) : ¬ r.nm = "stop" := by
  cases r <;> first | (cases h; done) | (simp only [Row.nm]; decide +kernel)
theorem pl_jump {r : Row} (h : r.plain = true) : ¬ r.nm = "jump" := by
  cases r <;> first | (cases h; done) | (simp only [Row.nm]; decide +kernel)
theorem pl_branch {r : Row} (h : r.plain = true) : ¬ r.nm = "branch" := by
  cases r <;> first | (cases h; done) | (simp only [Row.nm]; decide +kernel)
theorem pl_next {r : Row} {ms : MS} {a : Nat} (h : r.plain = true) : nextAt ms a r = a + 1 := by
  cases r <;> first | (cases h; done) | rfl
theorem pl_run {rows : List Row} {r : Row} {n a : Nat} {ms : MS} (h : r.plain = true) (hr : rows[a]? = some r) : runM rows (n + 1) a ms = runM rows n (a + 1) (doRow ms r) := by
  show (match rows[a]? with
    | some (.stop a) => (some (rgV ms a), ms)
    | some r => runM rows n (nextAt (doRow ms r) a r) (doRow ms r)
    | none => (none, ms)) = _
  rw [hr]
  cases r <;> first | (cases h; done) | rfl
structure CodeOk (rows : List Row) : Prop where
  l : 0 < rows.length
  u : rows.length ≤ 1000
  r : ∀ (k : Nat) (r : Row), rows[k]? = some r → RowOkD rows.length k r
def sp_plain_run (K : PySem.W.Frag) : Sp := fun vs H Q _ => ∃ (code cont : V) (n : Nat) (rgs : List Rg) (cs : List (List Int)) (rows : List Row), vs = [code, cont, .int (n : Int)] ∧ Im H code (codeD rgs rows) ∧ Im H cont (contD cs) ∧ MemOk rgs cs ∧ CodeOk rows ∧ n ≤ 2500 ∧
  ∀ H' v, Same H H' → Im H' v (.tuple (resD rgs (runM rows n 0 (ms0 rgs cs)))) → Q v H'


/-! ### what a row reads: reads(row), by the sorts of its parts -/
inductive PK
  | sg | d | a | n | b | m | t
  deriving DecidableEq
def PK.s : PK → Str
  | .sg => "sign" | .d => "d" | .a => "a" | .n => "n" | .b => "base" | .m => "mask" | .t => "t"
def shpL : List (Str × List PK) := [("const", [.d, .n]), ("op", [.sg, .d, .a, .a]), ("select", [.d, .a, .a, .a]), ("load", [.d, .a, .b, .m]), ("store", [.a, .b, .m, .a]), ("out", [.a]), ("jump", [.t]), ("branch", [.a, .t]), ("stop", [.a])]
theorem kv_shp : kv_PARTS = shpL.map fun p => (p.1, PyData.tuple (p.2.map fun k => .str k.s)) := rfl
theorem shp_len : ∀ p ∈ shpL, p.2.length ≤ 4 := by decide
/-- the parts of a kind of row stand in the module -/
theorem shp_at (T : Txt fa fn K mg (CsOk cs K w)) {z : Str} {ks : List PK} (h : (z, ks) ∈ shpL) : ∃ (u : Value) (b : Addr), PySem.W.nsIn K (He.ga K "PARTS") z = some (some u) ∧ RelV (.ref b) u ∧ ∀ H, SqT K H b ((ks.map PK.s).map V.str) := by
  have hm : (z, PyData.tuple (ks.map fun k => .str k.s)) ∈ kv_PARTS := by
    rw [kv_shp]
    exact List.mem_map.mpr ⟨(z, ks), h, rfl⟩
  obtain ⟨u, v, h1, h2, h3⟩ := T.m.key in_PARTS hm
  have e : (ks.map fun k => PyData.str k.s) = (ks.map PK.s).map PyData.str := by rw [List.map_map]; rfl
  rw [e] at h3
  cases h3 (fun _ => none) with
  | tup hs hd => exact ⟨u, _, h1, h2, fun H => dp_strs (h3 H)⟩
def isa : PK → Bool
  | .a => true
  | _ => false
theorem isa_s {k : PK} : k.s = "a" ↔ isa k = true := by
  cases k <;> simp only [PK.s, isa] <;> decide +kernel
def vI : V → Int
  | .int i => i
  | _ => 0
def readsV (ks : List PK) (xs : List V) (n : Nat) : List Int := ((List.range n).filter fun i => isa (ks.getD i .d)).map fun i => vI (xs.getD (i + 1) .non)
theorem reads_succ {ks : List PK} {xs : List V} {n : Nat} : readsV ks xs (n + 1) = readsV ks xs n ++ (if isa (ks.getD n .d) then [vI (xs.getD (n + 1) .non)] else []) := by
  unfold readsV
  rw [List.range_succ, List.filter_append, List.map_append]
  congr 1
  cases h : isa (ks.getD n .d) with
  | true =>
    rw [List.filter_cons, if_pos h]
    rfl
  | false =>
    rw [List.filter_cons, if_neg (by rw [h]; exact Bool.false_ne_true)]
    rfl
theorem reads_len {ks : List PK} {xs : List V} {n : Nat} : (readsV ks xs n).length ≤ n := by
  unfold readsV
  rw [List.length_map]
  have := List.length_filter_le (fun i => isa (ks.getD i .d)) (List.range n)
  rw [List.length_range] at this
  exact this
/-- the parts of a row that are read are ints -/
def ReadOk (ks : List PK) (xs : List V) : Prop := xs.length = ks.length + 1 ∧ ∀ i, i < ks.length → isa (ks.getD i .d) = true → ∃ y, xs[i + 1]? = some (.int y)
def sp_reads (K : PySem.W.Frag) : Sp := fun vs H Q _ => ∃ (ra : Addr) (z : Str) (ks : List PK) (xs : List V), vs = [.ref ra] ∧ H ra = some (.tup xs) ∧ xs[0]? = some (.str z) ∧ (z, ks) ∈ shpL ∧ ReadOk ks xs ∧
  ∀ H' p (ms : List Int), Same H H' → ms.Pairwise (· < ·) → (∀ j, j ∈ ms ↔ j ∈ readsV ks xs ks.length) → ms.length ≤ 4 → H' p = some (.tup (ms.map .int)) → Q (.ref p) H'
theorem sc_reads : FnScope ["row", "sorts", "at"] ["row"] (defScope (topS 9)) := ⟨rfl, rfl, rfl, by decide +kernel, rfl, by decide +kernel, by decide +kernel⟩
theorem ok_reads (T : Txt fa fn K mg (CsOk cs K w)) : Dn P w K mg base CX0 1 "reads" ["row"] (sp_reads K) := by
  refine mk_dn (d := dOf "reads" 9) T 3 3 rfl rfl rfl rfl rfl sc_reads (by walk_at "len") (fun _ _ _ _ _ _ us hl => match us, hl with | [_], _ => rfl) (fun cdv A outer s H vs Q E hr h => ⟨_, (pss_cons (ps_set (i := 1) sc_reads.nd rfl (.inr rfl) (pe_ixG (K := K) rfl rfl T.m in_PARTS (pe_glob (v := .ref (He.ga K "PARTS")) rfl (T.glo 138 rfl) rfl) (pe_ixU (K := K) rfl (hu_of hr) (pv 0) pe_int)))
      (pss_one (ps_ret (pe_callTy (c_tuple (K := K) rfl) rfl (T.free 135 rfl) (by decide +kernel) (pa_cons (pe_callB (c_setS rfl rfl) rfl (T.free 133 rfl) (by decide +kernel) (pa_cons (pe_callTy (c_setL (K := K) rfl rfl) rfl (T.free 132 rfl) (by decide +kernel) (pa_cons (pe_lc rfl sc_reads.nd (pi_r1 rfl (T.free 131 rfl) (pa_cons (pe_callB (c_len (K := K) rfl) rfl (T.free 127 rfl) (by decide +kernel) (pa_cons (pv 1) pa_nil)) pa_nil)) (blkOk_by (own := [("at", 2)]) (N := ["row", "sorts", "at"]) (sc := defScope (topS 9)) (by decide +kernel)) (fun _ _ _ _ _ => (pg_name (i := 2) sc_reads.nd rfl (.inl rfl))) (fun _ _ _ _ _ => (pts_one (pt_cmpR (op_eqU (K := K) rfl hr.units) (pe_ixU (K := K) rfl (hu_of hr) (pv 1) (pv 2)) pe_str (nomark _)))) (fun _ _ _ _ _ => (pe_ixU (K := K) rfl (hu_of hr) (pv 0) (pe_op (op_addU (K := K) rfl) (pv 2) pe_int)))) pa_nil)) pa_nil)) pa_nil))))), ?_⟩)
  obtain ⟨ra, z, ks, xs, rfl, hx, h0, hs, ok, hQ⟩ := h
  obtain ⟨u, b, h1, h2, h3⟩ := shp_at T hs
  obtain ⟨hl, hr⟩ := ok
  have klen : ks.length ≤ 4 := shp_len _ hs
  walk_at "go"
  refine g_ixT (SqT.of hx) (n := 0) rfl h0 ?_
  walk_at "go"
  refine ⟨z, u, .ref b, rfl, rfl, h1, h2, ?_⟩
  walk_at "go"
  refine g_lenT (h3 _) ?_
  rw [List.length_map, List.length_map]
  walk_at "go"
  rw [Int.toNat_natCast]
  refine l_range (fun D i H' => H' D = some (.lst ((readsV ks xs i).map V.int)) ∧ Same H H') (fun D hD => ⟨upd_same, Same.new hD⟩) ?_ ?_
  · rintro D hD i H' hi ⟨hD', sm⟩
    have g1 : ks[i]? = some (ks.getD i .d) := by rw [List.getD_eq_getElem?_getD, List.getElem?_eq_getElem hi]; rfl
    have e0 : (0 : Int) + (i : Int) = (i : Int) := by omega
    walk_at "go"
    rw [e0]
    refine g_ixT (h3 _) (n := i) rfl (v := .str (ks.getD i .d).s) (by rw [List.getElem?_map, List.getElem?_map, g1]; rfl) ?_
    walk_at "go"
    refine g_if (fun c => ?_) (fun c => ?_)
    · have ha := isa_s.mp c
      obtain ⟨y, hy⟩ := hr i hi ha
      walk_at "go"
      refine g_ixT (SqT.of (sm _ _ hx)) (n := i + 1) (by omega) hy ?_
      have rlen := reads_len (ks := ks) (xs := xs) (n := i)
      refine ⟨_, hD', szl (by rw [List.length_map]; omega), ?_, Same.mut sm hD⟩
      have ey : vI (xs.getD (i + 1) .non) = y := by rw [List.getD_eq_getElem?_getD, hy]; rfl
      rw [upd_same, reads_succ, ha, ey, List.map_append]
      rfl
    · refine ⟨?_, sm⟩
      have hf : isa (ks.getD i .d) = false := by
        cases q : isa (ks.getD i .d) with
        | false => rfl
        | true => exact absurd (isa_s.mpr q) c
      rw [hD', reads_succ, hf]
      simp
  · rintro D hD H' ⟨hD', sm⟩
    have rlen := reads_len (ks := ks) (xs := xs) (n := ks.length)
    walk_at "go"
    refine g_setL (SqL.of hD') (by omega) (fun p k hk hp' => ?_)
    have s2 := Same.new (o := SetO w p (fun j => decide (j ∈ readsV ks xs ks.length)) k) hp'
    walk_at "go"
    refine g_setS upd_same (by omega) (fun ms q asc mem hml hq => ?_)
    have s3 := Same.new (o := .lst (ms.map V.int)) hq
    walk_at "go"
    have hT : SqL K (upd (upd H' p (SetO w p (fun j => decide (j ∈ readsV ks xs ks.length)) k)) q (.lst (ms.map V.int))) q (ms.map V.int) := SqL.of upd_same
    refine ⟨_, rfl, .inl ⟨q, _, rfl, hT, fun t ht => ?_⟩⟩
    exact hQ _ t ms (((sm.trans s2).trans s3).trans (Same.new ht)) asc mem (by omega) upd_same

/-! ### the machine, as functions -/
/-- binary digits -/
def digs : Nat → Nat
  | 0 => 0
  | n + 1 => digs ((n + 1) / 2) + 1
decreasing_by omega
theorem digs_pos {n : Nat} (h : 0 < n) : digs n = digs (n / 2) + 1 := by
  cases n with
  | zero => omega
  | succ n => rw [digs]
def costS (s : Sg) (a b : Int) : Int := match s with
  | .mul => 3
  | .div => 4 + max 0 ((digs a.toNat : Int) - digs b.toNat)
  | .mod => 4 + max 0 ((digs a.toNat : Int) - digs b.toNat)
  | _ => 1
structure PrS where
  k : Str
  b : Int
  h : Int
  cs : List Int
inductive Ev
  | visit (t : Bool) (c l : Int) (f : Bool)
  | fetch (c l : Int) (f : Bool)
  | data (c l : Int) (f : Bool)
  | out (c x : Int)
  | guess (c : Int) (a : Nat) (t : Bool)
  | back (c : Int) (a : Nat)
  | stop (c : Int)
def tdS (t : Bool) : Str := if t then "touch" else "drop"
def Ev.d : Ev → PyData
  | .visit t c l f => .tuple [.str (tdS t), .int c, .int l, .bool f]
  | .fetch c l f => .tuple [.str "fetch", .int c, .int l, .bool f]
  | .data c l f => .tuple [.str "data", .int c, .int l, .bool f]
  | .out c x => .tuple [.str "out", .int c, .int x]
  | .guess c a t => .tuple [.str "guess", .int c, nI a, .bool t]
  | .back c a => .tuple [.str "back", .int c, nI a]
  | .stop c => .tuple [.str "stop", .int c]
structure Vi where
  n : Int
  t : Bool
  a : Int
def Vi.d (v : Vi) : PyData := .tuple [.int v.n, .str (tdS v.t), .int v.a]
structure MK where
  rows : List Row
  dep : Int
  miss : Int
  wrong : Int
  vis : List Vi
structure MC where
  dc : CSt
  fc : CSt
  pr : PrS
  ck : Int
  fe : Int
  vi : Nat
  tr : List Ev
def mx (c x : Int) : Int := if x > c then x else c
def visM (mc : MC) (v : Vi) : MC := { mc with
  dc := if v.t then tcV mc.dc v.a else dpV mc.dc v.a
  tr := mc.tr ++ [.visit v.t mc.ck (v.a / (mc.dc.Z : Int)) (decide (hitV mc.dc v.a))] }
def goVis : List Vi → MC → MC
  | [], mc => mc
  | v :: r, mc => if v.n ≤ mc.fe then goVis r { visM mc v with vi := mc.vi + 1 } else mc
def fetchM (k : MK) (mc : MC) (a : Nat) : MC :=
  let m := goVis (k.vis.drop mc.vi) mc
  { m with fe := m.fe + 1, fc := tcV m.fc a, tr := m.tr ++ [.fetch m.ck ((a : Int) / (m.fc.Z : Int)) (decide (hitV m.fc a))], ck := if hitV m.fc a then m.ck else m.ck + k.miss }
def rdAt (rd : List Int) (a : Int) : Int := rd.getD a.toNat 0
/-- the registers that a row reads, with doubles -/
def Row.rds : Row → List Int
  | .const _ _ => []
  | .op _ _ a b => [(a : Int), (b : Int)]
  | .select _ c a b => [(c : Int), (a : Int), (b : Int)]
  | .load _ a _ _ => [(a : Int)]
  | .store a _ _ b => [(a : Int), (b : Int)]
  | .out a => [(a : Int)]
  | .jump _ => []
  | .branch _ _ => []
  | .stop a => [(a : Int)]
def mxL (rd : List Int) (l : List Int) (c : Int) : Int := l.foldl (fun c a => mx c (rdAt rd a)) c
def waitM (r : Row) (rd : List Int) (mc : MC) : MC := { mc with ck := mxL rd r.rds mc.ck }
def touM (mc : MC) (a : Int) : MC := { mc with dc := tcV mc.dc a, tr := mc.tr ++ [.data mc.ck (a / (mc.dc.Z : Int)) (decide (hitV mc.dc a))] }
def touC (k : MK) (mc : MC) (a : Int) : Int := if hitV mc.dc a then 0 else k.miss
def adr (ms : MS) (a : Nat) (base mask : Int) : Int := base + Builtin.bitAnd (rgV ms a) mask
/-- what a row does to the core -/
def workC (r : Row) (ms : MS) (g : Bool) (mc : MC) : MC := match r with
  | .load _ a base mask => touM mc (adr ms a base mask)
  | .store a base mask _ => if g then mc else touM mc (adr ms a base mask)
  | .out a => if g then mc else { mc with tr := mc.tr ++ [.out mc.ck (rgV ms a)] }
  | _ => mc
/-- .. to the registers' times -/
def workR (k : MK) (r : Row) (ms : MS) (rd : List Int) (mc : MC) : List Int := match r with
  | .const d _ => rd.set d (mc.ck + 1)
  | .op s d a b => rd.set d (mc.ck + costS s (rgV ms a) (rgV ms b))
  | .select d _ _ _ => rd.set d (mc.ck + 1)
  | .load d a base mask => rd.set d (mc.ck + (2 + touC k mc (adr ms a base mask)))
  | _ => rd
/-- .. to the values -/
def workS (r : Row) (ms : MS) (g : Bool) : MS := match r with
  | .out _ => if g then ms else doRow ms r
  | r => doRow ms r
def gueV (mc : MC) (a : Nat) : Bool := gsV mc.pr.k mc.pr.h mc.pr.cs a
def gueM (mc : MC) (a : Nat) : MC := { mc with tr := mc.tr ++ [.guess mc.ck a (gueV mc a)] }
def aftM (r : Row) (a : Nat) (t : Bool) : Nat := match r with
  | .jump x => x
  | .branch _ x => if t then x else a + 1
  | _ => a + 1
def isStop : Row → Bool
  | .stop _ => true
  | _ => false
def isBr : Row → Bool
  | .branch _ _ => true
  | _ => false
def wrongM (k : MK) (en : Int) : Nat → Nat → MS → List Int → MC → MC
  | 0, _, _, _, mc => mc
  | n + 1, a, ms, rd, mc => if mc.ck < en then
      (match k.rows[a]? with
      | none => mc
      | some r =>
        let mc2 := waitM r rd (fetchM k mc a)
        if en ≤ mc2.ck ∨ isStop r = true then mc2
        else if isBr r = true then wrongM k en n (aftM r a (gueV mc2 a)) ms rd { gueM mc2 a with ck := mc2.ck + 1 }
        else wrongM k en n (aftM r a false) (workS r ms true) (workR k r ms rd mc2) { workC r ms true mc2 with ck := mc2.ck + 1 })
    else mc
def lrnM (mc : MC) (a : Nat) (t : Bool) : MC := { mc with pr := { mc.pr with h := lhV mc.pr.k mc.pr.b mc.pr.h t, cs := lcV mc.pr.k mc.pr.h mc.pr.cs a t } }
def brM (k : MK) (r : Row) (a p : Nat) (ms : MS) (rd : List Int) (mc : MC) : MC :=
  let tk := decide (¬ rgV ms p = 0)
  let g := gueV mc a
  let m2 : MC := { gueM mc a with ck := mc.ck + 1 }
  let en := mx mc.ck (rdAt rd p) + k.wrong
  let m3 : MC := if g = tk then m2 else
    (let m := wrongM k en k.dep.toNat (aftM r a g) ms rd m2
    { m with ck := en, tr := m.tr ++ [.back en a] })
  lrnM m3 a tk
def runMM (k : MK) : Nat → Nat → MS → List Int → MC → Option Int × MS × MC
  | 0, _, ms, _, mc => (none, ms, mc)
  | n + 1, a, ms, rd, mc => match k.rows[a]? with
    | none => (none, ms, mc)
    | some r =>
      let mc2 := waitM r rd (fetchM k mc a)
      match r with
      | .stop p => (some (rgV ms p), ms, { mc2 with tr := mc2.tr ++ [.stop mc2.ck] })
      | .branch p t => runMM k n (aftM (.branch p t) a (decide (¬ rgV ms p = 0))) ms rd (brM k (.branch p t) a p ms rd mc2)
      | r => runMM k n (aftM r a false) (workS r ms false) (workR k r ms rd mc2) { workC r ms false mc2 with ck := mc2.ck + 1 }
/-- a bound on the trace: what stands there, and the visits to come -/
def phi (k : MK) (mc : MC) : Nat := mc.tr.length + (k.vis.length - mc.vi)
/-- the core is in order -/
structure COk (k : MK) (ad ac : CAd) (N : Nat) (mc : MC) : Prop where
  d : CWf ad mc.dc
  c : CWf ac mc.fc
  p : PrOk mc.pr.k mc.pr.b mc.pr.h mc.pr.cs
  v : mc.vi ≤ k.vis.length
  n : phi k mc ≤ N
section
variable {k : MK} {ad ac : CAd} {N : Nat} {mc : MC} {r : Row} {ms : MS} {rd : List Int} {a : Nat} {x : Int} {t g : Bool} {v : Vi}
theorem COk.mono {N' : Nat} (h : COk k ad ac N mc) (hn : N ≤ N') : COk k ad ac N' mc := ⟨h.d, h.c, h.p, h.v, Nat.le_trans h.n hn⟩
theorem COk.len (h : COk k ad ac N mc) : mc.tr.length ≤ N := by
  have := h.n
  unfold phi at this
  omega
theorem COk.ck (h : COk k ad ac N mc) : COk k ad ac N { mc with ck := x } := ⟨h.d, h.c, h.p, h.v, h.n⟩
theorem COk.fe (h : COk k ad ac N mc) : COk k ad ac N { mc with fe := x } := ⟨h.d, h.c, h.p, h.v, h.n⟩
theorem COk.ev {e : Ev} (h : COk k ad ac N mc) : COk k ad ac (N + 1) { mc with tr := mc.tr ++ [e] } := ⟨h.d, h.c, h.p, h.v, by
  have := h.n
  unfold phi at this ⊢
  show (mc.tr ++ [e]).length + _ ≤ _
  rw [List.length_append, List.length_singleton]
  show _ + (k.vis.length - mc.vi) ≤ _
  omega⟩
theorem COk.vis (h : COk k ad ac N mc) (hv : mc.vi < k.vis.length) : COk k ad ac N { visM mc v with vi := mc.vi + 1 } := ⟨by
    show CWf ad (if v.t then tcV mc.dc v.a else dpV mc.dc v.a)
    split
    · exact h.d.tc
    · exact h.d.dp, h.c, h.p, hv, by
  have := h.n
  unfold phi at this ⊢
  show (mc.tr ++ [_]).length + (k.vis.length - (mc.vi + 1)) ≤ _
  rw [List.length_append, List.length_singleton]
  omega⟩
theorem COk.go : ∀ (l : List Vi) {mc : MC}, COk k ad ac N mc → l = k.vis.drop mc.vi → COk k ad ac N (goVis l mc)
  | [], _, h, _ => h
  | v :: l, mc, h, e => by
    have hlt : mc.vi < k.vis.length := by
      have : (v :: l).length = k.vis.length - mc.vi := by rw [e, List.length_drop]
      simp only [List.length_cons] at this
      omega
    unfold goVis
    split
    · refine COk.go l (h.vis hlt) ?_
      show l = k.vis.drop (mc.vi + 1)
      rw [← List.drop_drop, ← e]
      rfl
    · exact h
theorem COk.fetch (h : COk k ad ac N mc) : COk k ad ac (N + 1) (fetchM k mc a) := by
  have g := COk.go _ h rfl
  refine ⟨g.d, g.c.tc, g.p, g.v, ?_⟩
  have := g.n
  unfold phi at this ⊢
  show (_ ++ [_]).length + (k.vis.length - (goVis (k.vis.drop mc.vi) mc).vi) ≤ N + 1
  rw [List.length_append, List.length_singleton]
  show (goVis (k.vis.drop mc.vi) mc).tr.length + 1 + _ ≤ _
  omega
theorem COk.wait (h : COk k ad ac N mc) : COk k ad ac N (waitM r rd mc) := h.ck
theorem COk.tou (h : COk k ad ac N mc) : COk k ad ac (N + 1) (touM mc x) := ⟨h.d.tc, h.c, h.p, h.v, (h.ev (e := .data mc.ck (x / (mc.dc.Z : Int)) (decide (hitV mc.dc x)))).n⟩
theorem COk.work (h : COk k ad ac N mc) : COk k ad ac (N + 1) (workC r ms g mc) := match r with
  | .load _ a base mask => h.tou
  | .store a base mask _ => by
    show COk k ad ac (N + 1) (if g = true then mc else touM mc (adr ms a base mask))
    split
    · exact h.mono (Nat.le_succ N)
    · exact h.tou
  | .out a => by
    show COk k ad ac (N + 1) (if g = true then mc else { mc with tr := mc.tr ++ [.out mc.ck (rgV ms a)] })
    split
    · exact h.mono (Nat.le_succ N)
    · exact h.ev
  | .const _ _ => h.mono (Nat.le_succ N)
  | .op _ _ _ _ => h.mono (Nat.le_succ N)
  | .select _ _ _ _ => h.mono (Nat.le_succ N)
  | .jump _ => h.mono (Nat.le_succ N)
  | .branch _ _ => h.mono (Nat.le_succ N)
  | .stop _ => h.mono (Nat.le_succ N)
theorem COk.gue (h : COk k ad ac N mc) : COk k ad ac (N + 1) (gueM mc a) := h.ev
theorem COk.lrn (h : COk k ad ac N mc) : COk k ad ac N (lrnM mc a t) := ⟨h.d, h.c, h.p.learn, h.v, h.n⟩
theorem COk.wrong {en : Int} : ∀ (n : Nat) {N a : Nat} {ms : MS} {rd : List Int} {mc : MC}, COk k ad ac N mc → COk k ad ac (N + 2 * n) (wrongM k en n a ms rd mc)
  | 0, N, a, ms, rd, mc, h => h
  | n + 1, N, a, ms, rd, mc, h => by
    unfold wrongM
    split
    · split
      · exact h.mono (by omega)
      · rename_i r hr
        have h2 : COk k ad ac (N + 1) (waitM r rd (fetchM k mc a)) := h.fetch.wait
        show COk k ad ac _ (if _ then _ else if _ then _ else _)
        split
        · exact h2.mono (by omega)
        · split
          · exact (COk.wrong n (h2.gue.ck)).mono (by omega)
          · exact (COk.wrong n (h2.work.ck)).mono (by omega)
    · exact h.mono (by omega)
theorem COk.br {p : Nat} (h : COk k ad ac N mc) (hd : k.dep ≤ 64) : COk k ad ac (N + 130) (brM k r a p ms rd mc) := by
  unfold brM
  refine COk.lrn ?_
  show COk k ad ac _ (if _ then _ else _)
  split
  · exact ((h.gue (a := a)).ck (x := mc.ck + 1)).mono (by omega)
  · have z := COk.wrong (en := mx mc.ck (rdAt rd p) + k.wrong) k.dep.toNat (a := aftM r a (gueV mc a)) (ms := ms) (rd := rd) ((h.gue (a := a)).ck (x := mc.ck + 1))
    exact ((z.ev (e := .back (mx mc.ck (rdAt rd p) + k.wrong) a)).ck (x := mx mc.ck (rdAt rd p) + k.wrong)).mono (by omega)
end
/-- the order does not matter, nor do doubles -/
theorem mxL_le {rd : List Int} {x : Int} : ∀ {l : List Int} {c : Int}, mxL rd l c ≤ x ↔ c ≤ x ∧ ∀ a ∈ l, rdAt rd a ≤ x
  | [], c => by
    unfold mxL
    simp
  | a :: l, c => by
    show mxL rd l (mx c (rdAt rd a)) ≤ x ↔ _
    rw [mxL_le]
    constructor
    · rintro ⟨h1, h2⟩
      unfold mx at h1
      refine ⟨?_, fun b hb => ?_⟩
      · split at h1 <;> omega
      · rcases List.mem_cons.mp hb with rfl | hb
        · split at h1 <;> omega
        · exact h2 b hb
    · rintro ⟨h1, h2⟩
      refine ⟨?_, fun b hb => h2 b (List.mem_cons_of_mem _ hb)⟩
      have := h2 a List.mem_cons_self
      unfold mx
      split <;> omega
theorem mxL_eq {rd l m : List Int} {c : Int} (h : ∀ a, a ∈ l ↔ a ∈ m) : mxL rd l c = mxL rd m c := by
  refine Int.le_antisymm ?_ ?_
  · rw [mxL_le]
    obtain ⟨h1, h2⟩ := mxL_le.mp (Int.le_refl (mxL rd m c))
    exact ⟨h1, fun a ha => h2 a ((h a).mp ha)⟩
  · rw [mxL_le]
    obtain ⟨h1, h2⟩ := mxL_le.mp (Int.le_refl (mxL rd l c))
    exact ⟨h1, fun a ha => h2 a ((h a).mpr ha)⟩


/-! ### all tuples stay -/
def KT (H H' : Hp) : Prop := ∀ a xs, H a = some (.tup xs) → H' a = some (.tup xs)
section
variable {H H' H1 : Hp} {a : Addr} {o o' : HO} {ms : List Addr}
theorem KT.refl : KT H H := fun _ _ h => h
theorem KT.trans (x : KT H H1) (y : KT H1 H') : KT H H' := fun a xs h => y a xs (x a xs h)
theorem KT.of (s : Same H H') : KT H H' := fun a xs h => s a _ h
theorem KT.keep (k : Keep ms H H') (n : NoTup H ms) : KT H H' := fun a xs h => k a _ h fun z => n a z xs h
theorem KT.set (h : H a = some o) (n : ∀ xs, o ≠ .tup xs) : KT H (upd H a o') := KT.keep (Keep.set (List.mem_singleton.mpr rfl)) (NoTup.one h n)
theorem KT.new (h : H a = none) : KT H (upd H a o) := KT.of (Same.new h)
theorem _root_.G.Im.kt {v : V} {d : PyData} (h : Im H v d) (k : KT H H') : Im H' v d := h.mono k
theorem _root_.G.Ims.kt {v : List V} {d : List PyData} (h : Ims H v d) (k : KT H H') : Ims H' v d := h.mono k
end

/-! ### the machine's objects -/
theorem tab_noTup : ∀ {as : List Addr} {rs : List (List V)} {p : Addr × HO}, p ∈ tab as rs → ∀ xs, p.2 ≠ .tup xs
  | [], _, _, h => by unfold tab at h; cases h
  | _ :: _, [], _, h => by unfold tab at h; cases h
  | a :: as, r :: rs, p, h => by
    unfold tab at h
    rcases List.mem_cons.mp h with rfl | h
    · intro xs e
      cases e
    · exact tab_noTup h
theorem ca_noTup {H : Hp} {d : CAd} {c : CSt} (M : Has H (CaL K d c)) (wf : CWf d c) : NoTup H (CaA d) := fun m hm xs e => by
  rw [← ca_fst (K := K) wf] at hm
  obtain ⟨p, hp, rfl⟩ := List.mem_map.mp hm
  rw [M.is_ p hp] at e
  have e := Option.some.inj e
  simp only [CaL, caF, List.mem_append, List.mem_cons, List.not_mem_nil, or_false] at hp
  rcases hp with (rfl | rfl | rfl | rfl) | h | h | h
  · cases e
  · cases e
  · cases e
  · cases e
  · exact tab_noTup h xs e
  · exact tab_noTup h xs e
  · exact tab_noTup h xs e
structure MA where
  M : Addr
  dx : Addr
  St : Addr
  O : Addr
  T : Addr
  P : Addr
  pdx : Addr
  C : Addr
  rv : V
  vv : V
  d : CAd
  c : CAd
structure SA where
  S : Addr
  dx : Addr
  rg : Addr
  rd : Addr
  wd : Addr
abbrev maO (K : PySem.W.Frag) (k : MK) (m : MA) (mc : MC) : HO := .ins (He.ga K "Machine") m.dx (fs_Machine m.rv (.int k.dep) m.vv (.int k.miss) (.int k.wrong) (.ref m.d.p) (.ref m.c.p) (.ref m.P) (.ref m.St) (.int mc.ck) (.int mc.fe) (.int (mc.vi : Int)) (.ref m.O) (.ref m.T))
abbrev X9 (K : PySem.W.Frag) (k : MK) (m : MA) (s : SA) (ms : MS) (rd : List Int) (mc : MC) (ou : List Int) (us : List V) : List (Addr × HO) :=
  [(s.S, stO K s.dx s.rg s.rd s.wd), (s.rg, .lst (ms.rg.map V.int)), (s.rd, .lst (rd.map V.int)), (s.wd, .dK ms.wd), (m.M, maO K k m mc), (m.O, .lst (ou.map V.int)), (m.T, .lst us), (m.P, prO K m.pdx mc.pr.k mc.pr.b mc.pr.h m.C), (m.C, ctO mc.pr.cs)]
abbrev FL (K : PySem.W.Frag) (k : MK) (m : MA) (s : SA) (ms : MS) (rd : List Int) (mc : MC) (ou : List Int) (us : List V) (Y : List (Addr × HO)) : List (Addr × HO) :=
  X9 K k m s ms rd mc ou us ++ (CaL K m.d mc.dc ++ (CaL K m.c mc.fc ++ Y))
/-- the machine stands in the heap -/
structure MW (K : PySem.W.Frag) (H : Hp) (k : MK) (m : MA) (s : SA) (ms : MS) (rd : List Int) (mc : MC) (ou : List Int) (Y : List (Addr × HO)) : Prop where
  ex : ∃ us, Has H (FL K k m s ms rd mc ou us Y) ∧ Ims H us (mc.tr.map Ev.d)
  r : Im H m.rv (.tuple (k.rows.map Row.d))
  v : Im H m.vv (.tuple (k.vis.map Vi.d))
section
variable {H H' : Hp} {k : MK} {m : MA} {s : SA} {ms ms' : MS} {rd rd' : List Int} {mc : MC} {ou : List Int} {Y : List (Addr × HO)} {Q : VK} {E : XK} {x t : Int} {N d : Nat} {R : Hp → Prop}
theorem MW.get_ (W : MW K H k m s ms rd mc ou Y) : H s.S = some (stO K s.dx s.rg s.rd s.wd) ∧ H s.rg = some (.lst (ms.rg.map V.int)) ∧ H s.rd = some (.lst (rd.map V.int)) ∧ H s.wd = some (.dK ms.wd) ∧ H m.M = some (maO K k m mc) ∧ H m.O = some (.lst (ou.map V.int)) ∧ H m.P = some (prO K m.pdx mc.pr.k mc.pr.b mc.pr.h m.C) ∧ H m.C = some (ctO mc.pr.cs) ∧ H m.d.p = some (caO K m.d mc.dc) ∧ H m.c.p = some (caO K m.c mc.fc) ∧ ∃ us, H m.T = some (.lst us) := by
  obtain ⟨us, M, _⟩ := W.ex
  refine ⟨M.get 0 rfl, M.get 1 rfl, M.get 2 rfl, M.get 3 rfl, M.get 4 rfl, M.get 5 rfl, M.get 7 rfl, M.get 8 rfl, M.get 9 rfl, ?_, us, M.get 6 rfl⟩
  exact M.is_ (m.c.p, caO K m.c mc.fc) (by
    refine List.mem_append_right _ (List.mem_append_right _ (List.mem_append_left _ ?_))
    exact List.mem_append_left _ List.mem_cons_self)
theorem MW.upd_ {us' : List V} {mc' : MC} {ou' : List Int} {m' : MA} (W : MW K H k m s ms rd mc ou Y) (kt : KT H H') (e1 : m'.rv = m.rv) (e2 : m'.vv = m.vv) (M : Has H' (FL K k m' s ms' rd' mc' ou' us' Y)) (im : Ims H' us' (mc'.tr.map Ev.d)) : MW K H' k m' s ms' rd' mc' ou' Y :=
  ⟨⟨us', M, im⟩, by rw [e1]; exact W.r.kt kt, by rw [e2]; exact W.v.kt kt⟩
/-- a register's word -/
theorem w_reg {b : Nat} {cov : Int → Prop} (W : MW K H k m s ms rd mc ou Y) (h : MOk b cov ms) (hd : d < 16) (q : Q (.int (rgV ms d)) H) : rIxU K (.ref s.rg) (.int (d : Int)) H Q := by
  obtain ⟨_, g, _⟩ := W.get_
  exact g_ixL (SqL.of g) (n := d) rfl (by rw [List.getElem?_map, h.at_ hd]; rfl) q
/-- its time -/
theorem w_rdy {i : Int} (W : MW K H k m s ms rd mc ou Y) (hl : rd.length = 16) (h0 : 0 ≤ i) (hd : i < 16) (q : Q (.int (rdAt rd i)) H) : rIxU K (.ref s.rd) (.int i) H Q := by
  obtain ⟨_, _, g, _⟩ := W.get_
  refine g_ixL (SqL.of g) (n := i.toNat) (by omega) ?_ q
  rw [List.getElem?_map]
  unfold rdAt
  rw [List.getD_eq_getElem?_getD, List.getElem?_eq_getElem (by omega)]
  rfl
theorem w_ck (T : Txt fa fn K mg (CsOk cs K w)) (W : MW K H k m s ms rd mc ou Y) (q : ∀ H', KT H H' → MW K H' k m s ms rd { mc with ck := x } ou Y → R H') : rSFld K "clock" (.ref m.M) (.int x) H R := by
  obtain ⟨us, M, im⟩ := W.ex
  have kt : ∀ {o : HO}, KT H (upd H m.M o) := KT.set (M.get 4 rfl) (fun _ e => nomatch e)
  exact g_setF M 4 rfl (cl_Machine T) (na_Machine_clock T) (by show 14 < 1000; decide) (pt_ix 9 nd_Machine rfl) (fun M1 => q _ kt (W.upd_ (mc' := { mc with ck := x }) kt rfl rfl M1 (im.kt kt)))
theorem w_ckA (T : Txt fa fn K mg (CsOk cs K w)) {tv : TE} {σ : L2.St} (W : MW K H k m s ms rd mc ou Y) (hv : tv σ H fun y H2 => y = .int x ∧ H2 = H) (hm : ∀ {Q Q' : VK}, (∀ v H, Q v H → Q' v H) → tv σ H Q → tv σ H Q') (q : ∀ H', KT H H' → MW K H' k m s ms rd { mc with ck := mc.ck + x } ou Y → R H') : rFA K tv rAdd "clock" σ (.ref m.M) H R := by
  obtain ⟨us, M, im⟩ := W.ex
  have kt : ∀ {o : HO}, KT H (upd H m.M o) := KT.set (M.get 4 rfl) (fun _ e => nomatch e)
  exact g_fa1 (j := x) M 4 rfl (cl_Machine T) (na_Machine_clock T) (lk_ix 9 nd_Machine rfl) hv (by show 14 < 1000; decide) (pt_ix 9 nd_Machine rfl) hm (fun M1 => q _ kt (W.upd_ (mc' := { mc with ck := mc.ck + x }) kt rfl rfl M1 (im.kt kt)))
theorem w_feA (T : Txt fa fn K mg (CsOk cs K w)) {tv : TE} {σ : L2.St} (W : MW K H k m s ms rd mc ou Y) (hv : tv σ H fun y H2 => y = .int x ∧ H2 = H) (hm : ∀ {Q Q' : VK}, (∀ v H, Q v H → Q' v H) → tv σ H Q → tv σ H Q') (q : ∀ H', KT H H' → MW K H' k m s ms rd { mc with fe := mc.fe + x } ou Y → R H') : rFA K tv rAdd "fetches" σ (.ref m.M) H R := by
  obtain ⟨us, M, im⟩ := W.ex
  have kt : ∀ {o : HO}, KT H (upd H m.M o) := KT.set (M.get 4 rfl) (fun _ e => nomatch e)
  exact g_fa1 (j := x) M 4 rfl (cl_Machine T) (na_Machine_fetches T) (lk_ix 10 nd_Machine rfl) hv (by show 14 < 1000; decide) (pt_ix 10 nd_Machine rfl) hm (fun M1 => q _ kt (W.upd_ (mc' := { mc with fe := mc.fe + x }) kt rfl rfl M1 (im.kt kt)))
theorem w_viA (T : Txt fa fn K mg (CsOk cs K w)) {tv : TE} {σ : L2.St} (W : MW K H k m s ms rd mc ou Y) (hv : tv σ H fun y H2 => y = .int 1 ∧ H2 = H) (hm : ∀ {Q Q' : VK}, (∀ v H, Q v H → Q' v H) → tv σ H Q → tv σ H Q') (q : ∀ H', KT H H' → MW K H' k m s ms rd { mc with vi := mc.vi + 1 } ou Y → R H') : rFA K tv rAdd "visited" σ (.ref m.M) H R := by
  obtain ⟨us, M, im⟩ := W.ex
  have kt : ∀ {o : HO}, KT H (upd H m.M o) := KT.set (M.get 4 rfl) (fun _ e => nomatch e)
  exact g_fa1 (j := 1) M 4 rfl (cl_Machine T) (na_Machine_visited T) (lk_ix 11 nd_Machine rfl) hv (by show 14 < 1000; decide) (pt_ix 11 nd_Machine rfl) hm (fun M1 => q _ kt (W.upd_ (mc' := { mc with vi := mc.vi + 1 }) kt rfl rfl M1 (im.kt kt)))
/-- an event -/
theorem w_ev {y : V} {e : Ev} (W : MW K H k m s ms rd mc ou Y) (hn : mc.tr.length < 16000000) (hy : Im H y e.d) (q : ∀ H', KT H H' → MW K H' k m s ms rd { mc with tr := mc.tr ++ [e] } ou Y → Q .non H') : rAppend (.ref m.T) [y] H Q := by
  obtain ⟨us, M, im⟩ := W.ex
  have kt : ∀ {o : HO}, KT H (upd H m.T o) := KT.set (M.get 6 rfl) (fun _ e => nomatch e)
  have ul : us.length = mc.tr.length := by rw [im.length, List.length_map]
  refine g_append M 6 rfl (by rw [ul]; exact Nat.lt_trans hn (by decide)) (fun M1 => q _ kt (W.upd_ (us' := us ++ [y]) (mc' := { mc with tr := mc.tr ++ [e] }) kt rfl rfl M1 ?_))
  show Ims _ _ ((mc.tr ++ [e]).map Ev.d)
  rw [List.map_append]
  exact (im.append (Ims.one hy)).kt kt
/-- a word put out -/
theorem w_out (W : MW K H k m s ms rd mc ou Y) (hn : ou.length < 90000) (q : ∀ H', KT H H' → MW K H' k m s ms rd mc (ou ++ [x]) Y → Q .non H') : rAppend (.ref m.O) [.int x] H Q := by
  obtain ⟨us, M, im⟩ := W.ex
  have kt : ∀ {o : HO}, KT H (upd H m.O o) := KT.set (M.get 5 rfl) (fun _ e => nomatch e)
  refine g_append M 5 rfl (szl (by rw [List.length_map]; omega)) (fun M1 => ?_)
  have e : ou.map V.int ++ [V.int x] = (ou ++ [x]).map V.int := by simp
  rw [e] at M1 ⊢
  exact q _ kt (W.upd_ kt rfl rfl M1 (im.kt kt))
theorem w_touch (W : MW K H k m s ms rd mc ou Y) (wf : CWf m.d mc.dc) (q : ∀ H', KT H H' → MW K H' k m s ms rd { mc with dc := tcV mc.dc x } ou Y → Q (.bl (decide (hitV mc.dc x))) H') : sp_Cache_touch K (.ref m.d.p :: ([.int x] ++ [])) H Q E := by
  obtain ⟨us, M, im⟩ := W.ex
  refine use_touch M wf (fun H' kp M' => ?_)
  have kt := KT.keep kp (ca_noTup M.mid wf)
  exact q _ kt (W.upd_ (mc' := { mc with dc := tcV mc.dc x }) kt rfl rfl M' (im.kt kt))
theorem w_drop (W : MW K H k m s ms rd mc ou Y) (wf : CWf m.d mc.dc) (q : ∀ H', KT H H' → MW K H' k m s ms rd { mc with dc := dpV mc.dc x } ou Y → Q (.bl (decide (hitV mc.dc x))) H') : sp_Cache_drop K (.ref m.d.p :: ([.int x] ++ [])) H Q E := by
  obtain ⟨us, M, im⟩ := W.ex
  refine use_drop M wf (fun H' kp M' => ?_)
  have kt := KT.keep kp (ca_noTup M.mid wf)
  exact q _ kt (W.upd_ (mc' := { mc with dc := dpV mc.dc x }) kt rfl rfl M' (im.kt kt))
theorem w_line (W : MW K H k m s ms rd mc ou Y) (wf : CWf m.d mc.dc) (q : Q (.int (x / (mc.dc.Z : Int))) H) : sp_Cache_line_of K (.ref m.d.p :: ([.int x] ++ [])) H Q E := by
  obtain ⟨us, M, im⟩ := W.ex
  exact ⟨m.d, mc.dc, x, rfl, M.mid, wf, q⟩
theorem MW.code_ (W : MW K H k m s ms rd mc ou Y) : ∃ us, Has H ((X9 K k m s ms rd mc ou us ++ CaL K m.d mc.dc) ++ (CaL K m.c mc.fc ++ Y)) ∧ Ims H us (mc.tr.map Ev.d) := by
  obtain ⟨us, M, im⟩ := W.ex
  exact ⟨us, by rw [List.append_assoc]; exact M, im⟩
theorem w_ftouch (W : MW K H k m s ms rd mc ou Y) (wf : CWf m.c mc.fc) (q : ∀ H', KT H H' → MW K H' k m s ms rd { mc with fc := tcV mc.fc x } ou Y → Q (.bl (decide (hitV mc.fc x))) H') : sp_Cache_touch K (.ref m.c.p :: ([.int x] ++ [])) H Q E := by
  obtain ⟨us, M, im⟩ := W.code_
  refine use_touch M wf (fun H' kp M' => ?_)
  have kt := KT.keep kp (ca_noTup M.mid wf)
  rw [List.append_assoc] at M'
  exact q _ kt (W.upd_ (mc' := { mc with fc := tcV mc.fc x }) kt rfl rfl M' (im.kt kt))
theorem w_fline (W : MW K H k m s ms rd mc ou Y) (wf : CWf m.c mc.fc) (q : Q (.int (x / (mc.fc.Z : Int))) H) : sp_Cache_line_of K (.ref m.c.p :: ([.int x] ++ [])) H Q E := by
  obtain ⟨us, M, im⟩ := W.code_
  exact ⟨m.c, mc.fc, x, rfl, M.mid, wf, q⟩
end
/-! ### digits, costs -/
def sp_digits_of (K : PySem.W.Frag) : Sp := fun vs H Q _ => ∃ n : Int, vs = [.int n] ∧ 0 ≤ n ∧ Q (.int (digs n.toNat)) H
theorem sc_digits_of : FnScope ["word", "many"] ["word"] (defScope (topS 13)) := ⟨rfl, rfl, rfl, by decide +kernel, rfl, by decide +kernel, by decide +kernel⟩
theorem ok_digits_of (T : Txt fa fn K mg (CsOk cs K w)) : Dn P w K mg base CX0 1 "digits_of" ["word"] (sp_digits_of K) := by
  refine mk_dn (d := dOf "digits_of" 13) T 4 4 rfl rfl rfl rfl rfl sc_digits_of (by walk_at "len") (fun _ _ _ _ _ _ us hl => match us, hl with | [_], _ => rfl) (fun cdv A outer s H vs Q E hr h => ⟨_, (pss_cons (ps_set (i := 1) sc_digits_of.nd rfl (.inl rfl) pe_int)
      (pss_cons (ps_while PassesOwn.never (pt_cmpR o_gt (pv 0) pe_int (nomark _)) (pss_cons (ps_aug (i := 0) sc_digits_of.nd rfl (.inl rfl) pe_int io_fdiv)
      (pss_one (ps_aug (i := 1) sc_digits_of.nd rfl (.inl rfl) pe_int ip_add))))
      (pss_one (ps_ret (pv 1))))), ?_⟩)
  obtain ⟨n, rfl, hn, hQ⟩ := h
  walk_at "go"
  refine ⟨fun m σ H' => ∃ (a b : Int), σ = [some (.int a), some (.int b)] ∧ H' = H ∧ 0 ≤ a ∧ a.toNat = m ∧ b + digs a.toNat = digs n.toNat, ⟨_, _, _, rfl, rfl, hn, rfl, Int.zero_add _⟩, ?_⟩
  rintro m σ H' ⟨a, b, rfl, rfl, ha, rfl, e⟩
  walk_at "go"
  refine g_if (fun h => ?_) (fun h => ?_)
  · refine g_whileT ?_
    walk_at "go"
    have e1 : (a / 2).toNat = a.toNat / 2 := by omega
    refine ⟨_, ?_, a / 2, b + 1, rfl, rfl, by omega, rfl, ?_⟩
    · omega
    · rw [← e, digs_pos (n := a.toNat) (by omega), e1]
      omega
  · walk_at "go"
    have h0 : a = 0 := by omega
    subst h0
    have e2 : b = digs n.toNat := by
      rw [← e]
      simp [digs]
    rw [e2]
    exact hQ
def sp_cost_of (K : PySem.W.Frag) : Sp := fun vs H Q _ => ∃ (s : Sg) (z : Str) (a b : Int), vs = [.str z, .int a, .int b] ∧ z = s.s ∧ 0 ≤ a ∧ 0 ≤ b ∧ ∀ H', Same H H' → Q (.int (costS s a b)) H'
theorem sc_cost_of : FnScope ["sign", "a", "b"] ["sign", "a", "b"] (defScope (topS 14)) := ⟨rfl, rfl, rfl, by decide +kernel, rfl, by decide +kernel, by decide +kernel⟩
theorem ok_cost_of (T : Txt fa fn K mg (CsOk cs K w)) : Dn P w K mg base CX0 2 "cost_of" ["sign", "a", "b"] (sp_cost_of K) := by
  refine mk_dn (d := dOf "cost_of" 14) T 5 5 rfl rfl rfl rfl rfl sc_cost_of (by walk_at "len") (fun _ _ _ _ _ _ us hl => match us, hl with | [_, _, _], _ => rfl) (fun cdv A outer s H vs Q E hr h => ⟨_, (pss_cons (ps_if (pt_cmpR (op_eqU (K := K) rfl hr.units) (pv 0) pe_str (nomark _)) (pss_one (ps_ret pe_int)) pss_nil)
      (pss_cons (ps_if (pt_cmpR (op_inU (K := K) rfl (hu65 hr)) (pv 0) (pe_tup (pa_cons pe_str (pa_cons pe_str pa_nil))) (by rfl)) (pss_one (ps_ret (pe_op (op_addU (K := K) rfl) pe_int (pe_callB (c_max2 rfl) rfl (T.free 129 rfl) (by decide +kernel) (pa_cons pe_int (pa_cons (pe_op op_sub (pe_callD (K := K) rfl (ok_digits_of T) (hr.mono (by decide)) rfl pass0 (pa_cons (pv 1) pa_nil)) (pe_callD (K := K) rfl (ok_digits_of T) (hr.mono (by decide)) rfl pass0 (pa_cons (pv 2) pa_nil))) pa_nil)))))) pss_nil)
      (pss_one (ps_ret pe_int)))), ?_⟩)
  obtain ⟨s, z, a, b, rfl, hz, ha, hb, hQ⟩ := h
  cases s <;> (simp only [Sg.s] at hz; subst hz)
  case mul =>
    walk_at "go"
    exact hQ _ (Same.refl H)
  all_goals
    walk_at "go"
    refine ⟨by decide, fun p hp => ?_⟩
    have sp := Same.new (o := .tup [.str "div", .str "mod"]) hp
    refine g_inTs (ks := ["div", "mod"]) (.inl upd_same) ?_
    walk_at "go"
  case div =>
    refine g_is (by decide +kernel) ?_
    walk_at "go"
    refine ⟨_, rfl, ha, ?_⟩
    walk_at "go"
    refine ⟨_, rfl, hb, ?_⟩
    walk_at "go"
    refine q_int ?_ (hQ _ sp)
    show 4 + max 0 ((digs a.toNat : Int) - digs b.toNat) = _
    split <;> omega
  case mod =>
    refine g_is (by decide +kernel) ?_
    walk_at "go"
    refine ⟨_, rfl, ha, ?_⟩
    walk_at "go"
    refine ⟨_, rfl, hb, ?_⟩
    walk_at "go"
    refine q_int ?_ (hQ _ sp)
    show 4 + max 0 ((digs a.toNat : Int) - digs b.toNat) = _
    split <;> omega
  all_goals
    refine g_isnt (by decide +kernel) ?_
    walk_at "go"
    exact hQ _ sp


/-! ### the machine's methods -/
section
variable {H H' : Hp} {k : MK} {m : MA} {s : SA} {ms ms' : MS} {rd rd' : List Int} {mc : MC} {ou : List Int} {Y : List (Addr × HO)} {Q : VK} {E : XK} {x t : Int} {N d : Nat} {R : Hp → Prop}
theorem MW.same (W : MW K H k m s ms rd mc ou Y) (h : Same H H') : MW K H' k m s ms rd mc ou Y := by
  obtain ⟨⟨us, M, im⟩, r, v⟩ := W
  exact ⟨⟨us, M.keep h, im.same h⟩, r.same h, v.same h⟩
end
def sp_State_put (K : PySem.W.Frag) : Sp := fun vs H Q _ => ∃ (sa dx rg rd wd : Addr) (rl tl : List Int) (d : Nat) (x t : Int) (Y : List (Addr × HO)), vs = [.ref sa, .int (d : Int), .int x, .int t] ∧ Has H ((sa, stO K dx rg rd wd) :: (rg, .lst (rl.map V.int)) :: (rd, .lst (tl.map V.int)) :: Y) ∧ d < rl.length ∧ d < tl.length ∧
  ∀ H', KT H H' → Has H' ((sa, stO K dx rg rd wd) :: (rg, .lst ((rl.set d x).map V.int)) :: (rd, .lst ((tl.set d t).map V.int)) :: Y) → Q .non H'
theorem sc_State_put : FnScope ["self", "place", "word", "time"] ["self", "place", "word", "time"] (defScope (inClass (topS 16) 2)) := ⟨rfl, rfl, rfl, by decide +kernel, rfl, by decide +kernel, by decide +kernel⟩
theorem mt_State_put (T : Txt fa fn K mg (CsOk cs K w)) : Mt P w K mg base CX0 1 "State" "put" ["self", "place", "word", "time"] (sp_State_put K) := by
  refine mk_mt (d := mOf "State" "put" "State.put" (inClass (topS 16) 2)) T 67 rfl rfl rfl rfl sc_State_put (by walk_at "len") (fun _ _ _ _ _ _ us hl => match us, hl with | [_, _, _, _], _ => rfl) (fun cdv A outer s H vs Q E hr h => ⟨_, (pss_cons (ps_asg (pv 2) (pg_sub (pe_fldU (K := K) rfl (pv 0) rfl) (pv 1) (set_U (hu_of hr))))
      (pss_one (ps_asg (pv 3) (pg_sub (pe_fldU (K := K) rfl (pv 0) rfl) (pv 1) (set_U (hu_of hr)))))), ?_⟩)
  obtain ⟨sa, dx, rg, rd, wd, rl, tl, d, x, t, Y, rfl, M, h1, h2, hQ⟩ := h
  walk_at "go"
  have e1 : (rl.map V.int).set d (.int x) = (rl.set d x).map V.int := List.map_set.symm
  have e2 : (tl.map V.int).set d (.int t) = (tl.set d t).map V.int := List.map_set.symm
  refine g_setU M 1 rfl rfl (by rw [List.length_map]; exact h1) ?_
  rw [e1]
  intro M1
  have k1 : KT H (upd H rg (.lst ((rl.set d x).map V.int))) := KT.set (M.get 1 rfl) (fun _ e => nomatch e)
  have M1 : Has (upd H rg (.lst ((rl.set d x).map V.int))) ((sa, stO K dx rg rd wd) :: (rg, .lst ((rl.set d x).map V.int)) :: (rd, .lst (tl.map V.int)) :: Y) := M1
  walk_at "go"
  refine g_setU M1 2 rfl rfl (by rw [List.length_map]; exact h2) ?_
  rw [e2]
  intro M2
  walk_at "go"
  exact hQ _ (k1.trans (KT.set (M1.get 2 rfl) (fun _ e => nomatch e))) M2
theorem w_put {H : Hp} {k : MK} {m : MA} {s : SA} {ms : MS} {rd : List Int} {mc : MC} {ou : List Int} {Y : List (Addr × HO)} {Q : VK} {E : XK} {x t : Int} {d b : Nat} {cov : Int → Prop} (W : MW K H k m s ms rd mc ou Y) (h : MOk b cov ms) (hl : rd.length = 16) (hd : d < 16)
    (q : ∀ H', KT H H' → MW K H' k m s (put ms d x) (rd.set d t) mc ou Y → Q .non H') : sp_State_put K (.ref s.S :: ([.int (d : Int), .int x, .int t] ++ [])) H Q E := by
  obtain ⟨us, M, im⟩ := W.ex
  exact ⟨s.S, s.dx, s.rg, s.rd, s.wd, ms.rg, rd, d, x, t, _, rfl, M, by rw [h.l]; exact hd, by omega, fun H' kt M' => q H' kt (W.upd_ (ms' := put ms d x) (rd' := rd.set d t) kt rfl rfl M' (im.kt kt))⟩
/-- what every method asks and keeps -/
structure MG (K : PySem.W.Frag) (H : Hp) (k : MK) (m : MA) (s : SA) (ms : MS) (rd : List Int) (mc : MC) (ou : List Int) (Y : List (Addr × HO)) (N b : Nat) (cov : Int → Prop) : Prop where
  W : MW K H k m s ms rd mc ou Y
  c : COk k m.d m.c N mc
  o : MOk b cov ms
  l : rd.length = 16
section
variable {H H' : Hp} {k : MK} {m : MA} {s : SA} {ms ms' : MS} {rd rd' : List Int} {mc mc' : MC} {ou : List Int} {Y : List (Addr × HO)} {N b : Nat} {cov : Int → Prop}
theorem MG.up {N' : Nat} (G : MG K H k m s ms rd mc ou Y N b cov) (W : MW K H' k m s ms rd mc' ou Y) (c : COk k m.d m.c N' mc') : MG K H' k m s ms rd mc' ou Y N' b cov := ⟨W, c, G.o, G.l⟩
theorem MG.same (G : MG K H k m s ms rd mc ou Y N b cov) (h : Same H H') : MG K H' k m s ms rd mc ou Y N b cov := ⟨G.W.same h, G.c, G.o, G.l⟩
end
def sp_Machine_visit (K : PySem.W.Frag) : Sp := fun vs H Q _ => ∃ (k : MK) (m : MA) (s : SA) (ms : MS) (rd : List Int) (mc : MC) (ou : List Int) (Y : List (Addr × HO)) (v : Vi) (N : Nat), vs = [.ref m.M, .str (tdS v.t), .int v.a] ∧ MW K H k m s ms rd mc ou Y ∧ COk k m.d m.c N mc ∧ N < 16000000 ∧
  ∀ H', KT H H' → MW K H' k m s ms rd (visM mc v) ou Y → Q .non H'
theorem td_t : tdS true = "touch" := rfl
theorem td_f : tdS false = "drop" := rfl
theorem sc_Machine_visit : FnScope ["self", "kind", "address", "found"] ["self", "kind", "address"] (defScope (inClass (topS 17) 2)) := ⟨rfl, rfl, rfl, by decide +kernel, rfl, by decide +kernel, by decide +kernel⟩
theorem mt_Machine_visit (T : Txt fa fn K mg (CsOk cs K w)) : Mt P w K mg base CX0 4 "Machine" "visit" ["self", "kind", "address"] (sp_Machine_visit K) := by
  refine mk_mt (d := mOf "Machine" "visit" "Machine.visit" (inClass (topS 17) 2)) T 71 rfl rfl rfl rfl sc_Machine_visit (by walk_at "len") (fun _ _ _ _ _ _ us hl => match us, hl with | [_, _, _], _ => rfl) (fun cdv A outer s H vs Q E hr h => ⟨_, (pss_cons (ps_if (pt_cmpR (op_eqU (K := K) rfl hr.units) (pv 1) pe_str (nomark _)) (pss_one (ps_set (i := 3) sc_Machine_visit.nd rfl (.inl rfl) (pe_methD (K := K) rfl (mt_Cache_touch T) (cl_Cache T) (T.meth 61 rfl) (hr.mono (by decide)) pass0 (pe_fldU (K := K) rfl (pv 0) rfl) (pa_cons (pv 2) pa_nil)))) (pss_one (ps_set (i := 3) sc_Machine_visit.nd rfl (.inl rfl) (pe_methD (K := K) rfl (mt_Cache_drop T) (cl_Cache T) (T.meth 65 rfl) (hr.mono (by decide)) pass0 (pe_fldU (K := K) rfl (pv 0) rfl) (pa_cons (pv 2) pa_nil)))))
      (pss_one (ps_expr (pe_bm PySem.F.plainAttrs_list PySem.F.slot_list_append PySem.F.type_list_append mt_append (pe_fldU (K := K) rfl (pv 0) rfl) (pa_cons (pe_tup (pa_cons (pv 1) (pa_cons (pe_fldU (K := K) rfl (pv 0) rfl) (pa_cons (pe_methD (K := K) rfl (mt_Cache_line_of T) (cl_Cache T) (T.meth 59 rfl) (hr.mono (by decide)) pass0 (pe_fldU (K := K) rfl (pv 0) rfl) (pa_cons (pv 2) pa_nil)) (pa_cons (pv 3) pa_nil))))) pa_nil))))), ?_⟩)
  obtain ⟨k, m, s, ms, rd, mc, ou, Y, ⟨vn, vt, va⟩, N, rfl, W, c, hN, hQ⟩ := h
  have hlen := c.len
  obtain ⟨gS, grg, grd, gwd, gM, gO, gP, gC, gd, gc, us, gT⟩ := W.get_
  cases vt with
  | true =>
    rw [show tdS (Vi.mk vn true va).t = "touch" from rfl]
    walk_at "go"
    refine w_touch W c.d (fun H1 k1 W1 => ?_)
    obtain ⟨gS, grg, grd, gwd, gM, gO, gP, gC, gd, gc, us, gT⟩ := W1.get_
    walk_at "go"
    refine w_line W1 c.d.tc ?_
    walk_at "go"
    refine m_new (.cons (.str _) (.cons (.int _) (.cons (.int _) (.cons (.bl _) .nil)))) (by simp) (fun p H2 s2 hp im => ?_)
    walk_at "go"
    refine w_ev (e := .visit true mc.ck (va / (mc.dc.Z : Int)) (decide (hitV mc.dc va))) (W1.same s2) (by show mc.tr.length < _; omega) im (fun H3 k3 W3 => ?_)
    walk_at "go"
    exact hQ _ ((k1.trans (KT.of s2)).trans k3) W3
  | false =>
    rw [show tdS (Vi.mk vn false va).t = "drop" from rfl]
    walk_at "go"
    refine w_drop W c.d (fun H1 k1 W1 => ?_)
    obtain ⟨gS, grg, grd, gwd, gM, gO, gP, gC, gd, gc, us, gT⟩ := W1.get_
    walk_at "go"
    refine w_line W1 c.d.dp ?_
    walk_at "go"
    refine m_new (.cons (.str _) (.cons (.int _) (.cons (.int _) (.cons (.bl _) .nil)))) (by simp) (fun p H2 s2 hp im => ?_)
    walk_at "go"
    refine w_ev (e := .visit false mc.ck (va / (mc.dc.Z : Int)) (decide (hitV mc.dc va))) (W1.same s2) (by show mc.tr.length < _; omega) im (fun H3 k3 W3 => ?_)
    walk_at "go"
    exact hQ _ ((k1.trans (KT.of s2)).trans k3) W3
def sp_Machine_fetch (K : PySem.W.Frag) : Sp := fun vs H Q _ => ∃ (k : MK) (m : MA) (s : SA) (ms : MS) (rd : List Int) (mc : MC) (ou : List Int) (Y : List (Addr × HO)) (a N : Nat), vs = [.ref m.M, .int (a : Int)] ∧ MW K H k m s ms rd mc ou Y ∧ COk k m.d m.c N mc ∧ N < 16000000 ∧
  ∀ H', KT H H' → MW K H' k m s ms rd (fetchM k mc a) ou Y → Q .non H'
theorem goVis_cons {v : Vi} {r : List Vi} {mc : MC} : goVis (v :: r) mc = if v.n ≤ mc.fe then goVis r { visM mc v with vi := mc.vi + 1 } else mc := rfl
theorem vi3 {H : Hp} {x : V} {v : Vi} (h : Im H x v.d) : ∃ a, x = .ref a ∧ H a = some (.tup [.int v.n, .str (tdS v.t), .int v.a]) := by
  obtain ⟨a, x1, x2, x3, rfl, h1, i1, i2, i3⟩ := im3 h
  obtain rfl := i1.int_inv
  obtain rfl := i2.str_inv
  obtain rfl := i3.int_inv
  exact ⟨a, rfl, h1⟩
theorem sc_Machine_fetch : FnScope ["self", "at", "hit"] ["self", "at"] (defScope (inClass (topS 17) 3)) := ⟨rfl, rfl, rfl, by decide +kernel, rfl, by decide +kernel, by decide +kernel⟩
theorem mt_Machine_fetch (T : Txt fa fn K mg (CsOk cs K w)) : Mt P w K mg base CX0 5 "Machine" "fetch" ["self", "at"] (sp_Machine_fetch K) := by
  refine mk_mt (d := mOf "Machine" "fetch" "Machine.fetch" (inClass (topS 17) 3)) T 72 rfl rfl rfl rfl sc_Machine_fetch (by walk_at "len") (fun _ _ _ _ _ _ us hl => match us, hl with | [_, _], _ => rfl) (fun cdv A outer s H vs Q E hr h => ⟨_, (pss_cons (ps_join (ps_while PassesOwn.never (PW.pt (pw_and (pt_cmpR o_lt (pe_fldU (K := K) rfl (pv 0) rfl) (pe_callB (c_len (K := K) rfl) rfl (T.free 127 rfl) (by decide +kernel) (pa_cons (pe_fldU (K := K) rfl (pv 0) rfl) pa_nil)) (nomark _)) (pw_and1 (pt_cmpR o_le (pe_ixU (K := K) rfl (hu_of hr) (pe_ixU (K := K) rfl (hu_of hr) (pe_fldU (K := K) rfl (pv 0) rfl) (pe_fldU (K := K) rfl (pv 0) rfl)) pe_int) (pe_fldU (K := K) rfl (pv 0) rfl) (nomark _))))) (pss_cons (ps_expr (pe_methD (K := K) rfl (mt_Machine_visit T) (cl_Machine T) (T.meth 94 rfl) (hr.mono (by decide)) pass0 (pv 0) (pa_cons (pe_ixU (K := K) rfl (hu_of hr) (pe_ixU (K := K) rfl (hu_of hr) (pe_fldU (K := K) rfl (pv 0) rfl) (pe_fldU (K := K) rfl (pv 0) rfl)) pe_int) (pa_cons (pe_ixU (K := K) rfl (hu_of hr) (pe_ixU (K := K) rfl (hu_of hr) (pe_fldU (K := K) rfl (pv 0) rfl) (pe_fldU (K := K) rfl (pv 0) rfl)) pe_int) pa_nil))))
      (pss_one (ps_fldaug (pv 0) pe_int in_add)))))
      (pss_cons (ps_fldaug (pv 0) pe_int in_add)
      (pss_cons (ps_set (i := 2) sc_Machine_fetch.nd rfl (.inl rfl) (pe_methD (K := K) rfl (mt_Cache_touch T) (cl_Cache T) (T.meth 61 rfl) (hr.mono (by decide)) pass0 (pe_fldU (K := K) rfl (pv 0) rfl) (pa_cons (pv 1) pa_nil)))
      (pss_cons (ps_expr (pe_bm PySem.F.plainAttrs_list PySem.F.slot_list_append PySem.F.type_list_append mt_append (pe_fldU (K := K) rfl (pv 0) rfl) (pa_cons (pe_tup (pa_cons pe_str (pa_cons (pe_fldU (K := K) rfl (pv 0) rfl) (pa_cons (pe_methD (K := K) rfl (mt_Cache_line_of T) (cl_Cache T) (T.meth 59 rfl) (hr.mono (by decide)) pass0 (pe_fldU (K := K) rfl (pv 0) rfl) (pa_cons (pv 1) pa_nil)) (pa_cons (pv 2) pa_nil))))) pa_nil)))
      (pss_one (ps_if (pt_not (pt_tru (K := K) rfl (pv 2))) (pss_one (ps_fldaug (pv 0) (pe_fldU (K := K) rfl (pv 0) rfl) in_add)) pss_nil)))))), ?_⟩)
  obtain ⟨k, m, s, ms, rd, mc, ou, Y, a, N, rfl, W, c, hN, hQ⟩ := h
  walk_at "go"
  refine ⟨fun σ' H' => ∃ (h : Option V), σ' = [some (.ref m.M), some (.int (a : Int)), h] ∧ KT H H' ∧ MW K H' k m s ms rd (goVis (k.vis.drop mc.vi) mc) ou Y, ?_, ?_⟩
  · walk_at "go"
    refine ⟨fun n σ H' => ∃ (mc' : MC) (h : Option V), σ = [some (.ref m.M), some (.int (a : Int)), h] ∧ KT H H' ∧ MW K H' k m s ms rd mc' ou Y ∧ COk k m.d m.c N mc' ∧ goVis (k.vis.drop mc'.vi) mc' = goVis (k.vis.drop mc.vi) mc ∧ n = k.vis.length - mc'.vi, ⟨_, mc, _, rfl, KT.refl, W, c, rfl, rfl⟩, ?_⟩
    rintro n σ H1 ⟨mc', h, rfl, k1, W1, c1, e1, rfl⟩
    obtain ⟨gS, grg, grd, gwd, gM, gO, gP, gC, gd, gc, us, gT⟩ := W1.get_
    walk_at "go"
    refine m_len W1.v ?_
    rw [List.length_map]
    walk_at "go"
    refine g_if (fun h1 => ?_) (fun h1 => ?_)
    · have hv : mc'.vi < k.vis.length := by omega
      have hvi : k.vis[mc'.vi]? = some k.vis[mc'.vi] := List.getElem?_eq_getElem hv
      have hdrop : k.vis.drop mc'.vi = k.vis[mc'.vi] :: k.vis.drop (mc'.vi + 1) := List.drop_eq_getElem_cons hv
      generalize k.vis[mc'.vi] = v at hvi hdrop
      rw [hdrop] at e1
      have hq : (k.vis.map Vi.d)[mc'.vi]? = some v.d := by rw [List.getElem?_map, hvi]; rfl
      walk_at "go"
      refine m_ix W1.v (n := mc'.vi) rfl hq (fun y hy => ?_)
      obtain ⟨ya, rfl, hya⟩ := vi3 hy
      walk_at "go"
      refine g_if (fun h2 => ?_) (fun h2 => ?_)
      · refine g_whileT ?_
        rw [goVis_cons, if_pos h2] at e1
        walk_at "go"
        refine m_ix W1.v (n := mc'.vi) rfl hq (fun y hy => ?_)
        obtain ⟨ya, rfl, hya⟩ := vi3 hy
        walk_at "go"
        refine m_ix W1.v (n := mc'.vi) rfl hq (fun y hy => ?_)
        obtain ⟨ya, rfl, hya⟩ := vi3 hy
        walk_at "go"
        refine ⟨k, m, s, ms, rd, mc', ou, Y, v, N, rfl, W1, c1, hN, fun H2 k2 W2 => ?_⟩
        obtain ⟨gS, grg, grd, gwd, gM, gO, gP, gC, gd, gc, us, gT⟩ := W2.get_
        walk_at "go"
        dsimp only
        refine g_fldaug ?_
        walk_at "go"
        refine w_viA T W2 ⟨rfl, rfl⟩ (fun hh z => hh _ _ z) (fun H3 k3 W3 => ?_)
        walk_at "go"
        refine ⟨_, ?_, { visM mc' v with vi := mc'.vi + 1 }, _, rfl, (k1.trans k2).trans k3, W3, c1.vis hv, e1, rfl⟩
        show k.vis.length - (mc'.vi + 1) < _
        omega
      · rw [goVis_cons, if_neg h2] at e1
        walk_at "go"
        rw [← e1]
        exact ⟨_, rfl, k1, W1⟩
    · have hd : k.vis.drop mc'.vi = [] := List.drop_of_length_le (by omega)
      rw [hd] at e1
      have e1 : mc' = goVis (k.vis.drop mc.vi) mc := e1
      walk_at "go"
      rw [← e1]
      exact ⟨_, rfl, k1, W1⟩
  · rintro σ' H1 ⟨h, rfl, k1, W1⟩
    have c1 := COk.go _ c rfl
    have hlen := c1.len
    generalize hmm : goVis (k.vis.drop mc.vi) mc = mm at W1 c1 hlen
    obtain ⟨gS, grg, grd, gwd, gM, gO, gP, gC, gd, gc, us, gT⟩ := W1.get_
    walk_at "go"
    refine g_fldaug ?_
    walk_at "go"
    refine w_feA T W1 ⟨rfl, rfl⟩ (fun hh z => hh _ _ z) (fun H2 k2 W2 => ?_)
    obtain ⟨gS, grg, grd, gwd, gM, gO, gP, gC, gd, gc, us, gT⟩ := W2.get_
    walk_at "go"
    refine w_ftouch W2 c1.c (fun H3 k3 W3 => ?_)
    obtain ⟨gS, grg, grd, gwd, gM, gO, gP, gC, gd, gc, us, gT⟩ := W3.get_
    walk_at "go"
    refine w_fline W3 c1.c.tc ?_
    walk_at "go"
    refine m_new (.cons (.str _) (.cons (.int _) (.cons (.int _) (.cons (.bl _) .nil)))) (by simp) (fun p H4 s4 hp im => ?_)
    walk_at "go"
    refine w_ev (e := .fetch mm.ck ((a : Int) / (mm.fc.Z : Int)) (decide (hitV mm.fc a))) (W3.same s4) (by show mm.tr.length < _; omega) im (fun H5 k5 W5 => ?_)
    have kk := (((k1.trans k2).trans k3).trans (KT.of s4)).trans k5
    obtain ⟨gS, grg, grd, gwd, gM, gO, gP, gC, gd, gc, us, gT⟩ := W5.get_
    walk_at "go"
    refine g_ifN (fun h2 => ?_) (fun h2 => ?_)
    · walk_at "go"
      refine g_fldaug ?_
      walk_at "go"
      refine w_ckA (x := k.miss) T W5 ?_ ?_ (fun H6 k6 W6 => ?_)
      · walk_at "go"
        exact ⟨rfl, rfl⟩
      · intro Q Q' hh z
        obtain ⟨a1, b1, c1, d1, e1, f1, g1, h1, i1, j1, k1, l1, z⟩ := z
        exact ⟨a1, b1, c1, d1, e1, f1, g1, h1, i1, j1, k1, l1, hh _ _ z⟩
      walk_at "go"
      refine hQ _ (kk.trans k6) ?_
      unfold fetchM
      rw [hmm]
      show MW K _ k m s ms rd { mm with fe := mm.fe + 1, fc := _, tr := _, ck := if hitV mm.fc a then mm.ck else mm.ck + k.miss } ou Y
      rw [if_neg h2]
      exact W6
    · walk_at "go"
      refine hQ _ kk ?_
      unfold fetchM
      rw [hmm]
      show MW K _ k m s ms rd { mm with fe := mm.fe + 1, fc := _, tr := _, ck := if hitV mm.fc a then mm.ck else mm.ck + k.miss } ou Y
      rw [if_pos h2]
      exact W5
def Row.ks : Row → List PK
  | .const _ _ => [.d, .n]
  | .op _ _ _ _ => [.sg, .d, .a, .a]
  | .select _ _ _ _ => [.d, .a, .a, .a]
  | .load _ _ _ _ => [.d, .a, .b, .m]
  | .store _ _ _ _ => [.a, .b, .m, .a]
  | .out _ => [.a]
  | .jump _ => [.t]
  | .branch _ _ => [.a, .t]
  | .stop _ => [.a]
theorem row_shp {r : Row} : (r.nm, r.ks) ∈ shpL := by
  cases r <;> simp [Row.nm, Row.ks, shpL]
theorem row_rok {r : Row} : ReadOk r.ks r.v := by
  cases r <;> refine ⟨rfl, fun i hi ha => ?_⟩ <;> simp only [Row.ks, List.length_cons, List.length_nil] at hi ha
  · match i, hi with
    | 0, _ => cases ha
    | 1, _ => cases ha
  · match i, hi with
    | 0, _ => cases ha
    | 1, _ => cases ha
    | 2, _ => exact ⟨_, rfl⟩
    | 3, _ => exact ⟨_, rfl⟩
  · match i, hi with
    | 0, _ => cases ha
    | 1, _ => exact ⟨_, rfl⟩
    | 2, _ => exact ⟨_, rfl⟩
    | 3, _ => exact ⟨_, rfl⟩
  · match i, hi with
    | 0, _ => cases ha
    | 1, _ => exact ⟨_, rfl⟩
    | 2, _ => cases ha
    | 3, _ => cases ha
  · match i, hi with
    | 0, _ => exact ⟨_, rfl⟩
    | 1, _ => cases ha
    | 2, _ => cases ha
    | 3, _ => exact ⟨_, rfl⟩
  · match i, hi with
    | 0, _ => exact ⟨_, rfl⟩
  · match i, hi with
    | 0, _ => cases ha
  · match i, hi with
    | 0, _ => exact ⟨_, rfl⟩
    | 1, _ => cases ha
  · match i, hi with
    | 0, _ => exact ⟨_, rfl⟩
theorem row_rds {r : Row} (h : isBr r = false) : readsV r.ks r.v r.ks.length = r.rds := by
  cases r <;> first | (cases h; done) | rfl
theorem rds_b {many a : Nat} {r : Row} (h : RowOkD many a r) : ∀ x ∈ r.rds, 0 ≤ x ∧ x < 16 := by
  intro x hx
  cases r with
  | const d n => cases hx
  | op s d a b =>
    simp only [Row.rds, List.mem_cons, List.not_mem_nil, or_false] at hx
    obtain ⟨_, h1, h2, _⟩ := h
    rcases hx with rfl | rfl <;> omega
  | select d c a b =>
    simp only [Row.rds, List.mem_cons, List.not_mem_nil, or_false] at hx
    obtain ⟨_, h1, h2, h3, _⟩ := h
    rcases hx with rfl | rfl | rfl <;> omega
  | load d a b m =>
    simp only [Row.rds, List.mem_cons, List.not_mem_nil, or_false] at hx
    obtain ⟨_, h1, _⟩ := h
    subst hx
    omega
  | store a b m c =>
    simp only [Row.rds, List.mem_cons, List.not_mem_nil, or_false] at hx
    obtain ⟨h1, h2, _⟩ := h
    rcases hx with rfl | rfl <;> omega
  | out a =>
    simp only [Row.rds, List.mem_cons, List.not_mem_nil, or_false] at hx
    obtain ⟨h1, _⟩ := h
    subst hx
    omega
  | jump t => cases hx
  | branch a t => cases hx
  | stop a =>
    simp only [Row.rds, List.mem_cons, List.not_mem_nil, or_false] at hx
    have h1 : a < 16 := h
    subst hx
    omega
theorem br_nm {r : Row} : r.nm = "branch" ↔ isBr r = true := by
  cases r <;> simp only [Row.nm, isBr] <;> decide +kernel
theorem mxL_snoc {rd l : List Int} {a c : Int} : mxL rd (l ++ [a]) c = mx (mxL rd l c) (rdAt rd a) := by
  unfold mxL
  rw [List.foldl_append]
  rfl
def sp_Machine_wait (K : PySem.W.Frag) : Sp := fun vs H Q _ => ∃ (k : MK) (m : MA) (s : SA) (ms : MS) (rd : List Int) (mc : MC) (ou : List Int) (Y : List (Addr × HO)) (ra : Addr) (r : Row) (many a : Nat), vs = [.ref m.M, .ref ra, .ref s.S] ∧ MW K H k m s ms rd mc ou Y ∧ H ra = some (.tup r.v) ∧ RowOkD many a r ∧ rd.length = 16 ∧
  ∀ H', KT H H' → MW K H' k m s ms rd (waitM r rd mc) ou Y → Q .non H'
theorem sc_Machine_wait : FnScope ["self", "row", "state", "place"] ["self", "row", "state"] (defScope (inClass (topS 17) 4)) := ⟨rfl, rfl, rfl, by decide +kernel, rfl, by decide +kernel, by decide +kernel⟩
theorem mt_Machine_wait (T : Txt fa fn K mg (CsOk cs K w)) : Mt P w K mg base CX0 2 "Machine" "wait" ["self", "row", "state"] (sp_Machine_wait K) := by
  refine mk_mt (d := mOf "Machine" "wait" "Machine.wait" (inClass (topS 17) 4)) T 73 rfl rfl rfl rfl sc_Machine_wait (by walk_at "len") (fun _ _ _ _ _ _ us hl => match us, hl with | [_, _, _], _ => rfl) (fun cdv A outer s H vs Q E hr h => ⟨_, (pss_one (ps_if (pt_cmpR (op_neU (K := K) rfl hr.units) (pe_ixU (K := K) rfl (hu_of hr) (pv 1) pe_int) pe_str (nomark _)) (pss_one (ps_for PassesOwn.never rfl (pi_seq (K := K) rfl (pe_callD (K := K) rfl (ok_reads T) (hr.mono (by decide)) rfl pass0 (pa_cons (pv 1) pa_nil))) (pg_name (i := 3) sc_Machine_wait.nd rfl (.inl rfl)) (pss_one (ps_fldU (K := K) rfl (pv 0) (pe_callB (c_max2 rfl) rfl (T.free 129 rfl) (by decide +kernel) (pa_cons (pe_fldU (K := K) rfl (pv 0) rfl) (pa_cons (pe_ixU (K := K) rfl (hu_of hr) (pe_fldU (K := K) rfl (pv 2) rfl) (pv 3)) pa_nil))) rfl)))) pss_nil)), ?_⟩)
  obtain ⟨k, m, s, ms, rd, mc, ou, Y, ra, r, many, a, rfl, W, ht, hr, hl, hQ⟩ := h
  walk_at "go"
  refine g_ixT (SqT.of ht) (n := 0) rfl row0 ?_
  walk_at "go"
  refine g_ifN (fun c => ?_) (fun c => ?_)
  · have hb : isBr r = false := by
      cases e : isBr r with
      | false => rfl
      | true => exact absurd (br_nm.mpr e) c
    walk_at "go"
    refine ⟨ra, r.nm, r.ks, r.v, rfl, ht, row0, row_shp, row_rok, fun H1 p js s1 asc mem jl hp => ?_⟩
    rw [row_rds hb] at mem
    have W1 := W.same s1
    walk_at "go"
    refine .inr ⟨p, _, rfl, SqT.of hp, ?_⟩
    refine f_tup (xs := js.map V.int) (fun i σ H' => ∃ (q : Option V), σ = [some (.ref m.M), some (.ref ra), some (.ref s.S), q] ∧ KT H1 H' ∧ MW K H' k m s ms rd { mc with ck := mxL rd (js.take i) mc.ck } ou Y) ⟨_, rfl, KT.refl, W1⟩ ?_ ?_ ?_
    · rintro i σ H' hi ⟨q, rfl, kt, W2⟩
      exact SqT.of (kt _ _ hp)
    · rintro i y σ H' hi ⟨q, rfl, kt, W2⟩
      rw [List.getElem?_map] at hi
      obtain ⟨j, hj, rfl⟩ := Option.map_eq_some_iff.mp hi
      obtain ⟨j0, j1⟩ := rds_b hr j ((mem j).mp (List.mem_of_getElem? hj))
      obtain ⟨gS, grg, grd, gwd, gM, gO, gP, gC, gd, gc, us, gT⟩ := W2.get_
      walk_at "go"
      refine w_rdy W2 hl j0 j1 ?_
      walk_at "go"
      refine w_ck T W2 (fun H3 k3 W3 => ?_)
      walk_at "go"
      refine ⟨_, rfl, kt.trans k3, ?_⟩
      rw [List.take_add_one, hj]
      show MW K H3 k m s ms rd { mc with ck := mxL rd (js.take i ++ [j]) mc.ck } ou Y
      rw [mxL_snoc]
      exact W3
    · rintro σ H' ⟨q, rfl, kt, W2⟩
      walk_at "go"
      refine hQ _ ((KT.of s1).trans kt) ?_
      rw [List.length_map, List.take_length, mxL_eq mem] at W2
      exact W2
  · walk_at "go"
    refine hQ _ KT.refl ?_
    have hb : isBr r = true := br_nm.mp (by simpa using c)
    have e : waitM r rd mc = mc := by
      cases r <;> first | (cases hb; done) | rfl
    rw [e]
    exact W
def sp_Machine_touch_data (K : PySem.W.Frag) : Sp := fun vs H Q _ => ∃ (k : MK) (m : MA) (s : SA) (ms : MS) (rd : List Int) (mc : MC) (ou : List Int) (Y : List (Addr × HO)) (x : Int) (N : Nat), vs = [.ref m.M, .int x] ∧ MW K H k m s ms rd mc ou Y ∧ COk k m.d m.c N mc ∧ N < 16000000 ∧
  ∀ H', KT H H' → MW K H' k m s ms rd (touM mc x) ou Y → Q (.int (touC k mc x)) H'
theorem sc_Machine_touch_data : FnScope ["self", "address", "hit"] ["self", "address"] (defScope (inClass (topS 17) 5)) := ⟨rfl, rfl, rfl, by decide +kernel, rfl, by decide +kernel, by decide +kernel⟩
theorem mt_Machine_touch_data (T : Txt fa fn K mg (CsOk cs K w)) : Mt P w K mg base CX0 4 "Machine" "touch_data" ["self", "address"] (sp_Machine_touch_data K) := by
  refine mk_mt (d := mOf "Machine" "touch_data" "Machine.touch_data" (inClass (topS 17) 5)) T 74 rfl rfl rfl rfl sc_Machine_touch_data (by walk_at "len") (fun _ _ _ _ _ _ us hl => match us, hl with | [_, _], _ => rfl) (fun cdv A outer s H vs Q E hr h => ⟨_, (pss_cons (ps_set (i := 2) sc_Machine_touch_data.nd rfl (.inl rfl) (pe_methD (K := K) rfl (mt_Cache_touch T) (cl_Cache T) (T.meth 61 rfl) (hr.mono (by decide)) pass0 (pe_fldU (K := K) rfl (pv 0) rfl) (pa_cons (pv 1) pa_nil)))
      (pss_cons (ps_expr (pe_bm PySem.F.plainAttrs_list PySem.F.slot_list_append PySem.F.type_list_append mt_append (pe_fldU (K := K) rfl (pv 0) rfl) (pa_cons (pe_tup (pa_cons pe_str (pa_cons (pe_fldU (K := K) rfl (pv 0) rfl) (pa_cons (pe_methD (K := K) rfl (mt_Cache_line_of T) (cl_Cache T) (T.meth 59 rfl) (hr.mono (by decide)) pass0 (pe_fldU (K := K) rfl (pv 0) rfl) (pa_cons (pv 1) pa_nil)) (pa_cons (pv 2) pa_nil))))) pa_nil)))
      (pss_cons (ps_if (pt_tru (K := K) rfl (pv 2)) (pss_one (ps_ret pe_int)) pss_nil)
      (pss_one (ps_ret (pe_fldU (K := K) rfl (pv 0) rfl)))))), ?_⟩)
  obtain ⟨k, m, s, ms, rd, mc, ou, Y, x, N, rfl, W, c, hN, hQ⟩ := h
  have hlen := c.len
  obtain ⟨gS, grg, grd, gwd, gM, gO, gP, gC, gd, gc, us, gT⟩ := W.get_
  walk_at "go"
  refine w_touch W c.d (fun H1 k1 W1 => ?_)
  obtain ⟨gS, grg, grd, gwd, gM, gO, gP, gC, gd, gc, us, gT⟩ := W1.get_
  walk_at "go"
  refine w_line W1 c.d.tc ?_
  walk_at "go"
  refine m_new (.cons (.str _) (.cons (.int _) (.cons (.int _) (.cons (.bl _) .nil)))) (by simp) (fun p H2 s2 hp im => ?_)
  walk_at "go"
  refine w_ev (e := .data mc.ck (x / (mc.dc.Z : Int)) (decide (hitV mc.dc x))) (W1.same s2) (by show mc.tr.length < _; omega) im (fun H3 k3 W3 => ?_)
  have kk := (k1.trans (KT.of s2)).trans k3
  obtain ⟨gS, grg, grd, gwd, gM, gO, gP, gC, gd, gc, us, gT⟩ := W3.get_
  walk_at "go"
  refine g_if (fun h => ?_) (fun h => ?_)
  · walk_at "go"
    refine q_int ?_ (hQ _ kk W3)
    unfold touC
    rw [if_pos h]
  · walk_at "go"
    refine q_int ?_ (hQ _ kk W3)
    unfold touC
    rw [if_neg h]


/-! ### what rows do -/
section
variable {H H' : Hp} {k : MK} {m : MA} {s : SA} {ms ms' : MS} {rd rd' : List Int} {mc mc' : MC} {ou : List Int} {Y : List (Addr × HO)} {Q : VK} {E : XK} {x t i : Int} {N d b : Nat} {cov : Int → Prop} {R : Hp → Prop}
theorem MW.ms_ (W : MW K H k m s ms rd mc ou Y) (e1 : ms'.rg = ms.rg) (e2 : ms'.wd = ms.wd) : MW K H k m s ms' rd mc ou Y := by
  obtain ⟨a1, a2, a3⟩ := ms
  obtain ⟨b1, b2, b3⟩ := ms'
  cases e1
  cases e2
  obtain ⟨⟨us, M, im⟩, r, v⟩ := W
  exact ⟨⟨us, M, im⟩, r, v⟩
theorem w_get {A : Option V → Prop} (W : MW K H k m s ms rd mc ou Y) (h : MOk b cov ms) (q : ∀ ov : Option V, ov.getD (.int 0) = .int (wdV ms.wd i) → A ov) : ∃ ov, DGet H s.wd (.int i) ov ∧ A ov := by
  obtain ⟨_, _, _, g, _⟩ := W.get_
  refine ⟨valV ms.wd (.inl i), DGet.k (k := .inl i) g, q _ ?_⟩
  unfold wdV
  cases e : valV ms.wd (.inl i) with
  | none => rfl
  | some v =>
    obtain ⟨x, rfl, _⟩ := h.w _ _ e
    rfl
theorem w_stw (W : MW K H k m s ms rd mc ou Y) (h : MOk b cov ms) (hb : b ≤ 90000) (q : ∀ H', KT H H' → MW K H' k m s { ms with wd := putK ms.wd (.inl i) (.int x) } rd mc ou Y → R H') : rSetU (.ref s.wd) (.int i) (.int x) H R := by
  obtain ⟨us, M, im⟩ := W.ex
  have kt : ∀ {o : HO}, KT H (upd H s.wd o) := KT.set (M.get 3 rfl) (fun _ e => nomatch e)
  refine .inr ⟨s.wd, _, rfl, DPut.k (k := .inl i) (M.get 3 rfl) (szl (by have := h.n; omega)), ?_⟩
  exact q _ kt (W.upd_ (ms' := { ms with wd := putK ms.wd (.inl i) (.int x) }) kt rfl rfl (M.set 3 rfl) (im.kt kt))
end
def calR : Row → Bool
  | .const _ _ => true
  | .op _ _ _ _ => true
  | .select _ _ _ _ => true
  | _ => false
def sp_Machine_calculate (K : PySem.W.Frag) : Sp := fun vs H Q _ => ∃ (k : MK) (m : MA) (s : SA) (ms : MS) (rd : List Int) (mc : MC) (ou : List Int) (Y : List (Addr × HO)) (ra : Addr) (r : Row) (many a b : Nat) (cov : Int → Prop), vs = [.ref m.M, .ref ra, .ref s.S] ∧ MW K H k m s ms rd mc ou Y ∧ H ra = some (.tup r.v) ∧ RowOkD many a r ∧ rd.length = 16 ∧ MOk b cov ms ∧ calR r = true ∧
  ∀ H', KT H H' → MW K H' k m s (doRow ms r) (workR k r ms rd mc) mc ou Y → Q .non H'
theorem sc_Machine_calculate : FnScope ["self", "row", "state", "held", "a", "b"] ["self", "row", "state"] (defScope (inClass (topS 17) 6)) := ⟨rfl, rfl, rfl, by decide +kernel, rfl, by decide +kernel, by decide +kernel⟩
theorem mt_Machine_calculate (T : Txt fa fn K mg (CsOk cs K w)) : Mt P w K mg base CX0 3 "Machine" "calculate" ["self", "row", "state"] (sp_Machine_calculate K) := by
  refine mk_mt (d := mOf "Machine" "calculate" "Machine.calculate" (inClass (topS 17) 6)) T 75 rfl rfl rfl rfl sc_Machine_calculate (by walk_at "len") (fun _ _ _ _ _ _ us hl => match us, hl with | [_, _, _], _ => rfl) (fun cdv A outer s H vs Q E hr h => ⟨_, (pss_cons (ps_set (i := 3) sc_Machine_calculate.nd rfl (.inl rfl) (pe_fldU (K := K) rfl (pv 2) rfl))
      (pss_one (ps_if (pt_cmpR (op_eqU (K := K) rfl hr.units) (pe_ixU (K := K) rfl (hu_of hr) (pv 1) pe_int) pe_str (nomark _)) (pss_one (ps_expr (pe_methD (K := K) rfl (mt_State_put T) (cl_State T) (T.meth 86 rfl) (hr.mono (by decide)) pass0 (pv 2) (pa_cons (pe_ixU (K := K) rfl (hu_of hr) (pv 1) pe_int) (pa_cons (pe_ixU (K := K) rfl (hu_of hr) (pv 1) pe_int) (pa_cons (pe_op (op_addU (K := K) rfl) (pe_fldU (K := K) rfl (pv 0) rfl) pe_int) pa_nil)))))) (pss_one (ps_if (pt_cmpR (op_eqU (K := K) rfl hr.units) (pe_ixU (K := K) rfl (hu_of hr) (pv 1) pe_int) pe_str (nomark _)) (pss_cons (ps_set (i := 4) sc_Machine_calculate.nd rfl (.inl rfl) (pe_ixU (K := K) rfl (hu_of hr) (pv 3) (pe_ixU (K := K) rfl (hu_of hr) (pv 1) pe_int)))
      (pss_cons (ps_set (i := 5) sc_Machine_calculate.nd rfl (.inl rfl) (pe_ixU (K := K) rfl (hu_of hr) (pv 3) (pe_ixU (K := K) rfl (hu_of hr) (pv 1) pe_int)))
      (pss_one (ps_expr (pe_methD (K := K) rfl (mt_State_put T) (cl_State T) (T.meth 86 rfl) (hr.mono (by decide)) pass0 (pv 2) (pa_cons (pe_ixU (K := K) rfl (hu_of hr) (pv 1) pe_int) (pa_cons (pe_callD (K := K) rfl (ok_apply T) (hr.mono (by decide)) rfl pass0 (pa_cons (pe_ixU (K := K) rfl (hu_of hr) (pv 1) pe_int) (pa_cons (pv 4) (pa_cons (pv 5) pa_nil)))) (pa_cons (pe_op (op_addU (K := K) rfl) (pe_fldU (K := K) rfl (pv 0) rfl) (pe_callD (K := K) rfl (ok_cost_of T) (hr.mono (by decide)) rfl pass0 (pa_cons (pe_ixU (K := K) rfl (hu_of hr) (pv 1) pe_int) (pa_cons (pv 4) (pa_cons (pv 5) pa_nil))))) pa_nil)))))))) (pss_one (ps_if (pt_cmpR (op_neU (K := K) rfl hr.units) (pe_ixU (K := K) rfl (hu_of hr) (pv 3) (pe_ixU (K := K) rfl (hu_of hr) (pv 1) pe_int)) pe_int (nomark _)) (pss_one (ps_expr (pe_methD (K := K) rfl (mt_State_put T) (cl_State T) (T.meth 86 rfl) (hr.mono (by decide)) pass0 (pv 2) (pa_cons (pe_ixU (K := K) rfl (hu_of hr) (pv 1) pe_int) (pa_cons (pe_ixU (K := K) rfl (hu_of hr) (pv 3) (pe_ixU (K := K) rfl (hu_of hr) (pv 1) pe_int)) (pa_cons (pe_op (op_addU (K := K) rfl) (pe_fldU (K := K) rfl (pv 0) rfl) pe_int) pa_nil)))))) (pss_one (ps_expr (pe_methD (K := K) rfl (mt_State_put T) (cl_State T) (T.meth 86 rfl) (hr.mono (by decide)) pass0 (pv 2) (pa_cons (pe_ixU (K := K) rfl (hu_of hr) (pv 1) pe_int) (pa_cons (pe_ixU (K := K) rfl (hu_of hr) (pv 3) (pe_ixU (K := K) rfl (hu_of hr) (pv 1) pe_int)) (pa_cons (pe_op (op_addU (K := K) rfl) (pe_fldU (K := K) rfl (pv 0) rfl) pe_int) pa_nil))))))))))))), ?_⟩)
  obtain ⟨k, m, s, ms, rd, mc, ou, Y, ra, r, many, a, b, cov, rfl, W, ht, hr, hl, ho, hc, hQ⟩ := h
  obtain ⟨gS, grg, grd, gwd, gM, gO, gP, gC, gd, gc, us, gT⟩ := W.get_
  cases r <;> first | (cases hc; done) | skip
  · rename_i d n
    have ht : H ra = some (.tup [.str "const", .int d, .int n]) := ht
    walk_at "go"
    refine w_put W ho hl hr.1 (fun H1 k1 W1 => ?_)
    walk_at "go"
    exact hQ _ k1 W1
  · rename_i sg d x y
    have ht : H ra = some (.tup [.str "op", .str sg.s, .int d, .int x, .int y]) := ht
    walk_at "go"
    refine w_reg W ho hr.2.1 ?_
    walk_at "go"
    refine w_reg W ho hr.2.2.1 ?_
    walk_at "go"
    have wx := ho.reg hr.2.1
    have wy := ho.reg hr.2.2.1
    refine ⟨sg, _, _, _, rfl, rfl, wx, wy, fun H1 s1 => ?_⟩
    have ht1 := s1 _ _ ht
    have W1 := W.same s1
    obtain ⟨gS, grg, grd, gwd, gM, gO, gP, gC, gd, gc, us, gT⟩ := W1.get_
    walk_at "go"
    refine ⟨sg, _, _, _, rfl, rfl, wx.l, wy.l, fun H2 s2 => ?_⟩
    have W2 := W1.same s2
    obtain ⟨gS, grg, grd, gwd, gM, gO, gP, gC, gd, gc, us, gT⟩ := W2.get_
    walk_at "go"
    refine w_put W2 ho hl hr.1 (fun H3 k3 W3 => ?_)
    walk_at "go"
    exact hQ _ ((KT.of (s1.trans s2)).trans k3) W3
  · rename_i d c x y
    have ht : H ra = some (.tup [.str "select", .int d, .int c, .int x, .int y]) := ht
    walk_at "go"
    refine w_reg W ho hr.2.1 ?_
    walk_at "go"
    refine g_ifN (fun c0 => ?_) (fun c0 => ?_)
    · walk_at "go"
      refine w_reg W ho hr.2.2.1 ?_
      walk_at "go"
      refine w_put W ho hl hr.1 (fun H1 k1 W1 => ?_)
      walk_at "go"
      refine hQ _ k1 ?_
      show MW K H1 k m s (put ms d (if rgV ms c = 0 then rgV ms y else rgV ms x)) _ mc ou Y
      rw [if_neg c0]
      exact W1
    · walk_at "go"
      refine w_reg W ho hr.2.2.2.1 ?_
      walk_at "go"
      refine w_put W ho hl hr.1 (fun H1 k1 W1 => ?_)
      walk_at "go"
      refine hQ _ k1 ?_
      show MW K H1 k m s (put ms d (if rgV ms c = 0 then rgV ms y else rgV ms x)) _ mc ou Y
      rw [if_pos c0]
      exact W1
def sp_Machine_load (K : PySem.W.Frag) : Sp := fun vs H Q _ => ∃ (k : MK) (m : MA) (s : SA) (ms : MS) (rd : List Int) (mc : MC) (ou : List Int) (Y : List (Addr × HO)) (ra : Addr) (d x : Nat) (ba ma : Int) (b N : Nat) (cov : Int → Prop), vs = [.ref m.M, .ref ra, .ref s.S] ∧ MW K H k m s ms rd mc ou Y ∧ H ra = some (.tup (Row.load d x ba ma).v) ∧ d < 16 ∧ x < 16 ∧ rd.length = 16 ∧ MOk b cov ms ∧ COk k m.d m.c N mc ∧ N < 16000000 ∧
  ∀ H', KT H H' → MW K H' k m s (doRow ms (.load d x ba ma)) (workR k (.load d x ba ma) ms rd mc) (touM mc (adr ms x ba ma)) ou Y → Q .non H'
theorem sc_Machine_load : FnScope ["self", "row", "state", "address", "cost"] ["self", "row", "state"] (defScope (inClass (topS 17) 7)) := ⟨rfl, rfl, rfl, by decide +kernel, rfl, by decide +kernel, by decide +kernel⟩
theorem mt_Machine_load (T : Txt fa fn K mg (CsOk cs K w)) : Mt P w K mg base CX0 5 "Machine" "load" ["self", "row", "state"] (sp_Machine_load K) := by
  refine mk_mt (d := mOf "Machine" "load" "Machine.load" (inClass (topS 17) 7)) T 76 rfl rfl rfl rfl sc_Machine_load (by walk_at "len") (fun _ _ _ _ _ _ us hl => match us, hl with | [_, _, _], _ => rfl) (fun cdv A outer s H vs Q E hr h => ⟨_, (pss_cons (ps_set (i := 3) sc_Machine_load.nd rfl (.inl rfl) (pe_op (op_addU (K := K) rfl) (pe_ixU (K := K) rfl (hu_of hr) (pv 1) pe_int) (pe_op op_and (pe_ixU (K := K) rfl (hu_of hr) (pe_fldU (K := K) rfl (pv 2) rfl) (pe_ixU (K := K) rfl (hu_of hr) (pv 1) pe_int)) (pe_ixU (K := K) rfl (hu_of hr) (pv 1) pe_int))))
      (pss_cons (ps_set (i := 4) sc_Machine_load.nd rfl (.inl rfl) (pe_op (op_addU (K := K) rfl) pe_int (pe_methD (K := K) rfl (mt_Machine_touch_data T) (cl_Machine T) (T.meth 97 rfl) (hr.mono (by decide)) pass0 (pv 0) (pa_cons (pv 3) pa_nil))))
      (pss_one (ps_expr (pe_methD (K := K) rfl (mt_State_put T) (cl_State T) (T.meth 86 rfl) (hr.mono (by decide)) pass0 (pv 2) (pa_cons (pe_ixU (K := K) rfl (hu_of hr) (pv 1) pe_int) (pa_cons (pe_dget2 (hu_of hr) (pe_fldU (K := K) rfl (pv 2) rfl) (pv 3) pe_int ⟨by rfl, by rfl, by rfl, by rfl⟩) (pa_cons (pe_op (op_addU (K := K) rfl) (pe_fldU (K := K) rfl (pv 0) rfl) (pv 4)) pa_nil)))))))), ?_⟩)
  obtain ⟨k, m, s, ms, rd, mc, ou, Y, ra, d, x, ba, ma, b, N, cov, rfl, W, ht, hd, hx, hl, ho, c, hN, hQ⟩ := h
  obtain ⟨gS, grg, grd, gwd, gM, gO, gP, gC, gd, gc, us, gT⟩ := W.get_
  have ht : H ra = some (.tup [.str "load", .int d, .int x, .int ba, .int ma]) := ht
  walk_at "go"
  refine w_reg W ho hx ?_
  walk_at "go"
  refine ⟨k, m, s, ms, rd, mc, ou, Y, _, N, rfl, W, c, hN, fun H1 k1 W1 => ?_⟩
  have ht1 := k1 _ _ ht
  obtain ⟨gS, grg, grd, gwd, gM, gO, gP, gC, gd, gc, us, gT⟩ := W1.get_
  walk_at "go"
  refine w_get W1 ho (fun ov e => ?_)
  rw [e]
  walk_at "go"
  refine w_put W1 ho hl hd (fun H3 k3 W3 => ?_)
  walk_at "go"
  exact hQ _ (k1.trans k3) W3
def sp_Machine_store (K : PySem.W.Frag) : Sp := fun vs H Q _ => ∃ (k : MK) (m : MA) (s : SA) (ms : MS) (rd : List Int) (mc : MC) (ou : List Int) (Y : List (Addr × HO)) (ra : Addr) (x y : Nat) (ba ma : Int) (g : Bool) (b N : Nat) (cov : Int → Prop), vs = [.ref m.M, .ref ra, .ref s.S, .bl g] ∧ MW K H k m s ms rd mc ou Y ∧ H ra = some (.tup (Row.store x ba ma y).v) ∧ x < 16 ∧ y < 16 ∧ MOk b cov ms ∧ b ≤ 90000 ∧ COk k m.d m.c N mc ∧ N < 16000000 ∧
  ∀ H', KT H H' → MW K H' k m s (doRow ms (.store x ba ma y)) rd (workC (.store x ba ma y) ms g mc) ou Y → Q .non H'
theorem sc_Machine_store : FnScope ["self", "row", "state", "guessed", "address"] ["self", "row", "state", "guessed"] (defScope (inClass (topS 17) 8)) := ⟨rfl, rfl, rfl, by decide +kernel, rfl, by decide +kernel, by decide +kernel⟩
theorem mt_Machine_store (T : Txt fa fn K mg (CsOk cs K w)) : Mt P w K mg base CX0 5 "Machine" "store" ["self", "row", "state", "guessed"] (sp_Machine_store K) := by
  refine mk_mt (d := mOf "Machine" "store" "Machine.store" (inClass (topS 17) 8)) T 77 rfl rfl rfl rfl sc_Machine_store (by walk_at "len") (fun _ _ _ _ _ _ us hl => match us, hl with | [_, _, _, _], _ => rfl) (fun cdv A outer s H vs Q E hr h => ⟨_, (pss_cons (ps_set (i := 4) sc_Machine_store.nd rfl (.inl rfl) (pe_op (op_addU (K := K) rfl) (pe_ixU (K := K) rfl (hu_of hr) (pv 1) pe_int) (pe_op op_and (pe_ixU (K := K) rfl (hu_of hr) (pe_fldU (K := K) rfl (pv 2) rfl) (pe_ixU (K := K) rfl (hu_of hr) (pv 1) pe_int)) (pe_ixU (K := K) rfl (hu_of hr) (pv 1) pe_int))))
      (pss_cons (ps_if (pt_not (pt_tru (K := K) rfl (pv 3))) (pss_one (ps_expr (pe_methD (K := K) rfl (mt_Machine_touch_data T) (cl_Machine T) (T.meth 97 rfl) (hr.mono (by decide)) pass0 (pv 0) (pa_cons (pv 4) pa_nil)))) pss_nil)
      (pss_one (ps_asg (pe_ixU (K := K) rfl (hu_of hr) (pe_fldU (K := K) rfl (pv 2) rfl) (pe_ixU (K := K) rfl (hu_of hr) (pv 1) pe_int)) (pg_sub (pe_fldU (K := K) rfl (pv 2) rfl) (pv 4) (set_U (hu_of hr))))))), ?_⟩)
  obtain ⟨k, m, s, ms, rd, mc, ou, Y, ra, x, y, ba, ma, g, b, N, cov, rfl, W, ht, hx, hy, ho, hb, c, hN, hQ⟩ := h
  obtain ⟨gS, grg, grd, gwd, gM, gO, gP, gC, gd, gc, us, gT⟩ := W.get_
  have ht : H ra = some (.tup [.str "store", .int x, .int ba, .int ma, .int y]) := ht
  walk_at "go"
  refine w_reg W ho hx ?_
  walk_at "go"
  cases g with
  | true =>
    walk_at "go"
    refine w_reg W ho hy ?_
    walk_at "go"
    refine w_stw W ho hb (fun H1 k1 W1 => ?_)
    walk_at "go"
    exact hQ _ k1 W1
  | false =>
    walk_at "go"
    refine ⟨k, m, s, ms, rd, mc, ou, Y, _, N, rfl, W, c, hN, fun H1 k1 W1 => ?_⟩
    have ht1 := k1 _ _ ht
    obtain ⟨gS, grg, grd, gwd, gM, gO, gP, gC, gd, gc, us, gT⟩ := W1.get_
    walk_at "go"
    refine w_reg W1 ho hy ?_
    walk_at "go"
    refine w_stw W1 ho hb (fun H2 k2 W2 => ?_)
    walk_at "go"
    exact hQ _ (k1.trans k2) W2
def ouW (r : Row) (ms : MS) (g : Bool) (ou : List Int) : List Int := match r with
  | .out a => if g then ou else ou ++ [rgV ms a]
  | _ => ou
def wrkR : Row → Bool
  | .branch _ _ => false
  | .stop _ => false
  | _ => true
def sp_Machine_work (K : PySem.W.Frag) : Sp := fun vs H Q _ => ∃ (k : MK) (m : MA) (s : SA) (ms : MS) (rd : List Int) (mc : MC) (ou : List Int) (Y : List (Addr × HO)) (ra : Addr) (r : Row) (g : Bool) (many a b N : Nat) (cov : Int → Prop), vs = [.ref m.M, .ref ra, .ref s.S, .bl g] ∧ MW K H k m s ms rd mc ou Y ∧ H ra = some (.tup r.v) ∧ RowOkD many a r ∧ wrkR r = true ∧ rd.length = 16 ∧ MOk b cov ms ∧ b ≤ 90000 ∧ ou.length < 90000 ∧ COk k m.d m.c N mc ∧ N < 16000000 ∧
  ∀ H', KT H H' → MW K H' k m s (workS r ms g) (workR k r ms rd mc) (workC r ms g mc) (ouW r ms g ou) Y → Q .non H'
theorem sc_Machine_work : FnScope ["self", "row", "state", "guessed"] ["self", "row", "state", "guessed"] (defScope (inClass (topS 17) 9)) := ⟨rfl, rfl, rfl, by decide +kernel, rfl, by decide +kernel, by decide +kernel⟩
theorem mt_Machine_work (T : Txt fa fn K mg (CsOk cs K w)) : Mt P w K mg base CX0 6 "Machine" "work" ["self", "row", "state", "guessed"] (sp_Machine_work K) := by
  refine mk_mt (d := mOf "Machine" "work" "Machine.work" (inClass (topS 17) 9)) T 78 rfl rfl rfl rfl sc_Machine_work (by walk_at "len") (fun _ _ _ _ _ _ us hl => match us, hl with | [_, _, _, _], _ => rfl) (fun cdv A outer s H vs Q E hr h => ⟨_, (pss_one (ps_if (pt_cmpR (op_inU (K := K) rfl (hu65 hr)) (pe_ixU (K := K) rfl (hu_of hr) (pv 1) pe_int) (pe_tup (pa_cons pe_str (pa_cons pe_str (pa_cons pe_str pa_nil)))) (by rfl)) (pss_one (ps_expr (pe_methD (K := K) rfl (mt_Machine_calculate T) (cl_Machine T) (T.meth 98 rfl) (hr.mono (by decide)) pass0 (pv 0) (pa_cons (pv 1) (pa_cons (pv 2) pa_nil))))) (pss_one (ps_if (pt_cmpR (op_eqU (K := K) rfl hr.units) (pe_ixU (K := K) rfl (hu_of hr) (pv 1) pe_int) pe_str (nomark _)) (pss_one (ps_expr (pe_methD (K := K) rfl (mt_Machine_load T) (cl_Machine T) (T.meth 99 rfl) (hr.mono (by decide)) pass0 (pv 0) (pa_cons (pv 1) (pa_cons (pv 2) pa_nil))))) (pss_one (ps_if (pt_cmpR (op_eqU (K := K) rfl hr.units) (pe_ixU (K := K) rfl (hu_of hr) (pv 1) pe_int) pe_str (nomark _)) (pss_one (ps_expr (pe_methD (K := K) rfl (mt_Machine_store T) (cl_Machine T) (T.meth 100 rfl) (hr.mono (by decide)) pass0 (pv 0) (pa_cons (pv 1) (pa_cons (pv 2) (pa_cons (pv 3) pa_nil)))))) (pss_one (ps_if (PW.pt (pw_and (pt_cmpR (op_eqU (K := K) rfl hr.units) (pe_ixU (K := K) rfl (hu_of hr) (pv 1) pe_int) pe_str (nomark _)) (pw_and1 (pt_not (pt_tru (K := K) rfl (pv 3)))))) (pss_cons (ps_expr (pe_bm PySem.F.plainAttrs_list PySem.F.slot_list_append PySem.F.type_list_append mt_append (pe_fldU (K := K) rfl (pv 0) rfl) (pa_cons (pe_ixU (K := K) rfl (hu_of hr) (pe_fldU (K := K) rfl (pv 2) rfl) (pe_ixU (K := K) rfl (hu_of hr) (pv 1) pe_int)) pa_nil)))
      (pss_one (ps_expr (pe_bm PySem.F.plainAttrs_list PySem.F.slot_list_append PySem.F.type_list_append mt_append (pe_fldU (K := K) rfl (pv 0) rfl) (pa_cons (pe_tup (pa_cons pe_str (pa_cons (pe_fldU (K := K) rfl (pv 0) rfl) (pa_cons (pe_ixU (K := K) rfl (hu_of hr) (pe_fldU (K := K) rfl (pv 2) rfl) (pe_ixU (K := K) rfl (hu_of hr) (pv 1) pe_int)) pa_nil)))) pa_nil))))) pss_nil)))))))), ?_⟩)
  obtain ⟨k, m, s, ms, rd, mc, ou, Y, ra, r, g, many, a, b, N, cov, rfl, W, ht, hr, hw, hl, ho, hb, hou, c, hN, hQ⟩ := h
  have hlen := c.len
  walk_at "go"
  refine g_ixT (SqT.of ht) (n := 0) rfl row0 ?_
  walk_at "go"
  refine ⟨by decide, fun q hq => ?_⟩
  have sq := Same.new (o := .tup [.str "const", .str "op", .str "select"]) hq
  refine g_inTs (ks := ["const", "op", "select"]) (.inl upd_same) ?_
  have ht1 := sq _ _ ht
  have W1 := W.same sq
  generalize upd H q (.tup [.str "const", .str "op", .str "select"]) = H1 at sq ht1 W1
  obtain ⟨gS, grg, grd, gwd, gM, gO, gP, gC, gd, gc, us, gT⟩ := W1.get_
  walk_at "go"
  have k1 := KT.of sq
  cases r <;> first | (cases hw; done) | skip
  · refine g_is (by simp only [Row.nm]; decide +kernel) ?_
    walk_at "go"
    refine ⟨k, m, s, ms, rd, mc, ou, Y, ra, _, many, a, b, cov, rfl, W1, ht1, hr, hl, ho, rfl, fun H2 k2 W2 => ?_⟩
    walk_at "go"
    exact hQ _ (k1.trans k2) W2
  · refine g_is (by simp only [Row.nm]; decide +kernel) ?_
    walk_at "go"
    refine ⟨k, m, s, ms, rd, mc, ou, Y, ra, _, many, a, b, cov, rfl, W1, ht1, hr, hl, ho, rfl, fun H2 k2 W2 => ?_⟩
    walk_at "go"
    exact hQ _ (k1.trans k2) W2
  · refine g_is (by simp only [Row.nm]; decide +kernel) ?_
    walk_at "go"
    refine ⟨k, m, s, ms, rd, mc, ou, Y, ra, _, many, a, b, cov, rfl, W1, ht1, hr, hl, ho, rfl, fun H2 k2 W2 => ?_⟩
    walk_at "go"
    exact hQ _ (k1.trans k2) W2
  · rename_i d x ba ma
    have ht2 : H1 ra = some (.tup [.str "load", .int d, .int x, .int ba, .int ma]) := ht1
    refine g_isnt (by simp only [Row.nm]; decide +kernel) ?_
    walk_at "go"
    refine ⟨k, m, s, ms, rd, mc, ou, Y, ra, d, x, ba, ma, b, N, cov, rfl, W1, ht1, hr.1, hr.2.1, hl, ho, c, hN, fun H2 k2 W2 => ?_⟩
    walk_at "go"
    exact hQ _ (k1.trans k2) W2
  · rename_i x ba ma y
    have ht2 : H1 ra = some (.tup [.str "store", .int x, .int ba, .int ma, .int y]) := ht1
    refine g_isnt (by simp only [Row.nm]; decide +kernel) ?_
    walk_at "go"
    refine ⟨k, m, s, ms, rd, mc, ou, Y, ra, x, y, ba, ma, g, b, N, cov, rfl, W1, ht1, hr.1, hr.2.1, ho, hb, c, hN, fun H2 k2 W2 => ?_⟩
    walk_at "go"
    exact hQ _ (k1.trans k2) W2
  · rename_i x
    have ht2 : H1 ra = some (.tup [.str "out", .int x]) := ht1
    refine g_isnt (by simp only [Row.nm]; decide +kernel) ?_
    walk_at "go"
    cases g with
    | true =>
      walk_at "go"
      exact hQ _ k1 W1
    | false =>
      walk_at "go"
      refine w_reg W1 ho hr.1 ?_
      walk_at "go"
      refine w_out W1 hou (fun H2 k2 W2 => ?_)
      have ht3 := k2 _ _ ht2
      obtain ⟨gS, grg, grd, gwd, gM, gO, gP, gC, gd, gc, us, gT⟩ := W2.get_
      walk_at "go"
      refine w_reg W2 ho hr.1 ?_
      walk_at "go"
      refine m_new (.cons (.str _) (.cons (.int _) (.cons (.int _) .nil))) (by simp) (fun p H3 s3 hp im => ?_)
      walk_at "go"
      refine w_ev (e := .out mc.ck (rgV ms x)) (W2.same s3) (by omega) im (fun H4 k4 W4 => ?_)
      walk_at "go"
      exact hQ _ (((k1.trans k2).trans (KT.of s3)).trans k4) (W4.ms_ rfl rfl)
  · rename_i x
    have ht2 : H1 ra = some (.tup [.str "jump", .int x]) := ht1
    refine g_isnt (by simp only [Row.nm]; decide +kernel) ?_
    walk_at "go"
    exact hQ _ k1 W1
/-! ### guesses -/
def sp_Machine_guess (K : PySem.W.Frag) : Sp := fun vs H Q _ => ∃ (k : MK) (m : MA) (s : SA) (ms : MS) (rd : List Int) (mc : MC) (ou : List Int) (Y : List (Addr × HO)) (a N : Nat), vs = [.ref m.M, .int (a : Int)] ∧ MW K H k m s ms rd mc ou Y ∧ COk k m.d m.c N mc ∧ N < 16000000 ∧
  ∀ H', KT H H' → MW K H' k m s ms rd (gueM mc a) ou Y → Q (.bl (gueV mc a)) H'
theorem sc_Machine_guess : FnScope ["self", "at", "taken"] ["self", "at"] (defScope (inClass (topS 17) 10)) := ⟨rfl, rfl, rfl, by decide +kernel, rfl, by decide +kernel, by decide +kernel⟩
theorem mt_Machine_guess (T : Txt fa fn K mg (CsOk cs K w)) : Mt P w K mg base CX0 3 "Machine" "guess" ["self", "at"] (sp_Machine_guess K) := by
  refine mk_mt (d := mOf "Machine" "guess" "Machine.guess" (inClass (topS 17) 10)) T 79 rfl rfl rfl rfl sc_Machine_guess (by walk_at "len") (fun _ _ _ _ _ _ us hl => match us, hl with | [_, _], _ => rfl) (fun cdv A outer s H vs Q E hr h => ⟨_, (pss_cons (ps_set (i := 2) sc_Machine_guess.nd rfl (.inl rfl) (pe_methD (K := K) rfl (mt_Predictor_guess T) (cl_Predictor T) (T.meth 77 rfl) (hr.mono (by decide)) pass0 (pe_fldU (K := K) rfl (pv 0) rfl) (pa_cons (pv 1) pa_nil)))
      (pss_cons (ps_expr (pe_bm PySem.F.plainAttrs_list PySem.F.slot_list_append PySem.F.type_list_append mt_append (pe_fldU (K := K) rfl (pv 0) rfl) (pa_cons (pe_tup (pa_cons pe_str (pa_cons (pe_fldU (K := K) rfl (pv 0) rfl) (pa_cons (pv 1) (pa_cons (pv 2) pa_nil))))) pa_nil)))
      (pss_one (ps_ret (pv 2))))), ?_⟩)
  obtain ⟨k, m, s, ms, rd, mc, ou, Y, a, N, rfl, W, c, hN, hQ⟩ := h
  have hlen := c.len
  obtain ⟨gS, grg, grd, gwd, gM, gO, gP, gC, gd, gc, us, gT⟩ := W.get_
  walk_at "go"
  refine ⟨m.P, m.pdx, m.C, mc.pr.k, mc.pr.b, mc.pr.h, mc.pr.cs, a, rfl, gP, gC, c.p, ?_⟩
  walk_at "go"
  refine m_new (.cons (.str _) (.cons (.int _) (.cons (.int _) (.cons (.bl _) .nil)))) (by simp) (fun p H3 s3 hp im => ?_)
  walk_at "go"
  refine w_ev (e := .guess mc.ck a (gueV mc a)) (W.same s3) (by omega) im (fun H4 k4 W4 => ?_)
  walk_at "go"
  exact hQ _ ((KT.of s3).trans k4) W4
def sp_Machine_after (K : PySem.W.Frag) : Sp := fun vs H Q _ => ∃ (k : MK) (m : MA) (mc : MC) (a : Nat) (t : Bool) (r : Row), vs = [.ref m.M, .int (a : Int), .bl t] ∧ H m.M = some (maO K k m mc) ∧ Im H m.rv (.tuple (k.rows.map Row.d)) ∧ k.rows[a]? = some r ∧ Q (.int (aftM r a t : Nat)) H
theorem sc_Machine_after : FnScope ["self", "at", "taken", "row"] ["self", "at", "taken"] (defScope (inClass (topS 17) 11)) := ⟨rfl, rfl, rfl, by decide +kernel, rfl, by decide +kernel, by decide +kernel⟩
theorem mt_Machine_after (T : Txt fa fn K mg (CsOk cs K w)) : Mt P w K mg base CX0 1 "Machine" "after" ["self", "at", "taken"] (sp_Machine_after K) := by
  refine mk_mt (d := mOf "Machine" "after" "Machine.after" (inClass (topS 17) 11)) T 80 rfl rfl rfl rfl sc_Machine_after (by walk_at "len") (fun _ _ _ _ _ _ us hl => match us, hl with | [_, _, _], _ => rfl) (fun cdv A outer s H vs Q E hr h => ⟨_, (pss_cons (ps_set (i := 3) sc_Machine_after.nd rfl (.inl rfl) (pe_ixU (K := K) rfl (hu_of hr) (pe_fldU (K := K) rfl (pv 0) rfl) (pv 1)))
      (pss_cons (ps_if (pt_cmpR (op_eqU (K := K) rfl hr.units) (pe_ixU (K := K) rfl (hu_of hr) (pv 3) pe_int) pe_str (nomark _)) (pss_one (ps_ret (pe_ixU (K := K) rfl (hu_of hr) (pv 3) pe_int))) pss_nil)
      (pss_cons (ps_if (PW.pt (pw_and (pt_cmpR (op_eqU (K := K) rfl hr.units) (pe_ixU (K := K) rfl (hu_of hr) (pv 3) pe_int) pe_str (nomark _)) (pw_and1 (pt_tru (K := K) rfl (pv 2))))) (pss_one (ps_ret (pe_ixU (K := K) rfl (hu_of hr) (pv 3) pe_int))) pss_nil)
      (pss_one (ps_ret (pe_op (op_addU (K := K) rfl) (pv 1) pe_int)))))), ?_⟩)
  obtain ⟨k, m, mc, a, t, r, rfl, gM, ir, hra, hQ⟩ := h
  walk_at "go"
  refine m_ix ir (n := a) rfl (by rw [List.getElem?_map, hra]; rfl) (fun y hy => ?_)
  obtain ⟨ra, rfl, ht⟩ := row_tup hy
  cases r
  all_goals first | (rename_i x1 x2 x3 x4; replace ht : H ra = some (.tup [_, _, _, _, _]) := ht) | (rename_i x1 x2; replace ht : H ra = some (.tup [_, _, _]) := ht) | (rename_i x1; replace ht : H ra = some (.tup [_, _]) := ht) | skip
  all_goals walk_at "go"
  all_goals first | exact hQ | skip
  cases t with
  | true =>
    walk_at "go"
    exact hQ
  | false =>
    walk_at "go"
    exact hQ


/-! ### copies, wrong ways -/
abbrev SL (K : PySem.W.Frag) (s : SA) (ms : MS) (rd : List Int) : List (Addr × HO) := [(s.S, stO K s.dx s.rg s.rd s.wd), (s.rg, .lst (ms.rg.map V.int)), (s.rd, .lst (rd.map V.int)), (s.wd, .dK ms.wd)]
theorem perm3 {α : Type} {L : List α} {x a b c : α} : (x :: (((L ++ [a]) ++ [b]) ++ [c])).Perm ([x, a, b, c] ++ L) := by
  have e : ((L ++ [a]) ++ [b]) ++ [c] = L ++ [a, b, c] := by simp
  rw [e]
  exact (List.perm_append_comm (l₁ := L) (l₂ := [a, b, c])).cons x
def sp_State_copied (K : PySem.W.Frag) : Sp := fun vs H Q _ => ∃ (s : SA) (ms : MS) (rd : List Int) (L : List (Addr × HO)), vs = [.ref s.S] ∧ Has H L ∧ H s.S = some (stO K s.dx s.rg s.rd s.wd) ∧ H s.rg = some (.lst (ms.rg.map V.int)) ∧ H s.rd = some (.lst (rd.map V.int)) ∧ H s.wd = some (.dK ms.wd) ∧
  ∀ H' s2, Same H H' → Has H' (SL K s2 ms rd ++ L) → Q (.ref s2.S) H'
theorem sc_State_copied : FnScope ["self"] ["self"] (defScope (inClass (topS 16) 1)) := ⟨rfl, rfl, rfl, by decide +kernel, rfl, by decide +kernel, by decide +kernel⟩
theorem mt_State_copied (T : Txt fa fn K mg (CsOk cs K w)) : Mt P w K mg base CX0 3 "State" "copied" ["self"] (sp_State_copied K) := by
  refine mk_mt (d := mOf "State" "copied" "State.copied" (inClass (topS 16) 1)) T 66 rfl rfl rfl rfl sc_State_copied (by walk_at "len") (fun _ _ _ _ _ _ us hl => match us, hl with | [_], _ => rfl) (fun cdv A outer s H vs Q E hr h => ⟨_, (pss_one (ps_ret (pe_makeD (K := K) rfl (mt_State___init__ T) (T.mkr 84 rfl) (hr.mono (by decide)) rfl (T.glo 55 rfl) pass0 (pa_cons (pe_callTy (c_list (K := K) rfl) rfl (T.free 128 rfl) (by decide +kernel) (pa_cons (pe_fldU (K := K) rfl (pv 0) rfl) pa_nil)) (pa_cons (pe_callTy (c_list (K := K) rfl) rfl (T.free 128 rfl) (by decide +kernel) (pa_cons (pe_fldU (K := K) rfl (pv 0) rfl) pa_nil)) (pa_cons (pe_callTy call_dictD rfl (T.free 124 rfl) (by decide +kernel) (pa_cons (pe_fldU (K := K) rfl (pv 0) rfl) pa_nil)) pa_nil)))))), ?_⟩)
  obtain ⟨s, ms, rd, L, rfl, M, gS, grg, grd, gwd, hQ⟩ := h
  walk_at "go"
  refine ⟨s.rg, _, rfl, .inl (SqL.of grg), fun p1 hp1 => ?_⟩
  have s1 := Same.new (o := .lst (ms.rg.map V.int)) hp1
  have M1 := M.new (o := .lst (ms.rg.map V.int)) hp1
  have gS1 := s1 _ _ gS
  have grd1 := s1 _ _ grd
  have gwd1 := s1 _ _ gwd
  generalize upd H p1 (.lst (ms.rg.map V.int)) = H1 at s1 M1 gS1 grd1 gwd1
  walk_at "go"
  refine ⟨s.rd, _, rfl, .inl (SqL.of grd1), fun p2 hp2 => ?_⟩
  have s2 := Same.new (o := .lst (rd.map V.int)) hp2
  have M2 := M1.new (o := .lst (rd.map V.int)) hp2
  have gS2 := s2 _ _ gS1
  have gwd2 := s2 _ _ gwd1
  generalize upd H1 p2 (.lst (rd.map V.int)) = H2 at s2 M2 gS2 gwd2
  walk_at "go"
  refine ⟨s.wd, _, rfl, Rd.of gwd2, fun p3 hp3 => ?_⟩
  have s3 := Same.new (o := .dK ms.wd) hp3
  have M3 := M2.new (o := .dK ms.wd) hp3
  generalize upd H2 p3 (.dK ms.wd) = H3 at s3 M3
  walk_at "go"
  intro x dx hx hdx hne
  have hx' : upd H3 dx (.own x) x = none := by
    rw [upd_ne (Ne.symm hne)]
    exact hx
  have M6 : Has (made H3 x dx (He.ga K "State")) _ := ((M3.new (o := .own x) hdx).new (o := .ins (He.ga K "State") dx []) hx').perm (List.perm_append_comm (l₂ := [_]))
  have s6 : Same H3 (made H3 x dx (He.ga K "State")) := made_same hx hdx
  refine ⟨x, dx, p1, p2, p3, _, rfl, M6, fun M7 => ⟨rfl, ?_⟩⟩
  have s7 := Same.mut (o := stO K dx p1 p2 p3) s6 hx
  have M8 := (M7.sub (L' := (x, stO K dx p1 p2 p3) :: (((L ++ [(p1, HO.lst (ms.rg.map V.int))]) ++ [(p2, HO.lst (rd.map V.int))]) ++ [(p3, HO.dK ms.wd)])) (.cons₂ _ (List.sublist_append_left _ _))).perm perm3
  exact hQ _ ⟨x, dx, p1, p2, p3⟩ (((s1.trans s2).trans s3).trans s7) M8
abbrev C5 (K : PySem.W.Frag) (k : MK) (m : MA) (mc : MC) (ou : List Int) (us : List V) : List (Addr × HO) := [(m.M, maO K k m mc), (m.O, .lst (ou.map V.int)), (m.T, .lst us), (m.P, prO K m.pdx mc.pr.k mc.pr.b mc.pr.h m.C), (m.C, ctO mc.pr.cs)]
theorem app5 {α : Type} (S C A B Y : List α) : (S ++ C) ++ (A ++ (B ++ Y)) = S ++ ((C ++ (A ++ B)) ++ Y) := by simp only [List.append_assoc]
theorem fl_eq {k : MK} {m : MA} {s : SA} {ms : MS} {rd : List Int} {mc : MC} {ou : List Int} {us : List V} {Y : List (Addr × HO)} : FL K k m s ms rd mc ou us Y = SL K s ms rd ++ ((C5 K k m mc ou us ++ (CaL K m.d mc.dc ++ CaL K m.c mc.fc)) ++ Y) := app5 (SL K s ms rd) (C5 K k m mc ou us) (CaL K m.d mc.dc) (CaL K m.c mc.fc) Y
section
variable {H H' : Hp} {k : MK} {m : MA} {s s2 : SA} {ms ms2 : MS} {rd rd2 : List Int} {mc : MC} {ou : List Int} {Y : List (Addr × HO)}
/-- a copy in front -/
theorem MW.copy (W : MW K H k m s ms rd mc ou Y) : ∃ L, Has H L ∧ ∀ H' s2, Same H H' → Has H' (SL K s2 ms rd ++ L) → MW K H' k m s2 ms rd mc ou (SL K s ms rd ++ Y) := by
  obtain ⟨us, M, im⟩ := W.ex
  refine ⟨_, M, fun H' s2 sm M' => ⟨⟨us, ?_, im.same sm⟩, W.r.same sm, W.v.same sm⟩⟩
  rw [fl_eq] at M' ⊢
  exact M'.perm (List.Perm.append_left _ (List.perm_append_comm_assoc _ _ _))
/-- the copy forgotten -/
theorem MW.back (W : MW K H k m s2 ms2 rd2 mc ou (SL K s ms rd ++ Y)) : MW K H k m s ms rd mc ou Y := by
  obtain ⟨us, M, im⟩ := W.ex
  refine ⟨⟨us, ?_, im⟩, W.r, W.v⟩
  rw [fl_eq] at M ⊢
  exact (M.sub (List.sublist_append_right _ _)).perm (List.perm_append_comm_assoc _ _ _)
end
theorem work_ok {b : Nat} {cov : Int → Prop} {ms : MS} {r : Row} {g : Bool} {many a : Nat} (h : MOk b cov ms) (hr : RowOkD many a r) : MOk (b + 1) cov (workS r ms g) := by
  cases r <;> first | exact h.do_ hr | skip
  unfold workS
  show MOk (b + 1) cov (if g = true then ms else _)
  split
  · exact h.same
  · exact h.do_ hr
theorem workR_len {k : MK} {r : Row} {ms : MS} {rd : List Int} {mc : MC} (h : rd.length = 16) : (workR k r ms rd mc).length = 16 := by
  cases r <;> first | exact h | (show (rd.set _ _).length = 16; rw [List.length_set]; exact h)
theorem aft_lt {many a : Nat} {r : Row} {t : Bool} (h : RowOkD many a r) (hs : isStop r = false) : aftM r a t < many := by
  cases r with
  | const d n => exact h.2.2
  | op s d a b => exact h.2.2.2
  | select d c a b => exact h.2.2.2.2
  | load d a base mask => exact h.2.2
  | store a base mask b => exact h.2.2
  | out a => exact h.2
  | jump t => exact h
  | branch x y =>
    show (if t = true then y else a + 1) < many
    split
    · exact h.2.1
    · exact h.2.2
  | stop a => cases hs
theorem st_nm {r : Row} : r.nm = "stop" ↔ isStop r = true := by
  cases r <;> simp only [Row.nm, isStop] <;> decide +kernel
theorem wrk_of {r : Row} (h : isBr r = false) (h2 : isStop r = false) : wrkR r = true := by
  cases r <;> first | rfl | (cases h; done) | (cases h2; done)
theorem wrongM_succ {k : MK} {en : Int} {n a : Nat} {ms : MS} {rd : List Int} {mc : MC} {r : Row} (h : k.rows[a]? = some r) (hc : mc.ck < en) : wrongM k en (n + 1) a ms rd mc = (if en ≤ (waitM r rd (fetchM k mc a)).ck ∨ isStop r = true then waitM r rd (fetchM k mc a)
        else if isBr r = true then wrongM k en n (aftM r a (gueV (waitM r rd (fetchM k mc a)) a)) ms rd { gueM (waitM r rd (fetchM k mc a)) a with ck := (waitM r rd (fetchM k mc a)).ck + 1 }
        else wrongM k en n (aftM r a false) (workS r ms true) (workR k r ms rd (waitM r rd (fetchM k mc a))) { workC r ms true (waitM r rd (fetchM k mc a)) with ck := (waitM r rd (fetchM k mc a)).ck + 1 }) := by
  show (if mc.ck < en then _ else mc) = _
  rw [if_pos hc]
  show (match k.rows[a]? with | none => mc | some r => _) = _
  rw [h]
theorem wrongM_end {k : MK} {en : Int} {n a : Nat} {ms : MS} {rd : List Int} {mc : MC} (hc : ¬ mc.ck < en) : wrongM k en n a ms rd mc = mc := by
  cases n with
  | zero => rfl
  | succ n =>
    show (if mc.ck < en then _ else mc) = _
    rw [if_neg hc]
theorem gue_ck {mc : MC} {a : Nat} : (gueM mc a).ck = mc.ck := rfl
theorem work_ck {r : Row} {ms : MS} {g : Bool} {mc : MC} : (workC r ms g mc).ck = mc.ck := by
  cases r <;> first | rfl | (cases g <;> rfl)
theorem ou_guess {r : Row} {ms : MS} {ou : List Int} : ouW r ms true ou = ou := by
  cases r <;> rfl
def sp_Machine_wrong_way (K : PySem.W.Frag) : Sp := fun vs H Q _ => ∃ (k : MK) (m : MA) (s : SA) (ms : MS) (rd : List Int) (mc : MC) (ou : List Int) (Y : List (Addr × HO)) (a b N : Nat) (cov : Int → Prop) (en : Int), vs = [.ref m.M, .int (a : Int), .int en] ∧ m.St = s.S ∧ MW K H k m s ms rd mc ou Y ∧ COk k m.d m.c N mc ∧ N + 200 < 16000000 ∧ MOk b cov ms ∧ b + 100 ≤ 90000 ∧ ou.length < 90000 ∧ rd.length = 16 ∧ CodeOk k.rows ∧ a < k.rows.length ∧ 0 ≤ k.dep ∧ k.dep ≤ 64 ∧
  ∀ H', KT H H' → MW K H' k m s ms rd (wrongM k en k.dep.toNat a ms rd mc) ou Y → Q .non H'
theorem sc_Machine_wrong_way : FnScope ["self", "at", "end", "state", "done", "row", "taken"] ["self", "at", "end"] (defScope (inClass (topS 17) 13)) := ⟨rfl, rfl, rfl, by decide +kernel, rfl, by decide +kernel, by decide +kernel⟩
theorem mt_Machine_wrong_way (T : Txt fa fn K mg (CsOk cs K w)) : Mt P w K mg base CX0 7 "Machine" "wrong_way" ["self", "at", "end"] (sp_Machine_wrong_way K) := by
  refine mk_mt (d := mOf "Machine" "wrong_way" "Machine.wrong_way" (inClass (topS 17) 13)) T 82 rfl rfl rfl rfl sc_Machine_wrong_way (by walk_at "len") (fun _ _ _ _ _ _ us hl => match us, hl with | [_, _, _], _ => rfl) (fun cdv A outer s H vs Q E hr h => ⟨_, (pss_cons (ps_set (i := 3) sc_Machine_wrong_way.nd rfl (.inl rfl) (pe_methD0 (K := K) rfl (mt_State_copied T) (cl_State T) (T.meth 85 rfl) (hr.mono (by decide)) pass0 (pe_fldU (K := K) rfl (pv 0) rfl)))
      (pss_cons (ps_set (i := 4) sc_Machine_wrong_way.nd rfl (.inl rfl) pe_int)
      (pss_one (ps_while PassesOwn.never (PW.pt (pw_and (pt_cmpR o_lt (pv 4) (pe_fldU (K := K) rfl (pv 0) rfl) (nomark _)) (pw_and1 (pt_cmpR o_lt (pe_fldU (K := K) rfl (pv 0) rfl) (pv 2) (nomark _))))) (pss_cons (ps_set (i := 5) sc_Machine_wrong_way.nd rfl (.inl rfl) (pe_ixU (K := K) rfl (hu_of hr) (pe_fldU (K := K) rfl (pv 0) rfl) (pv 1)))
      (pss_cons (ps_expr (pe_methD (K := K) rfl (mt_Machine_fetch T) (cl_Machine T) (T.meth 95 rfl) (hr.mono (by decide)) pass0 (pv 0) (pa_cons (pv 1) pa_nil)))
      (pss_cons (ps_expr (pe_methD (K := K) rfl (mt_Machine_wait T) (cl_Machine T) (T.meth 96 rfl) (hr.mono (by decide)) pass0 (pv 0) (pa_cons (pv 5) (pa_cons (pv 3) pa_nil))))
      (pss_cons (ps_if (PW.pt (pw_or (pt_cmpR o_ge (pe_fldU (K := K) rfl (pv 0) rfl) (pv 2) (nomark _)) (pw_or1 (pt_cmpR (op_eqU (K := K) rfl hr.units) (pe_ixU (K := K) rfl (hu_of hr) (pv 5) pe_int) pe_str (nomark _))))) (pss_one ps_retN) pss_nil)
      (pss_cons (ps_set (i := 6) sc_Machine_wrong_way.nd rfl (.inl rfl) pe_bl)
      (pss_cons (ps_join (ps_if (pt_cmpR (op_eqU (K := K) rfl hr.units) (pe_ixU (K := K) rfl (hu_of hr) (pv 5) pe_int) pe_str (nomark _)) (pss_one (ps_set (i := 6) sc_Machine_wrong_way.nd rfl (.inl rfl) (pe_methD (K := K) rfl (mt_Machine_guess T) (cl_Machine T) (T.meth 102 rfl) (hr.mono (by decide)) pass0 (pv 0) (pa_cons (pv 1) pa_nil)))) (pss_one (ps_expr (pe_methD (K := K) rfl (mt_Machine_work T) (cl_Machine T) (T.meth 101 rfl) (hr.mono (by decide)) pass0 (pv 0) (pa_cons (pv 5) (pa_cons (pv 3) (pa_cons pe_bl pa_nil))))))))
      (pss_cons (ps_set (i := 1) sc_Machine_wrong_way.nd rfl (.inl rfl) (pe_methD (K := K) rfl (mt_Machine_after T) (cl_Machine T) (T.meth 103 rfl) (hr.mono (by decide)) pass0 (pv 0) (pa_cons (pv 1) (pa_cons (pv 6) pa_nil))))
      (pss_cons (ps_fldaug (pv 0) pe_int in_add)
      (pss_one (ps_aug (i := 4) sc_Machine_wrong_way.nd rfl (.inl rfl) pe_int ip_add)))))))))))))), ?_⟩)
  obtain ⟨k, m, s, ms, rd, mc, ou, Y, a, b, N, cov, en, rfl, hst, W, c, hN, ho, hb, hou, hl, co, ha, hd0, hd1, hQ⟩ := h
  obtain ⟨gS, grg, grd, gwd, gM, gO, gP, gC, gd, gc, us, gT⟩ := W.get_
  obtain ⟨L, hL, hcp⟩ := W.copy
  walk_at "go"
  rw [hst]
  walk_at "go"
  refine ⟨s, ms, rd, L, rfl, hL, gS, grg, grd, gwd, fun H1 s2 sm M1 => ?_⟩
  have W1 := hcp H1 s2 sm M1
  walk_at "go"
  refine ⟨fun n σ H' => ∃ (a' j : Nat) (ms' : MS) (rd' : List Int) (mc' : MC) (r tk : Option V), σ = [some (.ref m.M), some (.int (a' : Int)), some (.int en), some (.ref s2.S), some (.int (j : Int)), r, tk] ∧ KT H H' ∧ MW K H' k m s2 ms' rd' mc' ou (SL K s ms rd ++ Y) ∧ COk k m.d m.c (N + 2 * j) mc' ∧ MOk (b + j) cov ms' ∧ rd'.length = 16 ∧ a' < k.rows.length ∧ n = k.dep.toNat - j ∧ j ≤ k.dep.toNat ∧
    wrongM k en n a' ms' rd' mc' = wrongM k en k.dep.toNat a ms rd mc, ⟨_, a, 0, ms, rd, mc, _, _, rfl, KT.of sm, W1, c, ho, hl, ha, rfl, Nat.zero_le _, rfl⟩, ?_⟩
  rintro n σ H2 ⟨a', j, ms', rd', mc', r0, tk, rfl, k1, W2, c2, ho2, hl2, ha2, rfl, hj, hrun⟩
  obtain ⟨gS, grg, grd, gwd, gM, gO, gP, gC, gd, gc, us, gT⟩ := W2.get_
  walk_at "go"
  refine g_if (fun h1 => ?_) (fun h1 => ?_)
  · obtain ⟨q, hq⟩ : ∃ q, k.dep.toNat - j = q + 1 := ⟨k.dep.toNat - j - 1, by omega⟩
    rw [hq] at hrun
    walk_at "go"
    refine g_if (fun h2 => ?_) (fun h2 => ?_)
    · refine g_whileT ?_
      have hra : k.rows[a']? = some k.rows[a'] := List.getElem?_eq_getElem ha2
      generalize k.rows[a'] = r at hra
      have hr := co.r a' r hra
      rw [wrongM_succ hra h2] at hrun
      walk_at "go"
      refine m_ix W2.r (n := a') rfl (by rw [List.getElem?_map, hra]; rfl) (fun y hy => ?_)
      obtain ⟨ra, rfl, ht⟩ := row_tup hy
      walk_at "go"
      refine ⟨k, m, s2, ms', rd', mc', ou, _, a', N + 2 * j, rfl, W2, c2, by omega, fun H3 k3 W3 => ?_⟩
      have ht3 := k3 _ _ ht
      obtain ⟨gS, grg, grd, gwd, gM, gO, gP, gC, gd, gc, us, gT⟩ := W3.get_
      have c3 := c2.fetch (a := a')
      walk_at "go"
      refine ⟨k, m, s2, ms', rd', fetchM k mc' a', ou, _, ra, r, k.rows.length, a', rfl, W3, ht3, hr, hl2, fun H4 k4 W4 => ?_⟩
      have ht4 := k4 _ _ ht3
      have c4 := c3.wait (r := r) (rd := rd')
      obtain ⟨gS, grg, grd, gwd, gM, gO, gP, gC, gd, gc, us, gT⟩ := W4.get_
      have kk4 := (k1.trans k3).trans k4
      generalize hmm : waitM r rd' (fetchM k mc' a') = mm at W4 c4 hrun gM gP gC gd gc
      walk_at "go"
      refine g_if (fun h3 => ?_) (fun h3 => ?_)
      · rw [if_pos (.inl h3)] at hrun
        walk_at "go"
        rw [← hrun] at hQ
        exact hQ _ kk4 W4.back
      walk_at "go"
      refine g_ixT (SqT.of ht4) (n := 0) rfl row0 ?_
      walk_at "go"
      refine g_if (fun h4 => ?_) (fun h4 => ?_)
      · rw [if_pos (.inr (st_nm.mp h4))] at hrun
        walk_at "go"
        rw [← hrun] at hQ
        exact hQ _ kk4 W4.back
      have hs : isStop r = false := by
        cases e : isStop r with
        | false => rfl
        | true => exact absurd (st_nm.mpr e) h4
      rw [if_neg (by rw [hs]; rintro (z | z); exact h3 z; cases z)] at hrun
      walk_at "go"
      refine ⟨fun σ' H' => ∃ (ms'' : MS) (rd'' : List Int) (mc'' : MC) (t : Bool), σ' = [some (.ref m.M), some (.int (a' : Int)), some (.int en), some (.ref s2.S), some (.int (j : Int)), some (.ref ra), some (.bl t)] ∧ KT H H' ∧ MW K H' k m s2 ms'' rd'' mc'' ou (SL K s ms rd ++ Y) ∧ COk k m.d m.c (N + 2 * j + 2) mc'' ∧ MOk (b + j + 1) cov ms'' ∧ rd''.length = 16 ∧
        wrongM k en q (aftM r a' t) ms'' rd'' { mc'' with ck := mc''.ck + 1 } = wrongM k en k.dep.toNat a ms rd mc, ?_, ?_⟩
      · walk_at "go"
        refine g_ixT (SqT.of ht4) (n := 0) rfl row0 ?_
        walk_at "go"
        refine g_if (fun h5 => ?_) (fun h5 => ?_)
        · have hbr := br_nm.mp h5
          rw [if_pos hbr] at hrun
          walk_at "go"
          refine ⟨k, m, s2, ms', rd', mm, ou, _, a', N + 2 * j + 1, rfl, W4, c4, by omega, fun H5 k5 W5 => ?_⟩
          walk_at "go"
          exact ⟨ms', rd', gueM mm a', _, rfl, kk4.trans k5, W5, c4.gue, ho2.same, hl2, hrun⟩
        · have hbr : isBr r = false := by
            cases e : isBr r with
            | false => rfl
            | true => exact absurd (br_nm.mpr e) h5
          rw [if_neg (by rw [hbr]; exact Bool.false_ne_true)] at hrun
          walk_at "go"
          refine ⟨k, m, s2, ms', rd', mm, ou, _, ra, r, true, k.rows.length, a', b + j, N + 2 * j + 1, cov, rfl, W4, ht4, hr, wrk_of hbr hs, hl2, ho2, by omega, hou, c4, by omega, fun H5 k5 W5 => ?_⟩
          walk_at "go"
          rw [ou_guess] at W5
          refine ⟨workS r ms' true, workR k r ms' rd' mm, workC r ms' true mm, false, rfl, kk4.trans k5, W5, c4.work, work_ok ho2 hr, workR_len hl2, ?_⟩
          rw [work_ck]
          exact hrun
      · rintro σ' H5 ⟨ms'', rd'', mc'', t, rfl, k5, W5, c5, ho5, hl5, hrun5⟩
        obtain ⟨gS, grg, grd, gwd, gM, gO, gP, gC, gd, gc, us, gT⟩ := W5.get_
        walk_at "go"
        refine ⟨k, m, mc'', a', t, r, rfl, gM, W5.r, hra, ?_⟩
        walk_at "go"
        dsimp only
        refine g_fldaug ?_
        walk_at "go"
        refine w_ckA (x := 1) T W5 ⟨rfl, rfl⟩ (fun hh z => hh _ _ z) (fun H6 k6 W6 => ?_)
        walk_at "go"
        refine ⟨q, by omega, aftM r a' t, j + 1, ms'', rd'', _, _, _, rfl, k5.trans k6, W6, (c5.ck).mono (by omega), ho5, hl5, aft_lt hr hs, by omega, by omega, hrun5⟩
    · rw [wrongM_end h2] at hrun
      walk_at "go"
      rw [← hrun] at hQ
      exact hQ _ k1 W2.back
  · have e : k.dep.toNat - j = 0 := by omega
    rw [e] at hrun
    have hrun : mc' = _ := hrun
    walk_at "go"
    rw [← hrun] at hQ
    exact hQ _ k1 W2.back


/-! ### branches, the run -/
theorem w_learn {H : Hp} {k : MK} {m : MA} {s : SA} {ms : MS} {rd : List Int} {mc : MC} {ou : List Int} {Y : List (Addr × HO)} {Q : VK} {E : XK} {a : Nat} {t : Bool} (W : MW K H k m s ms rd mc ou Y) (ok : PrOk mc.pr.k mc.pr.b mc.pr.h mc.pr.cs)
    (q : ∀ H', KT H H' → MW K H' k m s ms rd (lrnM mc a t) ou Y → Q .non H') : sp_Predictor_learn K (.ref m.P :: ([.int (a : Int), .bl t] ++ [])) H Q E := by
  obtain ⟨us, M, im⟩ := W.ex
  refine use_learn M 7 8 rfl rfl (by decide) ok (fun H' kp M' => ?_)
  have kt : KT H H' := KT.keep kp (NoTup.cons (M.get 7 rfl) (fun _ e => nomatch e) (NoTup.one (M.get 8 rfl) (fun _ e => nomatch e)))
  exact q H' kt (W.upd_ (mc' := lrnM mc a t) kt rfl rfl M' (im.kt kt))
def sp_Machine_branch (K : PySem.W.Frag) : Sp := fun vs H Q _ => ∃ (k : MK) (m : MA) (s : SA) (ms : MS) (rd : List Int) (mc : MC) (ou : List Int) (Y : List (Addr × HO)) (a p t b N : Nat) (cov : Int → Prop), vs = [.ref m.M, .int (a : Int)] ∧ m.St = s.S ∧ MW K H k m s ms rd mc ou Y ∧ COk k m.d m.c N mc ∧ N + 300 < 16000000 ∧ MOk b cov ms ∧ b + 100 ≤ 90000 ∧ ou.length < 90000 ∧ rd.length = 16 ∧ CodeOk k.rows ∧ k.rows[a]? = some (.branch p t) ∧ 0 ≤ k.dep ∧ k.dep ≤ 64 ∧
  ∀ H', KT H H' → MW K H' k m s ms rd (brM k (.branch p t) a p ms rd mc) ou Y → Q (.bl (decide (¬ rgV ms p = 0))) H'
theorem sc_Machine_branch : FnScope ["self", "at", "place", "start", "guessed", "taken", "end"] ["self", "at"] (defScope (inClass (topS 17) 12)) := ⟨rfl, rfl, rfl, by decide +kernel, rfl, by decide +kernel, by decide +kernel⟩
theorem mt_Machine_branch (T : Txt fa fn K mg (CsOk cs K w)) : Mt P w K mg base CX0 8 "Machine" "branch" ["self", "at"] (sp_Machine_branch K) := by
  refine mk_mt (d := mOf "Machine" "branch" "Machine.branch" (inClass (topS 17) 12)) T 81 rfl rfl rfl rfl sc_Machine_branch (by walk_at "len") (fun _ _ _ _ _ _ us hl => match us, hl with | [_, _], _ => rfl) (fun cdv A outer s H vs Q E hr h => ⟨_, (pss_cons (ps_set (i := 2) sc_Machine_branch.nd rfl (.inl rfl) (pe_ixU (K := K) rfl (hu_of hr) (pe_ixU (K := K) rfl (hu_of hr) (pe_fldU (K := K) rfl (pv 0) rfl) (pv 1)) pe_int))
      (pss_cons (ps_set (i := 3) sc_Machine_branch.nd rfl (.inl rfl) (pe_fldU (K := K) rfl (pv 0) rfl))
      (pss_cons (ps_set (i := 4) sc_Machine_branch.nd rfl (.inl rfl) (pe_methD (K := K) rfl (mt_Machine_guess T) (cl_Machine T) (T.meth 102 rfl) (hr.mono (by decide)) pass0 (pv 0) (pa_cons (pv 1) pa_nil)))
      (pss_cons (ps_set (i := 5) sc_Machine_branch.nd rfl (.inl rfl) (pe_cmpR (op_neU (K := K) rfl hr.units) (pe_ixU (K := K) rfl (hu_of hr) (pe_fldU (K := K) rfl (pe_fldU (K := K) rfl (pv 0) rfl) rfl) (pv 2)) pe_int (nomark _)))
      (pss_cons (ps_fldU (K := K) rfl (pv 0) (pe_op (op_addU (K := K) rfl) (pv 3) pe_int) rfl)
      (pss_cons (ps_join (ps_if (pt_cmpR (op_neU (K := K) rfl hr.units) (pv 4) (pv 5) (nomark _)) (pss_cons (ps_set (i := 6) sc_Machine_branch.nd rfl (.inl rfl) (pe_op (op_addU (K := K) rfl) (pe_callB (c_max2 rfl) rfl (T.free 129 rfl) (by decide +kernel) (pa_cons (pv 3) (pa_cons (pe_ixU (K := K) rfl (hu_of hr) (pe_fldU (K := K) rfl (pe_fldU (K := K) rfl (pv 0) rfl) rfl) (pv 2)) pa_nil))) (pe_fldU (K := K) rfl (pv 0) rfl)))
      (pss_cons (ps_expr (pe_methD (K := K) rfl (mt_Machine_wrong_way T) (cl_Machine T) (T.meth 105 rfl) (hr.mono (by decide)) pass0 (pv 0) (pa_cons (pe_methD (K := K) rfl (mt_Machine_after T) (cl_Machine T) (T.meth 103 rfl) (hr.mono (by decide)) pass0 (pv 0) (pa_cons (pv 1) (pa_cons (pv 4) pa_nil))) (pa_cons (pv 6) pa_nil))))
      (pss_cons (ps_fldU (K := K) rfl (pv 0) (pv 6) rfl)
      (pss_one (ps_expr (pe_bm PySem.F.plainAttrs_list PySem.F.slot_list_append PySem.F.type_list_append mt_append (pe_fldU (K := K) rfl (pv 0) rfl) (pa_cons (pe_tup (pa_cons pe_str (pa_cons (pv 6) (pa_cons (pv 1) pa_nil)))) pa_nil))))))) pss_nil))
      (pss_cons (ps_expr (pe_methD (K := K) rfl (mt_Predictor_learn T) (cl_Predictor T) (T.meth 78 rfl) (hr.mono (by decide)) pass0 (pe_fldU (K := K) rfl (pv 0) rfl) (pa_cons (pv 1) (pa_cons (pv 5) pa_nil))))
      (pss_one (ps_ret (pv 5)))))))))), ?_⟩)
  obtain ⟨k, m, s, ms, rd, mc, ou, Y, a, p, t, b, N, cov, rfl, hst, W, c, hN, ho, hb, hou, hl, co, hra, hd0, hd1, hQ⟩ := h
  have hr := co.r a _ hra
  obtain ⟨gS, grg, grd, gwd, gM, gO, gP, gC, gd, gc, us, gT⟩ := W.get_
  walk_at "go"
  refine m_ix W.r (n := a) rfl (by rw [List.getElem?_map, hra]; rfl) (fun y hy => ?_)
  obtain ⟨ra, rfl, ht⟩ := row_tup hy
  have ht : H ra = some (.tup [.str "branch", .int p, .int t]) := ht
  walk_at "go"
  refine ⟨k, m, s, ms, rd, mc, ou, Y, a, N, rfl, W, c, by omega, fun H1 k1 W1 => ?_⟩
  have c1 := c.gue (a := a)
  obtain ⟨gS, grg, grd, gwd, gM, gO, gP, gC, gd, gc, us, gT⟩ := W1.get_
  have gSt : H1 m.St = some (stO K s.dx s.rg s.rd s.wd) := by rw [hst]; exact gS
  walk_at "go"
  refine w_reg W1 ho hr.1 ?_
  walk_at "go"
  have etk : (!decide (rgV ms p = 0)) = decide (¬ rgV ms p = 0) := by simp
  rw [etk]
  walk_at "go"
  refine w_ck T W1 (fun H2 k2 W2 => ?_)
  have c2 := c1.ck (x := mc.ck + 1)
  have kk2 := k1.trans k2
  obtain ⟨gS, grg, grd, gwd, gM, gO, gP, gC, gd, gc, us, gT⟩ := W2.get_
  have gSt : H2 m.St = some (stO K s.dx s.rg s.rd s.wd) := by rw [hst]; exact gS
  walk_at "go"
  refine ⟨fun σ' H' => ∃ (m3 : MC) (en : Option V), σ' = [some (.ref m.M), some (.int (a : Int)), some (.int (p : Int)), some (.int mc.ck), some (.bl (gueV mc a)), some (.bl (decide (¬ rgV ms p = 0))), en] ∧ KT H H' ∧ MW K H' k m s ms rd m3 ou Y ∧ COk k m.d m.c (N + 130) m3 ∧ lrnM m3 a (decide (¬ rgV ms p = 0)) = brM k (.branch p t) a p ms rd mc, ?_, ?_⟩
  · walk_at "go"
    refine g_ifN (fun h => ?_) (fun h => ?_)
    · have e : brM k (.branch p t) a p ms rd mc = lrnM { wrongM k (mx mc.ck (rdAt rd p) + k.wrong) k.dep.toNat (aftM (.branch p t) a (gueV mc a)) ms rd { gueM mc a with ck := mc.ck + 1 } with ck := mx mc.ck (rdAt rd p) + k.wrong, tr := (wrongM k (mx mc.ck (rdAt rd p) + k.wrong) k.dep.toNat (aftM (.branch p t) a (gueV mc a)) ms rd { gueM mc a with ck := mc.ck + 1 }).tr ++ [.back (mx mc.ck (rdAt rd p) + k.wrong) a] } a (decide (¬ rgV ms p = 0)) := by
        unfold brM
        show lrnM (if gueV mc a = decide (¬ rgV ms p = 0) then _ else _) _ _ = _
        rw [if_neg h]
      walk_at "go"
      refine w_rdy W2 hl (by omega) (by have := hr.1; omega) ?_
      walk_at "go"
      refine ⟨k, m, _, a, gueV mc a, _, rfl, gM, W2.r, hra, ?_⟩
      walk_at "go"
      refine ⟨k, m, s, ms, rd, _, ou, Y, aftM (.branch p t) a (gueV mc a), b, N + 1, cov, _, rfl, hst, W2, c2, by omega, ho, hb, hou, hl, co, aft_lt hr rfl, hd0, hd1, fun H3 k3 W3 => ?_⟩
      have c3 := COk.wrong (en := mx mc.ck (rdAt rd p) + k.wrong) k.dep.toNat (a := aftM (.branch p t) a (gueV mc a)) (ms := ms) (rd := rd) c2
      walk_at "go"
      refine w_ck T W3 (fun H4 k4 W4 => ?_)
      have c4 := c3.ck (x := mx mc.ck (rdAt rd p) + k.wrong)
      obtain ⟨gS, grg, grd, gwd, gM, gO, gP, gC, gd, gc, us, gT⟩ := W4.get_
      walk_at "go"
      refine m_new (.cons (.str _) (.cons (.int _) (.cons (.int _) .nil))) (by simp) (fun q H5 s5 hq im => ?_)
      walk_at "go"
      have hl4 := c4.len
      refine w_ev (e := .back (mx mc.ck (rdAt rd p) + k.wrong) a) (W4.same s5) (Nat.lt_of_le_of_lt hl4 (by omega)) im (fun H6 k6 W6 => ?_)
      walk_at "go"
      exact ⟨_, _, rfl, (((kk2.trans k3).trans k4).trans (KT.of s5)).trans k6, W6, c4.ev.mono (by omega), e.symm⟩
    · have e : brM k (.branch p t) a p ms rd mc = lrnM { gueM mc a with ck := mc.ck + 1 } a (decide (¬ rgV ms p = 0)) := by
        unfold brM
        show lrnM (if gueV mc a = decide (¬ rgV ms p = 0) then _ else _) _ _ = _
        rw [if_pos h]
      walk_at "go"
      exact ⟨_, _, rfl, kk2, W2, c2.mono (by omega), e.symm⟩
  · rintro σ' H3 ⟨m3, en, rfl, k3, W3, c3, e3⟩
    obtain ⟨gS, grg, grd, gwd, gM, gO, gP, gC, gd, gc, us, gT⟩ := W3.get_
    walk_at "go"
    refine w_learn W3 c3.p (fun H4 k4 W4 => ?_)
    walk_at "go"
    rw [e3] at W4
    exact hQ _ (k3.trans k4) W4
theorem ou_work {r : Row} {ms : MS} : ouW r ms false ms.ou = (workS r ms false).ou := by
  cases r <;> rfl
theorem run_stop {k : MK} {n a p : Nat} {ms : MS} {rd : List Int} {mc : MC} (h : k.rows[a]? = some (.stop p)) : runMM k (n + 1) a ms rd mc = (some (rgV ms p), ms, { waitM (.stop p) rd (fetchM k mc a) with tr := (waitM (.stop p) rd (fetchM k mc a)).tr ++ [.stop (waitM (.stop p) rd (fetchM k mc a)).ck] }) := by
  show (match k.rows[a]? with | none => _ | some r => _) = _
  rw [h]
theorem run_br {k : MK} {n a p t : Nat} {ms : MS} {rd : List Int} {mc : MC} (h : k.rows[a]? = some (.branch p t)) : runMM k (n + 1) a ms rd mc = runMM k n (aftM (.branch p t) a (decide (¬ rgV ms p = 0))) ms rd (brM k (.branch p t) a p ms rd (waitM (.branch p t) rd (fetchM k mc a))) := by
  show (match k.rows[a]? with | none => _ | some r => _) = _
  rw [h]
theorem run_wk {k : MK} {n a : Nat} {r : Row} {ms : MS} {rd : List Int} {mc : MC} (h : k.rows[a]? = some r) (hw : wrkR r = true) : runMM k (n + 1) a ms rd mc = runMM k n (aftM r a false) (workS r ms false) (workR k r ms rd (waitM r rd (fetchM k mc a))) { workC r ms false (waitM r rd (fetchM k mc a)) with ck := (waitM r rd (fetchM k mc a)).ck + 1 } := by
  show (match k.rows[a]? with | none => _ | some r => _) = _
  rw [h]
  cases r <;> first | rfl | cases hw
theorem br_inv {r : Row} (h : isBr r = true) : ∃ p t, r = .branch p t := by
  cases r <;> first | (cases h; done) | exact ⟨_, _, rfl⟩
theorem st_inv {r : Row} (h : isStop r = true) : ∃ p, r = .stop p := by
  cases r <;> first | (cases h; done) | exact ⟨_, rfl⟩
def sp_Machine_run (K : PySem.W.Frag) : Sp := fun vs H Q _ => ∃ (k : MK) (m : MA) (s : SA) (ms : MS) (rd : List Int) (mc : MC) (Y : List (Addr × HO)) (b N n : Nat) (cov : Int → Prop), vs = [.ref m.M, .int (n : Int)] ∧ m.St = s.S ∧ MW K H k m s ms rd mc ms.ou Y ∧ COk k m.d m.c N mc ∧ N + 140 * n + 400 < 16000000 ∧ MOk b cov ms ∧ b + n + 200 ≤ 90000 ∧ rd.length = 16 ∧ CodeOk k.rows ∧ 0 ≤ k.dep ∧ k.dep ≤ 64 ∧
  ∀ H' rd' b', KT H H' → MW K H' k m s (runMM k n 0 ms rd mc).2.1 rd' (runMM k n 0 ms rd mc).2.2 (runMM k n 0 ms rd mc).2.1.ou Y → MOk b' cov (runMM k n 0 ms rd mc).2.1 → (runMM k n 0 ms rd mc).2.2.tr.length ≤ 16000000 → b' ≤ 90000 → Q (rsV (runMM k n 0 ms rd mc).1) H'
theorem sc_Machine_run : FnScope ["self", "steps", "at", "step", "row", "taken"] ["self", "steps"] (defScope (inClass (topS 17) 14)) := ⟨rfl, rfl, rfl, by decide +kernel, rfl, by decide +kernel, by decide +kernel⟩
theorem mt_Machine_run (T : Txt fa fn K mg (CsOk cs K w)) : Mt P w K mg base CX0 9 "Machine" "run" ["self", "steps"] (sp_Machine_run K) := by
  refine mk_mt (d := mOf "Machine" "run" "Machine.run" (inClass (topS 17) 14)) T 83 rfl rfl rfl rfl sc_Machine_run (by walk_at "len") (fun _ _ _ _ _ _ us hl => match us, hl with | [_, _], _ => rfl) (fun cdv A outer s H vs Q E hr h => ⟨_, (pss_cons (ps_set (i := 2) sc_Machine_run.nd rfl (.inl rfl) pe_int)
      (pss_cons (ps_for PassesOwn.never rfl (pi_r1 rfl (T.free 131 rfl) (pa_cons (pv 1) pa_nil)) (pg_name (i := 3) sc_Machine_run.nd rfl (.inl rfl)) (pss_cons (ps_set (i := 4) sc_Machine_run.nd rfl (.inl rfl) (pe_ixU (K := K) rfl (hu_of hr) (pe_fldU (K := K) rfl (pv 0) rfl) (pv 2)))
      (pss_cons (ps_expr (pe_methD (K := K) rfl (mt_Machine_fetch T) (cl_Machine T) (T.meth 95 rfl) (hr.mono (by decide)) pass0 (pv 0) (pa_cons (pv 2) pa_nil)))
      (pss_cons (ps_expr (pe_methD (K := K) rfl (mt_Machine_wait T) (cl_Machine T) (T.meth 96 rfl) (hr.mono (by decide)) pass0 (pv 0) (pa_cons (pv 4) (pa_cons (pe_fldU (K := K) rfl (pv 0) rfl) pa_nil))))
      (pss_cons (ps_if (pt_cmpR (op_eqU (K := K) rfl hr.units) (pe_ixU (K := K) rfl (hu_of hr) (pv 4) pe_int) pe_str (nomark _)) (pss_cons (ps_expr (pe_bm PySem.F.plainAttrs_list PySem.F.slot_list_append PySem.F.type_list_append mt_append (pe_fldU (K := K) rfl (pv 0) rfl) (pa_cons (pe_tup (pa_cons pe_str (pa_cons (pe_fldU (K := K) rfl (pv 0) rfl) pa_nil))) pa_nil)))
      (pss_one (ps_ret (pe_ixU (K := K) rfl (hu_of hr) (pe_fldU (K := K) rfl (pe_fldU (K := K) rfl (pv 0) rfl) rfl) (pe_ixU (K := K) rfl (hu_of hr) (pv 4) pe_int))))) pss_nil)
      (pss_cons (ps_set (i := 5) sc_Machine_run.nd rfl (.inl rfl) pe_bl)
      (pss_cons (ps_join (ps_if (pt_cmpR (op_eqU (K := K) rfl hr.units) (pe_ixU (K := K) rfl (hu_of hr) (pv 4) pe_int) pe_str (nomark _)) (pss_one (ps_set (i := 5) sc_Machine_run.nd rfl (.inl rfl) (pe_methD (K := K) rfl (mt_Machine_branch T) (cl_Machine T) (T.meth 104 rfl) (hr.mono (by decide)) pass0 (pv 0) (pa_cons (pv 2) pa_nil)))) (pss_cons (ps_expr (pe_methD (K := K) rfl (mt_Machine_work T) (cl_Machine T) (T.meth 101 rfl) (hr.mono (by decide)) pass0 (pv 0) (pa_cons (pv 4) (pa_cons (pe_fldU (K := K) rfl (pv 0) rfl) (pa_cons pe_bl pa_nil)))))
      (pss_one (ps_fldaug (pv 0) pe_int in_add)))))
      (pss_one (ps_set (i := 2) sc_Machine_run.nd rfl (.inl rfl) (pe_methD (K := K) rfl (mt_Machine_after T) (cl_Machine T) (T.meth 103 rfl) (hr.mono (by decide)) pass0 (pv 0) (pa_cons (pv 2) (pa_cons (pv 5) pa_nil))))))))))))
      (pss_one (ps_ret pe_non)))), ?_⟩)
  obtain ⟨k, m, s, ms, rd, mc, Y, b, N, n, cov, rfl, hst, W, c, hN, ho, hb, hl, co, hd0, hd1, hQ⟩ := h
  generalize hfin : runMM k n 0 ms rd mc = fin at hQ
  walk_at "go"
  rw [Int.toNat_natCast]
  refine f_range (fun i σ H' => ∃ (a : Nat) (ms' : MS) (rd' : List Int) (mc' : MC) (st r tk : Option V), σ = [some (.ref m.M), some (.int (n : Int)), some (.int (a : Int)), st, r, tk] ∧ KT H H' ∧ MW K H' k m s ms' rd' mc' ms'.ou Y ∧ COk k m.d m.c (N + 140 * i) mc' ∧ MOk (b + i) cov ms' ∧ rd'.length = 16 ∧ a < k.rows.length ∧ i ≤ n ∧ runMM k (n - i) a ms' rd' mc' = fin)
    ⟨0, ms, rd, mc, _, _, _, rfl, KT.refl, W, c, ho, hl, co.l, Nat.zero_le _, hfin⟩ ?_ ?_
  · rintro i σ H1 hi ⟨a, ms', rd', mc', st, r0, tk, rfl, k1, W1, c1, o1, l1, ha, hin, hrun⟩
    obtain ⟨q, hq⟩ : ∃ q, n - i = q + 1 := ⟨n - i - 1, by omega⟩
    have hq2 : n - (i + 1) = q := by omega
    rw [hq] at hrun
    have hra : k.rows[a]? = some k.rows[a] := List.getElem?_eq_getElem ha
    generalize k.rows[a] = r at hra
    have hr := co.r a r hra
    obtain ⟨gS, grg, grd, gwd, gM, gO, gP, gC, gd, gc, us, gT⟩ := W1.get_
    have om := o1.m
    walk_at "go"
    refine m_ix W1.r (n := a) rfl (by rw [List.getElem?_map, hra]; rfl) (fun y hy => ?_)
    obtain ⟨ra, rfl, ht⟩ := row_tup hy
    walk_at "go"
    refine ⟨k, m, s, ms', rd', mc', ms'.ou, Y, a, N + 140 * i, rfl, W1, c1, by omega, fun H3 k3 W3 => ?_⟩
    have ht3 := k3 _ _ ht
    have c3 := c1.fetch (a := a)
    obtain ⟨gS, grg, grd, gwd, gM, gO, gP, gC, gd, gc, us, gT⟩ := W3.get_
    walk_at "go"
    rw [hst]
    refine ⟨k, m, s, ms', rd', fetchM k mc' a, ms'.ou, Y, ra, r, k.rows.length, a, rfl, W3, ht3, hr, l1, fun H4 k4 W4 => ?_⟩
    have ht4 := k4 _ _ ht3
    have c4 := c3.wait (r := r) (rd := rd')
    have kk4 := (k1.trans k3).trans k4
    obtain ⟨gS, grg, grd, gwd, gM, gO, gP, gC, gd, gc, us, gT⟩ := W4.get_
    have gSt : H4 m.St = some (stO K s.dx s.rg s.rd s.wd) := by rw [hst]; exact gS
    walk_at "go"
    refine g_ixT (SqT.of ht4) (n := 0) rfl row0 ?_
    walk_at "go"
    refine g_if (fun h4 => ?_) (fun h4 => ?_)
    · obtain ⟨p, rfl⟩ := st_inv (st_nm.mp h4)
      have hp : p < 16 := hr
      rw [run_stop hra] at hrun
      subst hrun
      have ht5 : H4 ra = some (.tup [.str "stop", .int p]) := ht4
      walk_at "go"
      refine m_new (.cons (.str _) (.cons (.int _) .nil)) (by simp) (fun q' H5 s5 hq' im => ?_)
      walk_at "go"
      have l4 := c4.len
      refine w_ev (e := .stop (waitM (.stop p) rd' (fetchM k mc' a)).ck) (W4.same s5) (by omega) im (fun H6 k6 W6 => ?_)
      have ht6 := k6 _ _ (s5 _ _ ht5)
      obtain ⟨gS, grg, grd, gwd, gM, gO, gP, gC, gd, gc, us, gT⟩ := W6.get_
      have gSt : H6 m.St = some (stO K s.dx s.rg s.rd s.wd) := by rw [hst]; exact gS
      walk_at "go"
      refine w_reg W6 o1 hp ?_
      exact hQ H6 rd' _ ((kk4.trans (KT.of s5)).trans k6) W6 o1 (Nat.le_trans (c4.ev (e := .stop (waitM (.stop p) rd' (fetchM k mc' a)).ck)).len (by omega)) (by omega)
    have hs : isStop r = false := by
      cases e : isStop r with
      | false => rfl
      | true => exact absurd (st_nm.mpr e) h4
    generalize hmm : waitM r rd' (fetchM k mc' a) = mm at W4 c4 gM gP gC gd gc
    walk_at "go"
    refine ⟨fun σ' H' => ∃ (ms'' : MS) (rd'' : List Int) (mc'' : MC) (t : Bool), σ' = [some (.ref m.M), some (.int (n : Int)), some (.int (a : Int)), some (.int (0 + (i : Int))), some (.ref ra), some (.bl t)] ∧ KT H H' ∧ MW K H' k m s ms'' rd'' mc'' ms''.ou Y ∧ COk k m.d m.c (N + 140 * (i + 1)) mc'' ∧ MOk (b + i + 1) cov ms'' ∧ rd''.length = 16 ∧ runMM k q (aftM r a t) ms'' rd'' mc'' = fin, ?_, ?_⟩
    · walk_at "go"
      refine g_ixT (SqT.of ht4) (n := 0) rfl row0 ?_
      walk_at "go"
      refine g_if (fun h5 => ?_) (fun h5 => ?_)
      · obtain ⟨p, t, rfl⟩ := br_inv (br_nm.mp h5)
        rw [run_br hra, hmm] at hrun
        walk_at "go"
        refine ⟨k, m, s, ms', rd', mm, ms'.ou, Y, a, p, t, b + i, N + 140 * i + 1, cov, rfl, hst, W4, c4, by omega, o1, by omega, by omega, l1, co, hra, hd0, hd1, fun H5 k5 W5 => ?_⟩
        walk_at "go"
        exact ⟨ms', rd', _, _, rfl, kk4.trans k5, W5, (c4.br hd1).mono (by omega), o1.same, l1, hrun⟩
      · have hbr : isBr r = false := by
          cases e : isBr r with
          | false => rfl
          | true => exact absurd (br_nm.mpr e) h5
        have hw := wrk_of hbr hs
        rw [run_wk hra hw, hmm] at hrun
        walk_at "go"
        rw [hst]
        refine ⟨k, m, s, ms', rd', mm, ms'.ou, Y, ra, r, false, k.rows.length, a, b + i, N + 140 * i + 1, cov, rfl, W4, ht4, hr, hw, l1, o1, by omega, by omega, c4, by omega, fun H5 k5 W5 => ?_⟩
        rw [ou_work] at W5
        obtain ⟨gS, grg, grd, gwd, gM, gO, gP, gC, gd, gc, us, gT⟩ := W5.get_
        walk_at "go"
        dsimp only
        refine g_fldaug ?_
        walk_at "go"
        refine w_ckA (x := 1) T W5 ⟨rfl, rfl⟩ (fun hh z => hh _ _ z) (fun H6 k6 W6 => ?_)
        rw [work_ck] at W6
        walk_at "go"
        exact ⟨_, _, _, false, rfl, (kk4.trans k5).trans k6, W6, (c4.work.ck).mono (by omega), work_ok o1 hr, workR_len l1, hrun⟩
    · rintro σ' H5 ⟨ms'', rd'', mc'', t, rfl, k5, W5, c5, o5, l5, hrun5⟩
      obtain ⟨gS, grg, grd, gwd, gM, gO, gP, gC, gd, gc, us, gT⟩ := W5.get_
      walk_at "go"
      refine ⟨k, m, mc'', a, t, r, rfl, gM, W5.r, hra, ?_⟩
      walk_at "go"
      exact ⟨aftM r a t, ms'', rd'', mc'', _, _, _, rfl, k5, W5, c5, o5, l5, aft_lt hr hs, by omega, by rw [hq2]; exact hrun5⟩
  · rintro σ H1 ⟨a, ms', rd', mc', st, r0, tk, rfl, k1, W1, c1, o1, l1, ha, hin, hrun⟩
    rw [Nat.sub_self] at hrun
    subst hrun
    walk_at "go"
    exact hQ H1 rd' _ k1 W1 o1 (Nat.le_trans c1.len (by omega)) (by omega)


/-! ### how a machine is made -/
inductive Pp
  | data (a : Int)
  | fetch (a : Int)
  | br (a : Nat) (t : Bool)
def Pp.d : Pp → PyData
  | .data a => .tuple [.str "data", .int a]
  | .fetch a => .tuple [.str "fetch", .int a]
  | .br a t => .tuple [.str "branch", nI a, .bool t]
def preM (mc : MC) : Pp → MC
  | .data a => { mc with dc := tcV mc.dc a }
  | .fetch a => { mc with fc := tcV mc.fc a }
  | .br a t => lrnM mc a t
/-- a machine under way: its fields fs -/
abbrev XI (K : PySem.W.Frag) (m : MA) (fs : List (Str × V)) (mc : MC) (Y : List (Addr × HO)) : List (Addr × HO) :=
  [(m.M, .ins (He.ga K "Machine") m.dx fs), (m.P, prO K m.pdx mc.pr.k mc.pr.b mc.pr.h m.C), (m.C, ctO mc.pr.cs)] ++ (CaL K m.d mc.dc ++ (CaL K m.c mc.fc ++ Y))
abbrev fs8 (k : MK) (m : MA) : List (Str × V) := [("rows", m.rv), ("depth", .int k.dep), ("visits", m.vv), ("miss", .int k.miss), ("wrong", .int k.wrong), ("data", .ref m.d.p), ("code", .ref m.c.p), ("predictor", .ref m.P)]
theorem nd8 : (["rows", "depth", "visits", "miss", "wrong", "data", "code", "predictor"] : List Str).Nodup := by decide +kernel
structure PIn (ad ac : CAd) (mc : MC) : Prop where
  d : CWf ad mc.dc
  c : CWf ac mc.fc
  p : PrOk mc.pr.k mc.pr.b mc.pr.h mc.pr.cs
theorem PIn.pre {ad ac : CAd} {mc : MC} (h : PIn ad ac mc) (q : Pp) : PIn ad ac (preM mc q) := by
  cases q with
  | data a => exact ⟨h.d.tc, h.c, h.p⟩
  | fetch a => exact ⟨h.d, h.c.tc, h.p⟩
  | br a t => exact ⟨h.d, h.c, h.p.learn⟩
def sp_Machine_prepare (K : PySem.W.Frag) : Sp := fun vs H Q _ => ∃ (k : MK) (m : MA) (mc : MC) (Y : List (Addr × HO)) (q : Pp) (x : V), vs = [.ref m.M, x] ∧ Has H (XI K m (fs8 k m) mc Y) ∧ PIn m.d m.c mc ∧ Im H x q.d ∧
  ∀ H', KT H H' → Has H' (XI K m (fs8 k m) (preM mc q) Y) → Q .non H'
theorem sc_Machine_prepare : FnScope ["self", "part"] ["self", "part"] (defScope (inClass (topS 17) 1)) := ⟨rfl, rfl, rfl, by decide +kernel, rfl, by decide +kernel, by decide +kernel⟩
theorem mt_Machine_prepare (T : Txt fa fn K mg (CsOk cs K w)) : Mt P w K mg base CX0 4 "Machine" "prepare" ["self", "part"] (sp_Machine_prepare K) := by
  refine mk_mt (d := mOf "Machine" "prepare" "Machine.prepare" (inClass (topS 17) 1)) T 70 rfl rfl rfl rfl sc_Machine_prepare (by walk_at "len") (fun _ _ _ _ _ _ us hl => match us, hl with | [_, _], _ => rfl) (fun cdv A outer s H vs Q E hr h => ⟨_, (pss_one (ps_if (pt_cmpR (op_eqU (K := K) rfl hr.units) (pe_ixU (K := K) rfl (hu_of hr) (pv 1) pe_int) pe_str (nomark _)) (pss_one (ps_expr (pe_methD (K := K) rfl (mt_Cache_touch T) (cl_Cache T) (T.meth 61 rfl) (hr.mono (by decide)) pass0 (pe_fldU (K := K) rfl (pv 0) rfl) (pa_cons (pe_ixU (K := K) rfl (hu_of hr) (pv 1) pe_int) pa_nil)))) (pss_one (ps_if (pt_cmpR (op_eqU (K := K) rfl hr.units) (pe_ixU (K := K) rfl (hu_of hr) (pv 1) pe_int) pe_str (nomark _)) (pss_one (ps_expr (pe_methD (K := K) rfl (mt_Cache_touch T) (cl_Cache T) (T.meth 61 rfl) (hr.mono (by decide)) pass0 (pe_fldU (K := K) rfl (pv 0) rfl) (pa_cons (pe_ixU (K := K) rfl (hu_of hr) (pv 1) pe_int) pa_nil)))) (pss_one (ps_expr (pe_methD (K := K) rfl (mt_Predictor_learn T) (cl_Predictor T) (T.meth 78 rfl) (hr.mono (by decide)) pass0 (pe_fldU (K := K) rfl (pv 0) rfl) (pa_cons (pe_ixU (K := K) rfl (hu_of hr) (pv 1) pe_int) (pa_cons (pe_ixU (K := K) rfl (hu_of hr) (pv 1) pe_int) pa_nil))))))))), ?_⟩)
  obtain ⟨k, m, mc, Y, q, x, rfl, M, ok, hx, hQ⟩ := h
  have gM : H m.M = some (.ins (He.ga K "Machine") m.dx (fs8 k m)) := M.get 0 rfl
  have gd : H m.d.p = some (caO K m.d mc.dc) := M.get 3 rfl
  have gc : H m.c.p = some (caO K m.c mc.fc) := M.is_ (m.c.p, caO K m.c mc.fc) (by
    refine List.mem_append_right _ (List.mem_append_right _ (List.mem_append_left _ ?_))
    exact List.mem_append_left _ List.mem_cons_self)
  have gP : H m.P = some (prO K m.pdx mc.pr.k mc.pr.b mc.pr.h m.C) := M.get 1 rfl
  cases q with
  | data a =>
    obtain ⟨xa, x1, x2, rfl, hxa, i1, i2⟩ := im2 hx
    obtain rfl := i1.str_inv
    obtain rfl := i2.int_inv
    walk_at "go"
    refine g_fld gM (cl_Machine T) (na_Machine_data T) (lk_ix 5 nd8 rfl) ?_
    walk_at "go"
    refine use_touch (X := [(m.M, .ins (He.ga K "Machine") m.dx (fs8 k m)), (m.P, prO K m.pdx mc.pr.k mc.pr.b mc.pr.h m.C), (m.C, ctO mc.pr.cs)]) M ok.d (fun H' kp M' => ?_)
    walk_at "go"
    exact hQ _ (KT.keep kp (ca_noTup M.mid ok.d)) M'
  | fetch a =>
    obtain ⟨xa, x1, x2, rfl, hxa, i1, i2⟩ := im2 hx
    obtain rfl := i1.str_inv
    obtain rfl := i2.int_inv
    have M2 : Has H (([(m.M, .ins (He.ga K "Machine") m.dx (fs8 k m)), (m.P, prO K m.pdx mc.pr.k mc.pr.b mc.pr.h m.C), (m.C, ctO mc.pr.cs)] ++ CaL K m.d mc.dc) ++ (CaL K m.c mc.fc ++ Y)) := by
      rw [List.append_assoc]
      exact M
    walk_at "go"
    refine g_fld gM (cl_Machine T) (na_Machine_code T) (lk_ix 6 nd8 rfl) ?_
    walk_at "go"
    refine use_touch M2 ok.c (fun H' kp M' => ?_)
    walk_at "go"
    rw [List.append_assoc] at M'
    exact hQ _ (KT.keep kp (ca_noTup M2.mid ok.c)) M'
  | br a t =>
    obtain ⟨xa, x1, x2, x3, rfl, hxa, i1, i2, i3⟩ := im3 hx
    obtain rfl := i1.str_inv
    obtain rfl := i2.int_inv
    obtain rfl := i3.bl_inv
    walk_at "go"
    refine g_fld gM (cl_Machine T) (na_Machine_predictor T) (lk_ix 7 nd8 rfl) ?_
    walk_at "go"
    refine use_learn M 1 2 rfl rfl (by decide) ok.p (fun H' kp M' => ?_)
    walk_at "go"
    exact hQ _ (KT.keep kp (NoTup.cons (M.get 1 rfl) (fun _ e => nomatch e) (NoTup.one (M.get 2 rfl) (fun _ e => nomatch e)))) M'
/-- settings -/
structure Cs where
  S : Nat
  W : Nat
  Z : Nat
  P : Str
def Cs.d (c : Cs) : PyData := .tuple [nI c.S, nI c.W, nI c.Z, .str c.P]
structure CsOk1 (c : Cs) : Prop where
  s0 : 0 < c.S
  s1 : c.S ≤ 1000
  w0 : 0 < c.W
  w1 : c.W ≤ 1000
  z0 : 0 < c.Z
  z1 : c.Z ≤ 1000000
inductive Gs
  | taken
  | two (n : Nat)
  | hist (n : Nat)
def Gs.d : Gs → PyData
  | .taken => .tuple [.str "taken"]
  | .two n => .tuple [.str "two", nI n]
  | .hist n => .tuple [.str "history", nI n]
def Gs.pr : Gs → PrS
  | .taken => ⟨"taken", b0V "taken" 0, 0, k0V "taken" 0⟩
  | .two n => ⟨"two", b0V "two" n, 0, k0V "two" n⟩
  | .hist n => ⟨"history", b0V "history" n, 0, k0V "history" n⟩
def GsOk : Gs → Prop
  | .taken => True
  | .two n => 1 ≤ n ∧ n ≤ 64
  | .hist n => 1 ≤ n ∧ n ≤ 6
structure Sett where
  dc : Cs
  fc : Cs
  g : Gs
  dep : Int
  miss : Int
  wrong : Int
  bef : List Pp
  vis : List Vi
def Sett.d (t : Sett) : PyData := .tuple [t.dc.d, t.fc.d, t.g.d, .int t.dep, .tuple [.int t.miss, .int t.wrong], .tuple (t.bef.map Pp.d), .tuple (t.vis.map Vi.d)]
structure SettOk (t : Sett) : Prop where
  dc : CsOk1 t.dc
  fc : CsOk1 t.fc
  g : GsOk t.g
  d0 : 0 ≤ t.dep
  d1 : t.dep ≤ 64
  v : t.vis.length ≤ 1000
def kOf (t : Sett) (rows : List Row) : MK := ⟨rows, t.dep, t.miss, t.wrong, t.vis⟩
def mc00 (t : Sett) : MC := ⟨c0V t.dc.S t.dc.W t.dc.Z t.dc.P, c0V t.fc.S t.fc.W t.fc.Z t.fc.P, t.g.pr, 0, 0, 0, []⟩
def mc0 (t : Sett) : MC := t.bef.foldl preM (mc00 t)
theorem pre_keep (mc : MC) (q : Pp) : (preM mc q).ck = mc.ck ∧ (preM mc q).fe = mc.fe ∧ (preM mc q).vi = mc.vi ∧ (preM mc q).tr = mc.tr := by
  cases q <;> exact ⟨rfl, rfl, rfl, rfl⟩
theorem pres_keep : ∀ (l : List Pp) (mc : MC), (l.foldl preM mc).ck = mc.ck ∧ (l.foldl preM mc).fe = mc.fe ∧ (l.foldl preM mc).vi = mc.vi ∧ (l.foldl preM mc).tr = mc.tr
  | [], mc => ⟨rfl, rfl, rfl, rfl⟩
  | q :: l, mc => by
    obtain ⟨h1, h2, h3, h4⟩ := pres_keep l (preM mc q)
    obtain ⟨g1, g2, g3, g4⟩ := pre_keep mc q
    exact ⟨h1.trans g1, h2.trans g2, h3.trans g3, h4.trans g4⟩
theorem pr_in {g : Gs} (h : GsOk g) : PrOk g.pr.k g.pr.b g.pr.h g.pr.cs := by
  cases g with
  | taken => exact pr_start (.taken)
  | two n => exact pr_start (.two n (by have := h.1; omega) (by have := h.2; omega))
  | hist n => exact pr_start (.hist n (by have := h.1; omega) (by have := h.2; omega))
theorem gs_tup {H : Hp} {x : V} {g : Gs} (h : Im H x g.d) (ok : GsOk g) : ∃ a xs n, x = .ref a ∧ H a = some (.tup xs) ∧ PSet_ g.pr.k n xs ∧ g.pr = ⟨g.pr.k, b0V g.pr.k n, 0, k0V g.pr.k n⟩ := by
  cases g with
  | taken =>
    obtain ⟨a, x1, rfl, h1, i1⟩ := im1 h
    obtain rfl := i1.str_inv
    exact ⟨a, _, 0, rfl, h1, .taken, rfl⟩
  | two n =>
    obtain ⟨a, x1, x2, rfl, h1, i1, i2⟩ := im2 h
    obtain rfl := i1.str_inv
    obtain rfl := i2.int_inv
    have := ok.1
    have := ok.2
    exact ⟨a, _, n, rfl, h1, .two n (by omega) (by omega), rfl⟩
  | hist n =>
    obtain ⟨a, x1, x2, rfl, h1, i1, i2⟩ := im2 h
    obtain rfl := i1.str_inv
    obtain rfl := i2.int_inv
    have := ok.1
    have := ok.2
    exact ⟨a, _, n, rfl, h1, .hist n (by omega) (by omega), rfl⟩
theorem cs_tup {H : Hp} {x : V} {c : Cs} (h : Im H x c.d) : ∃ a, x = .ref a ∧ H a = some (.tup [.int c.S, .int c.W, .int c.Z, .str c.P]) := by
  obtain ⟨a, x1, x2, x3, x4, rfl, h1, i1, i2, i3, i4⟩ := im4 h
  obtain rfl := i1.int_inv
  obtain rfl := i2.int_inv
  obtain rfl := i3.int_inv
  obtain rfl := i4.str_inv
  exact ⟨a, rfl, h1⟩
theorem im7 {H : Hp} {x : V} {d1 d2 d3 d4 d5 d6 d7 : PyData} (h : Im H x (.tuple [d1, d2, d3, d4, d5, d6, d7])) : ∃ a x1 x2 x3 x4 x5 x6 x7, x = .ref a ∧ H a = some (.tup [x1, x2, x3, x4, x5, x6, x7]) ∧ Im H x1 d1 ∧ Im H x2 d2 ∧ Im H x3 d3 ∧ Im H x4 d4 ∧ Im H x5 d5 ∧ Im H x6 d6 ∧ Im H x7 d7 := by
  obtain ⟨a, xs, rfl, h1, h2⟩ := h.tup_inv
  obtain ⟨x1, r, rfl, i1, h2⟩ := h2.cons_inv
  obtain ⟨x2, r, rfl, i2, h2⟩ := h2.cons_inv
  obtain ⟨x3, r, rfl, i3, h2⟩ := h2.cons_inv
  obtain ⟨x4, r, rfl, i4, h2⟩ := h2.cons_inv
  obtain ⟨x5, r, rfl, i5, h2⟩ := h2.cons_inv
  obtain ⟨x6, r, rfl, i6, h2⟩ := h2.cons_inv
  obtain ⟨x7, r, rfl, i7, h2⟩ := h2.cons_inv
  rw [h2.nil_inv] at h1
  exact ⟨a, x1, x2, x3, x4, x5, x6, x7, rfl, h1, i1, i2, i3, i4, i5, i6, i7⟩
theorem permI {α : Type} {a p c : α} {Y D E : List α} : (((((a :: Y) ++ D) ++ E) ++ [p]) ++ [c]).Perm ([a, p, c] ++ (D ++ (E ++ Y))) := by
  have e : ((((a :: Y) ++ D) ++ E) ++ [p]) ++ [c] = a :: (Y ++ ((D ++ E) ++ [p, c])) := by simp
  have e2 : [a, p, c] ++ (D ++ (E ++ Y)) = a :: (([p, c] ++ (D ++ E)) ++ Y) := by simp
  rw [e, e2]
  refine List.Perm.cons a ?_
  exact (List.perm_append_comm (l₁ := Y)).trans ((List.perm_append_comm (l₁ := D ++ E) (l₂ := [p, c])).append_right Y)
theorem perm9 {α : Type} {x m p c a b w o t : α} {Z : List α} : ((x :: (((([m, p, c] ++ Z) ++ [a]) ++ [b]) ++ [w])) ++ [o] ++ [t]).Perm ([x, a, b, w, m, o, t, p, c] ++ Z) := by
  have e : (x :: (((([m, p, c] ++ Z) ++ [a]) ++ [b]) ++ [w])) ++ [o] ++ [t] = x :: ([m, p, c] ++ (Z ++ [a, b, w, o, t])) := by simp
  have e2 : [x, a, b, w, m, o, t, p, c] ++ Z = x :: (([a, b, w] ++ ([m] ++ ([o, t] ++ [p, c]))) ++ Z) := by simp
  rw [e, e2]
  refine List.Perm.cons x ?_
  have h1 : ([m, p, c] ++ (Z ++ [a, b, w, o, t])).Perm (([m, p, c] ++ [a, b, w, o, t]) ++ Z) := by
    rw [List.append_assoc]
    exact (List.perm_append_comm (l₁ := Z)).append_left _
  refine h1.trans (List.Perm.append_right Z ?_)
  have e3 : [m, p, c] ++ [a, b, w, o, t] = ([m, p, c] ++ [a, b, w]) ++ [o, t] := rfl
  rw [e3]
  refine ((List.perm_append_comm (l₁ := [m, p, c])).append_right _).trans ?_
  show ([a, b, w] ++ ([m] ++ ([p, c] ++ [o, t]))).Perm _
  exact ((List.perm_append_comm (l₁ := [p, c])).append_left [m]).append_left [a, b, w]
def sp_Machine___init__ (K : PySem.W.Frag) : Sp := fun vs H Q _ => ∃ (x dx : Addr) (code cont sv : V) (t : Sett) (rows : List Row) (rgs : List Rg) (cs : List (List Int)) (Y : List (Addr × HO)), vs = [.ref x, code, cont, sv] ∧ Has H ((x, .ins (He.ga K "Machine") dx []) :: Y) ∧ Im H code (codeD rgs rows) ∧ Im H cont (contD cs) ∧ MemOk rgs cs ∧ Im H sv t.d ∧ SettOk t ∧
  ∀ H' m s, KT H H' → m.M = x → m.St = s.S → MW K H' (kOf t rows) m s (ms0 rgs cs) (List.replicate 16 0) (mc0 t) [] Y → PIn m.d m.c (mc0 t) → Q .non H'
theorem i_fld {H : Hp} {L : List (Addr × HO)} {x dx C : Addr} {fs : List (Str × V)} {f : Str} {y : V} {R : Hp → Prop} (M : Has H ((x, .ins C dx fs) :: L)) (cl : Cls K C) (na : NoAttr K C f) (hl : fs.length < 1000) (hn : f ∉ fs.map (·.1)) (q : ∀ H', KT H H' → Has H' ((x, .ins C dx (fs ++ [(f, y)])) :: L) → R H') : rSFld K f (.ref x) y H R :=
  g_setF M 0 rfl cl na hl (pt_new hn) (fun M1 => q _ (KT.set (M.get 0 rfl) (fun _ e => nomatch e)) M1)
theorem i_fldN {H : Hp} {L : List (Addr × HO)} {x dx C : Addr} {fs : List (Str × V)} {f : Str} {y : V} {R : Hp → Prop} (M : Has H L) (n : Nat) (he : L[n]? = some (x, .ins C dx fs)) (cl : Cls K C) (na : NoAttr K C f) (hl : fs.length < 1000) (hn : f ∉ fs.map (·.1)) (q : ∀ H', KT H H' → Has H' (L.set n (x, .ins C dx (fs ++ [(f, y)]))) → R H') : rSFld K f (.ref x) y H R :=
  g_setF M n he cl na hl (pt_new hn) (fun M1 => q _ (KT.set (M.get n he) (fun _ e => nomatch e)) M1)
theorem sc_Machine___init__ : FnScope ["self", "code", "contents", "settings", "data", "fetch", "guess", "costs", "before", "part"] ["self", "code", "contents", "settings"] (defScope (inClass (topS 17) 0)) := ⟨rfl, rfl, rfl, by decide +kernel, rfl, by decide +kernel, by decide +kernel⟩
theorem mt_Machine___init__ (T : Txt fa fn K mg (CsOk cs K w)) : Mt P w K mg base CX0 5 "Machine" "__init__" ["self", "code", "contents", "settings"] (sp_Machine___init__ K) := by
  refine mk_mt (d := mOf "Machine" "__init__" "Machine.__init__" (inClass (topS 17) 0)) T 69 rfl rfl rfl rfl sc_Machine___init__ (by walk_at "len") (fun _ _ _ _ _ _ us hl => match us, hl with | [_, _, _, _], _ => rfl) (fun cdv A outer s H vs Q E hr h => ⟨_, (pss_cons (ps_fldU (K := K) rfl (pv 0) (pe_ixU (K := K) rfl (hu_of hr) (pv 1) pe_int) rfl)
      (pss_cons (ps_asg (pv 3) (pg_tup rfl (pgs_cons (pg_name (i := 4) sc_Machine___init__.nd rfl (.inl rfl)) (pgs_cons (pg_name (i := 5) sc_Machine___init__.nd rfl (.inl rfl)) (pgs_cons (pg_name (i := 6) sc_Machine___init__.nd rfl (.inl rfl)) (pgs_cons (pg_fldU (K := K) rfl (pv 0)) (pgs_cons (pg_name (i := 7) sc_Machine___init__.nd rfl (.inl rfl)) (pgs_cons (pg_name (i := 8) sc_Machine___init__.nd rfl (.inl rfl)) (pgs_cons (pg_fldU (K := K) rfl (pv 0)) pgs_nil)))))))))
      (pss_cons (ps_asg (pv 7) (pg_tup rfl (pgs_cons (pg_fldU (K := K) rfl (pv 0)) (pgs_cons (pg_fldU (K := K) rfl (pv 0)) pgs_nil))))
      (pss_cons (ps_fldU (K := K) rfl (pv 0) (pe_makeD (K := K) rfl (mt_Cache___init__ T) (T.mkr 58 rfl) (hr.mono (by decide)) rfl (T.glo 53 rfl) pass0 (pa_cons (pv 4) pa_nil)) rfl)
      (pss_cons (ps_fldU (K := K) rfl (pv 0) (pe_makeD (K := K) rfl (mt_Cache___init__ T) (T.mkr 58 rfl) (hr.mono (by decide)) rfl (T.glo 53 rfl) pass0 (pa_cons (pv 5) pa_nil)) rfl)
      (pss_cons (ps_fldU (K := K) rfl (pv 0) (pe_makeD (K := K) rfl (mt_Predictor___init__ T) (T.mkr 75 rfl) (hr.mono (by decide)) rfl (T.glo 54 rfl) pass0 (pa_cons (pv 6) pa_nil)) rfl)
      (pss_cons (ps_for PassesOwn.never rfl (pi_seq (K := K) rfl (pv 8)) (pg_name (i := 9) sc_Machine___init__.nd rfl (.inl rfl)) (pss_one (ps_expr (pe_methD (K := K) rfl (mt_Machine_prepare T) (cl_Machine T) (T.meth 93 rfl) (hr.mono (by decide)) pass0 (pv 0) (pa_cons (pv 9) pa_nil)))))
      (pss_cons (ps_fldU (K := K) rfl (pv 0) (pe_makeD (K := K) rfl (mt_State___init__ T) (T.mkr 84 rfl) (hr.mono (by decide)) rfl (T.glo 55 rfl) pass0 (pa_cons (pe_op op_mulU (pe_lst (pa_cons pe_int pa_nil)) pe_int) (pa_cons (pe_op op_mulU (pe_lst (pa_cons pe_int pa_nil)) pe_int) (pa_cons (pe_callD (K := K) rfl (ok_words_of T) (hr.mono (by decide)) rfl pass0 (pa_cons (pv 1) (pa_cons (pv 2) pa_nil))) pa_nil)))) rfl)
      (pss_cons (ps_fldU (K := K) rfl (pv 0) pe_int rfl)
      (pss_cons (ps_fldU (K := K) rfl (pv 0) pe_int rfl)
      (pss_cons (ps_fldU (K := K) rfl (pv 0) pe_int rfl)
      (pss_cons (ps_fldU (K := K) rfl (pv 0) (pe_lst pa_nil) rfl)
      (pss_one (ps_fldU (K := K) rfl (pv 0) (pe_lst pa_nil) rfl)))))))))))))), ?_⟩)
  obtain ⟨x, dx, code, cont, sv, t, rows, rgs, cs, Y, rfl, M, ic, ik, mo, is, so, hQ⟩ := h
  obtain ⟨sa, v1, v2, v3, v4, v5, v6, v7, rfl, hsv, j1, j2, j3, j4, j5, j6, j7⟩ := im7 is
  obtain ⟨ca, rfl, hca⟩ := cs_tup j1
  obtain ⟨fa', rfl, hfa⟩ := cs_tup j2
  obtain ⟨ga, gx, gn, rfl, hga, hset, hpr⟩ := gs_tup j3 so.g
  obtain rfl := j4.int_inv
  obtain ⟨co, c1, c2, rfl, hco, i1, i2⟩ := im2 j5
  obtain rfl := i1.int_inv
  obtain rfl := i2.int_inv
  walk_at "go"
  refine m_ix ic (n := 1) rfl rfl (fun rv hrv => ?_)
  walk_at "go"
  refine i_fld M (cl_Machine T) (na_Machine_rows T) (by decide) nf_Machine_rows (fun H1 t1 M1 => ?_)
  have hsv1 := t1 _ _ hsv
  walk_at "go"
  refine i_fld M1 (cl_Machine T) (na_Machine_depth T) (by show 1 < 1000; decide) nf_Machine_depth (fun H2 t2 M2 => ?_)
  walk_at "go"
  refine i_fld M2 (cl_Machine T) (na_Machine_visits T) (by show 2 < 1000; decide) nf_Machine_visits (fun H3 t3 M3 => ?_)
  have k3 := (t1.trans t2).trans t3
  have hco3 := k3 _ _ hco
  walk_at "go"
  refine i_fld M3 (cl_Machine T) (na_Machine_miss T) (by show 3 < 1000; decide) nf_Machine_miss (fun H4 t4 M4 => ?_)
  walk_at "go"
  refine i_fld M4 (cl_Machine T) (na_Machine_wrong T) (by show 4 < 1000; decide) nf_Machine_wrong (fun H5 t5 M5 => ?_)
  have k5 := (k3.trans t4).trans t5
  walk_at "go"
  intro x1 dx1 hx1 hdx1 hne1
  refine use_cache M5 hx1 hdx1 (k5 _ _ hca) so.dc.s0 so.dc.s1 so.dc.w0 so.dc.w1 so.dc.z0 so.dc.z1 (fun H6 cd e6 s6 M6 wf6 => ?_)
  subst e6
  have k6 := k5.trans (KT.of s6)
  walk_at "go"
  refine i_fld M6 (cl_Machine T) (na_Machine_data T) (by show 5 < 1000; decide) nf_Machine_data (fun H7 t7 M7 => ?_)
  have k7 := k6.trans t7
  walk_at "go"
  intro x2 dx2 hx2 hdx2 hne2
  refine use_cache M7 hx2 hdx2 (k7 _ _ hfa) so.fc.s0 so.fc.s1 so.fc.w0 so.fc.w1 so.fc.z0 so.fc.z1 (fun H8 cc e8 s8 M8 wf8 => ?_)
  subst e8
  have k8 := k7.trans (KT.of s8)
  walk_at "go"
  refine i_fld M8 (cl_Machine T) (na_Machine_code T) (by show 6 < 1000; decide) nf_Machine_code (fun H9 t9 M9 => ?_)
  have k9 := k8.trans t9
  walk_at "go"
  intro x3 dx3 hx3 hdx3 hne3
  refine use_init M9 hx3 hdx3 (k9 _ _ hga) hset (fun H10 pc s10 M10 => ?_)
  have k10 := k9.trans (KT.of s10)
  walk_at "go"
  refine i_fld M10 (cl_Machine T) (na_Machine_predictor T) (by show 7 < 1000; decide) nf_Machine_predictor (fun H11 t11 M11 => ?_)
  have k11 := k10.trans t11
  obtain ⟨m, hm1, hm2, hm3, hm4, hm5, hm6, hm7, hm8, hm9⟩ : ∃ m : MA, m.M = x ∧ m.dx = dx ∧ m.P = x3 ∧ m.pdx = dx3 ∧ m.C = pc ∧ m.rv = rv ∧ m.vv = v7 ∧ m.d = cd ∧ m.c = cc := ⟨⟨x, dx, x, x, x, x3, dx3, pc, rv, v7, cd, cc⟩, rfl, rfl, rfl, rfl, rfl, rfl, rfl, rfl, rfl⟩
  subst hm1 hm2 hm3 hm4 hm5 hm6 hm7 hm8 hm9
  have M12 : Has H11 (XI K m (fs8 (kOf t rows) m) (mc00 t) Y) := by
    have e : (mc00 t).pr = ⟨t.g.pr.k, b0V t.g.pr.k gn, 0, k0V t.g.pr.k gn⟩ := hpr
    show Has H11 ([(m.M, .ins (He.ga K "Machine") m.dx (fs8 (kOf t rows) m)), (m.P, prO K m.pdx (mc00 t).pr.k (mc00 t).pr.b (mc00 t).pr.h m.C), (m.C, ctO (mc00 t).pr.cs)] ++ _)
    rw [e]
    exact M11.perm permI
  have pin : PIn m.d m.c (mc00 t) := ⟨wf6, wf8, pr_in so.g⟩
  walk_at "go"
  refine m_seq (j6.kt k11) (fun ba bx e hba hbs => ?_)
  subst e
  have hbl := hbs.length
  rw [List.length_map] at hbl
  refine f_tup (xs := bx) (fun i σ H' => ∃ (q : Option V), σ = [some (.ref m.M), some code, some cont, some (.ref sa), some (.ref ca), some (.ref fa'), some (.ref ga), some (.ref co), some (.ref ba), q] ∧ KT H11 H' ∧ Has H' (XI K m (fs8 (kOf t rows) m) ((t.bef.take i).foldl preM (mc00 t)) Y) ∧ PIn m.d m.c ((t.bef.take i).foldl preM (mc00 t))) ⟨_, rfl, KT.refl, M12, pin⟩ ?_ ?_ ?_
  · rintro i σ H' hi ⟨q, rfl, kt, MM, pp⟩
    exact SqT.of (kt _ _ hba)
  · rintro i y σ H' hi ⟨q, rfl, kt, MM, pp⟩
    obtain ⟨hlt, hy⟩ := List.getElem?_eq_some_iff.mp hi
    have hq : t.bef[i]? = some (t.bef[i]'(by omega)) := List.getElem?_eq_getElem _
    generalize t.bef[i]'(by omega) = pq at hq
    obtain ⟨y', hy', hiy⟩ := hbs.get (n := i) (d := pq.d) (by rw [List.getElem?_map, hq]; rfl)
    rw [hi] at hy'
    cases hy'
    have gM : H' m.M = some (.ins (He.ga K "Machine") m.dx (fs8 (kOf t rows) m)) := MM.get 0 rfl
    walk_at "go"
    refine g_rcv (m := "prepare") gM (lk_none (by show ("prepare" : Str) ∉ (["rows", "depth", "visits", "miss", "wrong", "data", "code", "predictor"] : List Str); decide +kernel)) ?_
    walk_at "go"
    refine ⟨kOf t rows, m, _, Y, pq, y, rfl, MM, pp, hiy.kt kt, fun H2 k2 M2 => ?_⟩
    walk_at "go"
    have ef : (t.bef.take (i + 1)).foldl preM (mc00 t) = preM ((t.bef.take i).foldl preM (mc00 t)) pq := foldl_take_succ hq
    refine ⟨_, rfl, kt.trans k2, ?_, ?_⟩
    · rw [ef]
      exact M2
    · rw [ef]
      exact pp.pre pq
  · rintro σ H12 ⟨q, rfl, kt, MM, pp⟩
    rw [hbl, List.take_length] at MM pp
    have MM : Has H12 (XI K m (fs8 (kOf t rows) m) (mc0 t) Y) := MM
    have pp : PIn m.d m.c (mc0 t) := pp
    obtain ⟨hck, hfe, hvi, htr⟩ := pres_keep t.bef (mc00 t)
    have hck : (mc0 t).ck = 0 := hck
    have hfe : (mc0 t).fe = 0 := hfe
    have hvi : (mc0 t).vi = 0 := hvi
    have htr : (mc0 t).tr = [] := htr
    have k12 := k11.trans kt
    generalize mc0 t = mc at MM pp hck hfe hvi htr hQ
    walk_at "go"
    refine ⟨by decide, fun u1 hu1 => ?_⟩
    walk_at "go"
    refine g_repI (x := 0) upd_same (by decide) (by decide) (fun rg hrg => ?_)
    have S2 := (Same.new (o := .lst [.int 0]) hu1).trans (Same.new (o := .lst ((List.replicate (16 : Int).toNat 0).map V.int)) hrg)
    have M13 := (MM.keep (Same.new (o := .lst [.int 0]) hu1)).new (o := .lst ((List.replicate (16 : Int).toNat 0).map V.int)) hrg
    generalize upd (upd H12 u1 (.lst [.int 0])) rg (.lst ((List.replicate (16 : Int).toNat 0).map V.int)) = H13 at S2 M13
    walk_at "go"
    refine ⟨by decide, fun u2 hu2 => ?_⟩
    walk_at "go"
    refine g_repI (x := 0) upd_same (by decide) (by decide) (fun rd hrd => ?_)
    have S3 := (Same.new (o := .lst [.int 0]) hu2).trans (Same.new (o := .lst ((List.replicate (16 : Int).toNat 0).map V.int)) hrd)
    have M14 := (M13.keep (Same.new (o := .lst [.int 0]) hu2)).new (o := .lst ((List.replicate (16 : Int).toNat 0).map V.int)) hrd
    generalize upd (upd H13 u2 (.lst [.int 0])) rd (.lst ((List.replicate (16 : Int).toNat 0).map V.int)) = H14 at S3 M14
    have k14 := (k12.trans (KT.of S2)).trans (KT.of S3)
    walk_at "go"
    refine ⟨code, cont, rgs, cs, rows, rfl, ic.kt k14, ik.kt k14, mo, fun H15 wd s15 hwd hwd5 => ?_⟩
    have M15 := has_add M14 s15 hwd hwd5
    have k15 := k14.trans (KT.of s15)
    walk_at "go"
    intro sx dx' hsx hdx' hne
    have hsx' : upd H15 dx' (.own sx) sx = none := by
      rw [upd_ne (Ne.symm hne)]
      exact hsx
    have M16 : Has (made H15 sx dx' (He.ga K "State")) _ := ((M15.new (o := .own sx) hdx').new (o := .ins (He.ga K "State") dx' []) hsx').perm (List.perm_append_comm (l₂ := [_]))
    have s16 : Same H15 (made H15 sx dx' (He.ga K "State")) := made_same hsx hdx'
    refine ⟨sx, dx', rg, rd, wd, _, rfl, M16, fun M17 => ⟨rfl, ?_⟩⟩
    have s17 := Same.mut (o := stO K dx' rg rd wd) s16 hsx
    have k17 := k15.trans (KT.of s17)
    have M18 := M17.sub (L' := (sx, stO K dx' rg rd wd) :: ((((XI K m (fs8 (kOf t rows) m) mc Y) ++ [(rg, HO.lst ((List.replicate (16 : Int).toNat 0).map V.int))]) ++ [(rd, HO.lst ((List.replicate (16 : Int).toNat 0).map V.int))]) ++ [(wd, HO.dK (mem rgs cs))])) (.cons₂ _ (List.sublist_append_left _ _))
    walk_at "go"
    refine i_fldN M18 1 rfl (cl_Machine T) (na_Machine_state T) (by show 8 < 1000; decide) nf_Machine_state (fun H19 k19 M19 => ?_)
    walk_at "go"
    refine i_fldN M19 1 rfl (cl_Machine T) (na_Machine_clock T) (by show 9 < 1000; decide) nf_Machine_clock (fun H20 k20 M20 => ?_)
    walk_at "go"
    refine i_fldN M20 1 rfl (cl_Machine T) (na_Machine_fetches T) (by show 10 < 1000; decide) nf_Machine_fetches (fun H21 k21 M21 => ?_)
    walk_at "go"
    refine i_fldN M21 1 rfl (cl_Machine T) (na_Machine_visited T) (by show 11 < 1000; decide) nf_Machine_visited (fun H22 k22 M22 => ?_)
    walk_at "go"
    refine ⟨by decide, fun o ho => ?_⟩
    have k23 : KT H22 (upd H22 o (.lst [])) := KT.new ho
    have M23 := M22.new (o := .lst []) ho
    generalize upd H22 o (.lst []) = H23 at k23 M23
    walk_at "go"
    refine i_fldN M23 1 rfl (cl_Machine T) (na_Machine_outs T) (by show 12 < 1000; decide) nf_Machine_outs (fun H24 k24 M24 => ?_)
    walk_at "go"
    refine ⟨by decide, fun tq htq => ?_⟩
    have k25 : KT H24 (upd H24 tq (.lst [])) := KT.new htq
    have M25 := M24.new (o := .lst []) htq
    generalize upd H24 tq (.lst []) = H25 at k25 M25
    walk_at "go"
    refine i_fldN M25 1 rfl (cl_Machine T) (na_Machine_trace T) (by show 13 < 1000; decide) nf_Machine_trace (fun H26 k26 M26 => ?_)
    have kz := ((((((((k17.trans k19).trans k20).trans k21).trans k22).trans k23).trans k24).trans k25).trans k26)
    walk_at "go"
    refine hQ H26 { m with St := sx, O := o, T := tq } ⟨sx, dx', rg, rd, wd⟩ kz rfl rfl ⟨⟨[], ?_, ?_⟩, hrv.kt kz, j7.kt kz⟩ pp
    · have e : maO K (kOf t rows) { m with St := sx, O := o, T := tq } mc = .ins (He.ga K "Machine") m.dx (fs_Machine m.rv (.int t.dep) m.vv (.int t.miss) (.int t.wrong) (.ref m.d.p) (.ref m.c.p) (.ref m.P) (.ref sx) (.int 0) (.int 0) (.int 0) (.ref o) (.ref tq)) := by
        show HO.ins _ _ (fs_Machine _ _ _ _ _ _ _ _ _ (.int mc.ck) (.int mc.fe) (.int (mc.vi : Int)) _ _) = _
        rw [hck, hfe, hvi]
        rfl
      show Has H26 ([(sx, stO K dx' rg rd wd), (rg, .lst ((ms0 rgs cs).rg.map V.int)), (rd, .lst ((List.replicate 16 (0 : Int)).map V.int)), (wd, .dK (ms0 rgs cs).wd), (m.M, maO K (kOf t rows) { m with St := sx, O := o, T := tq } mc), (o, .lst (([] : List Int).map V.int)), (tq, .lst []), (m.P, prO K m.pdx mc.pr.k mc.pr.b mc.pr.h m.C), (m.C, ctO mc.pr.cs)] ++ (CaL K m.d mc.dc ++ (CaL K m.c mc.fc ++ Y)))
      rw [e]
      exact M26.perm perm9
    · rw [htr]
      exact .nil
def machD (rgs : List Rg) (p : Option Int × MS × MC) : List PyData := [.tuple (p.2.1.ou.map .int), rsD p.1, .tuple (heldD rgs p.2.1), .tuple (p.2.2.tr.map Ev.d)]
def machR (t : Sett) (rows : List Row) (rgs : List Rg) (cs : List (List Int)) (n : Nat) : Option Int × MS × MC := runMM (kOf t rows) n 0 (ms0 rgs cs) (List.replicate 16 0) (mc0 t)
def sp_run_machine (K : PySem.W.Frag) : Sp := fun vs H Q _ => ∃ (code cont sv : V) (n : Nat) (t : Sett) (rows : List Row) (rgs : List Rg) (cs : List (List Int)) (Y : List (Addr × HO)), vs = [code, cont, sv, .int (n : Int)] ∧ Has H Y ∧ Im H code (codeD rgs rows) ∧ Im H cont (contD cs) ∧ MemOk rgs cs ∧ CodeOk rows ∧ Im H sv t.d ∧ SettOk t ∧ n ≤ 2500 ∧
  ∀ H' v, KT H H' → Has H' Y → Im H' v (.tuple (machD rgs (machR t rows rgs cs n))) → (machR t rows rgs cs n).2.2.tr.length ≤ 16000000 → (machR t rows rgs cs n).2.1.ou.length ≤ 90000 → Q v H'
theorem sc_run_machine : FnScope ["code", "contents", "settings", "steps", "machine", "result"] ["code", "contents", "settings", "steps"] (defScope (topS 18)) := ⟨rfl, rfl, rfl, by decide +kernel, rfl, by decide +kernel, by decide +kernel⟩
theorem ok_run_machine (T : Txt fa fn K mg (CsOk cs K w)) : Dn P w K mg base CX0 10 "run_machine" ["code", "contents", "settings", "steps"] (sp_run_machine K) := by
  refine mk_dn (d := dOf "run_machine" 18) T 7 7 rfl rfl rfl rfl rfl sc_run_machine (by walk_at "len") (fun _ _ _ _ _ _ us hl => match us, hl with | [_, _, _, _], _ => rfl) (fun cdv A outer s H vs Q E hr h => ⟨_, (pss_cons (ps_set (i := 4) sc_run_machine.nd rfl (.inl rfl) (pe_makeD (K := K) rfl (mt_Machine___init__ T) (T.mkr 92 rfl) (hr.mono (by decide)) rfl (T.glo 56 rfl) pass0 (pa_cons (pv 0) (pa_cons (pv 1) (pa_cons (pv 2) pa_nil)))))
      (pss_cons (ps_set (i := 5) sc_run_machine.nd rfl (.inl rfl) (pe_methD (K := K) rfl (mt_Machine_run T) (cl_Machine T) (T.meth 106 rfl) (hr.mono (by decide)) pass0 (pv 4) (pa_cons (pv 3) pa_nil)))
      (pss_one (ps_ret (pe_tup (pa_cons (pe_callTy (c_tuple (K := K) rfl) rfl (T.free 135 rfl) (by decide +kernel) (pa_cons (pe_fldU (K := K) rfl (pv 4) rfl) pa_nil)) (pa_cons (pv 5) (pa_cons (pe_methD (K := K) rfl (mt_State_contents T) (cl_State T) (T.meth 87 rfl) (hr.mono (by decide)) pass0 (pe_fldU (K := K) rfl (pv 4) rfl) (pa_cons (pe_ixU (K := K) rfl (hu_of hr) (pv 0) pe_int) pa_nil)) (pa_cons (pe_callTy (c_tuple (K := K) rfl) rfl (T.free 135 rfl) (by decide +kernel) (pa_cons (pe_fldU (K := K) rfl (pv 4) rfl) pa_nil)) pa_nil))))))))), ?_⟩)
  obtain ⟨code, cont, sv, n, t, rows, rgs, cs, Y, rfl, MY, ic, ik, mo, co, is, so, hn, hQ⟩ := h
  have hQ : ∀ H' v, KT H H' → Has H' Y → Im H' v (.tuple (machD rgs (runMM (kOf t rows) n 0 (ms0 rgs cs) (List.replicate 16 0) (mc0 t)))) → (runMM (kOf t rows) n 0 (ms0 rgs cs) (List.replicate 16 0) (mc0 t)).2.2.tr.length ≤ 16000000 → (runMM (kOf t rows) n 0 (ms0 rgs cs) (List.replicate 16 0) (mc0 t)).2.1.ou.length ≤ 90000 → Q v H' := hQ
  walk_at "go"
  intro x dx hx hdx hne
  have hx' : upd H dx (.own x) x = none := by
    rw [upd_ne (Ne.symm hne)]
    exact hx
  have M1 : Has (made H x dx (He.ga K "Machine")) _ := ((MY.new (o := .own x) hdx).new (o := .ins (He.ga K "Machine") dx []) hx').perm (List.perm_append_comm (l₂ := [_]))
  have M2 := M1.sub (L' := (x, .ins (He.ga K "Machine") dx []) :: Y) (.cons₂ _ (List.sublist_append_left _ _))
  have k1 : KT H (made H x dx (He.ga K "Machine")) := KT.of (made_same hx hdx)
  refine ⟨x, dx, code, cont, sv, t, rows, rgs, cs, Y, rfl, M2, ic.kt k1, ik.kt k1, mo, is.kt k1, so, fun H2 m s k2 hm hst W pin => ⟨rfl, ?_⟩⟩
  subst hm
  obtain ⟨hck, hfe, hvi, htr⟩ := pres_keep t.bef (mc00 t)
  have c0 : COk (kOf t rows) m.d m.c 1000 (mc0 t) := ⟨pin.d, pin.c, pin.p, by
    have : (mc0 t).vi = 0 := hvi
    omega, by
    have e1 : (mc0 t).vi = 0 := hvi
    have e2 : (mc0 t).tr = [] := htr
    unfold phi
    rw [e1, e2]
    have := so.v
    show 0 + (t.vis.length - 0) ≤ 1000
    omega⟩
  obtain ⟨gS, grg, grd, gwd, gM, gO, gP, gC, gd, gc, us, gT⟩ := W.get_
  walk_at "go"
  refine ⟨kOf t rows, m, s, ms0 rgs cs, _, mc0 t, Y, 500, 1000, n, covG rgs, rfl, hst, W, c0, by omega, ms0_ok mo, by omega, List.length_replicate, co, so.d0, so.d1, fun H3 rd' b' k3 W3 o3 t3 hb3 => ?_⟩
  have k13 := (k1.trans k2).trans k3
  have om := o3.m
  generalize runMM (kOf t rows) n 0 (ms0 rgs cs) (List.replicate 16 0) (mc0 t) = p at W3 o3 t3 om hQ
  obtain ⟨us3, M3, im3⟩ := W3.ex
  obtain ⟨gS, grg, grd, gwd, gM, gO, gP, gC, gd, gc, us, gT⟩ := W3.get_
  walk_at "go"
  refine m_tupleL (SqL.of gO) (ims_ints p.2.1.ou) (fun q1 H4 s4 hq1 i4 => ?_)
  have W4 := W3.same s4
  obtain ⟨gS, grg, grd, gwd, gM, gO, gP, gC, gd, gc, us, gT⟩ := W4.get_
  have gSt : H4 m.St = some (stO K s.dx s.rg s.rd s.wd) := by rw [hst]; exact gS
  have k4 := k13.trans (KT.of s4)
  walk_at "go"
  refine m_ix (ic.kt k4) (n := 0) rfl rfl (fun v hv => ?_)
  walk_at "go"
  refine ⟨m.St, s.rg, s.rd, s.wd, s.dx, v, rgs, p.2.1, b', rfl, gSt, gwd, hv, o3, mo.z, mo.m, fun H5 w5 s5 im5 => ?_⟩
  have W5 := W4.same s5
  obtain ⟨us5, M5, im5'⟩ := W5.ex
  have gM5 : H5 m.M = some (maO K (kOf t rows) m p.2.2) := M5.get 4 rfl
  have gT5 : H5 m.T = some (.lst us5) := M5.get 6 rfl
  walk_at "go"
  refine m_tupleL (SqL.of gT5) im5' (fun q2 H6 s6 hq2 i6 => ?_)
  walk_at "go"
  refine m_new (.cons ((i4.same s5).same s6) (.cons (im_rs p.1) (.cons (im5.same s6) (.cons i6 .nil)))) (by simp) (fun t7 H7 s7 ht7 i7 => ?_)
  have M7 := ((W5.same s6).same s7)
  obtain ⟨us7, M7, _⟩ := M7.ex
  refine hQ _ _ (((k4.trans (KT.of s5)).trans (KT.of s6)).trans (KT.of s7)) (M7.right.right.right) i7 t3 (by omega)


/-! ### what the law draws -/
def sp_law_word (K : PySem.W.Frag) : Sp := fun vs H Q _ => ∃ (d : Addr) (L : List (Addr × HO)), vs = [.ref d] ∧ DrL H d L ∧ ∀ H' x, Keep [d] H H' → DrL H' d L → W32 x → Q (.int x) H'
theorem sc_law_word : FnScope ["draws", "pick"] ["draws"] (defScope (topS 28)) := ⟨rfl, rfl, rfl, by decide +kernel, rfl, by decide +kernel, by decide +kernel⟩
theorem ok_law_word (T : Txt fa fn K mg (CsOk cs K w)) : Dn P w K mg base CX0 2 "_law_word" ["draws"] (sp_law_word K) := by
  refine mk_dn (d := dOf "_law_word" 28) T 16 16 rfl rfl rfl rfl rfl sc_law_word (by walk_at "len") (fun _ _ _ _ _ _ us hl => match us, hl with | [_], _ => rfl) (fun cdv A outer s H vs Q E hr h => ⟨_, (pss_cons (ps_set (i := 1) sc_law_word.nd rfl (.inl rfl) (pe_callD (K := K) rfl (ok_law_next T) (hr.mono (by decide)) rfl pass0 (pa_cons (pv 0) (pa_cons pe_int pa_nil))))
      (pss_cons (ps_if (pt_cmpR (op_eqU (K := K) rfl hr.units) (pv 1) pe_int (nomark _)) (pss_one (ps_ret (pe_callD (K := K) rfl (ok_law_next T) (hr.mono (by decide)) rfl pass0 (pa_cons (pv 0) (pa_cons pe_int pa_nil))))) pss_nil)
      (pss_cons (ps_if (pt_cmpR (op_eqU (K := K) rfl hr.units) (pv 1) pe_int (nomark _)) (pss_one (ps_ret (pe_callD (K := K) rfl (ok_law_next T) (hr.mono (by decide)) rfl pass0 (pa_cons (pv 0) (pa_cons pe_int pa_nil))))) pss_nil)
      (pss_cons (ps_if (pt_cmpR (op_eqU (K := K) rfl hr.units) (pv 1) pe_int (nomark _)) (pss_one (ps_ret (pe_op op_sub pe_int (pe_callD (K := K) rfl (ok_law_next T) (hr.mono (by decide)) rfl pass0 (pa_cons (pv 0) (pa_cons pe_int pa_nil)))))) pss_nil)
      (pss_one (ps_ret (pe_op o_mod (pe_callTy c_int rfl (T.free 125 rfl) (by decide +kernel) (pa_cons (pe_op (op_addU (K := K) rfl) (pe_op op_mulU (pe_callD (K := K) rfl (ok_law_next T) (hr.mono (by decide)) rfl pass0 (pa_cons (pv 0) (pa_cons pe_int pa_nil))) pe_int) (pe_op op_mulU (pe_callD (K := K) rfl (ok_law_next T) (hr.mono (by decide)) rfl pass0 (pa_cons (pv 0) (pa_cons pe_int pa_nil))) pe_int)) pa_nil)) pe_int))))))), ?_⟩)
  obtain ⟨d, L, rfl, D, hQ⟩ := h
  walk_at "go"
  refine use_nx D (by decide) (fun H1 v1 k1 D1 h10 h11 => ?_)
  walk_at "go"
  refine g_if (fun c => ?_) (fun c => ?_)
  · walk_at "go"
    refine use_nx D1 (by decide) (fun H2 v2 k2 D2 h20 h21 => ?_)
    exact hQ _ _ (k1.trans k2) D2 ⟨h20, by omega⟩
  walk_at "go"
  refine g_if (fun c => ?_) (fun c => ?_)
  · walk_at "go"
    refine use_nx D1 (by decide) (fun H2 v2 k2 D2 h20 h21 => ?_)
    exact hQ _ _ (k1.trans k2) D2 ⟨h20, by omega⟩
  walk_at "go"
  refine g_if (fun c => ?_) (fun c => ?_)
  · walk_at "go"
    refine use_nx D1 (by decide) (fun H2 v2 k2 D2 h20 h21 => ?_)
    walk_at "go"
    exact hQ _ _ (k1.trans k2) D2 ⟨by omega, by omega⟩
  walk_at "go"
  refine use_nx D1 (by decide) (fun H2 v2 k2 D2 h20 h21 => ?_)
  walk_at "go"
  refine use_nx D2 (by decide) (fun H3 v3 k3 D3 h30 h31 => ?_)
  walk_at "go"
  exact hQ _ _ ((k1.trans k2).trans k3) D3 ⟨Int.emod_nonneg _ (by decide), Int.emod_lt_of_pos _ (by decide)⟩
structure RgsOk (rgs : List Rg) : Prop where
  l : 0 < rgs.length
  u : rgs.length ≤ 4
  n : ∀ g ∈ rgs, g.n ≤ 30
  s : ∀ g ∈ rgs, PyData.strOk g.l = true
  p : ∀ g ∈ rgs, g.l = "public" ∨ g.l = "secret"
abbrev rgsD (rgs : List Rg) : PyData := .tuple (rgs.map Rg.d)
def sp_law_regions (K : PySem.W.Frag) : Sp := fun vs H Q _ => ∃ (d : Addr) (L : List (Addr × HO)), vs = [.ref d] ∧ DrL H d L ∧ ∀ H' v rgs, Keep [d] H H' → DrL H' d L → Im H' v (rgsD rgs) → RgsOk rgs → Q v H'
theorem sc_law_regions : FnScope ["draws", "regions", "base", "k", "size"] ["draws"] (defScope (topS 29)) := ⟨rfl, rfl, rfl, by decide +kernel, rfl, by decide +kernel, by decide +kernel⟩
theorem ok_law_regions (T : Txt fa fn K mg (CsOk cs K w)) : Dn P w K mg base CX0 2 "_law_regions" ["draws"] (sp_law_regions K) := by
  refine mk_dn (d := dOf "_law_regions" 29) T 17 17 rfl rfl rfl rfl rfl sc_law_regions (by walk_at "len") (fun _ _ _ _ _ _ us hl => match us, hl with | [_], _ => rfl) (fun cdv A outer s H vs Q E hr h => ⟨_, (pss_cons (ps_set (i := 1) sc_law_regions.nd rfl (.inl rfl) (pe_lst pa_nil))
      (pss_cons (ps_set (i := 2) sc_law_regions.nd rfl (.inl rfl) pe_int)
      (pss_cons (ps_for PassesOwn.never rfl (pi_r1 rfl (T.free 131 rfl) (pa_cons (pe_op (op_addU (K := K) rfl) pe_int (pe_callD (K := K) rfl (ok_law_next T) (hr.mono (by decide)) rfl pass0 (pa_cons (pv 0) (pa_cons pe_int pa_nil)))) pa_nil)) (pg_name (i := 3) sc_law_regions.nd rfl (.inl rfl)) (pss_cons (ps_set (i := 4) sc_law_regions.nd rfl (.inl rfl) (pe_ixU (K := K) rfl (hu_of hr) (pe_lst (pa_cons pe_int (pa_cons pe_int (pa_cons pe_int (pa_cons pe_int (pa_cons (pe_op (op_addU (K := K) rfl) pe_int (pe_callD (K := K) rfl (ok_law_next T) (hr.mono (by decide)) rfl pass0 (pa_cons (pv 0) (pa_cons pe_int pa_nil)))) pa_nil)))))) (pe_callD (K := K) rfl (ok_law_next T) (hr.mono (by decide)) rfl pass0 (pa_cons (pv 0) (pa_cons pe_int pa_nil)))))
      (pss_cons (ps_expr (pe_bm PySem.F.plainAttrs_list PySem.F.slot_list_append PySem.F.type_list_append mt_append (pv 1) (pa_cons (pe_tup (pa_cons (pv 2) (pa_cons (pv 4) (pa_cons (pe_ixU (K := K) rfl (hu_of hr) (pe_lst (pa_cons pe_str (pa_cons pe_str pa_nil))) (pe_callD (K := K) rfl (ok_law_next T) (hr.mono (by decide)) rfl pass0 (pa_cons (pv 0) (pa_cons pe_int pa_nil)))) pa_nil)))) pa_nil)))
      (pss_one (ps_set (i := 2) sc_law_regions.nd rfl (.inl rfl) (pe_op (op_addU (K := K) rfl) (pv 2) (pv 4)))))))
      (pss_one (ps_ret (pe_callTy (c_tuple (K := K) rfl) rfl (T.free 135 rfl) (by decide +kernel) (pa_cons (pv 1) pa_nil))))))), ?_⟩)
  obtain ⟨d, L, rfl, D, hQ⟩ := h
  walk_at "go"
  refine ⟨by decide, fun p hp => ?_⟩
  have D1 := D.new (o := .lst []) hp
  have kp : Keep [d] H _ := Keep.new (o := .lst []) hp
  walk_at "go"
  refine use_nx D1 (by decide) (fun H2 v2 k2 D2 h20 h21 => ?_)
  walk_at "go"
  have kp2 := kp.trans k2
  refine f_range (fun i σ H' => ∃ (base : Int) (k z : Option V) (xs : List V) (rgs : List Rg), σ = [some (.ref d), some (.ref p), some (.int base), k, z] ∧ Keep [d] H H' ∧ DrL H' d (L ++ [(p, .lst xs)]) ∧ Ims H' xs (rgs.map Rg.d) ∧ rgs.length = i ∧ (∀ g ∈ rgs, g.n ≤ 30) ∧ (∀ g ∈ rgs, PyData.strOk g.l = true) ∧ ∀ g ∈ rgs, g.l = "public" ∨ g.l = "secret")
    ⟨0, _, _, [], [], rfl, kp2, D2, .nil, rfl, by simp, by simp, by simp⟩ ?_ ?_
  · rintro i σ H3 hi ⟨base, k, z, xs, rgs, rfl, k3, D3, ims, hl, a1, a2, a3⟩
    have hxs := ims.length
    rw [List.length_map] at hxs
    walk_at "go"
    refine use_nx D3 (by decide) (fun H4 v4 k4 D4 h40 h41 => ?_)
    walk_at "go"
    refine use_pk D4 rfl rfl (by simp) (by simp) (fun H5 v k5 D5 hv => ?_)
    obtain ⟨n, rfl, hn⟩ : ∃ n : Nat, v = .int (n : Int) ∧ n ≤ 30 := by
      simp only [List.mem_cons, List.not_mem_nil, or_false] at hv
      rcases hv with rfl | rfl | rfl | rfl | rfl
      · exact ⟨1, rfl, by decide⟩
      · exact ⟨2, rfl, by decide⟩
      · exact ⟨4, rfl, by decide⟩
      · exact ⟨16, rfl, by decide⟩
      · exact ⟨(1 + v4).toNat, by rw [Int.toNat_of_nonneg (by omega)], by omega⟩
    have at5 : H5 p = some (.lst xs) := D5.get L.length get_last
    have ims5 := D4.ims k5 (D3.ims k4 ims)
    walk_at "go"
    refine use_pk D5 rfl rfl (by simp) (by simp) (fun H6 v k6 D6 hv => ?_)
    obtain ⟨z, rfl, hz, hz2⟩ : ∃ P : Str, v = .str P ∧ PyData.strOk P = true ∧ (P = "public" ∨ P = "secret") := by
      simp only [List.mem_cons, List.not_mem_nil, or_false] at hv
      rcases hv with rfl | rfl
      · exact ⟨_, rfl, by decide +kernel, .inl rfl⟩
      · exact ⟨_, rfl, by decide +kernel, .inr rfl⟩
    walk_at "go"
    refine m_new (.cons (.int _) (.cons (.int _) (.cons (.str _) .nil))) (by simp) (fun a H7 s7 ha im => ?_)
    walk_at "go"
    have D7 := D6.same s7
    have ims7 := (D5.ims k6 ims5).same s7
    refine gD_append D7 L.length get_last (by omega) (fun D8 => ?_)
    walk_at "go"
    rw [set_last] at D8
    refine ⟨_, _, _, xs ++ [.ref a], rgs ++ [⟨base, n, z⟩], rfl, ((((k3.trans k4).trans k5).trans k6).trans (Keep.of s7)).mut hp, D8, ?_, by rw [List.length_append, hl]; rfl, all_snoc a1 hn, all_snoc a2 hz, all_snoc a3 hz2⟩
    rw [List.map_append]
    exact ims_snoc (H2 := H7) ims7 im (D7.get L.length get_last)
  · rintro σ H3 ⟨base, k, z, xs, rgs, rfl, k3, D3, ims, hl, a1, a2, a3⟩
    walk_at "go"
    refine m_tupleL (SqL.of (D3.get L.length get_last)) ims (fun q H4 s4 hq im => ?_)
    exact hQ _ _ rgs (k3.trans (Keep.of s4)) ((D3.sub sub_last).same s4) im ⟨by omega, by omega, a1, a2, a3⟩
def sp_law_span (K : PySem.W.Frag) : Sp := fun vs H Q _ => ∃ (d : Addr) (L : List (Addr × HO)) (x : V) (rgs : List Rg), vs = [.ref d, x] ∧ DrL H d L ∧ Im H x (rgsD rgs) ∧ RgsOk rgs ∧ ∀ H' v b m, Keep [d] H H' → DrL H' d L → Im H' v (.tuple [.int b, .int m]) → Q v H'
theorem sc_law_span : FnScope ["draws", "regions", "base", "size", "label", "mask"] ["draws", "regions"] (defScope (topS 30)) := ⟨rfl, rfl, rfl, by decide +kernel, rfl, by decide +kernel, by decide +kernel⟩
theorem ok_law_span (T : Txt fa fn K mg (CsOk cs K w)) : Dn P w K mg base CX0 2 "_law_span" ["draws", "regions"] (sp_law_span K) := by
  refine mk_dn (d := dOf "_law_span" 30) T 18 18 rfl rfl rfl rfl rfl sc_law_span (by walk_at "len") (fun _ _ _ _ _ _ us hl => match us, hl with | [_, _], _ => rfl) (fun cdv A outer s H vs Q E hr h => ⟨_, (pss_cons (ps_if (pt_cmpR (op_eqU (K := K) rfl hr.units) (pe_callD (K := K) rfl (ok_law_next T) (hr.mono (by decide)) rfl pass0 (pa_cons (pv 0) (pa_cons pe_int pa_nil))) pe_int (nomark _)) (pss_one (ps_ret (pe_tup (pa_cons (pe_callD (K := K) rfl (ok_law_next T) (hr.mono (by decide)) rfl pass0 (pa_cons (pv 0) (pa_cons pe_int pa_nil))) (pa_cons (pe_op op_sub (pe_op o_shl pe_int (pe_callD (K := K) rfl (ok_law_next T) (hr.mono (by decide)) rfl pass0 (pa_cons (pv 0) (pa_cons pe_int pa_nil)))) pe_int) pa_nil))))) pss_nil)
      (pss_cons (ps_asg (pe_ixU (K := K) rfl (hu_of hr) (pv 1) (pe_callD (K := K) rfl (ok_law_next T) (hr.mono (by decide)) rfl pass0 (pa_cons (pv 0) (pa_cons (pe_callB (c_len (K := K) rfl) rfl (T.free 127 rfl) (by decide +kernel) (pa_cons (pv 1) pa_nil)) pa_nil)))) (pg_tup rfl (pgs_cons (pg_name (i := 2) sc_law_span.nd rfl (.inl rfl)) (pgs_cons (pg_name (i := 3) sc_law_span.nd rfl (.inl rfl)) (pgs_cons (pg_name (i := 4) sc_law_span.nd rfl (.inl rfl)) pgs_nil)))))
      (pss_cons (ps_set (i := 5) sc_law_span.nd rfl (.inl rfl) pe_int)
      (pss_cons (ps_while PassesOwn.never (pt_cmpR o_le (pe_op (op_addU (K := K) rfl) (pe_op op_mulU pe_int (pv 5)) pe_int) (pv 3) (nomark _)) (pss_one (ps_set (i := 5) sc_law_span.nd rfl (.inl rfl) (pe_op (op_addU (K := K) rfl) (pe_op op_mulU pe_int (pv 5)) pe_int))))
      (pss_one (ps_ret (pe_tup (pa_cons (pv 2) (pa_cons (pv 5) pa_nil))))))))), ?_⟩)
  obtain ⟨d, L, x, rgs, rfl, D, ix, ro, hQ⟩ := h
  have rl := ro.l
  walk_at "go"
  refine use_nx D (by decide) (fun H1 v1 k1 D1 h10 h11 => ?_)
  walk_at "go"
  refine g_if (fun c => ?_) (fun c => ?_)
  · walk_at "go"
    refine use_nx D1 (by decide) (fun H2 v2 k2 D2 h20 h21 => ?_)
    walk_at "go"
    refine use_nx D2 (by decide) (fun H3 v3 k3 D3 h30 h31 => ?_)
    walk_at "go"
    refine m_new (.cons (.int _) (.cons (.int _) .nil)) (by simp) (fun p H4 s4 hp im => ?_)
    exact hQ _ _ _ _ (((k1.trans k2).trans k3).trans (Keep.of s4)) (D3.same s4) im
  · have ix1 := D.im k1 ix
    walk_at "go"
    refine m_len ix1 ?_
    rw [List.length_map]
    walk_at "go"
    refine use_nx D1 (by omega) (fun H2 v2 k2 D2 h20 h21 => ?_)
    have ix2 := D1.im k2 ix1
    have hg : rgs[v2.toNat]? = some (rgs[v2.toNat]'(by omega)) := List.getElem?_eq_getElem _
    generalize rgs[v2.toNat]'(by omega) = g at hg
    walk_at "go"
    refine m_ix ix2 (n := v2.toNat) (by omega) (by rw [List.getElem?_map, hg]; rfl) (fun y hy => ?_)
    obtain ⟨t, rfl, ht⟩ := im3v hy
    walk_at "go"
    refine ⟨fun m σ H' => ∃ (mask : Int), σ = [some (.ref d), some x, some (.int g.b), some (.int (g.n : Int)), some (.str g.l), some (.int mask)] ∧ H' = H2 ∧ 0 ≤ mask ∧ ((g.n : Int) - mask).toNat = m, ⟨_, _, rfl, rfl, by decide, rfl⟩, ?_⟩
    rintro m σ H' ⟨mask, rfl, rfl, h0, hm⟩
    walk_at "go"
    refine g_if (fun hc => ?_) (fun hc => ?_)
    · refine g_whileT ?_
      walk_at "go"
      exact ⟨_, by omega, 2 * mask + 1, rfl, rfl, by omega, rfl⟩
    · walk_at "go"
      refine m_new (.cons (.int _) (.cons (.int _) .nil)) (by simp) (fun p H4 s4 hp im => ?_)
      exact hQ _ _ _ _ ((k1.trans k2).trans (Keep.of s4)) (D2.same s4) im
def sp_law_register (K : PySem.W.Frag) : Sp := fun vs H Q _ => ∃ (d : Addr) (L : List (Addr × HO)), vs = [.ref d] ∧ DrL H d L ∧ ∀ H' (n : Nat), Keep [d] H H' → DrL H' d L → n < 16 → Q (.int (n : Int)) H'
theorem use_reg {d : Addr} {L : List (Addr × HO)} {H H' : Hp} {m : Int} {k0 : Keep [d] H H'} {Q : VK} {E : XK} (D : DrL H' d L) (hm : 0 < m) (h16 : m ≤ 16) (q : ∀ H2 (n : Nat), Keep [d] H' H2 → DrL H2 d L → n < 16 → Q (.int (n : Int)) H2) : sp_law_next K ([.ref d, .int m] ++ []) H' Q E :=
  use_nx D hm fun H2 v k2 D2 h0 h1 => by
    have e : v = ((v.toNat : Nat) : Int) := by omega
    rw [e]
    exact q H2 v.toNat k2 D2 (by omega)
theorem sc_law_register : FnScope ["draws"] ["draws"] (defScope (topS 31)) := ⟨rfl, rfl, rfl, by decide +kernel, rfl, by decide +kernel, by decide +kernel⟩
theorem ok_law_register (T : Txt fa fn K mg (CsOk cs K w)) : Dn P w K mg base CX0 2 "_law_register" ["draws"] (sp_law_register K) := by
  refine mk_dn (d := dOf "_law_register" 31) T 19 19 rfl rfl rfl rfl rfl sc_law_register (by walk_at "len") (fun _ _ _ _ _ _ us hl => match us, hl with | [_], _ => rfl) (fun cdv A outer s H vs Q E hr h => ⟨_, (pss_one (ps_ret (pe_callD (K := K) rfl (ok_law_next T) (hr.mono (by decide)) rfl pass0 (pa_cons (pv 0) (pa_cons (pe_ixU (K := K) rfl (hu_of hr) (pe_lst (pa_cons pe_int (pa_cons pe_int (pa_cons pe_int pa_nil)))) (pe_callD (K := K) rfl (ok_law_next T) (hr.mono (by decide)) rfl pass0 (pa_cons (pv 0) (pa_cons pe_int pa_nil)))) pa_nil))))), ?_⟩)
  obtain ⟨d, L, rfl, D, hQ⟩ := h
  walk_at "go"
  refine use_pk D rfl rfl (by simp) (by simp) (fun H1 v k1 D1 hv => ?_)
  simp only [List.mem_cons, List.not_mem_nil, or_false] at hv
  rcases hv with rfl | rfl | rfl
  · walk_at "go"
    exact use_reg (k0 := k1) D1 (by decide) (by decide) (fun H2 n k2 D2 hn => hQ _ n (k1.trans k2) D2 hn)
  · walk_at "go"
    exact use_reg (k0 := k1) D1 (by decide) (by decide) (fun H2 n k2 D2 hn => hQ _ n (k1.trans k2) D2 hn)
  · walk_at "go"
    exact use_reg (k0 := k1) D1 (by decide) (by decide) (fun H2 n k2 D2 hn => hQ _ n (k1.trans k2) D2 hn)
def sp_law_op (K : PySem.W.Frag) : Sp := fun vs H Q _ => ∃ (d : Addr) (L : List (Addr × HO)), vs = [.ref d] ∧ DrL H d L ∧ ∀ H' v s a b c, Keep [d] H H' → DrL H' d L → Im H' v (Row.op s a b c).d → a < 16 → b < 16 → c < 16 → Q v H'
theorem sc_law_op : FnScope ["draws", "sign"] ["draws"] (defScope (topS 32)) := ⟨rfl, rfl, rfl, by decide +kernel, rfl, by decide +kernel, by decide +kernel⟩
theorem ok_law_op (T : Txt fa fn K mg (CsOk cs K w)) : Dn P w K mg base CX0 3 "_law_op" ["draws"] (sp_law_op K) := by
  refine mk_dn (d := dOf "_law_op" 32) T 20 20 rfl rfl rfl rfl rfl sc_law_op (by walk_at "len") (fun _ _ _ _ _ _ us hl => match us, hl with | [_], _ => rfl) (fun cdv A outer s H vs Q E hr h => ⟨_, (pss_cons (ps_set (i := 1) sc_law_op.nd rfl (.inl rfl) (pe_ixU (K := K) rfl (hu_of hr) (pe_lst (pa_cons pe_str (pa_cons pe_str (pa_cons pe_str (pa_cons pe_str (pa_cons pe_str (pa_cons pe_str (pa_cons pe_str (pa_cons pe_str (pa_cons pe_str (pa_cons pe_str (pa_cons pe_str (pa_cons pe_str (pa_cons pe_str pa_nil)))))))))))))) (pe_callD (K := K) rfl (ok_law_next T) (hr.mono (by decide)) rfl pass0 (pa_cons (pv 0) (pa_cons pe_int pa_nil)))))
      (pss_one (ps_ret (pe_tup (pa_cons pe_str (pa_cons (pv 1) (pa_cons (pe_callD (K := K) rfl (ok_law_register T) (hr.mono (by decide)) rfl pass0 (pa_cons (pv 0) pa_nil)) (pa_cons (pe_callD (K := K) rfl (ok_law_register T) (hr.mono (by decide)) rfl pass0 (pa_cons (pv 0) pa_nil)) (pa_cons (pe_callD (K := K) rfl (ok_law_register T) (hr.mono (by decide)) rfl pass0 (pa_cons (pv 0) pa_nil)) pa_nil))))))))), ?_⟩)
  obtain ⟨d, L, rfl, D, hQ⟩ := h
  walk_at "go"
  refine use_pk D rfl rfl (by simp) (by simp) (fun H1 v k1 D1 hv => ?_)
  obtain ⟨s, rfl⟩ : ∃ s : Sg, v = .str s.s := by
    simp only [List.mem_cons, List.not_mem_nil, or_false] at hv
    rcases hv with rfl | rfl | rfl | rfl | rfl | rfl | rfl | rfl | rfl | rfl | rfl | rfl | rfl
    · exact ⟨.add, rfl⟩
    · exact ⟨.sub, rfl⟩
    · exact ⟨.mul, rfl⟩
    · exact ⟨.band, rfl⟩
    · exact ⟨.bor, rfl⟩
    · exact ⟨.bxor, rfl⟩
    · exact ⟨.shl, rfl⟩
    · exact ⟨.shr, rfl⟩
    · exact ⟨.eq, rfl⟩
    · exact ⟨.lt, rfl⟩
    · exact ⟨.le, rfl⟩
    · exact ⟨.div, rfl⟩
    · exact ⟨.mod, rfl⟩
  walk_at "go"
  refine ⟨d, L, rfl, D1, fun H2 a k2 D2 ha => ?_⟩
  walk_at "go"
  refine ⟨d, L, rfl, D2, fun H3 b k3 D3 hb => ?_⟩
  walk_at "go"
  refine ⟨d, L, rfl, D3, fun H4 c k4 D4 hc => ?_⟩
  walk_at "go"
  refine m_new (.cons (.str _) (.cons (.str _) (.cons (.int _) (.cons (.int _) (.cons (.int _) .nil))))) (by simp) (fun p H5 s5 hp im => ?_)
  exact hQ _ _ s a b c ((((k1.trans k2).trans k3).trans k4).trans (Keep.of s5)) (D4.same s5) im ha hb hc
theorem im2i {H : Hp} {v : V} {b m : Int} (h : Im H v (.tuple [.int b, .int m])) : ∃ t, v = .ref t ∧ H t = some (.tup [.int b, .int m]) := by
  obtain ⟨t, y1, y2, rfl, ht, i1, i2⟩ := im2 h
  obtain rfl := i1.int_inv
  obtain rfl := i2.int_inv
  exact ⟨t, rfl, ht⟩
def sp_law_row (K : PySem.W.Frag) : Sp := fun vs H Q _ => ∃ (d : Addr) (L : List (Addr × HO)) (x : V) (rgs : List Rg) (k many : Nat), vs = [.ref d, .int (k : Int), .int (many : Int), x] ∧ DrL H d L ∧ Im H x (rgsD rgs) ∧ RgsOk rgs ∧ k + 1 < many ∧
  ∀ H' v r, Keep [d] H H' → DrL H' d L → Im H' v (Row.d r) → RowOkD many k r → Q v H'
theorem nat_of {i : Int} {m : Nat} (h : 0 ≤ i) (h2 : i < (m : Int)) : ∃ t : Nat, i = (t : Int) ∧ t < m := ⟨i.toNat, by omega, by omega⟩
theorem sc_law_row : FnScope ["draws", "at", "many", "regions", "pick", "base", "mask"] ["draws", "at", "many", "regions"] (defScope (topS 33)) := ⟨rfl, rfl, rfl, by decide +kernel, rfl, by decide +kernel, by decide +kernel⟩
theorem ok_law_row (T : Txt fa fn K mg (CsOk cs K w)) : Dn P w K mg base CX0 4 "_law_row" ["draws", "at", "many", "regions"] (sp_law_row K) := by
  refine mk_dn (d := dOf "_law_row" 33) T 21 21 rfl rfl rfl rfl rfl sc_law_row (by walk_at "len") (fun _ _ _ _ _ _ us hl => match us, hl with | [_, _, _, _], _ => rfl) (fun cdv A outer s H vs Q E hr h => ⟨_, (pss_cons (ps_set (i := 4) sc_law_row.nd rfl (.inl rfl) (pe_callD (K := K) rfl (ok_law_next T) (hr.mono (by decide)) rfl pass0 (pa_cons (pv 0) (pa_cons pe_int pa_nil))))
      (pss_cons (ps_if (pt_cmpR o_lt (pv 4) pe_int (nomark _)) (pss_one (ps_ret (pe_tup (pa_cons pe_str (pa_cons (pe_callD (K := K) rfl (ok_law_register T) (hr.mono (by decide)) rfl pass0 (pa_cons (pv 0) pa_nil)) (pa_cons (pe_callD (K := K) rfl (ok_law_word T) (hr.mono (by decide)) rfl pass0 (pa_cons (pv 0) pa_nil)) pa_nil)))))) pss_nil)
      (pss_cons (ps_if (pt_cmpR o_lt (pv 4) pe_int (nomark _)) (pss_one (ps_ret (pe_callD (K := K) rfl (ok_law_op T) (hr.mono (by decide)) rfl pass0 (pa_cons (pv 0) pa_nil)))) pss_nil)
      (pss_cons (ps_if (pt_cmpR (op_eqU (K := K) rfl hr.units) (pv 4) pe_int (nomark _)) (pss_one (ps_ret (pe_tup (pa_cons pe_str (pa_cons (pe_callD (K := K) rfl (ok_law_register T) (hr.mono (by decide)) rfl pass0 (pa_cons (pv 0) pa_nil)) (pa_cons (pe_callD (K := K) rfl (ok_law_register T) (hr.mono (by decide)) rfl pass0 (pa_cons (pv 0) pa_nil)) (pa_cons (pe_callD (K := K) rfl (ok_law_register T) (hr.mono (by decide)) rfl pass0 (pa_cons (pv 0) pa_nil)) (pa_cons (pe_callD (K := K) rfl (ok_law_register T) (hr.mono (by decide)) rfl pass0 (pa_cons (pv 0) pa_nil)) pa_nil)))))))) pss_nil)
      (pss_cons (ps_if (pt_cmpR o_lt (pv 4) pe_int (nomark _)) (pss_cons (ps_asg (pe_callD (K := K) rfl (ok_law_span T) (hr.mono (by decide)) rfl pass0 (pa_cons (pv 0) (pa_cons (pv 3) pa_nil))) (pg_tup rfl (pgs_cons (pg_name (i := 5) sc_law_row.nd rfl (.inl rfl)) (pgs_cons (pg_name (i := 6) sc_law_row.nd rfl (.inl rfl)) pgs_nil))))
      (pss_one (ps_ret (pe_tup (pa_cons pe_str (pa_cons (pe_callD (K := K) rfl (ok_law_register T) (hr.mono (by decide)) rfl pass0 (pa_cons (pv 0) pa_nil)) (pa_cons (pe_callD (K := K) rfl (ok_law_register T) (hr.mono (by decide)) rfl pass0 (pa_cons (pv 0) pa_nil)) (pa_cons (pv 5) (pa_cons (pv 6) pa_nil))))))))) pss_nil)
      (pss_cons (ps_if (pt_cmpR o_lt (pv 4) pe_int (nomark _)) (pss_cons (ps_asg (pe_callD (K := K) rfl (ok_law_span T) (hr.mono (by decide)) rfl pass0 (pa_cons (pv 0) (pa_cons (pv 3) pa_nil))) (pg_tup rfl (pgs_cons (pg_name (i := 5) sc_law_row.nd rfl (.inl rfl)) (pgs_cons (pg_name (i := 6) sc_law_row.nd rfl (.inl rfl)) pgs_nil))))
      (pss_one (ps_ret (pe_tup (pa_cons pe_str (pa_cons (pe_callD (K := K) rfl (ok_law_register T) (hr.mono (by decide)) rfl pass0 (pa_cons (pv 0) pa_nil)) (pa_cons (pv 5) (pa_cons (pv 6) (pa_cons (pe_callD (K := K) rfl (ok_law_register T) (hr.mono (by decide)) rfl pass0 (pa_cons (pv 0) pa_nil)) pa_nil))))))))) pss_nil)
      (pss_cons (ps_if (pt_cmpR (op_eqU (K := K) rfl hr.units) (pv 4) pe_int (nomark _)) (pss_one (ps_ret (pe_tup (pa_cons pe_str (pa_cons (pe_callD (K := K) rfl (ok_law_register T) (hr.mono (by decide)) rfl pass0 (pa_cons (pv 0) pa_nil)) pa_nil))))) pss_nil)
      (pss_cons (ps_if (pt_cmpR (op_eqU (K := K) rfl hr.units) (pv 4) pe_int (nomark _)) (pss_one (ps_ret (pe_tup (pa_cons pe_str (pa_cons (pe_callB (c_min2 rfl) rfl (T.free 130 rfl) (by decide +kernel) (pa_cons (pe_op op_sub (pv 2) pe_int) (pa_cons (pe_op (op_addU (K := K) rfl) (pe_op (op_addU (K := K) rfl) (pv 1) pe_int) (pe_callD (K := K) rfl (ok_law_next T) (hr.mono (by decide)) rfl pass0 (pa_cons (pv 0) (pa_cons pe_int pa_nil)))) pa_nil))) pa_nil))))) pss_nil)
      (pss_cons (ps_if (PW.pt (pw_and (pt_cmpR (op_eqU (K := K) rfl hr.units) (pv 4) pe_int (nomark _)) (pw_and1 (pt_cmpR (op_eqU (K := K) rfl hr.units) (pe_callD (K := K) rfl (ok_law_next T) (hr.mono (by decide)) rfl pass0 (pa_cons (pv 0) (pa_cons pe_int pa_nil))) pe_int (nomark _))))) (pss_one (ps_ret (pe_tup (pa_cons pe_str (pa_cons (pe_callD (K := K) rfl (ok_law_register T) (hr.mono (by decide)) rfl pass0 (pa_cons (pv 0) pa_nil)) pa_nil))))) pss_nil)
      (pss_cons (ps_if (pt_cmpR (op_eqU (K := K) rfl hr.units) (pv 4) pe_int (nomark _)) (pss_one (ps_ret (pe_tup (pa_cons pe_str (pa_cons (pe_callD (K := K) rfl (ok_law_register T) (hr.mono (by decide)) rfl pass0 (pa_cons (pv 0) pa_nil)) (pa_cons (pe_callD (K := K) rfl (ok_law_next T) (hr.mono (by decide)) rfl pass0 (pa_cons (pv 0) (pa_cons (pv 2) pa_nil))) pa_nil)))))) pss_nil)
      (pss_one (ps_ret (pe_tup (pa_cons pe_str (pa_cons (pe_callD (K := K) rfl (ok_law_register T) (hr.mono (by decide)) rfl pass0 (pa_cons (pv 0) pa_nil)) (pa_cons (pe_callB (c_min2 rfl) rfl (T.free 130 rfl) (by decide +kernel) (pa_cons (pe_op op_sub (pv 2) pe_int) (pa_cons (pe_op (op_addU (K := K) rfl) (pe_op (op_addU (K := K) rfl) (pv 1) pe_int) (pe_callD (K := K) rfl (ok_law_next T) (hr.mono (by decide)) rfl pass0 (pa_cons (pv 0) (pa_cons pe_int pa_nil)))) pa_nil))) pa_nil)))))))))))))))), ?_⟩)
  obtain ⟨d, L, x, rgs, k, many, rfl, D, ix, ro, hk, hQ⟩ := h
  walk_at "go"
  refine use_nx D (by decide) (fun H1 v1 k1 D1 h10 h11 => ?_)
  have ix1 := D.im k1 ix
  have to : ∀ v : Int, 0 ≤ v → ∃ t : Nat, (if (k : Int) + 1 + v < (many : Int) - 1 then (k : Int) + 1 + v else (many : Int) - 1) = (t : Int) ∧ t < many := fun v hv => nat_of (by split <;> omega) (by split <;> omega)
  walk_at "go"
  refine g_if (fun c => ?_) (fun c => ?_)
  · walk_at "go"
    refine ⟨d, L, rfl, D1, fun H2 a k2 D2 ha => ?_⟩
    walk_at "go"
    refine ⟨d, L, rfl, D2, fun H3 w k3 D3 hw => ?_⟩
    walk_at "go"
    refine m_new (.cons (.str _) (.cons (.int _) (.cons (.int _) .nil))) (by simp) (fun p H5 s5 hp im => ?_)
    exact hQ _ _ (.const a w) (((k1.trans k2).trans k3).trans (Keep.of s5)) (D3.same s5) im ⟨ha, hw, hk⟩
  walk_at "go"
  refine g_if (fun c => ?_) (fun c => ?_)
  · walk_at "go"
    refine ⟨d, L, rfl, D1, fun H2 v s a b e k2 D2 im ha hb he => ?_⟩
    exact hQ _ _ (.op s a b e) (k1.trans k2) D2 im ⟨ha, hb, he, hk⟩
  walk_at "go"
  refine g_if (fun c => ?_) (fun c => ?_)
  · walk_at "go"
    refine ⟨d, L, rfl, D1, fun H2 a k2 D2 ha => ?_⟩
    walk_at "go"
    refine ⟨d, L, rfl, D2, fun H3 b k3 D3 hb => ?_⟩
    walk_at "go"
    refine ⟨d, L, rfl, D3, fun H4 e k4 D4 he => ?_⟩
    walk_at "go"
    refine ⟨d, L, rfl, D4, fun H5 f k5 D5 hf => ?_⟩
    walk_at "go"
    refine m_new (.cons (.str _) (.cons (.int _) (.cons (.int _) (.cons (.int _) (.cons (.int _) .nil))))) (by simp) (fun p H6 s6 hp im => ?_)
    exact hQ _ _ (.select a b e f) (((((k1.trans k2).trans k3).trans k4).trans k5).trans (Keep.of s6)) (D5.same s6) im ⟨ha, hb, he, hf, hk⟩
  walk_at "go"
  refine g_if (fun c => ?_) (fun c => ?_)
  · walk_at "go"
    refine ⟨d, L, x, rgs, rfl, D1, ix1, ro, fun H2 v b m k2 D2 im2 => ?_⟩
    obtain ⟨t, rfl, ht⟩ := im2i im2
    walk_at "go"
    refine ⟨d, L, rfl, D2, fun H3 a k3 D3 ha => ?_⟩
    walk_at "go"
    refine ⟨d, L, rfl, D3, fun H4 e k4 D4 he => ?_⟩
    walk_at "go"
    refine m_new (.cons (.str _) (.cons (.int _) (.cons (.int _) (.cons (.int _) (.cons (.int _) .nil))))) (by simp) (fun p H6 s6 hp im => ?_)
    exact hQ _ _ (.load a e b m) ((((k1.trans k2).trans k3).trans k4).trans (Keep.of s6)) (D4.same s6) im ⟨ha, he, hk⟩
  walk_at "go"
  refine g_if (fun c => ?_) (fun c => ?_)
  · walk_at "go"
    refine ⟨d, L, x, rgs, rfl, D1, ix1, ro, fun H2 v b m k2 D2 im2 => ?_⟩
    obtain ⟨t, rfl, ht⟩ := im2i im2
    walk_at "go"
    refine ⟨d, L, rfl, D2, fun H3 a k3 D3 ha => ?_⟩
    walk_at "go"
    refine ⟨d, L, rfl, D3, fun H4 e k4 D4 he => ?_⟩
    walk_at "go"
    refine m_new (.cons (.str _) (.cons (.int _) (.cons (.int _) (.cons (.int _) (.cons (.int _) .nil))))) (by simp) (fun p H6 s6 hp im => ?_)
    exact hQ _ _ (.store a b m e) ((((k1.trans k2).trans k3).trans k4).trans (Keep.of s6)) (D4.same s6) im ⟨ha, he, hk⟩
  walk_at "go"
  refine g_if (fun c => ?_) (fun c => ?_)
  · walk_at "go"
    refine ⟨d, L, rfl, D1, fun H2 a k2 D2 ha => ?_⟩
    walk_at "go"
    refine m_new (.cons (.str _) (.cons (.int _) .nil)) (by simp) (fun p H6 s6 hp im => ?_)
    exact hQ _ _ (.out a) ((k1.trans k2).trans (Keep.of s6)) (D2.same s6) im ⟨ha, hk⟩
  walk_at "go"
  refine g_if (fun c => ?_) (fun c => ?_)
  · walk_at "go"
    refine use_nx D1 (by decide) (fun H2 v2 k2 D2 h20 h21 => ?_)
    obtain ⟨t, et, ht⟩ := to v2 h20
    walk_at "go"
    rw [et]
    refine m_new (.cons (.str _) (.cons (.int _) .nil)) (by simp) (fun p H6 s6 hp im => ?_)
    exact hQ _ _ (.jump t) ((k1.trans k2).trans (Keep.of s6)) (D2.same s6) im ht
  have tail : ∀ (H2 : Hp), Keep [d] H1 H2 → DrL H2 d L → v1 = v1 → True := fun _ _ _ _ => trivial
  walk_at "go"
  refine g_if (fun c16 => ?_) (fun c16 => ?_)
  · walk_at "go"
    refine use_nx D1 (by decide) (fun H2 v2 k2 D2 h20 h21 => ?_)
    walk_at "go"
    refine g_if (fun c0 => ?_) (fun c0 => ?_)
    · walk_at "go"
      refine ⟨d, L, rfl, D2, fun H3 a k3 D3 ha => ?_⟩
      walk_at "go"
      refine m_new (.cons (.str _) (.cons (.int _) .nil)) (by simp) (fun p H6 s6 hp im => ?_)
      exact hQ _ _ (.stop a) (((k1.trans k2).trans k3).trans (Keep.of s6)) (D3.same s6) im ha
    · walk_at "go"
      refine g_if (fun c17 => ?_) (fun c17 => ?_)
      · omega
      · walk_at "go"
        refine ⟨d, L, rfl, D2, fun H3 a k3 D3 ha => ?_⟩
        walk_at "go"
        refine use_nx D3 (by decide) (fun H4 v4 k4 D4 h40 h41 => ?_)
        obtain ⟨t, et, ht⟩ := to v4 h40
        walk_at "go"
        rw [et]
        refine m_new (.cons (.str _) (.cons (.int _) (.cons (.int _) .nil))) (by simp) (fun p H6 s6 hp im => ?_)
        exact hQ _ _ (.branch a t) ((((k1.trans k2).trans k3).trans k4).trans (Keep.of s6)) (D4.same s6) im ⟨ha, ht, hk⟩
  · walk_at "go"
    refine g_if (fun c17 => ?_) (fun c17 => ?_)
    · walk_at "go"
      refine ⟨d, L, rfl, D1, fun H3 a k3 D3 ha => ?_⟩
      walk_at "go"
      refine use_nx D3 (by omega) (fun H4 v4 k4 D4 h40 h41 => ?_)
      obtain ⟨t, rfl, ht⟩ := nat_of h40 h41
      walk_at "go"
      refine m_new (.cons (.str _) (.cons (.int _) (.cons (.int _) .nil))) (by simp) (fun p H6 s6 hp im => ?_)
      exact hQ _ _ (.branch a t) (((k1.trans k3).trans k4).trans (Keep.of s6)) (D4.same s6) im ⟨ha, ht, hk⟩
    · walk_at "go"
      refine ⟨d, L, rfl, D1, fun H3 a k3 D3 ha => ?_⟩
      walk_at "go"
      refine use_nx D3 (by decide) (fun H4 v4 k4 D4 h40 h41 => ?_)
      obtain ⟨t, et, ht⟩ := to v4 h40
      walk_at "go"
      rw [et]
      refine m_new (.cons (.str _) (.cons (.int _) (.cons (.int _) .nil))) (by simp) (fun p H6 s6 hp im => ?_)
      exact hQ _ _ (.branch a t) (((k1.trans k3).trans k4).trans (Keep.of s6)) (D4.same s6) im ⟨ha, ht, hk⟩

/-! ### code, contents, the law -/
theorem rows_of {many : Nat} : ∀ (es : List PyData) (off : Nat), (∀ i e, es[i]? = some e → ∃ r, e = Row.d r ∧ RowOkD many (off + i) r) → ∃ rows : List Row, es = rows.map Row.d ∧ ∀ (k : Nat) (r : Row), rows[k]? = some r → RowOkD many (off + k) r
  | [], off, h => ⟨[], rfl, fun k r e => by simp at e⟩
  | e :: es, off, h => by
    obtain ⟨r, rfl, hr⟩ := h 0 e rfl
    obtain ⟨rows, rfl, hrows⟩ := rows_of es (off + 1) (fun i e he => by
      obtain ⟨r, h1, h2⟩ := h (i + 1) e he
      exact ⟨r, h1, by rw [show off + 1 + i = off + (i + 1) by omega]; exact h2⟩)
    refine ⟨r :: rows, rfl, fun k r' hk => ?_⟩
    cases k with
    | zero =>
      cases hk
      exact hr
    | succ k =>
      have := hrows k r' hk
      rw [show off + 1 + k = off + (k + 1) by omega] at this
      exact this
theorem conts_of : ∀ (es : List PyData) (rgs : List Rg), es.length = rgs.length → (∀ (i : Nat) (e : PyData), es[i]? = some e → ∃ c, e = cD c ∧ (∀ g : Rg, rgs[i]? = some g → c.length = g.n) ∧ ∀ x ∈ c, W32 x) →
    ∃ cs : List (List Int), es = cs.map cD ∧ cs.length = rgs.length ∧ (∀ (i : Nat) (g : Rg) (c : List Int), rgs[i]? = some g → cs[i]? = some c → c.length = g.n) ∧ ∀ c ∈ cs, ∀ x ∈ c, W32 x
  | [], rgs, hl, h => ⟨[], rfl, hl, fun i g c _ e => by simp at e, fun c hc => by cases hc⟩
  | e :: es, [], hl, h => by cases hl
  | e :: es, g :: rgs, hl, h => by
    obtain ⟨c, rfl, h1, h2⟩ := h 0 e rfl
    obtain ⟨cs, rfl, i1, i2, i3⟩ := conts_of es rgs (Nat.succ.inj hl) (fun i e he => h (i + 1) e he)
    refine ⟨c :: cs, rfl, by rw [List.length_cons, List.length_cons, i1], fun i g' c' hg hc => ?_, fun c' hc' => ?_⟩
    · cases i with
      | zero =>
        cases hg
        cases hc
        exact h1 g rfl
      | succ i => exact i2 i g' c' hg hc
    · rcases List.mem_cons.mp hc' with rfl | hc'
      · exact h2
      · exact i3 c' hc'
theorem ints_of : ∀ (es : List PyData), (∀ (i : Nat) (e : PyData), es[i]? = some e → ∃ x : Int, e = PyData.int x ∧ W32 x) → ∃ c : List Int, es = c.map PyData.int ∧ c.length = es.length ∧ ∀ x ∈ c, W32 x
  | [], h => ⟨[], rfl, rfl, fun x hx => by cases hx⟩
  | e :: es, h => by
    obtain ⟨x, rfl, hx⟩ := h 0 e rfl
    obtain ⟨c, rfl, i1, i2⟩ := ints_of es (fun i e he => h (i + 1) e he)
    refine ⟨x :: c, rfl, by rw [List.length_cons, List.length_cons, i1], fun y hy => ?_⟩
    rcases List.mem_cons.mp hy with rfl | hy
    · exact hx
    · exact i2 y hy
def sp_law_code (K : PySem.W.Frag) : Sp := fun vs H Q _ => ∃ (d : Addr) (L : List (Addr × HO)), vs = [.ref d] ∧ DrL H d L ∧ ∀ H' v rgs rows, Keep [d] H H' → DrL H' d L → Im H' v (codeD rgs rows) → RgsOk rgs → CodeOk rows → Q v H'
theorem sc_law_code : FnScope ["draws", "regions", "many", "rows", "k"] ["draws"] (defScope (topS 34)) := ⟨rfl, rfl, rfl, by decide +kernel, rfl, by decide +kernel, by decide +kernel⟩
theorem ok_law_code (T : Txt fa fn K mg (CsOk cs K w)) : Dn P w K mg base CX0 5 "_law_code" ["draws"] (sp_law_code K) := by
  refine mk_dn (d := dOf "_law_code" 34) T 22 22 rfl rfl rfl rfl rfl sc_law_code (by walk_at "len") (fun _ _ _ _ _ _ us hl => match us, hl with | [_], _ => rfl) (fun cdv A outer s H vs Q E hr h => ⟨_, (pss_cons (ps_set (i := 1) sc_law_code.nd rfl (.inr rfl) (pe_callD (K := K) rfl (ok_law_regions T) (hr.mono (by decide)) rfl pass0 (pa_cons (pv 0) pa_nil)))
      (pss_cons (ps_set (i := 2) sc_law_code.nd rfl (.inr rfl) (pe_op (op_addU (K := K) rfl) (pe_op (op_addU (K := K) rfl) pe_int (pe_ixU (K := K) rfl (hu_of hr) (pe_lst (pa_cons pe_int (pa_cons pe_int (pa_cons pe_int pa_nil)))) (pe_callD (K := K) rfl (ok_law_next T) (hr.mono (by decide)) rfl pass0 (pa_cons (pv 0) (pa_cons pe_int pa_nil))))) (pe_callD (K := K) rfl (ok_law_next T) (hr.mono (by decide)) rfl pass0 (pa_cons (pv 0) (pa_cons pe_int pa_nil)))))
      (pss_cons (ps_setLc (i := 3) rfl sc_law_code.nd rfl rfl (sw_true rfl rfl rfl (by decide +kernel)) (pi_r1 rfl (T.free 131 rfl) (pa_cons (pe_op op_sub (pv 2) pe_int) pa_nil)) (blkOk_by (own := [("k", 4)]) (N := ["draws", "regions", "many", "rows", "k"]) (sc := defScope (topS 34)) (by decide +kernel)) (fun _ _ _ _ _ => (pg_name (i := 4) sc_law_code.nd rfl (.inl rfl))) (fun _ _ _ _ _ => pts_nil) (fun _ _ _ _ _ => (pe_callD (K := K) rfl (ok_law_row T) (hr.mono (by decide)) rfl pass0 (pa_cons (pv 0) (pa_cons (pv 4) (pa_cons (pv 2) (pa_cons (pv 1) pa_nil)))))))
      (pss_cons (ps_if (pt_cmpR (op_eqU (K := K) rfl hr.units) (pe_callD (K := K) rfl (ok_law_next T) (hr.mono (by decide)) rfl pass0 (pa_cons (pv 0) (pa_cons pe_int pa_nil))) pe_int (nomark _)) (pss_one (ps_expr (pe_bm PySem.F.plainAttrs_list PySem.F.slot_list_append PySem.F.type_list_append mt_append (pv 3) (pa_cons (pe_tup (pa_cons pe_str (pa_cons (pe_callD (K := K) rfl (ok_law_next T) (hr.mono (by decide)) rfl pass0 (pa_cons (pv 0) (pa_cons (pv 2) pa_nil))) pa_nil))) pa_nil)))) (pss_one (ps_expr (pe_bm PySem.F.plainAttrs_list PySem.F.slot_list_append PySem.F.type_list_append mt_append (pv 3) (pa_cons (pe_tup (pa_cons pe_str (pa_cons (pe_callD (K := K) rfl (ok_law_register T) (hr.mono (by decide)) rfl pass0 (pa_cons (pv 0) pa_nil)) pa_nil))) pa_nil)))))
      (pss_one (ps_ret (pe_tup (pa_cons (pv 1) (pa_cons (pe_callTy (c_tuple (K := K) rfl) rfl (T.free 135 rfl) (by decide +kernel) (pa_cons (pv 3) pa_nil)) pa_nil))))))))), ?_⟩)
  obtain ⟨d, L, rfl, D, hQ⟩ := h
  walk_at "go"
  refine ⟨d, L, rfl, D, fun H1 x rgs k1 D1 ix ro => ?_⟩
  walk_at "go"
  refine use_pk D1 rfl rfl (by simp) (by simp) (fun H2 v k2 D2 hv => ?_)
  obtain ⟨m0, rfl, hm0⟩ : ∃ n : Nat, v = .int (n : Int) ∧ n ≤ 30 := by
    simp only [List.mem_cons, List.not_mem_nil, or_false] at hv
    rcases hv with rfl | rfl | rfl
    · exact ⟨2, rfl, by decide⟩
    · exact ⟨8, rfl, by decide⟩
    · exact ⟨30, rfl, by decide⟩
  walk_at "go"
  refine use_nx D2 (by decide) (fun H3 v3 k3 D3 h30 h31 => ?_)
  have ix3 := D2.im k3 (D1.im k2 ix)
  obtain ⟨many, em, hm1, hm2⟩ : ∃ many : Nat, (1 : Int) + (m0 : Int) + v3 = (many : Int) ∧ 1 ≤ many ∧ many ≤ 50 := ⟨(1 + (m0 : Int) + v3).toNat, by omega, by omega, by omega⟩
  walk_at "go"
  rw [em]
  walk_at "go"
  have e1 : (((many : Nat) : Int) - 1).toNat = many - 1 := by omega
  rw [e1]
  refine l_drawR (P := fun i e => ∃ r, e = Row.d r ∧ RowOkD many i r) (L := L) D3 (by omega) (fun _ => rfl) (fun i H' R L' hi kp D' hR => ?_) (fun Dl H4 us es hDl k4 D4 ims hl hp => ?_)
  · have ix' := D3.im kp ix3
    walk_at "go"
    have e0 : (0 : Int) + (i : Int) = (i : Int) := by omega
    rw [e0]
    refine ⟨d, L', x, rgs, i, many, rfl, D', ix', ro, by omega, fun H5 v5 r k5 D5 i5 r5 => ?_⟩
    exact hR H5 v5 _ k5 D5 i5 ⟨r, rfl, r5⟩
  · obtain ⟨rows, rfl, hrows⟩ := rows_of es 0 (fun i e he => by
      obtain ⟨r, h1, h2⟩ := hp i e he
      exact ⟨r, h1, by rw [Nat.zero_add]; exact h2⟩)
    rw [List.length_map] at hl
    have ix4 := D3.im k4 ix3
    have hus : us.length = many - 1 := by rw [ims.length, List.length_map, hl]
    have kk := ((k1.trans k2).trans k3).trans k4
    have hDl0 : H Dl = none := ((k1.trans k2).trans k3).back hDl (by simpa using D3.ne hDl)
    have at4 := D4.get L.length get_last
    have fin : ∀ (H5 H6 : Hp) (a : Addr) (r : Row), Keep [d] H4 H5 → DrL H5 d (L ++ [(Dl, .lst us)]) → Same H5 H6 → Im H6 (.ref a) r.d → RowOkD many (many - 1) r →
        ∀ (Q' : VK), (∀ (H7 : Hp), Keep [d] H H7 → DrL H7 d (L ++ [(Dl, .lst (us ++ [.ref a]))]) → Im H7 x (rgsD rgs) → Ims H7 (us ++ [.ref a]) ((rows ++ [r]).map Row.d) → CodeOk (rows ++ [r]) → Q' .non H7) → rAppend (.ref Dl) [.ref a] H6 Q' := by
      intro H5 H6 a r k5 D5 s6 im hr Q' hq
      have D6 := D5.same s6
      refine gD_append D6 L.length get_last (by omega) (fun D7 => ?_)
      rw [set_last] at D7
      have nt : NoTup H6 [Dl] := NoTup.one (D6.get L.length get_last) (fun _ e => nomatch e)
      have kD : Keep [Dl] H6 (upd H6 Dl (.lst (us ++ [.ref a]))) := Keep.set (by simp)
      refine hq _ ?_ D7 ?_ ?_ ?_
      · exact ((kk.trans k5).trans (Keep.of s6)).mut hDl0
      · exact ((D4.im k5 ix4).same s6).keep kD nt
      · rw [List.map_append]
        exact ims_snoc (H2 := H6) ((D4.ims k5 ims).same s6) im (D6.get L.length get_last)
      · refine ⟨by simp, by simp; omega, fun k r' hk => ?_⟩
        have el : (rows ++ [r]).length = many := by rw [List.length_append, hl]; simp; omega
        rw [el]
        by_cases hkl : k < rows.length
        · rw [List.getElem?_append_left hkl] at hk
          have := hrows k r' hk
          rw [Nat.zero_add] at this
          exact this
        · have hk2 := (List.getElem?_eq_some_iff.mp hk).1
          rw [el] at hk2
          have ek : k = many - 1 := by omega
          subst ek
          rw [List.getElem?_append_right (by omega), hl, Nat.sub_self] at hk
          cases hk
          exact hr
    walk_at "go"
    refine use_nx D4 (by decide) (fun H5 v5 k5 D5 h50 h51 => ?_)
    have at5 : H5 Dl = some (.lst us) := D5.get L.length get_last
    walk_at "go"
    refine g_if (fun c => ?_) (fun c => ?_)
    · walk_at "go"
      refine use_nx D5 (by omega) (fun H6 v6 k6 D6 h60 h61 => ?_)
      obtain ⟨t, rfl, ht⟩ := nat_of h60 h61
      walk_at "go"
      refine m_new (.cons (.str _) (.cons (.int _) .nil)) (by simp) (fun p H7 s7 hp im => ?_)
      walk_at "go"
      refine fin H6 H7 p (.jump t) (k5.trans k6) D6 s7 im ht _ (fun H8 k8 D8 ix8 ims8 co => ?_)
      walk_at "go"
      refine m_tupleL (SqL.of (D8.get L.length get_last)) ims8 (fun q H9 s9 hq im9 => ?_)
      refine m_new (.cons (ix8.same s9) (.cons im9 .nil)) (by simp) (fun z H10 s10 hz im10 => ?_)
      exact hQ _ _ rgs _ ((k8.trans (Keep.of s9)).trans (Keep.of s10)) (((D8.sub sub_last).same s9).same s10) im10 ro co
    · walk_at "go"
      refine ⟨d, _, rfl, D5, fun H6 a k6 D6 ha => ?_⟩
      walk_at "go"
      refine m_new (.cons (.str _) (.cons (.int _) .nil)) (by simp) (fun p H7 s7 hp im => ?_)
      walk_at "go"
      refine fin H6 H7 p (.stop a) (k5.trans k6) D6 s7 im ha _ (fun H8 k8 D8 ix8 ims8 co => ?_)
      walk_at "go"
      refine m_tupleL (SqL.of (D8.get L.length get_last)) ims8 (fun q H9 s9 hq im9 => ?_)
      refine m_new (.cons (ix8.same s9) (.cons im9 .nil)) (by simp) (fun z H10 s10 hz im10 => ?_)
      exact hQ _ _ rgs _ ((k8.trans (Keep.of s9)).trans (Keep.of s10)) (((D8.sub sub_last).same s9).same s10) im10 ro co
def sp_law_contents (K : PySem.W.Frag) : Sp := fun vs H Q _ => ∃ (d : Addr) (L : List (Addr × HO)) (code : V) (rgs : List Rg) (rows : List Row), vs = [.ref d, code] ∧ DrL H d L ∧ Im H code (codeD rgs rows) ∧ RgsOk rgs ∧ ∀ H' v cs, Keep [d] H H' → DrL H' d L → Im H' v (contD cs) → MemOk rgs cs → Q v H'
theorem sc_law_contents : FnScope ["draws", "code", "base", "label", "size", "k"] ["draws", "code"] (defScope (topS 35)) := ⟨rfl, rfl, rfl, by decide +kernel, rfl, by decide +kernel, by decide +kernel⟩
theorem ok_law_contents (T : Txt fa fn K mg (CsOk cs K w)) : Dn P w K mg base CX0 3 "_law_contents" ["draws", "code"] (sp_law_contents K) := by
  refine mk_dn (d := dOf "_law_contents" 35) T 23 23 rfl rfl rfl rfl rfl sc_law_contents (by walk_at "len") (fun _ _ _ _ _ _ us hl => match us, hl with | [_, _], _ => rfl) (fun cdv A outer s H vs Q E hr h => ⟨_, (pss_one (ps_ret (pe_callTy (c_tuple (K := K) rfl) rfl (T.free 135 rfl) (by decide +kernel) (pa_cons (pe_lc rfl sc_law_contents.nd (pi_seq (K := K) rfl (pe_ixU (K := K) rfl (hu_of hr) (pv 1) pe_int)) (blkOk_by (own := [("base", 2), ("size", 4), ("label", 3)]) (N := ["draws", "code", "base", "label", "size", "k"]) (sc := defScope (topS 35)) (by decide +kernel)) (fun _ _ _ _ _ => (pg_tupU (K := K) (n := 3) rfl rfl (pgs_cons (pg_name (i := 2) sc_law_contents.nd rfl (.inl rfl) (.inr rfl)) (pgs_cons (pg_name (i := 4) sc_law_contents.nd rfl (.inl rfl) (.inr rfl)) (pgs_cons (pg_name (i := 3) sc_law_contents.nd rfl (.inl rfl) (.inr rfl)) pgs_nil))))) (fun _ _ _ _ _ => pts_nil) (fun _ _ _ _ _ => (pe_callTy (c_tuple (K := K) rfl) rfl (T.free 135 rfl) (by decide +kernel) (pa_cons (pe_lc rfl sc_law_contents.nd (pi_r1 rfl (T.free 131 rfl) (pa_cons (pv 4) pa_nil)) (blkOk_by (own := [("k", 5)]) (by kernel_rfl)) (fun _ _ _ _ _ => (pg_name (i := 5) sc_law_contents.nd rfl (.inl rfl))) (fun _ _ _ _ _ => pts_nil) (fun _ _ _ _ _ => (pe_callD (K := K) rfl (ok_law_word T) (hr.mono (by decide)) rfl pass0 (pa_cons (pv 0) pa_nil)))) pa_nil)))) pa_nil)))), ?_⟩)
  obtain ⟨d, L, code, rgs, rows, rfl, D, ic, ro, hQ⟩ := h
  walk_at "go"
  refine m_ix ic (n := 0) rfl rfl (fun x ix => ?_)
  walk_at "go"
  refine m_seq ix (fun a xs e ha his => ?_)
  subst e
  have ru := ro.u
  refine l_drawT (P := fun i e => ∃ c, e = cD c ∧ (∀ g : Rg, rgs[i]? = some g → c.length = g.n) ∧ ∀ x ∈ c, W32 x) (L := L) D ha his (by rw [List.length_map]; omega) (fun i e0 y H1 R L' hi k1 iy D1 hR => ?_) ?_ (fun Dl H1 us es hDl k1 D1 ims hl hp => ?_)
  · rw [List.getElem?_map] at hi
    obtain ⟨g, hg, rfl⟩ := Option.map_eq_some_iff.mp hi
    have zz := ro.n g (List.mem_of_getElem? hg)
    obtain ⟨t, rfl, ht⟩ := im3v iy
    walk_at "go"
    rw [Int.toNat_natCast]
    refine l_drawR (P := fun i e => ∃ x, e = .int x ∧ W32 x) (L := L') D1 (by omega) (fun _ => rfl) (fun j H2 R2 L2 hj k2 D2 hR2 => ?_) (fun Dm H2 us2 es2 hDm k2 D2 ims2 hl2 hp2 => ?_)
    · walk_at "go"
      refine ⟨d, L2, rfl, D2, fun H3 x k3 D3 wx => ?_⟩
      exact hR2 H3 _ _ k3 D3 (.int x) ⟨x, rfl, wx⟩
    · obtain ⟨c, rfl, lc, wc⟩ := ints_of es2 hp2
      walk_at "go"
      refine m_tupleL (SqL.of (D2.get L'.length get_last)) ims2 (fun q H3 s3 hq im3 => ?_)
      refine hR _ _ (cD c) (k2.trans (Keep.of s3)) ((D2.sub sub_last).same s3) im3 ⟨c, rfl, fun g' hg' => ?_, wc⟩
      rw [hg] at hg'
      cases hg'
      rw [lc, hl2]
  · intro y σ1 H1 R R' hh h
    obtain ⟨a, xs, e, h1, h2, h3⟩ := h
    refine ⟨a, xs, e, h1, h2, ?_⟩
    obtain ⟨v1, r1, e1, h3⟩ := h3
    refine ⟨v1, r1, e1, ?_⟩
    obtain ⟨v2, r2, e2, h3⟩ := h3
    refine ⟨v2, r2, e2, ?_⟩
    obtain ⟨v3, r3, e3, h3⟩ := h3
    refine ⟨v3, r3, e3, h3.1, hh _ _ h3.2⟩
  · rw [List.length_map] at hl
    obtain ⟨cs, rfl, i1, i2, i3⟩ := conts_of es rgs hl hp
    walk_at "go"
    refine m_tupleL (SqL.of (D1.get L.length get_last)) ims (fun q H2 s2 hq im2 => ?_)
    exact hQ _ _ cs (k1.trans (Keep.of s2)) ((D1.sub sub_last).same s2) im2 ⟨i1, ro.u, i2, fun g hg => Nat.le_trans (ro.n g hg) (by decide), i3, ro.s⟩
theorem lay_held {rgs : List Rg} {ms : MS} : Lay 2 (.tuple (heldD rgs ms)) := Lay.tup fun d hd => by
  obtain ⟨g, _, rfl⟩ := List.mem_map.mp hd
  refine Lay.tup fun e he => ?_
  obtain ⟨j, _, rfl⟩ := List.mem_map.mp he
  exact Lay.int
theorem lay_res {rgs : List Rg} {p : Option Int × MS} : Lay 3 (.tuple (resD rgs p)) := Lay.tup fun d hd => by
  unfold resD at hd
  simp only [List.mem_cons, List.not_mem_nil, or_false] at hd
  rcases hd with rfl | rfl | rfl
  · refine (Lay.tup (k := 1) fun e he => ?_).mono (by decide)
    obtain ⟨x, _, rfl⟩ := List.mem_map.mp he
    exact Lay.int
  · cases p.1
    · exact Lay.non
    · exact Lay.int
  · exact lay_held


/-! ### the drawn settings, typed -/
def Pol (P : Str) : Prop := P = "lru" ∨ P = "fifo" ∨ P = "plru"
/-- a drawn cache -/
structure CsDr (c : Cs) : Prop where
  ok : CsOk1 c
  s : c.S ≤ 64
  w : c.W = 1 ∨ c.W = 2 ∨ c.W = 4 ∨ c.W = 8
  z : c.Z ≤ 16
  p : Pol c.P
def sp_law_cache (K : PySem.W.Frag) : Sp := fun vs H Q _ => ∃ (d : Addr) (L : List (Addr × HO)), vs = [.ref d] ∧ DrL H d L ∧ ∀ H' v c, Keep [d] H H' → DrL H' d L → Im H' v (Cs.d c) → CsDr c → Q v H'
theorem pw1 (n : Nat) : (1 : Int) * 2 ^ n = ((2 ^ n : Nat) : Int) := by simp
theorem pwS : ∀ k < 7, 0 < 2 ^ k ∧ 2 ^ k ≤ 64 := by decide
theorem pwW : ∀ k < 4, 2 ^ k = 1 ∨ 2 ^ k = 2 ∨ 2 ^ k = 4 ∨ 2 ^ k = 8 := by decide
theorem pwZ : ∀ k < 5, 0 < 2 ^ k ∧ 2 ^ k ≤ 16 := by decide
theorem sc_law_cache : FnScope ["draws", "policy"] ["draws"] (defScope (topS 23)) := ⟨rfl, rfl, rfl, by decide +kernel, rfl, by decide +kernel, by decide +kernel⟩
theorem ok_law_cache (T : Txt fa fn K mg (CsOk cs K w)) : Dn P w K mg base CX0 2 "_law_cache" ["draws"] (sp_law_cache K) := by
  refine mk_dn (d := dOf "_law_cache" 23) T 11 11 rfl rfl rfl rfl rfl sc_law_cache (by walk_at "len") (fun _ _ _ _ _ _ us hl => match us, hl with | [_], _ => rfl) (fun cdv A outer s H vs Q E hr h => ⟨_, (pss_cons (ps_set (i := 1) sc_law_cache.nd rfl (.inl rfl) (pe_ixU (K := K) rfl (hu_of hr) (pe_lst (pa_cons pe_str (pa_cons pe_str (pa_cons pe_str pa_nil)))) (pe_callD (K := K) rfl (ok_law_next T) (hr.mono (by decide)) rfl pass0 (pa_cons (pv 0) (pa_cons pe_int pa_nil)))))
      (pss_one (ps_ret (pe_tup (pa_cons (pe_op o_shl pe_int (pe_ixU (K := K) rfl (hu_of hr) (pe_lst (pa_cons pe_int (pa_cons pe_int (pa_cons pe_int (pa_cons pe_int (pa_cons pe_int (pa_cons pe_int (pa_cons pe_int pa_nil)))))))) (pe_callD (K := K) rfl (ok_law_next T) (hr.mono (by decide)) rfl pass0 (pa_cons (pv 0) (pa_cons pe_int pa_nil))))) (pa_cons (pe_op o_shl pe_int (pe_callD (K := K) rfl (ok_law_next T) (hr.mono (by decide)) rfl pass0 (pa_cons (pv 0) (pa_cons pe_int pa_nil)))) (pa_cons (pe_op o_shl pe_int (pe_callD (K := K) rfl (ok_law_next T) (hr.mono (by decide)) rfl pass0 (pa_cons (pv 0) (pa_cons pe_int pa_nil)))) (pa_cons (pv 1) pa_nil)))))))), ?_⟩)
  obtain ⟨d, L, rfl, D, hQ⟩ := h
  walk_at "go"
  refine use_pk D rfl rfl (by simp) (by simp) (fun H1 v k1 D1 hv => ?_)
  obtain ⟨P, rfl, hP⟩ : ∃ P : Str, v = .str P ∧ Pol P := by
    simp only [List.mem_cons, List.not_mem_nil, or_false] at hv
    rcases hv with rfl | rfl | rfl
    · exact ⟨_, rfl, .inl rfl⟩
    · exact ⟨_, rfl, .inr (.inl rfl)⟩
    · exact ⟨_, rfl, .inr (.inr rfl)⟩
  walk_at "go"
  refine use_pk D1 rfl rfl (by simp) (by simp) (fun H2 v k2 D2 hv => ?_)
  obtain ⟨k, rfl, hk⟩ : ∃ k : Nat, v = .int (k : Int) ∧ k < 7 := by
    simp only [List.mem_cons, List.not_mem_nil, or_false] at hv
    rcases hv with rfl | rfl | rfl | rfl | rfl | rfl | rfl
    · exact ⟨0, rfl, by decide⟩
    · exact ⟨0, rfl, by decide⟩
    · exact ⟨1, rfl, by decide⟩
    · exact ⟨1, rfl, by decide⟩
    · exact ⟨2, rfl, by decide⟩
    · exact ⟨3, rfl, by decide⟩
    · exact ⟨6, rfl, by decide⟩
  walk_at "go"
  refine use_nx D2 (by decide) (fun H3 v3 k3 D3 h30 h31 => ?_)
  obtain ⟨k', rfl, hk'⟩ : ∃ t : Nat, v3 = (t : Int) ∧ t < 4 := ⟨v3.toNat, by omega, by omega⟩
  walk_at "go"
  refine use_nx D3 (by decide) (fun H4 v4 k4 D4 h40 h41 => ?_)
  obtain ⟨k'', rfl, hk''⟩ : ∃ t : Nat, v4 = (t : Int) ∧ t < 5 := ⟨v4.toNat, by omega, by omega⟩
  walk_at "go"
  rw [Int.toNat_natCast, Int.toNat_natCast, Int.toNat_natCast, pw1, pw1, pw1]
  refine m_new (.cons (.int _) (.cons (.int _) (.cons (.int _) (.cons (.str P) .nil)))) (by simp) (fun p H5 s5 hp im => ?_)
  have kk := (((k1.trans k2).trans k3).trans k4).trans (Keep.of s5)
  obtain ⟨a1, a2⟩ := pwS k hk
  obtain ⟨c1, c2⟩ := pwZ k'' hk''
  have b := pwW k' hk'
  exact hQ _ _ ⟨2 ^ k, 2 ^ k', 2 ^ k'', P⟩ kk (D4.same s5) im ⟨⟨a1, by show 2 ^ k ≤ 1000; omega, by show 0 < 2 ^ k'; omega, by show 2 ^ k' ≤ 1000; omega, c1, by show 2 ^ k'' ≤ 1000000; omega⟩, a2, b, c2, hP⟩
def sp_law_predictor (K : PySem.W.Frag) : Sp := fun vs H Q _ => ∃ (d : Addr) (L : List (Addr × HO)), vs = [.ref d] ∧ DrL H d L ∧ ∀ H' v g, Keep [d] H H' → DrL H' d L → Im H' v (Gs.d g) → GsOk g → Q v H'
theorem sc_law_predictor : FnScope ["draws", "pick"] ["draws"] (defScope (topS 24)) := ⟨rfl, rfl, rfl, by decide +kernel, rfl, by decide +kernel, by decide +kernel⟩
theorem ok_law_predictor (T : Txt fa fn K mg (CsOk cs K w)) : Dn P w K mg base CX0 2 "_law_predictor" ["draws"] (sp_law_predictor K) := by
  refine mk_dn (d := dOf "_law_predictor" 24) T 12 12 rfl rfl rfl rfl rfl sc_law_predictor (by walk_at "len") (fun _ _ _ _ _ _ us hl => match us, hl with | [_], _ => rfl) (fun cdv A outer s H vs Q E hr h => ⟨_, (pss_cons (ps_set (i := 1) sc_law_predictor.nd rfl (.inl rfl) (pe_callD (K := K) rfl (ok_law_next T) (hr.mono (by decide)) rfl pass0 (pa_cons (pv 0) (pa_cons pe_int pa_nil))))
      (pss_cons (ps_if (pt_cmpR (op_eqU (K := K) rfl hr.units) (pv 1) pe_int (nomark _)) (pss_one (ps_ret (pe_tup (pa_cons pe_str pa_nil)))) pss_nil)
      (pss_cons (ps_if (pt_cmpR o_lt (pv 1) pe_int (nomark _)) (pss_one (ps_ret (pe_tup (pa_cons pe_str (pa_cons (pe_op o_shl pe_int (pe_callD (K := K) rfl (ok_law_next T) (hr.mono (by decide)) rfl pass0 (pa_cons (pv 0) (pa_cons pe_int pa_nil)))) pa_nil))))) pss_nil)
      (pss_one (ps_ret (pe_tup (pa_cons pe_str (pa_cons (pe_op (op_addU (K := K) rfl) pe_int (pe_callD (K := K) rfl (ok_law_next T) (hr.mono (by decide)) rfl pass0 (pa_cons (pv 0) (pa_cons pe_int pa_nil)))) pa_nil)))))))), ?_⟩)
  obtain ⟨d, L, rfl, D, hQ⟩ := h
  walk_at "go"
  refine use_nx D (by decide) (fun H1 v1 k1 D1 h10 h11 => ?_)
  walk_at "go"
  refine g_if (fun c => ?_) (fun c => ?_)
  · walk_at "go"
    refine m_new (.cons (.str _) .nil) (by simp) (fun p H5 s5 hp im => ?_)
    exact hQ _ _ .taken (k1.trans (Keep.of s5)) (D1.same s5) im trivial
  · walk_at "go"
    refine g_if (fun c => ?_) (fun c => ?_)
    · walk_at "go"
      refine use_nx D1 (by decide) (fun H3 v3 k3 D3 h30 h31 => ?_)
      obtain ⟨n, rfl, hn⟩ : ∃ t : Nat, v3 = (t : Int) ∧ t < 7 := ⟨v3.toNat, by omega, by omega⟩
      walk_at "go"
      rw [Int.toNat_natCast, pw1]
      refine m_new (.cons (.str _) (.cons (.int _) .nil)) (by simp) (fun p H5 s5 hp im => ?_)
      obtain ⟨a1, a2⟩ := pwS n hn
      exact hQ _ _ (.two (2 ^ n)) ((k1.trans k3).trans (Keep.of s5)) (D3.same s5) im ⟨a1, a2⟩
    · walk_at "go"
      refine use_nx D1 (by decide) (fun H3 v3 k3 D3 h30 h31 => ?_)
      obtain ⟨n, rfl, hn⟩ : ∃ t : Nat, v3 = (t : Int) ∧ t < 6 := ⟨v3.toNat, by omega, by omega⟩
      walk_at "go"
      refine m_new (.cons (.str _) (.cons (.int _) .nil)) (by simp) (fun p H5 s5 hp im => ?_)
      have e : (1 + (n : Int)) = ((1 + n : Nat) : Int) := by omega
      rw [e] at im
      exact hQ _ _ (.hist (1 + n)) ((k1.trans k3).trans (Keep.of s5)) (D3.same s5) im ⟨by omega, by omega⟩
def sp_law_before (K : PySem.W.Frag) : Sp := fun vs H Q _ => ∃ (d : Addr) (L : List (Addr × HO)) (rows end_ : Int), vs = [.ref d, .int rows, .int end_] ∧ DrL H d L ∧ 0 ≤ rows ∧ rows ≤ 1000 ∧ 0 ≤ end_ ∧ end_ ≤ 1000 ∧
  ∀ H' v (es : List Pp), Keep [d] H H' → DrL H' d L → Im H' v (.tuple (es.map Pp.d)) → es.length ≤ 12 → Q v H'
theorem sc_law_before : FnScope ["draws", "rows", "end", "parts", "k", "pick"] ["draws", "rows", "end"] (defScope (topS 25)) := ⟨rfl, rfl, rfl, by decide +kernel, rfl, by decide +kernel, by decide +kernel⟩
theorem ok_law_before (T : Txt fa fn K mg (CsOk cs K w)) : Dn P w K mg base CX0 2 "_law_before" ["draws", "rows", "end"] (sp_law_before K) := by
  refine mk_dn (d := dOf "_law_before" 25) T 13 13 rfl rfl rfl rfl rfl sc_law_before (by walk_at "len") (fun _ _ _ _ _ _ us hl => match us, hl with | [_, _, _], _ => rfl) (fun cdv A outer s H vs Q E hr h => ⟨_, (pss_cons (ps_set (i := 3) sc_law_before.nd rfl (.inl rfl) (pe_lst pa_nil))
      (pss_cons (ps_for PassesOwn.never rfl (pi_r1 rfl (T.free 131 rfl) (pa_cons (pe_ixU (K := K) rfl (hu_of hr) (pe_lst (pa_cons pe_int (pa_cons pe_int (pa_cons pe_int (pa_cons pe_int pa_nil))))) (pe_callD (K := K) rfl (ok_law_next T) (hr.mono (by decide)) rfl pass0 (pa_cons (pv 0) (pa_cons pe_int pa_nil)))) pa_nil)) (pg_name (i := 4) sc_law_before.nd rfl (.inl rfl)) (pss_cons (ps_set (i := 5) sc_law_before.nd rfl (.inl rfl) (pe_callD (K := K) rfl (ok_law_next T) (hr.mono (by decide)) rfl pass0 (pa_cons (pv 0) (pa_cons pe_int pa_nil))))
      (pss_one (ps_join (ps_if (pt_cmpR (op_eqU (K := K) rfl hr.units) (pv 5) pe_int (nomark _)) (pss_one (ps_expr (pe_bm PySem.F.plainAttrs_list PySem.F.slot_list_append PySem.F.type_list_append mt_append (pv 3) (pa_cons (pe_tup (pa_cons pe_str (pa_cons (pe_callD (K := K) rfl (ok_law_next T) (hr.mono (by decide)) rfl pass0 (pa_cons (pv 0) (pa_cons (pe_op (op_addU (K := K) rfl) (pv 2) pe_int) pa_nil))) pa_nil))) pa_nil)))) (pss_one (ps_if (pt_cmpR (op_eqU (K := K) rfl hr.units) (pv 5) pe_int (nomark _)) (pss_one (ps_expr (pe_bm PySem.F.plainAttrs_list PySem.F.slot_list_append PySem.F.type_list_append mt_append (pv 3) (pa_cons (pe_tup (pa_cons pe_str (pa_cons (pe_callD (K := K) rfl (ok_law_next T) (hr.mono (by decide)) rfl pass0 (pa_cons (pv 0) (pa_cons (pe_op (op_addU (K := K) rfl) (pv 1) pe_int) pa_nil))) pa_nil))) pa_nil)))) (pss_one (ps_expr (pe_bm PySem.F.plainAttrs_list PySem.F.slot_list_append PySem.F.type_list_append mt_append (pv 3) (pa_cons (pe_tup (pa_cons pe_str (pa_cons (pe_ixU (K := K) rfl (hu_of hr) (pe_lst (pa_cons (pe_callD (K := K) rfl (ok_law_next T) (hr.mono (by decide)) rfl pass0 (pa_cons (pv 0) (pa_cons (pe_op (op_addU (K := K) rfl) (pv 1) pe_int) pa_nil))) (pa_cons (pe_op op_sub pe_int (pe_callD (K := K) rfl (ok_law_next T) (hr.mono (by decide)) rfl pass0 (pa_cons (pv 0) (pa_cons pe_int pa_nil)))) pa_nil))) (pe_callD (K := K) rfl (ok_law_next T) (hr.mono (by decide)) rfl pass0 (pa_cons (pv 0) (pa_cons pe_int pa_nil)))) (pa_cons (pe_cmpR (op_eqU (K := K) rfl hr.units) (pe_callD (K := K) rfl (ok_law_next T) (hr.mono (by decide)) rfl pass0 (pa_cons (pv 0) (pa_cons pe_int pa_nil))) pe_int (nomark _)) pa_nil)))) pa_nil)))))))))))
      (pss_one (ps_ret (pe_callTy (c_tuple (K := K) rfl) rfl (T.free 135 rfl) (by decide +kernel) (pa_cons (pv 3) pa_nil)))))), ?_⟩)
  obtain ⟨d, L, rows, end_, rfl, D, hr0, hr1, he0, he1, hQ⟩ := h
  walk_at "go"
  refine ⟨by decide, fun p hp => ?_⟩
  have D1 := D.new (o := .lst []) hp
  have kp : Keep [d] H _ := Keep.new (o := .lst []) hp
  walk_at "go"
  refine use_pk D1 rfl rfl (by simp) (by simp) (fun H2 v k2 D2 hv => ?_)
  obtain ⟨n, rfl, hn⟩ : ∃ n : Nat, v = .int (n : Int) ∧ n ≤ 12 := by
    simp only [List.mem_cons, List.not_mem_nil, or_false] at hv
    rcases hv with rfl | rfl | rfl | rfl
    · exact ⟨0, rfl, by decide⟩
    · exact ⟨0, rfl, by decide⟩
    · exact ⟨4, rfl, by decide⟩
    · exact ⟨12, rfl, by decide⟩
  walk_at "go"
  rw [Int.toNat_natCast]
  have kp2 := kp.trans k2
  refine f_range (fun i σ H' => ∃ (k pk : Option V) (xs : List V) (es : List Pp), σ = [some (.ref d), some (.int rows), some (.int end_), some (.ref p), k, pk] ∧ Keep [d] H H' ∧ DrL H' d (L ++ [(p, .lst xs)]) ∧ Ims H' xs (es.map Pp.d) ∧ es.length = i)
    ⟨_, _, [], [], rfl, kp2, D2, .nil, rfl⟩ ?_ ?_
  · rintro i σ H3 hi ⟨k, pk, xs, es, rfl, k3, D3, ims, hl⟩
    have hxs := ims.length
    rw [List.length_map] at hxs
    walk_at "go"
    refine use_nx D3 (by decide) (fun H4 v4 k4 D4 h40 h41 => ?_)
    have ims4 := D3.ims k4 ims
    have at4 : H4 p = some (.lst xs) := D4.get L.length get_last
    walk_at "go"
    have fin : ∀ (a : Addr) (e : Pp) (H5 H6 : Hp), Keep [d] H4 H5 → DrL H5 d (L ++ [(p, .lst xs)]) → Same H5 H6 → Im H6 (.ref a) e.d →
        ∀ (Q' : VK), (∀ (H7 : Hp), (∃ (xs : List V) (es : List Pp), Keep [d] H H7 ∧ DrL H7 d (L ++ [(p, .lst xs)]) ∧ Ims H7 xs (es.map Pp.d) ∧ es.length = i + 1) → Q' .non H7) → rAppend (.ref p) [.ref a] H6 Q' := by
      intro a e H5 H6 k5 D5 s6 im Q' hq
      have D6 := D5.same s6
      refine gD_append D6 L.length get_last (by omega) (fun D7 => hq _ ⟨xs ++ [.ref a], es ++ [e], ?_, ?_, ?_, ?_⟩)
      · exact ((((k3.trans k4).trans k5).trans (Keep.of s6))).mut hp
      · rw [set_last] at D7
        exact D7
      · have nt : NoTup H6 [p] := NoTup.one (D6.get L.length get_last) (fun _ e => nomatch e)
        rw [List.map_append]
        exact (((D4.ims k5 ims4).same s6).append (Ims.one im)).keep (Keep.set (List.mem_singleton.mpr rfl)) nt
      · rw [List.length_append, hl]
        rfl
    refine ⟨fun σ' H7 => ∃ (xs : List V) (es : List Pp) (pk : Option V), σ' = [some (.ref d), some (.int rows), some (.int end_), some (.ref p), some (.int (0 + i)), pk] ∧ Keep [d] H H7 ∧ DrL H7 d (L ++ [(p, .lst xs)]) ∧ Ims H7 xs (es.map Pp.d) ∧ es.length = i + 1, ?_, ?_⟩
    · walk_at "go"
      refine g_if (fun c => ?_) (fun c => ?_)
      · walk_at "go"
        refine use_nx D4 (by omega) (fun H5 v5 k5 D5 h50 h51 => ?_)
        walk_at "go"
        refine m_new (.cons (.str _) (.cons (.int _) .nil)) (by simp) (fun a H6 s6 ha im => ?_)
        walk_at "go"
        exact fin a (.data v5) H5 H6 k5 D5 s6 im _ (fun H7 ⟨xs, es, h7⟩ => ⟨xs, es, _, rfl, h7⟩)
      · walk_at "go"
        refine g_if (fun c => ?_) (fun c => ?_)
        · walk_at "go"
          refine use_nx D4 (by omega) (fun H5 v5 k5 D5 h50 h51 => ?_)
          walk_at "go"
          refine m_new (.cons (.str _) (.cons (.int _) .nil)) (by simp) (fun a H6 s6 ha im => ?_)
          walk_at "go"
          exact fin a (.fetch v5) H5 H6 k5 D5 s6 im _ (fun H7 ⟨xs, es, h7⟩ => ⟨xs, es, _, rfl, h7⟩)
        · walk_at "go"
          refine use_nx D4 (by omega) (fun HA vA kA DA hA0 hA1 => ?_)
          walk_at "go"
          refine use_nx DA (by decide) (fun HB vB kB DB hB0 hB1 => ?_)
          walk_at "go"
          refine use_pk DB rfl rfl (by simp) (by simp) (fun H5 w k5' D5 hw => ?_)
          obtain ⟨q, rfl⟩ : ∃ t : Nat, w = .int (t : Int) := by
            simp only [List.mem_cons, List.not_mem_nil, or_false] at hw
            rcases hw with rfl | rfl
            · exact ⟨vA.toNat, by rw [Int.toNat_of_nonneg hA0]⟩
            · exact ⟨(1048576 - vB).toNat, by rw [Int.toNat_of_nonneg (by omega)]⟩
          have k5 := (kA.trans kB).trans k5'
          walk_at "go"
          refine use_nx D5 (by decide) (fun H6 v6 k6 D6 h60 h61 => ?_)
          walk_at "go"
          refine m_new (.cons (.str _) (.cons (.int _) (.cons (.bl _) .nil))) (by simp) (fun a H7 s7 ha im => ?_)
          walk_at "go"
          exact fin a (.br q (decide (v6 = 0))) H6 H7 (k5.trans k6) D6 s7 im _ (fun H8 ⟨xs, es, h7⟩ => ⟨xs, es, _, rfl, h7⟩)
    · rintro σ' H7 ⟨xs, es, pk, rfl, h7⟩
      exact ⟨_, _, xs, es, rfl, h7⟩
  · rintro σ H3 ⟨k, pk, xs, es, rfl, k3, D3, ims, hl⟩
    walk_at "go"
    refine m_tupleL (SqL.of (D3.get L.length get_last)) ims (fun q H4 s4 hq im => ?_)
    exact hQ _ _ es (k3.trans (Keep.of s4)) ((D3.sub sub_last).same s4) im (by omega)
/-- drawn visits -/
structure ViDr (vs : List Vi) : Prop where
  l : vs.length ≤ 10
  a : ∀ v ∈ vs, 0 ≤ v.a
  asc : vs.Pairwise fun v u => v.n ≤ u.n
def sp_law_visits (K : PySem.W.Frag) : Sp := fun vs H Q _ => ∃ (d : Addr) (L : List (Addr × HO)) (end_ : Int), vs = [.ref d, .int end_] ∧ DrL H d L ∧ 0 ≤ end_ ∧ end_ ≤ 1000 ∧
  ∀ H' v es, Keep [d] H H' → DrL H' d L → Im H' v (.tuple (es.map Vi.d)) → ViDr es → Q v H'
theorem sc_law_visits : FnScope ["draws", "end", "visits", "n", "k", "address"] ["draws", "end"] (defScope (topS 26)) := ⟨rfl, rfl, rfl, by decide +kernel, rfl, by decide +kernel, by decide +kernel⟩
theorem ok_law_visits (T : Txt fa fn K mg (CsOk cs K w)) : Dn P w K mg base CX0 2 "_law_visits" ["draws", "end"] (sp_law_visits K) := by
  refine mk_dn (d := dOf "_law_visits" 26) T 14 14 rfl rfl rfl rfl rfl sc_law_visits (by walk_at "len") (fun _ _ _ _ _ _ us hl => match us, hl with | [_, _], _ => rfl) (fun cdv A outer s H vs Q E hr h => ⟨_, (pss_cons (ps_set (i := 2) sc_law_visits.nd rfl (.inl rfl) (pe_lst pa_nil))
      (pss_cons (ps_set (i := 3) sc_law_visits.nd rfl (.inl rfl) pe_int)
      (pss_cons (ps_for PassesOwn.never rfl (pi_r1 rfl (T.free 131 rfl) (pa_cons (pe_ixU (K := K) rfl (hu_of hr) (pe_lst (pa_cons pe_int (pa_cons pe_int (pa_cons pe_int (pa_cons pe_int pa_nil))))) (pe_callD (K := K) rfl (ok_law_next T) (hr.mono (by decide)) rfl pass0 (pa_cons (pv 0) (pa_cons pe_int pa_nil)))) pa_nil)) (pg_name (i := 4) sc_law_visits.nd rfl (.inl rfl)) (pss_cons (ps_set (i := 3) sc_law_visits.nd rfl (.inl rfl) (pe_op (op_addU (K := K) rfl) (pv 3) (pe_callD (K := K) rfl (ok_law_next T) (hr.mono (by decide)) rfl pass0 (pa_cons (pv 0) (pa_cons pe_int pa_nil)))))
      (pss_cons (ps_set (i := 5) sc_law_visits.nd rfl (.inl rfl) (pe_ixU (K := K) rfl (hu_of hr) (pe_lst (pa_cons (pe_callD (K := K) rfl (ok_law_next T) (hr.mono (by decide)) rfl pass0 (pa_cons (pv 0) (pa_cons (pe_op (op_addU (K := K) rfl) (pv 1) pe_int) pa_nil))) (pa_cons (pe_callD (K := K) rfl (ok_law_next T) (hr.mono (by decide)) rfl pass0 (pa_cons (pv 0) (pa_cons (pe_op (op_addU (K := K) rfl) (pv 1) pe_int) pa_nil))) (pa_cons (pe_op op_sub pe_int (pe_callD (K := K) rfl (ok_law_next T) (hr.mono (by decide)) rfl pass0 (pa_cons (pv 0) (pa_cons pe_int pa_nil)))) pa_nil)))) (pe_callD (K := K) rfl (ok_law_next T) (hr.mono (by decide)) rfl pass0 (pa_cons (pv 0) (pa_cons pe_int pa_nil)))))
      (pss_one (ps_expr (pe_bm PySem.F.plainAttrs_list PySem.F.slot_list_append PySem.F.type_list_append mt_append (pv 2) (pa_cons (pe_tup (pa_cons (pv 3) (pa_cons (pe_ixU (K := K) rfl (hu_of hr) (pe_lst (pa_cons pe_str (pa_cons pe_str pa_nil))) (pe_callD (K := K) rfl (ok_law_next T) (hr.mono (by decide)) rfl pass0 (pa_cons (pv 0) (pa_cons pe_int pa_nil)))) (pa_cons (pv 5) pa_nil)))) pa_nil)))))))
      (pss_one (ps_ret (pe_callTy (c_tuple (K := K) rfl) rfl (T.free 135 rfl) (by decide +kernel) (pa_cons (pv 2) pa_nil))))))), ?_⟩)
  obtain ⟨d, L, end_, rfl, D, he0, he1, hQ⟩ := h
  walk_at "go"
  refine ⟨by decide, fun p hp => ?_⟩
  have D1 := D.new (o := .lst []) hp
  have kp : Keep [d] H _ := Keep.new (o := .lst []) hp
  walk_at "go"
  refine use_pk D1 rfl rfl (by simp) (by simp) (fun H2 v k2 D2 hv => ?_)
  obtain ⟨n, rfl, hn⟩ : ∃ n : Nat, v = .int (n : Int) ∧ n ≤ 10 := by
    simp only [List.mem_cons, List.not_mem_nil, or_false] at hv
    rcases hv with rfl | rfl | rfl | rfl
    · exact ⟨0, rfl, by decide⟩
    · exact ⟨0, rfl, by decide⟩
    · exact ⟨3, rfl, by decide⟩
    · exact ⟨10, rfl, by decide⟩
  walk_at "go"
  rw [Int.toNat_natCast]
  have kp2 := kp.trans k2
  refine f_range (fun i σ H' => ∃ (k ad : Option V) (n : Int) (xs : List V) (es : List Vi), σ = [some (.ref d), some (.int end_), some (.ref p), some (.int n), k, ad] ∧ Keep [d] H H' ∧ DrL H' d (L ++ [(p, .lst xs)]) ∧ Ims H' xs (es.map Vi.d) ∧ es.length = i ∧ (∀ v ∈ es, 0 ≤ v.a) ∧ (∀ v ∈ es, v.n ≤ n) ∧ es.Pairwise (fun v u => v.n ≤ u.n))
    ⟨_, _, 0, [], [], rfl, kp2, D2, .nil, rfl, by simp, by simp, .nil⟩ ?_ ?_
  · rintro i σ H3 hi ⟨k, ad, n0, xs, es, rfl, k3, D3, ims, hl, a0, a1, a2⟩
    have hxs := ims.length
    rw [List.length_map] at hxs
    walk_at "go"
    refine use_nx D3 (by decide) (fun H4 v4 k4 D4 h40 h41 => ?_)
    have ims4 := D3.ims k4 ims
    have at4 : H4 p = some (.lst xs) := D4.get L.length get_last
    walk_at "go"
    refine use_nx D4 (by omega) (fun HA vA kA DA hA0 hA1 => ?_)
    walk_at "go"
    refine use_nx DA (by omega) (fun HB vB kB DB hB0 hB1 => ?_)
    walk_at "go"
    refine use_nx DB (by decide) (fun HC vC kC DC hC0 hC1 => ?_)
    walk_at "go"
    refine use_pk DC rfl rfl (by simp) (by simp) (fun H6 w k6' D6 hw => ?_)
    obtain ⟨v6, rfl, h60⟩ : ∃ n : Int, w = .int n ∧ 0 ≤ n := by
      simp only [List.mem_cons, List.not_mem_nil, or_false] at hw
      rcases hw with rfl | rfl | rfl
      · exact ⟨_, rfl, hA0⟩
      · exact ⟨_, rfl, hB0⟩
      · exact ⟨_, rfl, by omega⟩
    have k6 := ((kA.trans kB).trans kC).trans k6'
    have at6 : H6 p = some (.lst xs) := D6.get L.length get_last
    walk_at "go"
    refine use_pk D6 rfl rfl (by simp) (by simp) (fun H5 v k5 D5 hv => ?_)
    obtain ⟨b, rfl⟩ : ∃ b : Bool, v = .str (tdS b) := by
      simp only [List.mem_cons, List.not_mem_nil, or_false] at hv
      rcases hv with rfl | rfl
      · exact ⟨true, rfl⟩
      · exact ⟨false, rfl⟩
    walk_at "go"
    refine m_new (.cons (.int _) (.cons (.str _) (.cons (.int _) .nil))) (by simp) (fun a H7 s7 ha im => ?_)
    walk_at "go"
    have D7 := D5.same s7
    have nt : NoTup H7 [p] := NoTup.one (D7.get L.length get_last) (fun _ e => nomatch e)
    have ims7 := ((D6.ims k5 (D4.ims k6 ims4)).same s7).append (Ims.one im)
    refine gD_append D7 L.length get_last (by omega) (fun D8 => ?_)
    walk_at "go"
    rw [set_last] at D8
    refine ⟨_, _, n0 + v4, xs ++ [.ref a], es ++ [⟨n0 + v4, b, v6⟩], rfl, (((((k3.trans k4).trans k6).trans k5).trans (Keep.of s7))).mut hp, D8, by rw [List.map_append]; exact ims7.keep (Keep.set (List.mem_singleton.mpr rfl)) nt, by rw [List.length_append, hl]; rfl, all_snoc a0 h60, all_snoc (fun v hv => by have := a1 v hv; omega) (Int.le_refl _), ?_⟩
    rw [List.pairwise_append]
    refine ⟨a2, List.pairwise_singleton _ _, fun v hv u hu => ?_⟩
    rw [List.mem_singleton.mp hu]
    have := a1 v hv
    show v.n ≤ n0 + v4
    omega
  · rintro σ H3 ⟨k, ad, n0, xs, es, rfl, k3, D3, ims, hl, a0, a1, a2⟩
    walk_at "go"
    refine m_tupleL (SqL.of (D3.get L.length get_last)) ims (fun q H4 s4 hq im => ?_)
    exact hQ _ _ es (k3.trans (Keep.of s4)) ((D3.sub sub_last).same s4) im ⟨by omega, a0, a2⟩

/-- drawn settings -/
structure SeDr (t : Sett) : Prop where
  dc : CsDr t.dc
  fc : CsDr t.fc
  g : GsOk t.g
  d0 : 0 ≤ t.dep
  d1 : t.dep ≤ 64
  m0 : 0 ≤ t.miss
  m1 : t.miss ≤ 100
  w0 : 1 ≤ t.wrong
  w1 : t.wrong ≤ 100
  b : t.bef.length ≤ 12
  v : ViDr t.vis
theorem SeDr.ok {t : Sett} (h : SeDr t) : SettOk t := ⟨h.dc.ok, h.fc.ok, h.g, h.d0, h.d1, by have := h.v.l; omega⟩
def sp_law_settings (K : PySem.W.Frag) : Sp := fun vs H Q _ => ∃ (d : Addr) (L : List (Addr × HO)) (rows end_ deep : Int), vs = [.ref d, .int rows, .int end_, .int deep] ∧ DrL H d L ∧ 0 ≤ rows ∧ rows ≤ 1000 ∧ 0 ≤ end_ ∧ end_ ≤ 1000 ∧ 0 ≤ deep ∧ deep ≤ 64 ∧
  ∀ H' v t, Keep [d] H H' → DrL H' d L → Im H' v (Sett.d t) → SeDr t → Q v H'
theorem sc_law_settings : FnScope ["draws", "rows", "end", "deepest", "data", "fetch", "guess", "depth", "costs"] ["draws", "rows", "end", "deepest"] (defScope (topS 27)) := ⟨rfl, rfl, rfl, by decide +kernel, rfl, by decide +kernel, by decide +kernel⟩
theorem ok_law_settings (T : Txt fa fn K mg (CsOk cs K w)) : Dn P w K mg base CX0 3 "_law_settings" ["draws", "rows", "end", "deepest"] (sp_law_settings K) := by
  refine mk_dn (d := dOf "_law_settings" 27) T 15 15 rfl rfl rfl rfl rfl sc_law_settings (by walk_at "len") (fun _ _ _ _ _ _ us hl => match us, hl with | [_, _, _, _], _ => rfl) (fun cdv A outer s H vs Q E hr h => ⟨_, (pss_cons (ps_set (i := 4) sc_law_settings.nd rfl (.inl rfl) (pe_callD (K := K) rfl (ok_law_cache T) (hr.mono (by decide)) rfl pass0 (pa_cons (pv 0) pa_nil)))
      (pss_cons (ps_set (i := 5) sc_law_settings.nd rfl (.inl rfl) (pe_callD (K := K) rfl (ok_law_cache T) (hr.mono (by decide)) rfl pass0 (pa_cons (pv 0) pa_nil)))
      (pss_cons (ps_set (i := 6) sc_law_settings.nd rfl (.inl rfl) (pe_callD (K := K) rfl (ok_law_predictor T) (hr.mono (by decide)) rfl pass0 (pa_cons (pv 0) pa_nil)))
      (pss_cons (ps_set (i := 7) sc_law_settings.nd rfl (.inl rfl) (pe_ixU (K := K) rfl (hu_of hr) (pe_lst (pa_cons pe_int (pa_cons pe_int (pa_cons pe_int (pa_cons (pv 3) pa_nil))))) (pe_callD (K := K) rfl (ok_law_next T) (hr.mono (by decide)) rfl pass0 (pa_cons (pv 0) (pa_cons pe_int pa_nil)))))
      (pss_cons (ps_set (i := 8) sc_law_settings.nd rfl (.inl rfl) (pe_tup (pa_cons (pe_ixU (K := K) rfl (hu_of hr) (pe_lst (pa_cons pe_int (pa_cons pe_int (pa_cons pe_int (pa_cons pe_int (pa_cons pe_int pa_nil)))))) (pe_callD (K := K) rfl (ok_law_next T) (hr.mono (by decide)) rfl pass0 (pa_cons (pv 0) (pa_cons pe_int pa_nil)))) (pa_cons (pe_ixU (K := K) rfl (hu_of hr) (pe_lst (pa_cons pe_int (pa_cons pe_int (pa_cons pe_int (pa_cons pe_int (pa_cons pe_int pa_nil)))))) (pe_callD (K := K) rfl (ok_law_next T) (hr.mono (by decide)) rfl pass0 (pa_cons (pv 0) (pa_cons pe_int pa_nil)))) pa_nil))))
      (pss_one (ps_ret (pe_tup (pa_cons (pv 4) (pa_cons (pv 5) (pa_cons (pv 6) (pa_cons (pv 7) (pa_cons (pv 8) (pa_cons (pe_callD (K := K) rfl (ok_law_before T) (hr.mono (by decide)) rfl pass0 (pa_cons (pv 0) (pa_cons (pv 1) (pa_cons (pv 2) pa_nil)))) (pa_cons (pe_callD (K := K) rfl (ok_law_visits T) (hr.mono (by decide)) rfl pass0 (pa_cons (pv 0) (pa_cons (pv 2) pa_nil))) pa_nil))))))))))))))), ?_⟩)
  obtain ⟨d, L, rows, end_, deep, rfl, D, hr0, hr1, he0, he1, hd0, hd1, hQ⟩ := h
  walk_at "go"
  refine ⟨d, L, rfl, D, fun H1 v1 e1 k1 D1 i1 c1 => ?_⟩
  walk_at "go"
  refine ⟨d, L, rfl, D1, fun H2 v2 e2 k2 D2 i2 c2 => ?_⟩
  walk_at "go"
  refine ⟨d, L, rfl, D2, fun H3 v3 e3 k3 D3 i3 c3 => ?_⟩
  walk_at "go"
  refine use_pk D3 rfl rfl (by simp) (by simp) (fun H4 v k4 D4 hv => ?_)
  obtain ⟨n4, rfl, h40, h41⟩ : ∃ n : Int, v = .int n ∧ 0 ≤ n ∧ n ≤ 64 := by
    simp only [List.mem_cons, List.not_mem_nil, or_false] at hv
    rcases hv with rfl | rfl | rfl | rfl
    · exact ⟨_, rfl, by decide, by decide⟩
    · exact ⟨_, rfl, by decide, by decide⟩
    · exact ⟨_, rfl, by decide, by decide⟩
    · exact ⟨_, rfl, hd0, hd1⟩
  walk_at "go"
  refine use_pk D4 rfl rfl (by simp) (by simp) (fun H5 v k5 D5 hv => ?_)
  obtain ⟨n5, rfl, h50, h51⟩ : ∃ n : Int, v = .int n ∧ 0 ≤ n ∧ n ≤ 100 := by
    simp only [List.mem_cons, List.not_mem_nil, or_false] at hv
    rcases hv with rfl | rfl | rfl | rfl | rfl <;> exact ⟨_, rfl, by decide, by decide⟩
  walk_at "go"
  refine use_pk D5 rfl rfl (by simp) (by simp) (fun H6 v k6 D6 hv => ?_)
  obtain ⟨n6, rfl, h60, h61⟩ : ∃ n : Int, v = .int n ∧ 1 ≤ n ∧ n ≤ 100 := by
    simp only [List.mem_cons, List.not_mem_nil, or_false] at hv
    rcases hv with rfl | rfl | rfl | rfl | rfl <;> exact ⟨_, rfl, by decide, by decide⟩
  walk_at "go"
  refine m_new (.cons (.int _) (.cons (.int _) .nil)) (by simp) (fun a H7 s7 ha i7 => ?_)
  have D7 := D6.same s7
  walk_at "go"
  refine ⟨d, L, rows, end_, rfl, D7, hr0, hr1, he0, he1, fun H8 v8 e8 k8 D8 i8 c8 => ?_⟩
  walk_at "go"
  refine ⟨d, L, end_, rfl, D8, he0, he1, fun H9 v9 e9 k9 D9 i9 c9 => ?_⟩
  have g1 := D8.im k9 (D7.im k8 ((D5.im k6 (D4.im k5 (D3.im k4 (D2.im k3 (D1.im k2 i1))))).same s7))
  have g2 := D8.im k9 (D7.im k8 ((D5.im k6 (D4.im k5 (D3.im k4 (D2.im k3 i2)))).same s7))
  have g3 := D8.im k9 (D7.im k8 ((D5.im k6 (D4.im k5 (D3.im k4 i3))).same s7))
  have g7 := D8.im k9 (D7.im k8 i7)
  have g8 := D8.im k9 i8
  refine m_new (.cons g1 (.cons g2 (.cons g3 (.cons (.int _) (.cons g7 (.cons g8 (.cons i9 .nil))))))) (by simp) (fun q H10 s10 hq im => ?_)
  have kk := ((((((((k1.trans k2).trans k3).trans k4).trans k5).trans k6).trans (Keep.of s7)).trans k8).trans k9).trans (Keep.of s10)
  exact hQ _ _ ⟨e1, e2, e3, n4, n5, n6, e8, e9⟩ kk (D9.same s10) im ⟨c1, c2, c3, h40, h41, h50, h51, h60, h61, c8, c9⟩


/-! ### values, events -/
theorem work_do {r : Row} {ms : MS} : workS r ms false = doRow ms r := by cases r <;> rfl
theorem aft_next {r : Row} {ms : MS} {a : Nat} (h : wrkR r = true) : aftM r a false = nextAt (doRow ms r) a r := by
  cases r <;> first | rfl | (cases h; done)
theorem aft_br {ms : MS} {a p t : Nat} : aftM (.branch p t) a (decide (¬ rgV ms p = 0)) = nextAt ms a (.branch p t) := by
  show (if decide (¬ rgV ms p = 0) = true then t else a + 1) = if rgV ms p = 0 then a + 1 else t
  by_cases h : rgV ms p = 0
  · rw [if_pos h, decide_eq_false (by simpa using h)]
    rfl
  · rw [if_neg h, decide_eq_true h]
    rfl
theorem runM_some {rows : List Row} {n a : Nat} {ms : MS} {r : Row} (h : rows[a]? = some r) (hs : isStop r = false) : runM rows (n + 1) a ms = runM rows n (nextAt (doRow ms r) a r) (doRow ms r) := by
  show (match rows[a]? with
    | some (.stop a) => (some (rgV ms a), ms)
    | some r => runM rows n (nextAt (doRow ms r) a r) (doRow ms r)
    | none => (none, ms)) = _
  rw [h]
  cases r <;> first | rfl | cases hs
theorem runM_stop {rows : List Row} {n a p : Nat} {ms : MS} (h : rows[a]? = some (.stop p)) : runM rows (n + 1) a ms = (some (rgV ms p), ms) := by
  show (match rows[a]? with
    | some (.stop a) => (some (rgV ms a), ms)
    | some r => runM rows n (nextAt (doRow ms r) a r) (doRow ms r)
    | none => (none, ms)) = _
  rw [h]
theorem runM_none {rows : List Row} {n a : Nat} {ms : MS} (h : rows[a]? = none) : runM rows (n + 1) a ms = (none, ms) := by
  show (match rows[a]? with
    | some (.stop a) => (some (rgV ms a), ms)
    | some r => runM rows n (nextAt (doRow ms r) a r) (doRow ms r)
    | none => (none, ms)) = _
  rw [h]
theorem run_none {k : MK} {n a : Nat} {ms : MS} {rd : List Int} {mc : MC} (h : k.rows[a]? = none) : runMM k (n + 1) a ms rd mc = (none, ms, mc) := by
  show (match k.rows[a]? with | none => _ | some r => _) = _
  rw [h]
theorem row_kinds (r : Row) : (∃ p, r = .stop p) ∨ (∃ p t, r = .branch p t) ∨ (wrkR r = true ∧ isStop r = false ∧ isBr r = false) := by
  cases r <;> first | exact .inl ⟨_, rfl⟩ | exact .inr (.inl ⟨_, _, rfl⟩) | exact .inr (.inr ⟨rfl, rfl, rfl⟩)
/-- the machine gives what the plain run gives -/
theorem run_vals {k : MK} : ∀ (n a : Nat) (ms : MS) (rd : List Int) (mc : MC), ((runMM k n a ms rd mc).1, (runMM k n a ms rd mc).2.1) = runM k.rows n a ms
  | 0, _, _, _, _ => rfl
  | n + 1, a, ms, rd, mc => by
    cases h : k.rows[a]? with
    | none => rw [run_none h, runM_none h]
    | some r =>
      rcases row_kinds r with ⟨p, rfl⟩ | ⟨p, t, rfl⟩ | ⟨h1, h2, h3⟩
      · rw [run_stop h, runM_stop h]
      · rw [run_br h, runM_some h rfl, run_vals n, aft_br]
        rfl
      · rw [run_wk h h1, runM_some h h2, run_vals n, work_do, aft_next h1]
def evO : Ev → Option Int
  | .out _ x => some x
  | _ => none
def evS : Ev → Bool
  | .stop _ => true
  | _ => false
def outsT (tr : List Ev) : List Int := tr.filterMap evO
/-- more events, none of which puts out or stops -/
def Qt (mc mc' : MC) : Prop := ∃ l, mc'.tr = mc.tr ++ l ∧ ∀ e ∈ l, evO e = none ∧ evS e = false
section
variable {k : MK} {mc mc' mc2 : MC} {r : Row} {ms : MS} {rd : List Int} {a : Nat} {x : Int} {t : Bool}
theorem Qt.refl : Qt mc mc := ⟨[], by simp, by simp⟩
theorem Qt.trans (h : Qt mc mc') (g : Qt mc' mc2) : Qt mc mc2 := by
  obtain ⟨l, h1, h2⟩ := h
  obtain ⟨m, g1, g2⟩ := g
  refine ⟨l ++ m, by rw [g1, h1, List.append_assoc], fun e he => ?_⟩
  rcases List.mem_append.mp he with he | he
  · exact h2 e he
  · exact g2 e he
theorem Qt.one {e : Ev} (h : mc'.tr = mc.tr ++ [e]) (h1 : evO e = none) (h2 : evS e = false) : Qt mc mc' := ⟨[e], h, fun f hf => by
  rw [List.mem_singleton.mp hf]
  exact ⟨h1, h2⟩⟩
theorem Qt.eq (h : mc'.tr = mc.tr) : Qt mc mc' := ⟨[], by rw [h, List.append_nil], by simp⟩
theorem qt_go : ∀ (l : List Vi) {mc : MC}, Qt mc (goVis l mc)
  | [], _ => Qt.refl
  | v :: l, mc => by
    rw [goVis_cons]
    split
    · exact (Qt.one (mc' := { visM mc v with vi := mc.vi + 1 }) rfl rfl rfl).trans (qt_go l)
    · exact Qt.refl
theorem qt_fetch : Qt mc (fetchM k mc a) := (qt_go _).trans (Qt.one (mc' := fetchM k mc a) rfl rfl rfl)
theorem qt_wait : Qt mc (waitM r rd mc) := Qt.eq rfl
theorem qt_tou : Qt mc (touM mc x) := Qt.one rfl rfl rfl
theorem qt_gue : Qt mc (gueM mc a) := Qt.one rfl rfl rfl
theorem qt_work : Qt mc (workC r ms true mc) := match r with
  | .load _ _ _ _ => qt_tou
  | .store _ _ _ _ => Qt.refl
  | .out _ => Qt.refl
  | .const _ _ => Qt.refl
  | .op _ _ _ _ => Qt.refl
  | .select _ _ _ _ => Qt.refl
  | .jump _ => Qt.refl
  | .branch _ _ => Qt.refl
  | .stop _ => Qt.refl
theorem qt_wrong {en : Int} : ∀ (n : Nat) {a : Nat} {ms : MS} {rd : List Int} {mc : MC}, Qt mc (wrongM k en n a ms rd mc)
  | 0, _, _, _, _ => Qt.refl
  | n + 1, a, ms, rd, mc => by
    unfold wrongM
    split
    · split
      · exact Qt.refl
      · rename_i r hr
        have h2 : Qt mc (waitM r rd (fetchM k mc a)) := qt_fetch.trans qt_wait
        show Qt mc (if _ then _ else if _ then _ else _)
        split
        · exact h2
        · split
          · exact (h2.trans (qt_gue.trans (Qt.eq rfl))).trans (qt_wrong n)
          · exact (h2.trans (qt_work.trans (Qt.eq rfl))).trans (qt_wrong n)
    · exact Qt.refl
theorem qt_lrn : Qt mc (lrnM mc a t) := Qt.eq rfl
theorem qt_br {p : Nat} : Qt mc (brM k r a p ms rd mc) := by
  unfold brM
  refine Qt.trans ?_ qt_lrn
  show Qt mc (if _ then _ else _)
  split
  · exact qt_gue.trans (Qt.eq rfl)
  · have q1 : Qt mc ({ gueM mc a with ck := mc.ck + 1 } : MC) := (qt_gue (a := a)).trans (Qt.eq rfl)
    have q2 := q1.trans (qt_wrong (k := k) (en := mx mc.ck (rdAt rd p) + k.wrong) k.dep.toNat (a := aftM r a (gueV mc a)) (ms := ms) (rd := rd))
    exact q2.trans (Qt.one (e := .back (mx mc.ck (rdAt rd p) + k.wrong) a) rfl rfl rfl)
theorem Qt.outs (h : Qt mc mc') : outsT mc'.tr = outsT mc.tr := by
  obtain ⟨l, h1, h2⟩ := h
  unfold outsT
  rw [h1, List.filterMap_append]
  have : l.filterMap evO = [] := List.filterMap_eq_nil_iff.mpr fun e he => (h2 e he).1
  rw [this, List.append_nil]
def noStop (tr : List Ev) : Prop := ∀ e ∈ tr, evS e = false
theorem Qt.stop (h : Qt mc mc') (g : noStop mc.tr) : noStop mc'.tr := fun e he => by
  obtain ⟨l, h1, h2⟩ := h
  rw [h1] at he
  rcases List.mem_append.mp he with he | he
  · exact g e he
  · exact (h2 e he).2
end
/-- the events at the end of a run -/
def EndT (p : Option Int × MS × MC) : Prop := outsT p.2.2.tr = p.2.1.ou ∧ match p.1 with
  | some _ => ∃ t c, p.2.2.tr = t ++ [.stop c] ∧ noStop t
  | none => noStop p.2.2.tr
theorem work_outs {r : Row} {ms : MS} {mc : MC} (h : outsT mc.tr = ms.ou) : outsT (workC r ms false mc).tr = (workS r ms false).ou := by
  cases r <;> first | exact h | (exact (qt_tou.outs).trans h) | skip
  show outsT (mc.tr ++ [.out mc.ck _]) = ms.ou ++ [_]
  unfold outsT
  rw [List.filterMap_append]
  show outsT mc.tr ++ _ = _
  rw [h]
  rfl
theorem work_stop {r : Row} {ms : MS} {mc : MC} (h : noStop mc.tr) : noStop (workC r ms false mc).tr := by
  cases r <;> first | exact h | exact qt_tou.stop h | skip
  intro e he
  have he : e ∈ mc.tr ++ [.out mc.ck _] := he
  rcases List.mem_append.mp he with he | he
  · exact h e he
  · rw [List.mem_singleton.mp he]
    rfl
theorem run_end {k : MK} : ∀ (n a : Nat) (ms : MS) (rd : List Int) (mc : MC), outsT mc.tr = ms.ou → noStop mc.tr → EndT (runMM k n a ms rd mc)
  | 0, _, _, _, _, h1, h2 => ⟨h1, h2⟩
  | n + 1, a, ms, rd, mc, h1, h2 => by
    cases h : k.rows[a]? with
    | none =>
      rw [run_none h]
      exact ⟨h1, h2⟩
    | some r =>
      have q : Qt mc (waitM r rd (fetchM k mc a)) := qt_fetch.trans qt_wait
      rcases row_kinds r with ⟨p, rfl⟩ | ⟨p, t, rfl⟩ | ⟨k1, k2, k3⟩
      · rw [run_stop h]
        refine ⟨?_, _, _, rfl, q.stop h2⟩
        show outsT ((waitM (.stop p) rd (fetchM k mc a)).tr ++ [_]) = ms.ou
        unfold outsT
        rw [List.filterMap_append]
        show outsT (waitM (.stop p) rd (fetchM k mc a)).tr ++ [] = ms.ou
        rw [List.append_nil, q.outs, h1]
      · rw [run_br h]
        have q2 := q.trans (qt_br (k := k) (r := .branch p t) (a := a) (p := p) (ms := ms) (rd := rd))
        exact run_end n _ _ _ _ (q2.outs.trans h1) (q2.stop h2)
      · rw [run_wk h k1]
        exact run_end n _ _ _ _ (work_outs (q.outs.trans h1)) (work_stop (q.stop h2))
theorem mach_end {t : Sett} {rows : List Row} {rgs : List Rg} {cs : List (List Int)} {n : Nat} : EndT (machR t rows rgs cs n) := by
  obtain ⟨_, _, _, htr⟩ := pres_keep t.bef (mc00 t)
  have htr : (mc0 t).tr = [] := htr
  refine run_end n 0 _ _ _ ?_ ?_
  · rw [htr]
    rfl
  · rw [htr]
    intro e he
    cases he
theorem mach_vals {t : Sett} {rows : List Row} {rgs : List Rg} {cs : List (List Int)} {n : Nat} : ((machR t rows rgs cs n).1, (machR t rows rgs cs n).2.1) = runM rows n 0 (ms0 rgs cs) := run_vals n 0 _ _ _
theorem szb {n : Nat} (h : n ≤ 16000000) : n < sizeLine := Nat.lt_of_le_of_lt h (by decide)
def Ev.nm : Ev → Str
  | .visit t _ _ _ => tdS t
  | .fetch _ _ _ => "fetch"
  | .data _ _ _ => "data"
  | .out _ _ => "out"
  | .guess _ _ _ => "guess"
  | .back _ _ => "back"
  | .stop _ => "stop"
theorem ev0 {H : Hp} {x : V} {e : Ev} (h : Im H x e.d) : ∃ ds, Im H x (.tuple (.str e.nm :: ds)) := by
  cases e <;> exact ⟨_, h⟩
theorem ev_out {e : Ev} : e.nm = "out" ↔ (evO e).isSome = true := by
  cases e with
  | visit t c l f => cases t <;> simp only [Ev.nm, evO, tdS] <;> decide +kernel
  | out c x => exact ⟨fun _ => rfl, fun _ => rfl⟩
  | _ => simp only [Ev.nm, evO] <;> decide +kernel
theorem ev_stop {e : Ev} : e.nm = "stop" ↔ evS e = true := by
  cases e with
  | visit t c l f => cases t <;> simp only [Ev.nm, evS, tdS] <;> decide +kernel
  | _ => simp only [Ev.nm, evS] <;> decide +kernel
theorem ims_int_inv {H : Hp} : ∀ {us : List V} {ns : List Int}, Ims H us (ns.map .int) → us = ns.map V.int
  | _, [], h => by
    rw [h.nil_inv]
    rfl
  | _, n :: ns, h => by
    obtain ⟨v, ws, rfl, i1, i2⟩ := h.cons_inv
    obtain rfl := i1.int_inv
    rw [ims_int_inv i2]
    rfl


/-! ### the model of the law: a log for each set -/
abbrev Log := List (Nat × Bool)
def entD (e : Nat × Bool) : PyData := .tuple [.int e.1, .bool e.2]
/-- the last touched place between f and e, of a log read backwards -/
def laR (f e : Nat) : Log → Int
  | [] => -1
  | (p, _) :: l => if f ≤ p ∧ p < e then (p : Int) else laR f e l
abbrev laV (log : Log) (f e : Nat) : Int := laR f e log.reverse
def pdGo (log : Log) : Nat → Nat → Nat → Nat
  | 0, first, _ => first
  | f + 1, first, size => if 1 < size then (if 0 ≤ laV log first (first + 2 * (size / 2)) ∧ laV log first (first + 2 * (size / 2)) < first + (size / 2 : Nat) then pdGo log f (first + size / 2) (size / 2) else pdGo log f first (size / 2)) else first
abbrev pdV (log : Log) (W : Nat) : Nat := pdGo log W 0 W
/-- the last moment of a place -/
def moR (place : Nat) (lru : Bool) : Log → Int
  | [] => -1
  | (p, b) :: l => if p = place ∧ (lru = true ∨ b = true) then (l.length : Int) else moR place lru l
abbrev moV (log : Log) (place : Nat) (lru : Bool) : Int := moR place lru log.reverse
def moL (log : Log) (W : Nat) (lru : Bool) : List Int := (List.range W).map fun p => moV log p lru
def viV (log : Log) (W : Nat) (P : Str) : Nat := if P = "plru" then pdV log W else mnI (moL log W (decide (P = "lru")))

def sp_law_last (K : PySem.W.Frag) : Sp := fun vs H Q _ => ∃ (a : Addr) (xs : List V) (log : Log) (f e : Nat), vs = [.ref a, .int f, .int e] ∧ H a = some (.lst xs) ∧ Ims H xs (log.map entD) ∧ log.length ≤ 100000 ∧ Q (.int (laV log f e)) H
theorem rev_drop {α : Type} {l : List α} {k : Nat} (h : k < l.length) : l.reverse.drop k = l[l.length - 1 - k]'(by omega) :: l.reverse.drop (k + 1) := by
  rw [List.drop_eq_getElem_cons (by simpa using h), List.getElem_reverse]
theorem sc_law_last : FnScope ["log", "first", "end", "k", "place"] ["log", "first", "end"] (defScope (topS 37)) := ⟨rfl, rfl, rfl, by decide +kernel, rfl, by decide +kernel, by decide +kernel⟩
theorem ok_law_last (T : Txt fa fn K mg (CsOk cs K w)) : Dn P w K mg base CX0 1 "_law_last" ["log", "first", "end"] (sp_law_last K) := by
  refine mk_dn (d := dOf "_law_last" 37) T 25 25 rfl rfl rfl rfl rfl sc_law_last (by walk_at "len") (fun _ _ _ _ _ _ us hl => match us, hl with | [_, _, _], _ => rfl) (fun cdv A outer s H vs Q E hr h => ⟨_, (pss_cons (ps_for PassesOwn.never rfl (pi_r1 rfl (T.free 131 rfl) (pa_cons (pe_callB (c_len (K := K) rfl) rfl (T.free 127 rfl) (by decide +kernel) (pa_cons (pv 0) pa_nil)) pa_nil)) (pg_name (i := 3) sc_law_last.nd rfl (.inl rfl)) (pss_cons (ps_set (i := 4) sc_law_last.nd rfl (.inl rfl) (pe_ixU (K := K) rfl (hu_of hr) (pe_ixU (K := K) rfl (hu_of hr) (pv 0) (pe_op op_sub (pe_op op_sub (pe_callB (c_len (K := K) rfl) rfl (T.free 127 rfl) (by decide +kernel) (pa_cons (pv 0) pa_nil)) pe_int) (pv 3))) pe_int))
      (pss_one (ps_if (pt_chain o_le o_lt (pv 1) (pv 4) (pv 2)) (pss_one (ps_ret (pv 4))) pss_nil))))
      (pss_one (ps_ret (pe_un un_neg pe_int)))), ?_⟩)
  obtain ⟨a, xs, log, f, e, rfl, hx, hI, hB, hQ⟩ := h
  have hL : xs.length = log.length := by rw [hI.length, List.length_map]
  walk_at "go"
  refine f_range (fun i σ H' => ∃ (k p : Option V), σ = [some (.ref a), some (.int f), some (.int e), k, p] ∧ H' = H ∧ laR f e (log.reverse.drop i) = laV log f e) ⟨_, _, rfl, rfl, rfl⟩ ?_ ?_
  · rintro i σ H' hi ⟨k, p, rfl, rfl, hv⟩
    rw [Int.toNat_natCast] at hi
    walk_at "go"
    have hi' : i < log.length := by omega
    have hn : (0 : Int) + i = i := by omega
    have e1 : ((xs.length : Int) - 1 - ((0 : Int) + (i : Int))) = ((log.length - 1 - i : Nat) : Int) := by omega
    obtain ⟨v, hv1, hv2⟩ := hI.get (n := log.length - 1 - i) (d := entD (log[log.length - 1 - i]'(by omega))) (by rw [List.getElem?_map, List.getElem?_eq_getElem (by omega)]; rfl)
    rw [rev_drop hi'] at hv
    generalize log[log.length - 1 - i]'(by omega) = en at hv hv2
    obtain ⟨pp, bb⟩ := en
    refine g_ixL (SqL.of hx) e1 hv1 ?_
    walk_at "go"
    refine m_ix hv2 (n := 0) rfl rfl ?_
    intro v hv3
    have hv4 := hv3.int_inv
    subst hv4
    walk_at "go"
    have hv : (if f ≤ pp ∧ pp < e then (pp : Int) else laR f e (log.reverse.drop (i + 1))) = laV log f e := hv
    refine g_if (fun h1 => ?_) (fun h1 => ?_)
    · walk_at "go"
      refine g_if (fun h2 => ?_) (fun h2 => ?_)
      · walk_at "go"
        rw [if_pos ⟨by omega, by omega⟩] at hv
        rw [← hv] at hQ
        exact hQ
      · walk_at "go"
        rw [if_neg (by omega)] at hv
        exact ⟨_, _, rfl, rfl, hv⟩
    · walk_at "go"
      rw [if_neg (by omega)] at hv
      exact ⟨_, _, rfl, rfl, hv⟩
  · rintro σ H' ⟨k, p, rfl, rfl, hv⟩
    rw [Int.toNat_natCast] at hv
    walk_at "go"
    rw [hL, List.drop_of_length_le (by simp)] at hv
    rw [← hv] at hQ
    exact hQ

def sp_law_pointed (K : PySem.W.Frag) : Sp := fun vs H Q _ => ∃ (a : Addr) (xs : List V) (log : Log) (W : Nat), vs = [.ref a, .int W] ∧ H a = some (.lst xs) ∧ Ims H xs (log.map entD) ∧ log.length ≤ 100000 ∧ W ≤ 1000 ∧ Q (.int (pdV log W : Nat)) H
theorem pdGo_end {log : Log} {f first size : Nat} (h : size ≤ 1) : pdGo log f first size = first := by
  cases f with
  | zero => rfl
  | succ f => unfold pdGo; rw [if_neg (by omega)]
theorem sc_law_pointed : FnScope ["log", "ways", "first", "size", "last"] ["log", "ways"] (defScope (topS 38)) := ⟨rfl, rfl, rfl, by decide +kernel, rfl, by decide +kernel, by decide +kernel⟩
theorem ok_law_pointed (T : Txt fa fn K mg (CsOk cs K w)) : Dn P w K mg base CX0 2 "_law_pointed" ["log", "ways"] (sp_law_pointed K) := by
  refine mk_dn (d := dOf "_law_pointed" 38) T 26 26 rfl rfl rfl rfl rfl sc_law_pointed (by walk_at "len") (fun _ _ _ _ _ _ us hl => match us, hl with | [_, _], _ => rfl) (fun cdv A outer s H vs Q E hr h => ⟨_, (pss_cons (ps_set (i := 2) sc_law_pointed.nd rfl (.inl rfl) pe_int)
      (pss_cons (ps_set (i := 3) sc_law_pointed.nd rfl (.inl rfl) (pv 1))
      (pss_cons (ps_while PassesOwn.never (pt_cmpR o_gt (pv 3) pe_int (nomark _)) (pss_cons (ps_set (i := 3) sc_law_pointed.nd rfl (.inl rfl) (pe_op o_fdiv (pv 3) pe_int))
      (pss_cons (ps_set (i := 4) sc_law_pointed.nd rfl (.inl rfl) (pe_callD (K := K) rfl (ok_law_last T) (hr.mono (by decide)) rfl pass0 (pa_cons (pv 0) (pa_cons (pv 2) (pa_cons (pe_op (op_addU (K := K) rfl) (pv 2) (pe_op op_mulU pe_int (pv 3))) pa_nil)))))
      (pss_one (ps_if (pt_chain o_le o_lt pe_int (pv 4) (pe_op (op_addU (K := K) rfl) (pv 2) (pv 3))) (pss_one (ps_set (i := 2) sc_law_pointed.nd rfl (.inl rfl) (pe_op (op_addU (K := K) rfl) (pv 2) (pv 3)))) pss_nil)))))
      (pss_one (ps_ret (pv 2)))))), ?_⟩)
  obtain ⟨a, xs, log, W, rfl, hx, hI, hB, hW, hQ⟩ := h
  walk_at "go"
  refine ⟨fun m σ H' => ∃ (first size f : Nat) (la : Option V), σ = [some (.ref a), some (.int W), some (.int first), some (.int size), la] ∧ H' = H ∧ m = size ∧ size ≤ f ∧ first + size ≤ 3000 ∧ pdGo log f first size = pdV log W, ⟨_, 0, W, W, _, rfl, rfl, rfl, Nat.le_refl _, by omega, rfl⟩, ?_⟩
  rintro m σ H' ⟨first, size, f, la, rfl, rfl, hm, hf, hb, hv⟩
  walk_at "go"
  refine g_if (fun h => ?_) (fun h => ?_)
  · refine g_whileT ?_
    have hs : 1 < size := by omega
    obtain ⟨f, rfl⟩ : ∃ g, f = g + 1 := ⟨f - 1, by omega⟩
    rw [show pdGo log (f + 1) first size = if 1 < size then (if 0 ≤ laV log first (first + 2 * (size / 2)) ∧ laV log first (first + 2 * (size / 2)) < first + (size / 2 : Nat) then pdGo log f (first + size / 2) (size / 2) else pdGo log f first (size / 2)) else first from rfl, if_pos hs] at hv
    have e2 : (size : Int) / 2 = ((size / 2 : Nat) : Int) := by omega
    walk_at "go"
    refine ⟨a, xs, log, first, first + 2 * (size / 2), ?_, hx, hI, hB, ?_⟩
    · rw [e2, show ((first + 2 * (size / 2) : Nat) : Int) = (first : Int) + 2 * ((size / 2 : Nat) : Int) by omega]
      rfl
    walk_at "go"
    generalize laV log first (first + 2 * (size / 2)) = lv at hv
    have no : ¬ (0 ≤ lv ∧ lv < first + (size / 2 : Nat)) → ∃ m', m' < m ∧ ∃ (first' size' f' : Nat) (la : Option V), ([some (.ref a), some (.int W), some (.int first), some (.int ((size : Int) / 2)), some (.int lv)] : L2.St) = [some (.ref a), some (.int W), some (.int first'), some (.int size'), la] ∧ H' = H' ∧ m' = size' ∧ size' ≤ f' ∧ first' + size' ≤ 3000 ∧ pdGo log f' first' size' = pdV log W := fun hn => by
      rw [if_neg hn] at hv
      exact ⟨size / 2, by omega, first, size / 2, f, some (.int lv), by rw [e2], rfl, rfl, by omega, by omega, hv⟩
    refine g_if (fun h1 => ?_) (fun h1 => ?_)
    · walk_at "go"
      refine g_if (fun h2 => ?_) (fun h2 => ?_)
      · walk_at "go"
        rw [if_pos ⟨by omega, by omega⟩] at hv
        refine ⟨size / 2, by omega, first + size / 2, size / 2, f, some (.int lv), ?_, rfl, rfl, by omega, by omega, hv⟩
        rw [e2, show ((first + size / 2 : Nat) : Int) = (first : Int) + ((size / 2 : Nat) : Int) by omega]
        rfl
      · walk_at "go"
        exact no (by omega)
    · walk_at "go"
      exact no (by omega)
  · walk_at "go"
    rw [pdGo_end (by omega)] at hv
    rw [← hv] at hQ
    exact hQ

def sp_law_moment (K : PySem.W.Frag) : Sp := fun vs H Q _ => ∃ (a : Addr) (xs : List V) (log : Log) (p : Nat) (P : Str), vs = [.ref a, .int p, .str P] ∧ H a = some (.lst xs) ∧ Ims H xs (log.map entD) ∧ log.length ≤ 100000 ∧ Q (.int (moV log p (decide (P = "lru")))) H
theorem rev_take {α : Type} {l : List α} {k : Nat} (h : k < l.length) : (l.take (k + 1)).reverse = l[k] :: (l.take k).reverse := by
  rw [List.take_succ_eq_append_getElem h, List.reverse_append]
  rfl
theorem sc_law_moment : FnScope ["log", "place", "policy", "found", "k"] ["log", "place", "policy"] (defScope (topS 39)) := ⟨rfl, rfl, rfl, by decide +kernel, rfl, by decide +kernel, by decide +kernel⟩
theorem ok_law_moment (T : Txt fa fn K mg (CsOk cs K w)) : Dn P w K mg base CX0 1 "_law_moment" ["log", "place", "policy"] (sp_law_moment K) := by
  refine mk_dn (d := dOf "_law_moment" 39) T 27 27 rfl rfl rfl rfl rfl sc_law_moment (by walk_at "len") (fun _ _ _ _ _ _ us hl => match us, hl with | [_, _, _], _ => rfl) (fun cdv A outer s H vs Q E hr h => ⟨_, (pss_cons (ps_set (i := 3) sc_law_moment.nd rfl (.inl rfl) (pe_un un_neg pe_int))
      (pss_cons (ps_for PassesOwn.never rfl (pi_r1 rfl (T.free 131 rfl) (pa_cons (pe_callB (c_len (K := K) rfl) rfl (T.free 127 rfl) (by decide +kernel) (pa_cons (pv 0) pa_nil)) pa_nil)) (pg_name (i := 4) sc_law_moment.nd rfl (.inl rfl)) (pss_one (ps_if (PW.pt (pw_and (pt_cmpR (op_eqU (K := K) rfl hr.units) (pe_ixU (K := K) rfl (hu_of hr) (pe_ixU (K := K) rfl (hu_of hr) (pv 0) (pv 4)) pe_int) (pv 1) (nomark _)) (pw_and1 (PW.pt (pw_or (pt_cmpR (op_eqU (K := K) rfl hr.units) (pv 2) pe_str (nomark _)) (pw_or1 (pt_tru (K := K) rfl (pe_ixU (K := K) rfl (hu_of hr) (pe_ixU (K := K) rfl (hu_of hr) (pv 0) (pv 4)) pe_int)))))))) (pss_one (ps_set (i := 3) sc_law_moment.nd rfl (.inl rfl) (pv 4))) pss_nil)))
      (pss_one (ps_ret (pv 3))))), ?_⟩)
  obtain ⟨a, xs, log, p, P, rfl, hx, hI, hB, hQ⟩ := h
  have hL : xs.length = log.length := by rw [hI.length, List.length_map]
  walk_at "go"
  refine f_range (fun i σ H' => ∃ (k : Option V), σ = [some (.ref a), some (.int p), some (.str P), some (.int (moR p (decide (P = "lru")) (log.take i).reverse)), k] ∧ H' = H) ⟨_, rfl, rfl⟩ ?_ ?_
  · rintro i σ H' hi ⟨k, rfl, rfl⟩
    rw [Int.toNat_natCast] at hi
    walk_at "go"
    have hi' : i < log.length := by omega
    obtain ⟨v, hv1, hv2⟩ := hI.get (n := i) (d := entD (log[i]'(by omega))) (by rw [List.getElem?_map, List.getElem?_eq_getElem (by omega)]; rfl)
    have hstep := rev_take hi'
    generalize log[i]'(by omega) = en at hstep hv2
    obtain ⟨pp, bb⟩ := en
    have hn : (0 : Int) + i = i := by omega
    refine g_ixL (SqL.of hx) hn hv1 ?_
    walk_at "go"
    refine m_ix hv2 (n := 0) rfl rfl ?_
    intro v1 hv3
    have hv4 := hv3.int_inv
    subst hv4
    walk_at "go"
    have yes : (pp = p ∧ (decide (P = "lru") = true ∨ bb = true)) → moR p (decide (P = "lru")) (log.take (i + 1)).reverse = i := fun hc => by
      rw [hstep]
      show (if pp = p ∧ (decide (P = "lru") = true ∨ bb = true) then (((log.take i).reverse.length : Nat) : Int) else moR p (decide (P = "lru")) (log.take i).reverse) = i
      rw [if_pos hc, List.length_reverse, List.length_take, Nat.min_eq_left (by omega)]
    have no : ¬ (pp = p ∧ (decide (P = "lru") = true ∨ bb = true)) → moR p (decide (P = "lru")) (log.take (i + 1)).reverse = moR p (decide (P = "lru")) (log.take i).reverse := fun hc => by
      rw [hstep]
      exact if_neg hc
    refine g_if (fun h1 => ?_) (fun h1 => ?_)
    · walk_at "go"
      refine g_if (fun h2 => ?_) (fun h2 => ?_)
      · walk_at "go"
        rw [yes ⟨by omega, .inl (by simp [h2])⟩, hn]
        exact ⟨_, rfl, rfl⟩
      · walk_at "go"
        refine g_ixL (SqL.of hx) hn hv1 ?_
        walk_at "go"
        refine m_ix hv2 (n := 1) rfl rfl ?_
        intro v2 hv5
        have hv6 := hv5.bl_inv
        subst hv6
        walk_at "go"
        cases bb
        · walk_at "go"
          rw [no (by rintro ⟨_, z | z⟩; exact h2 (of_decide_eq_true z); cases z)]
          exact ⟨_, rfl, rfl⟩
        · walk_at "go"
          rw [yes ⟨by omega, .inr rfl⟩, hn]
          exact ⟨_, rfl, rfl⟩
    · walk_at "go"
      rw [no (by rintro ⟨z, _⟩; exact h1 (by omega))]
      exact ⟨_, rfl, rfl⟩
  · rintro σ H' ⟨k, rfl, rfl⟩
    rw [Int.toNat_natCast, hL, List.take_length]
    walk_at "go"
    exact hQ

def sp_law_victim (K : PySem.W.Frag) : Sp := fun vs H Q _ => ∃ (a : Addr) (xs : List V) (log : Log) (W : Nat) (P : Str), vs = [.ref a, .int W, .str P] ∧ H a = some (.lst xs) ∧ Ims H xs (log.map entD) ∧ log.length ≤ 100000 ∧ 0 < W ∧ W ≤ 1000 ∧ ∀ H', Same H H' → Q (.int (viV log W P : Nat)) H'
theorem sc_law_victim : FnScope ["log", "ways", "policy", "moments", "place"] ["log", "ways", "policy"] (defScope (topS 40)) := ⟨rfl, rfl, rfl, by decide +kernel, rfl, by decide +kernel, by decide +kernel⟩
theorem ok_law_victim (T : Txt fa fn K mg (CsOk cs K w)) : Dn P w K mg base CX0 3 "_law_victim" ["log", "ways", "policy"] (sp_law_victim K) := by
  refine mk_dn (d := dOf "_law_victim" 40) T 28 28 rfl rfl rfl rfl rfl sc_law_victim (by walk_at "len") (fun _ _ _ _ _ _ us hl => match us, hl with | [_, _, _], _ => rfl) (fun cdv A outer s H vs Q E hr h => ⟨_, (pss_cons (ps_if (pt_cmpR (op_eqU (K := K) rfl hr.units) (pv 2) pe_str (nomark _)) (pss_one (ps_ret (pe_callD (K := K) rfl (ok_law_pointed T) (hr.mono (by decide)) rfl pass0 (pa_cons (pv 0) (pa_cons (pv 1) pa_nil))))) pss_nil)
      (pss_cons (ps_setLc (i := 3) rfl sc_law_victim.nd rfl rfl (sw_true rfl rfl rfl (by decide +kernel)) (pi_r1 rfl (T.free 131 rfl) (pa_cons (pv 1) pa_nil)) (blkOk_by (own := [("place", 4)]) (N := ["log", "ways", "policy", "moments", "place"]) (sc := defScope (topS 40)) (by decide +kernel)) (fun _ _ _ _ _ => (pg_name (i := 4) sc_law_victim.nd rfl (.inl rfl))) (fun _ _ _ _ _ => pts_nil) (fun _ _ _ _ _ => (pe_callD (K := K) rfl (ok_law_moment T) (hr.mono (by decide)) rfl pass0 (pa_cons (pv 0) (pa_cons (pv 4) (pa_cons (pv 2) pa_nil))))))
      (pss_one (ps_ret (pe_bm PySem.F.plainAttrs_list PySem.F.slot_list_index PySem.F.type_list_index (m_index (K := K) rfl) (pv 3) (pa_cons (pe_callB (c_min1 (K := K) rfl rfl) rfl (T.free 130 rfl) (by decide +kernel) (pa_cons (pv 3) pa_nil)) pa_nil)))))), ?_⟩)
  obtain ⟨a, xs, log, W, P, rfl, hx, hI, hB, hW0, hW, hQ⟩ := h
  unfold viV at hQ
  walk_at "go"
  refine g_if (fun h => ?_) (fun h => ?_)
  · walk_at "go"
    rw [if_pos h] at hQ
    exact ⟨a, xs, log, W, rfl, hx, hI, hB, hW, hQ H (Same.refl H)⟩
  · rw [if_neg h] at hQ
    walk_at "go"
    refine l_range (fun D i H' => Same H H' ∧ H D = none ∧ H' D = some (.lst ((moL log i (decide (P = "lru"))).map V.int))) (fun D hD => ⟨Same.new hD, hD, upd_same⟩) ?_ ?_
    · rintro D hD i H' hi ⟨sm, _, hD'⟩
      rw [Int.toNat_natCast] at hi
      walk_at "go"
      refine ⟨a, xs, log, i, P, ?_, sm _ _ hx, hI.same sm, hB, ?_⟩
      · rw [show (0 : Int) + i = i by omega]
        rfl
      refine ⟨_, hD', szl (by rw [List.length_map, moL, List.length_map, List.length_range]; omega), Same.mut sm hD, hD, ?_⟩
      rw [upd_same]
      unfold moL
      rw [List.range_succ, List.map_append, List.map_append]
      rfl
    · rintro D hD H' ⟨sm, _, hD'⟩
      rw [Int.toNat_natCast] at hD'
      walk_at "go"
      have hl : 0 < (moL log W (decide (P = "lru"))).length := by rw [moL, List.length_map, List.length_range]; exact hW0
      refine g_min1 (SqL.of hD') hl fun m hm hle => ?_
      walk_at "go"
      refine g_indexI (SqL.of hD') hm ?_
      have e := mnI_eq hm hle
      rw [← e]
      exact hQ H' sm


/-! ### the touching of the model -/
structure MSt where
  pl : List (List (Option Int))
  lg : List Log
/-- where the model stands: dict, lists, rows; the logs' raw items -/
structure MAd where
  m : Addr
  A : Addr
  G : Addr
  as : List Addr
  gs : List Addr
abbrev mdK (A G : Addr) : List (Key × V) := [(.inr "places", .ref A), (.inr "logs", .ref G)]
abbrev MaL (d : MAd) (pl : List (List (Option Int))) (lv : List (List V)) : List (Addr × HO) := [(d.m, .dK (mdK d.A d.G)), (d.A, .lst (d.as.map V.ref)), (d.G, .lst (d.gs.map V.ref))] ++ (tab d.as (pl.map (·.map ovV)) ++ (tab d.gs lv ++ []))
theorem ne_lp : ¬ (("logs" : Str) = "places") := by decide +kernel
theorem ne_pl : ¬ (("places" : Str) = "logs") := by decide +kernel
theorem md_p {H : Hp} {m A G : Addr} (h : H m = some (.dK (mdK A G))) : DGet H m (.str "places") (some (.ref A)) := by
  have e : valV (mdK A G) (.inr "places") = some (.ref A) := valV_pos rfl
  rw [← e]
  exact DGet.k (k := .inr "places") h
theorem md_l {H : Hp} {m A G : Addr} (h : H m = some (.dK (mdK A G))) : DGet H m (.str "logs") (some (.ref G)) := by
  have e : valV (mdK A G) (.inr "logs") = some (.ref G) := by
    rw [valV_neg (fun e => ne_pl (Sum.inr.inj e))]
    exact valV_pos rfl
  rw [← e]
  exact DGet.k (k := .inr "logs") h
structure MWf (S W : Nat) (d : MAd) (pl : List (List (Option Int))) (lv : List (List V)) (lg : List Log) : Prop where
  s0 : 0 < S
  s1 : S ≤ 1000
  w0 : 0 < W
  w1 : W ≤ 1000
  la : d.as.length = S
  lb : d.gs.length = S
  lp : pl.length = S
  lv : lv.length = S
  ll : lg.length = S
  rp : ∀ r ∈ pl, r.length = W
/-- the logs' items are what they are -/
def LgI (H : Hp) (lv : List (List V)) (lg : List Log) : Prop := ∀ (n : Nat) (x : List V) (l : Log), lv[n]? = some x → lg[n]? = some l → Ims H x (l.map entD)

section
variable {H H' : Hp} {d : MAd} {pl : List (List (Option Int))} {lv : List (List V)} {lg : List Log} {n : Nat} {a : Addr} {S W : Nat} {v : V} {e : Nat × Bool}
def MaA (d : MAd) : List Addr := [d.m, d.A, d.G] ++ (d.as ++ (d.gs ++ []))
theorem ma_fst (wf : MWf S W d pl lv lg) : (MaL d pl lv).map (·.1) = MaA d := by
  unfold MaL MaA
  rw [List.map_append, List.map_append, List.map_append, tab_fst (by rw [wf.la, List.length_map, wf.lp]), tab_fst (by rw [wf.lb, wf.lv])]
  rfl
theorem maA_a (h : d.as[n]? = some a) : a ∈ MaA d := by have := List.mem_of_getElem? h; simp [MaA, this]
theorem maA_g (h : d.gs[n]? = some a) : a ∈ MaA d := by have := List.mem_of_getElem? h; simp [MaA, this]
theorem ma_pl {r : List (Option Int)} (M : Has H (MaL d pl lv)) (ha : d.as[n]? = some a) (hr : pl[n]? = some r) : H a = some (.lst (r.map ovV)) :=
  M.tabGet ha (by rw [List.getElem?_map, hr]; rfl)
theorem ma_pl_set {r r' : List (Option Int)} (M : Has H (MaL d pl lv)) (ha : d.as[n]? = some a) (hr : pl[n]? = some r) : Has (upd H a (.lst (r'.map ovV))) (MaL d (pl.set n r') lv) := by
  have z := M.tabSet (r' := r'.map ovV) ha (by rw [List.getElem?_map, hr]; rfl)
  rw [← List.map_set (f := fun x => List.map ovV x)] at z
  exact z
theorem ma_lg {x : List V} (M : Has H (MaL d pl lv)) (ha : d.gs[n]? = some a) (hr : lv[n]? = some x) : H a = some (.lst x) := by
  have M' : Has H (([(d.m, .dK (mdK d.A d.G)), (d.A, .lst (d.as.map V.ref)), (d.G, .lst (d.gs.map V.ref))] ++ tab d.as (pl.map (·.map ovV))) ++ (tab d.gs lv ++ [])) := by
    rw [List.append_assoc]
    exact M
  exact M'.tabGet ha hr
theorem ma_lg_set {x x' : List V} (M : Has H (MaL d pl lv)) (ha : d.gs[n]? = some a) (hr : lv[n]? = some x) : Has (upd H a (.lst x')) (MaL d pl (lv.set n x')) := by
  have M' : Has H (([(d.m, .dK (mdK d.A d.G)), (d.A, .lst (d.as.map V.ref)), (d.G, .lst (d.gs.map V.ref))] ++ tab d.as (pl.map (·.map ovV))) ++ (tab d.gs lv ++ [])) := by
    rw [List.append_assoc]
    exact M
  have z := M'.tabSet (r' := x') ha hr
  rw [List.append_assoc] at z
  exact z
theorem LgI.mono (L : LgI H lv lg) (k : ∀ a xs, H a = some (.tup xs) → H' a = some (.tup xs)) : LgI H' lv lg := fun n x l h1 h2 => (L n x l h1 h2).mono k
theorem LgI.same (L : LgI H lv lg) (k : Same H H') : LgI H' lv lg := L.mono fun a _ e => k a _ e
theorem upd_tup {o o' : HO} (h : H a = some o) (n : ∀ xs, o ≠ .tup xs) : ∀ b xs, H b = some (.tup xs) → upd H a o' b = some (.tup xs) := fun b xs e => by
  rw [upd_ne]
  · exact e
  · rintro rfl
    rw [h] at e
    exact n xs (Option.some.inj e)
theorem LgI.snoc {x : List V} {l : Log} (L : LgI H lv lg) (hx : lv[n]? = some x) (hl : lg[n]? = some l) (hv : Im H v (entD e)) : LgI H (lv.set n (x ++ [v])) (lg.set n (l ++ [e])) := fun m y k h1 h2 => by
  by_cases hm : m = n
  · subst hm
    have b1 := (List.getElem?_eq_some_iff.mp hx).1
    have b2 := (List.getElem?_eq_some_iff.mp hl).1
    rw [List.getElem?_set_self b1] at h1
    rw [List.getElem?_set_self b2] at h2
    cases h1
    cases h2
    rw [List.map_append]
    exact (L m x l hx hl).append (.one hv)
  · rw [List.getElem?_set_ne (fun z => hm z.symm)] at h1 h2
    exact L m y k h1 h2
end
/-- the settings of a cache, an address: the model's step -/
structure Stg where
  S : Nat
  W : Nat
  Z : Nat
  P : Str
def lnM (g : Stg) (x : Int) : Int := x / (g.Z : Int)
def nmM (g : Stg) (x : Int) : Nat := (lnM g x % (g.S : Int)).toNat
abbrev hitM (g : Stg) (pl : List (List (Option Int))) (x : Int) : Prop := some (lnM g x) ∈ pl.getD (nmM g x) []
def plM (g : Stg) (pl : List (List (Option Int))) (lg : List Log) (x : Int) : Nat := if hitM g pl x then ixo (some (lnM g x)) (pl.getD (nmM g x) []) else if none ∈ pl.getD (nmM g x) [] then ixo none (pl.getD (nmM g x) []) else viV (lg.getD (nmM g x) []) g.W g.P
def pl1 (g : Stg) (pl : List (List (Option Int))) (lg : List Log) (x : Int) : List (List (Option Int)) := if hitM g pl x then pl else pl.set (nmM g x) ((pl.getD (nmM g x) []).set (plM g pl lg x) (some (lnM g x)))
def lg1 (g : Stg) (pl : List (List (Option Int))) (lg : List Log) (x : Int) : List Log := lg.set (nmM g x) (lg.getD (nmM g x) [] ++ [(plM g pl lg x, !decide (hitM g pl x))])
def pl2 (g : Stg) (pl : List (List (Option Int))) (x : Int) : List (List (Option Int)) := if hitM g pl x then pl.set (nmM g x) ((pl.getD (nmM g x) []).set (ixo (some (lnM g x)) (pl.getD (nmM g x) [])) none) else pl
theorem nm_lt {g : Stg} (h : 0 < g.S) (x : Int) : nmM g x < g.S ∧ lnM g x % (g.S : Int) = (nmM g x : Int) := by
  have h1 := Int.emod_nonneg (lnM g x) (b := (g.S : Int)) (by omega)
  have h2 := Int.emod_lt_of_pos (lnM g x) (b := (g.S : Int)) (by omega)
  unfold nmM
  omega
def sp_law_touch (K : PySem.W.Frag) : Sp := fun vs H Q _ => ∃ (d : MAd) (g : Stg) (pl : List (List (Option Int))) (lv : List (List V)) (lg : List Log) (s : Addr) (x : Int), vs = [.ref d.m, .ref s, .int x] ∧ H s = some (.tup [.int g.S, .int g.W, .int g.Z, .str g.P]) ∧ 0 < g.Z ∧ g.Z ≤ 1000000 ∧
  Has H (MaL d pl lv) ∧ LgI H lv lg ∧ MWf g.S g.W d pl lv lg ∧ (lg.getD (nmM g x) []).length < 90000 ∧ plM g pl lg x < g.W ∧
  ∀ H' lv', Keep (MaA d) H H' → Has H' (MaL d (pl1 g pl lg x) lv') → LgI H' lv' (lg1 g pl lg x) → lv'.length = g.S → Q (.bl (decide (hitM g pl x))) H'
theorem sc_law_touch : FnScope ["m", "settings", "address", "sets", "ways", "size", "policy", "line", "row", "log", "place"] ["m", "settings", "address"] (defScope (topS 41)) := ⟨rfl, rfl, rfl, by decide +kernel, rfl, by decide +kernel, by decide +kernel⟩
theorem ok_law_touch (T : Txt fa fn K mg (CsOk cs K w)) : Dn P w K mg base CX0 4 "_law_touch" ["m", "settings", "address"] (sp_law_touch K) := by
  refine mk_dn (d := dOf "_law_touch" 41) T 29 29 rfl rfl rfl rfl rfl sc_law_touch (by walk_at "len") (fun _ _ _ _ _ _ us hl => match us, hl with | [_, _, _], _ => rfl) (fun cdv A outer s H vs Q E hr h => ⟨_, (pss_cons (ps_asg (pv 1) (pg_tup rfl (pgs_cons (pg_name (i := 3) sc_law_touch.nd rfl (.inl rfl)) (pgs_cons (pg_name (i := 4) sc_law_touch.nd rfl (.inl rfl)) (pgs_cons (pg_name (i := 5) sc_law_touch.nd rfl (.inl rfl)) (pgs_cons (pg_name (i := 6) sc_law_touch.nd rfl (.inl rfl)) pgs_nil))))))
      (pss_cons (ps_set (i := 7) sc_law_touch.nd rfl (.inl rfl) (pe_op o_fdiv (pv 2) (pv 5)))
      (pss_cons (ps_set (i := 8) sc_law_touch.nd rfl (.inl rfl) (pe_ixU (K := K) rfl (hu_of hr) (pe_ixU (K := K) rfl (hu_of hr) (pv 0) pe_str) (pe_op o_mod (pv 7) (pv 3))))
      (pss_cons (ps_set (i := 9) sc_law_touch.nd rfl (.inl rfl) (pe_ixU (K := K) rfl (hu_of hr) (pe_ixU (K := K) rfl (hu_of hr) (pv 0) pe_str) (pe_op o_mod (pv 7) (pv 3))))
      (pss_cons (ps_if (pt_cmpR (op_inU (K := K) rfl (hu65 hr)) (pv 7) (pv 8) (by rfl)) (pss_cons (ps_expr (pe_bm PySem.F.plainAttrs_list PySem.F.slot_list_append PySem.F.type_list_append mt_append (pv 9) (pa_cons (pe_tup (pa_cons (pe_bm PySem.F.plainAttrs_list PySem.F.slot_list_index PySem.F.type_list_index (m_index (K := K) rfl) (pv 8) (pa_cons (pv 7) pa_nil)) (pa_cons pe_bl pa_nil))) pa_nil)))
      (pss_one (ps_ret pe_bl))) pss_nil)
      (pss_cons (ps_join (ps_if (pt_cmpR (op_inU (K := K) rfl (hu65 hr)) pe_non (pv 8) (by rfl)) (pss_one (ps_set (i := 10) sc_law_touch.nd rfl (.inl rfl) (pe_bm PySem.F.plainAttrs_list PySem.F.slot_list_index PySem.F.type_list_index (m_index (K := K) rfl) (pv 8) (pa_cons pe_non pa_nil)))) (pss_one (ps_set (i := 10) sc_law_touch.nd rfl (.inl rfl) (pe_callD (K := K) rfl (ok_law_victim T) (hr.mono (by decide)) rfl pass0 (pa_cons (pv 9) (pa_cons (pv 4) (pa_cons (pv 6) pa_nil))))))))
      (pss_cons (ps_asg (pv 7) (pg_sub (pv 8) (pv 10) (set_U (hu_of hr))))
      (pss_cons (ps_expr (pe_bm PySem.F.plainAttrs_list PySem.F.slot_list_append PySem.F.type_list_append mt_append (pv 9) (pa_cons (pe_tup (pa_cons (pv 10) (pa_cons pe_bl pa_nil))) pa_nil)))
      (pss_one (ps_ret pe_bl)))))))))), ?_⟩)
  obtain ⟨d, g, pl, lv, lg, s, x, rfl, hs, z0, z1, M, L, wf, hlen, hpl, hQ⟩ := h
  have s0 := wf.s0
  have s1 := wf.s1
  obtain ⟨hn, hne⟩ := nm_lt s0 x
  obtain ⟨a, ha, ha2⟩ := ref_at (as := d.as) (n := nmM g x) (by rw [wf.la]; exact hn)
  obtain ⟨b, hb, hb2⟩ := ref_at (as := d.gs) (n := nmM g x) (by rw [wf.lb]; exact hn)
  have hp := getD_some (l := pl) (n := nmM g x) (d := []) (by rw [wf.lp]; exact hn)
  have hv := getD_some (l := lv) (n := nmM g x) (d := []) (by rw [wf.lv]; exact hn)
  have hg := getD_some (l := lg) (n := nmM g x) (d := []) (by rw [wf.ll]; exact hn)
  have hr := ma_pl M ha hp
  have ho := ma_lg M hb hv
  have hrl : (pl.getD (nmM g x) []).length = g.W := wf.rp _ (List.mem_of_getElem? hp)
  have hI := L _ _ _ hv hg
  have hvl : (lv.getD (nmM g x) []).length = (lg.getD (nmM g x) []).length := by rw [hI.length, List.length_map]
  walk_at "go"
  refine g_ixD (md_p (M.get 0 rfl)) ?_
  walk_at "go"
  refine g_ixL (SqL.of (M.get 1 rfl)) hne ha2 ?_
  walk_at "go"
  refine g_ixD (md_l (M.get 0 rfl)) ?_
  walk_at "go"
  refine g_ixL (SqL.of (M.get 2 rfl)) hne hb2 ?_
  walk_at "go"
  refine g_inO (x := some (lnM g x)) rfl hr ?_
  walk_at "go"
  refine g_if (fun h => ?_) (fun h => ?_)
  · have h' : hitM g pl x := h
    walk_at "go"
    refine g_indexO (x := some (lnM g x)) rfl hr h ?_
    walk_at "go"
    refine m_new (ds := [.int _, .bool false]) (.cons (.int _) (.cons (.bl _) .nil)) (by simp) fun p H1 sm hp1 im => ?_
    walk_at "go"
    have M1 := M.keep sm
    have L1 := L.same sm
    have e1 : plM g pl lg x = ixo (some (lnM g x)) (pl.getD (nmM g x) []) := if_pos h'
    have M2 := ma_lg_set (x' := lv.getD (nmM g x) [] ++ [.ref p]) M1 hb hv
    refine ⟨b, _, .ref p, rfl, rfl, ma_lg M1 hb hv, szl (by omega), ?_⟩
    walk_at "go"
    rw [decide_eq_true h'] at hQ
    refine hQ _ _ ((Keep.of sm).trans (Keep.set (maA_g hb))) (by unfold pl1; rw [if_pos h']; exact M2) ?_ (by rw [List.length_set]; exact wf.lv)
    unfold lg1
    rw [decide_eq_true h', e1]
    exact (L1.snoc (e := (_, false)) hv hg im).mono (upd_tup (ma_lg M1 hb hv) (fun _ z => nomatch z))
  · have h' : ¬ hitM g pl x := h
    walk_at "go"
    have e1 : plM g pl lg x = if none ∈ pl.getD (nmM g x) [] then ixo none (pl.getD (nmM g x) []) else viV (lg.getD (nmM g x) []) g.W g.P := if_neg h'
    refine ⟨fun σ' H' => σ' = [some (.ref d.m), some (.ref s), some (.int x), some (.int g.S), some (.int g.W), some (.int g.Z), some (.str g.P), some (.int (lnM g x)), some (.ref a), some (.ref b), some (.int (plM g pl lg x : Nat))] ∧ Same H H', ?_, ?_⟩
    · walk_at "go"
      refine g_inO (x := none) rfl hr ?_
      walk_at "go"
      refine g_if (fun h2 => ?_) (fun h2 => ?_)
      · walk_at "go"
        refine g_indexO (x := none) rfl hr h2 ?_
        walk_at "go"
        rw [e1, if_pos h2]
        exact ⟨rfl, Same.refl H⟩
      · walk_at "go"
        refine ⟨b, _, _, g.W, g.P, rfl, ho, hI, by omega, wf.w0, wf.w1, fun H1 sm => ?_⟩
        walk_at "go"
        rw [e1, if_neg h2]
        exact ⟨rfl, sm⟩
    rintro σ' H1 ⟨rfl, sm⟩
    walk_at "go"
    have M1 := M.keep sm
    have hr1 := ma_pl M1 ha hp
    refine .inl ⟨a, _, _, plM g pl lg x, rfl, rfl, hr1, ?_, ?_⟩
    · unfold ixN
      rw [List.length_map, if_pos (by omega), if_pos (by omega)]
      rfl
    have M2 := ma_pl_set (r' := (pl.getD (nmM g x) []).set (plM g pl lg x) (some (lnM g x))) M1 ha hp
    rw [List.map_set] at M2
    have L2 := (L.same sm).mono (upd_tup (o' := .lst (((pl.getD (nmM g x) []).map ovV).set (plM g pl lg x) (ovV (some (lnM g x))))) hr1 (fun _ z => nomatch z))
    have k2 := (Keep.of (ms := MaA d) sm).trans (Keep.set (o := .lst (((pl.getD (nmM g x) []).map ovV).set (plM g pl lg x) (ovV (some (lnM g x))))) (maA_a ha))
    walk_at "go"
    refine ⟨.inl ⟨rfl, _, SqL.of (ma_lg M2 hb hv)⟩, ?_⟩
    walk_at "go"
    refine m_new (ds := [.int _, .bool true]) (.cons (.int _) (.cons (.bl _) .nil)) (by simp) fun p H3 sm3 hp3 im => ?_
    walk_at "go"
    have M3 := M2.keep sm3
    have M4 := ma_lg_set (x' := lv.getD (nmM g x) [] ++ [.ref p]) M3 hb hv
    refine ⟨b, _, .ref p, rfl, rfl, ma_lg M3 hb hv, szl (by omega), ?_⟩
    walk_at "go"
    rw [decide_eq_false h'] at hQ
    refine hQ _ _ ((k2.trans (Keep.of sm3)).trans (Keep.set (maA_g hb))) (by unfold pl1; rw [if_neg h']; exact M4) ?_ (by rw [List.length_set]; exact wf.lv)
    unfold lg1
    rw [decide_eq_false h']
    exact ((L2.same sm3).snoc (e := (_, true)) hv hg im).mono (upd_tup (ma_lg M3 hb hv) (fun _ z => nomatch z))

def sp_law_drop (K : PySem.W.Frag) : Sp := fun vs H Q _ => ∃ (d : MAd) (g : Stg) (pl : List (List (Option Int))) (lv : List (List V)) (lg : List Log) (s : Addr) (x : Int), vs = [.ref d.m, .ref s, .int x] ∧ H s = some (.tup [.int g.S, .int g.W, .int g.Z, .str g.P]) ∧ 0 < g.Z ∧ g.Z ≤ 1000000 ∧
  Has H (MaL d pl lv) ∧ MWf g.S g.W d pl lv lg ∧
  ∀ H', Keep (MaA d) H H' → Has H' (MaL d (pl2 g pl x) lv) → (∀ b xs, H b = some (.tup xs) → H' b = some (.tup xs)) → Q (.bl (decide (hitM g pl x))) H'
theorem sc_law_drop : FnScope ["m", "settings", "address", "line", "row"] ["m", "settings", "address"] (defScope (topS 42)) := ⟨rfl, rfl, rfl, by decide +kernel, rfl, by decide +kernel, by decide +kernel⟩
theorem ok_law_drop (T : Txt fa fn K mg (CsOk cs K w)) : Dn P w K mg base CX0 1 "_law_drop" ["m", "settings", "address"] (sp_law_drop K) := by
  refine mk_dn (d := dOf "_law_drop" 42) T 30 30 rfl rfl rfl rfl rfl sc_law_drop (by walk_at "len") (fun _ _ _ _ _ _ us hl => match us, hl with | [_, _, _], _ => rfl) (fun cdv A outer s H vs Q E hr h => ⟨_, (pss_cons (ps_set (i := 3) sc_law_drop.nd rfl (.inl rfl) (pe_op o_fdiv (pv 2) (pe_ixU (K := K) rfl (hu_of hr) (pv 1) pe_int)))
      (pss_cons (ps_set (i := 4) sc_law_drop.nd rfl (.inl rfl) (pe_ixU (K := K) rfl (hu_of hr) (pe_ixU (K := K) rfl (hu_of hr) (pv 0) pe_str) (pe_op o_mod (pv 3) (pe_ixU (K := K) rfl (hu_of hr) (pv 1) pe_int))))
      (pss_cons (ps_if (pt_cmpR (op_niU (K := K) rfl (hu65 hr)) (pv 3) (pv 4) (by rfl)) (pss_one (ps_ret pe_bl)) pss_nil)
      (pss_cons (ps_asg pe_non (pg_sub (pv 4) (pe_bm PySem.F.plainAttrs_list PySem.F.slot_list_index PySem.F.type_list_index (m_index (K := K) rfl) (pv 4) (pa_cons (pv 3) pa_nil)) (set_U (hu_of hr))))
      (pss_one (ps_ret pe_bl)))))), ?_⟩)
  obtain ⟨d, g, pl, lv, lg, s, x, rfl, hs, z0, z1, M, wf, hQ⟩ := h
  have s0 := wf.s0
  have s1 := wf.s1
  obtain ⟨hn, hne⟩ := nm_lt s0 x
  obtain ⟨a, ha, ha2⟩ := ref_at (as := d.as) (n := nmM g x) (by rw [wf.la]; exact hn)
  have hp := getD_some (l := pl) (n := nmM g x) (d := []) (by rw [wf.lp]; exact hn)
  have hr := ma_pl M ha hp
  walk_at "go"
  refine g_ixD (md_p (M.get 0 rfl)) ?_
  walk_at "go"
  refine g_ixL (SqL.of (M.get 1 rfl)) hne ha2 ?_
  walk_at "go"
  refine g_inO (x := some (lnM g x)) rfl hr ?_
  walk_at "go"
  refine g_ifN (fun h => ?_) (fun h => ?_)
  · walk_at "go"
    have h' : ¬ hitM g pl x := h
    rw [decide_eq_false h'] at hQ
    exact hQ H Keep.refl (by unfold pl2; rw [if_neg h']; exact M) (fun _ _ e => e)
  · have h' : hitM g pl x := h
    walk_at "go"
    refine g_indexO (x := some (lnM g x)) rfl hr h ?_
    walk_at "go"
    refine .inl ⟨a, _, _, ixo (some (lnM g x)) (pl.getD (nmM g x) []), rfl, rfl, hr, ?_, ?_⟩
    · unfold ixN
      have : ixo (some (lnM g x)) (pl.getD (nmM g x) []) < (pl.getD (nmM g x) []).length := ixo_lt h'
      rw [List.length_map, if_pos (by omega), if_pos (by omega)]
      rfl
    · have M2 := ma_pl_set (r' := (pl.getD (nmM g x) []).set (ixo (some (lnM g x)) (pl.getD (nmM g x) [])) none) M ha hp
      rw [List.map_set] at M2
      walk_at "go"
      rw [decide_eq_true h'] at hQ
      exact hQ _ (Keep.set (maA_a ha)) (by unfold pl2; rw [if_pos h']; exact M2) (upd_tup hr (fun _ z => nomatch z))


/-! ### the plain law: the two find the same victims -/
theorem moR_lt {p : Nat} {b : Bool} : ∀ {l : Log}, -1 ≤ moR p b l ∧ moR p b l < l.length
  | [] => by unfold moR; simp
  | (q, c) :: l => by
    have := moR_lt (p := p) (b := b) (l := l)
    unfold moR
    rw [List.length_cons]
    split <;> omega
theorem moV_snoc {log : Log} {p q : Nat} {b lru : Bool} : moV (log ++ [(q, b)]) p lru = if q = p ∧ (lru = true ∨ b = true) then (log.length : Int) else moV log p lru := by
  unfold moV
  rw [List.reverse_append]
  show moR p lru ((q, b) :: log.reverse) = _
  rw [show moR p lru ((q, b) :: log.reverse) = if q = p ∧ (lru = true ∨ b = true) then ((log.reverse.length : Nat) : Int) else moR p lru log.reverse from rfl, List.length_reverse]
structure TmR (W : Nat) (tm : List Int) (t : Int) (log : Log) (lru : Bool) : Prop where
  l : tm.length = W
  b : ∀ p, p < W → tm.getD p 0 ≤ t
  i : ∀ p, p < W → ∀ q, q < W → (tm.getD p 0 ≤ tm.getD q 0 ↔ moV log p lru ≤ moV log q lru)
theorem findIdx_eq {α : Type} {p q : α → Bool} : ∀ {l : List α}, (∀ a ∈ l, p a = q a) → l.findIdx p = l.findIdx q
  | [], _ => rfl
  | x :: l, h => by
    rw [List.findIdx_cons, List.findIdx_cons, h x (by simp), findIdx_eq fun a ha => h a (by simp [ha])]
theorem findIdx_map' {α β : Type} {p : β → Bool} {f : α → β} : ∀ {l : List α}, (l.map f).findIdx p = l.findIdx fun a => p (f a)
  | [] => rfl
  | x :: l => by rw [List.map_cons, List.findIdx_cons, List.findIdx_cons, findIdx_map']
theorem list_range {l : List Int} : l = (List.range l.length).map fun p => l.getD p 0 := by
  refine List.ext_getElem? fun i => ?_
  rw [List.getElem?_map]
  by_cases h : i < l.length
  · rw [List.getElem?_range h, List.getElem?_eq_getElem h, Option.map_some, List.getD_eq_getElem?_getD, List.getElem?_eq_getElem h]
    rfl
  · rw [List.getElem?_eq_none (by omega), List.getElem?_eq_none (by simpa using h)]
    rfl
theorem mnI_map {W : Nat} {f : Nat → Int} : mnI ((List.range W).map f) = (List.range W).findIdx fun p => (List.range W).all fun q => decide (f p ≤ f q) := by
  unfold mnI
  rw [findIdx_map']
  refine findIdx_eq fun p _ => ?_
  rw [List.all_map]
  rfl
theorem TmR.mn {W : Nat} {tm : List Int} {t : Int} {log : Log} {lru : Bool} (h : TmR W tm t log lru) : mnI tm = mnI (moL log W lru) := by
  have e1 : mnI tm = mnI ((List.range W).map fun p => tm.getD p 0) := by rw [← h.l]; exact congrArg mnI list_range
  rw [e1]
  unfold moL
  rw [mnI_map, mnI_map]
  refine findIdx_eq fun p hp => ?_
  have hp' := List.mem_range.mp hp
  rw [Bool.eq_iff_iff, List.all_eq_true, List.all_eq_true]
  constructor
  · intro z q hq
    exact decide_eq_true ((h.i p hp' q (List.mem_range.mp hq)).mp (of_decide_eq_true (z q hq)))
  · intro z q hq
    exact decide_eq_true ((h.i p hp' q (List.mem_range.mp hq)).mpr (of_decide_eq_true (z q hq)))
theorem getD_set {l : List Int} {p q : Nat} {x : Int} (h : q < l.length) : (l.set p x).getD q 0 = if p = q then x else l.getD q 0 := by
  rw [List.getD_eq_getElem?_getD, List.getD_eq_getElem?_getD, List.getElem?_set]
  split
  · rename_i e
    subst e
    rw [if_pos h]
    rfl
  · rfl
theorem TmR.put {W p : Nat} {tm : List Int} {t : Int} {log : Log} {lru b : Bool} (h : TmR W tm t log lru) (hb : lru = true ∨ b = true) : TmR W (tm.set p (t + 1)) (t + 1) (log ++ [(p, b)]) lru where
  l := by rw [List.length_set]; exact h.l
  b := fun q hq => by
    rw [getD_set (by rw [h.l]; exact hq)]
    have := h.b q hq
    split <;> omega
  i := fun q hq q' hq' => by
    rw [getD_set (by rw [h.l]; exact hq), getD_set (by rw [h.l]; exact hq'), moV_snoc, moV_snoc]
    have h1 := h.b q hq
    have h2 := h.b q' hq'
    have h3 := h.i q hq q' hq'
    have h4 := moR_lt (p := q) (b := lru) (l := log.reverse)
    have h5 := moR_lt (p := q') (b := lru) (l := log.reverse)
    rw [List.length_reverse] at h4 h5
    unfold moV at h3 ⊢
    by_cases e1 : p = q <;> by_cases e2 : p = q' <;> simp only [e1, e2, hb, and_self, if_true, if_false, true_and, false_and, and_true]
    · subst e1; subst e2; simp
    · subst e1
      rw [if_neg (fun z => e2 z)]
      constructor <;> intro <;> omega
    · subst e2
      rw [if_neg (fun z => e1 z)]
      constructor <;> intro <;> omega
    · exact h3
theorem TmR.hit {W p : Nat} {tm : List Int} {t : Int} {log : Log} (h : TmR W tm t log false) : TmR W tm (t + 1) (log ++ [(p, false)]) false where
  l := h.l
  b := fun q hq => by have := h.b q hq; omega
  i := fun q hq q' hq' => by
    rw [moV_snoc, moV_snoc, if_neg (by simp), if_neg (by simp)]
    exact h.i q hq q' hq'
theorem TmR.later {W : Nat} {tm : List Int} {t : Int} {log : Log} {lru : Bool} (h : TmR W tm t log lru) : TmR W tm (t + 1) log lru := ⟨h.l, fun q hq => by have := h.b q hq; omega, h.i⟩
theorem TmR.start {W : Nat} {lru : Bool} : TmR W (List.replicate W 0) 0 [] lru where
  l := List.length_replicate
  b := fun q hq => by rw [List.getD_eq_getElem?_getD, List.getElem?_replicate, if_pos hq]; exact Int.le_refl _
  i := fun q hq q' hq' => by
    rw [List.getD_eq_getElem?_getD, List.getD_eq_getElem?_getD, List.getElem?_replicate, if_pos hq, List.getElem?_replicate, if_pos hq']
    exact ⟨fun _ => Int.le_refl _, fun _ => Int.le_refl _⟩
/-! the tree -/
def ptO (W : Nat) : Log → List Int
  | [] => List.replicate W 0
  | (p, _) :: l => tnV (ptO W l) W p
theorem ptO_len {W : Nat} : ∀ {l : Log}, (ptO W l).length = W
  | [] => List.length_replicate
  | (_, _) :: l => tnGo_len.trans ptO_len
theorem ptO_01 {W : Nat} : ∀ {l : Log}, ∀ x ∈ ptO W l, x = 0 ∨ x = 1
  | [] => fun x hx => .inl (List.eq_of_mem_replicate hx)
  | (_, _) :: l => tnGo_01 ptO_01
theorem tn_low : ∀ {f node v : Nat} {r : List Int}, node ≤ v → (tnGo f node r).getD v 0 = r.getD v 0
  | 0, _, _, _, _ => rfl
  | f + 1, node, v, r, h => by
    unfold tnGo
    split
    · rw [tn_low (by omega), List.getD_eq_getElem?_getD, List.getElem?_set_ne (by omega), ← List.getD_eq_getElem?_getD]
    · rfl
theorem tn_hit {v : Nat} (hv : 1 ≤ v) : ∀ {i f node : Nat} {r : List Int}, node ≤ f → v < r.length → node / 2 ^ (i + 1) = v → (tnGo f node r).getD v 0 = 1 - ((node / 2 ^ i : Nat) : Int) % 2
  | 0, f, node, r, hf, hl, e => by
    have e' : node / 2 = v := by simpa using e
    rw [tnGo_step (by omega) hf, e', tn_low (Nat.le_refl _), getD_set hl, if_pos rfl]
    simp
  | i + 1, f, node, r, hf, hl, e => by
    have e2 : node / 2 / 2 ^ (i + 1) = v := by rw [Nat.div_div_eq_div_mul, ← Nat.pow_succ']; exact e
    have h1 : 1 < node := by
      rcases Nat.lt_or_ge 1 node with h | h
      · exact h
      · have : node / 2 = 0 := by omega
        rw [this, Nat.zero_div] at e2
        omega
    rw [tnGo_step h1 hf, tn_hit hv (i := i) (by omega) (by rw [List.length_set]; exact hl) e2, Nat.div_div_eq_div_mul, ← Nat.pow_succ']
theorem tn_miss {v : Nat} : ∀ {f node : Nat} {r : List Int}, (∀ i, node / 2 ^ (i + 1) ≠ v) → (tnGo f node r).getD v 0 = r.getD v 0
  | 0, _, _, _ => rfl
  | f + 1, node, r, h => by
    unfold tnGo
    split
    · have h0 : node / 2 ≠ v := by simpa using h 0
      rw [tn_miss fun i => by rw [Nat.div_div_eq_div_mul, ← Nat.pow_succ']; exact h (i + 1), List.getD_eq_getElem?_getD, List.getElem?_set_ne h0, ← List.getD_eq_getElem?_getD]
    · rfl
/-- only the level of v can reach v -/
theorem level {h k i v node : Nat} (h1 : 2 ^ h ≤ v * 2 ^ k) (h2 : v * 2 ^ k < 2 * 2 ^ h) (n1 : 2 ^ h ≤ node) (n2 : node < 2 * 2 ^ h) (e : node / 2 ^ i = v) : i = k := by
  have v0 : v ≠ 0 := fun z => by
    rw [z, Nat.zero_mul] at h1
    have := Nat.two_pow_pos h
    omega
  have l1 := Nat.log2_self_le v0
  have l2 : v < 2 ^ (v.log2 + 1) := Nat.lt_log2_self
  generalize v.log2 = L at l1 l2
  have lt : ∀ {a b : Nat}, 2 ^ a < 2 ^ b → a < b := fun {a b} z => (Nat.pow_lt_pow_iff_right (by decide)).mp z
  have eh : 2 * 2 ^ h = 2 ^ (h + 1) := by rw [Nat.pow_succ, Nat.mul_comm]
  rw [eh] at h2 n2
  have a1 : v * 2 ^ i ≤ node := by rw [← e]; exact Nat.div_mul_le_self node (2 ^ i)
  have a2 : node < (v + 1) * 2 ^ i := by rw [← e, Nat.add_mul, Nat.one_mul]; exact Nat.lt_div_mul_add (Nat.two_pow_pos i)
  have lo : ∀ m, 2 ^ (L + m) ≤ v * 2 ^ m := fun m => by rw [Nat.pow_add]; exact Nat.mul_le_mul_right _ l1
  have hi : ∀ m, (v + 1) * 2 ^ m ≤ 2 ^ (L + 1 + m) := fun m => by rw [Nat.pow_add]; exact Nat.mul_le_mul_right _ l2
  have ad : ∀ m, v * 2 ^ m < (v + 1) * 2 ^ m := fun m => Nat.mul_lt_mul_of_pos_right (Nat.lt_succ_self v) (Nat.two_pow_pos m)
  have b1 := lt (Nat.lt_of_le_of_lt (lo k) h2)
  have b2 := lt (Nat.lt_of_le_of_lt h1 (Nat.lt_of_lt_of_le (ad k) (hi k)))
  have b3 := lt (Nat.lt_of_le_of_lt (Nat.le_trans (lo i) a1) n2)
  have b4 := lt (Nat.lt_of_le_of_lt n1 (Nat.lt_of_lt_of_le a2 (hi i)))
  omega
theorem pt_la {h k v first : Nat} (hv : 1 ≤ v) (e : v * 2 ^ (k + 1) = first + 2 ^ h) (hf : first + 2 ^ (k + 1) ≤ 2 ^ h) : ∀ {l : Log}, (∀ x ∈ l, x.1 < 2 ^ h) → (ptO (2 ^ h) l).getD v 0 = if 0 ≤ laR first (first + 2 * 2 ^ k) l ∧ laR first (first + 2 * 2 ^ k) l < first + (2 ^ k : Nat) then 1 else 0
  | [], _ => by
    have e0 : laR first (first + 2 * 2 ^ k) [] = -1 := rfl
    rw [e0, if_neg (by omega)]
    unfold ptO
    rw [List.getD_eq_getElem?_getD, List.getElem?_replicate]
    split <;> rfl
  | (p, b) :: l, hl => by
    have hp : p < 2 ^ h := hl (p, b) (by simp)
    have ih := pt_la hv e hf (l := l) fun x hx => hl x (by simp [hx])
    have pk := Nat.two_pow_pos k
    have pe : 2 ^ (k + 1) = 2 * 2 ^ k := by rw [Nat.pow_succ, Nat.mul_comm]
    rw [show ptO (2 ^ h) ((p, b) :: l) = tnGo (p + 2 ^ h) (p + 2 ^ h) (ptO (2 ^ h) l) from rfl]
    rw [show laR first (first + 2 * 2 ^ k) ((p, b) :: l) = if first ≤ p ∧ p < first + 2 * 2 ^ k then (p : Int) else laR first (first + 2 * 2 ^ k) l from rfl]
    have vW : v < 2 ^ h := by
      have : v * 2 ≤ v * 2 ^ (k + 1) := Nat.mul_le_mul_left v (by rw [pe]; omega)
      omega
    by_cases c : first ≤ p ∧ p < first + 2 * 2 ^ k
    · rw [if_pos c]
      have ed : (p + 2 ^ h) / 2 ^ (k + 1) = v := by
        rw [show p + 2 ^ h = (p - first) + v * 2 ^ (k + 1) by omega, Nat.add_mul_div_right _ _ (Nat.two_pow_pos _), Nat.div_eq_of_lt (by rw [pe]; omega), Nat.zero_add]
      rw [tn_hit hv (i := k) (Nat.le_refl _) (by rw [ptO_len]; exact vW) ed]
      have e2 : v * 2 * 2 ^ k = v * 2 ^ (k + 1) := by rw [pe, Nat.mul_assoc]
      by_cases c2 : p < first + 2 ^ k
      · have : (p + 2 ^ h) / 2 ^ k = v * 2 := by
          rw [show p + 2 ^ h = (p - first) + v * 2 * 2 ^ k by omega, Nat.add_mul_div_right _ _ pk, Nat.div_eq_of_lt (by omega), Nat.zero_add]
        rw [this, if_pos (by omega)]
        omega
      · have : (p + 2 ^ h) / 2 ^ k = v * 2 + 1 := by
          rw [show p + 2 ^ h = (p - first - 2 ^ k) + (v * 2 + 1) * 2 ^ k by rw [Nat.add_mul, Nat.one_mul]; omega, Nat.add_mul_div_right _ _ pk, Nat.div_eq_of_lt (by omega), Nat.zero_add]
        rw [this, if_neg (by omega)]
        omega
    · rw [if_neg c, ← ih]
      refine tn_miss fun i ei => c ?_
      have hik := level (h := h) (k := k + 1) (i := i + 1) (v := v) (node := p + 2 ^ h) (by omega) (by omega) (by omega) (by omega) ei
      rw [hik] at ei
      have a1 : v * 2 ^ (k + 1) ≤ p + 2 ^ h := by rw [← ei]; exact Nat.div_mul_le_self _ _
      have a2 : p + 2 ^ h < v * 2 ^ (k + 1) + 2 ^ (k + 1) := by rw [← ei]; exact Nat.lt_div_mul_add (Nat.two_pow_pos _)
      omega
theorem pd_pt {h : Nat} {log : Log} (hl : ∀ x ∈ log, x.1 < 2 ^ h) : ∀ {k f v first : Nat}, 1 ≤ v → v * 2 ^ k = first + 2 ^ h → first + 2 ^ k ≤ 2 ^ h → 2 ^ k ≤ f → ptGo (ptO (2 ^ h) log.reverse) (2 ^ h) (2 ^ h) v = pdGo log f first (2 ^ k) + 2 ^ h
  | 0, f, v, first, _, e, _, _ => by
    rw [pdGo_end (by simp), ptGo_end (by simp at e; omega)]
    simpa using e
  | k + 1, f, v, first, hv, e, hf, hfu => by
    have pk := Nat.two_pow_pos k
    have pe : 2 ^ (k + 1) = 2 * 2 ^ k := by rw [Nat.pow_succ, Nat.mul_comm]
    obtain ⟨f, rfl⟩ : ∃ g, f = g + 1 := ⟨f - 1, by omega⟩
    have vW : v < 2 ^ h := by
      have : v * 2 ≤ v * 2 ^ (k + 1) := Nat.mul_le_mul_left v (by rw [pe]; omega)
      omega
    have hlr : ∀ x ∈ log.reverse, x.1 < 2 ^ h := fun x hx => hl x (List.mem_reverse.mp hx)
    have hpt := pt_la hv e hf hlr
    have hd : 2 ^ (k + 1) / 2 = 2 ^ k := by rw [pe]; omega
    rw [ptGo_step hv vW, hpt, show pdGo log (f + 1) first (2 ^ (k + 1)) = if 1 < 2 ^ (k + 1) then (if 0 ≤ laV log first (first + 2 * (2 ^ (k + 1) / 2)) ∧ laV log first (first + 2 * (2 ^ (k + 1) / 2)) < first + (2 ^ (k + 1) / 2 : Nat) then pdGo log f (first + 2 ^ (k + 1) / 2) (2 ^ (k + 1) / 2) else pdGo log f first (2 ^ (k + 1) / 2)) else first from rfl, if_pos (show 1 < 2 ^ (k + 1) by omega), hd]
    have e2 : v * 2 * 2 ^ k = v * 2 ^ (k + 1) := by rw [pe, Nat.mul_assoc]
    unfold laV
    split
    · exact pd_pt hl (k := k) (f := f) (first := first + 2 ^ k) (v := 2 * v + 1) (by omega) (by rw [Nat.add_mul, Nat.one_mul, Nat.mul_comm 2 v]; omega) (by omega) (by omega)
    · exact pd_pt hl (k := k) (f := f) (first := first) (v := 2 * v) (by omega) (by rw [Nat.mul_comm 2 v]; omega) (by omega) (by omega)
theorem pd_eq {h : Nat} {log : Log} (hl : ∀ x ∈ log, x.1 < 2 ^ h) : ptV (ptO (2 ^ h) log.reverse) (2 ^ h) = pdV log (2 ^ h) := by
  unfold ptV pdV
  have := pd_pt hl (k := h) (f := 2 ^ h) (v := 1) (first := 0) (by omega) (by omega) (by omega) (Nat.le_refl _)
  omega
/-! the two stay alike -/
structure Rel (h : Nat) (c : CSt) (lg : List Log) : Prop where
  w : c.W = 2 ^ h
  ll : lg.length = c.S
  pol : c.P = "lru" ∨ c.P = "fifo" ∨ c.P = "plru"
  ent : ∀ n, n < c.S → ∀ x ∈ lg.getD n [], x.1 < 2 ^ h
  tm : ¬ c.P = "plru" → ∀ n, n < c.S → TmR c.W (tmv c n) c.t (lg.getD n []) (decide (c.P = "lru"))
  pt : c.P = "plru" → ∀ n, n < c.S → ptv c n = ptO c.W (lg.getD n []).reverse
abbrev stg (c : CSt) : Stg := ⟨c.S, c.W, c.Z, c.P⟩
theorem getD_setL {α : Type} {l : List α} {p q : Nat} {x d : α} (h : p < l.length) : (l.set p x).getD q d = if p = q then x else l.getD q d := by
  rw [List.getD_eq_getElem?_getD, List.getD_eq_getElem?_getD, List.getElem?_set]
  split
  · rename_i e
    subst e
    first | rfl | (rw [if_pos h]; rfl)
  · rfl
section
variable {h : Nat} {d : CAd} {c : CSt} {lg : List Log} {x : Int} {n : Nat}
theorem Rel.vi (R : Rel h c lg) (hn : n < c.S) : fpV c n = if none ∈ row c n then ixo none (row c n) else viV (lg.getD n []) c.W c.P := by
  unfold fpV viV
  split
  · rfl
  · by_cases hp : c.P = "plru"
    · rw [if_pos hp, if_pos hp, R.pt hp n hn, R.w]
      exact pd_eq (R.ent n hn)
    · rw [if_neg hp, if_neg hp]
      exact (R.tm hp n hn).mn
theorem Rel.plc (R : Rel h c lg) (wf : CWf d c) : plO c x = plM (stg c) c.pl lg x := by
  have hn := (wf.nm x).1
  unfold plO plM
  rw [R.vi hn]
  rfl
theorem Rel.tcpl (R : Rel h c lg) (wf : CWf d c) : (tcV c x).pl = pl1 (stg c) c.pl lg x := by
  unfold tcV pl1
  rw [← R.plc wf]
  rfl
theorem lru_plru : ¬ ("lru" : Str) = "plru" := by decide +kernel
theorem Rel.tc (R : Rel h c lg) (wf : CWf d c) : Rel h (tcV c x) (lg1 (stg c) c.pl lg x) := by
  have hn := (wf.nm x).1
  have hl : nmM (stg c) x = nmO c x := rfl
  have ew : plM (stg c) c.pl lg x = plO c x := (R.plc wf).symm
  have hpl := wf.pl_ (x := x)
  have eg : ∀ m, (lg1 (stg c) c.pl lg x).getD m [] = if nmO c x = m then lg.getD (nmO c x) [] ++ [(plO c x, !decide (hitV c x))] else lg.getD m [] := fun m => by
    unfold lg1
    rw [getD_setL (by rw [R.ll, hl]; exact hn), ew]
    rfl
  refine ⟨R.w, ?_, R.pol, ?_, ?_, ?_⟩
  · unfold lg1
    rw [List.length_set]
    exact R.ll
  · intro m hm y hy
    rw [eg] at hy
    split at hy
    · rcases List.mem_append.mp hy with z | z
      · exact R.ent _ hn y z
      · rw [List.mem_singleton.mp z]
        show plO c x < 2 ^ h
        rw [← R.w]
        exact hpl
    · exact R.ent m hm y hy
  · intro hp m hm
    have hp : ¬ c.P = "plru" := hp
    have hm : m < c.S := hm
    have z := R.tm hp m hm
    rw [eg]
    show TmR c.W (tmv (tcV c x) m) (c.t + 1) _ (decide (c.P = "lru"))
    by_cases hm2 : nmO c x = m
    · subst hm2
      rw [if_pos rfl]
      by_cases hc : ¬ hitV c x ∨ c.P = "lru"
      · have e : tmv (tcV c x) (nmO c x) = (tmv c (nmO c x)).set (plO c x) (c.t + 1) := by
          unfold tmv
          show (if ¬ hitV c x ∨ c.P = "lru" then c.tm.set (nmO c x) ((tmv c (nmO c x)).set (plO c x) (c.t + 1)) else c.tm).getD (nmO c x) [] = _
          rw [if_pos hc, getD_setL (by rw [wf.lt]; exact hn), if_pos rfl]
          rfl
        rw [e]
        refine z.put ?_
        rcases hc with hc | hc
        · exact .inr (by rw [decide_eq_false hc]; rfl)
        · exact .inl (decide_eq_true hc)
      · have e : tmv (tcV c x) (nmO c x) = tmv c (nmO c x) := by
          unfold tmv
          show (if ¬ hitV c x ∨ c.P = "lru" then c.tm.set (nmO c x) ((tmv c (nmO c x)).set (plO c x) (c.t + 1)) else c.tm).getD (nmO c x) [] = _
          rw [if_neg hc]
        rw [not_or, Classical.not_not] at hc
        rw [e, decide_eq_true hc.1]
        rw [decide_eq_false hc.2] at z ⊢
        exact z.hit
    · have e : tmv (tcV c x) m = tmv c m := by
        unfold tmv
        show (if ¬ hitV c x ∨ c.P = "lru" then c.tm.set (nmO c x) ((tmv c (nmO c x)).set (plO c x) (c.t + 1)) else c.tm).getD m [] = _
        split
        · rw [getD_setL (by rw [wf.lt]; exact hn), if_neg hm2]
        · rfl
      rw [e, if_neg hm2]
      exact z.later
  · intro hp m hm
    have hp : c.P = "plru" := hp
    have hm : m < c.S := hm
    have z := R.pt hp m hm
    rw [eg]
    have e : ptv (tcV c x) m = if nmO c x = m then tnV (ptv c (nmO c x)) c.W (plO c x) else ptv c m := by
      unfold ptv
      show (if c.P = "plru" then c.pt.set (nmO c x) (tnV (ptv c (nmO c x)) c.W (plO c x)) else c.pt).getD m [] = _
      rw [if_pos hp, getD_setL (by rw [wf.lq]; exact hn)]
      rfl
    rw [e]
    by_cases hm2 : nmO c x = m
    · subst hm2
      rw [if_pos rfl, if_pos rfl, List.reverse_append, z]
      rfl
    · rw [if_neg hm2, if_neg hm2]
      exact z
theorem dp_pl : (dpV c x).pl = pl2 (stg c) c.pl x := rfl
theorem Rel.dp (R : Rel h c lg) : Rel h (dpV c x) lg := ⟨R.w, R.ll, R.pol, R.ent, R.tm, R.pt⟩
end
theorem Rel.start {h S Z : Nat} {P : Str} (hp : P = "lru" ∨ P = "fifo" ∨ P = "plru") : Rel h (c0V S (2 ^ h) Z P) (List.replicate S []) where
  w := rfl
  ll := List.length_replicate
  pol := hp
  ent := fun n hn x hx => by
    rw [List.getD_eq_getElem?_getD, List.getElem?_replicate, if_pos hn] at hx
    cases hx
  tm := fun _ n hn => by
    have e1 : tmv (c0V S (2 ^ h) Z P) n = List.replicate (2 ^ h) 0 := by
      unfold tmv
      show (List.replicate S (List.replicate (2 ^ h) (0 : Int))).getD n [] = _
      rw [List.getD_eq_getElem?_getD, List.getElem?_replicate, if_pos hn]
      rfl
    rw [e1, List.getD_eq_getElem?_getD, List.getElem?_replicate, if_pos hn]
    exact TmR.start
  pt := fun _ n hn => by
    have e1 : ptv (c0V S (2 ^ h) Z P) n = List.replicate (2 ^ h) 0 := by
      unfold ptv
      show (List.replicate S (List.replicate (2 ^ h) (0 : Int))).getD n [] = _
      rw [List.getD_eq_getElem?_getD, List.getElem?_replicate, if_pos hn]
      rfl
    rw [e1, List.getD_eq_getElem?_getD, List.getElem?_replicate, if_pos hn]
    rfl


/-! ### the log's own reckoning -/
abbrev LogP := List (Int × Bool)
def lgP (log : LogP) (i : Nat) : Int × Bool := log.getD i (0, false)
def pastN (log : LogP) (e : Nat) : Nat → Nat
  | 0 => 0
  | b + 1 => pastN log e b + if b + 1 ≤ e ∧ (lgP log (e - 1 - b)).2 = true then 2 ^ b else 0
theorem pastN_lt (log : LogP) (e : Nat) : ∀ b, pastN log e b < 2 ^ b
  | 0 => by simp [pastN]
  | b + 1 => by
    have := pastN_lt log e b
    rw [pastN, Nat.pow_succ]
    split <;> omega
theorem lgP_app {log : LogP} {x : Int × Bool} {i : Nat} (h : i < log.length) : lgP (log ++ [x]) i = lgP log i := by
  unfold lgP
  rw [List.getD_eq_getElem?_getD, List.getD_eq_getElem?_getD, List.getElem?_append_left h]
theorem lgP_new {log : LogP} {x : Int × Bool} : lgP (log ++ [x]) log.length = x := by
  unfold lgP
  rw [List.getD_eq_getElem?_getD, List.getElem?_append_right (Nat.le_refl _), Nat.sub_self]
  rfl
theorem pastN_app {log : LogP} {x : Int × Bool} {e : Nat} (he : e ≤ log.length) : ∀ b, pastN (log ++ [x]) e b = pastN log e b
  | 0 => rfl
  | b + 1 => by
    rw [pastN, pastN, pastN_app he b]
    by_cases h : b + 1 ≤ e
    · rw [lgP_app (by omega)]
    · rw [if_neg (fun z => h z.1), if_neg (fun z => h z.1)]
def bt (b : Bool) : Nat := if b then 1 else 0
theorem pastN_shift (log : LogP) (x : Int × Bool) : ∀ b, pastN (log ++ [x]) (log.length + 1) (b + 1) = bt x.2 + 2 * pastN log log.length b
  | 0 => by
    have e : log.length + 1 - 1 - 0 = log.length := by omega
    rw [pastN, pastN, pastN, e, lgP_new]
    cases h : x.2 <;> simp [bt]
  | b + 1 => by
    rw [pastN, pastN_shift log x b, pastN]
    by_cases h : b + 1 ≤ log.length
    · have e : log.length + 1 - 1 - (b + 1) = log.length - 1 - b := by omega
      rw [e, lgP_app (by omega)]
      by_cases h2 : (lgP log (log.length - 1 - b)).2 = true
      · rw [if_pos ⟨by omega, h2⟩, if_pos ⟨h, h2⟩, Nat.pow_succ]
        omega
      · rw [if_neg (fun z => h2 z.2), if_neg (fun z => h2 z.2)]
        omega
    · rw [if_neg (fun z => h (by omega)), if_neg (fun z => h z.1)]
      omega
theorem pastN_next (log : LogP) (x : Int × Bool) (b : Nat) : pastN (log ++ [x]) (log.length + 1) b = (2 * pastN log log.length b + bt x.2) % 2 ^ b := by
  cases b with
  | zero => simp [pastN, Nat.mod_one]
  | succ b =>
    rw [pastN_shift, pastN]
    have h1 := pastN_lt log log.length b
    have h2 : bt x.2 ≤ 1 := by cases x.2 <;> decide
    split
    · have e : 2 * (pastN log log.length b + 2 ^ b) + bt x.2 = (bt x.2 + 2 * pastN log log.length b) + 2 ^ (b + 1) := by
        rw [Nat.pow_succ]; omega
      rw [e, Nat.add_mod_right, Nat.mod_eq_of_lt]
      rw [Nat.pow_succ]; omega
    · rw [Nat.add_zero, Nat.add_comm, Nat.mod_eq_of_lt]
      rw [Nat.pow_succ]; omega
def plN (k : Str) (n : Int) (log : LogP) (e : Nat) (row : Int) : Int := if k = "two" then row % n else Builtin.bitXor (row % 2 ^ n.toNat) ((pastN log e n.toNat : Nat) : Int)
theorem plN_app {k : Str} {n : Int} {log : LogP} {x : Int × Bool} {e : Nat} {row : Int} (he : e ≤ log.length) : plN k n (log ++ [x]) e row = plN k n log e row := by
  unfold plN
  rw [pastN_app he]
def cntN (k : Str) (n : Int) (log : LogP) (j : Int) : Nat → Int
  | 0 => 1
  | m + 1 => if plN k n log m (lgP log m).1 = j then upV (lgP log m).2 (cntN k n log j m) else cntN k n log j m
theorem cntN_app {k : Str} {n : Int} {log : LogP} {x : Int × Bool} {j : Int} : ∀ {m : Nat}, m ≤ log.length → cntN k n (log ++ [x]) j m = cntN k n log j m
  | 0, _ => rfl
  | m + 1, h => by
    rw [cntN, cntN, cntN_app (by omega), plN_app (by omega), lgP_app (by omega)]
def guessN (k : Str) (n : Int) (log : LogP) (row : Int) : Bool := if k = "taken" then true else decide (1 < cntN k n log (plN k n log log.length row) log.length)
/-- the predictor's state is what the log says -/
structure Lgd (k : Str) (n : Int) (log : LogP) (b h : Int) (cs : List Int) : Prop where
  ok : PrOk k b h cs
  two : k = "two" → (cs.length : Int) = n
  his : k = "history" → 0 ≤ n ∧ b = n ∧ h = ((pastN log log.length n.toNat : Nat) : Int)
  cnt : ¬ k = "taken" → ∀ j : Nat, j < cs.length → cs.getD j 0 = cntN k n log (j : Int) log.length
theorem Lgd.pl {k : Str} {n : Int} {log : LogP} {b h : Int} {cs : List Int} (L : Lgd k n log b h cs) (nt : ¬ k = "taken") (row : Int) : plV k h cs.length row = plN k n log log.length row := by
  unfold plV plN
  rcases L.ok.kind with e | ⟨e, _⟩ | ⟨e, _, _, z, _⟩
  · exact (nt e).elim
  · rw [if_neg (by rw [e]; exact t2_ne), if_pos e, L.two e]
  · obtain ⟨_, e2, e3⟩ := L.his e
    rw [if_pos e, if_neg (by rw [e]; exact h2_ne), e3, z, e2, pw_int]
theorem Lgd.guess {k : Str} {n : Int} {log : LogP} {b h : Int} {cs : List Int} (L : Lgd k n log b h cs) (row : Int) : gsV k h cs row = guessN k n log row := by
  unfold gsV guessN
  by_cases nt : k = "taken"
  · rw [if_pos nt, if_pos nt]
  · rw [if_neg nt, if_neg nt]
    obtain ⟨h0, h1, h2⟩ := L.ok.pl (row := row) nt
    rw [L.cnt nt _ (by omega), Int.toNat_of_nonneg h1, L.pl nt]
    apply decide_eq_decide.mpr
    omega
theorem Lgd.learn {k : Str} {n : Int} {log : LogP} {b h : Int} {cs : List Int} (L : Lgd k n log b h cs) (row : Int) (t : Bool) : Lgd k n (log ++ [(row, t)]) b (lhV k b h t) (lcV k h cs row t) := by
  refine ⟨L.ok.learn, fun e => by rw [lcV_len]; exact L.two e, fun e => ?_, fun nt j hj => ?_⟩
  · obtain ⟨e1, e2, e3⟩ := L.his e
    refine ⟨e1, e2, ?_⟩
    rw [List.length_append]
    show lhV k b h t = ((pastN (log ++ [(row, t)]) (log.length + 1) n.toNat : Nat) : Int)
    rw [pastN_next]
    unfold lhV
    rw [if_pos e, e3, e2, pw_int]
    cases t <;> simp [bt]
  · rw [lcV_len] at hj
    obtain ⟨h0, h1, h2⟩ := L.ok.pl (row := row) nt
    rw [List.length_append]
    show (lcV k h cs row t).getD j 0 = cntN k n (log ++ [(row, t)]) (j : Int) (log.length + 1)
    rw [cntN, lgP_new, cntN_app (Nat.le_refl _), plN_app (Nat.le_refl _), ← L.pl nt]
    show (lcV k h cs row t).getD j 0 = if plV k h cs.length row = (j : Int) then upV t (cntN k n log (j : Int) log.length) else cntN k n log (j : Int) log.length
    unfold lcV
    rw [if_neg nt]
    by_cases e : (plV k h cs.length row).toNat = j
    · rw [if_pos (by omega), e, List.getD_eq_getElem?_getD, List.getElem?_set_self hj, ← L.cnt nt j hj]
      rfl
    · rw [if_neg (by omega), List.getD_eq_getElem?_getD, List.getElem?_set_ne e, ← List.getD_eq_getElem?_getD]
      exact L.cnt nt j hj
theorem Lgd.start {k : Str} {n : Int} {xs : List V} (h : PSet_ k n xs) : Lgd k n [] (b0V k n) 0 (k0V k n) := by
  refine ⟨pr_start h, fun e => ?_, fun e => ?_, fun nt j hj => ?_⟩
  · cases h with
    | taken => exact (tt_ne e).elim
    | two n h h2 =>
      unfold k0V
      rw [if_pos rfl, List.length_replicate]
      omega
    | hist n h h2 => exact (h2_ne e).elim
  · cases h with
    | taken => exact (th_ne e).elim
    | two n h h2 => exact (t2_ne e).elim
    | hist n h h2 =>
      refine ⟨h, by unfold b0V; rw [if_pos rfl], ?_⟩
      have z : ∀ b, pastN [] 0 b = 0 := fun b => by
        induction b with
        | zero => rfl
        | succ b ih => rw [pastN, ih, if_neg (fun z => by omega)]
      show (0 : Int) = ((pastN [] 0 n.toNat : Nat) : Int)
      rw [z]
      rfl
  · show _ = (1 : Int)
    have : ∀ x ∈ k0V k n, x = 1 := fun x hx => by
      unfold k0V at hx
      split at hx
      · exact List.eq_of_mem_replicate hx
      · split at hx
        · exact List.eq_of_mem_replicate hx
        · cases hx
    rw [List.getD_eq_getElem?_getD, List.getElem?_eq_getElem hj]
    exact this _ (List.getElem_mem hj)

/-- the log's rows -/
def LogT (H : Hp) (ts : List Addr) (log : LogP) : Prop := ts.length = log.length ∧ ∀ i t, ts[i]? = some t → H t = some (.tup [.int (lgP log i).1, .bl (lgP log i).2])
theorem LogT.keep {ms : List Addr} {H H' : Hp} {ts : List Addr} {log : LogP} (h : LogT H ts log) (k : Keep ms H H') (hm : ∀ m ∈ ms, ∃ o, H m = some o ∧ ∀ xs, o ≠ .tup xs) : LogT H' ts log :=
  ⟨h.1, fun i t e => k.tup hm (h.2 i t e)⟩
theorem LogT.same {H H' : Hp} {ts : List Addr} {log : LogP} (h : LogT H ts log) (k : Same H H') : LogT H' ts log := ⟨h.1, fun i t e => k _ _ (h.2 i t e)⟩
theorem LogT.at_ {H : Hp} {ts : List Addr} {log : LogP} (h : LogT H ts log) {i : Nat} (hi : i < log.length) : ∃ t, (ts.map V.ref)[i]? = some (.ref t) ∧ H t = some (.tup [.int (lgP log i).1, .bl (lgP log i).2]) := by
  have hi' : i < ts.length := by rw [h.1]; exact hi
  refine ⟨ts[i], ?_, h.2 i _ (List.getElem?_eq_getElem hi')⟩
  rw [List.getElem?_map, List.getElem?_eq_getElem hi']
  rfl
def sp_law_past (K : PySem.W.Frag) : Sp := fun vs H Q _ => ∃ (l : Addr) (ts : List Addr) (log : LogP) (e : Nat) (b : Int), vs = [.ref l, .int e, .int b] ∧ H l = some (.lst (ts.map V.ref)) ∧ LogT H ts log ∧ e ≤ log.length ∧ 0 ≤ b ∧ b ≤ 16 ∧ Q (.int ((pastN log e b.toNat : Nat) : Int)) H
theorem sc_law_past : FnScope ["log", "end", "bits", "past", "k"] ["log", "end", "bits"] (defScope (topS 43)) := ⟨rfl, rfl, rfl, by decide +kernel, rfl, by decide +kernel, by decide +kernel⟩
theorem ok_law_past (T : Txt fa fn K mg (CsOk cs K w)) : Dn P w K mg base CX0 1 "_law_past" ["log", "end", "bits"] (sp_law_past K) := by
  refine mk_dn (d := dOf "_law_past" 43) T 31 31 rfl rfl rfl rfl rfl sc_law_past (by walk_at "len") (fun _ _ _ _ _ _ us hl => match us, hl with | [_, _, _], _ => rfl) (fun cdv A outer s H vs Q E hr h => ⟨_, (pss_cons (ps_set (i := 3) sc_law_past.nd rfl (.inl rfl) pe_int)
      (pss_cons (ps_for PassesOwn.never rfl (pi_r1 rfl (T.free 131 rfl) (pa_cons (pv 2) pa_nil)) (pg_name (i := 4) sc_law_past.nd rfl (.inl rfl)) (pss_one (ps_if (PW.pt (pw_and (pt_cmpR o_ge (pe_op op_sub (pe_op op_sub (pv 1) pe_int) (pv 4)) pe_int (nomark _)) (pw_and1 (pt_tru (K := K) rfl (pe_ixU (K := K) rfl (hu_of hr) (pe_ixU (K := K) rfl (hu_of hr) (pv 0) (pe_op op_sub (pe_op op_sub (pv 1) pe_int) (pv 4))) pe_int))))) (pss_one (ps_set (i := 3) sc_law_past.nd rfl (.inl rfl) (pe_op (op_addU (K := K) rfl) (pv 3) (pe_op o_shl pe_int (pv 4))))) pss_nil)))
      (pss_one (ps_ret (pv 3))))), ?_⟩)
  obtain ⟨l, ts, log, e, b, rfl, hl, hT, he, hb, hb2, hQ⟩ := h
  walk_at "go"
  refine f_range (fun i σ H' => ∃ (o4 : Option V), σ = [some (.ref l), some (.int e), some (.int b), some (.int ((pastN log e i : Nat) : Int)), o4] ∧ H' = H) ⟨_, rfl, rfl⟩ ?_ ?_
  · rintro i σ H' hi ⟨o4, rfl, rfl⟩
    walk_at "go"
    refine g_if (fun h => ?_) (fun h => ?_)
    · walk_at "go"
      obtain ⟨t, ht1, ht2⟩ := hT.at_ (i := e - 1 - i) (by omega)
      refine g_ixL (SqL.of hl) (n := e - 1 - i) (by omega) ht1 ?_
      walk_at "go"
      refine g_ifB (fun h2 => ?_) (fun h2 => ?_)
      · walk_at "go"
        refine ⟨some (.int (0 + (i : Int))), ?_, rfl⟩
        rw [pastN, if_pos ⟨by omega, h2⟩]
        have e1 : (0 + (i : Int)).toNat = i := by omega
        rw [e1, Int.one_mul, pw_int, Int.natCast_add]
        rfl
      · walk_at "go"
        refine ⟨some (.int (0 + (i : Int))), ?_, rfl⟩
        rw [pastN, if_neg (fun z => by rw [h2] at z; exact Bool.noConfusion z.2)]
        rfl
    · walk_at "go"
      refine ⟨some (.int (0 + (i : Int))), ?_, rfl⟩
      rw [pastN, if_neg (fun z => h (by omega))]
      rfl
  · rintro σ H' ⟨o4, rfl, rfl⟩
    walk_at "go"
    exact hQ
def sp_law_place (K : PySem.W.Frag) : Sp := fun vs H Q _ => ∃ (s l : Addr) (xs : List V) (k : Str) (n : Int) (ts : List Addr) (log : LogP) (e : Nat) (row : Int), vs = [.ref s, .ref l, .int e, .int row] ∧ H s = some (.tup xs) ∧ PSet_ k n xs ∧ ¬ k = "taken" ∧ H l = some (.lst (ts.map V.ref)) ∧ LogT H ts log ∧ e ≤ log.length ∧ Q (.int (plN k n log e row)) H
theorem sc_law_place : FnScope ["settings", "log", "end", "row", "many"] ["settings", "log", "end", "row"] (defScope (topS 44)) := ⟨rfl, rfl, rfl, by decide +kernel, rfl, by decide +kernel, by decide +kernel⟩
theorem ok_law_place (T : Txt fa fn K mg (CsOk cs K w)) : Dn P w K mg base CX0 2 "_law_place" ["settings", "log", "end", "row"] (sp_law_place K) := by
  refine mk_dn (d := dOf "_law_place" 44) T 32 32 rfl rfl rfl rfl rfl sc_law_place (by walk_at "len") (fun _ _ _ _ _ _ us hl => match us, hl with | [_, _, _, _], _ => rfl) (fun cdv A outer s H vs Q E hr h => ⟨_, (pss_cons (ps_if (pt_cmpR (op_eqU (K := K) rfl hr.units) (pe_ixU (K := K) rfl (hu_of hr) (pv 0) pe_int) pe_str (nomark _)) (pss_one (ps_ret (pe_op o_mod (pv 3) (pe_ixU (K := K) rfl (hu_of hr) (pv 0) pe_int)))) pss_nil)
      (pss_cons (ps_set (i := 4) sc_law_place.nd rfl (.inl rfl) (pe_op o_shl pe_int (pe_ixU (K := K) rfl (hu_of hr) (pv 0) pe_int)))
      (pss_one (ps_ret (pe_op op_xor (pe_op o_mod (pv 3) (pv 4)) (pe_callD (K := K) rfl (ok_law_past T) (hr.mono (by decide)) rfl pass0 (pa_cons (pv 1) (pa_cons (pv 2) (pa_cons (pe_ixU (K := K) rfl (hu_of hr) (pv 0) pe_int) pa_nil))))))))), ?_⟩)
  obtain ⟨s, l, xs, k, n, ts, log, e, row, rfl, hs, hset, nt, hl, hT, he, hQ⟩ := h
  walk_at "go"
  cases hset with
  | taken => exact (nt rfl).elim
  | two _ h h2 =>
    refine g_ixT (SqT.of hs) (n := 0) rfl rfl ?_
    walk_at "go"
    refine q_int ?_ hQ
    unfold plN
    rw [if_pos rfl]
  | hist _ h h2 =>
    refine g_ixT (SqT.of hs) (n := 0) rfl rfl ?_
    walk_at "go"
    have hpw : (0 : Int) < 1 * 2 ^ n.toNat := by
      have := Nat.two_pow_pos n.toNat
      rw [pw_int]
      omega
    refine g_mod hpw ?_
    walk_at "go"
    refine ⟨l, ts, log, e, n, rfl, hl, hT, he, h, h2, ?_⟩
    walk_at "go"
    refine q_int ?_ hQ
    unfold plN
    rw [if_neg h2_ne, Int.one_mul]
theorem up_min (c : Int) : upV true c = if c + 1 < 3 then c + 1 else 3 := by
  unfold upV
  simp only [if_true]
  omega
theorem up_max (c : Int) : upV false c = if c - 1 > 0 then c - 1 else 0 := by
  unfold upV
  simp only [Bool.false_eq_true, if_false]
  omega
def sp_law_guess (K : PySem.W.Frag) : Sp := fun vs H Q _ => ∃ (s l : Addr) (xs : List V) (k : Str) (n : Int) (ts : List Addr) (log : LogP) (row : Int), vs = [.ref s, .ref l, .int row] ∧ H s = some (.tup xs) ∧ PSet_ k n xs ∧ H l = some (.lst (ts.map V.ref)) ∧ LogT H ts log ∧ log.length ≤ 100000 ∧ Q (.bl (guessN k n log row)) H
theorem sc_law_guess : FnScope ["settings", "log", "row", "place", "counter", "k"] ["settings", "log", "row"] (defScope (topS 45)) := ⟨rfl, rfl, rfl, by decide +kernel, rfl, by decide +kernel, by decide +kernel⟩
theorem ok_law_guess (T : Txt fa fn K mg (CsOk cs K w)) : Dn P w K mg base CX0 3 "_law_guess" ["settings", "log", "row"] (sp_law_guess K) := by
  refine mk_dn (d := dOf "_law_guess" 45) T 33 33 rfl rfl rfl rfl rfl sc_law_guess (by walk_at "len") (fun _ _ _ _ _ _ us hl => match us, hl with | [_, _, _], _ => rfl) (fun cdv A outer s H vs Q E hr h => ⟨_, (pss_cons (ps_if (pt_cmpR (op_eqU (K := K) rfl hr.units) (pe_ixU (K := K) rfl (hu_of hr) (pv 0) pe_int) pe_str (nomark _)) (pss_one (ps_ret pe_bl)) pss_nil)
      (pss_cons (ps_set (i := 3) sc_law_guess.nd rfl (.inl rfl) (pe_callD (K := K) rfl (ok_law_place T) (hr.mono (by decide)) rfl pass0 (pa_cons (pv 0) (pa_cons (pv 1) (pa_cons (pe_callB (c_len (K := K) rfl) rfl (T.free 127 rfl) (by decide +kernel) (pa_cons (pv 1) pa_nil)) (pa_cons (pv 2) pa_nil))))))
      (pss_cons (ps_set (i := 4) sc_law_guess.nd rfl (.inl rfl) pe_int)
      (pss_cons (ps_for PassesOwn.never rfl (pi_r1 rfl (T.free 131 rfl) (pa_cons (pe_callB (c_len (K := K) rfl) rfl (T.free 127 rfl) (by decide +kernel) (pa_cons (pv 1) pa_nil)) pa_nil)) (pg_name (i := 5) sc_law_guess.nd rfl (.inl rfl)) (pss_one (ps_if (pt_cmpR (op_eqU (K := K) rfl hr.units) (pe_callD (K := K) rfl (ok_law_place T) (hr.mono (by decide)) rfl pass0 (pa_cons (pv 0) (pa_cons (pv 1) (pa_cons (pv 5) (pa_cons (pe_ixU (K := K) rfl (hu_of hr) (pe_ixU (K := K) rfl (hu_of hr) (pv 1) (pv 5)) pe_int) pa_nil))))) (pv 3) (nomark _)) (pss_one (ps_if (pt_tru (K := K) rfl (pe_ixU (K := K) rfl (hu_of hr) (pe_ixU (K := K) rfl (hu_of hr) (pv 1) (pv 5)) pe_int)) (pss_one (ps_set (i := 4) sc_law_guess.nd rfl (.inl rfl) (pe_callB (c_min2 rfl) rfl (T.free 130 rfl) (by decide +kernel) (pa_cons pe_int (pa_cons (pe_op (op_addU (K := K) rfl) (pv 4) pe_int) pa_nil))))) (pss_one (ps_set (i := 4) sc_law_guess.nd rfl (.inl rfl) (pe_callB (c_max2 rfl) rfl (T.free 129 rfl) (by decide +kernel) (pa_cons pe_int (pa_cons (pe_op op_sub (pv 4) pe_int) pa_nil))))))) pss_nil)))
      (pss_one (ps_ret (pe_cmpR o_gt (pv 4) pe_int (nomark _)))))))), ?_⟩)
  obtain ⟨s, l, xs, k, n, ts, log, row, rfl, hs, hset, hl, hT, hlog, hQ⟩ := h
  have h0 : xs[0]? = some (.str k) := by cases hset <;> rfl
  walk_at "go"
  refine g_ixT (SqT.of hs) (n := 0) rfl h0 ?_
  walk_at "go"
  refine g_if (fun h => ?_) (fun h => ?_)
  · walk_at "go"
    refine q_bl ?_ hQ
    unfold guessN
    rw [if_pos h]
  walk_at "go"
  rw [hT.1]
  refine ⟨s, l, xs, k, n, ts, log, log.length, row, rfl, hs, hset, h, hl, hT, Nat.le_refl _, ?_⟩
  walk_at "go"
  rw [hT.1]
  refine g_rR1 (by omega) (by omega) ?_
  refine f_range (fun i σ H' => ∃ (o5 : Option V), σ = [some (.ref s), some (.ref l), some (.int row), some (.int (plN k n log log.length row)), some (.int (cntN k n log (plN k n log log.length row) i)), o5] ∧ H' = H) ⟨_, rfl, rfl⟩ ?_ ?_
  · rintro i σ H' hi ⟨o5, rfl, rfl⟩
    walk_at "go"
    obtain ⟨t, ht1, ht2⟩ := hT.at_ (i := i) (by omega)
    have e0 : (0 + (i : Int)) = (i : Int) := by omega
    rw [e0]
    refine g_ixL (SqL.of hl) (n := i) rfl ht1 ?_
    walk_at "go"
    refine ⟨s, l, xs, k, n, ts, log, i, _, rfl, hs, hset, h, hl, hT, by omega, ?_⟩
    walk_at "go"
    refine g_if (fun h1 => ?_) (fun h1 => ?_)
    · walk_at "go"
      refine g_ixL (SqL.of hl) (n := i) rfl ht1 ?_
      walk_at "go"
      refine g_ifB (fun h2 => ?_) (fun h2 => ?_)
      · walk_at "go"
        refine ⟨some (.int (i : Int)), ?_, rfl⟩
        rw [cntN, if_pos h1, h2]
        rw [up_min]
        rfl
      · walk_at "go"
        refine ⟨some (.int (i : Int)), ?_, rfl⟩
        rw [cntN, if_pos h1, h2]
        rw [up_max]
        rfl
    · walk_at "go"
      refine ⟨some (.int (i : Int)), ?_, rfl⟩
      rw [cntN, if_neg h1]
      rfl
  · rintro σ H' ⟨o5, rfl, rfl⟩
    walk_at "go"
    refine q_bl ?_ hQ
    unfold guessN
    rw [if_neg h]
    rfl


/-! ### dicts of written names -/
def sK (l : List (Str × V)) : List (Key × V) := l.map fun p => ((.inr p.1 : Key), p.2)
theorem sK_get : ∀ {l : List (Str × V)} {i : Nat} {k : Str} {v : V}, (l.map (·.1)).Nodup → l[i]? = some (k, v) → valV (sK l) (.inr k) = some v
  | [], _, _, _, _, h => by simp at h
  | (k', v') :: l, 0, k, v, _, h => by
    simp only [List.getElem?_cons_zero, Option.some.injEq, Prod.mk.injEq] at h
    obtain ⟨rfl, rfl⟩ := h
    exact valV_pos rfl
  | (k', v') :: l, i + 1, k, v, nd, h => by
    have h : l[i]? = some (k, v) := by simpa using h
    have nd' := List.nodup_cons.mp nd
    have hm : k ∈ l.map (·.1) := List.mem_map.mpr ⟨(k, v), List.mem_of_getElem? h, rfl⟩
    have ne : ¬ k' = k := fun e => nd'.1 (e ▸ hm)
    show valV ((.inr k', v') :: sK l) (.inr k) = some v
    rw [valV_neg (fun e => ne (Sum.inr.inj e))]
    exact sK_get nd'.2 h
theorem sK_none : ∀ {l : List (Str × V)} {k : Str}, k ∉ l.map (·.1) → valV (sK l) (.inr k) = none
  | [], _, _ => rfl
  | (k', v') :: l, k, h => by
    have h1 : ¬ k' = k := fun e => h (by rw [e]; exact List.mem_cons_self)
    show valV ((.inr k', v') :: sK l) (.inr k) = none
    rw [valV_neg (fun e => h1 (Sum.inr.inj e))]
    exact sK_none fun hm => h (List.mem_cons_of_mem _ hm)
theorem sK_map : ∀ {l : List (Str × V)} {i : Nat} {k : Str} {v w : V}, (l.map (·.1)).Nodup → l[i]? = some (k, v) → ((sK l).map fun z => if z.1 = .inr k then (z.1, w) else z) = sK (l.set i (k, w))
  | [], _, _, _, _, _, h => by simp at h
  | (k', v') :: l, 0, k, v, w, nd, h => by
    simp only [List.getElem?_cons_zero, Option.some.injEq, Prod.mk.injEq] at h
    obtain ⟨rfl, rfl⟩ := h
    have nd' := List.nodup_cons.mp nd
    show (if ((.inr k' : Key)) = .inr k' then ((.inr k' : Key), w) else (.inr k', v')) :: (sK l).map _ = (.inr k', w) :: sK l
    rw [if_pos rfl]
    congr 1
    have : ∀ z ∈ sK l, (if z.1 = .inr k' then (z.1, w) else z) = z := fun z hz => by
      obtain ⟨p, hp, rfl⟩ := List.mem_map.mp hz
      refine if_neg fun e => nd'.1 ?_
      have e2 : p.1 = k' := Sum.inr.inj e
      rw [← e2]
      exact List.mem_map.mpr ⟨p, hp, rfl⟩
    rw [List.map_congr_left this, List.map_id']
  | (k', v') :: l, i + 1, k, v, w, nd, h => by
    have h : l[i]? = some (k, v) := by simpa using h
    have nd' := List.nodup_cons.mp nd
    have hm : k ∈ l.map (·.1) := List.mem_map.mpr ⟨(k, v), List.mem_of_getElem? h, rfl⟩
    have ne : ¬ k' = k := fun e => nd'.1 (e ▸ hm)
    show (if ((.inr k' : Key)) = .inr k then ((.inr k' : Key), w) else (.inr k', v')) :: (sK l).map _ = (.inr k', v') :: sK (l.set i (k, w))
    rw [if_neg (fun e => ne (Sum.inr.inj e)), sK_map nd'.2 h]
theorem sK_put {l : List (Str × V)} {i : Nat} {k : Str} {v w : V} (nd : (l.map (·.1)).Nodup) (h : l[i]? = some (k, v)) : putK (sK l) (.inr k) w = sK (l.set i (k, w)) := by
  unfold putK
  rw [valV_any, sK_get nd h]
  simp only [Option.isSome_some, if_true]
  exact sK_map nd h
theorem sK_new {l : List (Str × V)} {k : Str} {w : V} (h : k ∉ l.map (·.1)) : putK (sK l) (.inr k) w = sK (l ++ [(k, w)]) := by
  rw [putK_new _ (sK_none h)]
  unfold sK
  rw [List.map_append]
  rfl
theorem sK_made : ∀ {l r : List (Str × V)}, ((r ++ l).map (·.1)).Nodup → mergeK (sK r) (sK l) = sK (r ++ l)
  | [], r, _ => by rw [List.append_nil]; rfl
  | (k, w) :: l, r, nd => by
    have e : r ++ (k, w) :: l = (r ++ [(k, w)]) ++ l := by simp
    rw [e] at nd ⊢
    have nd2 := nd
    rw [List.map_append, List.nodup_append] at nd2
    have nd3 := nd2.1
    rw [List.map_append, List.nodup_append] at nd3
    have hk : k ∉ r.map (·.1) := fun hm => nd3.2.2 k hm k (by simp) rfl
    show mergeK (putK (sK r) (.inr k) w) (sK l) = _
    rw [sK_new hk]
    exact sK_made nd
theorem sK_len {l : List (Str × V)} : (sK l).length = l.length := List.length_map _
theorem dg_s {H : Hp} {a : Addr} {l : List (Str × V)} {k : Str} {v : V} (h : H a = some (.dK (sK l))) (nd : (l.map (·.1)).Nodup) (i : Nat) (e : l[i]? = some (k, v)) : DGet H a (.str k) (some v) := by
  rw [← sK_get nd e]
  exact DGet.k (k := .inr k) h
theorem dp_s {H : Hp} {a : Addr} {l : List (Str × V)} {k : Str} {v w : V} (h : H a = some (.dK (sK l))) (nd : (l.map (·.1)).Nodup) (hl : l.length ≤ 1000) (i : Nat) (e : l[i]? = some (k, v)) : DPut H a (.str k) w (upd H a (.dK (sK (l.set i (k, w))))) := by
  rw [← sK_put nd e]
  exact DPut.k (k := .inr k) h (by rw [sK_len]; exact szl (by omega))
theorem dp_sn {H : Hp} {a : Addr} {l : List (Str × V)} {k : Str} {w : V} (h : H a = some (.dK (sK l))) (hk : k ∉ l.map (·.1)) (hl : l.length ≤ 1000) : DPut H a (.str k) w (upd H a (.dK (sK (l ++ [(k, w)])))) := by
  rw [← sK_new hk]
  exact DPut.k (k := .inr k) h (by rw [sK_len]; exact szl (by omega))
/-! ### the law's machine on the heap -/
structure LAd where
  m : Addr
  da : MAd
  fa : MAd
  lg : Addr
  av : Addr
  at_ : Addr
  ao : Addr
/-- the values of lists, what they are -/
structure LG where
  dv : List (List V)
  dl : List Log
  fv : List (List V)
  fl : List Log
  ts : List Addr
  pl : LogP
  vv : List V
  tv : List V
abbrev mL (a : LAd) (ck fe : Int) : List (Str × V) := [("data", .ref a.da.m), ("fetch", .ref a.fa.m), ("log", .ref a.lg), ("clock", .int ck), ("fetches", .int fe), ("visits", .ref a.av), ("trace", .ref a.at_), ("outs", .ref a.ao)]
theorem nd_m : (["data", "fetch", "log", "clock", "fetches", "visits", "trace", "outs"] : List Str).Nodup := by decide +kernel
abbrev L5 (a : LAd) (g : LG) (mc : MC) (ou : List Int) : List (Addr × HO) := [(a.m, .dK (sK (mL a mc.ck mc.fe))), (a.lg, .lst (g.ts.map V.ref)), (a.av, .lst g.vv), (a.at_, .lst g.tv), (a.ao, .lst (ou.map V.int))]
abbrev LaH (a : LAd) (g : LG) (mc : MC) (ou : List Int) (Y : List (Addr × HO)) : List (Addr × HO) := L5 a g mc ou ++ (MaL a.da mc.dc.pl g.dv ++ (MaL a.fa mc.fc.pl g.fv ++ Y))
/-- settings, rows; sizes of the tables -/
structure LC where
  t : Sett
  rows : List Row
  ad : CAd
  ac : CAd
  hd : Nat
  hf : Nat
abbrev LC.k (C : LC) : MK := kOf C.t C.rows
def Gs.n : Gs → Int
  | .taken => 0
  | .two n => n
  | .hist n => n
def Gs.v : Gs → List V
  | .taken => [.str "taken"]
  | .two n => [.str "two", .int n]
  | .hist n => [.str "history", .int n]
def Cs.g (c : Cs) : Stg := ⟨c.S, c.W, c.Z, c.P⟩
structure LH (C : LC) (e P vj : Nat) (H : Hp) (a : LAd) (g : LG) (mc : MC) (ou : List Int) (Y : List (Addr × HO)) : Prop where
  M : Has H (LaH a g mc ou Y)
  dw : CWf C.ad mc.dc
  fw : CWf C.ac mc.fc
  ds : stg mc.dc = C.t.dc.g
  fs : stg mc.fc = C.t.fc.g
  dr : Rel C.hd mc.dc g.dl
  fr : Rel C.hf mc.fc g.fl
  di : LgI H g.dv g.dl
  fi : LgI H g.fv g.fl
  d1 : a.da.as.length = mc.dc.S ∧ a.da.gs.length = mc.dc.S ∧ g.dv.length = mc.dc.S
  f1 : a.fa.as.length = mc.fc.S ∧ a.fa.gs.length = mc.fc.S ∧ g.fv.length = mc.fc.S
  db : ∀ j, (g.dl.getD j []).length ≤ 20 + e + mc.tr.length
  fb : ∀ j, (g.fl.getD j []).length ≤ 20 + e + mc.tr.length
  pk : mc.pr.k = C.t.g.pr.k
  pr : Lgd mc.pr.k C.t.g.n g.pl mc.pr.b mc.pr.h mc.pr.cs
  pt : LogT H g.ts g.pl
  pn : g.pl.length ≤ P
  vi : Ims H g.vv ((C.t.vis.drop vj).map Vi.d)
  tr : Ims H g.tv (mc.tr.map Ev.d)
section
variable {C : LC} {e P vj N : Nat} {H H' : Hp} {a : LAd} {g : LG} {mc : MC} {ou : List Int} {Y : List (Addr × HO)} {K : PySem.W.Frag} {Q : VK} {E : XK} {R : Hp → Prop} {x : Int} {s p : Addr} {o o' : HO} {i : Nat} {v : V}
theorem LogT.kt {ts : List Addr} {log : LogP} (h : LogT H ts log) (k : KT H H') : LogT H' ts log := ⟨h.1, fun i t e => k _ _ (h.2 i t e)⟩
theorem LgI.kt {lv : List (List V)} {lg : List Log} (L : LgI H lv lg) (k : KT H H') : LgI H' lv lg := L.mono k
theorem LH.dM (h : LH C e P vj H a g mc ou Y) : MWf mc.dc.S mc.dc.W a.da mc.dc.pl g.dv g.dl := ⟨h.dw.s0, h.dw.s1, h.dw.w0, h.dw.w1, h.d1.1, h.d1.2.1, h.dw.lp, h.d1.2.2, h.dr.ll, h.dw.rp⟩
theorem LH.fM (h : LH C e P vj H a g mc ou Y) : MWf mc.fc.S mc.fc.W a.fa mc.fc.pl g.fv g.fl := ⟨h.fw.s0, h.fw.s1, h.fw.w0, h.fw.w1, h.f1.1, h.f1.2.1, h.fw.lp, h.f1.2.2, h.fr.ll, h.fw.rp⟩
theorem LH.gm (h : LH C e P vj H a g mc ou Y) : H a.m = some (.dK (sK (mL a mc.ck mc.fe))) := h.M.get 0 rfl
/-- the heap has changed, tuples stay, the tracked objects are told anew -/
theorem LH.re (h : LH C e P vj H a g mc ou Y) (k : KT H H') {Y' : List (Addr × HO)} (M : Has H' (LaH a g mc ou Y')) : LH C e P vj H' a g mc ou Y' :=
  ⟨M, h.dw, h.fw, h.ds, h.fs, h.dr, h.fr, h.di.kt k, h.fi.kt k, h.d1, h.f1, h.db, h.fb, h.pk, h.pr, h.pt.kt k, h.pn, h.vi.kt k, h.tr.kt k⟩
theorem LH.same (h : LH C e P vj H a g mc ou Y) (k : Same H H') : LH C e P vj H' a g mc ou Y := h.re (KT.of k) (h.M.keep k)
theorem LH.mono {e' P' : Nat} (h : LH C e P vj H a g mc ou Y) (he : e ≤ e') (hp : P ≤ P') : LH C e' P' vj H a g mc ou Y :=
  ⟨h.M, h.dw, h.fw, h.ds, h.fs, h.dr, h.fr, h.di, h.fi, h.d1, h.f1, fun j => by have := h.db j; omega, fun j => by have := h.fb j; omega, h.pk, h.pr, h.pt, Nat.le_trans h.pn hp, h.vi, h.tr⟩
theorem ma_noTup {d : MAd} {pl : List (List (Option Int))} {lv : List (List V)} {lg : List Log} {S W : Nat} (M : Has H (MaL d pl lv)) (wf : MWf S W d pl lv lg) : NoTup H (MaA d) := fun m hm xs e => by
  rw [← ma_fst wf] at hm
  obtain ⟨p, hp, rfl⟩ := List.mem_map.mp hm
  rw [M.is_ p hp] at e
  have e := Option.some.inj e
  simp only [MaL, List.mem_append, List.mem_cons, List.not_mem_nil, or_false] at hp
  rcases hp with (rfl | rfl | rfl) | h | h
  · cases e
  · cases e
  · cases e
  · exact tab_noTup h xs e
  · exact tab_noTup h xs e
theorem len_set {l : List (List V)} {n : Nat} {x : List V} : (l.set n x).length = l.length := List.length_set ..
theorem lg_bd {lg : List Log} {g : Stg} {pl : List (List (Option Int))} {b : Nat} (h : ∀ j, (lg.getD j []).length ≤ b) (j : Nat) : ((lg1 g pl lg x).getD j []).length ≤ b + 1 := by
  unfold lg1
  by_cases c : nmM g x < lg.length
  · rw [getD_setL c]
    split
    · rw [List.length_append, List.length_singleton]
      have := h (nmM g x)
      omega
    · have := h j
      omega
  · rw [List.set_eq_of_length_le (by omega)]
    have := h j
    omega
theorem LH.md (h : LH C e P vj H a g mc ou Y) : Has H (MaL a.da mc.dc.pl g.dv) := h.M.mid
theorem LH.M2 (h : LH C e P vj H a g mc ou Y) : Has H ((L5 a g mc ou ++ MaL a.da mc.dc.pl g.dv) ++ (MaL a.fa mc.fc.pl g.fv ++ Y)) := by
  rw [List.append_assoc]
  exact h.M
/-- a touching of the data -/
theorem u_touD (h : LH C e P vj H a g mc ou Y) (hs : H s = some (.tup [.int C.t.dc.S, .int C.t.dc.W, .int C.t.dc.Z, .str C.t.dc.P])) (hb : 20 + e + mc.tr.length < 90000)
    (q : ∀ H' g', KT H H' → LH C (e + 1) P vj H' a g' { mc with dc := tcV mc.dc x } ou Y → Q (.bl (decide (hitV mc.dc x))) H') : sp_law_touch K ([.ref a.da.m, .ref s, .int x] ++ []) H Q E := by
  have eg := h.ds
  have hs' : H s = some (.tup [.int (stg mc.dc).S, .int (stg mc.dc).W, .int (stg mc.dc).Z, .str (stg mc.dc).P]) := by
    rw [eg]
    exact hs
  refine ⟨a.da, stg mc.dc, mc.dc.pl, g.dv, g.dl, s, x, rfl, hs', h.dw.z0, h.dw.z1, h.md, h.di, h.dM, Nat.lt_of_le_of_lt (h.db _) hb, ?_, fun H' lv' kp M' L' hl => ?_⟩
  · rw [← h.dr.plc h.dw]
    exact h.dw.pl_
  · have kt := KT.keep kp (ma_noTup h.md h.dM)
    have et : (tcV mc.dc x).pl = pl1 (stg mc.dc) mc.dc.pl g.dl x := h.dr.tcpl h.dw
    have fst : (MaL a.da (pl1 (stg mc.dc) mc.dc.pl g.dl x) lv').map (·.1) = (MaL a.da mc.dc.pl g.dv).map (·.1) := by
      have w' : MWf mc.dc.S mc.dc.W a.da (tcV mc.dc x).pl lv' (lg1 (stg mc.dc) mc.dc.pl g.dl x) := ⟨h.dw.s0, h.dw.s1, h.dw.w0, h.dw.w1, h.d1.1, h.d1.2.1, h.dw.tc.lp, hl, (h.dr.tc h.dw).ll, h.dw.tc.rp⟩
      rw [et] at w'
      rw [ma_fst h.dM, ma_fst w']
    have MM := h.M.frame (by rw [ma_fst h.dM]; exact kp) M' fst
    refine q H' { g with dv := lv', dl := lg1 (stg mc.dc) mc.dc.pl g.dl x } kt ⟨?_, h.dw.tc, h.fw, h.ds, h.fs, h.dr.tc h.dw, h.fr, L', h.fi.kt kt, ⟨h.d1.1, h.d1.2.1, hl⟩, h.f1, fun j => ?_, fun j => ?_, h.pk, h.pr, h.pt.kt kt, h.pn, h.vi.kt kt, h.tr.kt kt⟩
    · show Has H' (L5 a _ _ ou ++ (MaL a.da (tcV mc.dc x).pl lv' ++ _))
      rw [et]
      exact MM
    · have := lg_bd (x := x) (g := stg mc.dc) (pl := mc.dc.pl) h.db j
      show ((lg1 (stg mc.dc) mc.dc.pl g.dl x).getD j []).length ≤ 20 + (e + 1) + mc.tr.length
      omega
    · have := h.fb j
      show (g.fl.getD j []).length ≤ 20 + (e + 1) + mc.tr.length
      omega
/-- a touching of the code -/
theorem u_touF (h : LH C e P vj H a g mc ou Y) (hs : H s = some (.tup [.int C.t.fc.S, .int C.t.fc.W, .int C.t.fc.Z, .str C.t.fc.P])) (hb : 20 + e + mc.tr.length < 90000)
    (q : ∀ H' g', KT H H' → LH C (e + 1) P vj H' a g' { mc with fc := tcV mc.fc x } ou Y → Q (.bl (decide (hitV mc.fc x))) H') : sp_law_touch K ([.ref a.fa.m, .ref s, .int x] ++ []) H Q E := by
  have eg := h.fs
  have hs' : H s = some (.tup [.int (stg mc.fc).S, .int (stg mc.fc).W, .int (stg mc.fc).Z, .str (stg mc.fc).P]) := by
    rw [eg]
    exact hs
  have hm := h.M2.mid
  refine ⟨a.fa, stg mc.fc, mc.fc.pl, g.fv, g.fl, s, x, rfl, hs', h.fw.z0, h.fw.z1, hm, h.fi, h.fM, Nat.lt_of_le_of_lt (h.fb _) hb, ?_, fun H' lv' kp M' L' hl => ?_⟩
  · rw [← h.fr.plc h.fw]
    exact h.fw.pl_
  · have kt := KT.keep kp (ma_noTup hm h.fM)
    have et : (tcV mc.fc x).pl = pl1 (stg mc.fc) mc.fc.pl g.fl x := h.fr.tcpl h.fw
    have fst : (MaL a.fa (pl1 (stg mc.fc) mc.fc.pl g.fl x) lv').map (·.1) = (MaL a.fa mc.fc.pl g.fv).map (·.1) := by
      have w' : MWf mc.fc.S mc.fc.W a.fa (tcV mc.fc x).pl lv' (lg1 (stg mc.fc) mc.fc.pl g.fl x) := ⟨h.fw.s0, h.fw.s1, h.fw.w0, h.fw.w1, h.f1.1, h.f1.2.1, h.fw.tc.lp, hl, (h.fr.tc h.fw).ll, h.fw.tc.rp⟩
      rw [et] at w'
      rw [ma_fst h.fM, ma_fst w']
    have MM := h.M2.frame (by rw [ma_fst h.fM]; exact kp) M' fst
    rw [List.append_assoc] at MM
    refine q H' { g with fv := lv', fl := lg1 (stg mc.fc) mc.fc.pl g.fl x } kt ⟨?_, h.dw, h.fw.tc, h.ds, h.fs, h.dr, h.fr.tc h.fw, h.di.kt kt, L', h.d1, ⟨h.f1.1, h.f1.2.1, hl⟩, fun j => ?_, fun j => ?_, h.pk, h.pr, h.pt.kt kt, h.pn, h.vi.kt kt, h.tr.kt kt⟩
    · show Has H' (L5 a _ _ ou ++ (MaL a.da mc.dc.pl g.dv ++ (MaL a.fa (tcV mc.fc x).pl lv' ++ Y)))
      rw [et]
      exact MM
    · have := h.db j
      show (g.dl.getD j []).length ≤ 20 + (e + 1) + mc.tr.length
      omega
    · have := lg_bd (x := x) (g := stg mc.fc) (pl := mc.fc.pl) h.fb j
      show ((lg1 (stg mc.fc) mc.fc.pl g.fl x).getD j []).length ≤ 20 + (e + 1) + mc.tr.length
      omega
theorem dp_pl2 (c : CSt) : (dpV c x).pl = pl2 (stg c) c.pl x := rfl
/-- a line is dropped -/
theorem u_drop (h : LH C e P vj H a g mc ou Y) (hs : H s = some (.tup [.int C.t.dc.S, .int C.t.dc.W, .int C.t.dc.Z, .str C.t.dc.P]))
    (q : ∀ H' g', KT H H' → LH C e P vj H' a g' { mc with dc := dpV mc.dc x } ou Y → Q (.bl (decide (hitV mc.dc x))) H') : sp_law_drop K ([.ref a.da.m, .ref s, .int x] ++ []) H Q E := by
  have eg := h.ds
  have hs' : H s = some (.tup [.int (stg mc.dc).S, .int (stg mc.dc).W, .int (stg mc.dc).Z, .str (stg mc.dc).P]) := by
    rw [eg]
    exact hs
  refine ⟨a.da, stg mc.dc, mc.dc.pl, g.dv, g.dl, s, x, rfl, hs', h.dw.z0, h.dw.z1, h.md, h.dM, fun H' kp M' kt' => ?_⟩
  have kt : KT H H' := kt'
  have fst : (MaL a.da (pl2 (stg mc.dc) mc.dc.pl x) g.dv).map (·.1) = (MaL a.da mc.dc.pl g.dv).map (·.1) := by
    have w' : MWf mc.dc.S mc.dc.W a.da (dpV mc.dc x).pl g.dv g.dl := ⟨h.dw.s0, h.dw.s1, h.dw.w0, h.dw.w1, h.d1.1, h.d1.2.1, h.dw.dp.lp, h.d1.2.2, h.dr.ll, h.dw.dp.rp⟩
    rw [dp_pl2] at w'
    rw [ma_fst h.dM, ma_fst w']
  have MM := h.M.frame (by rw [ma_fst h.dM]; exact kp) M' fst
  exact q H' g kt ⟨MM, h.dw.dp, h.fw, h.ds, h.fs, h.dr.dp, h.fr, h.di.kt kt, h.fi.kt kt, h.d1, h.f1, h.db, h.fb, h.pk, h.pr, h.pt.kt kt, h.pn, h.vi.kt kt, h.tr.kt kt⟩
theorem LH.set5 (h : LH C e P vj H a g mc ou Y) (j : Nat) (hj : (L5 a g mc ou)[j]? = some (p, o)) : Has (upd H p o') ((L5 a g mc ou).set j (p, o') ++ (MaL a.da mc.dc.pl g.dv ++ (MaL a.fa mc.fc.pl g.fv ++ Y))) := by
  have hlt := (List.getElem?_eq_some_iff.mp hj).1
  have z := h.M.set (o' := o') j (by rw [List.getElem?_append_left hlt]; exact hj)
  rw [List.set_append_left _ _ hlt] at z
  exact z
theorem s_clock (h : LH C e P vj H a g mc ou Y) (q : ∀ H', KT H H' → LH C e P vj H' a g { mc with ck := x } ou Y → R H') : ∃ b H4, V.ref a.m = V.ref b ∧ DPut H b (.str "clock") (.int x) H4 ∧ R H4 := by
  have kt : KT H (upd H a.m (.dK (sK (mL a x mc.fe)))) := KT.set h.gm (fun _ z => nomatch z)
  refine ⟨a.m, _, rfl, dp_s h.gm nd_m (by show 8 ≤ 1000; decide) 3 rfl, q _ kt ?_⟩
  exact ⟨h.set5 (o' := .dK (sK (mL a x mc.fe))) 0 rfl, h.dw, h.fw, h.ds, h.fs, h.dr, h.fr, h.di.kt kt, h.fi.kt kt, h.d1, h.f1, h.db, h.fb, h.pk, h.pr, h.pt.kt kt, h.pn, h.vi.kt kt, h.tr.kt kt⟩
theorem s_fetches (h : LH C e P vj H a g mc ou Y) (q : ∀ H', KT H H' → LH C e P vj H' a g { mc with fe := x } ou Y → R H') : ∃ b H4, V.ref a.m = V.ref b ∧ DPut H b (.str "fetches") (.int x) H4 ∧ R H4 := by
  have kt : KT H (upd H a.m (.dK (sK (mL a mc.ck x)))) := KT.set h.gm (fun _ z => nomatch z)
  refine ⟨a.m, _, rfl, dp_s h.gm nd_m (by show 8 ≤ 1000; decide) 4 rfl, q _ kt ?_⟩
  exact ⟨h.set5 (o' := .dK (sK (mL a mc.ck x))) 0 rfl, h.dw, h.fw, h.ds, h.fs, h.dr, h.fr, h.di.kt kt, h.fi.kt kt, h.d1, h.f1, h.db, h.fb, h.pk, h.pr, h.pt.kt kt, h.pn, h.vi.kt kt, h.tr.kt kt⟩
/-- an event more -/
theorem a_event {ev : Ev} (h : LH C (e + 1) P vj H a g mc ou Y) (hl : mc.tr.length < 90000) (im : Im H v ev.d) (q : ∀ H' g', KT H H' → LH C e P vj H' a g' { mc with tr := mc.tr ++ [ev] } ou Y → Q .non H') : rAppend (.ref a.at_) [v] H Q := by
  have gt : H a.at_ = some (.lst g.tv) := h.M.get 3 rfl
  have lt := h.tr.length
  rw [List.length_map] at lt
  have kt : KT H (upd H a.at_ (.lst (g.tv ++ [v]))) := KT.set gt (fun _ z => nomatch z)
  refine ⟨a.at_, g.tv, v, rfl, rfl, gt, szl (by omega), q _ { g with tv := g.tv ++ [v] } kt ?_⟩
  refine ⟨h.set5 (o' := .lst (g.tv ++ [v])) 3 rfl, h.dw, h.fw, h.ds, h.fs, h.dr, h.fr, h.di.kt kt, h.fi.kt kt, h.d1, h.f1, fun j => ?_, fun j => ?_, h.pk, h.pr, h.pt.kt kt, h.pn, h.vi.kt kt, ?_⟩
  · have := h.db j
    show (g.dl.getD j []).length ≤ 20 + e + (mc.tr ++ [ev]).length
    rw [List.length_append, List.length_singleton]
    omega
  · have := h.fb j
    show (g.fl.getD j []).length ≤ 20 + e + (mc.tr ++ [ev]).length
    rw [List.length_append, List.length_singleton]
    omega
  · show Ims _ (g.tv ++ [v]) ((mc.tr ++ [ev]).map Ev.d)
    rw [List.map_append]
    exact (h.tr.kt kt).append (Ims.one (im.kt kt))
theorem a_outs (h : LH C e P vj H a g mc ou Y) (hl : ou.length < 90000) (q : ∀ H', KT H H' → LH C e P vj H' a g mc (ou ++ [x]) Y → Q .non H') : rAppend (.ref a.ao) [.int x] H Q := by
  have gt : H a.ao = some (.lst (ou.map V.int)) := h.M.get 4 rfl
  have em : ou.map V.int ++ [V.int x] = (ou ++ [x]).map V.int := by
    rw [List.map_append]
    rfl
  have kt : KT H (upd H a.ao (.lst (ou.map V.int ++ [.int x]))) := KT.set gt (fun _ z => nomatch z)
  have z := h.set5 (o' := .lst (ou.map V.int ++ [.int x])) 4 rfl
  refine ⟨a.ao, _, .int x, rfl, rfl, gt, szl (by rw [List.length_map]; omega), q _ kt ?_⟩
  rw [em] at z kt ⊢
  exact ⟨z, h.dw, h.fw, h.ds, h.fs, h.dr, h.fr, h.di.kt kt, h.fi.kt kt, h.d1, h.f1, h.db, h.fb, h.pk, h.pr, h.pt.kt kt, h.pn, h.vi.kt kt, h.tr.kt kt⟩
theorem LogT.snoc {ts : List Addr} {log : LogP} {r : Int} {b : Bool} {t : Addr} (h : LogT H ts log) (ht : H t = some (.tup [.int r, .bl b])) : LogT H (ts ++ [t]) (log ++ [(r, b)]) := by
  refine ⟨by rw [List.length_append, List.length_append, h.1]; rfl, fun i u hu => ?_⟩
  by_cases c : i < ts.length
  · rw [List.getElem?_append_left c] at hu
    rw [lgP_app (by rw [← h.1]; exact c)]
    exact h.2 i u hu
  · have hlt := (List.getElem?_eq_some_iff.mp hu).1
    rw [List.length_append, List.length_singleton] at hlt
    have ei : i = ts.length := by omega
    subst ei
    rw [List.getElem?_append_right (Nat.le_refl _), Nat.sub_self] at hu
    cases hu
    rw [h.1, lgP_new]
    exact ht
/-- the predictor's log grows -/
theorem a_learn {r : Nat} {b : Bool} {t : Addr} (h : LH C e P vj H a g mc ou Y) (hl : P < 90000) (ht : H t = some (.tup [.int (r : Int), .bl b])) (q : ∀ H' g', KT H H' → LH C e (P + 1) vj H' a g' (lrnM mc r b) ou Y → Q .non H') : rAppend (.ref a.lg) [.ref t] H Q := by
  have gt : H a.lg = some (.lst (g.ts.map V.ref)) := h.M.get 1 rfl
  have lt := h.pt.1
  have pn := h.pn
  have em : g.ts.map V.ref ++ [V.ref t] = (g.ts ++ [t]).map V.ref := by
    rw [List.map_append]
    rfl
  have kt : KT H (upd H a.lg (.lst (g.ts.map V.ref ++ [.ref t]))) := KT.set gt (fun _ z => nomatch z)
  have z := h.set5 (o' := .lst (g.ts.map V.ref ++ [.ref t])) 1 rfl
  refine ⟨a.lg, _, .ref t, rfl, rfl, gt, szl (by rw [List.length_map]; omega), q _ { g with ts := g.ts ++ [t], pl := g.pl ++ [((r : Int), b)] } kt ?_⟩
  rw [em] at z kt ⊢
  exact ⟨z, h.dw, h.fw, h.ds, h.fs, h.dr, h.fr, h.di.kt kt, h.fi.kt kt, h.d1, h.f1, h.db, h.fb, h.pk, h.pr.learn r b, (h.pt.snoc ht).kt kt, by show (g.pl ++ [_]).length ≤ P + 1; rw [List.length_append, List.length_singleton]; omega, h.vi.kt kt, h.tr.kt kt⟩
theorem LH.yget (h : LH C e P vj H a g mc ou Y) (i : Nat) (hi : Y[i]? = some (p, o)) : H p = some o := h.M.is_ (p, o) (List.mem_append_right _ (List.mem_append_right _ (List.mem_append_right _ (List.mem_of_getElem? hi))))
theorem LH.yset (h : LH C e P vj H a g mc ou Y) (i : Nat) (hi : Y[i]? = some (p, o)) (no : ∀ xs, o ≠ .tup xs) : KT H (upd H p o') ∧ LH C e P vj (upd H p o') a g mc ou (Y.set i (p, o')) := by
  have kt : KT H (upd H p o') := KT.set (h.yget i hi) no
  refine ⟨kt, h.re kt ?_⟩
  have e1 : ∀ (X Z W : List (Addr × HO)), X ++ (Z ++ (W ++ Y)) = (X ++ (Z ++ W)) ++ Y := fun X Z W => by simp
  have e2 : ∀ (X Z W : List (Addr × HO)), X ++ (Z ++ (W ++ Y.set i (p, o'))) = (X ++ (Z ++ W)) ++ Y.set i (p, o') := fun X Z W => by simp
  have M := h.M
  unfold LaH at M ⊢
  rw [e1] at M
  rw [e2]
  generalize L5 a g mc ou ++ (MaL a.da mc.dc.pl g.dv ++ MaL a.fa mc.fc.pl g.fv) = X at M ⊢
  have z := M.set (o' := o') (X.length + i) (by rw [List.getElem?_append_right (by omega), Nat.add_sub_cancel_left]; exact hi)
  rw [List.set_append_right _ _ (by omega), Nat.add_sub_cancel_left] at z
  exact z
theorem LH.ynew (h : LH C e P vj H a g mc ou Y) (hp : H p = none) : LH C e P vj (upd H p o) a g mc ou (Y ++ [(p, o)]) := by
  refine h.re (KT.new hp) ?_
  have z := h.M.new (o := o) hp
  have e1 : ∀ (A B D : List (Addr × HO)), (A ++ (B ++ (D ++ Y))) ++ [(p, o)] = A ++ (B ++ (D ++ (Y ++ [(p, o)]))) := fun A B D => by simp
  unfold LaH at z ⊢
  rw [e1] at z
  exact z
theorem LH.ysub {Y' : List (Addr × HO)} (h : LH C e P vj H a g mc ou Y) (hs : Y'.Sublist Y) : LH C e P vj H a g mc ou Y' :=
  h.re KT.refl (h.M.sub ((List.Sublist.refl _).append ((List.Sublist.refl _).append ((List.Sublist.refl _).append hs))))
end


/-! ### visits, fetches -/
theorem cs_tp {H : Hp} {v : V} {c : Cs} (h : Im H v c.d) : ∃ s, v = .ref s ∧ H s = some (.tup [.int c.S, .int c.W, .int c.Z, .str c.P]) := by
  obtain ⟨a, x1, x2, x3, x4, rfl, h1, i1, i2, i3, i4⟩ := im4 h
  obtain rfl := i1.int_inv
  obtain rfl := i2.int_inv
  obtain rfl := i3.int_inv
  obtain rfl := i4.str_inv
  exact ⟨a, rfl, h1⟩
theorem gs_tp {H : Hp} {v : V} {g : Gs} (h : Im H v g.d) : ∃ s, v = .ref s ∧ H s = some (.tup g.v) := by
  cases g with
  | taken =>
    obtain ⟨a, xs, rfl, h1, h2⟩ := h.tup_inv
    obtain ⟨x1, ws, rfl, i1, h3⟩ := Ims.cons_inv h2
    obtain rfl := i1.str_inv
    obtain rfl := h3.nil_inv
    exact ⟨a, rfl, h1⟩
  | two n =>
    obtain ⟨a, x1, x2, rfl, h1, i1, i2⟩ := im2 h
    obtain rfl := i1.str_inv
    obtain rfl := i2.int_inv
    exact ⟨a, rfl, h1⟩
  | hist n =>
    obtain ⟨a, x1, x2, rfl, h1, i1, i2⟩ := im2 h
    obtain rfl := i1.str_inv
    obtain rfl := i2.int_inv
    exact ⟨a, rfl, h1⟩
theorem vi_tup {H : Hp} {v : V} {w : Vi} (h : Im H v w.d) : ∃ s, v = .ref s ∧ H s = some (.tup [.int w.n, .str (tdS w.t), .int w.a]) := by
  obtain ⟨a, x1, x2, x3, rfl, h1, i1, i2, i3⟩ := im3 h
  obtain rfl := i1.int_inv
  obtain rfl := i2.str_inv
  obtain rfl := i3.int_inv
  exact ⟨a, rfl, h1⟩
section
variable {C : LC} {e P vj N : Nat} {H H' : Hp} {a : LAd} {g : LG} {mc : MC} {ou : List Int} {Y : List (Addr × HO)} {K : PySem.W.Frag} {Q : VK} {E : XK} {x : V} {xs : List V} {v : Vi} {r : List Vi}
theorem LH.vi' {w : Nat} (h : LH C e P vj H a g mc ou Y) : LH C e P vj H a g { mc with vi := w } ou Y := ⟨h.M, h.dw, h.fw, h.ds, h.fs, h.dr, h.fr, h.di, h.fi, h.d1, h.f1, h.db, h.fb, h.pk, h.pr, h.pt, h.pn, h.vi, h.tr⟩
theorem u_pop (h : LH C e P vj H a g mc ou Y) (hd : C.t.vis.drop vj = v :: r) (hv : C.t.vis.length ≤ 1000) (q : ∀ H' g' s, KT H H' → H s = some (.tup [.int v.n, .str (tdS v.t), .int v.a]) → LH C e P (vj + 1) H' a g' mc ou Y → Q (.ref s) H') : rPopAt (.ref a.av) [.int 0] H Q := by
  have gv : H a.av = some (.lst g.vv) := h.M.get 2 rfl
  have hi := h.vi
  rw [hd] at hi
  obtain ⟨x, xs, e, ix, ixs⟩ := Ims.cons_inv hi
  obtain ⟨s, rfl, hs⟩ := vi_tup ix
  have kt : KT H (upd H a.av (.lst xs)) := KT.set gv (fun _ z => nomatch z)
  have hr : C.t.vis.drop (vj + 1) = r := by
    rw [← List.drop_drop, hd]
    rfl
  refine ⟨a.av, g.vv, 0, 0, .ref s, rfl, rfl, gv, by decide, by decide, ?_, ?_, ?_⟩
  · rw [e]
    unfold seqIndex?
    simp
  · rw [e]
    rfl
  · rw [e]
    refine q _ { g with vv := xs } s kt hs ?_
    exact ⟨h.set5 (o' := .lst xs) 2 rfl, h.dw, h.fw, h.ds, h.fs, h.dr, h.fr, h.di.kt kt, h.fi.kt kt, h.d1, h.f1, h.db, h.fb, h.pk, h.pr, h.pt.kt kt, h.pn, by rw [hr]; exact ixs.kt kt, h.tr.kt kt⟩
theorem LH.zd (h : LH C e P vj H a g mc ou Y) : (mc.dc.Z : Int) = C.t.dc.Z ∧ 0 < C.t.dc.Z ∧ C.t.dc.Z ≤ 1000000 := by
  have e : mc.dc.Z = C.t.dc.Z := congrArg Stg.Z h.ds
  have h1 := h.dw.z0
  have h2 := h.dw.z1
  rw [e] at h1 h2
  exact ⟨by rw [e], h1, h2⟩
theorem LH.zf (h : LH C e P vj H a g mc ou Y) : (mc.fc.Z : Int) = C.t.fc.Z ∧ 0 < C.t.fc.Z ∧ C.t.fc.Z ≤ 1000000 := by
  have e : mc.fc.Z = C.t.fc.Z := congrArg Stg.Z h.fs
  have h1 := h.fw.z0
  have h2 := h.fw.z1
  rw [e] at h1 h2
  exact ⟨by rw [e], h1, h2⟩
end
def sp_law_visited (K : PySem.W.Frag) : Sp := fun vs H Q _ => ∃ (C : LC) (P N : Nat) (a : LAd) (g : LG) (mc : MC) (ou : List Int) (Y : List (Addr × HO)) (sv : V), vs = [.ref a.m, sv] ∧ LH C 0 P mc.vi H a g mc ou Y ∧ COk C.k C.ad C.ac N mc ∧ Im H sv C.t.d ∧ C.t.vis.length ≤ 1000 ∧ N ≤ 80000 ∧
  ∀ H' g', KT H H' → LH C 0 P (goVis (C.t.vis.drop mc.vi) mc).vi H' a g' (goVis (C.t.vis.drop mc.vi) mc) ou Y → Q .non H'
theorem sc_law_visited : FnScope ["m", "settings", "n", "kind", "address", "found"] ["m", "settings"] (defScope (topS 51)) := ⟨rfl, rfl, rfl, by decide +kernel, rfl, by decide +kernel, by decide +kernel⟩
theorem ok_law_visited (T : Txt fa fn K mg (CsOk cs K w)) : Dn P w K mg base CX0 5 "_law_visited" ["m", "settings"] (sp_law_visited K) := by
  refine mk_dn (d := dOf "_law_visited" 51) T 39 39 rfl rfl rfl rfl rfl sc_law_visited (by walk_at "len") (fun _ _ _ _ _ _ us hl => match us, hl with | [_, _], _ => rfl) (fun cdv A outer s H vs Q E hr h => ⟨_, (pss_one (ps_while PassesOwn.never (PW.pt (pw_and (pt_cmpR o_gt (pe_callB (c_len (K := K) rfl) rfl (T.free 127 rfl) (by decide +kernel) (pa_cons (pe_ixU (K := K) rfl (hu_of hr) (pv 0) pe_str) pa_nil)) pe_int (nomark _)) (pw_and1 (pt_cmpR o_le (pe_ixU (K := K) rfl (hu_of hr) (pe_ixU (K := K) rfl (hu_of hr) (pe_ixU (K := K) rfl (hu_of hr) (pv 0) pe_str) pe_int) pe_int) (pe_ixU (K := K) rfl (hu_of hr) (pv 0) pe_str) (nomark _))))) (pss_cons (ps_asg (pe_bm PySem.F.plainAttrs_list PySem.F.slot_list_pop PySem.F.type_list_pop mt_popAt (pe_ixU (K := K) rfl (hu_of hr) (pv 0) pe_str) (pa_cons pe_int pa_nil)) (pg_tup rfl (pgs_cons (pg_name (i := 2) sc_law_visited.nd rfl (.inl rfl)) (pgs_cons (pg_name (i := 3) sc_law_visited.nd rfl (.inl rfl)) (pgs_cons (pg_name (i := 4) sc_law_visited.nd rfl (.inl rfl)) pgs_nil)))))
      (pss_cons (ps_join (ps_if (pt_cmpR (op_eqU (K := K) rfl hr.units) (pv 3) pe_str (nomark _)) (pss_one (ps_set (i := 5) sc_law_visited.nd rfl (.inl rfl) (pe_callD (K := K) rfl (ok_law_touch T) (hr.mono (by decide)) rfl pass0 (pa_cons (pe_ixU (K := K) rfl (hu_of hr) (pv 0) pe_str) (pa_cons (pe_ixU (K := K) rfl (hu_of hr) (pv 1) pe_int) (pa_cons (pv 4) pa_nil)))))) (pss_one (ps_set (i := 5) sc_law_visited.nd rfl (.inl rfl) (pe_callD (K := K) rfl (ok_law_drop T) (hr.mono (by decide)) rfl pass0 (pa_cons (pe_ixU (K := K) rfl (hu_of hr) (pv 0) pe_str) (pa_cons (pe_ixU (K := K) rfl (hu_of hr) (pv 1) pe_int) (pa_cons (pv 4) pa_nil))))))))
      (pss_one (ps_expr (pe_bm PySem.F.plainAttrs_list PySem.F.slot_list_append PySem.F.type_list_append mt_append (pe_ixU (K := K) rfl (hu_of hr) (pv 0) pe_str) (pa_cons (pe_tup (pa_cons (pv 3) (pa_cons (pe_ixU (K := K) rfl (hu_of hr) (pv 0) pe_str) (pa_cons (pe_op o_fdiv (pv 4) (pe_ixU (K := K) rfl (hu_of hr) (pe_ixU (K := K) rfl (hu_of hr) (pv 1) pe_int) pe_int)) (pa_cons (pv 5) pa_nil))))) pa_nil)))))))), ?_⟩)
  obtain ⟨C, P, N, a, g, mc, ou, Y, sv, rfl, L, ok, is, hv, hN, hQ⟩ := h
  walk_at "go"
  refine ⟨fun n σ H' => ∃ (mc' : MC) (g' : LG) (o2 o3 o4 o5 : Option V), σ = [some (.ref a.m), some sv, o2, o3, o4, o5] ∧ KT H H' ∧ LH C 0 P mc'.vi H' a g' mc' ou Y ∧ COk C.k C.ad C.ac N mc' ∧ goVis (C.t.vis.drop mc'.vi) mc' = goVis (C.t.vis.drop mc.vi) mc ∧ n = C.t.vis.length - mc'.vi,
    ⟨_, mc, g, _, _, _, _, rfl, KT.refl, L, ok, rfl, rfl⟩, ?_⟩
  rintro n σ H1 ⟨mc1, g1, o2, o3, o4, o5, rfl, k1, L1, ok1, e1, hn⟩
  have gv : H1 a.av = some (.lst g1.vv) := L1.M.get 2 rfl
  have lv := L1.vi.length
  rw [List.length_map] at lv
  have hQ1 : goVis (C.t.vis.drop mc1.vi) mc1 = mc1 → Q .non H1 := fun z => by
    rw [z] at e1
    rw [← e1] at hQ
    exact hQ H1 g1 k1 L1
  walk_at "go"
  refine g_ixD (dg_s L1.gm nd_m 5 rfl) ?_
  walk_at "go"
  have is1 := is.kt k1
  cases hd : C.t.vis.drop mc1.vi with
  | nil =>
    rw [hd] at lv
    refine g_if (fun c => absurd c (by rw [lv]; decide)) (fun _ => ?_)
    walk_at "go"
    exact hQ1 (by rw [hd]; rfl)
  | cons v r =>
    have hlt : mc1.vi < C.t.vis.length := by
      have : (v :: r).length = C.t.vis.length - mc1.vi := by rw [← hd, List.length_drop]
      rw [List.length_cons] at this
      omega
    rw [hd] at lv e1 hQ1
    have hi := L1.vi
    rw [hd] at hi
    obtain ⟨x, xs, ev, ix, ixs⟩ := Ims.cons_inv hi
    obtain ⟨s0, rfl, hs0⟩ := vi_tup ix
    refine g_if (fun _ => ?_) (fun c => absurd (by rw [lv, List.length_cons]; omega) c)
    walk_at "go"
    refine g_ixD (dg_s L1.gm nd_m 5 rfl) ?_
    walk_at "go"
    refine g_ixL (SqL.of gv) (n := 0) rfl (by rw [ev]; rfl) ?_
    walk_at "go"
    refine g_ixD (dg_s L1.gm nd_m 4 rfl) ?_
    walk_at "go"
    refine g_if (fun c => ?_) (fun c => ?_)
    · have e2 : goVis (v :: r) mc1 = goVis r { visM mc1 v with vi := mc1.vi + 1 } := by
        show (if v.n ≤ mc1.fe then _ else mc1) = _
        rw [if_pos c]
      refine g_whileT ?_
      walk_at "go"
      refine g_ixD (dg_s L1.gm nd_m 5 rfl) ?_
      walk_at "go"
      refine u_pop L1 hd hv (fun H2 g2 s2 k2 hs2' L2 => ?_)
      have hs2 := k2 _ _ hs2'
      have is2 := is1.kt k2
      cases hvt : v.t with
      | true =>
        have hs2 : H2 s2 = some (.tup [.int v.n, .str "touch", .int v.a]) := by
          rw [hvt] at hs2
          exact hs2
        walk_at "go"
        refine ⟨fun σ' H' => ∃ (g3 : LG), σ' = [some (.ref a.m), some sv, some (.int v.n), some (.str "touch"), some (.int v.a), some (.bl (decide (hitV mc1.dc v.a)))] ∧ KT H2 H' ∧ LH C 1 P (mc1.vi + 1) H' a g3 { mc1 with dc := if v.t then tcV mc1.dc v.a else dpV mc1.dc v.a } ou Y, ?_, ?_⟩
        · walk_at "go"
          refine g_ixD (dg_s L2.gm nd_m 0 rfl) ?_
          walk_at "go"
          refine m_ix is2 (n := 0) rfl rfl (fun v0 i0 => ?_)
          obtain ⟨s0, rfl, hs0'⟩ := cs_tp i0
          walk_at "go"
          refine u_touD L2 hs0' (by have := ok1.len; omega) (fun H3 g3 k3 L3 => ?_)
          walk_at "go"
          exact ⟨g3, rfl, k3, by rw [hvt]; exact L3⟩
        · rintro σ' H3 ⟨g3, rfl, k3, L3⟩
          have is3 := is2.kt k3
          have gt3 : H3 a.at_ = some (.lst g3.tv) := L3.M.get 3 rfl
          obtain ⟨zd1, zd2, zd3⟩ := L1.zd
          walk_at "go"
          refine g_ixD (dg_s L3.gm nd_m 6 rfl) ?_
          walk_at "go"
          refine g_ixD (dg_s L3.gm nd_m 3 rfl) ?_
          walk_at "go"
          refine m_ix is3 (n := 0) rfl rfl (fun v0 i0 => ?_)
          obtain ⟨s0, rfl, hs0'⟩ := cs_tp i0
          walk_at "go"
          refine m_new (.cons (.str _) (.cons (.int _) (.cons (.int _) (.cons (.bl _) .nil)))) (by simp) (fun p4 H4 s4 hp4 i4 => ?_)
          walk_at "go"
          have ev' : Ev.d (.visit v.t mc1.ck (v.a / (mc1.dc.Z : Int)) (decide (hitV mc1.dc v.a))) = .tuple [.str "touch", .int mc1.ck, .int (v.a / (C.t.dc.Z : Int)), .bool (decide (hitV mc1.dc v.a))] := by
            rw [zd1, hvt]
            rfl
          refine a_event (ev := .visit v.t mc1.ck (v.a / (mc1.dc.Z : Int)) (decide (hitV mc1.dc v.a))) (L3.same s4) (by have := ok1.len; show mc1.tr.length < 90000; omega) (by rw [ev']; exact i4) (fun H5 g5 k5 L5 => ?_)
          walk_at "go"
          refine ⟨_, ?_, { visM mc1 v with vi := mc1.vi + 1 }, g5, _, _, _, _, rfl, (((k1.trans k2).trans k3).trans (KT.of s4)).trans k5, L5.vi' (w := mc1.vi + 1), ok1.vis hlt, ?_, rfl⟩
          · show C.t.vis.length - (mc1.vi + 1) < n
            omega
          · have e3 : C.t.vis.drop (mc1.vi + 1) = r := by
              rw [← List.drop_drop, hd]
              rfl
            rw [← e1, e2]
            show goVis (C.t.vis.drop (mc1.vi + 1)) _ = _
            rw [e3]
      | false =>
        have hs2 : H2 s2 = some (.tup [.int v.n, .str "drop", .int v.a]) := by
          rw [hvt] at hs2
          exact hs2
        walk_at "go"
        refine ⟨fun σ' H' => ∃ (g3 : LG), σ' = [some (.ref a.m), some sv, some (.int v.n), some (.str "drop"), some (.int v.a), some (.bl (decide (hitV mc1.dc v.a)))] ∧ KT H2 H' ∧ LH C 1 P (mc1.vi + 1) H' a g3 { mc1 with dc := if v.t then tcV mc1.dc v.a else dpV mc1.dc v.a } ou Y, ?_, ?_⟩
        · walk_at "go"
          refine g_ixD (dg_s L2.gm nd_m 0 rfl) ?_
          walk_at "go"
          refine m_ix is2 (n := 0) rfl rfl (fun v0 i0 => ?_)
          obtain ⟨s0, rfl, hs0'⟩ := cs_tp i0
          walk_at "go"
          refine u_drop L2 hs0' (fun H3 g3 k3 L3 => ?_)
          walk_at "go"
          exact ⟨g3, rfl, k3, by rw [hvt]; exact L3.mono (Nat.zero_le _) (Nat.le_refl _)⟩
        · rintro σ' H3 ⟨g3, rfl, k3, L3⟩
          have is3 := is2.kt k3
          have gt3 : H3 a.at_ = some (.lst g3.tv) := L3.M.get 3 rfl
          obtain ⟨zd1, zd2, zd3⟩ := L1.zd
          walk_at "go"
          refine g_ixD (dg_s L3.gm nd_m 6 rfl) ?_
          walk_at "go"
          refine g_ixD (dg_s L3.gm nd_m 3 rfl) ?_
          walk_at "go"
          refine m_ix is3 (n := 0) rfl rfl (fun v0 i0 => ?_)
          obtain ⟨s0, rfl, hs0'⟩ := cs_tp i0
          walk_at "go"
          refine m_new (.cons (.str _) (.cons (.int _) (.cons (.int _) (.cons (.bl _) .nil)))) (by simp) (fun p4 H4 s4 hp4 i4 => ?_)
          walk_at "go"
          have ev' : Ev.d (.visit v.t mc1.ck (v.a / (mc1.dc.Z : Int)) (decide (hitV mc1.dc v.a))) = .tuple [.str "drop", .int mc1.ck, .int (v.a / (C.t.dc.Z : Int)), .bool (decide (hitV mc1.dc v.a))] := by
            rw [zd1, hvt]
            rfl
          refine a_event (ev := .visit v.t mc1.ck (v.a / (mc1.dc.Z : Int)) (decide (hitV mc1.dc v.a))) (L3.same s4) (by have := ok1.len; show mc1.tr.length < 90000; omega) (by rw [ev']; exact i4) (fun H5 g5 k5 L5 => ?_)
          walk_at "go"
          refine ⟨_, ?_, { visM mc1 v with vi := mc1.vi + 1 }, g5, _, _, _, _, rfl, (((k1.trans k2).trans k3).trans (KT.of s4)).trans k5, L5.vi' (w := mc1.vi + 1), ok1.vis hlt, ?_, rfl⟩
          · show C.t.vis.length - (mc1.vi + 1) < n
            omega
          · have e3 : C.t.vis.drop (mc1.vi + 1) = r := by
              rw [← List.drop_drop, hd]
              rfl
            rw [← e1, e2]
            show goVis (C.t.vis.drop (mc1.vi + 1)) _ = _
            rw [e3]
    · walk_at "go"
      refine hQ1 ?_
      show (if v.n ≤ mc1.fe then _ else mc1) = _
      rw [if_neg c]


/-! ### a fetch, small helpers -/
def sp_law_fetched (K : PySem.W.Frag) : Sp := fun vs H Q _ => ∃ (C : LC) (P N : Nat) (a : LAd) (g : LG) (mc : MC) (ou : List Int) (Y : List (Addr × HO)) (sv : V) (x : Nat), vs = [.ref a.m, sv, .int (x : Int)] ∧ LH C 0 P mc.vi H a g mc ou Y ∧ COk C.k C.ad C.ac N mc ∧ Im H sv C.t.d ∧ SeDr C.t ∧ N ≤ 80000 ∧
  ∀ H' g', KT H H' → LH C 0 P (fetchM C.k mc x).vi H' a g' (fetchM C.k mc x) ou Y → Q .non H'
theorem sc_law_fetched : FnScope ["m", "settings", "at", "hit"] ["m", "settings", "at"] (defScope (topS 52)) := ⟨rfl, rfl, rfl, by decide +kernel, rfl, by decide +kernel, by decide +kernel⟩
theorem ok_law_fetched (T : Txt fa fn K mg (CsOk cs K w)) : Dn P w K mg base CX0 6 "_law_fetched" ["m", "settings", "at"] (sp_law_fetched K) := by
  refine mk_dn (d := dOf "_law_fetched" 52) T 40 40 rfl rfl rfl rfl rfl sc_law_fetched (by walk_at "len") (fun _ _ _ _ _ _ us hl => match us, hl with | [_, _, _], _ => rfl) (fun cdv A outer s H vs Q E hr h => ⟨_, (pss_cons (ps_expr (pe_callD (K := K) rfl (ok_law_visited T) (hr.mono (by decide)) rfl pass0 (pa_cons (pv 0) (pa_cons (pv 1) pa_nil))))
      (pss_cons (ps_dput (hu_of hr) (pv 0) pe_str (pe_op (op_addU (K := K) rfl) (pe_ixU (K := K) rfl (hu_of hr) (pv 0) pe_str) pe_int) rfl)
      (pss_cons (ps_set (i := 3) sc_law_fetched.nd rfl (.inl rfl) (pe_callD (K := K) rfl (ok_law_touch T) (hr.mono (by decide)) rfl pass0 (pa_cons (pe_ixU (K := K) rfl (hu_of hr) (pv 0) pe_str) (pa_cons (pe_ixU (K := K) rfl (hu_of hr) (pv 1) pe_int) (pa_cons (pv 2) pa_nil)))))
      (pss_cons (ps_expr (pe_bm PySem.F.plainAttrs_list PySem.F.slot_list_append PySem.F.type_list_append mt_append (pe_ixU (K := K) rfl (hu_of hr) (pv 0) pe_str) (pa_cons (pe_tup (pa_cons pe_str (pa_cons (pe_ixU (K := K) rfl (hu_of hr) (pv 0) pe_str) (pa_cons (pe_op o_fdiv (pv 2) (pe_ixU (K := K) rfl (hu_of hr) (pe_ixU (K := K) rfl (hu_of hr) (pv 1) pe_int) pe_int)) (pa_cons (pv 3) pa_nil))))) pa_nil)))
      (pss_one (ps_if (pt_not (pt_tru (K := K) rfl (pv 3))) (pss_one (ps_dput (hu_of hr) (pv 0) pe_str (pe_op (op_addU (K := K) rfl) (pe_ixU (K := K) rfl (hu_of hr) (pv 0) pe_str) (pe_ixU (K := K) rfl (hu_of hr) (pe_ixU (K := K) rfl (hu_of hr) (pv 1) pe_int) pe_int)) rfl)) pss_nil)))))), ?_⟩)
  obtain ⟨C, P, N, a, g, mc, ou, Y, sv, x, rfl, L, ok, is, sd, hN, hQ⟩ := h
  have hv := sd.v.l
  walk_at "go"
  refine ⟨C, P, N, a, g, mc, ou, Y, sv, rfl, L, ok, is, by omega, hN, fun H1 g1 k1 L1 => ?_⟩
  have ok1 : COk C.k C.ad C.ac N (goVis (C.t.vis.drop mc.vi) mc) := COk.go _ ok rfl
  have hQ : ∀ H' g', KT H H' → LH C 0 P (goVis (C.t.vis.drop mc.vi) mc).vi H' a g' { (goVis (C.t.vis.drop mc.vi) mc) with fe := (goVis (C.t.vis.drop mc.vi) mc).fe + 1, fc := tcV (goVis (C.t.vis.drop mc.vi) mc).fc x, tr := (goVis (C.t.vis.drop mc.vi) mc).tr ++ [.fetch (goVis (C.t.vis.drop mc.vi) mc).ck ((x : Int) / ((goVis (C.t.vis.drop mc.vi) mc).fc.Z : Int)) (decide (hitV (goVis (C.t.vis.drop mc.vi) mc).fc x))], ck := if hitV (goVis (C.t.vis.drop mc.vi) mc).fc x then (goVis (C.t.vis.drop mc.vi) mc).ck else (goVis (C.t.vis.drop mc.vi) mc).ck + C.t.miss } ou Y → Q .non H' := hQ
  generalize goVis (C.t.vis.drop mc.vi) mc = m1 at L1 ok1 hQ
  have l1 := ok1.len
  have is1 := is.kt k1
  walk_at "go"
  refine g_ixD (dg_s L1.gm nd_m 4 rfl) ?_
  walk_at "go"
  refine s_fetches L1 (fun H2 k2 L2 => ?_)
  have is2 := is1.kt k2
  walk_at "go"
  refine g_ixD (dg_s L2.gm nd_m 1 rfl) ?_
  walk_at "go"
  refine m_ix is2 (n := 1) rfl rfl (fun v1 i1 => ?_)
  obtain ⟨s1, rfl, hs1⟩ := cs_tp i1
  walk_at "go"
  refine u_touF L2 hs1 (by show 20 + 0 + m1.tr.length < 90000; omega) (fun H3 g3 k3 L3 => ?_)
  have is3 := is2.kt k3
  have gt3 : H3 a.at_ = some (.lst g3.tv) := L3.M.get 3 rfl
  obtain ⟨zf1, zf2, zf3⟩ := L1.zf
  walk_at "go"
  refine g_ixD (dg_s L3.gm nd_m 6 rfl) ?_
  walk_at "go"
  refine g_ixD (dg_s L3.gm nd_m 3 rfl) ?_
  walk_at "go"
  refine m_ix is3 (n := 1) rfl rfl (fun v1 i1 => ?_)
  obtain ⟨s1, rfl, hs1⟩ := cs_tp i1
  walk_at "go"
  refine m_new (.cons (.str _) (.cons (.int _) (.cons (.int _) (.cons (.bl _) .nil)))) (by simp) (fun p4 H4 s4 hp4 i4 => ?_)
  walk_at "go"
  have ev' : Ev.d (.fetch m1.ck ((x : Int) / (m1.fc.Z : Int)) (decide (hitV m1.fc x))) = .tuple [.str "fetch", .int m1.ck, .int ((x : Int) / (C.t.fc.Z : Int)), .bool (decide (hitV m1.fc x))] := by
    rw [zf1]
    rfl
  refine a_event (ev := .fetch m1.ck ((x : Int) / (m1.fc.Z : Int)) (decide (hitV m1.fc x))) (L3.same s4) (by show m1.tr.length < 90000; omega) (by rw [ev']; exact i4) (fun H5 g5 k5 L5 => ?_)
  have kk := (((k1.trans k2).trans k3).trans (KT.of s4)).trans k5
  have is5 := is.kt kk
  walk_at "go"
  refine g_ifBn (fun c => ?_) (fun c => ?_)
  · have c := of_decide_eq_false c
    walk_at "go"
    refine g_ixD (dg_s L5.gm nd_m 3 rfl) ?_
    walk_at "go"
    refine m_ix is5 (n := 4) rfl rfl (fun v1 i1 => ?_)
    refine m_ix i1 (n := 0) rfl rfl (fun v1 i1 => ?_)
    obtain rfl := i1.int_inv
    walk_at "go"
    refine s_clock L5 (fun H6 k6 L6 => ?_)
    walk_at "go"
    rw [if_neg c] at hQ
    exact hQ H6 g5 (kk.trans k6) L6
  · have c := of_decide_eq_true c
    walk_at "go"
    rw [if_pos c] at hQ
    exact hQ H5 g5 kk L5


/-! ### what rows read, cost, do -/
theorem g_inL2 {K : PySem.W.Frag} {H : Hp} {Q : VK} {k a b : Str} {r : Bool} (h : ([a, b] : List Str).contains k = r) (q : ∀ H', Same H H' → Q (.bl r) H') : rLstN [.str a, .str b] H fun y H1 => rInU K false (.str k) y H1 Q :=
  ⟨by show 2 ≤ sizeLine; decide, fun u hu => g_inTs (ks := [a, b]) (.inr upd_same) (by rw [h]; exact q _ (Same.new hu))⟩
theorem ims_int_inv' {H : Hp} : ∀ {l : List Int} {us : List V}, Ims H us (l.map PyData.int) → us = l.map V.int
  | [], _, h => h.nil_inv
  | n :: l, us, h => by
    have h : Ims H us (PyData.int n :: l.map PyData.int) := h
    obtain ⟨v, ws, rfl, i1, i2⟩ := Ims.cons_inv h
    rw [i1.int_inv, ims_int_inv' i2]
    rfl
def sp_law_read (K : PySem.W.Frag) : Sp := fun vs H Q _ => ∃ (ra : Addr) (r : Row), vs = [.ref ra] ∧ H ra = some (.tup r.v) ∧ ∀ H' D, Same H H' → H' D = some (.lst (r.rds.map V.int)) → Q (.ref D) H'
theorem sc_law_read : FnScope ["row"] ["row"] (defScope (topS 53)) := ⟨rfl, rfl, rfl, by decide +kernel, rfl, by decide +kernel, by decide +kernel⟩
theorem ok_law_read (T : Txt fa fn K mg (CsOk cs K w)) : Dn P w K mg base CX0 1 "_law_read" ["row"] (sp_law_read K) := by
  refine mk_dn (d := dOf "_law_read" 53) T 41 41 rfl rfl rfl rfl rfl sc_law_read (by walk_at "len") (fun _ _ _ _ _ _ us hl => match us, hl with | [_], _ => rfl) (fun cdv A outer s H vs Q E hr h => ⟨_, (pss_cons (ps_if (pt_cmpR (op_eqU (K := K) rfl hr.units) (pe_ixU (K := K) rfl (hu_of hr) (pv 0) pe_int) pe_str (nomark _)) (pss_one (ps_ret (pe_callTy (c_list (K := K) rfl) rfl (T.free 128 rfl) (by decide +kernel) (pa_cons (pe_slice (sl_U (K := K) rfl) (pv 0) (po_some pe_int) po_none) pa_nil)))) pss_nil)
      (pss_cons (ps_if (pt_cmpR (op_eqU (K := K) rfl hr.units) (pe_ixU (K := K) rfl (hu_of hr) (pv 0) pe_int) pe_str (nomark _)) (pss_one (ps_ret (pe_callTy (c_list (K := K) rfl) rfl (T.free 128 rfl) (by decide +kernel) (pa_cons (pe_slice (sl_U (K := K) rfl) (pv 0) (po_some pe_int) po_none) pa_nil)))) pss_nil)
      (pss_cons (ps_if (pt_cmpR (op_eqU (K := K) rfl hr.units) (pe_ixU (K := K) rfl (hu_of hr) (pv 0) pe_int) pe_str (nomark _)) (pss_one (ps_ret (pe_lst (pa_cons (pe_ixU (K := K) rfl (hu_of hr) (pv 0) pe_int) pa_nil)))) pss_nil)
      (pss_cons (ps_if (pt_cmpR (op_eqU (K := K) rfl hr.units) (pe_ixU (K := K) rfl (hu_of hr) (pv 0) pe_int) pe_str (nomark _)) (pss_one (ps_ret (pe_lst (pa_cons (pe_ixU (K := K) rfl (hu_of hr) (pv 0) pe_int) (pa_cons (pe_ixU (K := K) rfl (hu_of hr) (pv 0) pe_int) pa_nil))))) pss_nil)
      (pss_cons (ps_if (pt_cmpR (op_inU (K := K) rfl (hu65 hr)) (pe_ixU (K := K) rfl (hu_of hr) (pv 0) pe_int) (pe_lst (pa_cons pe_str (pa_cons pe_str pa_nil))) (by rfl)) (pss_one (ps_ret (pe_lst (pa_cons (pe_ixU (K := K) rfl (hu_of hr) (pv 0) pe_int) pa_nil)))) pss_nil)
      (pss_one (ps_ret (pe_lst pa_nil)))))))), ?_⟩)
  obtain ⟨ra, r, rfl, ht, hQ⟩ := h
  cases r with
  | op s d x y =>
    have ht : H ra = some (.tup [.str "op", .str s.s, .int d, .int x, .int y]) := ht
    have im : Im H (.ref ra) (.tuple [.str "op", .str s.s, nI d, nI x, nI y]) := .tup ht (.cons (.str _) (.cons (.str _) (.cons (.int _) (.cons (.int _) (.cons (.int _) .nil)))))
    walk_at "go"
    refine m_sl im (fun p H1 s1 i1 => ?_)
    rw [show (3 : Int) = ((3 : Nat) : Int) from rfl, cutD_from] at i1
    obtain ⟨b, xs, e, hb, ixs⟩ := i1.tup_inv
    cases e
    have e : xs = [(x : Int), (y : Int)].map V.int := ims_int_inv' (l := [(x : Int), (y : Int)]) ixs
    subst e
    walk_at "go"
    refine ⟨p, _, rfl, .inr (SqT.of hb), fun l hl => ?_⟩
    exact hQ _ l (s1.trans (Same.new hl)) upd_same
  | select d c x y =>
    have ht : H ra = some (.tup [.str "select", .int d, .int c, .int x, .int y]) := ht
    have im : Im H (.ref ra) (.tuple [.str "select", nI d, nI c, nI x, nI y]) := .tup ht (.cons (.str _) (.cons (.int _) (.cons (.int _) (.cons (.int _) (.cons (.int _) .nil)))))
    walk_at "go"
    refine m_sl im (fun p H1 s1 i1 => ?_)
    rw [show (2 : Int) = ((2 : Nat) : Int) from rfl, cutD_from] at i1
    obtain ⟨b, xs, e, hb, ixs⟩ := i1.tup_inv
    cases e
    have e : xs = [(c : Int), (x : Int), (y : Int)].map V.int := ims_int_inv' (l := [(c : Int), (x : Int), (y : Int)]) ixs
    subst e
    walk_at "go"
    refine ⟨p, _, rfl, .inr (SqT.of hb), fun l hl => ?_⟩
    exact hQ _ l (s1.trans (Same.new hl)) upd_same
  | load d x ba ma =>
    have ht : H ra = some (.tup [.str "load", .int d, .int x, .int ba, .int ma]) := ht
    walk_at "go"
    refine ⟨by show 1 ≤ sizeLine; decide, fun l hl => ?_⟩
    exact hQ _ l (Same.new hl) upd_same
  | store x ba ma y =>
    have ht : H ra = some (.tup [.str "store", .int x, .int ba, .int ma, .int y]) := ht
    walk_at "go"
    refine ⟨by show 2 ≤ sizeLine; decide, fun l hl => ?_⟩
    exact hQ _ l (Same.new hl) upd_same
  | out x =>
    have ht : H ra = some (.tup [.str "out", .int x]) := ht
    walk_at "go"
    refine g_inL2 (r := true) (by decide +kernel) (fun H1 s1 => ?_)
    have ht1 := s1 _ _ ht
    walk_at "go"
    refine ⟨by show 1 ≤ sizeLine; decide, fun l hl => ?_⟩
    exact hQ _ l (s1.trans (Same.new hl)) upd_same
  | stop x =>
    have ht : H ra = some (.tup [.str "stop", .int x]) := ht
    walk_at "go"
    refine g_inL2 (r := true) (by decide +kernel) (fun H1 s1 => ?_)
    have ht1 := s1 _ _ ht
    walk_at "go"
    refine ⟨by show 1 ≤ sizeLine; decide, fun l hl => ?_⟩
    exact hQ _ l (s1.trans (Same.new hl)) upd_same
  | const d n =>
    have ht : H ra = some (.tup [.str "const", .int d, .int n]) := ht
    walk_at "go"
    refine g_inL2 (r := false) (by decide +kernel) (fun H1 s1 => ?_)
    have ht1 := s1 _ _ ht
    walk_at "go"
    refine ⟨by show 0 ≤ sizeLine; exact Nat.zero_le _, fun l hl => ?_⟩
    exact hQ _ l (s1.trans (Same.new hl)) upd_same
  | jump t =>
    have ht : H ra = some (.tup [.str "jump", .int t]) := ht
    walk_at "go"
    refine g_inL2 (r := false) (by decide +kernel) (fun H1 s1 => ?_)
    have ht1 := s1 _ _ ht
    walk_at "go"
    refine ⟨by show 0 ≤ sizeLine; exact Nat.zero_le _, fun l hl => ?_⟩
    exact hQ _ l (s1.trans (Same.new hl)) upd_same
  | branch x t =>
    have ht : H ra = some (.tup [.str "branch", .int x, .int t]) := ht
    walk_at "go"
    refine g_inL2 (r := false) (by decide +kernel) (fun H1 s1 => ?_)
    have ht1 := s1 _ _ ht
    walk_at "go"
    refine ⟨by show 0 ≤ sizeLine; exact Nat.zero_le _, fun l hl => ?_⟩
    exact hQ _ l (s1.trans (Same.new hl)) upd_same
def sp_law_digits (K : PySem.W.Frag) : Sp := fun vs H Q _ => ∃ n : Int, vs = [.int n] ∧ 0 ≤ n ∧ Q (.int (digs n.toNat)) H
theorem sc_law_digits : FnScope ["word", "many"] ["word"] (defScope (topS 54)) := ⟨rfl, rfl, rfl, by decide +kernel, rfl, by decide +kernel, by decide +kernel⟩
theorem ok_law_digits (T : Txt fa fn K mg (CsOk cs K w)) : Dn P w K mg base CX0 1 "_law_digits" ["word"] (sp_law_digits K) := by
  refine mk_dn (d := dOf "_law_digits" 54) T 42 42 rfl rfl rfl rfl rfl sc_law_digits (by walk_at "len") (fun _ _ _ _ _ _ us hl => match us, hl with | [_], _ => rfl) (fun cdv A outer s H vs Q E hr h => ⟨_, (pss_cons (ps_set (i := 1) sc_law_digits.nd rfl (.inl rfl) pe_int)
      (pss_cons (ps_while PassesOwn.never (pt_cmpR o_gt (pv 0) pe_int (nomark _)) (pss_cons (ps_set (i := 0) sc_law_digits.nd rfl (.inl rfl) (pe_op o_fdiv (pv 0) pe_int))
      (pss_one (ps_set (i := 1) sc_law_digits.nd rfl (.inl rfl) (pe_op (op_addU (K := K) rfl) (pv 1) pe_int)))))
      (pss_one (ps_ret (pv 1))))), ?_⟩)
  obtain ⟨n, rfl, hn, hQ⟩ := h
  walk_at "go"
  refine ⟨fun m σ H' => ∃ (a b : Int), σ = [some (.int a), some (.int b)] ∧ H' = H ∧ 0 ≤ a ∧ a.toNat = m ∧ b + digs a.toNat = digs n.toNat, ⟨_, _, _, rfl, rfl, hn, rfl, Int.zero_add _⟩, ?_⟩
  rintro m σ H' ⟨a, b, rfl, rfl, ha, rfl, e⟩
  walk_at "go"
  refine g_if (fun h => ?_) (fun h => ?_)
  · refine g_whileT ?_
    walk_at "go"
    have e1 : (a / 2).toNat = a.toNat / 2 := by omega
    refine ⟨_, ?_, a / 2, b + 1, rfl, rfl, by omega, rfl, ?_⟩
    · omega
    · rw [← e, digs_pos (n := a.toNat) (by omega), e1]
      omega
  · walk_at "go"
    have h0 : a = 0 := by omega
    subst h0
    have e2 : b = digs n.toNat := by
      rw [← e]
      simp [digs]
    rw [e2]
    exact hQ
def sp_law_cost (K : PySem.W.Frag) : Sp := fun vs H Q _ => ∃ (s : Sg) (z : Str) (x y : Int), vs = [.str z, .int x, .int y] ∧ z = s.s ∧ 0 ≤ x ∧ 0 ≤ y ∧ ∀ H', Same H H' → Q (.int (costS s x y)) H'
theorem sc_law_cost : FnScope ["sign", "a", "b"] ["sign", "a", "b"] (defScope (topS 55)) := ⟨rfl, rfl, rfl, by decide +kernel, rfl, by decide +kernel, by decide +kernel⟩
theorem ok_law_cost (T : Txt fa fn K mg (CsOk cs K w)) : Dn P w K mg base CX0 2 "_law_cost" ["sign", "a", "b"] (sp_law_cost K) := by
  refine mk_dn (d := dOf "_law_cost" 55) T 43 43 rfl rfl rfl rfl rfl sc_law_cost (by walk_at "len") (fun _ _ _ _ _ _ us hl => match us, hl with | [_, _, _], _ => rfl) (fun cdv A outer s H vs Q E hr h => ⟨_, (pss_cons (ps_if (pt_cmpR (op_eqU (K := K) rfl hr.units) (pv 0) pe_str (nomark _)) (pss_one (ps_ret pe_int)) pss_nil)
      (pss_cons (ps_if (pt_cmpR (op_inU (K := K) rfl (hu65 hr)) (pv 0) (pe_lst (pa_cons pe_str (pa_cons pe_str pa_nil))) (by rfl)) (pss_one (ps_ret (pe_op (op_addU (K := K) rfl) pe_int (pe_callB (c_max2 rfl) rfl (T.free 129 rfl) (by decide +kernel) (pa_cons pe_int (pa_cons (pe_op op_sub (pe_callD (K := K) rfl (ok_law_digits T) (hr.mono (by decide)) rfl pass0 (pa_cons (pv 1) pa_nil)) (pe_callD (K := K) rfl (ok_law_digits T) (hr.mono (by decide)) rfl pass0 (pa_cons (pv 2) pa_nil))) pa_nil)))))) pss_nil)
      (pss_one (ps_ret pe_int)))), ?_⟩)
  obtain ⟨s, z, x, y, rfl, hz, hx, hy, hQ⟩ := h
  cases s <;> (simp only [Sg.s] at hz; subst hz)
  case mul =>
    walk_at "go"
    exact hQ _ (Same.refl H)
  case div =>
    walk_at "go"
    refine g_inL2 (r := true) (by decide +kernel) (fun H1 s1 => ?_)
    walk_at "go"
    refine ⟨_, rfl, hx, ?_⟩
    walk_at "go"
    refine ⟨_, rfl, hy, ?_⟩
    walk_at "go"
    refine q_int ?_ (hQ _ s1)
    show 4 + max 0 ((digs x.toNat : Int) - digs y.toNat) = _
    split <;> omega
  case mod =>
    walk_at "go"
    refine g_inL2 (r := true) (by decide +kernel) (fun H1 s1 => ?_)
    walk_at "go"
    refine ⟨_, rfl, hx, ?_⟩
    walk_at "go"
    refine ⟨_, rfl, hy, ?_⟩
    walk_at "go"
    refine q_int ?_ (hQ _ s1)
    show 4 + max 0 ((digs x.toNat : Int) - digs y.toNat) = _
    split <;> omega
  all_goals
    walk_at "go"
    refine g_inL2 (r := false) (by decide +kernel) (fun H1 s1 => ?_)
    walk_at "go"
    exact hQ _ s1
/-- registers, their times, words, in a dict of the law -/
structure SAd where
  s : Addr
  h : Addr
  r : Addr
  w : Addr
abbrev sL (q : SAd) : List (Str × V) := [("held", .ref q.h), ("ready", .ref q.r), ("words", .ref q.w)]
theorem nd_s : (["held", "ready", "words"] : List Str).Nodup := by decide +kernel
abbrev SaL (q : SAd) (ms : MS) (rd : List Int) (Y : List (Addr × HO)) : List (Addr × HO) := (q.s, .dK (sK (sL q))) :: (q.h, .lst (ms.rg.map V.int)) :: (q.r, .lst (rd.map V.int)) :: (q.w, .dK ms.wd) :: Y
section
variable {C : LC} {e P vj N : Nat} {H H' : Hp} {a : LAd} {g : LG} {mc : MC} {ou : List Int} {Y : List (Addr × HO)} {K : PySem.W.Frag} {R : Hp → Prop} {Q : VK} {q : SAd} {ms : MS} {rd : List Int} {i x : Int} {d : Nat} {cov : Int → Prop} {b : Nat}
theorem s_held (h : LH C e P vj H a g mc ou (SaL q ms rd Y)) (hd : d < ms.rg.length) (k : ∀ H', KT H H' → LH C e P vj H' a g mc ou (SaL q (put ms d x) rd Y) → R H') : rSetU (.ref q.h) (.int (d : Int)) (.int x) H R := by
  obtain ⟨kt, L⟩ := h.yset (o' := .lst ((ms.rg.map V.int).set d (.int x))) 1 rfl (fun _ z => nomatch z)
  refine .inl ⟨q.h, _, _, d, rfl, rfl, h.yget 1 rfl, ?_, ?_⟩
  · unfold ixN
    rw [List.length_map, if_pos (by omega), if_pos (by omega)]
    rfl
  · have em : (ms.rg.map V.int).set d (.int x) = (ms.rg.set d x).map V.int := List.map_set.symm
    rw [em] at kt L ⊢
    exact k _ kt L
theorem s_ready (h : LH C e P vj H a g mc ou (SaL q ms rd Y)) (hd : d < rd.length) (k : ∀ H', KT H H' → LH C e P vj H' a g mc ou (SaL q ms (rd.set d x) Y) → R H') : rSetU (.ref q.r) (.int (d : Int)) (.int x) H R := by
  obtain ⟨kt, L⟩ := h.yset (o' := .lst ((rd.map V.int).set d (.int x))) 2 rfl (fun _ z => nomatch z)
  refine .inl ⟨q.r, _, _, d, rfl, rfl, h.yget 2 rfl, ?_, ?_⟩
  · unfold ixN
    rw [List.length_map, if_pos (by omega), if_pos (by omega)]
    rfl
  · have em : (rd.map V.int).set d (.int x) = (rd.set d x).map V.int := List.map_set.symm
    rw [em] at kt L ⊢
    exact k _ kt L
theorem s_word (h : LH C e P vj H a g mc ou (SaL q ms rd Y)) (hl : ms.wd.length ≤ 90000) (k : ∀ H', KT H H' → LH C e P vj H' a g mc ou (SaL q { ms with wd := putK ms.wd (.inl i) (.int x) } rd Y) → R H') : rSetU (.ref q.w) (.int i) (.int x) H R := by
  obtain ⟨kt, L⟩ := h.yset (o' := .dK (putK ms.wd (.inl i) (.int x))) 3 rfl (fun _ z => nomatch z)
  exact .inr ⟨q.w, _, rfl, DPut.k (k := .inl i) (h.yget 3 rfl) (szl (by omega)), k _ kt L⟩
theorem r_held (h : LH C e P vj H a g mc ou (SaL q ms rd Y)) (m : MOk b cov ms) (hd : d < 16) (k : Q (.int (rgV ms d)) H) : rIxU K (.ref q.h) (.int (d : Int)) H Q :=
  g_ixL (SqL.of (h.yget 1 rfl)) (n := d) rfl (by rw [List.getElem?_map, m.at_ hd]; rfl) k
end
def sp_law_put (K : PySem.W.Frag) : Sp := fun vs H Q _ => ∃ (C : LC) (e P vj : Nat) (a : LAd) (g : LG) (mc : MC) (ou : List Int) (Y : List (Addr × HO)) (q : SAd) (ms : MS) (rd : List Int) (d : Nat) (x tm : Int), vs = [.ref q.s, .int (d : Int), .int x, .int tm] ∧ LH C e P vj H a g mc ou (SaL q ms rd Y) ∧ d < ms.rg.length ∧ d < rd.length ∧
  ∀ H', KT H H' → LH C e P vj H' a g mc ou (SaL q (put ms d x) (rd.set d tm) Y) → Q .non H'
theorem sc_law_put : FnScope ["s", "reg", "word", "time"] ["s", "reg", "word", "time"] (defScope (topS 56)) := ⟨rfl, rfl, rfl, by decide +kernel, rfl, by decide +kernel, by decide +kernel⟩
theorem ok_law_put (T : Txt fa fn K mg (CsOk cs K w)) : Dn P w K mg base CX0 1 "_law_put" ["s", "reg", "word", "time"] (sp_law_put K) := by
  refine mk_dn (d := dOf "_law_put" 56) T 44 44 rfl rfl rfl rfl rfl sc_law_put (by walk_at "len") (fun _ _ _ _ _ _ us hl => match us, hl with | [_, _, _, _], _ => rfl) (fun cdv A outer s H vs Q E hr h => ⟨_, (pss_cons (ps_asg (pv 2) (pg_sub (pe_ixU (K := K) rfl (hu_of hr) (pv 0) pe_str) (pv 1) (set_U (hu_of hr))))
      (pss_one (ps_asg (pv 3) (pg_sub (pe_ixU (K := K) rfl (hu_of hr) (pv 0) pe_str) (pv 1) (set_U (hu_of hr)))))), ?_⟩)
  obtain ⟨C, e, P, vj, a, g, mc, ou, Y, q, ms, rd, d, x, tm, rfl, L, h1, h2, hQ⟩ := h
  walk_at "go"
  refine g_ixD (dg_s (L.yget 0 rfl) nd_s 0 rfl) ?_
  walk_at "go"
  refine s_held L h1 (fun H1 k1 L1 => ?_)
  walk_at "go"
  refine g_ixD (dg_s (L1.yget 0 rfl) nd_s 1 rfl) ?_
  walk_at "go"
  refine s_ready L1 h2 (fun H2 k2 L2 => ?_)
  walk_at "go"
  exact hQ H2 (k1.trans k2) L2
def sp_law_way (K : PySem.W.Frag) : Sp := fun vs H Q _ => ∃ (ra : Addr) (r : Row) (x : Nat) (t : Bool), vs = [.ref ra, .int (x : Int), .bl t] ∧ H ra = some (.tup r.v) ∧ Q (.int (aftM r x t : Nat)) H
theorem sc_law_way : FnScope ["row", "at", "taken"] ["row", "at", "taken"] (defScope (topS 59)) := ⟨rfl, rfl, rfl, by decide +kernel, rfl, by decide +kernel, by decide +kernel⟩
theorem ok_law_way (T : Txt fa fn K mg (CsOk cs K w)) : Dn P w K mg base CX0 1 "_law_way" ["row", "at", "taken"] (sp_law_way K) := by
  refine mk_dn (d := dOf "_law_way" 59) T 47 47 rfl rfl rfl rfl rfl sc_law_way (by walk_at "len") (fun _ _ _ _ _ _ us hl => match us, hl with | [_, _, _], _ => rfl) (fun cdv A outer s H vs Q E hr h => ⟨_, (pss_cons (ps_if (pt_cmpR (op_eqU (K := K) rfl hr.units) (pe_ixU (K := K) rfl (hu_of hr) (pv 0) pe_int) pe_str (nomark _)) (pss_one (ps_ret (pe_ixU (K := K) rfl (hu_of hr) (pv 0) pe_int))) pss_nil)
      (pss_cons (ps_if (PW.pt (pw_and (pt_cmpR (op_eqU (K := K) rfl hr.units) (pe_ixU (K := K) rfl (hu_of hr) (pv 0) pe_int) pe_str (nomark _)) (pw_and1 (pt_tru (K := K) rfl (pv 2))))) (pss_one (ps_ret (pe_ixU (K := K) rfl (hu_of hr) (pv 0) pe_int))) pss_nil)
      (pss_one (ps_ret (pe_op (op_addU (K := K) rfl) (pv 1) pe_int))))), ?_⟩)
  obtain ⟨ra, r, x, t, rfl, ht, hQ⟩ := h
  cases r with
  | jump y =>
    have ht : H ra = some (.tup [.str "jump", .int y]) := ht
    walk_at "go"
    exact hQ
  | branch p y =>
    have ht : H ra = some (.tup [.str "branch", .int p, .int y]) := ht
    cases t with
    | true =>
      walk_at "go"
      exact hQ
    | false =>
      walk_at "go"
      exact hQ
  | _ =>
    simp only [Row.v] at ht
    walk_at "go"
    exact hQ
def sp_law_data (K : PySem.W.Frag) : Sp := fun vs H Q _ => ∃ (C : LC) (P N : Nat) (a : LAd) (g : LG) (mc : MC) (ou : List Int) (Y : List (Addr × HO)) (sv : V) (x : Int), vs = [.ref a.m, sv, .int x] ∧ LH C 0 P mc.vi H a g mc ou Y ∧ COk C.k C.ad C.ac N mc ∧ Im H sv C.t.d ∧ SeDr C.t ∧ N ≤ 80000 ∧
  ∀ H' g', KT H H' → LH C 0 P mc.vi H' a g' (touM mc x) ou Y → Q (.int (touC C.k mc x)) H'
theorem sc_law_data : FnScope ["m", "settings", "address", "hit"] ["m", "settings", "address"] (defScope (topS 57)) := ⟨rfl, rfl, rfl, by decide +kernel, rfl, by decide +kernel, by decide +kernel⟩
theorem ok_law_data (T : Txt fa fn K mg (CsOk cs K w)) : Dn P w K mg base CX0 5 "_law_data" ["m", "settings", "address"] (sp_law_data K) := by
  refine mk_dn (d := dOf "_law_data" 57) T 45 45 rfl rfl rfl rfl rfl sc_law_data (by walk_at "len") (fun _ _ _ _ _ _ us hl => match us, hl with | [_, _, _], _ => rfl) (fun cdv A outer s H vs Q E hr h => ⟨_, (pss_cons (ps_set (i := 3) sc_law_data.nd rfl (.inl rfl) (pe_callD (K := K) rfl (ok_law_touch T) (hr.mono (by decide)) rfl pass0 (pa_cons (pe_ixU (K := K) rfl (hu_of hr) (pv 0) pe_str) (pa_cons (pe_ixU (K := K) rfl (hu_of hr) (pv 1) pe_int) (pa_cons (pv 2) pa_nil)))))
      (pss_cons (ps_expr (pe_bm PySem.F.plainAttrs_list PySem.F.slot_list_append PySem.F.type_list_append mt_append (pe_ixU (K := K) rfl (hu_of hr) (pv 0) pe_str) (pa_cons (pe_tup (pa_cons pe_str (pa_cons (pe_ixU (K := K) rfl (hu_of hr) (pv 0) pe_str) (pa_cons (pe_op o_fdiv (pv 2) (pe_ixU (K := K) rfl (hu_of hr) (pe_ixU (K := K) rfl (hu_of hr) (pv 1) pe_int) pe_int)) (pa_cons (pv 3) pa_nil))))) pa_nil)))
      (pss_one (ps_ret (pe_op op_mulU (pe_ixU (K := K) rfl (hu_of hr) (pe_ixU (K := K) rfl (hu_of hr) (pv 1) pe_int) pe_int) (pe_callTy c_int rfl (T.free 125 rfl) (by decide +kernel) (pa_cons (pe_not (pv 3)) pa_nil))))))), ?_⟩)
  obtain ⟨C, P, N, a, g, mc, ou, Y, sv, x, rfl, L, ok, is, sd, hN, hQ⟩ := h
  have l1 := ok.len
  have m0 := sd.m0
  have m1 := sd.m1
  walk_at "go"
  refine g_ixD (dg_s L.gm nd_m 0 rfl) ?_
  walk_at "go"
  refine m_ix is (n := 0) rfl rfl (fun v1 i1 => ?_)
  obtain ⟨s1, rfl, hs1⟩ := cs_tp i1
  walk_at "go"
  refine u_touD L hs1 (by omega) (fun H3 g3 k3 L3 => ?_)
  have is3 := is.kt k3
  have gt3 : H3 a.at_ = some (.lst g3.tv) := L3.M.get 3 rfl
  obtain ⟨zd1, zd2, zd3⟩ := L.zd
  walk_at "go"
  refine g_ixD (dg_s L3.gm nd_m 6 rfl) ?_
  walk_at "go"
  refine g_ixD (dg_s L3.gm nd_m 3 rfl) ?_
  walk_at "go"
  refine m_ix is3 (n := 0) rfl rfl (fun v1 i1 => ?_)
  obtain ⟨s1, rfl, hs1⟩ := cs_tp i1
  walk_at "go"
  refine m_new (.cons (.str _) (.cons (.int _) (.cons (.int _) (.cons (.bl _) .nil)))) (by simp) (fun p4 H4 s4 hp4 i4 => ?_)
  walk_at "go"
  have ev' : Ev.d (.data mc.ck (x / (mc.dc.Z : Int)) (decide (hitV mc.dc x))) = .tuple [.str "data", .int mc.ck, .int (x / (C.t.dc.Z : Int)), .bool (decide (hitV mc.dc x))] := by
    rw [zd1]
    rfl
  refine a_event (ev := .data mc.ck (x / (mc.dc.Z : Int)) (decide (hitV mc.dc x))) (L3.same s4) (by show mc.tr.length < 90000; omega) (by rw [ev']; exact i4) (fun H5 g5 k5 L5 => ?_)
  have kk := (k3.trans (KT.of s4)).trans k5
  have is5 := is.kt kk
  have hQ : Q (.int (touC C.k mc x)) H5 := hQ H5 g5 kk L5
  walk_at "go"
  refine m_ix is5 (n := 4) rfl rfl (fun v1 i1 => ?_)
  refine m_ix i1 (n := 0) rfl rfl (fun v1 i1 => ?_)
  obtain rfl := i1.int_inv
  walk_at "go"
  refine q_int ?_ hQ
  unfold touC
  by_cases c : hitV mc.dc x
  · rw [if_pos c, decide_eq_true c]
    show (0 : Int) = C.t.miss * 0
    omega
  · rw [if_neg c, decide_eq_false c]
    show C.t.miss = C.t.miss * 1
    omega


/-! ### a row's work -/
def ouL (r : Row) (ms : MS) (real : Bool) (ou : List Int) : List Int := if real then (workS r ms false).ou else ou
def sp_law_work (K : PySem.W.Frag) : Sp := fun vs H Q _ => ∃ (C : LC) (P N b many kk : Nat) (cov : Int → Prop) (a : LAd) (g : LG) (mc : MC) (ou : List Int) (Y : List (Addr × HO)) (sv : V) (q : SAd) (ms : MS) (rd : List Int) (ra : Addr) (r : Row) (real : Bool), vs = [.ref a.m, sv, .ref q.s, .ref ra, .bl real] ∧ LH C 0 P mc.vi H a g mc ou (SaL q ms rd Y) ∧ COk C.k C.ad C.ac N mc ∧ MOk b cov ms ∧ RowOkD many kk r ∧ rd.length = 16 ∧ Im H sv C.t.d ∧ SeDr C.t ∧ N ≤ 80000 ∧ b ≤ 80000 ∧ (real = true → ou = ms.ou) ∧ H ra = some (.tup r.v) ∧
  ∀ H' g', KT H H' → LH C 0 P mc.vi H' a g' (workC r ms (!real) mc) (ouL r ms real ou) (SaL q (workS r ms (!real)) (workR C.k r ms rd mc) Y) → Q .non H'
theorem sc_law_work : FnScope ["m", "settings", "s", "row", "real", "held", "now", "a", "b", "address", "late"] ["m", "settings", "s", "row", "real"] (defScope (topS 58)) := ⟨rfl, rfl, rfl, by decide +kernel, rfl, by decide +kernel, by decide +kernel⟩
theorem ok_law_work (T : Txt fa fn K mg (CsOk cs K w)) : Dn P w K mg base CX0 6 "_law_work" ["m", "settings", "s", "row", "real"] (sp_law_work K) := by
  refine mk_dn (d := dOf "_law_work" 58) T 46 46 rfl rfl rfl rfl rfl sc_law_work (by walk_at "len") (fun _ _ _ _ _ _ us hl => match us, hl with | [_, _, _, _, _], _ => rfl) (fun cdv A outer s H vs Q E hr h => ⟨_, (pss_cons (ps_set (i := 5) sc_law_work.nd rfl (.inl rfl) (pe_ixU (K := K) rfl (hu_of hr) (pv 2) pe_str))
      (pss_cons (ps_set (i := 6) sc_law_work.nd rfl (.inl rfl) (pe_ixU (K := K) rfl (hu_of hr) (pv 0) pe_str))
      (pss_cons (ps_if (pt_cmpR (op_eqU (K := K) rfl hr.units) (pe_ixU (K := K) rfl (hu_of hr) (pv 3) pe_int) pe_str (nomark _)) (pss_one (ps_expr (pe_callD (K := K) rfl (ok_law_put T) (hr.mono (by decide)) rfl pass0 (pa_cons (pv 2) (pa_cons (pe_ixU (K := K) rfl (hu_of hr) (pv 3) pe_int) (pa_cons (pe_ixU (K := K) rfl (hu_of hr) (pv 3) pe_int) (pa_cons (pe_op (op_addU (K := K) rfl) (pv 6) pe_int) pa_nil))))))) pss_nil)
      (pss_cons (ps_if (pt_cmpR (op_eqU (K := K) rfl hr.units) (pe_ixU (K := K) rfl (hu_of hr) (pv 3) pe_int) pe_str (nomark _)) (pss_cons (ps_set (i := 7) sc_law_work.nd rfl (.inl rfl) (pe_ixU (K := K) rfl (hu_of hr) (pv 5) (pe_ixU (K := K) rfl (hu_of hr) (pv 3) pe_int)))
      (pss_cons (ps_set (i := 8) sc_law_work.nd rfl (.inl rfl) (pe_ixU (K := K) rfl (hu_of hr) (pv 5) (pe_ixU (K := K) rfl (hu_of hr) (pv 3) pe_int)))
      (pss_one (ps_expr (pe_callD (K := K) rfl (ok_law_put T) (hr.mono (by decide)) rfl pass0 (pa_cons (pv 2) (pa_cons (pe_ixU (K := K) rfl (hu_of hr) (pv 3) pe_int) (pa_cons (pe_callD (K := K) rfl (ok_law_apply T) (hr.mono (by decide)) rfl pass0 (pa_cons (pe_ixU (K := K) rfl (hu_of hr) (pv 3) pe_int) (pa_cons (pv 7) (pa_cons (pv 8) pa_nil)))) (pa_cons (pe_op (op_addU (K := K) rfl) (pv 6) (pe_callD (K := K) rfl (ok_law_cost T) (hr.mono (by decide)) rfl pass0 (pa_cons (pe_ixU (K := K) rfl (hu_of hr) (pv 3) pe_int) (pa_cons (pv 7) (pa_cons (pv 8) pa_nil))))) pa_nil))))))))) pss_nil)
      (pss_cons (ps_if (pt_cmpR (op_eqU (K := K) rfl hr.units) (pe_ixU (K := K) rfl (hu_of hr) (pv 3) pe_int) pe_str (nomark _)) (pss_one (ps_expr (pe_callD (K := K) rfl (ok_law_put T) (hr.mono (by decide)) rfl pass0 (pa_cons (pv 2) (pa_cons (pe_ixU (K := K) rfl (hu_of hr) (pv 3) pe_int) (pa_cons (pe_ixU (K := K) rfl (hu_of hr) (pv 5) (pe_ixU (K := K) rfl (hu_of hr) (pv 3) (pe_op (op_addU (K := K) rfl) pe_int (pe_callTy c_int rfl (T.free 125 rfl) (by decide +kernel) (pa_cons (pe_cmpR (op_eqU (K := K) rfl hr.units) (pe_ixU (K := K) rfl (hu_of hr) (pv 5) (pe_ixU (K := K) rfl (hu_of hr) (pv 3) pe_int)) pe_int (nomark _)) pa_nil))))) (pa_cons (pe_op (op_addU (K := K) rfl) (pv 6) pe_int) pa_nil))))))) pss_nil)
      (pss_cons (ps_if (pt_cmpR (op_eqU (K := K) rfl hr.units) (pe_ixU (K := K) rfl (hu_of hr) (pv 3) pe_int) pe_str (nomark _)) (pss_cons (ps_set (i := 9) sc_law_work.nd rfl (.inl rfl) (pe_op (op_addU (K := K) rfl) (pe_ixU (K := K) rfl (hu_of hr) (pv 3) pe_int) (pe_op op_and (pe_ixU (K := K) rfl (hu_of hr) (pv 5) (pe_ixU (K := K) rfl (hu_of hr) (pv 3) pe_int)) (pe_ixU (K := K) rfl (hu_of hr) (pv 3) pe_int))))
      (pss_cons (ps_set (i := 10) sc_law_work.nd rfl (.inl rfl) (pe_callD (K := K) rfl (ok_law_data T) (hr.mono (by decide)) rfl pass0 (pa_cons (pv 0) (pa_cons (pv 1) (pa_cons (pv 9) pa_nil)))))
      (pss_one (ps_expr (pe_callD (K := K) rfl (ok_law_put T) (hr.mono (by decide)) rfl pass0 (pa_cons (pv 2) (pa_cons (pe_ixU (K := K) rfl (hu_of hr) (pv 3) pe_int) (pa_cons (pe_dget2 (hu_of hr) (pe_ixU (K := K) rfl (hu_of hr) (pv 2) pe_str) (pv 9) pe_int ⟨by rfl, by rfl, by rfl, by rfl⟩) (pa_cons (pe_op (op_addU (K := K) rfl) (pe_op (op_addU (K := K) rfl) (pv 6) pe_int) (pv 10)) pa_nil))))))))) pss_nil)
      (pss_cons (ps_if (pt_cmpR (op_eqU (K := K) rfl hr.units) (pe_ixU (K := K) rfl (hu_of hr) (pv 3) pe_int) pe_str (nomark _)) (pss_cons (ps_set (i := 9) sc_law_work.nd rfl (.inl rfl) (pe_op (op_addU (K := K) rfl) (pe_ixU (K := K) rfl (hu_of hr) (pv 3) pe_int) (pe_op op_and (pe_ixU (K := K) rfl (hu_of hr) (pv 5) (pe_ixU (K := K) rfl (hu_of hr) (pv 3) pe_int)) (pe_ixU (K := K) rfl (hu_of hr) (pv 3) pe_int))))
      (pss_cons (ps_if (pt_tru (K := K) rfl (pv 4)) (pss_one (ps_expr (pe_callD (K := K) rfl (ok_law_data T) (hr.mono (by decide)) rfl pass0 (pa_cons (pv 0) (pa_cons (pv 1) (pa_cons (pv 9) pa_nil)))))) pss_nil)
      (pss_one (ps_asg (pe_ixU (K := K) rfl (hu_of hr) (pv 5) (pe_ixU (K := K) rfl (hu_of hr) (pv 3) pe_int)) (pg_sub (pe_ixU (K := K) rfl (hu_of hr) (pv 2) pe_str) (pv 9) (set_U (hu_of hr))))))) pss_nil)
      (pss_one (ps_if (PW.pt (pw_and (pt_cmpR (op_eqU (K := K) rfl hr.units) (pe_ixU (K := K) rfl (hu_of hr) (pv 3) pe_int) pe_str (nomark _)) (pw_and1 (pt_tru (K := K) rfl (pv 4))))) (pss_cons (ps_expr (pe_bm PySem.F.plainAttrs_list PySem.F.slot_list_append PySem.F.type_list_append mt_append (pe_ixU (K := K) rfl (hu_of hr) (pv 0) pe_str) (pa_cons (pe_ixU (K := K) rfl (hu_of hr) (pv 5) (pe_ixU (K := K) rfl (hu_of hr) (pv 3) pe_int)) pa_nil)))
      (pss_one (ps_expr (pe_bm PySem.F.plainAttrs_list PySem.F.slot_list_append PySem.F.type_list_append mt_append (pe_ixU (K := K) rfl (hu_of hr) (pv 0) pe_str) (pa_cons (pe_tup (pa_cons pe_str (pa_cons (pv 6) (pa_cons (pe_ixU (K := K) rfl (hu_of hr) (pv 5) (pe_ixU (K := K) rfl (hu_of hr) (pv 3) pe_int)) pa_nil)))) pa_nil))))) pss_nil))))))))), ?_⟩)
  obtain ⟨C, P, N, b, many, kk, cov, a, g, mc, ou, Y, sv, q, ms, rd, ra, r, real, rfl, L, ok, mo, hr, hrd, is, sd, hN, hb, hou, ht, hQ⟩ := h
  have hml := mo.l
  have htr := ok.len
  have eou : ouL r ms real ou = ou ∨ ∃ x, r = .out x ∧ real = true := by
    cases real with
    | false => exact .inl rfl
    | true =>
      have e := hou rfl
      cases r with
      | out x => exact .inr ⟨x, rfl, rfl⟩
      | _ => exact .inl e.symm
  walk_at "go"
  refine g_ixD (dg_s (L.yget 0 rfl) nd_s 0 rfl) ?_
  walk_at "go"
  refine g_ixD (dg_s L.gm nd_m 3 rfl) ?_
  cases r with
  | const d n =>
    have ht : H ra = some (.tup [.str "const", .int d, .int n]) := ht
    walk_at "go"
    refine ⟨C, 0, P, mc.vi, a, g, mc, ou, Y, q, ms, rd, d, n, _, rfl, L, by rw [hml]; exact hr.1, by rw [hrd]; exact hr.1, fun H1 k1 L1 => ?_⟩
    have ht1 := k1 _ _ ht
    walk_at "go"
    refine hQ H1 g k1 ?_
    rcases eou with e | ⟨_, e, _⟩
    · rw [e]
      cases real <;> exact L1
    · cases e
  | op s d x y =>
    have ht : H ra = some (.tup [.str "op", .str s.s, .int d, .int x, .int y]) := ht
    obtain ⟨hd, hx, hy, _⟩ := hr
    have wx := mo.reg hx
    have wy := mo.reg hy
    walk_at "go"
    refine r_held L mo hx ?_
    walk_at "go"
    refine r_held L mo hy ?_
    walk_at "go"
    refine ⟨s, _, _, _, rfl, rfl, wx, wy, fun H1 s1 => ?_⟩
    have ht1 := s1 _ _ ht
    walk_at "go"
    refine ⟨s, _, _, _, rfl, rfl, wx.l, wy.l, fun H2 s2 => ?_⟩
    have s12 := s1.trans s2
    have ht2 := s12 _ _ ht
    walk_at "go"
    refine ⟨C, 0, P, mc.vi, a, g, mc, ou, Y, q, ms, rd, d, _, _, rfl, L.same s12, by rw [hml]; exact hd, by rw [hrd]; exact hd, fun H3 k3 L3 => ?_⟩
    have ht3 := k3 _ _ ht2
    walk_at "go"
    refine hQ H3 g ((KT.of s12).trans k3) ?_
    rcases eou with e | ⟨_, e, _⟩
    · rw [e]
      cases real <;> exact L3
    · cases e
  | select d c x y =>
    have ht : H ra = some (.tup [.str "select", .int d, .int c, .int x, .int y]) := ht
    obtain ⟨hd, hc, hx, hy, _⟩ := hr
    walk_at "go"
    refine r_held L mo hc ?_
    walk_at "go"
    have fin : ∀ z : Nat, (if rgV ms c = 0 then rgV ms y else rgV ms x) = rgV ms z → ∀ H', KT H H' → LH C 0 P mc.vi H' a g mc ou (SaL q (put ms d (rgV ms z)) (rd.set d (mc.ck + 1)) Y) → Q .non H' := fun z ez H' kt L' => by
      refine hQ H' g kt ?_
      have e2 : workS (.select d c x y) ms (!real) = put ms d (rgV ms z) := by
        rw [← ez]
        rfl
      rcases eou with e | ⟨_, e, _⟩
      · rw [e, e2]
        cases real <;> exact L'
      · cases e
    by_cases c0 : rgV ms c = 0
    · rw [decide_eq_true c0]
      refine g_ixT (SqT.of ht) (n := 4) rfl rfl ?_
      walk_at "go"
      refine r_held L mo hy ?_
      walk_at "go"
      refine ⟨C, 0, P, mc.vi, a, g, mc, ou, Y, q, ms, rd, d, _, _, rfl, L, by rw [hml]; exact hd, by rw [hrd]; exact hd, fun H3 k3 L3 => ?_⟩
      have ht3 := k3 _ _ ht
      walk_at "go"
      exact fin y (if_pos c0) H3 k3 L3
    · rw [decide_eq_false c0]
      refine g_ixT (SqT.of ht) (n := 3) rfl rfl ?_
      walk_at "go"
      refine r_held L mo hx ?_
      walk_at "go"
      refine ⟨C, 0, P, mc.vi, a, g, mc, ou, Y, q, ms, rd, d, _, _, rfl, L, by rw [hml]; exact hd, by rw [hrd]; exact hd, fun H3 k3 L3 => ?_⟩
      have ht3 := k3 _ _ ht
      walk_at "go"
      exact fin x (if_neg c0) H3 k3 L3
  | load d x base mask =>
    have ht : H ra = some (.tup [.str "load", .int d, .int x, .int base, .int mask]) := ht
    obtain ⟨hd, hx, _⟩ := hr
    walk_at "go"
    refine r_held L mo hx ?_
    walk_at "go"
    refine ⟨C, P, N, a, g, mc, ou, _, sv, _, rfl, L, ok, is, sd, hN, fun H1 g1 k1 L1 => ?_⟩
    have ht1 := k1 _ _ ht
    walk_at "go"
    have hw1 : H1 q.w = some (.dK ms.wd) := L1.yget 3 rfl
    refine g_ixD (dg_s (L1.yget 0 rfl) nd_s 2 rfl) ?_
    walk_at "go"
    refine ⟨valV ms.wd (.inl (base + Builtin.bitAnd (rgV ms x) mask)), DGet.k (k := .inl (base + Builtin.bitAnd (rgV ms x) mask)) (L1.yget 3 rfl), ?_⟩
    have ew : (valV ms.wd (.inl (base + Builtin.bitAnd (rgV ms x) mask))).getD (.int 0) = .int (wdV ms.wd (base + Builtin.bitAnd (rgV ms x) mask)) := by
      unfold wdV
      cases ev : valV ms.wd (.inl (base + Builtin.bitAnd (rgV ms x) mask)) with
      | none => rfl
      | some v =>
        obtain ⟨z, rfl, _⟩ := mo.w _ _ ev
        rfl
    rw [ew]
    walk_at "go"
    refine ⟨C, 0, P, mc.vi, a, g1, touM mc (base + Builtin.bitAnd (rgV ms x) mask), ou, Y, q, ms, rd, d, _, _, rfl, L1, by rw [hml]; exact hd, by rw [hrd]; exact hd, fun H3 k3 L3 => ?_⟩
    have ht3 := k3 _ _ ht1
    walk_at "go"
    refine hQ H3 g1 (k1.trans k3) ?_
    have e5 : mc.ck + (2 + touC C.k mc (adr ms x base mask)) = mc.ck + 2 + touC C.k mc (base + Builtin.bitAnd (rgV ms x) mask) := by
      show mc.ck + (2 + touC C.k mc (base + Builtin.bitAnd (rgV ms x) mask)) = _
      omega
    have e6 : workR C.k (.load d x base mask) ms rd mc = rd.set d (mc.ck + 2 + touC C.k mc (base + Builtin.bitAnd (rgV ms x) mask)) := by
      rw [← e5]
      rfl
    rcases eou with e | ⟨_, e, _⟩
    · rw [e, e6]
      cases real <;> exact L3
    · cases e
  | store x base mask y =>
    have ht : H ra = some (.tup [.str "store", .int x, .int base, .int mask, .int y]) := ht
    obtain ⟨hx, hy, _⟩ := hr
    have hn := mo.n
    walk_at "go"
    refine r_held L mo hx ?_
    cases real with
    | true =>
      walk_at "go"
      refine ⟨C, P, N, a, g, mc, ou, _, sv, _, rfl, L, ok, is, sd, hN, fun H1 g1 k1 L1 => ?_⟩
      have ht1 := k1 _ _ ht
      walk_at "go"
      refine r_held L1 mo hy ?_
      walk_at "go"
      refine g_ixD (dg_s (L1.yget 0 rfl) nd_s 2 rfl) ?_
      walk_at "go"
      refine s_word L1 (by omega) (fun H2 k2 L2 => ?_)
      have ht2 := k2 _ _ ht1
      walk_at "go"
      refine hQ H2 g1 (k1.trans k2) ?_
      rcases eou with e | ⟨_, e, _⟩
      · rw [e]
        exact L2
      · cases e
    | false =>
      walk_at "go"
      refine r_held L mo hy ?_
      walk_at "go"
      refine g_ixD (dg_s (L.yget 0 rfl) nd_s 2 rfl) ?_
      walk_at "go"
      refine s_word L (by omega) (fun H2 k2 L2 => ?_)
      have ht2 := k2 _ _ ht
      walk_at "go"
      refine hQ H2 g k2 ?_
      rcases eou with e | ⟨_, e, _⟩
      · rw [e]
        exact L2
      · cases e
  | out x =>
    have ht : H ra = some (.tup [.str "out", .int x]) := ht
    obtain ⟨hx, _⟩ := hr
    have hm := mo.m
    cases real with
    | true =>
      have eo := hou rfl
      subst eo
      have go : H a.ao = some (.lst (ms.ou.map V.int)) := L.M.get 4 rfl
      walk_at "go"
      refine g_ixD (dg_s L.gm nd_m 7 rfl) ?_
      walk_at "go"
      refine r_held L mo hx ?_
      walk_at "go"
      refine a_outs L (by omega) (fun H1 k1 L1 => ?_)
      have ht1 := k1 _ _ ht
      have gt1 : H1 a.at_ = some (.lst g.tv) := L1.M.get 3 rfl
      walk_at "go"
      refine g_ixD (dg_s L1.gm nd_m 6 rfl) ?_
      walk_at "go"
      refine r_held L1 mo hx ?_
      walk_at "go"
      refine m_new (.cons (.str _) (.cons (.int _) (.cons (.int _) .nil))) (by simp) (fun p4 H4 s4 hp4 i4 => ?_)
      walk_at "go"
      refine a_event (ev := .out mc.ck (rgV ms x)) ((L1.mono (Nat.zero_le 1) (Nat.le_refl _)).same s4) (by show mc.tr.length < 90000; omega) i4 (fun H5 g5 k5 L5 => ?_)
      walk_at "go"
      exact hQ H5 g5 ((k1.trans (KT.of s4)).trans k5) L5
    | false =>
      walk_at "go"
      exact hQ H g KT.refl L
  | jump t =>
    have ht : H ra = some (.tup [.str "jump", .int t]) := ht
    walk_at "go"
    refine hQ H g KT.refl ?_
    rcases eou with e | ⟨_, e, _⟩
    · rw [e]
      cases real <;> exact L
    · cases e
  | branch x t =>
    have ht : H ra = some (.tup [.str "branch", .int x, .int t]) := ht
    walk_at "go"
    refine hQ H g KT.refl ?_
    rcases eou with e | ⟨_, e, _⟩
    · rw [e]
      cases real <;> exact L
    · cases e
  | stop x =>
    have ht : H ra = some (.tup [.str "stop", .int x]) := ht
    walk_at "go"
    refine hQ H g KT.refl ?_
    rcases eou with e | ⟨_, e, _⟩
    · rw [e]
      cases real <;> exact L
    · cases e


/-! ### the wrong way -/
theorem pset_g {g : Gs} (ok : GsOk g) : PSet_ g.pr.k g.n g.v := by
  cases g with
  | taken => exact .taken
  | two n => exact .two n (by have := ok.1; omega) (by have := ok.2; omega)
  | hist n => exact .hist n (by have := ok.1; omega) (by have := ok.2; omega)
section
variable {C : LC} {e P vj N : Nat} {H H' : Hp} {a : LAd} {g : LG} {mc : MC} {ou : List Int} {Y Y' : List (Addr × HO)} {K : PySem.W.Frag} {Q : VK} {E : XK} {x : Nat} {s : Addr}
theorem LH.yperm (h : LH C e P vj H a g mc ou Y) (p : Y.Perm Y') : LH C e P vj H a g mc ou Y' :=
  h.re KT.refl (h.M.perm (List.Perm.append_left _ (List.Perm.append_left _ (List.Perm.append_left _ p))))
theorem u_guess (h : LH C e P vj H a g mc ou Y) (hs : H s = some (.tup C.t.g.v)) (ok : GsOk C.t.g) (hp : P ≤ 90000) (q : Q (.bl (gueV mc x)) H) : sp_law_guess K ([.ref s, .ref a.lg, .int (x : Int)] ++ []) H Q E := by
  have pn := h.pn
  have ps := pset_g ok
  rw [← h.pk] at ps
  refine ⟨s, a.lg, C.t.g.v, mc.pr.k, C.t.g.n, g.ts, g.pl, x, rfl, hs, ps, h.M.get 1 rfl, h.pt, by omega, ?_⟩
  rw [← h.pr.guess]
  exact q
end
/-- a list of the numbers that stand for the items of another one -/
theorem l_mapI {K : PySem.W.Frag} {σ : L2.St} {H : Hp} {te : TE} {k : Nat} {vs : List Nat} {b : Addr} {ns : List Int} {f : Int → Int} {Q : VK} (hb : H b = some (.lst (ns.map V.int))) (hl : ns.length ≤ 1000) (hwp : ∀ x : V, wipe ((wipe σ vs).set k (some x)) vs = wipe σ vs)
    (step : ∀ (n : Int) (H' : Hp) (R : VK), n ∈ ns → Same H H' → R (.int (f n)) H' → te ((wipe σ vs).set k (some (.int n))) H' R)
    (q : ∀ D H', Same H H' → H' D = some (.lst ((ns.map f).map V.int)) → Q (.ref D) H') : LcW (gName k) tYes te vs σ Q (Itl K b) H := by
  refine l_list (xs := ns.map V.int) (fun D i H' => H' D = some (.lst (((ns.take i).map f).map V.int)) ∧ Same H H') (fun D hD => ⟨upd_same, Same.new hD⟩) ?_ ?_ ?_
  · rintro D hD i H' hi ⟨hD', sm⟩
    exact SqL.of (sm _ _ hb)
  · rintro D hD i y H' hi ⟨hD', sm⟩
    rw [List.getElem?_map] at hi
    obtain ⟨n, hn, rfl⟩ := Option.map_eq_some_iff.mp hi
    refine g_name (g_wipe (hwp _) (g_yes (g_ifT ?_)))
    refine step n H' _ (List.mem_of_getElem? hn) sm ⟨_, hD', by
      refine szl ?_
      rw [List.length_map, List.length_map, List.length_take]
      omega, ?_, Same.mut sm hD⟩
    rw [upd_same, List.take_add_one, hn, List.map_append, List.map_append]
    rfl
  · rintro D hD H' ⟨hD', sm⟩
    refine q D H' sm ?_
    rw [List.length_map, List.take_length] at hD'
    exact hD'
theorem mx_is {rd l : List Int} {c m : Int} (h1 : m ∈ c :: l.map (rdAt rd)) (h2 : ∀ y, y ∈ c :: l.map (rdAt rd) → y ≤ m) : m = mxL rd l c := by
  obtain ⟨g1, g2⟩ := mxL_le.mp (Int.le_refl (mxL rd l c))
  refine Int.le_antisymm ?_ (mxL_le.mpr ⟨h2 c List.mem_cons_self, fun a ha => h2 _ (List.mem_cons_of_mem _ (List.mem_map_of_mem ha))⟩)
  rcases List.mem_cons.mp h1 with e | hm
  · rw [e]
    exact g1
  · obtain ⟨a, ha, rfl⟩ := List.mem_map.mp hm
    exact g2 a ha
theorem rd_at {rd : List Int} {n : Int} (h : rd.length = 16) (h0 : 0 ≤ n) (h1 : n < 16) : n = (n.toNat : Int) ∧ (rd.map V.int)[n.toNat]? = some (.int (rdAt rd n)) := by
  refine ⟨by omega, ?_⟩
  rw [List.getElem?_map, List.getElem?_eq_getElem (by omega)]
  unfold rdAt
  rw [List.getD_eq_getElem?_getD, List.getElem?_eq_getElem (by omega)]
  rfl
theorem rds_l {r : Row} : r.rds.length ≤ 3 := by
  cases r <;> simp only [Row.rds, List.length_cons, List.length_nil] <;> decide
theorem work_vi {r : Row} {ms : MS} {g : Bool} {mc : MC} : (workC r ms g mc).vi = mc.vi := by
  cases r <;> first | rfl | (cases g <;> rfl)
theorem MOk.mono' {b b' : Nat} {cov : Int → Prop} {ms : MS} (h : MOk b cov ms) (hb : b ≤ b') : MOk b' cov ms := ⟨h.l, h.r, h.w, h.o, h.c, Nat.le_trans h.n hb, Nat.le_trans h.m hb⟩
theorem gue_pr {mc : MC} {x : Nat} {c : Int} : gueV { gueM mc x with ck := c } x = gueV mc x := rfl
def sp_law_wrong (K : PySem.W.Frag) : Sp := fun vs H Q _ => ∃ (C : LC) (P N b : Nat) (cov : Int → Prop) (a : LAd) (g : LG) (mc : MC) (ou : List Int) (Y : List (Addr × HO)) (sv code : V) (rgs : List Rg) (q : SAd) (ms : MS) (rd : List Int) (x : Nat) (en : Int), vs = [.ref a.m, sv, .ref q.s, code, .int (x : Int), .int en] ∧ LH C 0 P mc.vi H a g mc ou (SaL q ms rd Y) ∧ COk C.k C.ad C.ac N mc ∧ MOk b cov ms ∧ rd.length = 16 ∧ Im H code (codeD rgs C.rows) ∧ CodeOk C.rows ∧ Im H sv C.t.d ∧ SeDr C.t ∧ N + 200 ≤ 80000 ∧ b + 100 ≤ 80000 ∧ P ≤ 90000 ∧ x < C.rows.length ∧
  ∀ H' g', KT H H' → LH C 0 P (wrongM C.k en C.t.dep.toNat x ms rd mc).vi H' a g' (wrongM C.k en C.t.dep.toNat x ms rd mc) ou Y → Q .non H'
theorem sc_law_wrong : FnScope ["m", "settings", "s", "code", "at", "end", "done", "row", "taken", "k"] ["m", "settings", "s", "code", "at", "end"] (defScope (topS 60)) := ⟨rfl, rfl, rfl, by decide +kernel, rfl, by decide +kernel, by decide +kernel⟩
theorem ok_law_wrong (T : Txt fa fn K mg (CsOk cs K w)) : Dn P w K mg base CX0 7 "_law_wrong" ["m", "settings", "s", "code", "at", "end"] (sp_law_wrong K) := by
  refine mk_dn (d := dOf "_law_wrong" 60) T 48 48 rfl rfl rfl rfl rfl sc_law_wrong (by walk_at "len") (fun _ _ _ _ _ _ us hl => match us, hl with | [_, _, _, _, _, _], _ => rfl) (fun cdv A outer s H vs Q E hr h => ⟨_, (pss_one (ps_for PassesOwn.never rfl (pi_r1 rfl (T.free 131 rfl) (pa_cons (pe_ixU (K := K) rfl (hu_of hr) (pv 1) pe_int) pa_nil)) (pg_name (i := 6) sc_law_wrong.nd rfl (.inl rfl)) (pss_cons (ps_if (pt_cmpR o_ge (pe_ixU (K := K) rfl (hu_of hr) (pv 0) pe_str) (pv 5) (nomark _)) (pss_one ps_retN) pss_nil)
      (pss_cons (ps_set (i := 7) sc_law_wrong.nd rfl (.inl rfl) (pe_ixU (K := K) rfl (hu_of hr) (pe_ixU (K := K) rfl (hu_of hr) (pv 3) pe_int) (pv 4)))
      (pss_cons (ps_expr (pe_callD (K := K) rfl (ok_law_fetched T) (hr.mono (by decide)) rfl pass0 (pa_cons (pv 0) (pa_cons (pv 1) (pa_cons (pv 4) pa_nil)))))
      (pss_cons (ps_dput (hu_of hr) (pv 0) pe_str (pe_callB (c_max1 (K := K) rfl rfl) rfl (T.free 129 rfl) (by decide +kernel) (pa_cons (pe_op (op_addU (K := K) rfl) (pe_lst (pa_cons (pe_ixU (K := K) rfl (hu_of hr) (pv 0) pe_str) pa_nil)) (pe_lc rfl sc_law_wrong.nd (pi_seq (K := K) rfl (pe_callD (K := K) rfl (ok_law_read T) (hr.mono (by decide)) rfl pass0 (pa_cons (pv 7) pa_nil))) (blkOk_by (own := [("k", 9)]) (N := ["m", "settings", "s", "code", "at", "end", "done", "row", "taken", "k"]) (sc := defScope (topS 60)) (by decide +kernel)) (fun _ _ _ _ _ => (pg_name (i := 9) sc_law_wrong.nd rfl (.inl rfl))) (fun _ _ _ _ _ => pts_nil) (fun _ _ _ _ _ => (pe_ixU (K := K) rfl (hu_of hr) (pe_ixU (K := K) rfl (hu_of hr) (pv 2) pe_str) (pv 9))))) pa_nil)) rfl)
      (pss_cons (ps_if (PW.pt (pw_or (pt_cmpR o_ge (pe_ixU (K := K) rfl (hu_of hr) (pv 0) pe_str) (pv 5) (nomark _)) (pw_or1 (pt_cmpR (op_eqU (K := K) rfl hr.units) (pe_ixU (K := K) rfl (hu_of hr) (pv 7) pe_int) pe_str (nomark _))))) (pss_one ps_retN) pss_nil)
      (pss_cons (ps_set (i := 8) sc_law_wrong.nd rfl (.inl rfl) pe_bl)
      (pss_cons (ps_join (ps_if (pt_cmpR (op_eqU (K := K) rfl hr.units) (pe_ixU (K := K) rfl (hu_of hr) (pv 7) pe_int) pe_str (nomark _)) (pss_cons (ps_set (i := 8) sc_law_wrong.nd rfl (.inl rfl) (pe_callD (K := K) rfl (ok_law_guess T) (hr.mono (by decide)) rfl pass0 (pa_cons (pe_ixU (K := K) rfl (hu_of hr) (pv 1) pe_int) (pa_cons (pe_ixU (K := K) rfl (hu_of hr) (pv 0) pe_str) (pa_cons (pv 4) pa_nil)))))
      (pss_one (ps_expr (pe_bm PySem.F.plainAttrs_list PySem.F.slot_list_append PySem.F.type_list_append mt_append (pe_ixU (K := K) rfl (hu_of hr) (pv 0) pe_str) (pa_cons (pe_tup (pa_cons pe_str (pa_cons (pe_ixU (K := K) rfl (hu_of hr) (pv 0) pe_str) (pa_cons (pv 4) (pa_cons (pv 8) pa_nil))))) pa_nil))))) pss_nil))
      (pss_cons (ps_expr (pe_callD (K := K) rfl (ok_law_work T) (hr.mono (by decide)) rfl pass0 (pa_cons (pv 0) (pa_cons (pv 1) (pa_cons (pv 2) (pa_cons (pv 7) (pa_cons pe_bl pa_nil)))))))
      (pss_cons (ps_set (i := 4) sc_law_wrong.nd rfl (.inl rfl) (pe_callD (K := K) rfl (ok_law_way T) (hr.mono (by decide)) rfl pass0 (pa_cons (pv 7) (pa_cons (pv 4) (pa_cons (pv 8) pa_nil)))))
      (pss_one (ps_dput (hu_of hr) (pv 0) pe_str (pe_op (op_addU (K := K) rfl) (pe_ixU (K := K) rfl (hu_of hr) (pv 0) pe_str) pe_int) rfl))))))))))))), ?_⟩)
  obtain ⟨C, P, N, b, cov, a, g, mc, ou, Y, sv, code, rgs, q, ms, rd, x, en, rfl, L, ok, mo, hrd, ic, co, is, sd, hN, hb, hP, hx, hQ⟩ := h
  have d0 := sd.d0
  have d1 := sd.d1
  walk_at "go"
  refine m_ix is (n := 3) rfl rfl (fun v1 i1 => ?_)
  obtain rfl := i1.int_inv
  walk_at "go"
  refine f_range (fun i σ H' => ∃ (x' : Nat) (ms' : MS) (rd' : List Int) (mc' : MC) (g' : LG) (o6 o7 o8 o9 : Option V), σ = [some (.ref a.m), some sv, some (.ref q.s), some code, some (.int (x' : Int)), some (.int en), o6, o7, o8, o9] ∧ KT H H' ∧ LH C 0 P mc'.vi H' a g' mc' ou (SaL q ms' rd' Y) ∧ COk C.k C.ad C.ac (N + 2 * i) mc' ∧ MOk (b + i) cov ms' ∧ rd'.length = 16 ∧ x' < C.rows.length ∧ i ≤ C.t.dep.toNat ∧
    wrongM C.k en (C.t.dep.toNat - i) x' ms' rd' mc' = wrongM C.k en C.t.dep.toNat x ms rd mc)
    ⟨x, ms, rd, mc, g, _, _, _, _, rfl, KT.refl, L, ok, mo, hrd, hx, Nat.zero_le _, rfl⟩ ?_ ?_
  · rintro i σ H1 hi ⟨x', ms', rd', mc', g1, o6, o7, o8, o9, rfl, k1, L1, ok1, mo1, hrd1, hx1, hi1, hrun⟩
    obtain ⟨n, hn⟩ : ∃ n, C.t.dep.toNat - i = n + 1 := ⟨C.t.dep.toNat - i - 1, by omega⟩
    rw [hn] at hrun
    walk_at "go"
    refine g_ixD (dg_s L1.gm nd_m 3 rfl) ?_
    walk_at "go"
    refine g_if (fun h2 => ?_) (fun h2 => ?_)
    · rw [wrongM_end (by omega)] at hrun
      walk_at "go"
      rw [← hrun] at hQ
      exact hQ H1 g1 k1 (L1.ysub (by
        show Y.Sublist (_ :: _ :: _ :: _ :: Y)
        exact ((((List.Sublist.refl Y).cons _).cons _).cons _).cons _))
    have hra : C.k.rows[x']? = some (C.rows[x']'hx1) := List.getElem?_eq_getElem hx1
    have hra2 : C.rows[x']? = some (C.rows[x']'hx1) := List.getElem?_eq_getElem hx1
    generalize C.rows[x']'hx1 = r at hra hra2
    have hr := co.r x' r hra2
    rw [wrongM_succ hra (by omega)] at hrun
    walk_at "go"
    refine m_ix (ic.kt k1) (n := 1) rfl rfl (fun v2 i2 => ?_)
    walk_at "go"
    refine m_ix i2 (n := x') rfl (by rw [List.getElem?_map, hra2]; rfl) (fun v3 i3 => ?_)
    obtain ⟨ra, rfl, ht⟩ := row_tup i3
    walk_at "go"
    refine ⟨C, P, N + 2 * i, a, g1, mc', ou, _, sv, x', rfl, L1, ok1, is.kt k1, sd, by omega, fun H2 g2 k2 L2 => ?_⟩
    have ht2 := k2 _ _ ht
    have ok2 := ok1.fetch (a := x')
    have kk2 := k1.trans k2
    walk_at "go"
    refine g_ixD (dg_s L2.gm nd_m 3 rfl) ?_
    walk_at "go"
    refine ⟨by show 1 ≤ sizeLine; decide, fun l1 hl1 => ?_⟩
    have t1 := Same.new (o := .lst [V.int (fetchM C.k mc' x').ck]) hl1
    have hl1' : upd H2 l1 (.lst [V.int (fetchM C.k mc' x').ck]) l1 = some (.lst [V.int (fetchM C.k mc' x').ck]) := upd_same
    generalize upd H2 l1 (.lst [V.int (fetchM C.k mc' x').ck]) = H3 at t1 hl1'
    have ht3 := t1 _ _ ht2
    walk_at "go"
    refine ⟨ra, r, rfl, ht3, fun H4 D4 s4 hD4 => ?_⟩
    walk_at "go"
    have rl : r.rds.length ≤ 3 := rds_l
    refine l_mapI (f := rdAt rd') hD4 (by omega) (fun _ => rfl) (fun n H5 R hn s5 hR => ?_) (fun D5 H5 s5 hD5 => ?_)
    · have L5 := L2.same ((t1.trans s4).trans s5)
      obtain ⟨b0, b1⟩ := rds_b hr n hn
      obtain ⟨e1, e2⟩ := rd_at hrd1 b0 b1
      walk_at "go"
      refine g_ixD (dg_s (L5.yget 0 rfl) nd_s 1 rfl) ?_
      walk_at "go"
      refine g_ixL (SqL.of (L5.yget 2 rfl)) (n := n.toNat) e1 e2 ?_
      exact hR
    refine g_catL (s5 _ _ (s4 _ _ hl1')) hD5 (by simp only [List.length_cons, List.length_nil, List.length_map]; omega) (fun l6 hl6 => ?_)
    have s6 := ((t1.trans s4).trans s5).trans (Same.new (o := .lst ([V.int (fetchM C.k mc' x').ck] ++ (r.rds.map (rdAt rd')).map V.int)) hl6)
    have hl6' : upd H5 l6 (.lst ([V.int (fetchM C.k mc' x').ck] ++ (r.rds.map (rdAt rd')).map V.int)) l6 = some (.lst (((fetchM C.k mc' x').ck :: r.rds.map (rdAt rd')).map V.int)) := upd_same
    generalize upd H5 l6 (.lst ([V.int (fetchM C.k mc' x').ck] ++ (r.rds.map (rdAt rd')).map V.int)) = H6 at s6 hl6'
    walk_at "go"
    refine g_max1 (SqL.of hl6') (by simp) (fun m hm1 hm2 => ?_)
    obtain rfl := mx_is hm1 hm2
    walk_at "go"
    refine s_clock (L2.same s6) (fun H7 k7 L7 => ?_)
    have L7 : LH C 0 P (waitM r rd' (fetchM C.k mc' x')).vi H7 a g2 (waitM r rd' (fetchM C.k mc' x')) ou (SaL q ms' rd' Y) := L7
    have ht7 := k7 _ _ (s6 _ _ ht2)
    have ok3 := ok2.wait (r := r) (rd := rd')
    have kk7 := (kk2.trans (KT.of s6)).trans k7
    generalize waitM r rd' (fetchM C.k mc' x') = mm at L7 ok3 hrun
    walk_at "go"
    refine g_ixD (dg_s L7.gm nd_m 3 rfl) ?_
    walk_at "go"
    refine g_if (fun h3 => ?_) (fun h3 => ?_)
    · rw [if_pos (.inl h3)] at hrun
      walk_at "go"
      rw [← hrun] at hQ
      exact hQ H7 g2 kk7 (L7.ysub (by
        show Y.Sublist (_ :: _ :: _ :: _ :: Y)
        exact ((((List.Sublist.refl Y).cons _).cons _).cons _).cons _))
    walk_at "go"
    refine g_ixT (SqT.of ht7) (n := 0) rfl row0 ?_
    walk_at "go"
    refine g_if (fun h4 => ?_) (fun h4 => ?_)
    · rw [if_pos (.inr (st_nm.mp h4))] at hrun
      walk_at "go"
      rw [← hrun] at hQ
      exact hQ H7 g2 kk7 (L7.ysub (by
        show Y.Sublist (_ :: _ :: _ :: _ :: Y)
        exact ((((List.Sublist.refl Y).cons _).cons _).cons _).cons _))
    have hs : isStop r = false := by
      cases e : isStop r with
      | false => rfl
      | true => exact absurd (st_nm.mpr e) h4
    rw [if_neg (by rw [hs]; rintro (z | z); exact h3 z; cases z)] at hrun
    walk_at "go"
    refine ⟨fun σ' H' => ∃ (mcJ : MC) (gJ : LG) (t : Bool) (o9 : Option V), σ' = [some (.ref a.m), some sv, some (.ref q.s), some code, some (.int (x' : Int)), some (.int en), some (.int (0 + (i : Int))), some (.ref ra), some (.bl t), o9] ∧ KT H7 H' ∧ LH C 0 P mcJ.vi H' a gJ mcJ ou (SaL q ms' rd' Y) ∧ ((isBr r = true ∧ mcJ = gueM mm x' ∧ t = gueV mm x') ∨ (isBr r = false ∧ mcJ = mm ∧ t = false)), ?_, ?_⟩
    · walk_at "go"
      refine g_ixT (SqT.of ht7) (n := 0) rfl row0 ?_
      walk_at "go"
      refine g_if (fun h5 => ?_) (fun h5 => ?_)
      · have hbr := br_nm.mp h5
        have gt7 : H7 a.at_ = some (.lst g2.tv) := L7.M.get 3 rfl
        have l3 := ok3.len
        walk_at "go"
        refine m_ix (is.kt kk7) (n := 2) rfl rfl (fun v4 i4 => ?_)
        obtain ⟨s4', rfl, hs4⟩ := gs_tp i4
        walk_at "go"
        refine g_ixD (dg_s L7.gm nd_m 2 rfl) ?_
        walk_at "go"
        refine u_guess L7 hs4 sd.g hP ?_
        walk_at "go"
        refine g_ixD (dg_s L7.gm nd_m 6 rfl) ?_
        walk_at "go"
        refine g_ixD (dg_s L7.gm nd_m 3 rfl) ?_
        walk_at "go"
        refine m_new (.cons (.str _) (.cons (.int _) (.cons (.int _) (.cons (.bl _) .nil)))) (by simp) (fun p8 H8 s8 hp8 i8 => ?_)
        walk_at "go"
        refine a_event (ev := .guess mm.ck x' (gueV mm x')) ((L7.mono (Nat.zero_le 1) (Nat.le_refl _)).same s8) (by show mm.tr.length < 90000; omega) i8 (fun H9 g9 k9 L9 => ?_)
        walk_at "go"
        exact ⟨gueM mm x', g9, gueV mm x', _, rfl, (KT.of s8).trans k9, L9, .inl ⟨hbr, rfl, rfl⟩⟩
      · have hbr : isBr r = false := by
          cases e : isBr r with
          | false => rfl
          | true => exact absurd (br_nm.mpr e) h5
        walk_at "go"
        exact ⟨mm, g2, false, _, rfl, KT.refl, L7, .inr ⟨hbr, rfl, rfl⟩⟩
    · rintro σ' H8 ⟨mcJ, gJ, t, o9, rfl, k8, L8, hJ⟩
      have ht8 := k8 _ _ ht7
      have kk8 := kk7.trans k8
      have okJ : COk C.k C.ad C.ac (N + 2 * i + 2) mcJ := by
        rcases hJ with ⟨_, rfl, _⟩ | ⟨_, rfl, _⟩
        · exact ok3.gue.mono (by omega)
        · exact ok3.mono (by omega)
      walk_at "go"
      refine ⟨C, P, N + 2 * i + 2, b + i, C.rows.length, x', cov, a, gJ, mcJ, ou, Y, sv, q, ms', rd', ra, r, false, rfl, L8, okJ, mo1, hr, hrd1, is.kt kk8, sd, by omega, by omega, (fun z => nomatch z), ht8, fun H9 g9 k9 L9 => ?_⟩
      have ht9 := k9 _ _ ht8
      walk_at "go"
      refine ⟨ra, r, x', t, rfl, ht9, ?_⟩
      walk_at "go"
      refine g_ixD (dg_s L9.gm nd_m 3 rfl) ?_
      walk_at "go"
      refine s_clock L9 (fun H10 k10 L10 => ?_)
      walk_at "go"
      have kk10 := (kk8.trans k9).trans k10
      have hax := aft_lt (t := t) hr hs
      rcases hJ with ⟨hbr, rfl, rfl⟩ | ⟨hbr, rfl, rfl⟩
      · rw [if_pos hbr] at hrun
        obtain ⟨p, y, rfl⟩ := br_inv hbr
        exact ⟨aftM (.branch p y) x' (gueV mm x'), ms', rd', { gueM mm x' with ck := mm.ck + 1 }, g9, _, _, _, _, rfl, kk10, L10, (ok3.gue.ck).mono (by omega), mo1.mono' (by omega), hrd1, hax, by omega, by rw [show C.t.dep.toNat - (i + 1) = n by omega]; exact hrun⟩
      · rw [if_neg (by rw [hbr]; exact Bool.false_ne_true)] at hrun
        have L10 : LH C 0 P mcJ.vi H10 a g9 { workC r ms' true mcJ with ck := (workC r ms' true mcJ).ck + 1 } ou (SaL q (workS r ms' true) (workR C.k r ms' rd' mcJ) Y) := L10
        rw [work_ck] at L10
        have evi : (workC r ms' true mcJ).vi = mcJ.vi := work_vi
        exact ⟨aftM r x' false, workS r ms' true, workR C.k r ms' rd' mcJ, { workC r ms' true mcJ with ck := mcJ.ck + 1 }, g9, _, _, _, _, rfl, kk10, by rw [← evi] at L10; exact L10, (ok3.work.ck).mono (by omega), (work_ok mo1 hr).mono' (by omega), workR_len hrd1, hax, by omega, by rw [show C.t.dep.toNat - (i + 1) = n by omega]; exact hrun⟩
  · rintro σ H1 ⟨x', ms', rd', mc', g1, o6, o7, o8, o9, rfl, k1, L1, ok1, mo1, hrd1, hx1, hi1, hrun⟩
    walk_at "go"
    rw [Nat.sub_self] at hrun
    have hrun : mc' = wrongM C.k en C.t.dep.toNat x ms rd mc := hrun
    rw [← hrun] at hQ
    exact hQ H1 g1 k1 (L1.ysub (by
      show Y.Sublist (_ :: _ :: _ :: _ :: Y)
      exact ((((List.Sublist.refl Y).cons _).cons _).cons _).cons _))


/-! ### branches, the run -/
def sp_law_branched (K : PySem.W.Frag) : Sp := fun vs H Q _ => ∃ (C : LC) (P N b : Nat) (cov : Int → Prop) (a : LAd) (g : LG) (mc : MC) (ou : List Int) (Y : List (Addr × HO)) (sv code : V) (rgs : List Rg) (q : SAd) (ms : MS) (rd : List Int) (x p t : Nat), vs = [.ref a.m, sv, .ref q.s, code, .int (x : Int)] ∧ LH C 0 P mc.vi H a g mc ou (SaL q ms rd Y) ∧ COk C.k C.ad C.ac N mc ∧ MOk b cov ms ∧ rd.length = 16 ∧ Im H code (codeD rgs C.rows) ∧ CodeOk C.rows ∧ Im H sv C.t.d ∧ SeDr C.t ∧ N + 300 ≤ 80000 ∧ b + 100 ≤ 80000 ∧ P < 90000 ∧ C.rows[x]? = some (.branch p t) ∧
  ∀ H' g', KT H H' → LH C 0 (P + 1) (brM C.k (.branch p t) x p ms rd mc).vi H' a g' (brM C.k (.branch p t) x p ms rd mc) ou (SaL q ms rd Y) → Q (.bl (decide (¬ rgV ms p = 0))) H'
theorem sc_law_branched : FnScope ["m", "settings", "s", "code", "at", "row", "now", "guessed", "taken", "end", "copied"] ["m", "settings", "s", "code", "at"] (defScope (topS 61)) := ⟨rfl, rfl, rfl, by decide +kernel, rfl, by decide +kernel, by decide +kernel⟩
theorem ok_law_branched (T : Txt fa fn K mg (CsOk cs K w)) : Dn P w K mg base CX0 8 "_law_branched" ["m", "settings", "s", "code", "at"] (sp_law_branched K) := by
  refine mk_dn (d := dOf "_law_branched" 61) T 49 49 rfl rfl rfl rfl rfl sc_law_branched (by walk_at "len") (fun _ _ _ _ _ _ us hl => match us, hl with | [_, _, _, _, _], _ => rfl) (fun cdv A outer s H vs Q E hr h => ⟨_, (pss_cons (ps_set (i := 5) sc_law_branched.nd rfl (.inl rfl) (pe_ixU (K := K) rfl (hu_of hr) (pe_ixU (K := K) rfl (hu_of hr) (pv 3) pe_int) (pv 4)))
      (pss_cons (ps_set (i := 6) sc_law_branched.nd rfl (.inl rfl) (pe_ixU (K := K) rfl (hu_of hr) (pv 0) pe_str))
      (pss_cons (ps_set (i := 7) sc_law_branched.nd rfl (.inl rfl) (pe_callD (K := K) rfl (ok_law_guess T) (hr.mono (by decide)) rfl pass0 (pa_cons (pe_ixU (K := K) rfl (hu_of hr) (pv 1) pe_int) (pa_cons (pe_ixU (K := K) rfl (hu_of hr) (pv 0) pe_str) (pa_cons (pv 4) pa_nil)))))
      (pss_cons (ps_expr (pe_bm PySem.F.plainAttrs_list PySem.F.slot_list_append PySem.F.type_list_append mt_append (pe_ixU (K := K) rfl (hu_of hr) (pv 0) pe_str) (pa_cons (pe_tup (pa_cons pe_str (pa_cons (pv 6) (pa_cons (pv 4) (pa_cons (pv 7) pa_nil))))) pa_nil)))
      (pss_cons (ps_set (i := 8) sc_law_branched.nd rfl (.inl rfl) (pe_cmpR (op_neU (K := K) rfl hr.units) (pe_ixU (K := K) rfl (hu_of hr) (pe_ixU (K := K) rfl (hu_of hr) (pv 2) pe_str) (pe_ixU (K := K) rfl (hu_of hr) (pv 5) pe_int)) pe_int (nomark _)))
      (pss_cons (ps_dput (hu_of hr) (pv 0) pe_str (pe_op (op_addU (K := K) rfl) (pv 6) pe_int) rfl)
      (pss_cons (ps_join (ps_if (pt_cmpR (op_neU (K := K) rfl hr.units) (pv 7) (pv 8) (nomark _)) (pss_cons (ps_set (i := 9) sc_law_branched.nd rfl (.inl rfl) (pe_op (op_addU (K := K) rfl) (pe_callB (c_max2 rfl) rfl (T.free 129 rfl) (by decide +kernel) (pa_cons (pv 6) (pa_cons (pe_ixU (K := K) rfl (hu_of hr) (pe_ixU (K := K) rfl (hu_of hr) (pv 2) pe_str) (pe_ixU (K := K) rfl (hu_of hr) (pv 5) pe_int)) pa_nil))) (pe_ixU (K := K) rfl (hu_of hr) (pe_ixU (K := K) rfl (hu_of hr) (pv 1) pe_int) pe_int)))
      (pss_cons (ps_set (i := 10) sc_law_branched.nd rfl (.inl rfl) (pe_disp (pps_cons pe_str (pe_callTy (c_list (K := K) rfl) rfl (T.free 128 rfl) (by decide +kernel) (pa_cons (pe_ixU (K := K) rfl (hu_of hr) (pv 2) pe_str) pa_nil)) (pps_cons pe_str (pe_callTy (c_list (K := K) rfl) rfl (T.free 128 rfl) (by decide +kernel) (pa_cons (pe_ixU (K := K) rfl (hu_of hr) (pv 2) pe_str) pa_nil)) (pps_cons pe_str (pe_callTy call_dictD rfl (T.free 124 rfl) (by decide +kernel) (pa_cons (pe_ixU (K := K) rfl (hu_of hr) (pv 2) pe_str) pa_nil)) pps_nil))) (by rfl) (by rfl) (fun z => by cases z) (by decide)))
      (pss_cons (ps_expr (pe_callD (K := K) rfl (ok_law_wrong T) (hr.mono (by decide)) rfl pass0 (pa_cons (pv 0) (pa_cons (pv 1) (pa_cons (pv 10) (pa_cons (pv 3) (pa_cons (pe_callD (K := K) rfl (ok_law_way T) (hr.mono (by decide)) rfl pass0 (pa_cons (pv 5) (pa_cons (pv 4) (pa_cons (pv 7) pa_nil)))) (pa_cons (pv 9) pa_nil))))))))
      (pss_cons (ps_dput (hu_of hr) (pv 0) pe_str (pv 9) rfl)
      (pss_one (ps_expr (pe_bm PySem.F.plainAttrs_list PySem.F.slot_list_append PySem.F.type_list_append mt_append (pe_ixU (K := K) rfl (hu_of hr) (pv 0) pe_str) (pa_cons (pe_tup (pa_cons pe_str (pa_cons (pv 9) (pa_cons (pv 4) pa_nil)))) pa_nil)))))))) pss_nil))
      (pss_cons (ps_expr (pe_bm PySem.F.plainAttrs_list PySem.F.slot_list_append PySem.F.type_list_append mt_append (pe_ixU (K := K) rfl (hu_of hr) (pv 0) pe_str) (pa_cons (pe_tup (pa_cons (pv 4) (pa_cons (pv 8) pa_nil))) pa_nil)))
      (pss_one (ps_ret (pv 8))))))))))), ?_⟩)
  obtain ⟨C, P, N, b, cov, a, g, mc, ou, Y, sv, code, rgs, q, ms, rd, x, p, t, rfl, L, ok, mo, hrd, ic, co, is, sd, hN, hb, hP, hra, hQ⟩ := h
  have hr := co.r x _ hra
  have hp : p < 16 := hr.1
  have hlen := ok.len
  walk_at "go"
  refine m_ix ic (n := 1) rfl rfl (fun v2 i2 => ?_)
  walk_at "go"
  refine m_ix i2 (n := x) rfl (by rw [List.getElem?_map, hra]; rfl) (fun v3 i3 => ?_)
  obtain ⟨ra, rfl, ht⟩ := row_tup i3
  have ht : H ra = some (.tup [.str "branch", .int p, .int t]) := ht
  walk_at "go"
  refine g_ixD (dg_s L.gm nd_m 3 rfl) ?_
  walk_at "go"
  refine m_ix is (n := 2) rfl rfl (fun v4 i4 => ?_)
  obtain ⟨s4', rfl, hs4⟩ := gs_tp i4
  walk_at "go"
  refine g_ixD (dg_s L.gm nd_m 2 rfl) ?_
  walk_at "go"
  refine u_guess L hs4 sd.g (by omega) ?_
  have gt : H a.at_ = some (.lst g.tv) := L.M.get 3 rfl
  walk_at "go"
  refine g_ixD (dg_s L.gm nd_m 6 rfl) ?_
  walk_at "go"
  refine m_new (.cons (.str _) (.cons (.int _) (.cons (.int _) (.cons (.bl _) .nil)))) (by simp) (fun p8 H8 s8 hp8 i8 => ?_)
  walk_at "go"
  refine a_event (ev := .guess mc.ck x (gueV mc x)) ((L.mono (Nat.zero_le 1) (Nat.le_refl _)).same s8) (by show mc.tr.length < 90000; omega) i8 (fun H9 g9 k9 L9 => ?_)
  have kk9 := (KT.of s8).trans k9
  have ht9 := kk9 _ _ ht
  walk_at "go"
  refine g_ixD (dg_s (L9.yget 0 rfl) nd_s 0 rfl) ?_
  walk_at "go"
  refine r_held L9 mo hp ?_
  walk_at "go"
  refine s_clock L9 (fun H10 k10 L10 => ?_)
  have kk10 := kk9.trans k10
  have ht10 := k10 _ _ ht9
  have L10 : LH C 0 P mc.vi H10 a g9 { gueM mc x with ck := mc.ck + 1 } ou (SaL q ms rd Y) := L10
  have ok10 : COk C.k C.ad C.ac (N + 1) { gueM mc x with ck := mc.ck + 1 } := ok.gue.ck
  have etk : (!decide (rgV ms p = 0)) = decide (¬ rgV ms p = 0) := by simp
  walk_at "go"
  rw [etk]
  have ic10 := ic.kt kk10
  have is10 := is.kt kk10
  refine ⟨fun σ' H' => ∃ (m3 : MC) (gJ : LG) (o9 o10 : Option V), σ' = [some (.ref a.m), some sv, some (.ref q.s), some code, some (.int (x : Int)), some (.ref ra), some (.int mc.ck), some (.bl (gueV mc x)), some (.bl (decide (¬ rgV ms p = 0))), o9, o10] ∧ KT H10 H' ∧ LH C 0 P m3.vi H' a gJ m3 ou (SaL q ms rd Y) ∧ lrnM m3 x (decide (¬ rgV ms p = 0)) = brM C.k (.branch p t) x p ms rd mc, ?_, ?_⟩
  · walk_at "go"
    refine g_ifN (fun hne => ?_) (fun he => ?_)
    · skip
      have e : brM C.k (.branch p t) x p ms rd mc = lrnM (let m := wrongM C.k (mx mc.ck (rdAt rd p) + C.t.wrong) C.t.dep.toNat (aftM (.branch p t) x (gueV mc x)) ms rd { gueM mc x with ck := mc.ck + 1 }; { m with ck := mx mc.ck (rdAt rd p) + C.t.wrong, tr := m.tr ++ [.back (mx mc.ck (rdAt rd p) + C.t.wrong) x] }) x (decide (¬ rgV ms p = 0)) := by
        unfold brM
        show lrnM (if gueV mc x = decide (¬ rgV ms p = 0) then _ else _) _ _ = _
        rw [if_neg hne]
        rfl
      obtain ⟨e1, e2⟩ := rd_at (n := (p : Int)) hrd (by omega) (by omega)
      rw [Int.toNat_natCast] at e2
      walk_at "go"
      refine g_ixD (dg_s (L10.yget 0 rfl) nd_s 1 rfl) ?_
      walk_at "go"
      refine g_ixL (SqL.of (L10.yget 2 rfl)) (n := p) rfl e2 ?_
      walk_at "go"
      refine m_ix is10 (n := 4) rfl rfl (fun v5 i5 => ?_)
      walk_at "go"
      refine m_ix i5 (n := 1) rfl rfl (fun v6 i6 => ?_)
      obtain rfl := i6.int_inv
      walk_at "go"
      intro c0 hc0
      have L11 := L10.ynew (o := .dK []) hc0
      have t11 := Same.new (o := .dK []) hc0
      generalize upd H10 c0 (.dK []) = H11 at L11 t11
      walk_at "go"
      refine g_ixD (dg_s (L11.yget 0 rfl) nd_s 0 rfl) ?_
      walk_at "go"
      refine ⟨q.h, _, rfl, .inl (SqL.of (L11.yget 1 rfl)), fun c1 hc1 => ?_⟩
      have L12 := L11.ynew (o := .lst (ms.rg.map V.int)) hc1
      have t12 := t11.trans (Same.new (o := .lst (ms.rg.map V.int)) hc1)
      generalize upd H11 c1 (.lst (ms.rg.map V.int)) = H12 at L12 t12
      walk_at "go"
      refine g_ixD (dg_s (L12.yget 0 rfl) nd_s 1 rfl) ?_
      walk_at "go"
      refine ⟨q.r, _, rfl, .inl (SqL.of (L12.yget 2 rfl)), fun c2 hc2 => ?_⟩
      have L13 := L12.ynew (o := .lst (rd.map V.int)) hc2
      have t13 := t12.trans (Same.new (o := .lst (rd.map V.int)) hc2)
      generalize upd H12 c2 (.lst (rd.map V.int)) = H13 at L13 t13
      walk_at "go"
      refine g_ixD (dg_s (L13.yget 0 rfl) nd_s 2 rfl) ?_
      walk_at "go"
      refine ⟨q.w, _, rfl, Rd.of (L13.yget 3 rfl), fun c3 hc3 => ?_⟩
      have L14 := L13.ynew (o := .dK ms.wd) hc3
      have t14 := t13.trans (Same.new (o := .dK ms.wd) hc3)
      generalize upd H13 c3 (.dK ms.wd) = H14 at L14 t14
      have ep : ((((SaL q ms rd Y ++ [(c0, HO.dK [])]) ++ [(c1, .lst (ms.rg.map V.int))]) ++ [(c2, .lst (rd.map V.int))]) ++ [(c3, .dK ms.wd)]) = SaL q ms rd Y ++ [(c0, HO.dK []), (c1, .lst (ms.rg.map V.int)), (c2, .lst (rd.map V.int)), (c3, .dK ms.wd)] := by simp
      rw [ep] at L14
      have L14 := L14.yperm (List.perm_append_comm (l₁ := SaL q ms rd Y) (l₂ := [(c0, HO.dK []), (c1, .lst (ms.rg.map V.int)), (c2, .lst (rd.map V.int)), (c3, .dK ms.wd)]))
      walk_at "go"
      refine ⟨L14.yget 0 rfl, [(.inr "held", .ref c1), (.inr "ready", .ref c2), (.inr "words", .ref c3)], rfl, by show 3 ≤ 15; decide, ?_⟩
      have em : mergeK [] [(.inr "held", .ref c1), (.inr "ready", .ref c2), (.inr "words", .ref c3)] = sK (sL ⟨c0, c1, c2, c3⟩) := sK_made (r := []) (l := sL ⟨c0, c1, c2, c3⟩) nd_s
      rw [em]
      obtain ⟨k15, L15⟩ := L14.yset (o' := .dK (sK (sL ⟨c0, c1, c2, c3⟩))) 0 rfl (fun _ z => nomatch z)
      have L15 : LH C 0 P mc.vi (upd H14 c0 (.dK (sK (sL ⟨c0, c1, c2, c3⟩)))) a g9 { gueM mc x with ck := mc.ck + 1 } ou (SaL ⟨c0, c1, c2, c3⟩ ms rd (SaL q ms rd Y)) := L15
      generalize upd H14 c0 (.dK (sK (sL ⟨c0, c1, c2, c3⟩))) = H15 at k15 L15
      have k1015 := (KT.of t14).trans k15
      have ht15 := k1015 _ _ ht10
      walk_at "go"
      refine ⟨ra, .branch p t, x, gueV mc x, rfl, ht15, ?_⟩
      walk_at "go"
      refine ⟨C, P, N + 1, b, cov, a, g9, { gueM mc x with ck := mc.ck + 1 }, ou, SaL q ms rd Y, sv, code, rgs, ⟨c0, c1, c2, c3⟩, ms, rd, _, mx mc.ck (rdAt rd p) + C.t.wrong, rfl, L15, ok10, mo, hrd, ic10.kt k1015, co, is10.kt k1015, sd, by omega, by omega, by omega, aft_lt hr rfl, fun H16 g16 k16 L16 => ?_⟩
      have okw : COk C.k C.ad C.ac (N + 1 + 2 * C.t.dep.toNat) (wrongM C.k (mx mc.ck (rdAt rd p) + C.t.wrong) C.t.dep.toNat (aftM (.branch p t) x (gueV mc x)) ms rd { gueM mc x with ck := mc.ck + 1 }) := COk.wrong C.t.dep.toNat ok10
      generalize wrongM C.k (mx mc.ck (rdAt rd p) + C.t.wrong) C.t.dep.toNat (aftM (.branch p t) x (gueV mc x)) ms rd { gueM mc x with ck := mc.ck + 1 } = mw at L16 okw e
      have ldw := okw.len
      have d1 := sd.d1
      walk_at "go"
      refine s_clock L16 (fun H17 k17 L17 => ?_)
      have gt17 : H17 a.at_ = some (.lst g16.tv) := L17.M.get 3 rfl
      walk_at "go"
      refine g_ixD (dg_s L17.gm nd_m 6 rfl) ?_
      walk_at "go"
      refine m_new (.cons (.str _) (.cons (.int _) (.cons (.int _) .nil))) (by simp) (fun p18 H18 s18 hp18 i18 => ?_)
      walk_at "go"
      refine a_event (ev := .back (mx mc.ck (rdAt rd p) + C.t.wrong) x) ((L17.mono (Nat.zero_le 1) (Nat.le_refl _)).same s18) (by show mw.tr.length < 90000; omega) i18 (fun H19 g19 k19 L19 => ?_)
      walk_at "go"
      exact ⟨{ mw with ck := mx mc.ck (rdAt rd p) + C.t.wrong, tr := mw.tr ++ [.back (mx mc.ck (rdAt rd p) + C.t.wrong) x] }, g19, _, _, rfl, (((k1015.trans k16).trans k17).trans (KT.of s18)).trans k19, L19, e.symm⟩
    · have e : brM C.k (.branch p t) x p ms rd mc = lrnM { gueM mc x with ck := mc.ck + 1 } x (decide (¬ rgV ms p = 0)) := by
        unfold brM
        show lrnM (if gueV mc x = decide (¬ rgV ms p = 0) then _ else _) _ _ = _
        rw [if_pos he]
      walk_at "go"
      exact ⟨_, g9, _, _, rfl, KT.refl, L10, e.symm⟩
  · rintro σ' H11 ⟨m3, gJ, o9, o10, rfl, k11, LJ, eJ⟩
    have gl : H11 a.lg = some (.lst (gJ.ts.map V.ref)) := LJ.M.get 1 rfl
    walk_at "go"
    refine g_ixD (dg_s LJ.gm nd_m 2 rfl) ?_
    walk_at "go"
    refine ⟨by show 2 ≤ sizeLine; decide, fun tt htt => ?_⟩
    have s12 := Same.new (o := .tup [.int (x : Int), .bl (decide (¬ rgV ms p = 0))]) htt
    walk_at "go"
    refine a_learn (LJ.same s12) hP upd_same (fun H12 g12 k12 L12 => ?_)
    walk_at "go"
    rw [eJ] at L12
    have ev : (brM C.k (.branch p t) x p ms rd mc).vi = m3.vi := by rw [← eJ]; rfl
    rw [← ev] at L12
    exact hQ H12 g12 (((kk10.trans k11).trans (KT.of s12)).trans k12) L12


/-! ### the law's run -/
def sp_law_run (K : PySem.W.Frag) : Sp := fun vs H Q _ => ∃ (C : LC) (P N b n : Nat) (cov : Int → Prop) (a : LAd) (g : LG) (mc : MC) (Y : List (Addr × HO)) (sv code : V) (rgs : List Rg) (q : SAd) (ms : MS) (rd : List Int), vs = [.ref a.m, sv, .ref q.s, code, .int (n : Int)] ∧ LH C 0 P mc.vi H a g mc ms.ou (SaL q ms rd Y) ∧ COk C.k C.ad C.ac N mc ∧ MOk b cov ms ∧ rd.length = 16 ∧ Im H code (codeD rgs C.rows) ∧ CodeOk C.rows ∧ Im H sv C.t.d ∧ SeDr C.t ∧ N + 140 * n + 600 ≤ 80000 ∧ b + n + 200 ≤ 80000 ∧ P + n ≤ 80000 ∧
  ∀ H' g' rd' b' P', KT H H' → LH C 0 P' (runMM C.k n 0 ms rd mc).2.2.vi H' a g' (runMM C.k n 0 ms rd mc).2.2 (runMM C.k n 0 ms rd mc).2.1.ou (SaL q (runMM C.k n 0 ms rd mc).2.1 rd' Y) → MOk b' cov (runMM C.k n 0 ms rd mc).2.1 → (runMM C.k n 0 ms rd mc).2.2.tr.length ≤ 80000 → b' ≤ 80000 → Q (rsV (runMM C.k n 0 ms rd mc).1) H'
theorem sc_law_run : FnScope ["m", "settings", "s", "code", "steps", "at", "step", "row", "taken", "k"] ["m", "settings", "s", "code", "steps"] (defScope (topS 62)) := ⟨rfl, rfl, rfl, by decide +kernel, rfl, by decide +kernel, by decide +kernel⟩
theorem ok_law_run (T : Txt fa fn K mg (CsOk cs K w)) : Dn P w K mg base CX0 9 "_law_run" ["m", "settings", "s", "code", "steps"] (sp_law_run K) := by
  refine mk_dn (d := dOf "_law_run" 62) T 50 50 rfl rfl rfl rfl rfl sc_law_run (by walk_at "len") (fun _ _ _ _ _ _ us hl => match us, hl with | [_, _, _, _, _], _ => rfl) (fun cdv A outer s H vs Q E hr h => ⟨_, (pss_cons (ps_set (i := 5) sc_law_run.nd rfl (.inl rfl) pe_int)
      (pss_cons (ps_for PassesOwn.never rfl (pi_r1 rfl (T.free 131 rfl) (pa_cons (pv 4) pa_nil)) (pg_name (i := 6) sc_law_run.nd rfl (.inl rfl)) (pss_cons (ps_set (i := 7) sc_law_run.nd rfl (.inl rfl) (pe_ixU (K := K) rfl (hu_of hr) (pe_ixU (K := K) rfl (hu_of hr) (pv 3) pe_int) (pv 5)))
      (pss_cons (ps_expr (pe_callD (K := K) rfl (ok_law_fetched T) (hr.mono (by decide)) rfl pass0 (pa_cons (pv 0) (pa_cons (pv 1) (pa_cons (pv 5) pa_nil)))))
      (pss_cons (ps_dput (hu_of hr) (pv 0) pe_str (pe_callB (c_max1 (K := K) rfl rfl) rfl (T.free 129 rfl) (by decide +kernel) (pa_cons (pe_op (op_addU (K := K) rfl) (pe_lst (pa_cons (pe_ixU (K := K) rfl (hu_of hr) (pv 0) pe_str) pa_nil)) (pe_lc rfl sc_law_run.nd (pi_seq (K := K) rfl (pe_callD (K := K) rfl (ok_law_read T) (hr.mono (by decide)) rfl pass0 (pa_cons (pv 7) pa_nil))) (blkOk_by (own := [("k", 9)]) (N := ["m", "settings", "s", "code", "steps", "at", "step", "row", "taken", "k"]) (sc := defScope (topS 62)) (by decide +kernel)) (fun _ _ _ _ _ => (pg_name (i := 9) sc_law_run.nd rfl (.inl rfl))) (fun _ _ _ _ _ => pts_nil) (fun _ _ _ _ _ => (pe_ixU (K := K) rfl (hu_of hr) (pe_ixU (K := K) rfl (hu_of hr) (pv 2) pe_str) (pv 9))))) pa_nil)) rfl)
      (pss_cons (ps_if (pt_cmpR (op_eqU (K := K) rfl hr.units) (pe_ixU (K := K) rfl (hu_of hr) (pv 7) pe_int) pe_str (nomark _)) (pss_cons (ps_expr (pe_bm PySem.F.plainAttrs_list PySem.F.slot_list_append PySem.F.type_list_append mt_append (pe_ixU (K := K) rfl (hu_of hr) (pv 0) pe_str) (pa_cons (pe_tup (pa_cons pe_str (pa_cons (pe_ixU (K := K) rfl (hu_of hr) (pv 0) pe_str) pa_nil))) pa_nil)))
      (pss_one (ps_ret (pe_ixU (K := K) rfl (hu_of hr) (pe_ixU (K := K) rfl (hu_of hr) (pv 2) pe_str) (pe_ixU (K := K) rfl (hu_of hr) (pv 7) pe_int))))) pss_nil)
      (pss_cons (ps_set (i := 8) sc_law_run.nd rfl (.inl rfl) pe_bl)
      (pss_cons (ps_join (ps_if (pt_cmpR (op_eqU (K := K) rfl hr.units) (pe_ixU (K := K) rfl (hu_of hr) (pv 7) pe_int) pe_str (nomark _)) (pss_one (ps_set (i := 8) sc_law_run.nd rfl (.inl rfl) (pe_callD (K := K) rfl (ok_law_branched T) (hr.mono (by decide)) rfl pass0 (pa_cons (pv 0) (pa_cons (pv 1) (pa_cons (pv 2) (pa_cons (pv 3) (pa_cons (pv 5) pa_nil)))))))) (pss_cons (ps_expr (pe_callD (K := K) rfl (ok_law_work T) (hr.mono (by decide)) rfl pass0 (pa_cons (pv 0) (pa_cons (pv 1) (pa_cons (pv 2) (pa_cons (pv 7) (pa_cons pe_bl pa_nil)))))))
      (pss_one (ps_dput (hu_of hr) (pv 0) pe_str (pe_op (op_addU (K := K) rfl) (pe_ixU (K := K) rfl (hu_of hr) (pv 0) pe_str) pe_int) rfl)))))
      (pss_one (ps_set (i := 5) sc_law_run.nd rfl (.inl rfl) (pe_callD (K := K) rfl (ok_law_way T) (hr.mono (by decide)) rfl pass0 (pa_cons (pv 7) (pa_cons (pv 5) (pa_cons (pv 8) pa_nil)))))))))))))
      (pss_one (ps_ret pe_non)))), ?_⟩)
  obtain ⟨C, P, N, b, n, cov, a, g, mc, Y, sv, code, rgs, q, ms, rd, rfl, L, ok, mo, hrd, ic, co, is, sd, hN, hb, hP, hQ⟩ := h
  generalize hfin : runMM C.k n 0 ms rd mc = fin at hQ
  walk_at "go"
  rw [Int.toNat_natCast]
  refine f_range (fun i σ H' => ∃ (x' : Nat) (ms' : MS) (rd' : List Int) (mc' : MC) (g' : LG) (o6 o7 o8 o9 : Option V), σ = [some (.ref a.m), some sv, some (.ref q.s), some code, some (.int (n : Int)), some (.int (x' : Int)), o6, o7, o8, o9] ∧ KT H H' ∧ LH C 0 (P + i) mc'.vi H' a g' mc' ms'.ou (SaL q ms' rd' Y) ∧ COk C.k C.ad C.ac (N + 140 * i) mc' ∧ MOk (b + i) cov ms' ∧ rd'.length = 16 ∧ x' < C.rows.length ∧ i ≤ n ∧ runMM C.k (n - i) x' ms' rd' mc' = fin)
    ⟨0, ms, rd, mc, g, _, _, _, _, rfl, KT.refl, L, ok, mo, hrd, co.l, Nat.zero_le _, hfin⟩ ?_ ?_
  · rintro i σ H1 hi ⟨x', ms', rd', mc', g1, o6, o7, o8, o9, rfl, k1, L1, ok1, mo1, hrd1, hx1, hi1, hrun⟩
    obtain ⟨n', hn⟩ : ∃ n', n - i = n' + 1 := ⟨n - i - 1, by omega⟩
    rw [hn] at hrun
    have hra : C.k.rows[x']? = some (C.rows[x']'hx1) := List.getElem?_eq_getElem hx1
    have hra2 : C.rows[x']? = some (C.rows[x']'hx1) := List.getElem?_eq_getElem hx1
    generalize C.rows[x']'hx1 = r at hra hra2
    have hr := co.r x' r hra2
    walk_at "go"
    refine m_ix (ic.kt k1) (n := 1) rfl rfl (fun v2 i2 => ?_)
    walk_at "go"
    refine m_ix i2 (n := x') rfl (by rw [List.getElem?_map, hra2]; rfl) (fun v3 i3 => ?_)
    obtain ⟨ra, rfl, ht⟩ := row_tup i3
    walk_at "go"
    refine ⟨C, P + i, N + 140 * i, a, g1, mc', ms'.ou, _, sv, x', rfl, L1, ok1, is.kt k1, sd, by omega, fun H2 g2 k2 L2 => ?_⟩
    have ht2 := k2 _ _ ht
    have ok2 := ok1.fetch (a := x')
    have kk2 := k1.trans k2
    walk_at "go"
    refine g_ixD (dg_s L2.gm nd_m 3 rfl) ?_
    walk_at "go"
    refine ⟨by show 1 ≤ sizeLine; decide, fun l1 hl1 => ?_⟩
    have t1 := Same.new (o := .lst [V.int (fetchM C.k mc' x').ck]) hl1
    have hl1' : upd H2 l1 (.lst [V.int (fetchM C.k mc' x').ck]) l1 = some (.lst [V.int (fetchM C.k mc' x').ck]) := upd_same
    generalize upd H2 l1 (.lst [V.int (fetchM C.k mc' x').ck]) = H3 at t1 hl1'
    have ht3 := t1 _ _ ht2
    walk_at "go"
    refine ⟨ra, r, rfl, ht3, fun H4 D4 s4 hD4 => ?_⟩
    walk_at "go"
    have rl : r.rds.length ≤ 3 := rds_l
    refine l_mapI (f := rdAt rd') hD4 (by omega) (fun _ => rfl) (fun n H5 R hn s5 hR => ?_) (fun D5 H5 s5 hD5 => ?_)
    · have L5 := L2.same ((t1.trans s4).trans s5)
      obtain ⟨b0, b1⟩ := rds_b hr n hn
      obtain ⟨e1, e2⟩ := rd_at hrd1 b0 b1
      walk_at "go"
      refine g_ixD (dg_s (L5.yget 0 rfl) nd_s 1 rfl) ?_
      walk_at "go"
      refine g_ixL (SqL.of (L5.yget 2 rfl)) (n := n.toNat) e1 e2 ?_
      exact hR
    refine g_catL (s5 _ _ (s4 _ _ hl1')) hD5 (by simp only [List.length_cons, List.length_nil, List.length_map]; omega) (fun l6 hl6 => ?_)
    have s6 := ((t1.trans s4).trans s5).trans (Same.new (o := .lst ([V.int (fetchM C.k mc' x').ck] ++ (r.rds.map (rdAt rd')).map V.int)) hl6)
    have hl6' : upd H5 l6 (.lst ([V.int (fetchM C.k mc' x').ck] ++ (r.rds.map (rdAt rd')).map V.int)) l6 = some (.lst (((fetchM C.k mc' x').ck :: r.rds.map (rdAt rd')).map V.int)) := upd_same
    generalize upd H5 l6 (.lst ([V.int (fetchM C.k mc' x').ck] ++ (r.rds.map (rdAt rd')).map V.int)) = H6 at s6 hl6'
    walk_at "go"
    refine g_max1 (SqL.of hl6') (by simp) (fun m hm1 hm2 => ?_)
    obtain rfl := mx_is hm1 hm2
    walk_at "go"
    refine s_clock (L2.same s6) (fun H7 k7 L7 => ?_)
    have L7 : LH C 0 (P + i) (waitM r rd' (fetchM C.k mc' x')).vi H7 a g2 (waitM r rd' (fetchM C.k mc' x')) ms'.ou (SaL q ms' rd' Y) := L7
    have ht7 := k7 _ _ (s6 _ _ ht2)
    have ok3 := ok2.wait (r := r) (rd := rd')
    have kk7 := (kk2.trans (KT.of s6)).trans k7
    walk_at "go"
    refine g_ixT (SqT.of ht7) (n := 0) rfl row0 ?_
    walk_at "go"
    refine g_if (fun h4 => ?_) (fun h4 => ?_)
    · obtain ⟨p, rfl⟩ := st_inv (st_nm.mp h4)
      have hp : p < 16 := hr
      rw [run_stop hra] at hrun
      subst hrun
      generalize waitM (.stop p) rd' (fetchM C.k mc' x') = mm at L7 ok3 hQ
      have ht7 : H7 ra = some (.tup [.str "stop", .int p]) := ht7
      have gt7 : H7 a.at_ = some (.lst g2.tv) := L7.M.get 3 rfl
      have l3 := ok3.len
      walk_at "go"
      refine g_ixD (dg_s L7.gm nd_m 6 rfl) ?_
      walk_at "go"
      refine g_ixD (dg_s L7.gm nd_m 3 rfl) ?_
      walk_at "go"
      refine m_new (.cons (.str _) (.cons (.int _) .nil)) (by simp) (fun p8 H8 s8 hp8 i8 => ?_)
      walk_at "go"
      refine a_event (ev := .stop mm.ck) ((L7.mono (Nat.zero_le 1) (Nat.le_refl _)).same s8) (by show mm.tr.length < 90000; omega) i8 (fun H9 g9 k9 L9 => ?_)
      have ht9 := k9 _ _ (s8 _ _ ht7)
      walk_at "go"
      refine g_ixD (dg_s (L9.yget 0 rfl) nd_s 0 rfl) ?_
      walk_at "go"
      refine r_held L9 mo1 hp ?_
      walk_at "go"
      exact hQ H9 g9 rd' (b + i) (P + i) ((kk7.trans (KT.of s8)).trans k9) L9 mo1 (by show (mm.tr ++ [_]).length ≤ 80000; rw [List.length_append, List.length_singleton]; omega) (by omega)
    have hs : isStop r = false := by
      cases e : isStop r with
      | false => rfl
      | true => exact absurd (st_nm.mpr e) h4
    walk_at "go"
    refine ⟨fun σ' H' => ∃ (ms'' : MS) (rd'' : List Int) (mcJ : MC) (gJ : LG) (t : Bool) (o9 : Option V), σ' = [some (.ref a.m), some sv, some (.ref q.s), some code, some (.int (n : Int)), some (.int (x' : Int)), some (.int (0 + (i : Int))), some (.ref ra), some (.bl t), o9] ∧ KT H7 H' ∧ LH C 0 (P + i + 1) mcJ.vi H' a gJ mcJ ms''.ou (SaL q ms'' rd'' Y) ∧ COk C.k C.ad C.ac (N + 140 * (i + 1)) mcJ ∧ MOk (b + i + 1) cov ms'' ∧ rd''.length = 16 ∧ runMM C.k n' (aftM r x' t) ms'' rd'' mcJ = fin, ?_, ?_⟩
    · walk_at "go"
      refine g_ixT (SqT.of ht7) (n := 0) rfl row0 ?_
      walk_at "go"
      refine g_if (fun h5 => ?_) (fun h5 => ?_)
      · obtain ⟨p, t, rfl⟩ := br_inv (br_nm.mp h5)
        rw [run_br hra] at hrun
        generalize waitM (.branch p t) rd' (fetchM C.k mc' x') = mm at L7 ok3 hrun
        walk_at "go"
        refine ⟨C, P + i, N + 140 * i + 1, b + i, cov, a, g2, mm, ms'.ou, Y, sv, code, rgs, q, ms', rd', x', p, t, rfl, L7, ok3, mo1, hrd1, ic.kt kk7, co, is.kt kk7, sd, by omega, by omega, by omega, hra2, fun H8 g8 k8 L8 => ?_⟩
        walk_at "go"
        exact ⟨ms', rd', brM C.k (.branch p t) x' p ms' rd' mm, g8, decide (¬ rgV ms' p = 0), _, rfl, k8, L8, (ok3.br sd.d1).mono (by omega), mo1.mono' (by omega), hrd1, hrun⟩
      · have hbr : isBr r = false := by
          cases e : isBr r with
          | false => rfl
          | true => exact absurd (br_nm.mpr e) h5
        rw [run_wk hra (wrk_of hbr hs)] at hrun
        generalize waitM r rd' (fetchM C.k mc' x') = mm at L7 ok3 hrun
        walk_at "go"
        refine ⟨C, P + i, N + 140 * i + 1, b + i, C.rows.length, x', cov, a, g2, mm, ms'.ou, Y, sv, q, ms', rd', ra, r, true, rfl, L7, ok3, mo1, hr, hrd1, is.kt kk7, sd, by omega, by omega, (fun _ => rfl), ht7, fun H8 g8 k8 L8 => ?_⟩
        have L8 : LH C 0 (P + i) mm.vi H8 a g8 (workC r ms' false mm) (workS r ms' false).ou (SaL q (workS r ms' false) (workR C.k r ms' rd' mm) Y) := L8
        walk_at "go"
        refine g_ixD (dg_s L8.gm nd_m 3 rfl) ?_
        walk_at "go"
        refine s_clock L8 (fun H9 k9 L9 => ?_)
        walk_at "go"
        have evi : (workC r ms' false mm).vi = mm.vi := work_vi
        rw [work_ck] at L9
        rw [← evi] at L9
        exact ⟨workS r ms' false, workR C.k r ms' rd' mm, { workC r ms' false mm with ck := mm.ck + 1 }, g8, false, _, rfl, k8.trans k9, L9.mono (Nat.le_refl _) (by omega), (ok3.work.ck).mono (by omega), work_ok mo1 hr, workR_len hrd1, hrun⟩
    · rintro σ' H8 ⟨ms'', rd'', mcJ, gJ, t, o9, rfl, k8, LJ, okJ, moJ, hrdJ, hrunJ⟩
      have ht8 := k8 _ _ ht7
      walk_at "go"
      refine ⟨ra, r, x', t, rfl, ht8, ?_⟩
      walk_at "go"
      exact ⟨aftM r x' t, ms'', rd'', mcJ, gJ, _, _, _, _, rfl, kk7.trans k8, LJ, okJ, moJ, hrdJ, aft_lt hr hs, by omega, by rw [show n - (i + 1) = n' by omega]; exact hrunJ⟩
  · rintro σ H1 ⟨x', ms', rd', mc', g1, o6, o7, o8, o9, rfl, k1, L1, ok1, mo1, hrd1, hx1, hi1, hrun⟩
    walk_at "go"
    rw [Nat.sub_self] at hrun
    have hrun : (none, ms', mc') = fin := hrun
    subst hrun
    have ll := ok1.len
    exact hQ H1 g1 rd' (b + n) (P + n) k1 L1 mo1 (by show mc'.tr.length ≤ 80000; omega) (by omega)


/-! ### how the law's machine is made -/
/-- another comprehension of new lists -/
theorem l_empty {σ : L2.St} {H : Hp} {L : List (Addr × HO)} {lo : Int} {n k : Nat} {vs : List Nat} {Q : VK} (M : Has H L) (hn : n ≤ 1000) (hwp : ∀ x : V, wipe ((wipe σ vs).set k (some x)) vs = wipe σ vs)
    (q : ∀ D as H', H D = none → as.length = n → Same H H' → Has H' (mkL L D as []) → Q (.ref D) H') : LcW (gName k) tYes (tLst tNil) vs σ Q (Itr lo n) H := by
  refine l_range (fun D i H' => ∃ as, as.length = i ∧ Same H H' ∧ Has H' (mkL L D as [])) (fun D hD => ⟨[], rfl, Same.new hD, M.new hD⟩) ?_ ?_
  · rintro D hD i H' hi ⟨as, rfl, sm, M'⟩
    refine g_name (g_wipe (hwp _) (g_yes (g_ifT (g_lst (g_nilA ?_)))))
    refine ⟨by show 0 ≤ sizeLine; decide, fun p hp => ?_⟩
    have hD1 := mk_at (M'.keep (Same.new (o := .lst []) hp))
    exact ⟨as.map V.ref, hD1, szl (by rw [List.length_map]; omega), as ++ [p], by simp, Same.mut (Same.new' sm hp) hD, mk_snoc M' hp⟩
  · rintro D hD H' ⟨as, ha, sm, M'⟩
    exact q D as H' hD ha sm M'
theorem md_made (A G : Addr) : mergeK [] [(.inr "places", .ref A), (.inr "logs", .ref G)] = mdK A G := by
  have h1 : putK ([] : List (Key × V)) (.inr "places") (.ref A) = [(.inr "places", .ref A)] := putK_new _ rfl
  have h2 : putK ([(.inr "places", .ref A)] : List (Key × V)) (.inr "logs") (.ref G) = [(.inr "places", .ref A)] ++ [(.inr "logs", .ref G)] := putK_new _ (by rw [valV_neg (fun e => ne_pl (Sum.inr.inj e))]; rfl)
  unfold mergeK
  simp only [List.foldl_cons, List.foldl_nil]
  rw [h1]
  exact h2
theorem has_ma {H : Hp} {L : List (Addr × HO)} {md : MAd} {r1 : List V} {pl : List (List (Option Int))} {lv : List (List V)} (M : Has H (mkL (mkL (L ++ [(md.m, .dK [])]) md.A md.as r1) md.G md.gs [])) (h1 : tab md.as (List.replicate md.as.length r1) = tab md.as (pl.map (·.map ovV))) (h2 : tab md.gs (List.replicate md.gs.length []) = tab md.gs lv) : Has (upd H md.m (.dK (mdK md.A md.G))) (L ++ MaL md pl lv) := by
  unfold mkL at M
  rw [h1, h2] at M
  unfold MaL
  generalize tab md.as (pl.map (·.map ovV)) = A at M ⊢
  generalize tab md.gs lv = B at M ⊢
  rw [List.append_nil]
  rw [List.append_assoc, List.append_assoc] at M
  have z := M.set (o' := .dK (mdK md.A md.G)) L.length (a := md.m) (o := .dK []) (by
    rw [List.getElem?_append_right (Nat.le_refl _), Nat.sub_self]
    rfl)
  rw [List.set_append_right _ _ (Nat.le_refl _), Nat.sub_self] at z
  refine z.perm (List.Perm.append_left L ?_)
  exact .cons _ (.cons _ List.perm_middle)
def sp_law_shelf (K : PySem.W.Frag) : Sp := fun vs H Q _ => ∃ (s : Addr) (c : Cs) (L : List (Addr × HO)), vs = [.ref s] ∧ H s = some (.tup [.int c.S, .int c.W, .int c.Z, .str c.P]) ∧ CsOk1 c ∧ Has H L ∧
  ∀ H' d, Same H H' → Has H' (L ++ MaL d (List.replicate c.S (List.replicate c.W none)) (List.replicate c.S [])) → d.as.length = c.S → d.gs.length = c.S → Q (.ref d.m) H'
theorem sc_law_shelf : FnScope ["settings", "sets", "ways", "size", "policy", "k"] ["settings"] (defScope (topS 49)) := ⟨rfl, rfl, rfl, by decide +kernel, rfl, by decide +kernel, by decide +kernel⟩
theorem ok_law_shelf (T : Txt fa fn K mg (CsOk cs K w)) : Dn P w K mg base CX0 1 "_law_shelf" ["settings"] (sp_law_shelf K) := by
  refine mk_dn (d := dOf "_law_shelf" 49) T 37 37 rfl rfl rfl rfl rfl sc_law_shelf (by walk_at "len") (fun _ _ _ _ _ _ us hl => match us, hl with | [_], _ => rfl) (fun cdv A outer s H vs Q E hr h => ⟨_, (pss_cons (ps_asg (pv 0) (pg_tup rfl (pgs_cons (pg_name (i := 1) sc_law_shelf.nd rfl (.inl rfl)) (pgs_cons (pg_name (i := 2) sc_law_shelf.nd rfl (.inr rfl)) (pgs_cons (pg_name (i := 3) sc_law_shelf.nd rfl (.inl rfl)) (pgs_cons (pg_name (i := 4) sc_law_shelf.nd rfl (.inl rfl)) pgs_nil))))))
      (pss_one (ps_ret (pe_disp (pps_cons pe_str (pe_lc rfl sc_law_shelf.nd (pi_r1 rfl (T.free 131 rfl) (pa_cons (pv 1) pa_nil)) (blkOk_by (own := [("k", 5)]) (N := ["settings", "sets", "ways", "size", "policy", "k"]) (sc := defScope (topS 49)) (by decide +kernel)) (fun _ _ _ _ _ => (pg_name (i := 5) sc_law_shelf.nd rfl (.inl rfl))) (fun _ _ _ _ _ => pts_nil) (fun _ _ _ _ _ => (pe_op op_mulU (pe_lst (pa_cons pe_non pa_nil)) (pv 2)))) (pps_cons pe_str (pe_lc rfl sc_law_shelf.nd (pi_r1 rfl (T.free 131 rfl) (pa_cons (pv 1) pa_nil)) (blkOk_by (own := [("k", 5)]) (N := ["settings", "sets", "ways", "size", "policy", "k"]) (sc := defScope (topS 49)) (by decide +kernel)) (fun _ _ _ _ _ => (pg_name (i := 5) sc_law_shelf.nd rfl (.inl rfl))) (fun _ _ _ _ _ => pts_nil) (fun _ _ _ _ _ => (pe_lst pa_nil))) pps_nil)) (by rfl) (by rfl) (fun z => by cases z) (by decide))))), ?_⟩)
  obtain ⟨s, c, L, rfl, hs, ok, M, hQ⟩ := h
  have s1 := ok.s1
  have w1 := ok.w1
  walk_at "go"
  intro m hm
  have M1 := M.new (o := .dK []) hm
  have sm := Same.new (o := .dK []) hm
  have at4 : upd H m (.dK []) m = some (.dK []) := upd_same
  generalize upd H m (.dK []) = H1 at M1 sm at4
  walk_at "go"
  refine l_rows (w := c.W) M1 (by omega) (by omega) (fun _ => rfl) (fun _ => rfl) (fun A as H5 hA las s5 _ M5 => ?_)
  walk_at "go"
  refine l_empty M5 (by omega) (fun _ => rfl) (fun G gs H6 hG lgs s6 M6 => ?_)
  walk_at "go"
  refine ⟨s6 _ _ (s5 _ _ at4), [(.inr "places", .ref A), (.inr "logs", .ref G)], rfl, by show 2 ≤ 15; decide, ?_⟩
  rw [md_made]
  rw [Int.toNat_natCast] at las lgs
  have ss : Same H (upd H6 m (.dK (mdK A G))) := Same.mut ((sm.trans s5).trans s6) hm
  refine hQ _ ⟨m, A, G, as, gs⟩ ss ?_ las lgs
  refine has_ma (md := ⟨m, A, G, as, gs⟩) M6 ?_ ?_
  · show tab as (List.replicate as.length _) = tab as ((List.replicate c.S (List.replicate c.W none)).map (·.map ovV))
    rw [las, List.map_replicate, List.map_replicate]
    rfl
  · show tab gs (List.replicate gs.length _) = tab gs (List.replicate c.S [])
    rw [lgs]
abbrev mL5 (a : LAd) : List (Str × V) := [("data", .ref a.da.m), ("fetch", .ref a.fa.m), ("log", .ref a.lg), ("clock", .int 0), ("fetches", .int 0)]
abbrev mL6 (a : LAd) (av : Addr) : List (Str × V) := mL5 a ++ [(("visits" : Str), V.ref av)]
abbrev mL7 (a : LAd) (av at_ : Addr) : List (Str × V) := mL6 a av ++ [(("trace" : Str), V.ref at_)]
abbrev mL8 (a : LAd) (av at_ ao : Addr) : List (Str × V) := mL7 a av at_ ++ [(("outs" : Str), V.ref ao)]
theorem nd_5 : (["data", "fetch", "log", "clock", "fetches"] : List Str).Nodup := by decide +kernel
abbrev P2L (a : LAd) (g : LG) : List (Addr × HO) := [(a.m, .dK (sK (mL5 a))), (a.lg, .lst (g.ts.map V.ref))]
/-- while it is being made: at most B touchings, B branches so far -/
structure PH (C : LC) (B : Nat) (H : Hp) (a : LAd) (g : LG) (mc : MC) (Y : List (Addr × HO)) : Prop where
  M : Has H (P2L a g ++ (MaL a.da mc.dc.pl g.dv ++ (MaL a.fa mc.fc.pl g.fv ++ Y)))
  dw : CWf C.ad mc.dc
  fw : CWf C.ac mc.fc
  ds : stg mc.dc = C.t.dc.g
  fs : stg mc.fc = C.t.fc.g
  dr : Rel C.hd mc.dc g.dl
  fr : Rel C.hf mc.fc g.fl
  di : LgI H g.dv g.dl
  fi : LgI H g.fv g.fl
  d1 : a.da.as.length = mc.dc.S ∧ a.da.gs.length = mc.dc.S ∧ g.dv.length = mc.dc.S
  f1 : a.fa.as.length = mc.fc.S ∧ a.fa.gs.length = mc.fc.S ∧ g.fv.length = mc.fc.S
  db : ∀ j, (g.dl.getD j []).length ≤ B
  fb : ∀ j, (g.fl.getD j []).length ≤ B
  pk : mc.pr.k = C.t.g.pr.k
  pr : Lgd mc.pr.k C.t.g.n g.pl mc.pr.b mc.pr.h mc.pr.cs
  pt : LogT H g.ts g.pl
  pn : g.pl.length ≤ B
section
variable {C : LC} {B : Nat} {H H' : Hp} {a : LAd} {g : LG} {mc : MC} {Y : List (Addr × HO)} {K : PySem.W.Frag} {Q : VK} {E : XK} {x : Int} {s p : Addr} {o o' : HO}
theorem PH.dM (h : PH C B H a g mc Y) : MWf mc.dc.S mc.dc.W a.da mc.dc.pl g.dv g.dl := ⟨h.dw.s0, h.dw.s1, h.dw.w0, h.dw.w1, h.d1.1, h.d1.2.1, h.dw.lp, h.d1.2.2, h.dr.ll, h.dw.rp⟩
theorem PH.fM (h : PH C B H a g mc Y) : MWf mc.fc.S mc.fc.W a.fa mc.fc.pl g.fv g.fl := ⟨h.fw.s0, h.fw.s1, h.fw.w0, h.fw.w1, h.f1.1, h.f1.2.1, h.fw.lp, h.f1.2.2, h.fr.ll, h.fw.rp⟩
theorem PH.gm (h : PH C B H a g mc Y) : H a.m = some (.dK (sK (mL5 a))) := h.M.get 0 rfl
theorem PH.M2 (h : PH C B H a g mc Y) : Has H ((P2L a g ++ MaL a.da mc.dc.pl g.dv) ++ (MaL a.fa mc.fc.pl g.fv ++ Y)) := by
  rw [List.append_assoc]
  exact h.M
theorem p_touD (h : PH C B H a g mc Y) (hs : H s = some (.tup [.int C.t.dc.S, .int C.t.dc.W, .int C.t.dc.Z, .str C.t.dc.P])) (hb : B < 90000)
    (q : ∀ H' g', KT H H' → PH C (B + 1) H' a g' { mc with dc := tcV mc.dc x } Y → Q (.bl (decide (hitV mc.dc x))) H') : sp_law_touch K ([.ref a.da.m, .ref s, .int x] ++ []) H Q E := by
  have eg := h.ds
  have hs' : H s = some (.tup [.int (stg mc.dc).S, .int (stg mc.dc).W, .int (stg mc.dc).Z, .str (stg mc.dc).P]) := by
    rw [eg]
    exact hs
  have hm := h.M.mid
  refine ⟨a.da, stg mc.dc, mc.dc.pl, g.dv, g.dl, s, x, rfl, hs', h.dw.z0, h.dw.z1, hm, h.di, h.dM, Nat.lt_of_le_of_lt (h.db _) hb, ?_, fun H' lv' kp M' L' hl => ?_⟩
  · rw [← h.dr.plc h.dw]
    exact h.dw.pl_
  · have kt := KT.keep kp (ma_noTup hm h.dM)
    have et : (tcV mc.dc x).pl = pl1 (stg mc.dc) mc.dc.pl g.dl x := h.dr.tcpl h.dw
    have fst : (MaL a.da (pl1 (stg mc.dc) mc.dc.pl g.dl x) lv').map (·.1) = (MaL a.da mc.dc.pl g.dv).map (·.1) := by
      have w' : MWf mc.dc.S mc.dc.W a.da (tcV mc.dc x).pl lv' (lg1 (stg mc.dc) mc.dc.pl g.dl x) := ⟨h.dw.s0, h.dw.s1, h.dw.w0, h.dw.w1, h.d1.1, h.d1.2.1, h.dw.tc.lp, hl, (h.dr.tc h.dw).ll, h.dw.tc.rp⟩
      rw [et] at w'
      rw [ma_fst h.dM, ma_fst w']
    have MM := h.M.frame (by rw [ma_fst h.dM]; exact kp) M' fst
    refine q H' { g with dv := lv', dl := lg1 (stg mc.dc) mc.dc.pl g.dl x } kt ⟨?_, h.dw.tc, h.fw, h.ds, h.fs, h.dr.tc h.dw, h.fr, L', h.fi.kt kt, ⟨h.d1.1, h.d1.2.1, hl⟩, h.f1, lg_bd h.db, fun j => Nat.le_succ_of_le (h.fb j), h.pk, h.pr, h.pt.kt kt, Nat.le_succ_of_le h.pn⟩
    show Has H' (P2L a _ ++ (MaL a.da (tcV mc.dc x).pl lv' ++ _))
    rw [et]
    exact MM
theorem p_touF (h : PH C B H a g mc Y) (hs : H s = some (.tup [.int C.t.fc.S, .int C.t.fc.W, .int C.t.fc.Z, .str C.t.fc.P])) (hb : B < 90000)
    (q : ∀ H' g', KT H H' → PH C (B + 1) H' a g' { mc with fc := tcV mc.fc x } Y → Q (.bl (decide (hitV mc.fc x))) H') : sp_law_touch K ([.ref a.fa.m, .ref s, .int x] ++ []) H Q E := by
  have eg := h.fs
  have hs' : H s = some (.tup [.int (stg mc.fc).S, .int (stg mc.fc).W, .int (stg mc.fc).Z, .str (stg mc.fc).P]) := by
    rw [eg]
    exact hs
  have hm := h.M2.mid
  refine ⟨a.fa, stg mc.fc, mc.fc.pl, g.fv, g.fl, s, x, rfl, hs', h.fw.z0, h.fw.z1, hm, h.fi, h.fM, Nat.lt_of_le_of_lt (h.fb _) hb, ?_, fun H' lv' kp M' L' hl => ?_⟩
  · rw [← h.fr.plc h.fw]
    exact h.fw.pl_
  · have kt := KT.keep kp (ma_noTup hm h.fM)
    have et : (tcV mc.fc x).pl = pl1 (stg mc.fc) mc.fc.pl g.fl x := h.fr.tcpl h.fw
    have fst : (MaL a.fa (pl1 (stg mc.fc) mc.fc.pl g.fl x) lv').map (·.1) = (MaL a.fa mc.fc.pl g.fv).map (·.1) := by
      have w' : MWf mc.fc.S mc.fc.W a.fa (tcV mc.fc x).pl lv' (lg1 (stg mc.fc) mc.fc.pl g.fl x) := ⟨h.fw.s0, h.fw.s1, h.fw.w0, h.fw.w1, h.f1.1, h.f1.2.1, h.fw.tc.lp, hl, (h.fr.tc h.fw).ll, h.fw.tc.rp⟩
      rw [et] at w'
      rw [ma_fst h.fM, ma_fst w']
    have MM := h.M2.frame (by rw [ma_fst h.fM]; exact kp) M' fst
    rw [List.append_assoc] at MM
    refine q H' { g with fv := lv', fl := lg1 (stg mc.fc) mc.fc.pl g.fl x } kt ⟨?_, h.dw, h.fw.tc, h.ds, h.fs, h.dr, h.fr.tc h.fw, h.di.kt kt, L', h.d1, ⟨h.f1.1, h.f1.2.1, hl⟩, fun j => Nat.le_succ_of_le (h.db j), lg_bd h.fb, h.pk, h.pr, h.pt.kt kt, Nat.le_succ_of_le h.pn⟩
    show Has H' (P2L a _ ++ (MaL a.da mc.dc.pl g.dv ++ (MaL a.fa (tcV mc.fc x).pl lv' ++ Y)))
    rw [et]
    exact MM
theorem PH.same (h : PH C B H a g mc Y) (k : Same H H') : PH C B H' a g mc Y :=
  ⟨h.M.keep k, h.dw, h.fw, h.ds, h.fs, h.dr, h.fr, h.di.kt (KT.of k), h.fi.kt (KT.of k), h.d1, h.f1, h.db, h.fb, h.pk, h.pr, h.pt.kt (KT.of k), h.pn⟩
theorem p_learn {r : Nat} {b : Bool} {t : Addr} (h : PH C B H a g mc Y) (hl : B < 90000) (ht : H t = some (.tup [.int (r : Int), .bl b])) (q : ∀ H' g', KT H H' → PH C (B + 1) H' a g' (lrnM mc r b) Y → Q .non H') : rAppend (.ref a.lg) [.ref t] H Q := by
  have gt : H a.lg = some (.lst (g.ts.map V.ref)) := h.M.get 1 rfl
  have lt := h.pt.1
  have pn := h.pn
  have em : g.ts.map V.ref ++ [V.ref t] = (g.ts ++ [t]).map V.ref := by
    rw [List.map_append]
    rfl
  have kt : KT H (upd H a.lg (.lst (g.ts.map V.ref ++ [.ref t]))) := KT.set gt (fun _ z => nomatch z)
  have z := h.M.set (o' := .lst (g.ts.map V.ref ++ [.ref t])) 1 rfl
  refine ⟨a.lg, _, .ref t, rfl, rfl, gt, szl (by rw [List.length_map]; omega), q _ { g with ts := g.ts ++ [t], pl := g.pl ++ [((r : Int), b)] } kt ?_⟩
  rw [em] at z kt ⊢
  exact ⟨z, h.dw, h.fw, h.ds, h.fs, h.dr, h.fr, h.di.kt kt, h.fi.kt kt, h.d1, h.f1, fun j => Nat.le_succ_of_le (h.db j), fun j => Nat.le_succ_of_le (h.fb j), h.pk, h.pr.learn r b, (h.pt.snoc ht).kt kt, by show (g.pl ++ [_]).length ≤ B + 1; rw [List.length_append, List.length_singleton]; omega⟩
end
theorem cwf0 {c : Cs} (ok : CsOk1 c) : CWf ⟨0, 0, 0, 0, 0, List.replicate c.S 0, List.replicate c.S 0, List.replicate c.S 0⟩ (c0V c.S c.W c.Z c.P) where
  s0 := ok.s0
  s1 := ok.s1
  w0 := ok.w0
  w1 := ok.w1
  z0 := ok.z0
  z1 := ok.z1
  la := List.length_replicate
  lb := List.length_replicate
  lg := List.length_replicate
  lp := List.length_replicate
  lt := List.length_replicate
  lq := List.length_replicate
  rp := fun r hr => by rw [List.eq_of_mem_replicate hr]; exact List.length_replicate
  rt := fun r hr => by rw [List.eq_of_mem_replicate hr]; exact List.length_replicate
  rq := fun r hr => by
    rw [List.eq_of_mem_replicate hr]
    exact ⟨List.length_replicate, fun x hx => .inl (List.eq_of_mem_replicate hx)⟩
theorem lgi0 {H : Hp} {S : Nat} : LgI H (List.replicate S []) (List.replicate S []) := fun n x l h1 h2 => by
  rw [List.getElem?_replicate] at h1 h2
  split at h1
  · rename_i hj
    rw [if_pos hj] at h2
    cases h1
    cases h2
    exact .nil
  · cases h1
theorem rep0 {S j : Nat} : ((List.replicate S ([] : Log)).getD j []).length ≤ 0 := by
  rw [List.getD_eq_getElem?_getD, List.getElem?_replicate]
  split <;> exact Nat.le_refl _
/-- what the tables' sizes are powers of -/
structure LCOk (C : LC) : Prop where
  wd : C.t.dc.W = 2 ^ C.hd
  wf : C.t.fc.W = 2 ^ C.hf
  ad : C.ad = ⟨0, 0, 0, 0, 0, List.replicate C.t.dc.S 0, List.replicate C.t.dc.S 0, List.replicate C.t.dc.S 0⟩
  ac : C.ac = ⟨0, 0, 0, 0, 0, List.replicate C.t.fc.S 0, List.replicate C.t.fc.S 0, List.replicate C.t.fc.S 0⟩
theorem pp_tup {H : Hp} {v : V} {w : Pp} (h : Im H v w.d) : ∃ s, v = .ref s ∧ H s = some (.tup (match w with
    | .data x => [.str "data", .int x]
    | .fetch x => [.str "fetch", .int x]
    | .br r t => [.str "branch", .int (r : Int), .bl t])) := by
  cases w with
  | data x =>
    obtain ⟨a, x1, x2, rfl, h1, i1, i2⟩ := im2 h
    obtain rfl := i1.str_inv
    obtain rfl := i2.int_inv
    exact ⟨a, rfl, h1⟩
  | fetch x =>
    obtain ⟨a, x1, x2, rfl, h1, i1, i2⟩ := im2 h
    obtain rfl := i1.str_inv
    obtain rfl := i2.int_inv
    exact ⟨a, rfl, h1⟩
  | br r t =>
    obtain ⟨a, x1, x2, x3, rfl, h1, i1, i2, i3⟩ := im3 h
    obtain rfl := i1.str_inv
    obtain rfl := i2.int_inv
    obtain rfl := i3.bl_inv
    exact ⟨a, rfl, h1⟩
theorem perm_mk {α : Type} {Y D F : List α} {m l : α} : ((((Y ++ [m]) ++ D) ++ F) ++ [l]).Perm (m :: l :: (D ++ (F ++ Y))) := by
  have e1 : ((((Y ++ [m]) ++ D) ++ F) ++ [l]) = Y ++ (m :: (D ++ (F ++ [l]))) := by simp
  have e2 : Y ++ (D ++ (F ++ [l])) = (Y ++ (D ++ F)) ++ [l] := by simp
  have e3 : (D ++ F) ++ Y = D ++ (F ++ Y) := by simp
  rw [e1]
  refine List.perm_middle.trans (.cons _ ?_)
  rw [e2]
  refine (List.perm_append_comm (l₂ := [l])).trans (.cons _ ?_)
  rw [← e3]
  exact (show (Y ++ (D ++ F)).Perm ((D ++ F) ++ Y) from List.perm_append_comm)
theorem perm_mk2 {α : Type} {R : List α} {m l v t o : α} : (m :: l :: (R ++ [v] ++ [t] ++ [o])).Perm ([m, l, v, t, o] ++ R) := by
  have e1 : R ++ [v] ++ [t] ++ [o] = R ++ [v, t, o] := by simp
  rw [e1]
  exact .cons _ (.cons _ List.perm_append_comm)
theorem lgd0 {g : Gs} (ok : GsOk g) : Lgd g.pr.k g.n [] g.pr.b g.pr.h g.pr.cs := by
  cases g with
  | taken => exact Lgd.start .taken
  | two n => exact Lgd.start (.two n (by have := ok.1; omega) (by have := ok.2; omega))
  | hist n => exact Lgd.start (.hist n (by have := ok.1; omega) (by have := ok.2; omega))
def sp_law_machine (K : PySem.W.Frag) : Sp := fun vs H Q _ => ∃ (C : LC) (Y : List (Addr × HO)) (code cont sv : V), vs = [code, cont, sv] ∧ Has H Y ∧ Im H sv C.t.d ∧ SeDr C.t ∧ LCOk C ∧
  ∀ H' a g, KT H H' → LH C 0 12 0 H' a g (mc0 C.t) [] Y → Q (.ref a.m) H'
theorem sc_law_machine : FnScope ["code", "contents", "settings", "m", "part"] ["code", "contents", "settings"] (defScope (topS 50)) := ⟨rfl, rfl, rfl, by decide +kernel, rfl, by decide +kernel, by decide +kernel⟩
theorem ok_law_machine (T : Txt fa fn K mg (CsOk cs K w)) : Dn P w K mg base CX0 5 "_law_machine" ["code", "contents", "settings"] (sp_law_machine K) := by
  refine mk_dn (d := dOf "_law_machine" 50) T 38 38 rfl rfl rfl rfl rfl sc_law_machine (by walk_at "len") (fun _ _ _ _ _ _ us hl => match us, hl with | [_, _, _], _ => rfl) (fun cdv A outer s H vs Q E hr h => ⟨_, (pss_cons (ps_set (i := 3) sc_law_machine.nd rfl (.inl rfl) (pe_disp (pps_cons pe_str (pe_callD (K := K) rfl (ok_law_shelf T) (hr.mono (by decide)) rfl pass0 (pa_cons (pe_ixU (K := K) rfl (hu_of hr) (pv 2) pe_int) pa_nil)) (pps_cons pe_str (pe_callD (K := K) rfl (ok_law_shelf T) (hr.mono (by decide)) rfl pass0 (pa_cons (pe_ixU (K := K) rfl (hu_of hr) (pv 2) pe_int) pa_nil)) (pps_cons pe_str (pe_lst pa_nil) (pps_cons pe_str pe_int (pps_cons pe_str pe_int pps_nil))))) (by rfl) (by rfl) (fun z => by cases z) (by decide)))
      (pss_cons (ps_for PassesOwn.never rfl (pi_seq (K := K) rfl (pe_ixU (K := K) rfl (hu_of hr) (pv 2) pe_int)) (pg_name (i := 4) sc_law_machine.nd rfl (.inl rfl)) (pss_one (ps_if (pt_cmpR (op_eqU (K := K) rfl hr.units) (pe_ixU (K := K) rfl (hu_of hr) (pv 4) pe_int) pe_str (nomark _)) (pss_one (ps_expr (pe_callD (K := K) rfl (ok_law_touch T) (hr.mono (by decide)) rfl pass0 (pa_cons (pe_ixU (K := K) rfl (hu_of hr) (pv 3) pe_str) (pa_cons (pe_ixU (K := K) rfl (hu_of hr) (pv 2) pe_int) (pa_cons (pe_ixU (K := K) rfl (hu_of hr) (pv 4) pe_int) pa_nil)))))) (pss_one (ps_if (pt_cmpR (op_eqU (K := K) rfl hr.units) (pe_ixU (K := K) rfl (hu_of hr) (pv 4) pe_int) pe_str (nomark _)) (pss_one (ps_expr (pe_callD (K := K) rfl (ok_law_touch T) (hr.mono (by decide)) rfl pass0 (pa_cons (pe_ixU (K := K) rfl (hu_of hr) (pv 3) pe_str) (pa_cons (pe_ixU (K := K) rfl (hu_of hr) (pv 2) pe_int) (pa_cons (pe_ixU (K := K) rfl (hu_of hr) (pv 4) pe_int) pa_nil)))))) (pss_one (ps_expr (pe_bm PySem.F.plainAttrs_list PySem.F.slot_list_append PySem.F.type_list_append mt_append (pe_ixU (K := K) rfl (hu_of hr) (pv 3) pe_str) (pa_cons (pe_tup (pa_cons (pe_ixU (K := K) rfl (hu_of hr) (pv 4) pe_int) (pa_cons (pe_ixU (K := K) rfl (hu_of hr) (pv 4) pe_int) pa_nil))) pa_nil)))))))))
      (pss_cons (ps_dput (hu_of hr) (pv 3) pe_str (pe_callTy (c_list (K := K) rfl) rfl (T.free 128 rfl) (by decide +kernel) (pa_cons (pe_ixU (K := K) rfl (hu_of hr) (pv 2) pe_int) pa_nil)) rfl)
      (pss_cons (ps_dput (hu_of hr) (pv 3) pe_str (pe_lst pa_nil) rfl)
      (pss_cons (ps_dput (hu_of hr) (pv 3) pe_str (pe_lst pa_nil) rfl)
      (pss_one (ps_ret (pv 3)))))))), ?_⟩)
  obtain ⟨C, Y, code, cont, sv, rfl, MY, is, sd, ck, hQ⟩ := h
  walk_at "go"
  intro m hm
  have M1 := MY.new (o := .dK []) hm
  have s1 := Same.new (o := .dK []) hm
  have am : upd H m (.dK []) m = some (.dK []) := upd_same
  generalize upd H m (.dK []) = H1 at M1 s1 am
  walk_at "go"
  refine m_ix (is.same s1) (n := 0) rfl rfl (fun v1 i1 => ?_)
  obtain ⟨q1, rfl, hq1⟩ := cs_tp i1
  walk_at "go"
  refine ⟨q1, C.t.dc, _, rfl, hq1, sd.dc.ok, M1, fun H2 da s2 M2 la lb => ?_⟩
  have s12 := s1.trans s2
  walk_at "go"
  refine m_ix (is.same s12) (n := 1) rfl rfl (fun v2 i2 => ?_)
  obtain ⟨q2, rfl, hq2⟩ := cs_tp i2
  walk_at "go"
  refine ⟨q2, C.t.fc, _, rfl, hq2, sd.fc.ok, M2, fun H3 fa s3 M3 lc ld => ?_⟩
  have s13 := s12.trans s3
  walk_at "go"
  refine ⟨by decide, fun lg hlg => ?_⟩
  have M4 := M3.new (o := .lst []) hlg
  have s4 := Same.new (o := .lst []) hlg
  have am4 := s4 _ _ (s3 _ _ (s2 _ _ am))
  have s14 := s13.trans s4
  generalize upd H3 lg (.lst []) = H4 at M4 s4 am4 s14
  walk_at "go"
  refine ⟨am4, [(.inr "data", .ref da.m), (.inr "fetch", .ref fa.m), (.inr "log", .ref lg), (.inr "clock", .int 0), (.inr "fetches", .int 0)], rfl, by show 5 ≤ 15; decide, ?_⟩
  have em : mergeK [] [(.inr "data", .ref da.m), (.inr "fetch", .ref fa.m), (.inr "log", .ref lg), (.inr "clock", .int 0), (.inr "fetches", .int 0)] = sK (mL5 ⟨m, da, fa, lg, 0, 0, 0⟩) := sK_made (r := []) (l := mL5 ⟨m, da, fa, lg, 0, 0, 0⟩) nd_5
  rw [em]
  have s15 : Same H (upd H4 m (.dK (sK (mL5 ⟨m, da, fa, lg, 0, 0, 0⟩)))) := Same.mut s14 hm
  have M5 := (M4.perm perm_mk).set (o' := .dK (sK (mL5 ⟨m, da, fa, lg, 0, 0, 0⟩))) 0 rfl
  generalize upd H4 m (.dK (sK (mL5 ⟨m, da, fa, lg, 0, 0, 0⟩))) = H5 at M5 s15
  have P0 : PH C 0 H5 ⟨m, da, fa, lg, 0, 0, 0⟩ ⟨List.replicate C.t.dc.S [], List.replicate C.t.dc.S [], List.replicate C.t.fc.S [], List.replicate C.t.fc.S [], [], [], [], []⟩ (mc00 C.t) Y := by
    refine ⟨M5, by rw [ck.ad]; exact cwf0 sd.dc.ok, by rw [ck.ac]; exact cwf0 sd.fc.ok, rfl, rfl, ?_, ?_, lgi0, lgi0, ⟨la, lb, List.length_replicate⟩, ⟨lc, ld, List.length_replicate⟩, fun j => rep0, fun j => rep0, rfl, ?_, ⟨rfl, fun i t h => nomatch h⟩, Nat.le_refl _⟩
    · show Rel C.hd (c0V C.t.dc.S C.t.dc.W C.t.dc.Z C.t.dc.P) _
      rw [ck.wd]
      exact Rel.start sd.dc.p
    · show Rel C.hf (c0V C.t.fc.S C.t.fc.W C.t.fc.Z C.t.fc.P) _
      rw [ck.wf]
      exact Rel.start sd.fc.p
    · exact lgd0 sd.g
  have lbf := sd.b
  walk_at "go"
  refine m_ix (is.same s15) (n := 5) rfl rfl (fun v3 i3 => ?_)
  refine m_seq i3 (fun pa xs e ha hs => ?_)
  subst e
  have hl := hs.length
  rw [List.length_map] at hl
  refine f_tup (xs := xs) (fun i σ H' => ∃ (o : Option V) (g' : LG), σ = [some code, some cont, some sv, some (.ref m), o] ∧ KT H5 H' ∧ PH C i H' ⟨m, da, fa, lg, 0, 0, 0⟩ g' ((C.t.bef.take i).foldl preM (mc00 C.t)) Y) ⟨_, _, rfl, KT.refl, P0⟩ ?_ ?_ ?_
  · rintro i σ H' hi ⟨o, g', rfl, k, _⟩
    exact SqT.of (k _ _ ha)
  · rintro i y σ H6 hi ⟨o, g', rfl, k6, P6⟩
    obtain ⟨hlt, _⟩ := List.getElem?_eq_some_iff.mp hi
    have hb : C.t.bef[i]? = some (C.t.bef[i]'(by omega)) := List.getElem?_eq_getElem _
    generalize C.t.bef[i]'(by omega) = w at hb
    obtain ⟨y', hy', iy⟩ := hs.get (n := i) (d := w.d) (by rw [List.getElem?_map, hb]; rfl)
    rw [hi] at hy'
    cases hy'
    have iy6 := iy.kt k6
    have is6 := (is.same s15).kt k6
    have et : (C.t.bef.take (i + 1)).foldl preM (mc00 C.t) = preM ((C.t.bef.take i).foldl preM (mc00 C.t)) w := by
      rw [List.take_add_one, hb, List.foldl_append]
      rfl
    rw [et]
    generalize (C.t.bef.take i).foldl preM (mc00 C.t) = mc at P6
    obtain ⟨q, rfl, hq⟩ := pp_tup iy6
    have gl : H6 lg = some (.lst (g'.ts.map V.ref)) := P6.M.get 1 rfl
    cases w with
    | data x =>
      have hq : H6 q = some (.tup [.str "data", .int x]) := hq
      walk_at "go"
      refine g_ixD (dg_s P6.gm nd_5 0 rfl) ?_
      walk_at "go"
      refine m_ix is6 (n := 0) rfl rfl (fun v4 i4 => ?_)
      obtain ⟨q4, rfl, hq4⟩ := cs_tp i4
      walk_at "go"
      refine p_touD P6 hq4 (by omega) (fun H7 g7 k7 P7 => ?_)
      walk_at "go"
      exact ⟨_, g7, rfl, k6.trans k7, P7⟩
    | fetch x =>
      have hq : H6 q = some (.tup [.str "fetch", .int x]) := hq
      walk_at "go"
      refine g_ixD (dg_s P6.gm nd_5 1 rfl) ?_
      walk_at "go"
      refine m_ix is6 (n := 1) rfl rfl (fun v4 i4 => ?_)
      obtain ⟨q4, rfl, hq4⟩ := cs_tp i4
      walk_at "go"
      refine p_touF P6 hq4 (by omega) (fun H7 g7 k7 P7 => ?_)
      walk_at "go"
      exact ⟨_, g7, rfl, k6.trans k7, P7⟩
    | br r t =>
      have hq : H6 q = some (.tup [.str "branch", .int (r : Int), .bl t]) := hq
      walk_at "go"
      refine g_ixD (dg_s P6.gm nd_5 2 rfl) ?_
      walk_at "go"
      refine ⟨by show 2 ≤ sizeLine; decide, fun tt htt => ?_⟩
      have s7 := Same.new (o := .tup [.int (r : Int), .bl t]) htt
      walk_at "go"
      refine p_learn (P6.same s7) (by omega) upd_same (fun H8 g8 k8 P8 => ?_)
      walk_at "go"
      exact ⟨_, g8, rfl, (k6.trans (KT.of s7)).trans k8, P8⟩
  · rintro σ H6 ⟨o, g6, rfl, k6, P6⟩
    rw [hl, List.take_length] at P6
    have P6 : PH C C.t.bef.length H6 ⟨m, da, fa, lg, 0, 0, 0⟩ g6 (mc0 C.t) Y := P6
    obtain ⟨e1, e2, e3, e4⟩ := pres_keep C.t.bef (mc00 C.t)
    have e1 : (mc0 C.t).ck = 0 := e1
    have e2 : (mc0 C.t).fe = 0 := e2
    have e4 : (mc0 C.t).tr = [] := e4
    have is6 := (is.same s15).kt k6
    walk_at "go"
    refine m_ix is6 (n := 6) rfl rfl (fun v7 i7 => ?_)
    obtain ⟨va, vx, rfl, hva, ivx⟩ := i7.tup_inv
    walk_at "go"
    refine ⟨va, vx, rfl, .inr (SqT.of hva), fun av hav => ?_⟩
    have s7 := Same.new (o := .lst vx) hav
    have M7 := P6.M.new (o := .lst vx) hav
    have g7 := s7 _ _ P6.gm
    generalize upd H6 av (.lst vx) = H7 at s7 M7 g7
    walk_at "go"
    refine ⟨m, _, rfl, dp_sn g7 (show ("visits" : Str) ∉ (["data", "fetch", "log", "clock", "fetches"] : List Str) by decide +kernel) (by show 5 ≤ 1000; decide), ?_⟩
    have k8 : KT H7 (upd H7 m (.dK (sK (mL6 ⟨m, da, fa, lg, 0, 0, 0⟩ av)))) := KT.set g7 (fun _ z => nomatch z)
    have M8 := M7.set (o' := .dK (sK (mL6 ⟨m, da, fa, lg, 0, 0, 0⟩ av))) 0 rfl
    have g8 : upd H7 m (.dK (sK (mL6 ⟨m, da, fa, lg, 0, 0, 0⟩ av))) m = some (.dK (sK (mL6 ⟨m, da, fa, lg, 0, 0, 0⟩ av))) := upd_same
    generalize upd H7 m (.dK (sK (mL6 ⟨m, da, fa, lg, 0, 0, 0⟩ av))) = H8 at k8 M8 g8
    walk_at "go"
    refine ⟨by decide, fun at_ hat => ?_⟩
    have s9 := Same.new (o := .lst []) hat
    have M9 := M8.new (o := .lst []) hat
    have g9 := s9 _ _ g8
    generalize upd H8 at_ (.lst []) = H9 at s9 M9 g9
    walk_at "go"
    refine ⟨m, _, rfl, dp_sn g9 (show ("trace" : Str) ∉ (["data", "fetch", "log", "clock", "fetches", "visits"] : List Str) by decide +kernel) (by show 6 ≤ 1000; decide), ?_⟩
    have k10 : KT H9 (upd H9 m (.dK (sK (mL7 ⟨m, da, fa, lg, 0, 0, 0⟩ av at_)))) := KT.set g9 (fun _ z => nomatch z)
    have M10 := M9.set (o' := .dK (sK (mL7 ⟨m, da, fa, lg, 0, 0, 0⟩ av at_))) 0 rfl
    have g10 : upd H9 m (.dK (sK (mL7 ⟨m, da, fa, lg, 0, 0, 0⟩ av at_))) m = some (.dK (sK (mL7 ⟨m, da, fa, lg, 0, 0, 0⟩ av at_))) := upd_same
    generalize upd H9 m (.dK (sK (mL7 ⟨m, da, fa, lg, 0, 0, 0⟩ av at_))) = H10 at k10 M10 g10
    walk_at "go"
    refine ⟨by decide, fun ao hao => ?_⟩
    have s11 := Same.new (o := .lst []) hao
    have M11 := M10.new (o := .lst []) hao
    have g11 := s11 _ _ g10
    generalize upd H10 ao (.lst []) = H11 at s11 M11 g11
    walk_at "go"
    refine ⟨m, _, rfl, dp_sn g11 (show ("outs" : Str) ∉ (["data", "fetch", "log", "clock", "fetches", "visits", "trace"] : List Str) by decide +kernel) (by show 7 ≤ 1000; decide), ?_⟩
    have k12 : KT H11 (upd H11 m (.dK (sK (mL8 ⟨m, da, fa, lg, 0, 0, 0⟩ av at_ ao)))) := KT.set g11 (fun _ z => nomatch z)
    have M12 := M11.set (o' := .dK (sK (mL8 ⟨m, da, fa, lg, 0, 0, 0⟩ av at_ ao))) 0 rfl
    generalize upd H11 m (.dK (sK (mL8 ⟨m, da, fa, lg, 0, 0, 0⟩ av at_ ao))) = H12 at k12 M12
    walk_at "go"
    have kz := ((((((KT.of s7).trans k8).trans (KT.of s9)).trans k10).trans (KT.of s11)).trans k12)
    refine hQ H12 ⟨m, da, fa, lg, av, at_, ao⟩ { g6 with vv := vx, tv := [] } (((KT.of s15).trans k6).trans kz) ⟨?_, P6.dw, P6.fw, P6.ds, P6.fs, P6.dr, P6.fr, P6.di.kt kz, P6.fi.kt kz, P6.d1, P6.f1, fun j => ?_, fun j => ?_, P6.pk, P6.pr, P6.pt.kt kz, Nat.le_trans P6.pn (by omega), ivx.kt kz, ?_⟩
    · have em2 : mL8 ⟨m, da, fa, lg, 0, 0, 0⟩ av at_ ao = mL ⟨m, da, fa, lg, av, at_, ao⟩ (mc0 C.t).ck (mc0 C.t).fe := by
        rw [e1, e2]
        rfl
      rw [em2] at M12
      exact M12.perm perm_mk2
    · have := P6.db j
      show (g6.dl.getD j []).length ≤ 20 + 0 + (mc0 C.t).tr.length
      omega
    · have := P6.fb j
      show (g6.fl.getD j []).length ≤ 20 + 0 + (mc0 C.t).tr.length
      omega
    · rw [e4]
      exact .nil


/-! ### the law's own run -/
def mK (rg wd o : Addr) (t : Int) : List (Key × V) := [(.inr "held", .ref rg), (.inr "words", .ref wd), (.inr "outs", .ref o), (.inr "at", .int t)]
theorem n_hw : ¬ (("held" : Str) = "words") := by decide +kernel
theorem n_ho : ¬ (("held" : Str) = "outs") := by decide +kernel
theorem n_ha : ¬ (("held" : Str) = "at") := by decide +kernel
theorem n_wo : ¬ (("words" : Str) = "outs") := by decide +kernel
theorem n_wa : ¬ (("words" : Str) = "at") := by decide +kernel
theorem n_oa : ¬ (("outs" : Str) = "at") := by decide +kernel
section
variable {rg wd o : Addr} {t t' : Int} {H : Hp} {m : Addr}
theorem dm_held : valV (mK rg wd o t) (.inr "held") = some (.ref rg) := by
  unfold mK
  exact valV_pos rfl
theorem dm_words : valV (mK rg wd o t) (.inr "words") = some (.ref wd) := by
  unfold mK
  rw [valV_neg (fun e => n_hw (Sum.inr.inj e))]
  exact valV_pos rfl
theorem dm_outs : valV (mK rg wd o t) (.inr "outs") = some (.ref o) := by
  unfold mK
  rw [valV_neg (fun e => n_ho (Sum.inr.inj e)), valV_neg (fun e => n_wo (Sum.inr.inj e))]
  exact valV_pos rfl
theorem dm_at : valV (mK rg wd o t) (.inr "at") = some (.int t) := by
  unfold mK
  rw [valV_neg (fun e => n_ha (Sum.inr.inj e)), valV_neg (fun e => n_wa (Sum.inr.inj e)), valV_neg (fun e => n_oa (Sum.inr.inj e))]
  exact valV_pos rfl
theorem dm_put : putK (mK rg wd o t) (.inr "at") (.int t') = mK rg wd o t' := by
  unfold putK
  rw [valV_any, dm_at]
  simp only [Option.isSome_some, if_true]
  unfold mK
  simp only [List.map_cons, List.map_nil]
  rw [if_neg (fun e => n_ha (Sum.inr.inj e)), if_neg (fun e => n_wa (Sum.inr.inj e)), if_neg (fun e => n_oa (Sum.inr.inj e)), if_pos trivial]
theorem dm_made : mergeK [] [(.inr "held", .ref rg), (.inr "words", .ref wd), (.inr "outs", .ref o), (.inr "at", .int t)] = mK rg wd o t := by
  unfold mergeK
  simp only [List.foldl_cons, List.foldl_nil]
  rw [putK_new (kvs := ([] : List (Key × V))) _ rfl]
  rw [putK_new (kvs := ([] : List (Key × V)) ++ [((.inr "held" : Key), V.ref rg)]) _ (by rw [List.nil_append, valV_neg (fun e => n_hw (Sum.inr.inj e))]; rfl)]
  rw [putK_new (kvs := ([] : List (Key × V)) ++ [((.inr "held" : Key), V.ref rg)] ++ [((.inr "words" : Key), V.ref wd)]) _ (by
    show valV [((.inr "held" : Key), V.ref rg), (.inr "words", V.ref wd)] _ = _
    rw [valV_neg (fun e => n_ho (Sum.inr.inj e)), valV_neg (fun e => n_wo (Sum.inr.inj e))]; rfl)]
  rw [putK_new (kvs := ([] : List (Key × V)) ++ [((.inr "held" : Key), V.ref rg)] ++ [((.inr "words" : Key), V.ref wd)] ++ [((.inr "outs" : Key), V.ref o)]) _ (by
    show valV [((.inr "held" : Key), V.ref rg), (.inr "words", V.ref wd), (.inr "outs", V.ref o)] _ = _
    rw [valV_neg (fun e => n_ha (Sum.inr.inj e)), valV_neg (fun e => n_wa (Sum.inr.inj e)), valV_neg (fun e => n_oa (Sum.inr.inj e))]; rfl)]
  rfl
theorem dp_m (h : H m = some (.dK (mK rg wd o t))) : DPut H m (.str "at") (.int t') (upd H m (.dK (mK rg wd o t'))) := by
  rw [← dm_put (t := t)]
  exact DPut.k (k := .inr "at") h (by show 4 < sizeLine; decide)
end
def sp_law_memory (K : PySem.W.Frag) : Sp := fun vs H Q _ => ∃ (code cont : V) (rgs : List Rg) (cs : List (List Int)) (rows : List Row), vs = [code, cont] ∧ Im H code (codeD rgs rows) ∧ Im H cont (contD cs) ∧ MemOk rgs cs ∧
  ∀ H' wd, Same H H' → H wd = none → H' wd = some (.dK (mem rgs cs)) → Q (.ref wd) H'
theorem sc_law_memory : FnScope ["code", "contents", "words", "k", "j"] ["code", "contents"] (defScope (topS 47)) := ⟨rfl, rfl, rfl, by decide +kernel, rfl, by decide +kernel, by decide +kernel⟩
theorem ok_law_memory (T : Txt fa fn K mg (CsOk cs K w)) : Dn P w K mg base CX0 1 "_law_memory" ["code", "contents"] (sp_law_memory K) := by
  refine mk_dn (d := dOf "_law_memory" 47) T 35 35 rfl rfl rfl rfl rfl sc_law_memory (by walk_at "len") (fun _ _ _ _ _ _ us hl => match us, hl with | [_, _], _ => rfl) (fun cdv A outer s H vs Q E hr h => ⟨_, (pss_cons (ps_set (i := 2) sc_law_memory.nd rfl (.inl rfl) pe_dnewK)
      (pss_cons (ps_for PassesOwn.never rfl (pi_r1 rfl (T.free 131 rfl) (pa_cons (pe_callB (c_len (K := K) rfl) rfl (T.free 127 rfl) (by decide +kernel) (pa_cons (pe_ixU (K := K) rfl (hu_of hr) (pv 0) pe_int) pa_nil)) pa_nil)) (pg_name (i := 3) sc_law_memory.nd rfl (.inl rfl)) (pss_one (ps_for PassesOwn.never rfl (pi_r1 rfl (T.free 131 rfl) (pa_cons (pe_ixU (K := K) rfl (hu_of hr) (pe_ixU (K := K) rfl (hu_of hr) (pe_ixU (K := K) rfl (hu_of hr) (pv 0) pe_int) (pv 3)) pe_int) pa_nil)) (pg_name (i := 4) sc_law_memory.nd rfl (.inl rfl)) (pss_one (ps_asg (pe_ixU (K := K) rfl (hu_of hr) (pe_ixU (K := K) rfl (hu_of hr) (pv 1) (pv 3)) (pv 4)) (pg_sub (pv 2) (pe_op (op_addU (K := K) rfl) (pe_ixU (K := K) rfl (hu_of hr) (pe_ixU (K := K) rfl (hu_of hr) (pe_ixU (K := K) rfl (hu_of hr) (pv 0) pe_int) (pv 3)) pe_int) (pv 4)) (set_U (hu_of hr))))))))
      (pss_one (ps_ret (pv 2))))), ?_⟩)
  obtain ⟨code, cont, rgs, cs, rows, rfl, ic, ik, ok, hQ⟩ := h
  walk_at "go"
  intro wd hwd
  walk_at "go"
  have s0 : Same H (upd H wd (.dK [])) := Same.new hwd
  have nt : NoTup (upd H wd (.dK [])) [wd] := NoTup.one upd_same (fun _ e => nomatch e)
  refine m_ix (ic.same s0) (n := 0) rfl rfl (fun v hv => ?_)
  walk_at "go"
  refine m_len hv ?_
  have lk := ok.l
  have m4 := ok.m
  rw [List.length_map]
  walk_at "go"
  rw [Int.toNat_natCast]
  refine f_range (fun i σ H' => ∃ (k j : Option V), σ = [some code, some cont, some (.ref wd), k, j] ∧ Keep [wd] (upd H wd (.dK [])) H' ∧ H' wd = some (.dK (((rgs.zip cs).take i).foldl stepR []))) ⟨_, _, rfl, Keep.refl, upd_same⟩ ?_ ?_
  · rintro i σ H' hi ⟨k, j, rfl, kp, hw⟩
    have hg : rgs[i]? = some (rgs[i]'(by omega)) := List.getElem?_eq_getElem _
    generalize rgs[i]'(by omega) = rgn at hg
    have hc : cs[i]? = some (cs[i]'(by omega)) := List.getElem?_eq_getElem _
    generalize cs[i]'(by omega) = c at hc
    have ic1 := (ic.same s0).keep kp nt
    have cl := ok.n i rgn c hg hc
    have ml := mem_len ok i
    have zl := ok.z rgn (List.mem_of_getElem? hg)
    walk_at "go"
    refine m_ix ic1 (n := 0) rfl rfl (fun v hv => ?_)
    walk_at "go"
    refine m_ix hv (n := i) (by omega) (by rw [List.getElem?_map, hg]; rfl) (fun y hy => ?_)
    walk_at "go"
    refine m_ix hy (n := 1) rfl rfl (fun v1 hv1 => ?_)
    obtain rfl := hv1.int_inv
    walk_at "go"
    rw [Int.toNat_natCast]
    refine f_range (fun j σ H2 => ∃ (jj : Option V), σ = [some code, some cont, some (.ref wd), some (.int (0 + i)), jj] ∧ Keep [wd] H' H2 ∧ H2 wd = some (.dK (memK rgn.b c j (((rgs.zip cs).take i).foldl stepR [])))) ⟨_, rfl, Keep.refl, hw⟩ ?_ ?_
    · rintro j σ H2 hj ⟨jj, rfl, k2, hw2⟩
      have nt1 : NoTup H' [wd] := NoTup.one hw (fun _ e => nomatch e)
      have ic2 := ic1.keep k2 nt1
      have ik2 := (((ik.same s0).keep kp nt)).keep k2 nt1
      have hcj : c[j]? = some (c.getD j 0) := by rw [List.getD_eq_getElem?_getD, List.getElem?_eq_getElem (by omega)]; rfl
      walk_at "go"
      refine m_ix ik2 (n := i) (by omega) (by rw [List.getElem?_map, hc]; rfl) (fun v hv => ?_)
      walk_at "go"
      refine m_ix hv (n := j) (by omega) (by rw [List.getElem?_map, hcj]; rfl) (fun v hv => ?_)
      obtain rfl := hv.int_inv
      walk_at "go"
      refine m_ix ic2 (n := 0) rfl rfl (fun v hv => ?_)
      walk_at "go"
      refine m_ix hv (n := i) (by omega) (by rw [List.getElem?_map, hg]; rfl) (fun y hy => ?_)
      walk_at "go"
      refine m_ix hy (n := 0) rfl rfl (fun v1 hv1 => ?_)
      obtain rfl := hv1.int_inv
      walk_at "go"
      have e0 : (0 : Int) + (j : Int) = (j : Int) := by omega
      rw [e0]
      refine .inr ⟨wd, _, rfl, DPut.k (k := .inl (rgn.b + j)) hw2 (szl ?_), ?_⟩
      · have := memK_len (base := rgn.b) (row := c) (kvs := ((rgs.zip cs).take i).foldl stepR []) j
        omega
      · walk_at "go"
        refine ⟨_, rfl, k2.trans (Keep.set (by simp)), ?_⟩
        rw [memK_succ]
        exact upd_same
    · rintro σ H2 ⟨jj, rfl, k2, hw2⟩
      walk_at "go"
      refine ⟨_, _, rfl, kp.trans k2, ?_⟩
      rw [foldl_take_succ (zip_at hg hc)]
      exact hw2
  · rintro σ H' ⟨k, j, rfl, kp, hw⟩
    walk_at "go"
    have e : ((rgs.zip cs).take rgs.length) = rgs.zip cs := List.take_of_length_le (by rw [List.length_zip]; omega)
    rw [e] at hw
    exact hQ H' wd (fun bb u hb => kp bb u (s0 bb u hb) (fun z => by
      rw [List.mem_singleton] at z
      subst z
      rw [hwd] at hb
      cases hb)) hwd hw
def sp_law_held (K : PySem.W.Frag) : Sp := fun vs H Q _ => ∃ (code : V) (wd : Addr) (rgs : List Rg) (rows : List Row) (ms : MS) (b : Nat), vs = [code, .ref wd] ∧ H wd = some (.dK ms.wd) ∧ Im H code (codeD rgs rows) ∧ MOk b (covG rgs) ms ∧ (∀ g ∈ rgs, g.n ≤ 100) ∧ rgs.length ≤ 4 ∧
  ∀ H' v, Same H H' → Im H' v (.tuple (heldD rgs ms)) → Q v H'
theorem sc_law_held : FnScope ["code", "words", "base", "label", "size", "j"] ["code", "words"] (defScope (topS 48)) := ⟨rfl, rfl, rfl, by decide +kernel, rfl, by decide +kernel, by decide +kernel⟩
theorem ok_law_held (T : Txt fa fn K mg (CsOk cs K w)) : Dn P w K mg base CX0 1 "_law_held" ["code", "words"] (sp_law_held K) := by
  refine mk_dn (d := dOf "_law_held" 48) T 36 36 rfl rfl rfl rfl rfl sc_law_held (by walk_at "len") (fun _ _ _ _ _ _ us hl => match us, hl with | [_, _], _ => rfl) (fun cdv A outer s H vs Q E hr h => ⟨_, (pss_one (ps_ret (pe_callTy (c_tuple (K := K) rfl) rfl (T.free 135 rfl) (by decide +kernel) (pa_cons (pe_lc rfl sc_law_held.nd (pi_seq (K := K) rfl (pe_ixU (K := K) rfl (hu_of hr) (pv 0) pe_int)) (blkOk_by (own := [("base", 2), ("size", 4), ("label", 3)]) (N := ["code", "words", "base", "label", "size", "j"]) (sc := defScope (topS 48)) (by decide +kernel)) (fun _ _ _ _ _ => (pg_tupU (K := K) (n := 3) rfl rfl (pgs_cons (pg_name (i := 2) sc_law_held.nd rfl (.inr rfl) (.inl rfl)) (pgs_cons (pg_name (i := 4) sc_law_held.nd rfl (.inl rfl) (.inr rfl)) (pgs_cons (pg_name (i := 3) sc_law_held.nd rfl (.inl rfl) (.inr rfl)) pgs_nil))))) (fun _ _ _ _ _ => pts_nil) (fun _ _ _ _ _ => (pe_callTy (c_tuple (K := K) rfl) rfl (T.free 135 rfl) (by decide +kernel) (pa_cons (pe_lc rfl sc_law_held.nd (pi_r1 rfl (T.free 131 rfl) (pa_cons (pv 4) pa_nil)) (blkOk_by (own := [("j", 5)]) (by kernel_rfl)) (fun _ _ _ _ _ => (pg_name (i := 5) sc_law_held.nd rfl (.inl rfl))) (fun _ _ _ _ _ => pts_nil) (fun _ _ _ _ _ => (pe_ixU (K := K) rfl (hu_of hr) (pv 1) (pe_op (op_addU (K := K) rfl) (pv 2) (pv 5))))) pa_nil)))) pa_nil)))), ?_⟩)
  obtain ⟨code, wd, rgs, rows, ms, b, rfl, hw, ic, hm, hz, hl, hQ⟩ := h
  walk_at "go"
  refine m_ix ic (n := 0) rfl rfl (fun x ix => ?_)
  walk_at "go"
  refine m_seq ix (fun a xs e ha his => ?_)
  subst e
  refine l_map (f := fun d => match d with | .tuple [.int b, .int n, _] => .tuple ((List.range n.toNat).map fun (j : Nat) => .int (wdV ms.wd (b + (j : Int)))) | _ => .none) ha his (by rw [List.length_map]; omega) (fun i e y H1 R hi s1 iy hR => ?_) ?_ (fun D H1 us s1 hD im => ?_)
  · rw [List.getElem?_map] at hi
    obtain ⟨g, hg, rfl⟩ := Option.map_eq_some_iff.mp hi
    have gm := List.mem_of_getElem? hg
    have zz := hz g gm
    obtain ⟨t, rfl, ht⟩ := im3v iy
    walk_at "go"
    rw [Int.toNat_natCast]
    have hw1 := s1 _ _ hw
    refine l_mapR (f := fun (j : Nat) => .int (wdV ms.wd (g.b + (j : Int)))) (by omega) (fun _ => rfl) (fun j H2 R2 hj s2 hR2 => ?_) (fun D2 H2 us2 s2 hD2 im2 => ?_)
    · have hw2 := s2 _ _ hw1
      walk_at "go"
      have e0 : (0 : Int) + (j : Int) = (j : Int) := by omega
      rw [e0]
      refine g_ixD (ml_at hw2 hm ⟨g, gm, j, hj, rfl⟩) ?_
      exact hR2 _ _ (Same.refl H2) (.int _)
    · walk_at "go"
      refine m_tupleL (SqL.of hD2) im2 (fun q H3 s3 hq im3 => ?_)
      refine hR _ _ (s2.trans s3) ?_
      exact im3
  · intro y σ1 H1 R R' hh h
    obtain ⟨a, xs, e, h1, h2, h3⟩ := h
    refine ⟨a, xs, e, h1, h2, ?_⟩
    obtain ⟨v1, r1, e1, h3⟩ := h3
    refine ⟨v1, r1, e1, ?_⟩
    obtain ⟨v2, r2, e2, h3⟩ := h3
    refine ⟨v2, r2, e2, ?_⟩
    obtain ⟨v3, r3, e3, h3⟩ := h3
    refine ⟨v3, r3, e3, h3.1, hh _ _ h3.2⟩
  · walk_at "go"
    refine m_tupleL (SqL.of hD) im (fun q H2 s2 hq im2 => ?_)
    refine hQ _ _ (s1.trans s2) ?_
    rw [List.map_map] at im2
    exact im2
/-! ### the law -/
def sp_law_end (K : PySem.W.Frag) : Sp := fun vs H Q _ => ∃ (code : V) (rgs : List Rg) (rows : List Row), vs = [code] ∧ Im H code (codeD rgs rows) ∧ RgsOk rgs ∧ ∀ H' (n : Int), Same H H' → 0 ≤ n → n ≤ 1000 → Q (.int n) H'
theorem sum_rgs : ∀ (rgs : List Rg) (m : Nat), (∀ g ∈ rgs, g.n ≤ 30) → rgs.length ≤ m → 0 ≤ (rgs.map fun g => (g.n : Int)).sum ∧ (rgs.map fun g => (g.n : Int)).sum ≤ 30 * m
  | [], m, _, _ => ⟨Int.le_refl _, by show (0 : Int) ≤ _; omega⟩
  | g :: rgs, m, h, hl => by
    have hg := h g List.mem_cons_self
    simp only [List.length_cons] at hl
    obtain ⟨i1, i2⟩ := sum_rgs rgs (m - 1) (fun x hx => h x (List.mem_cons_of_mem _ hx)) (by omega)
    rw [List.map_cons, List.sum_cons]
    constructor <;> omega
theorem sc_law_end : FnScope ["code", "base", "label", "size"] ["code"] (defScope (topS 36)) := ⟨rfl, rfl, rfl, by decide +kernel, rfl, by decide +kernel, by decide +kernel⟩
theorem ok_law_end (T : Txt fa fn K mg (CsOk cs K w)) : Dn P w K mg base CX0 1 "_law_end" ["code"] (sp_law_end K) := by
  refine mk_dn (d := dOf "_law_end" 36) T 24 24 rfl rfl rfl rfl rfl sc_law_end (by walk_at "len") (fun _ _ _ _ _ _ us hl => match us, hl with | [_], _ => rfl) (fun cdv A outer s H vs Q E hr h => ⟨_, (pss_one (ps_ret (pe_callB (c_sumK (K := K) rfl rfl) rfl (T.free 134 rfl) (by decide +kernel) (pa_cons (pe_lc rfl sc_law_end.nd (pi_seq (K := K) rfl (pe_ixU (K := K) rfl (hu_of hr) (pv 0) pe_int)) (blkOk_by (own := [("base", 1), ("size", 3), ("label", 2)]) (N := ["code", "base", "label", "size"]) (sc := defScope (topS 36)) (by decide +kernel)) (fun _ _ _ _ _ => (pg_tupU (K := K) (n := 3) rfl rfl (pgs_cons (pg_name (i := 1) sc_law_end.nd rfl (.inl rfl) (.inr rfl)) (pgs_cons (pg_name (i := 3) sc_law_end.nd rfl (.inl rfl) (.inr rfl)) (pgs_cons (pg_name (i := 2) sc_law_end.nd rfl (.inl rfl) (.inr rfl)) pgs_nil))))) (fun _ _ _ _ _ => pts_nil) (fun _ _ _ _ _ => (pv 3))) pa_nil)))), ?_⟩)
  obtain ⟨code, rgs, rows, rfl, ic, ro, hQ⟩ := h
  walk_at "go"
  refine m_ix ic (n := 0) rfl rfl (fun v hv => ?_)
  refine m_seq hv (fun a xs e ha his => ?_)
  subst e
  have hu := ro.u
  refine l_map (f := fun d => match d with | .tuple [_, .int n, _] => .int n | _ => .none) ha his (by rw [List.length_map]; omega) (fun i e y H1 R hi s1 iy hR => ?_) ?_ (fun D H1 us s1 hD im => ?_)
  · rw [List.getElem?_map] at hi
    obtain ⟨g, hg, rfl⟩ := Option.map_eq_some_iff.mp hi
    obtain ⟨t, rfl, ht⟩ := im3v iy
    walk_at "go"
    exact hR _ _ (Same.refl H1) (.int _)
  · intro y σ1 H1 R R' hh h
    obtain ⟨a, xs, e, h1, h2, h3⟩ := h
    refine ⟨a, xs, e, h1, h2, ?_⟩
    obtain ⟨v1, r1, e1, h3⟩ := h3
    refine ⟨v1, r1, e1, ?_⟩
    obtain ⟨v2, r2, e2, h3⟩ := h3
    refine ⟨v2, r2, e2, ?_⟩
    obtain ⟨v3, r3, e3, h3⟩ := h3
    refine ⟨v3, r3, e3, h3.1, hh _ _ h3.2⟩
  · walk_at "go"
    rw [List.map_map] at im
    have e : us = (rgs.map fun g => (g.n : Int)).map V.int := ims_int_inv (by
      rw [List.map_map]
      exact im)
    subst e
    refine g_sum (SqL.of hD) ?_
    obtain ⟨i1, i2⟩ := sum_rgs rgs 4 ro.n ro.u
    exact hQ _ _ s1 i1 (by omega)
theorem lay_ev {e : Ev} : Lay 1 e.d := by
  have s : ∀ t : Bool, PyData.strOk (tdS t) = true := by decide +kernel
  have z : PyData.strOk "fetch" = true ∧ PyData.strOk "data" = true ∧ PyData.strOk "out" = true ∧ PyData.strOk "guess" = true ∧ PyData.strOk "back" = true ∧ PyData.strOk "stop" = true := by decide +kernel
  obtain ⟨z1, z2, z3, z4, z5, z6⟩ := z
  cases e <;> refine Lay.tup (k := 0) fun d hd => ?_ <;> simp only [List.mem_cons, List.not_mem_nil, or_false] at hd
  · rcases hd with rfl | rfl | rfl | rfl
    · exact Lay.str (s _)
    · exact Lay.int
    · exact Lay.int
    · exact Lay.bl
  · rcases hd with rfl | rfl | rfl | rfl
    · exact Lay.str z1
    · exact Lay.int
    · exact Lay.int
    · exact Lay.bl
  · rcases hd with rfl | rfl | rfl | rfl
    · exact Lay.str z2
    · exact Lay.int
    · exact Lay.int
    · exact Lay.bl
  · rcases hd with rfl | rfl | rfl
    · exact Lay.str z3
    · exact Lay.int
    · exact Lay.int
  · rcases hd with rfl | rfl | rfl | rfl
    · exact Lay.str z4
    · exact Lay.int
    · exact Lay.int
    · exact Lay.bl
  · rcases hd with rfl | rfl | rfl
    · exact Lay.str z5
    · exact Lay.int
    · exact Lay.int
  · rcases hd with rfl | rfl
    · exact Lay.str z6
    · exact Lay.int
/-! ### kinds -/
def evN : Ev → List Int
  | .visit _ c l _ => [c, l]
  | .fetch c l _ => [c, l]
  | .data c l _ => [c, l]
  | .out c x => [c, x]
  | .guess c a _ => [c, (a : Int)]
  | .back c a => [c, (a : Int)]
  | .stop c => [c]
def evT : Ev → List Bool
  | .visit _ _ _ f => [f]
  | .fetch _ _ f => [f]
  | .data _ _ f => [f]
  | .guess _ _ t => [t]
  | _ => []
def evL : Ev → List PyData
  | e => match e.d with
    | .tuple ds => ds
    | _ => []
theorem ev_tup (e : Ev) : e.d = .tuple (evL e) := by cases e <;> rfl
theorem ev_cut (e : Ev) : cutD (evL e) (some 1) (some 3) = (evN e).map .int ∧ cutD (evL e) (some 3) none = (evT e).map .bool := by
  cases e <;> exact ⟨rfl, rfl⟩
theorem evN_len {e : Ev} : (evN e).length ≤ 2 := by cases e <;> simp only [evN, List.length_cons, List.length_nil] <;> decide
theorem evT_len {e : Ev} : (evT e).length ≤ 1 := by cases e <;> simp only [evT, List.length_cons, List.length_nil] <;> decide
theorem ims_bl_inv {H : Hp} : ∀ {l : List Bool} {us : List V}, Ims H us (l.map PyData.bool) → us = l.map V.bl
  | [], _, h => h.nil_inv
  | n :: l, us, h => by
    have h : Ims H us (PyData.bool n :: l.map PyData.bool) := h
    obtain ⟨v, ws, rfl, i1, i2⟩ := Ims.cons_inv h
    rw [i1.bl_inv, ims_bl_inv i2]
    rfl
/-- a comprehension over a list that always says True -/
theorem l_trues {K : PySem.W.Frag} {σ : L2.St} {H : Hp} {te : TE} {k : Nat} {vs : List Nat} {b : Addr} {xs : List V} {Q : VK} (hb : H b = some (.lst xs)) (hl : xs.length ≤ 1000000) (hwp : ∀ x : V, wipe ((wipe σ vs).set k (some x)) vs = wipe σ vs)
    (step : ∀ (x : V) (H' : Hp) (R : VK), x ∈ xs → R (.bl true) H' → te ((wipe σ vs).set k (some x)) H' R)
    (q : ∀ D H', Same H H' → H' D = some (.lst ((List.replicate xs.length true).map V.bl)) → Q (.ref D) H') : LcW (gName k) tYes te vs σ Q (Itl K b) H := by
  refine l_list (xs := xs) (fun D i H' => H' D = some (.lst ((List.replicate i true).map V.bl)) ∧ Same H H') (fun D hD => ⟨upd_same, Same.new hD⟩) ?_ ?_ ?_
  · rintro D hD i H' hi ⟨hD', sm⟩
    exact SqL.of (sm _ _ hb)
  · rintro D hD i y H' hi ⟨hD', sm⟩
    have hlt := (List.getElem?_eq_some_iff.mp hi).1
    refine g_name (g_wipe (hwp _) (g_yes (g_ifT ?_)))
    refine step y H' _ (List.mem_of_getElem? hi) ⟨_, hD', by
      refine szb ?_
      rw [List.length_map, List.length_replicate]
      omega, ?_, Same.mut sm hD⟩
    rw [upd_same, List.replicate_succ', List.map_append]
    rfl
  · rintro D hD H' ⟨hD', sm⟩
    exact q D H' sm hD'
theorem all_rep {n : Nat} : (List.replicate n true).all id = true := List.all_eq_true.mpr fun b hb => by
  rw [List.eq_of_mem_replicate hb]
  rfl
theorem szbl {n : Nat} (h : n ≤ 1000000) : n ≤ sizeLine := by
  have := sizeLine_eq
  omega
def sp_law_kinds (K : PySem.W.Frag) : Sp := fun vs H Q _ => ∃ (v : V) (ou : List Int) (r : Option Int) (hs : List (List Int)) (tr : List Ev), vs = [v] ∧ Im H v (.tuple [.tuple (ou.map .int), rsD r, .tuple (hs.map fun l => .tuple (l.map .int)), .tuple (tr.map Ev.d)]) ∧ ou.length ≤ 90000 ∧ hs.length ≤ 100 ∧ (∀ l ∈ hs, l.length ≤ 100) ∧ tr.length ≤ 90000 ∧ ∀ H', Q (.bl true) H'
theorem sc_law_kinds : FnScope ["told", "numbers", "words", "truths", "event", "number", "truth"] ["told"] (defScope (topS 63)) := ⟨rfl, rfl, rfl, by decide +kernel, rfl, by decide +kernel, by decide +kernel⟩
theorem ok_law_kinds (T : Txt fa fn K mg (CsOk cs K w)) : Dn P w K mg base CX0 1 "_law_kinds" ["told"] (sp_law_kinds K) := by
  refine mk_dn (d := dOf "_law_kinds" 63) T 51 51 rfl rfl rfl rfl rfl sc_law_kinds (by walk_at "len") (fun _ _ _ _ _ _ us hl => match us, hl with | [_], _ => rfl) (fun cdv A outer s H vs Q E hr h => ⟨_, (pss_cons (ps_set (i := 1) sc_law_kinds.nd rfl (.inl rfl) (pe_callTy (c_list (K := K) rfl) rfl (T.free 128 rfl) (by decide +kernel) (pa_cons (pe_ixU (K := K) rfl (hu_of hr) (pv 0) pe_int) pa_nil)))
      (pss_cons (ps_join (ps_if (pt_cmpR o_notN (pe_ixU (K := K) rfl (hu_of hr) (pv 0) pe_int) pe_non (nomark _)) (pss_one (ps_expr (pe_bm PySem.F.plainAttrs_list PySem.F.slot_list_append PySem.F.type_list_append mt_append (pv 1) (pa_cons (pe_ixU (K := K) rfl (hu_of hr) (pv 0) pe_int) pa_nil)))) pss_nil))
      (pss_cons (ps_for PassesOwn.never rfl (pi_seq (K := K) rfl (pe_ixU (K := K) rfl (hu_of hr) (pv 0) pe_int)) (pg_name (i := 2) sc_law_kinds.nd rfl (.inl rfl)) (pss_one (ps_expr (pe_bm PySem.F.plainAttrs_list PySem.F.slot_list_extend PySem.F.type_list_extend mt_extend (pv 1) (pa_cons (pe_callTy (c_list (K := K) rfl) rfl (T.free 128 rfl) (by decide +kernel) (pa_cons (pv 2) pa_nil)) pa_nil)))))
      (pss_cons (ps_set (i := 3) sc_law_kinds.nd rfl (.inl rfl) (pe_lst pa_nil))
      (pss_cons (ps_for PassesOwn.never rfl (pi_seq (K := K) rfl (pe_ixU (K := K) rfl (hu_of hr) (pv 0) pe_int)) (pg_name (i := 4) sc_law_kinds.nd rfl (.inl rfl)) (pss_cons (ps_expr (pe_bm PySem.F.plainAttrs_list PySem.F.slot_list_extend PySem.F.type_list_extend mt_extend (pv 1) (pa_cons (pe_callTy (c_list (K := K) rfl) rfl (T.free 128 rfl) (by decide +kernel) (pa_cons (pe_slice (sl_U (K := K) rfl) (pv 4) (po_some pe_int) (po_some pe_int)) pa_nil)) pa_nil)))
      (pss_one (ps_expr (pe_bm PySem.F.plainAttrs_list PySem.F.slot_list_extend PySem.F.type_list_extend mt_extend (pv 3) (pa_cons (pe_callTy (c_list (K := K) rfl) rfl (T.free 128 rfl) (by decide +kernel) (pa_cons (pe_slice (sl_U (K := K) rfl) (pv 4) (po_some pe_int) po_none) pa_nil)) pa_nil))))))
      (pss_cons (ps_if (pt_not (pt_tru (K := K) rfl (pe_callB (c_all (K := K) rfl rfl) rfl (T.free 122 rfl) (by decide +kernel) (pa_cons (pe_lc rfl sc_law_kinds.nd (pi_seq (K := K) rfl (pv 3)) (blkOk_by (own := [("truth", 6)]) (N := ["told", "numbers", "words", "truths", "event", "number", "truth"]) (sc := defScope (topS 63)) (by decide +kernel)) (fun _ _ _ _ _ => (pg_name (i := 6) sc_law_kinds.nd rfl (.inl rfl))) (fun _ _ _ _ _ => pts_nil) (fun _ _ _ _ _ => (pe_callB (c_isi (K := K) rfl) rfl (T.free 126 rfl) (by decide +kernel) (pa_cons (pv 6) (pa_cons (pe_bltn (v := .ty "bool") rfl (T.free 123 rfl) (by decide +kernel) rfl) pa_nil))))) pa_nil)))) (pss_one (ps_ret pe_bl)) pss_nil)
      (pss_one (ps_ret (pe_callB (c_all (K := K) rfl rfl) rfl (T.free 122 rfl) (by decide +kernel) (pa_cons (pe_lc rfl sc_law_kinds.nd (pi_seq (K := K) rfl (pv 1)) (blkOk_by (own := [("number", 5)]) (N := ["told", "numbers", "words", "truths", "event", "number", "truth"]) (sc := defScope (topS 63)) (by decide +kernel)) (fun _ _ _ _ _ => (pg_name (i := 5) sc_law_kinds.nd rfl (.inl rfl))) (fun _ _ _ _ _ => pts_nil) (fun _ _ _ _ _ => (pe_and (pe_callB (c_isi (K := K) rfl) rfl (T.free 126 rfl) (by decide +kernel) (pa_cons (pv 5) (pa_cons (pe_bltn (v := .ty "int") rfl (T.free 125 rfl) (by decide +kernel) rfl) pa_nil))) (pe_one (pe_not (pe_callB (c_isi (K := K) rfl) rfl (T.free 126 rfl) (by decide +kernel) (pa_cons (pv 5) (pa_cons (pe_bltn (v := .ty "bool") rfl (T.free 123 rfl) (by decide +kernel) rfl) pa_nil)))))))) pa_nil)))))))))), ?_⟩)
  obtain ⟨v, ou, r, hs, tr, rfl, iv, l1, l2, l3, l4, hQ⟩ := h
  walk_at "go"
  refine m_ix iv (n := 0) rfl rfl (fun v0 i0 => ?_)
  obtain ⟨a0, x0, rfl, ha0, ix0⟩ := i0.tup_inv
  obtain rfl := ims_int_inv' ix0
  walk_at "go"
  refine ⟨a0, _, rfl, .inr (SqT.of ha0), fun nb hnb => ?_⟩
  have s1 := Same.new (o := .lst (ou.map V.int)) hnb
  have h1 : upd H nb (.lst (ou.map V.int)) nb = some (.lst (ou.map V.int)) := upd_same
  have kt1 := KT.of s1
  generalize upd H nb (.lst (ou.map V.int)) = H1 at s1 h1 kt1
  have iv1 := iv.kt kt1
  walk_at "go"
  refine ⟨fun σ' H' => ∃ (ns : List Int) (o2 o3 o4 o5 o6 : Option V), σ' = [some v, some (.ref nb), o2, o3, o4, o5, o6] ∧ KT H H' ∧ H' nb = some (.lst (ns.map V.int)) ∧ ns.length ≤ 90001, ?_, ?_⟩
  · walk_at "go"
    refine m_ix iv1 (n := 1) rfl rfl (fun v1 i1 => ?_)
    cases r with
    | none =>
      obtain rfl := i1.non_inv
      walk_at "go"
      exact ⟨ou, _, _, _, _, _, rfl, kt1, h1, by omega⟩
    | some x =>
      obtain rfl := i1.int_inv
      walk_at "go"
      refine m_ix iv1 (n := 1) rfl rfl (fun v1 i1 => ?_)
      obtain rfl := i1.int_inv
      walk_at "go"
      have em : ou.map V.int ++ [V.int x] = (ou ++ [x]).map V.int := by
        rw [List.map_append]
        rfl
      refine ⟨nb, _, .int x, rfl, rfl, h1, szl (by rw [List.length_map]; omega), ?_⟩
      walk_at "go"
      refine ⟨ou ++ [x], _, _, _, _, _, rfl, kt1.trans (KT.set h1 (fun _ z => nomatch z)), by rw [upd_same, em], by rw [List.length_append, List.length_singleton]; omega⟩
  · rintro σ' H2 ⟨ns, o2, o3, o4, o5, o6, rfl, kt2, h2, n2⟩
    have iv2 := iv.kt kt2
    walk_at "go"
    refine m_ix iv2 (n := 2) rfl rfl (fun v2 i2 => ?_)
    refine m_seq i2 (fun wa wx e hwa hws => ?_)
    subst e
    have hwl := hws.length
    rw [List.length_map] at hwl
    refine f_tup (xs := wx) (fun i σ H' => ∃ (ns : List Int) (o2 o3 o4 o5 o6 : Option V), σ = [some v, some (.ref nb), o2, o3, o4, o5, o6] ∧ KT H2 H' ∧ H' nb = some (.lst (ns.map V.int)) ∧ ns.length ≤ 90001 + 100 * i) ⟨ns, _, _, _, _, _, rfl, KT.refl, h2, by omega⟩ ?_ ?_ ?_
    · rintro i σ H' hi ⟨ns, o2, o3, o4, o5, o6, rfl, k, h, n⟩
      exact SqT.of (k _ _ hwa)
    · rintro i y σ H3 hi ⟨ns, o2, o3, o4, o5, o6, rfl, k3, h3, n3⟩
      have hlt := (List.getElem?_eq_some_iff.mp hi).1
      have hl : hs[i]? = some (hs[i]'(by omega)) := List.getElem?_eq_getElem _
      generalize hs[i]'(by omega) = l at hl
      have ll := l3 l (List.mem_of_getElem? hl)
      obtain ⟨y', hy', iy⟩ := hws.get (n := i) (d := .tuple (l.map .int)) (by rw [List.getElem?_map, hl]; rfl)
      rw [hi] at hy'
      cases hy'
      obtain ⟨ya, yx, rfl, hya, iyx⟩ := (iy.kt k3).tup_inv
      obtain rfl := ims_int_inv' iyx
      walk_at "go"
      refine ⟨ya, _, rfl, .inr (SqT.of hya), fun lb hlb => ?_⟩
      have s4 := Same.new (o := .lst (l.map V.int)) hlb
      have h4 := s4 _ _ h3
      walk_at "go"
      have em : ns.map V.int ++ l.map V.int = (ns ++ l).map V.int := List.map_append.symm
      refine ⟨nb, lb, _, _, rfl, rfl, h4, upd_same, szbl (by rw [List.length_map, List.length_map]; omega), ?_⟩
      walk_at "go"
      refine ⟨ns ++ l, _, _, _, _, _, rfl, (k3.trans (KT.of s4)).trans (KT.set h4 (fun _ z => nomatch z)), by rw [upd_same, em], by rw [List.length_append]; omega⟩
    · rintro σ H3 ⟨ns, o2, o3, o4, o5, o6, rfl, k3, h3, n3⟩
      walk_at "go"
      refine ⟨by decide, fun tb htb => ?_⟩
      have s4 := Same.new (o := .lst []) htb
      have h4 := s4 _ _ h3
      have t4 : upd H3 tb (.lst []) tb = some (.lst (([] : List Bool).map V.bl)) := upd_same
      have k4 := (kt2.trans k3).trans (KT.of s4)
      generalize upd H3 tb (.lst []) = H4 at s4 h4 t4 k4
      have nbt : nb ≠ tb := fun e => by
        rw [e, htb] at h3
        cases h3
      have iv4 := iv.kt k4
      walk_at "go"
      refine m_ix iv4 (n := 3) rfl rfl (fun v5 i5 => ?_)
      refine m_seq i5 (fun ea ex e hea hes => ?_)
      subst e
      have hel := hes.length
      rw [List.length_map] at hel
      refine f_tup (xs := ex) (fun i σ H' => ∃ (ns : List Int) (bs : List Bool) (o2 o4 o5 o6 : Option V), σ = [some v, some (.ref nb), o2, some (.ref tb), o4, o5, o6] ∧ KT H4 H' ∧ H' nb = some (.lst (ns.map V.int)) ∧ H' tb = some (.lst (bs.map V.bl)) ∧ ns.length ≤ 110001 + 2 * i ∧ bs.length ≤ i) ⟨ns, [], _, _, _, _, rfl, KT.refl, h4, t4, by omega, Nat.le_refl _⟩ ?_ ?_ ?_
      · rintro i σ H' hi ⟨ns, bs, o2, o4, o5, o6, rfl, k, h, t, n, m⟩
        exact SqT.of (k _ _ hea)
      · rintro i y σ H5 hi ⟨ns, bs, o2, o4, o5, o6, rfl, k5, h5, t5, n5, m5⟩
        have hlt := (List.getElem?_eq_some_iff.mp hi).1
        have hl : tr[i]? = some (tr[i]'(by omega)) := List.getElem?_eq_getElem _
        generalize tr[i]'(by omega) = ev at hl
        obtain ⟨y', hy', iy⟩ := hes.get (n := i) (d := ev.d) (by rw [List.getElem?_map, hl]; rfl)
        rw [hi] at hy'
        cases hy'
        rw [ev_tup] at iy
        obtain ⟨c1, c2⟩ := ev_cut ev
        have iy5 := iy.kt k5
        have ln := evN_len (e := ev)
        have lt := evT_len (e := ev)
        walk_at "go"
        refine m_sl iy5 (fun p6 H6 s6 i6 => ?_)
        rw [c1] at i6
        obtain ⟨za, zx, e6, hza, izx⟩ := i6.tup_inv
        cases e6
        obtain rfl := ims_int_inv' izx
        walk_at "go"
        refine ⟨p6, _, rfl, .inr (SqT.of hza), fun lb hlb => ?_⟩
        have s7 := s6.trans (Same.new (o := .lst ((evN ev).map V.int)) hlb)
        have h7 := s7 _ _ h5
        have t7 := s7 _ _ t5
        walk_at "go"
        have em : ns.map V.int ++ (evN ev).map V.int = (ns ++ evN ev).map V.int := List.map_append.symm
        refine ⟨nb, lb, _, _, rfl, rfl, h7, upd_same, szbl (by rw [List.length_map, List.length_map]; omega), ?_⟩
        have k8 := (KT.of s7).trans (KT.set (o' := .lst (ns.map V.int ++ (evN ev).map V.int)) h7 (fun _ z => nomatch z))
        have h8 : upd (upd H6 lb (.lst ((evN ev).map V.int))) nb (.lst (ns.map V.int ++ (evN ev).map V.int)) nb = some (.lst ((ns ++ evN ev).map V.int)) := by rw [upd_same, em]
        have t8 : upd (upd H6 lb (.lst ((evN ev).map V.int))) nb (.lst (ns.map V.int ++ (evN ev).map V.int)) tb = some (.lst (bs.map V.bl)) := by rw [upd_ne (Ne.symm nbt)]; exact t7
        generalize upd (upd H6 lb (.lst ((evN ev).map V.int))) nb (.lst (ns.map V.int ++ (evN ev).map V.int)) = H8 at k8 h8 t8
        have iy8 := iy5.kt k8
        walk_at "go"
        refine m_sl iy8 (fun p9 H9 s9 i9 => ?_)
        rw [c2] at i9
        obtain ⟨za, zx, e6, hza, izx⟩ := i9.tup_inv
        cases e6
        obtain rfl := ims_bl_inv izx
        walk_at "go"
        refine ⟨p9, _, rfl, .inr (SqT.of hza), fun lb2 hlb2 => ?_⟩
        have s10 := s9.trans (Same.new (o := .lst ((evT ev).map V.bl)) hlb2)
        have h10 := s10 _ _ h8
        have t10 := s10 _ _ t8
        walk_at "go"
        have em2 : bs.map V.bl ++ (evT ev).map V.bl = (bs ++ evT ev).map V.bl := List.map_append.symm
        refine ⟨tb, lb2, _, _, rfl, rfl, t10, upd_same, szbl (by rw [List.length_map, List.length_map]; omega), ?_⟩
        walk_at "go"
        refine ⟨ns ++ evN ev, bs ++ evT ev, _, _, _, _, rfl, ((k5.trans k8).trans (KT.of s10)).trans (KT.set t10 (fun _ z => nomatch z)), by rw [upd_ne nbt]; exact h10, by rw [upd_same, em2], by rw [List.length_append]; omega, by rw [List.length_append]; omega⟩
      · rintro σ H5 ⟨ns, bs, o2, o4, o5, o6, rfl, k5, h5, t5, n5, m5⟩
        walk_at "go"
        refine l_trues t5 (by rw [List.length_map]; omega) (fun _ => rfl) (fun x H6 R hx hR => ?_) (fun D6 H6 s6 hD6 => ?_)
        · obtain ⟨b, _, rfl⟩ := List.mem_map.mp hx
          walk_at "go"
          exact hR
        have h6 := s6 _ _ h5
        walk_at "go"
        refine g_all (SqL.of hD6) ?_
        rw [all_rep]
        walk_at "go"
        refine l_trues h6 (by rw [List.length_map]; omega) (fun _ => rfl) (fun x H7 R hx hR => ?_) (fun D7 H7 s7 hD7 => ?_)
        · obtain ⟨b, _, rfl⟩ := List.mem_map.mp hx
          walk_at "go"
          exact hR
        · walk_at "go"
          refine g_all (SqL.of hD7) ?_
          rw [all_rep]
          exact hQ _


/-! ### k85: the law -/
section
variable {C : LC} {e P vj : Nat} {H H' : Hp} {a : LAd} {g : LG} {mc : MC} {ou : List Int} {Y : List (Addr × HO)} {p : Addr} {o : HO}
theorem LH.yadd (h : LH C e P vj H a g mc ou Y) (k : Same H H') (hn : H p = none) (hp : H' p = some o) : LH C e P vj H' a g mc ou (Y ++ [(p, o)]) := by
  refine h.re (KT.of k) ?_
  have z := (h.M.keep k).add hp (h.M.fresh hn)
  have e1 : ∀ (A B D : List (Addr × HO)), (A ++ (B ++ (D ++ Y))) ++ [(p, o)] = A ++ (B ++ (D ++ (Y ++ [(p, o)]))) := fun A B D => by simp
  unfold LaH at z ⊢
  rw [e1] at z
  exact z
end
theorem lay_ints {ns : List Int} : Lay 1 (.tuple (ns.map .int)) := Lay.tup fun d hd => by
  obtain ⟨x, _, rfl⟩ := List.mem_map.mp hd
  exact Lay.int
theorem lay_mach {rgs : List Rg} {p : Option Int × MS × MC} : Lay 3 (.tuple (machD rgs p)) := Lay.tup (k := 2) fun d hd => by
  simp only [machD, List.mem_cons, List.not_mem_nil, or_false] at hd
  rcases hd with rfl | rfl | rfl | rfl
  · exact lay_ints.mono (by decide)
  · cases p.1 with
    | none => exact (Lay.non (k := 0)).mono (by decide)
    | some x => exact (Lay.int (k := 0)).mono (by decide)
  · refine Lay.tup (k := 1) fun d hd => ?_
    obtain ⟨g, _, rfl⟩ := List.mem_map.mp hd
    refine Lay.tup (k := 0) fun d hd => ?_
    obtain ⟨j, _, rfl⟩ := List.mem_map.mp hd
    exact Lay.int
  · refine Lay.tup (k := 1) fun d hd => ?_
    obtain ⟨ev, _, rfl⟩ := List.mem_map.mp hd
    exact lay_ev
theorem w_pow {c : Cs} (h : CsDr c) : ∃ k, c.W = 2 ^ k := by
  rcases h.w with e | e | e | e
  · exact ⟨0, e⟩
  · exact ⟨1, e⟩
  · exact ⟨2, e⟩
  · exact ⟨3, e⟩
def sp_law (K : PySem.W.Frag) : Sp := fun vs H Q _ => ∃ (a : Addr) (ns : List Int), vs = [.ref a] ∧ SqL K H a (ns.map V.int) ∧ ns.length ≤ 63 ∧ ∀ H', Q (.bl true) H'
theorem sc_law : FnScope ["script", "draws", "code", "contents", "settings", "steps", "m", "s", "result", "due", "told"] ["script"] (defScope (topS 64)) := ⟨rfl, rfl, rfl, by decide +kernel, rfl, by decide +kernel, by decide +kernel⟩
theorem ok_law (T : Txt fa fn K mg (CsOk cs K w)) : Dn P w K mg base CX0 11 "law" ["script"] (sp_law K) := by
  refine mk_dn (d := dOf "law" 64) T 52 52 rfl rfl rfl rfl rfl sc_law (by walk_at "len") (fun _ _ _ _ _ _ us hl => match us, hl with | [_], _ => rfl) (fun cdv A outer s H vs Q E hr h => ⟨_, (pss_cons (ps_set (i := 1) sc_law.nd rfl (.inl rfl) (pe_callD (K := K) rfl (ok_law_reader T) (hr.mono (by decide)) rfl pass0 (pa_cons (pv 0) pa_nil)))
      (pss_cons (ps_set (i := 2) sc_law.nd rfl (.inl rfl) (pe_callD (K := K) rfl (ok_law_code T) (hr.mono (by decide)) rfl pass0 (pa_cons (pv 1) pa_nil)))
      (pss_cons (ps_set (i := 3) sc_law.nd rfl (.inl rfl) (pe_callD (K := K) rfl (ok_law_contents T) (hr.mono (by decide)) rfl pass0 (pa_cons (pv 1) (pa_cons (pv 2) pa_nil))))
      (pss_cons (ps_set (i := 4) sc_law.nd rfl (.inl rfl) (pe_callD (K := K) rfl (ok_law_settings T) (hr.mono (by decide)) rfl pass0 (pa_cons (pv 1) (pa_cons (pe_callB (c_len (K := K) rfl) rfl (T.free 127 rfl) (by decide +kernel) (pa_cons (pe_ixU (K := K) rfl (hu_of hr) (pv 2) pe_int) pa_nil)) (pa_cons (pe_callD (K := K) rfl (ok_law_end T) (hr.mono (by decide)) rfl pass0 (pa_cons (pv 2) pa_nil)) (pa_cons (pe_ixU (K := K) rfl (hu_of hr) (pe_lst (pa_cons pe_int (pa_cons pe_int pa_nil))) (pe_callD (K := K) rfl (ok_law_next T) (hr.mono (by decide)) rfl pass0 (pa_cons (pv 1) (pa_cons pe_int pa_nil)))) pa_nil))))))
      (pss_cons (ps_set (i := 5) sc_law.nd rfl (.inl rfl) (pe_ixU (K := K) rfl (hu_of hr) (pe_lst (pa_cons (pe_callD (K := K) rfl (ok_law_next T) (hr.mono (by decide)) rfl pass0 (pa_cons (pv 1) (pa_cons pe_int pa_nil))) (pa_cons pe_int pa_nil))) (pe_callD (K := K) rfl (ok_law_next T) (hr.mono (by decide)) rfl pass0 (pa_cons (pv 1) (pa_cons pe_int pa_nil)))))
      (pss_cons (ps_set (i := 6) sc_law.nd rfl (.inl rfl) (pe_callD (K := K) rfl (ok_law_machine T) (hr.mono (by decide)) rfl pass0 (pa_cons (pv 2) (pa_cons (pv 3) (pa_cons (pv 4) pa_nil)))))
      (pss_cons (ps_set (i := 7) sc_law.nd rfl (.inl rfl) (pe_disp (pps_cons pe_str (pe_op op_mulU (pe_lst (pa_cons pe_int pa_nil)) pe_int) (pps_cons pe_str (pe_op op_mulU (pe_lst (pa_cons pe_int pa_nil)) pe_int) (pps_cons pe_str (pe_callD (K := K) rfl (ok_law_memory T) (hr.mono (by decide)) rfl pass0 (pa_cons (pv 2) (pa_cons (pv 3) pa_nil))) pps_nil))) (by rfl) (by rfl) (fun z => by cases z) (by decide)))
      (pss_cons (ps_set (i := 8) sc_law.nd rfl (.inl rfl) (pe_callD (K := K) rfl (ok_law_run T) (hr.mono (by decide)) rfl pass0 (pa_cons (pv 6) (pa_cons (pv 4) (pa_cons (pv 7) (pa_cons (pv 2) (pa_cons (pv 5) pa_nil)))))))
      (pss_cons (ps_set (i := 9) sc_law.nd rfl (.inl rfl) (pe_tup (pa_cons (pe_callTy (c_tuple (K := K) rfl) rfl (T.free 135 rfl) (by decide +kernel) (pa_cons (pe_ixU (K := K) rfl (hu_of hr) (pv 6) pe_str) pa_nil)) (pa_cons (pv 8) (pa_cons (pe_callD (K := K) rfl (ok_law_held T) (hr.mono (by decide)) rfl pass0 (pa_cons (pv 2) (pa_cons (pe_ixU (K := K) rfl (hu_of hr) (pv 7) pe_str) pa_nil))) (pa_cons (pe_callTy (c_tuple (K := K) rfl) rfl (T.free 135 rfl) (by decide +kernel) (pa_cons (pe_ixU (K := K) rfl (hu_of hr) (pv 6) pe_str) pa_nil)) pa_nil))))))
      (pss_cons (ps_set (i := 10) sc_law.nd rfl (.inl rfl) (pe_callD (K := K) rfl (ok_run_machine T) (hr.mono (by decide)) rfl pass0 (pa_cons (pv 2) (pa_cons (pv 3) (pa_cons (pv 4) (pa_cons (pv 5) pa_nil))))))
      (pss_one (ps_ret (pe_and (pe_cmpR (op_eqU (K := K) rfl hr.units) (pv 10) (pv 9) (nomark _)) (pe_one (pe_callD (K := K) rfl (ok_law_kinds T) (hr.mono (by decide)) rfl pass0 (pa_cons (pv 10) pa_nil)))))))))))))))), ?_⟩)
  obtain ⟨a, ns, rfl, hS, hlen, hQ⟩ := h
  walk_at "go"
  refine use_readerD hS hlen (fun H1 d s1 hd D1 => ?_)
  walk_at "go"
  refine ⟨d, [], rfl, D1, fun H2 code rgs rows k2 D2 ic ro co => ?_⟩
  walk_at "go"
  refine ⟨d, [], code, rgs, rows, rfl, D2, ic, ro, fun H3 cont cs k3 D3 ik mo => ?_⟩
  have ic3 := D2.im k3 ic
  have cu := co.u
  walk_at "go"
  refine m_ix ic3 (n := 1) rfl rfl (fun v hv => ?_)
  walk_at "go"
  refine m_len hv ?_
  rw [List.length_map]
  walk_at "go"
  refine ⟨code, rgs, rows, rfl, ic3, ro, fun H4 e4 s4 h40 h41 => ?_⟩
  have D4 := D3.same s4
  have ic4 := ic3.same s4
  have ik4 := ik.same s4
  walk_at "go"
  refine use_pk D4 rfl rfl (by simp) (by simp) (fun H4' vd k4' D4' hvd => ?_)
  obtain ⟨nd, rfl, hnd⟩ : ∃ n : Int, vd = .int n ∧ (n = 12 ∨ n = 64) := by
    simp only [List.mem_cons, List.not_mem_nil, or_false] at hvd
    rcases hvd with rfl | rfl
    · exact ⟨_, rfl, .inl rfl⟩
    · exact ⟨_, rfl, .inr rfl⟩
  walk_at "go"
  refine ⟨d, [], rows.length, e4, nd, rfl, D4', by omega, by omega, h40, h41, by omega, by omega, fun H5 sv t k5 D5 is sd => ?_⟩
  have ic5 := D4'.im k5 (D4.im k4' ic4)
  have ik5 := D4'.im k5 (D4.im k4' ik4)
  walk_at "go"
  refine use_nx D5 (by decide) (fun H6 v6 k6 D6 h60 h61 => ?_)
  walk_at "go"
  refine use_pk D6 rfl rfl (by simp) (by simp) (fun H7 v7 k7 D7 hv7 => ?_)
  obtain ⟨n, rfl, hn⟩ : ∃ n : Nat, v7 = .int (n : Int) ∧ n ≤ 70 := by
    simp only [List.mem_cons, List.not_mem_nil, or_false] at hv7
    rcases hv7 with rfl | rfl
    · exact ⟨v6.toNat, by rw [Int.toNat_of_nonneg h60], by omega⟩
    · exact ⟨70, rfl, by decide⟩
  have ic7 := D6.im k7 (D5.im k6 ic5)
  have ik7 := D6.im k7 (D5.im k6 ik5)
  have is7 := D6.im k7 (D5.im k6 is)
  obtain ⟨hd1, wd1⟩ := w_pow sd.dc
  obtain ⟨hf1, wf1⟩ := w_pow sd.fc
  have ck : LCOk ⟨t, rows, ⟨0, 0, 0, 0, 0, List.replicate t.dc.S 0, List.replicate t.dc.S 0, List.replicate t.dc.S 0⟩, ⟨0, 0, 0, 0, 0, List.replicate t.fc.S 0, List.replicate t.fc.S 0, List.replicate t.fc.S 0⟩, hd1, hf1⟩ := ⟨wd1, wf1, rfl, rfl⟩
  generalize hC : (⟨t, rows, ⟨0, 0, 0, 0, 0, List.replicate t.dc.S 0, List.replicate t.dc.S 0, List.replicate t.dc.S 0⟩, ⟨0, 0, 0, 0, 0, List.replicate t.fc.S 0, List.replicate t.fc.S 0, List.replicate t.fc.S 0⟩, hd1, hf1⟩ : LC) = C at ck
  have ct : C.t = t := by rw [← hC]
  have cr : C.rows = rows := by rw [← hC]
  walk_at "go"
  refine ⟨C, [], code, cont, sv, rfl, Has.nil, by rw [ct]; exact is7, by rw [ct]; exact sd, ck, fun H8 la g8 kt8 L8 => ?_⟩
  have ic8 := ic7.kt kt8
  have ik8 := ik7.kt kt8
  have is8 := is7.kt kt8
  walk_at "go"
  intro cs0 hcs0
  have L9 := L8.ynew (o := .dK []) hcs0
  have s9 := Same.new (o := .dK []) hcs0
  generalize upd H8 cs0 (.dK []) = H9 at L9 s9
  walk_at "go"
  have e16 : (16 : Int).toNat = 16 := rfl
  have erep : List.replicate 16 (V.int 0) = (List.replicate 16 (0 : Int)).map V.int := rfl
  refine ⟨by decide, fun u1 hu1 => ?_⟩
  have s10 := Same.new (o := .lst [.int 0]) hu1
  have L10 := L9.same s10
  have at10 : upd H9 u1 (.lst [.int 0]) u1 = some (.lst [.int 0]) := upd_same
  generalize upd H9 u1 (.lst [.int 0]) = H10 at L10 at10 s10
  walk_at "go"
  refine g_repI at10 (by omega) (by omega) (fun p1 hp1 => ?_)
  have L11 := L10.ynew (o := .lst ((List.replicate (16 : Int).toNat (0 : Int)).map V.int)) hp1
  have s11 := Same.new (o := .lst ((List.replicate (16 : Int).toNat (0 : Int)).map V.int)) hp1
  generalize upd H10 p1 (.lst ((List.replicate (16 : Int).toNat (0 : Int)).map V.int)) = H11 at L11 s11
  walk_at "go"
  refine ⟨by decide, fun u2 hu2 => ?_⟩
  have s12 := Same.new (o := .lst [.int 0]) hu2
  have L12 := L11.same s12
  have at12 : upd H11 u2 (.lst [.int 0]) u2 = some (.lst [.int 0]) := upd_same
  generalize upd H11 u2 (.lst [.int 0]) = H12 at L12 at12 s12
  walk_at "go"
  refine g_repI at12 (by omega) (by omega) (fun p2 hp2 => ?_)
  have L13 := L12.ynew (o := .lst ((List.replicate (16 : Int).toNat (0 : Int)).map V.int)) hp2
  have s13 := Same.new (o := .lst ((List.replicate (16 : Int).toNat (0 : Int)).map V.int)) hp2
  generalize upd H12 p2 (.lst ((List.replicate (16 : Int).toNat (0 : Int)).map V.int)) = H13 at L13 s13
  have s813 := (((s9.trans s10).trans s11).trans s12).trans s13
  walk_at "go"
  refine ⟨code, cont, rgs, cs, rows, rfl, ic8.same s813, ik8.same s813, mo, fun H14 p3 s14 hp3 hw3 => ?_⟩
  have L14 := L13.yadd s14 hp3 hw3
  have s814 := s813.trans s14
  walk_at "go"
  refine ⟨L14.yget 0 rfl, [(.inr "held", .ref p1), (.inr "ready", .ref p2), (.inr "words", .ref p3)], rfl, by show 3 ≤ 15; decide, ?_⟩
  have em : mergeK [] [(.inr "held", .ref p1), (.inr "ready", .ref p2), (.inr "words", .ref p3)] = sK (sL ⟨cs0, p1, p2, p3⟩) := sK_made (r := []) (l := sL ⟨cs0, p1, p2, p3⟩) nd_s
  rw [em]
  obtain ⟨k15, L15⟩ := L14.yset (o' := .dK (sK (sL ⟨cs0, p1, p2, p3⟩))) 0 rfl (fun _ z => nomatch z)
  have L15 : LH C 0 12 0 (upd H14 cs0 (.dK (sK (sL ⟨cs0, p1, p2, p3⟩)))) la g8 (mc0 C.t) [] (SaL ⟨cs0, p1, p2, p3⟩ (ms0 rgs cs) (List.replicate 16 0) []) := L15
  generalize upd H14 cs0 (.dK (sK (sL ⟨cs0, p1, p2, p3⟩))) = H15 at k15 L15
  have kt15 := (KT.of s814).trans k15
  have ic15 := ic8.kt kt15
  have ik15 := ik8.kt kt15
  have is15 := is8.kt kt15
  obtain ⟨e1, e2, e3, e4'⟩ := pres_keep C.t.bef (mc00 C.t)
  have e3 : (mc0 C.t).vi = 0 := e3
  have e4' : (mc0 C.t).tr = [] := e4'
  have lv := sd.v.l
  have ok15 : COk C.k C.ad C.ac 10 (mc0 C.t) := by
    refine ⟨L15.dw, L15.fw, L15.pr.ok, by rw [e3]; exact Nat.zero_le _, ?_⟩
    unfold phi
    rw [e3, e4']
    show 0 + (C.t.vis.length - 0) ≤ 10
    rw [ct]
    omega
  have L15 : LH C 0 12 (mc0 C.t).vi H15 la g8 (mc0 C.t) (ms0 rgs cs).ou (SaL ⟨cs0, p1, p2, p3⟩ (ms0 rgs cs) (List.replicate 16 0) []) := by rw [e3]; exact L15
  have mok := ms0_ok mo
  rw [← ct] at sd is15
  have co' := co
  rw [← cr] at co' ic15
  walk_at "go"
  refine ⟨C, 12, 10, 500, n, covG rgs, la, g8, mc0 C.t, [], sv, code, rgs, ⟨cs0, p1, p2, p3⟩, ms0 rgs cs, List.replicate 16 0, rfl, L15, ok15, mok, List.length_replicate, ic15, co', is15, sd, by omega, by omega, by omega, fun H16 g16 rd16 b16 P16 kt16 L16 mo16 lt16 hb16 => ?_⟩
  have efin : runMM C.k n 0 (ms0 rgs cs) (List.replicate 16 0) (mc0 C.t) = machR t rows rgs cs n := by
    rw [← ct, ← cr]
    rfl
  rw [efin] at L16 mo16 lt16
  rw [efin]
  rw [ct] at sd is15
  rw [cr] at ic15
  have ic16 := ic15.kt kt16
  have ik16 := ik15.kt kt16
  have is16 := is15.kt kt16
  have hou16 := mo16.m
  generalize hfin : machR t rows rgs cs n = fin at L16 mo16 lt16 hou16
  have go16 : H16 la.ao = some (.lst (fin.2.1.ou.map V.int)) := L16.M.get 4 rfl
  walk_at "go"
  refine g_ixD (dg_s L16.gm nd_m 7 rfl) ?_
  walk_at "go"
  refine m_tupleL (SqL.of go16) (ims_ints _) (fun q17 H17 s17 _ i17 => ?_)
  have L17 := L16.same s17
  walk_at "go"
  refine g_ixD (dg_s (L17.yget 0 rfl) nd_s 2 rfl) ?_
  walk_at "go"
  refine ⟨code, p3, rgs, rows, fin.2.1, b16, rfl, L17.yget 3 rfl, ic16.same s17, mo16, (fun g hg => Nat.le_trans (ro.n g hg) (by decide)), ro.u, fun H18 v18 s18 i18 => ?_⟩
  have L18 := L17.same s18
  have gt18 : H18 la.at_ = some (.lst g16.tv) := L18.M.get 3 rfl
  walk_at "go"
  refine g_ixD (dg_s L18.gm nd_m 6 rfl) ?_
  walk_at "go"
  refine m_tupleL (SqL.of gt18) L18.tr (fun q19 H19 s19 _ i19 => ?_)
  have j17 := (i17.same s18).same s19
  have j18 := i18.same s19
  walk_at "go"
  refine m_new (.cons j17 (.cons (im_rs fin.1) (.cons j18 (.cons i19 .nil)))) (by simp) (fun q20 H20 s20 _ i20 => ?_)
  have i20 : Im H20 (.ref q20) (.tuple (machD rgs fin)) := i20
  have s1620 := ((s17.trans s18).trans s19).trans s20
  walk_at "go"
  refine ⟨code, cont, sv, n, t, rows, rgs, cs, [], rfl, Has.nil, ic16.same s1620, ik16.same s1620, mo, co, is16.same s1620, sd.ok, by omega, fun H21 v21 k21 _ i21 _ _ => ?_⟩
  rw [hfin] at i21
  walk_at "go"
  refine m_eq i21 (i20.kt k21) (lay_mach.shaped (by decide)) (lay_mach.shaped (by decide)) ?_
  rw [lay_mach.refl]
  walk_at "go"
  have eh : heldD rgs fin.2.1 = (rgs.map fun g => (List.range g.n).map fun (j : Nat) => wdV fin.2.1.wd (g.b + (j : Int))).map fun l => PyData.tuple (l.map .int) := by
    unfold heldD
    rw [List.map_map]
    refine List.map_congr_left fun g _ => ?_
    show PyData.tuple _ = PyData.tuple (((List.range g.n).map _).map _)
    rw [List.map_map]
    rfl
  have i21' : Im H21 v21 (.tuple [.tuple (fin.2.1.ou.map .int), rsD fin.1, .tuple ((rgs.map fun g => (List.range g.n).map fun (j : Nat) => wdV fin.2.1.wd (g.b + (j : Int))).map fun l => PyData.tuple (l.map .int)), .tuple (fin.2.2.tr.map Ev.d)]) := by
    rw [← eh]
    exact i21
  refine ⟨v21, fin.2.1.ou, fin.1, _, fin.2.2.tr, rfl, i21', by omega, by rw [List.length_map]; have := ro.u; omega, fun l hl => ?_, by omega, hQ⟩
  obtain ⟨g, hg, rfl⟩ := List.mem_map.mp hl
  rw [List.length_map, List.length_range]
  exact Nat.le_trans (ro.n g hg) (by decide)


theorem facts {P : Program} {w : World} {K : PySem.W.Frag} {h : Heap} {mg : Str → Option Value} {f : Addr} (X : K.In h) (G : h.Ns mainGlobals mg) (hfa : mg ("law" : Str) = some (.ref f)) (c : He.SaysX fa fn (tabs cs) [] (exB cs) w h K) :
    ∃ fd : FuncData, (∀ (s : Shared) (v : Value), BindsTo s fd ⟨[v], []⟩ [("script", v)]) ∧ ∀ base : Heap, K.In base → base.Ns mainGlobals mg → FnOk P w K mg base CX0 11 f fd ["script"] (sp_law K) :=
  law_facts (d := dOf "law" 64) X G hfa c.t.d (CsOk.of c) 52 52 rfl rfl rfl rfl rfl (fun _ _ _ _ _ _ us hl => match us, hl with | [_], _ => rfl) fun _ T => ok_law T
end K85
theorem PySem.Challenge.cw_sameclock_k85_whole_the_machine_by_its_r_holds : PySem.Challenge.rw_sameclock_k85_whole_the_machine_by_its_r.Holds :=
  K85.fin K85.facts
#print axioms PySem.Challenge.cw_sameclock_k85_whole_the_machine_by_its_r_holds

