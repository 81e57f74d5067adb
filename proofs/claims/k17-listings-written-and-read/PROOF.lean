import PyProof.Rows.All
import Wide.All
import OpenK.AllK
import Wide.FinOn
import HandS.ForMost
import HandS.Wide
import HandS.WideMore
import HandS.IsInst
import HandS.Defaults
import HandS.Flow
import HandS.TupAny
import HandS.Conv
import HandS.Exc
import HandS.TupMul
import HandS.Zip
import HandS.SetFor
import HandS.Strs
import HandS.Dict
import HandS.TupSets
import HandS.Style
import HandS.Head0
import HandS.Head1
import HandS.Head2
import HandS.HeadEnd
import HandS.HeadHook1
import HandS.HeadHook2
import HandS.HeadHook3
import HandS.HeadHook4
import HandS.More
import HandS.Text
import HandS.Codes
import HandS.RaiseMore
import HandS.Walk
import PySem.Challenge.RW_sameclock_k17_listings_written_and_read
set_option Elab.async false
set_option linter.all false
set_option maxRecDepth 100000
set_option maxHeartbeats 4000000
/-! Own base: a heap told by a list of its objects, frames of calls, joins of ways, whiles by a measure, calls by one structure. -/
namespace G
open PySem PySem.Spec PyProof.Rows L2

/-- the objects one speaks of, each once -/
structure Has (H : Hp) (L : List (Addr × HO)) : Prop where
  nd : (L.map (·.1)).Nodup
  is_ : ∀ p ∈ L, H p.1 = some p.2

section
variable {H H' : Hp} {L : List (Addr × HO)} {a p : Addr} {o o' : HO}
theorem Has.nil : Has H [] := ⟨List.nodup_nil, fun _ h => nomatch h⟩
theorem Has.get (M : Has H L) (i : Nat) (h : L[i]? = some (a, o)) : H a = some o := M.is_ _ (List.mem_of_getElem? h)
theorem Has.one (h : H a = some o) : Has H [(a, o)] := ⟨by simp, fun p hp => by
  rw [List.mem_singleton.mp hp]
  exact h⟩
theorem keep_new (h : H a = some o) (hp : H p = none) : upd H p o' a = some o := by
  rw [upd_ne (ne_of_none h hp)]
  exact h
theorem Has.fresh (M : Has H L) (hp : H p = none) : p ∉ L.map (·.1) := fun h => by
  obtain ⟨q, hq, e⟩ := List.mem_map.mp h
  have := M.is_ q hq
  rw [e, hp] at this
  cases this
theorem Has.new (M : Has H L) (hp : H p = none) : Has (upd H p o) (L ++ [(p, o)]) where
  nd := by
    rw [List.map_append, List.nodup_append]
    refine ⟨M.nd, by simp, fun x hx y hy e => ?_⟩
    simp only [List.map_cons, List.map_nil, List.mem_singleton] at hy
    subst hy
    subst e
    exact M.fresh hp hx
  is_ := fun q hq => by
    rcases List.mem_append.mp hq with h | h
    · exact keep_new (M.is_ q h) hp
    · rw [List.mem_singleton.mp h]
      exact upd_same
theorem nodup_fst {L : List (Addr × HO)} (nd : (L.map (·.1)).Nodup) {i j : Nat} {a : Addr} {x y : HO} (hi : L[i]? = some (a, x)) (hj : L[j]? = some (a, y)) : i = j := by
  have h1 : (L.map (·.1))[i]? = some a := by rw [List.getElem?_map, hi]; rfl
  have h2 : (L.map (·.1))[j]? = some a := by rw [List.getElem?_map, hj]; rfl
  exact nd_ix nd h1 h2
theorem map_fst_set : ∀ {L : List (Addr × HO)} {i : Nat} {o o' : HO} {a : Addr}, L[i]? = some (a, o) → (L.set i (a, o')).map (·.1) = L.map (·.1)
  | [], _, _, _, _, h => by simp at h
  | p :: L, 0, _, _, _, h => by
    simp only [List.getElem?_cons_zero, Option.some.injEq] at h
    subst h
    rfl
  | p :: L, i + 1, o, o', a, h => by
    simp only [List.getElem?_cons_succ] at h
    simp only [List.set_cons_succ, List.map_cons, List.cons.injEq, true_and]
    exact map_fst_set h
/-- the object at place i is another one in H', the others stand -/
theorem Has.put (M : Has H L) (i : Nat) (h : L[i]? = some (a, o)) (k : ∀ b u, H b = some u → b ≠ a → H' b = some u) (e : H' a = some o') : Has H' (L.set i (a, o')) where
  nd := by
    rw [map_fst_set h]
    exact M.nd
  is_ := fun q hq => by
    obtain ⟨j, hj, e2⟩ := List.mem_iff_getElem.mp hq
    have hj' : (L.set i (a, o'))[j]? = some q := by rw [List.getElem?_eq_getElem hj, e2]
    rw [List.getElem?_set] at hj'
    split at hj'
    · split at hj'
      · cases hj'
        exact e
      · cases hj'
    · rename_i hij
      have hm := M.is_ q (List.mem_of_getElem? hj')
      refine k _ _ hm fun ea => hij ?_
      obtain ⟨b, u⟩ := q
      subst ea
      exact nodup_fst M.nd h hj'
theorem Has.set (M : Has H L) (i : Nat) (h : L[i]? = some (a, o)) : Has (upd H a o') (L.set i (a, o')) :=
  M.put i h (fun b u e n => by rw [upd_ne n]; exact e) upd_same
theorem Has.keep (M : Has H L) (k : Same H H') : Has H' L := ⟨M.nd, fun p hp => k _ _ (M.is_ p hp)⟩
theorem Has.sub (M : Has H L) {L' : List (Addr × HO)} (h : L'.Sublist L) : Has H L' := ⟨M.nd.sublist (h.map _), fun p hp => M.is_ p (h.subset hp)⟩
theorem Has.perm (M : Has H L) {L' : List (Addr × HO)} (h : L.Perm L') : Has H L' := ⟨(h.map _).nodup_iff.mp M.nd, fun p hp => M.is_ p (h.mem_iff.mpr hp)⟩
theorem Has.ne (M : Has H L) {b : Addr} {u : HO} (i j : Nat) (hi : L[i]? = some (a, o)) (hj : L[j]? = some (b, u)) (hij : i ≠ j) : a ≠ b := fun e => by
  subst e
  exact hij (nodup_fst M.nd hi hj)
end

/-- all that was tracked stands, but what stands at ms -/
def Keep (ms : List Addr) (H H' : Hp) : Prop := ∀ b o, H b = some o → b ∉ ms → H' b = some o
section
variable {ms : List Addr} {H H1 H2 : Hp} {L : List (Addr × HO)} {a p : Addr} {o o' : HO}
theorem Keep.refl : Keep ms H H := fun _ _ h _ => h
theorem Keep.trans (x : Keep ms H H1) (y : Keep ms H1 H2) : Keep ms H H2 := fun b o h n => y b o (x b o h n) n
theorem Keep.of (x : Same H H1) : Keep ms H H1 := fun b o h _ => x b o h
theorem Keep.same (x : Keep [] H H1) : Same H H1 := fun b o h => x b o h (nomatch ·)
theorem Keep.mono {ns : List Addr} (x : Keep ms H H1) (h : ∀ b ∈ ms, b ∈ ns) : Keep ns H H1 := fun b o e n => x b o e fun z => n (h b z)
theorem Same.new (hp : H p = none) : Same H (upd H p o) := fun b u h => keep_new h hp
theorem Keep.new (hp : H p = none) : Keep ms H (upd H p o) := .of (Same.new hp)
theorem Keep.set (h : a ∈ ms) : Keep ms H (upd H a o) := fun b u e n => by
  rw [upd_ne fun z => n (by rw [z]; exact h)]
  exact e
/-- an object that H does not know is changed -/
theorem Keep.mut (x : Keep ms H H1) (h : H a = none) : Keep ms H (upd H1 a o) := fun b u e n => by
  rw [upd_ne (ne_of_none e h)]
  exact x b u e n
theorem Has.call1 (M : Has H L) (k : Keep [a] H H1) (i : Nat) (h : L[i]? = some (a, o)) (e : H1 a = some o') : Has H1 (L.set i (a, o')) :=
  M.put i h (fun b u q n => k b u q (by simpa using n)) e
theorem Same.back (k : Same H H1) (h : H1 p = none) : H p = none := k.free h
theorem Keep.back (k : Keep ms H H1) (h : H1 p = none) (hm : p ∉ ms) : H p = none := by
  cases e : H p with
  | none => rfl
  | some o =>
    rw [k p o e hm] at h
    cases h
end

/-! ### joins, whiles -/
section
variable {X : Cx} {st : Stmt} {sts : List Stmt} {t : TS}
/-- behind a statement N holds, from which one goes on -/
def tJoin (t : TS) : TS := fun D σ H => ∃ N : L2.St → Hp → Prop, t { D with nx := N } σ H ∧ ∀ σ' H', N σ' H' → D.nx σ' H'
theorem SP.nx {pins : List (Addr × Obj)} {D : Ends} {N : L2.St → Hp → Prop} (h : ∀ σ' H', N σ' H' → D.nx σ' H') {f : PySem.Flow} {s' : Shared} (z : SP X pins { D with nx := N } f s') : SP X pins D f s' := by
  cases f with
  | next =>
    obtain ⟨σ', H', I, q⟩ := z
    exact ⟨σ', H', I, h _ _ q⟩
  | brk => exact z
  | cont => exact z
  | ret u => exact z
theorem ps_join (h : PS X st t) : PS X st (tJoin t) := ⟨fun pins s σ H D I ⟨N, h1, h2⟩ => thn (h.run pins s σ H _ I h1) fun _ _ z => SP.nx h2 z⟩
theorem pss_join (h : PSs X sts t) : PSs X sts (tJoin t) := ⟨fun pins s σ H D I ⟨N, h1, h2⟩ => thn (h.run pins s σ H _ I h1) fun _ _ z => SP.nx h2 z⟩
end

/-! ### the text's facts, defs by name -/
structure Txt (fa : List He.Fa) (fn : List He.DefD) (K : PySem.W.Frag) (mg : Str → Option Value) (ex : Prop := True) : Prop where
  c : He.SaysD fa fn K
  h : ∃ h : Heap, K.In h ∧ h.Ns mainGlobals mg
  m : ex
/-- a def that calls may name -/
structure Dn (P : Program) (w : World) (K : PySem.W.Frag) (mg : Str → Option Value) (base : Heap) (CX : CXT) (k : Nat) (x : Str) (ps : List Str) (sp : Sp) : Prop where
  ex : ∃ (f : Addr) (fd : FuncData), FnOk P w K mg base CX k f fd ps sp ∧ mg x = some (.ref f) ∧ PySem.W.keepIn K (.ref f) = true ∧ Binds K fd ps [] ∧ ∃ oc od osl, K.lookup f = some ⟨oc, od, .func fd, osl⟩
section
variable {fa : List He.Fa} {fn : List He.DefD} {P : Program} {w : World} {K : PySem.W.Frag} {mg : Str → Option Value} {base : Heap} {ex : Prop}
theorem Txt.glo (T : Txt fa fn K mg ex) (j : Nat) {x : Str} (h : fa[j]? = some (.glo x)) : mg x = some (.ref (He.ga K x)) := by
  obtain ⟨_, X, G⟩ := T.h
  exact He.glo_ok X G (T.c.fact j h)
theorem Txt.free (T : Txt fa fn K mg ex) (j : Nat) {x : Str} (h : fa[j]? = some (.free x)) : mg x = none := by
  obtain ⟨_, X, G⟩ := T.h
  exact He.free_ok X G (T.c.fact j h)
theorem Txt.int (T : Txt fa fn K mg ex) (j : Nat) {x : Str} {i : Int} (h : fa[j]? = some (.int x i)) : ∃ t, mg x = some (.int i t) := by
  obtain ⟨_, X, G⟩ := T.h
  exact He.int_ok X G (T.c.fact j h)
theorem Txt.def_ (T : Txt fa fn K mg ex) (i j : Nat) {d : He.DefD} (hd : fn[i]? = some d) (hg : fa[j]? = some (.glo d.at_.1)) (hm : d.at_.2 = none) (h1 : d.dfl = []) (h2 : d.kwd = []) :
    (∃ fd, FunD K d.name d.qual d.params d.body d.scope [] [] (He.ga K d.at_.1) fd) ∧ mg d.at_.1 = some (.ref (He.ga K d.at_.1)) := by
  refine ⟨?_, T.glo j hg⟩
  obtain ⟨fd, F⟩ := T.c.def_ i hd
  have e : He.fAd K d.at_ = He.ga K d.at_.1 := by
    unfold He.fAd
    rw [hm]
  have e1 : d.dvs K = [] := by
    unfold He.DefD.dvs
    rw [h1]
    rfl
  have e2 : d.kws K = [] := by
    unfold He.DefD.kws
    rw [h2]
    rfl
  rw [e, e1, e2] at F
  exact ⟨fd, F⟩
theorem Txt.str (T : Txt fa fn K mg ex) (j : Nat) {x z : Str} (h : fa[j]? = some (.str x z)) : ∃ t, mg x = some (.str z t) := by
  obtain ⟨_, X, G⟩ := T.h
  exact He.str_ok X G (T.c.fact j h)
/-- a global number, a global text -/
theorem pe_gint {X : Cx} (T : Txt fa fn K mg ex) (e : X.mg = mg) {x : Str} {i : Int} {pos : Pos} (j : Nat) (h : fa[j]? = some (.int x i)) (hg : Gl X x) (hd : (x == ("__debug__" : Str)) = false := by decide) : PE X (.Name x pos) (tC (.int i)) := by
  obtain ⟨t, ht⟩ := T.int j h
  exact pe_glob hg (by rw [e]; exact ht) ⟨t, rfl⟩ hd
theorem pe_gstr {X : Cx} (T : Txt fa fn K mg ex) (e : X.mg = mg) {x z : Str} {pos : Pos} (j : Nat) (h : fa[j]? = some (.str x z)) (hg : Gl X x) (hd : (x == ("__debug__" : Str)) = false := by decide) : PE X (.Name x pos) (tC (.str z)) := by
  obtain ⟨t, ht⟩ := T.str j h
  exact pe_glob hg (by rw [e]; exact ht) ⟨t, rfl⟩ hd
/-- a def without defaults that lets nothing out -/
theorem mk_dn (T : Txt fa fn K mg ex) (i j : Nat) {d : He.DefD} {N ps : List Str} {k : Nat} {sp : Sp} (hd : fn[i]? = some d) (hg : fa[j]? = some (.glo d.at_.1)) (hm : d.at_.2 = none) (h1 : d.dfl = []) (h2 : d.kwd = [])
    (S : FnScope N ps d.scope) (len : ∀ vs H Q E, sp vs H Q E → vs.length = ps.length)
    (hb : ∀ (kV doc pm : Value) (an : Option Addr) (cdv ct : Value) (us : List Value), us.length = ps.length → bindArgs (PySem.W.fnOf d.name d.qual d.params d.body d.scope .none kV doc pm an cdv ct) ⟨us, []⟩ = pure (ps.zip us))
    (hbody : ∀ (cdv : Value) (A : Around) (outer : List Env) (s : Shared) (H : Hp) (vs : List V) (Q : VK) (E : XK), Room k (A.deeper (envOfC d.qual d.scope s.heap.objs.size (He.ga K d.at_.1) cdv)) → sp vs H Q E →
      ∃ t, PSs (cxOf CX0 P w K mg base N d.qual d.scope (He.ga K d.at_.1) cdv A outer s H E).nox d.body t ∧ t { nx := fun _ H' => Q .non H', rt := Q } (start N vs) H) : Dn P w K mg base CX0 (k + 1) d.at_.1 ps sp := by
  obtain ⟨⟨fd, F⟩, g⟩ := T.def_ i j hd hg hm h1 h2
  refine ⟨_, fd, F.ok S len fun cdv A outer s H vs Q E hr h => ?_, g, F.kp, F.bindsN hb, by
    obtain ⟨oc, od, dV, kV, doc, pm, an, cdv, ct, osl, e, lk, _⟩ := F.ex
    exact ⟨_, _, _, lk⟩⟩
  obtain ⟨t, p, q⟩ := hbody cdv A outer s H vs Q E hr h
  exact ⟨t, p.nox, q⟩
theorem Dn.imp {CX : CXT} {k : Nat} {x : Str} {ps : List Str} {sp sp' : Sp} (D : Dn P w K mg base CX k x ps sp) (h : ∀ vs H Q E, sp' vs H Q E → sp vs H Q E) : Dn P w K mg base CX k x ps sp' := by
  obtain ⟨f, fd, F, a, b, c⟩ := D.ex
  exact ⟨f, fd, F.imp h, a, b, c⟩
theorem Dn.mono {CX : CXT} {j k : Nat} {x : Str} {ps : List Str} {sp : Sp} (D : Dn P w K mg base CX j x ps sp) (h : j ≤ k) : Dn P w K mg base CX k x ps sp := by
  obtain ⟨f, fd, F, a, b, c⟩ := D.ex
  exact ⟨f, fd, F.mono h, a, b, c⟩
end
section
variable {X : Cx} {CX : CXT} {k : Nat} {ps : List Str} {sp : Sp} {E : XK} {x : Str} {p pos : Pos} {e : Expr} {es : List Expr} {t : TA}
theorem pe_callD {K : PySem.W.Frag} (hK : X.K = K) (D : Dn X.prog X.w K X.mg X.base CX k x ps sp) (hr : Room k X.A) (hg : Gl X x) (hx : Passes CX X E)
    (ha : PA X (e :: es) t) (hdb : (x == ("__debug__" : Str)) = false := by decide) (he : starEach (e :: es) X.env = (false, eval e X.env) :: starEach es X.env := by rfl) (hpl : (backTo pos (starEach es X.env)).any (·.1) = false := by rfl) :
    PE X (.Call (.Name x p) (e :: es) [] pos) (tCall sp [] E t) := by
  subst hK
  obtain ⟨f, fd, F, m, kp, b, _⟩ := D.ex
  exact pe_call F hr hg m kp b .nil hx ha hdb he hpl
theorem pe_callD0 {K : PySem.W.Frag} (hK : X.K = K) (D : Dn X.prog X.w K X.mg X.base CX k x ps sp) (hr : Room k X.A) (hg : Gl X x) (hx : Passes CX X E)
    (hdb : (x == ("__debug__" : Str)) = false := by decide) :
    PE X (.Call (.Name x p) [] [] pos) (tCall sp [] E tNil) := by
  subst hK
  obtain ⟨f, fd, F, m, kp, b, _⟩ := D.ex
  exact pe_call0 F hr hg m kp b .nil hx hdb
end

/-! ### the law's own end -/
theorem law_facts {ex : Prop} {fa : List He.Fa} {fn : List He.DefD} {P : Program} {w : World} {K : PySem.W.Frag} {h : Heap} {mg : Str → Option Value} {f : Addr} {d : He.DefD} {k : Nat} {sp : Sp} (X : K.In h) (G : h.Ns mainGlobals mg)
    (hfa : mg d.at_.1 = some (.ref f)) (c : He.SaysD fa fn K) (m : ex) (i j : Nat) (hd : fn[i]? = some d) (hg : fa[j]? = some (.glo d.at_.1)) (hm : d.at_.2 = none) (h1 : d.dfl = []) (h2 : d.kwd = [])
    (hb : ∀ (kV doc pm : Value) (an : Option Addr) (cdv ct : Value) (us : List Value), us.length = 1 → bindArgs (PySem.W.fnOf d.name d.qual d.params d.body d.scope .none kV doc pm an cdv ct) ⟨us, []⟩ = pure ((["script"] : List Str).zip us))
    (ok : ∀ base, Txt fa fn K mg ex → Dn P w K mg base CX0 k d.at_.1 ["script"] sp) :
    ∃ fd : FuncData, (∀ (s : Shared) (v : Value), BindsTo s fd ⟨[v], []⟩ [("script", v)]) ∧ ∀ base : Heap, K.In base → base.Ns mainGlobals mg → FnOk P w K mg base CX0 k f fd ["script"] sp := by
  have T : Txt fa fn K mg ex := ⟨c, ⟨h, X, G⟩, m⟩
  obtain ⟨⟨fd, F⟩, g⟩ := T.def_ i j hd hg hm h1 h2
  rw [hfa] at g
  cases g
  have b := FunD.bindsA (ps := ["script"]) F hb
  refine ⟨fd, fun s v => b s [v] rfl, fun base _ _ => ?_⟩
  obtain ⟨f2, fd2, F2, m, _, _, oc, od, osl, lk⟩ := (ok base T).ex
  rw [hfa] at m
  cases m
  obtain ⟨oc', od', dV, kV, doc, pm, an, cdv, ct, osl', e, lk', _⟩ := F.ex
  rw [lk] at lk'
  cases lk'
  exact F2

/-! ### classes -/
section
variable {fa : List He.Fa} {fn : List He.DefD} {P : Program} {w : World} {K : PySem.W.Frag} {mg : Str → Option Value} {base : Heap} {ex : Prop}
theorem Txt.cls (T : Txt fa fn K mg ex) (j : Nat) {x : Str} (h : fa[j]? = some (.cls x)) : Cls K (He.ga K x) := He.cls_ok (T.c.fact j h)
theorem Txt.noat (T : Txt fa fn K mg ex) (j : Nat) {x f : Str} (h : fa[j]? = some (.noat x f)) : NoAttr K (He.ga K x) f := He.noat_ok (T.c.fact j h)
theorem Txt.meth (T : Txt fa fn K mg ex) (j : Nat) {x m : Str} (h : fa[j]? = some (.meth x m)) : Meth K (He.ga K x) m (He.ma K (He.ga K x) m) := He.meth_ok (T.c.fact j h)
theorem Txt.mkr (T : Txt fa fn K mg ex) (j : Nat) {x : Str} (h : fa[j]? = some (.mkr x)) : Mk K (He.ga K x) (He.ma K (He.ga K x) "__init__") := He.mkr_ok (T.c.fact j h)
/-- a method by its class's name -/
structure Mt (P : Program) (w : World) (K : PySem.W.Frag) (mg : Str → Option Value) (base : Heap) (CX : CXT) (k : Nat) (c m : Str) (ps : List Str) (sp : Sp) : Prop where
  ex : ∃ (f : Addr) (fd : FuncData), FnOk P w K mg base CX k f fd ps sp ∧ f = He.ma K (He.ga K c) m ∧ Binds K fd ps []
theorem Txt.defm (T : Txt fa fn K mg ex) (i : Nat) {d : He.DefD} {c m : Str} (hd : fn[i]? = some d) (hm : d.at_ = (c, some m)) (h1 : d.dfl = []) (h2 : d.kwd = []) :
    ∃ fd, FunD K d.name d.qual d.params d.body d.scope [] [] (He.ma K (He.ga K c) m) fd := by
  obtain ⟨fd, F⟩ := T.c.def_ i hd
  have e : He.fAd K d.at_ = He.ma K (He.ga K c) m := by
    unfold He.fAd
    rw [hm]
  have e1 : d.dvs K = [] := by
    unfold He.DefD.dvs
    rw [h1]
    rfl
  have e2 : d.kws K = [] := by
    unfold He.DefD.kws
    rw [h2]
    rfl
  rw [e, e1, e2] at F
  exact ⟨fd, F⟩
/-- a method without defaults that lets nothing out -/
theorem mk_mt (T : Txt fa fn K mg ex) (i : Nat) {d : He.DefD} {c m : Str} {N ps : List Str} {k : Nat} {sp : Sp} (hd : fn[i]? = some d) (hm : d.at_ = (c, some m)) (h1 : d.dfl = []) (h2 : d.kwd = [])
    (S : FnScope N ps d.scope) (len : ∀ vs H Q E, sp vs H Q E → vs.length = ps.length)
    (hb : ∀ (kV doc pm : Value) (an : Option Addr) (cdv ct : Value) (us : List Value), us.length = ps.length → bindArgs (PySem.W.fnOf d.name d.qual d.params d.body d.scope .none kV doc pm an cdv ct) ⟨us, []⟩ = pure (ps.zip us))
    (hbody : ∀ (cdv : Value) (A : Around) (outer : List Env) (s : Shared) (H : Hp) (vs : List V) (Q : VK) (E : XK), Room k (A.deeper (envOfC d.qual d.scope s.heap.objs.size (He.ma K (He.ga K c) m) cdv)) → sp vs H Q E →
      ∃ t, PSs (cxOf CX0 P w K mg base N d.qual d.scope (He.ma K (He.ga K c) m) cdv A outer s H E).nox d.body t ∧ t { nx := fun _ H' => Q .non H', rt := Q } (start N vs) H) : Mt P w K mg base CX0 (k + 1) c m ps sp := by
  obtain ⟨fd, F⟩ := T.defm i hd hm h1 h2
  refine ⟨_, fd, F.ok S len fun cdv A outer s H vs Q E hr h => ?_, rfl, F.bindsN hb⟩
  obtain ⟨t, p, q⟩ := hbody cdv A outer s H vs Q E hr h
  exact ⟨t, p.nox, q⟩
theorem Mt.mono {CX : CXT} {j k : Nat} {c m : Str} {ps : List Str} {sp : Sp} (D : Mt P w K mg base CX j c m ps sp) (h : j ≤ k) : Mt P w K mg base CX k c m ps sp := by
  obtain ⟨f, fd, F, a, b⟩ := D.ex
  exact ⟨f, fd, F.mono h, a, b⟩
end
section
variable {X : Cx} {CX : CXT} {k : Nat} {ps : List Str} {sp : Sp} {E : XK} {c m : Str} {p pos apos : Pos} {e o : Expr} {es : List Expr} {ta : TE} {t : TA}
theorem pe_methD {K : PySem.W.Frag} (hK : X.K = K) {pl : Sem Bool} (D : Mt X.prog X.w K X.mg X.base CX k c m ps sp) (cl : Cls K (He.ga K c)) (hm : Meth K (He.ga K c) m (He.ma K (He.ga K c) m)) (hr : Room k X.A) (hx : Passes CX X E) (he : PE X o ta) (ha : PA X (e :: es) t)
    (hst : starEach (e :: es) X.env = (false, eval e X.env) :: starEach es X.env := by rfl) (hpl : (backTo pos (starEach es X.env)).any (·.1) = false := by rfl)
    (ht : eval (.Call (.Attribute o m apos) (e :: es) [] pos) X.env = (do let ov ← eval o X.env; standAt apos.atName; let (f, first) ← holding [ov] (getMethod ov m pl); callWith pos f first (backTo pos (starEach (e :: es) X.env)) (backToKw pos (keywordEach [] X.env))) := by rfl) :
    PE X (.Call (.Attribute o m apos) (e :: es) [] pos) (tMeth (He.ga K c) m sp [] E ta t) := by
  subst hK
  obtain ⟨f, fd, F, rfl, b⟩ := D.ex
  exact pe_meth he cl hm F hr b .nil hx ha hst hpl ht
theorem pe_methD0 {K : PySem.W.Frag} (hK : X.K = K) {pl : Sem Bool} (D : Mt X.prog X.w K X.mg X.base CX k c m ps sp) (cl : Cls K (He.ga K c)) (hm : Meth K (He.ga K c) m (He.ma K (He.ga K c) m)) (hr : Room k X.A) (hx : Passes CX X E) (he : PE X o ta)
    (ht : eval (.Call (.Attribute o m apos) [] [] pos) X.env = (do let ov ← eval o X.env; standAt apos.atName; let (f, first) ← holding [ov] (getMethod ov m pl); callWith pos f first (backTo pos (starEach [] X.env)) (backToKw pos (keywordEach [] X.env))) := by rfl) :
    PE X (.Call (.Attribute o m apos) [] [] pos) (tMeth (He.ga K c) m sp [] E ta tNil) := by
  subst hK
  obtain ⟨f, fd, F, rfl, b⟩ := D.ex
  exact pe_meth0 he cl hm F hr b .nil hx ht
theorem pe_makeD {K : PySem.W.Frag} (hK : X.K = K) (D : Mt X.prog X.w K X.mg X.base CX k c "__init__" ps sp) (M : Mk K (He.ga K c) (He.ma K (He.ga K c) "__init__")) (hr : Room (k + 1) X.A) (hg : Gl X c) (hm : X.mg c = some (.ref (He.ga K c))) (hx : Passes CX X E)
    (ha : PA X (e :: es) t) (hdb : (c == ("__debug__" : Str)) = false := by decide) (he : starEach (e :: es) X.env = (false, eval e X.env) :: starEach es X.env := by rfl) (hpl : (backTo pos (starEach es X.env)).any (·.1) = false := by rfl) :
    PE X (.Call (.Name c p) (e :: es) [] pos) (tMake (He.ga K c) sp [] E t) := by
  subst hK
  obtain ⟨f, fd, F, rfl, b⟩ := D.ex
  exact pe_make M F hr hg hm b .nil hx ha hdb he hpl
end
/-! ### fields by their places -/
section
variable {fs : List (Str × V)} {f : Str} {v y : V}
theorem lk_ix : ∀ {fs : List (Str × V)} (n : Nat), (fs.map (·.1)).Nodup → fs[n]? = some (f, v) → fs.lookup f = some v
  | [], _, _, h => by simp at h
  | p :: fs, 0, _, h => by
    simp only [List.getElem?_cons_zero, Option.some.injEq] at h
    subst h
    simp [List.lookup]
  | p :: fs, n + 1, nd, h => by
    simp only [List.getElem?_cons_succ] at h
    obtain ⟨g, x⟩ := p
    rw [List.map_cons, List.nodup_cons] at nd
    have hm : f ∈ fs.map (·.1) := List.mem_map.mpr ⟨(f, v), List.mem_of_getElem? h, rfl⟩
    have ne : (f == g) = false := beq_eq_false_iff_ne.mpr fun e => nd.1 (e ▸ hm)
    simp only [List.lookup, ne]
    exact lk_ix n nd.2 h
theorem lk_none : ∀ {fs : List (Str × V)}, f ∉ fs.map (·.1) → fs.lookup f = none
  | [], _ => rfl
  | (g, x) :: fs, h => by
    rw [List.map_cons, List.mem_cons, not_or] at h
    have ne : (f == g) = false := beq_eq_false_iff_ne.mpr h.1
    simp only [List.lookup, ne]
    exact lk_none h.2
theorem pt_ix : ∀ {fs : List (Str × V)} (n : Nat), (fs.map (·.1)).Nodup → fs[n]? = some (f, v) → putF f y fs = fs.set n (f, y)
  | [], _, _, h => by simp at h
  | p :: fs, 0, _, h => by
    simp only [List.getElem?_cons_zero, Option.some.injEq] at h
    subst h
    simp [putF]
  | p :: fs, n + 1, nd, h => by
    simp only [List.getElem?_cons_succ] at h
    obtain ⟨g, x⟩ := p
    rw [List.map_cons, List.nodup_cons] at nd
    have hm : f ∈ fs.map (·.1) := List.mem_map.mpr ⟨(f, v), List.mem_of_getElem? h, rfl⟩
    have ne : ¬ g = f := fun e => nd.1 (e ▸ hm)
    simp only [putF, if_neg ne, List.set_cons_succ]
    rw [pt_ix n nd.2 h]
theorem pt_new : ∀ {fs : List (Str × V)}, f ∉ fs.map (·.1) → putF f y fs = fs ++ [(f, y)]
  | [], _ => rfl
  | (g, x) :: fs, h => by
    rw [List.map_cons, List.mem_cons, not_or] at h
    have ne : ¬ g = f := fun e => h.1 e.symm
    simp only [putF, if_neg ne, List.cons_append]
    rw [pt_new h.2]
end

section
variable {H H' : Hp} {L : List (Addr × HO)} {a : Addr} {o : HO}
theorem Has.add (M : Has H L) (h : H a = some o) (n : a ∉ L.map (·.1)) : Has H (L ++ [(a, o)]) where
  nd := by
    rw [List.map_append, List.nodup_append]
    refine ⟨M.nd, by simp, fun x hx y hy e => ?_⟩
    rw [List.map_singleton, List.mem_singleton] at hy
    have e2 : x = a := e.trans hy
    exact n (e2 ▸ hx)
  is_ := fun q hq => by
    rcases List.mem_append.mp hq with z | z
    · exact M.is_ q z
    · rw [List.mem_singleton.mp z]
      exact h
end

theorem Keep.tup {ms : List Addr} {H H' : Hp} {t : Addr} {xs : List V} (k : Keep ms H H') (hm : ∀ m ∈ ms, ∃ o, H m = some o ∧ ∀ xs, o ≠ .tup xs) (h : H t = some (.tup xs)) : H' t = some (.tup xs) :=
  k t _ h fun z => by
    obtain ⟨o, e, n⟩ := hm t z
    rw [h] at e
    exact n xs (Option.some.inj e).symm

/-! ### parts of the heap's list, tables of lists -/
section
variable {H H' : Hp} {X Y L L' : List (Addr × HO)} {a : Addr} {o o' : HO}
theorem Has.mid (M : Has H (X ++ (L ++ Y))) : Has H L := M.sub ((List.sublist_append_left L Y).trans (List.sublist_append_right X _))
/-- a part has changed, the rest stands -/
theorem Has.frame (M : Has H (X ++ (L ++ Y))) (k : Keep (L.map (·.1)) H H') (M' : Has H' L') (e : L'.map (·.1) = L.map (·.1)) : Has H' (X ++ (L' ++ Y)) where
  nd := by
    have z := M.nd
    rw [List.map_append, List.map_append] at z ⊢
    rw [e]
    exact z
  is_ := fun q hq => by
    have z := M.nd
    rw [List.map_append, List.map_append, List.nodup_append] at z
    obtain ⟨_, z2, z3⟩ := z
    rw [List.nodup_append] at z2
    obtain ⟨_, _, z4⟩ := z2
    rcases List.mem_append.mp hq with h | h
    · refine k _ _ (M.is_ q (List.mem_append_left _ h)) fun hm => ?_
      exact z3 q.1 (List.mem_map_of_mem h) q.1 (List.mem_append_left _ hm) rfl
    · rcases List.mem_append.mp h with h | h
      · exact M'.is_ q h
      · refine k _ _ (M.is_ q (List.mem_append_right _ (List.mem_append_right _ h))) fun hm => ?_
        exact z4 q.1 hm q.1 (List.mem_map_of_mem h) rfl
/-- the lists at these addresses -/
def tab : List Addr → List (List V) → List (Addr × HO)
  | a :: as, r :: rs => (a, .lst r) :: tab as rs
  | _, _ => []
theorem tab_get : ∀ {as : List Addr} {rs : List (List V)} {i : Nat} {a : Addr} {r : List V}, as[i]? = some a → rs[i]? = some r → (tab as rs)[i]? = some (a, .lst r)
  | [], _, _, _, _, h, _ => by simp at h
  | _ :: _, [], _, _, _, _, h => by simp at h
  | a :: as, r :: rs, 0, _, _, h, h2 => by
    simp only [List.getElem?_cons_zero, Option.some.injEq] at h h2
    subst h
    subst h2
    rfl
  | a :: as, r :: rs, i + 1, _, _, h, h2 => by
    simp only [List.getElem?_cons_succ] at h h2
    exact tab_get (as := as) h h2
theorem tab_set : ∀ {as : List Addr} {rs : List (List V)} {i : Nat} {a : Addr} {r : List V}, as[i]? = some a → (tab as rs).set i (a, .lst r) = tab as (rs.set i r)
  | [], _, _, _, _, h => by simp at h
  | _ :: _, [], _, _, _, _ => rfl
  | a :: as, r :: rs, 0, _, _, h => by
    simp only [List.getElem?_cons_zero, Option.some.injEq] at h
    subst h
    rfl
  | a :: as, r :: rs, i + 1, _, _, h => by
    simp only [List.getElem?_cons_succ] at h
    show (a, HO.lst r) :: (tab as rs).set i _ = _
    rw [tab_set h]
    rfl
theorem tab_fst : ∀ {as : List Addr} {rs : List (List V)}, as.length = rs.length → (tab as rs).map (·.1) = as
  | [], [], _ => rfl
  | [], _ :: _, h => by simp at h
  | _ :: _, [], h => by simp at h
  | a :: as, r :: rs, h => by
    simp only [List.length_cons, Nat.add_right_cancel_iff] at h
    show a :: (tab as rs).map (·.1) = _
    rw [tab_fst h]
variable {as : List Addr} {rs : List (List V)} {i : Nat} {r r' : List V}
theorem Has.tabGet (M : Has H (X ++ (tab as rs ++ Y))) (ha : as[i]? = some a) (hr : rs[i]? = some r) : H a = some (.lst r) := M.mid.get i (tab_get ha hr)
theorem Has.tabSet (M : Has H (X ++ (tab as rs ++ Y))) (ha : as[i]? = some a) (hr : rs[i]? = some r) : Has (upd H a (.lst r')) (X ++ (tab as (rs.set i r') ++ Y)) := by
  have h := tab_get ha hr
  have hi := (List.getElem?_eq_some_iff.mp h).1
  have h2 : (X ++ (tab as rs ++ Y))[X.length + i]? = some (a, .lst r) := by
    rw [List.getElem?_append_right (Nat.le_add_right _ _), Nat.add_sub_cancel_left, List.getElem?_append_left hi]
    exact h
  have M2 := M.set (o' := .lst r') _ h2
  have e : (X ++ (tab as rs ++ Y)).set (X.length + i) (a, .lst r') = X ++ (tab as (rs.set i r') ++ Y) := by
    rw [List.set_append_right _ _ (Nat.le_add_right _ _), Nat.add_sub_cancel_left, List.set_append_left _ _ hi, tab_set ha]
  rw [e] at M2
  exact M2
/-- one more list at the end of a table -/
theorem tab_snoc : ∀ {as : List Addr} {rs : List (List V)}, as.length = rs.length → tab (as ++ [a]) (rs ++ [r]) = tab as rs ++ [(a, .lst r)]
  | [], [], _ => rfl
  | [], _ :: _, h => by simp at h
  | _ :: _, [], h => by simp at h
  | b :: as, r' :: rs, h => by
    simp only [List.length_cons, Nat.add_right_cancel_iff] at h
    show (b, HO.lst r') :: tab (as ++ [a]) (rs ++ [r]) = _
    rw [tab_snoc h]
    rfl
end
/-! ### constants of the module: tuples, dicts with text keys -/
inductive GD
  | dat (d : PyData)
  | dic (kvs : List (Str × PyData))
mutual
def gisB (K : PySem.W.Frag) : PyData → Value → Bool
  | .none, .none => true
  | .bool a, .bool b => a == b
  | .int i, .int j _ => decide (i = j)
  | .str x, .str y _ => decide (x = y)
  | .tuple ds, .ref a => (match K.lookup a with
    | some ⟨.type c, _, .seq its _, _⟩ => decide (c = "tuple") && (decide (its.size ≤ 1000) && gisAllB K ds its.toList)
    | _ => false)
  | _, _ => false
def gisAllB (K : PySem.W.Frag) : List PyData → List Value → Bool
  | [], [] => true
  | d :: ds, u :: us => gisB K d u && gisAllB K ds us
  | _, _ => false
end
section
variable {K : PySem.W.Frag}
theorem gis_tup {ds : List PyData} {u : Value} (h : gisB K (.tuple ds) u = true) : ∃ (a : Addr) (o : Obj) (its : Array Value) (n : Nat), u = .ref a ∧ K.lookup a = some o ∧ o.cls = .type "tuple" ∧ o.data = .seq its n ∧ its.size ≤ 1000 ∧ gisAllB K ds its.toList = true := by
  cases u <;> first | (unfold gisB at h; cases h; done) | skip
  rename_i a
  unfold gisB at h
  cases q : K.lookup a with
  | none =>
    rw [q] at h
    cases h
  | some o =>
    obtain ⟨oc, od, dt, osl⟩ := o
    rw [q] at h
    cases oc <;> cases dt <;> first | (cases h; done) | skip
    rename_i c its n
    replace h : (decide (c = "tuple") && (decide (its.size ≤ 1000) && gisAllB K ds its.toList)) = true := h
    obtain ⟨h1, h2⟩ := Bool.and_eq_true_iff.mp h
    obtain ⟨h3, h4⟩ := Bool.and_eq_true_iff.mp h2
    have e : c = "tuple" := of_decide_eq_true h1
    exact ⟨a, _, its, n, rfl, q, by rw [e], rfl, of_decide_eq_true h3, h4⟩
mutual
theorem gis_ok : ∀ (d : PyData) (u : Value), gisB K d u = true → ∃ v, RelV v u ∧ ∀ H, Dp K H v d
  | .none, u, h => by
    cases u <;> first | (unfold gisB at h; cases h; done) | skip
    exact ⟨.non, rfl, fun _ => .non⟩
  | .bool a, u, h => by
    cases u <;> first | (unfold gisB at h; cases h; done) | skip
    rename_i b
    unfold gisB at h
    obtain rfl := beq_iff_eq.mp h
    exact ⟨.bl a, rfl, fun _ => .bl a⟩
  | .int i, u, h => by
    cases u <;> first | (unfold gisB at h; cases h; done) | skip
    rename_i j t
    unfold gisB at h
    obtain rfl := of_decide_eq_true h
    exact ⟨.int i, ⟨t, rfl⟩, fun _ => .int i⟩
  | .str x, u, h => by
    cases u <;> first | (unfold gisB at h; cases h; done) | skip
    rename_i y t
    unfold gisB at h
    obtain rfl := of_decide_eq_true h
    exact ⟨.str x, ⟨t, rfl⟩, fun _ => .str x⟩
  | .tuple ds, u, h => by
    obtain ⟨a, o, its, n, rfl, h1, h2, h3, h4, h5⟩ := gis_tup h
    obtain ⟨vs, r, hd⟩ := gisAll_ok ds its.toList h5
    exact ⟨.ref a, rfl, fun H => .tup (.inr ⟨o, its, n, h1, h2, h3, Nat.le_trans h4 (by decide), r⟩) (hd H)⟩
  | .list _, u, h => by unfold gisB at h; cases h
  | .dict _, u, h => by unfold gisB at h; cases h
theorem gisAll_ok : ∀ (ds : List PyData) (us : List Value), gisAllB K ds us = true → ∃ vs, Vals vs us ∧ ∀ H, DpAll K H vs ds
  | [], us, h => by
    cases us with
    | nil => exact ⟨[], .nil, fun _ => .nil⟩
    | cons => unfold gisAllB at h; cases h
  | d :: ds, us, h => by
    cases us with
    | nil => unfold gisAllB at h; cases h
    | cons u us =>
      unfold gisAllB at h
      obtain ⟨h1, h2⟩ := Bool.and_eq_true_iff.mp h
      obtain ⟨v, r, hv⟩ := gis_ok d u h1
      obtain ⟨vs, rs, hvs⟩ := gisAll_ok ds us h2
      exact ⟨v :: vs, .cons r rs, fun H => .cons (hv H) (hvs H)⟩
end
end
def gokB (K : PySem.W.Frag) (x : Str) : GD → Bool
  | .dat d => (match PySem.W.nsIn K mainGlobals x with
    | some (some u) => gisB K d u
    | _ => false)
  | .dic kvs => kvs.all fun q => match PySem.W.nsIn K (He.ga K x) q.1 with
    | some (some u) => gisB K q.2 u
    | _ => false
def exB (cs : List (Str × GD)) (K : PySem.W.Frag) : Bool := cs.all fun q => gokB K q.1 q.2
def tabs : List (Str × GD) → List He.Tab
  | [] => []
  | (x, .dic kvs) :: cs => (fun K => He.ga K x, kvs.map (·.1)) :: tabs cs
  | (_, .dat _) :: cs => tabs cs
/-- the constants stand -/
structure CsOk (cs : List (Str × GD)) (K : PySem.W.Frag) (w : World) : Prop where
  e : exB cs K = true
  t : (tabs cs).map (fun t => He.dicW K (t.1 K)) = (tabs cs).map fun t => some (He.keysIn w.params t.2)
section
variable {fa : List He.Fa} {fn : List He.DefD} {cs : List (Str × GD)} {K : PySem.W.Frag} {w : World} {x k : Str} {d : PyData} {ds : List PyData} {kvs : List (Str × PyData)} {h : Heap}
theorem CsOk.of (c : He.SaysX fa fn (tabs cs) [] (exB cs) w h K) : CsOk cs K w := ⟨c.more, congrArg (fun z : He.AlT => z.2) c.t⟩
theorem tab_eq : ∀ {cs : List (Str × GD)}, (tabs cs).map (fun t => He.dicW K (t.1 K)) = (tabs cs).map (fun t => some (He.keysIn w.params t.2)) → (x, GD.dic kvs) ∈ cs → He.dicW K (He.ga K x) = some (He.keysIn w.params (kvs.map (·.1)))
  | [], _, h => by cases h
  | (y, .dic ks) :: cs, e, h => by
    have e1 : He.dicW K (He.ga K y) :: (tabs cs).map (fun t => He.dicW K (t.1 K)) = some (He.keysIn w.params (ks.map (·.1))) :: (tabs cs).map fun t => some (He.keysIn w.params t.2) := e
    injection e1 with e2 e3
    rcases List.mem_cons.mp h with z | z
    · injection z with z1 z2
      injection z2 with z2
      subst z1
      subst z2
      exact e2
    · exact tab_eq e3 z
  | (y, .dat _) :: cs, e, h => by
    rcases List.mem_cons.mp h with z | z
    · injection z with z1 z2
      cases z2
    · exact tab_eq (cs := cs) e z
theorem CsOk.dat (c : CsOk cs K w) (h : (x, GD.dat d) ∈ cs) : ∃ u, PySem.W.nsIn K mainGlobals x = some (some u) ∧ gisB K d u = true := by
  have h1 : gokB K x (.dat d) = true := List.all_eq_true.mp c.e _ h
  unfold gokB at h1
  cases q : PySem.W.nsIn K mainGlobals x with
  | none =>
    rw [q] at h1
    cases h1
  | some r =>
    rw [q] at h1
    cases r with
    | none => cases h1
    | some u => exact ⟨u, rfl, h1⟩
theorem CsOk.tup (c : CsOk cs K w) (h : (x, GD.dat (.tuple ds)) ∈ cs) (H : Hp) : Dp K H (.ref (He.ga K x)) (.tuple ds) := by
  obtain ⟨u, h1, h2⟩ := c.dat h
  obtain ⟨v, r, hv⟩ := gis_ok _ u h2
  obtain ⟨a, _, _, _, rfl, _⟩ := gis_tup h2
  have e : He.ga K x = a := by
    unfold He.ga
    rw [h1]
  obtain rfl : v = .ref a := RelV.inj r rfl
  rw [e]
  exact hv H
theorem CsOk.kd (c : CsOk cs K w) (h : (x, GD.dic kvs) ∈ cs) : ∃ es n, KDict K w (He.ga K x) es n := He.dicW_ok (tab_eq c.t h)
theorem CsOk.key (c : CsOk cs K w) (h : (x, GD.dic kvs) ∈ cs) (hk : (k, d) ∈ kvs) : ∃ u v, PySem.W.nsIn K (He.ga K x) k = some (some u) ∧ RelV v u ∧ ∀ H, Dp K H v d := by
  have h1 : gokB K x (.dic kvs) = true := List.all_eq_true.mp c.e _ h
  unfold gokB at h1
  have h2 := List.all_eq_true.mp h1 _ hk
  cases q : PySem.W.nsIn K (He.ga K x) k with
  | none =>
    rw [q] at h2
    cases h2
  | some r =>
    rw [q] at h2
    cases r with
    | none => cases h2
    | some u =>
      obtain ⟨v, hv⟩ := gis_ok d u h2
      exact ⟨u, v, rfl, hv⟩
theorem keyOf_of {e : DictEntry} {y : Str} {i : Int} (h : He.keyOf e = some (y, i)) : ∃ t, e.key = .str y t := by
  unfold He.keyOf at h
  split at h
  · rename_i z t q
    injection h with h
    injection h with h1 h2
    subst h1
    exact ⟨t, q⟩
  · cases h
theorem keys_no {P : Params} : ∀ {l : List DictEntry} {ks : List Str}, l.map He.keyOf = He.keysIn P ks → k ∉ ks → (l.find? (·.key.isStr k)) = none ∧ (l.any (·.refKey)) = false
  | [], _, _, _ => ⟨rfl, rfl⟩
  | e :: l, [], h, _ => by cases h
  | e :: l, y :: ks, h, hk => by
    have h1 : He.keyOf e :: l.map He.keyOf = some (y, PyData.keyHash P y) :: He.keysIn P ks := h
    injection h1 with h2 h3
    obtain ⟨t, q⟩ := keyOf_of h2
    obtain ⟨i1, i2⟩ := keys_no h3 (fun z => hk (List.mem_cons_of_mem _ z))
    have n : e.key.isStr k = false := by
      rw [q]
      have : (y == k) = false := beq_eq_false_iff_ne.mpr fun z => hk (by rw [z]; exact List.mem_cons_self)
      first | exact this | (unfold Value.isStr; exact this) | simp [Value.isStr, this]
    refine ⟨by rw [List.find?_cons, n]; exact i1, ?_⟩
    rw [List.any_cons, i2, Bool.or_false]
    unfold DictEntry.refKey
    rw [q]
theorem CsOk.nokey (c : CsOk cs K w) (h : (x, GD.dic kvs) ∈ cs) (hk : k ∉ kvs.map (·.1)) : PySem.W.nsIn K (He.ga K x) k = some none := by
  have e := tab_eq c.t h
  obtain ⟨es, n, D⟩ := He.dicW_ok e
  unfold He.dicW at e
  rw [D.at_] at e
  replace e : (match decide ("dict" = "dict") && ((#[] : Array (Option Value)).isEmpty && !(He.ga K x == sysModules)) with
    | true => some (es.toList.map He.keyOf)
    | false => none) = some (He.keysIn w.params (kvs.map (·.1))) := e
  rw [D.low] at e
  replace e : some (es.toList.map He.keyOf) = some (He.keysIn w.params (kvs.map (·.1))) := e
  obtain ⟨i1, i2⟩ := keys_no (Option.some.inj e) hk
  unfold PySem.W.nsIn
  rw [D.at_]
  show (match es.toList.find? (·.key.isStr k) with
      | some e => some (some e.val)
      | none => if es.toList.any (·.refKey) then none else some none) = some none
  rw [i1, i2]
  rfl
theorem dp_strs {H : Hp} {a : Addr} {ks : List Str} (h : Dp K H (.ref a) (.tuple (ks.map .str))) : SqT K H a (ks.map V.str) := by
  have go : ∀ {ks : List Str} {xs : List V}, DpAll K H xs (ks.map .str) → xs = ks.map V.str := by
    intro ks
    induction ks with
    | nil => intro xs h; cases h; rfl
    | cons z ks ih =>
      intro xs h
      cases h with
      | cons h t =>
        cases h
        rw [ih t]
        rfl
  cases h with
  | tup h t =>
    rw [← go t]
    exact h
theorem dp_ints {H : Hp} {a : Addr} {ks : List Int} (h : Dp K H (.ref a) (.tuple (ks.map .int))) : SqT K H a (ks.map V.int) := by
  have go : ∀ {ks : List Int} {xs : List V}, DpAll K H xs (ks.map .int) → xs = ks.map V.int := by
    intro ks
    induction ks with
    | nil => intro xs h; cases h; rfl
    | cons z ks ih =>
      intro xs h
      cases h with
      | cons h t =>
        cases h
        rw [ih t]
        rfl
  cases h with
  | tup h t =>
    rw [← go t]
    exact h
end
/-! d[key], key in d of such a dict -/
def rIxG (K : PySem.W.Frag) (d : Addr) : R2 := fun x y H Q => ∃ (z : Str) (u : Value) (v : V), x = .ref d ∧ y = .str z ∧ PySem.W.nsIn K d z = some (some u) ∧ RelV v u ∧ Q v H
def rInG (K : PySem.W.Frag) (d : Addr) (neg : Bool) : R2 := fun x y H Q => ∃ (z : Str) (r : Option Value), x = .str z ∧ y = .ref d ∧ PySem.W.nsIn K d z = some r ∧ Q (.bl (if neg then !r.isSome else r.isSome)) H
section
variable {X : Cx} {cs : List (Str × GD)} {x : Str} {kvs : List (Str × PyData)}
theorem ix_G {K : PySem.W.Frag} {w0 : World} (hK : X.K = K) (hw : X.w = w0) (c : CsOk cs K w0) (h : (x, GD.dic kvs) ∈ cs) : IxR X (rIxG K (He.ga K x)) := by
  subst hK
  subst hw
  obtain ⟨es, n, D⟩ := c.kd h
  intro value slice pins s σ H x y v u Q I rx ry h hs
  obtain ⟨z, u0, v0, rfl, rfl, e, r, q⟩ := h
  have rx' := rx
  cases rx
  exact tail_any (kd_type D I) PySem.F.slot_dict_getitem.lookup (op_item_kd D pins s σ H _ _ _ u Q I rx' ry ⟨z, u0, v0, rfl, rfl, e, r, q⟩) hs
theorem op_inG {K : PySem.W.Frag} {w0 : World} (hK : X.K = K) (hw : X.w = w0) (c : CsOk cs K w0) (h : (x, GD.dic kvs) ∈ cs) : OpR X (compareOp .In) (rInG K (He.ga K x) false) := by
  subst hK
  subst hw
  obtain ⟨es, n, D⟩ := c.kd h
  intro pins s σ H x y v u Q I rx ry h
  obtain ⟨z, r, rfl, rfl, e, q⟩ := h
  exact op_in_kd D pins s σ H _ _ v u Q I rx ry ⟨z, r, rfl, rfl, e, q⟩
theorem op_niG {K : PySem.W.Frag} {w0 : World} (hK : X.K = K) (hw : X.w = w0) (c : CsOk cs K w0) (h : (x, GD.dic kvs) ∈ cs) : OpR X (compareOp .NotIn) (rInG K (He.ga K x) true) := by
  subst hK
  subst hw
  obtain ⟨es, n, D⟩ := c.kd h
  intro pins s σ H x y v u Q I rx ry h
  obtain ⟨z, r, rfl, rfl, e, q⟩ := h
  exact op_notIn_kd D pins s σ H _ _ v u Q I rx ry ⟨z, r, rfl, rfl, e, q⟩
theorem pe_ixG {K : PySem.W.Frag} {w0 : World} (hK : X.K = K) (hw : X.w = w0) (c : CsOk cs K w0) (h : (x, GD.dic kvs) ∈ cs) {a b : Expr} {ta tb : TE} {pos : Pos} (ha : PE X a ta) (hb : PE X b tb) (hs : PlainIx b := by exact fun _ _ => rfl) :
    PE X (.Subscript a b pos) (tOp (rIxG K (He.ga K x)) ta tb) := pe_ix (ix_G hK hw c h) ha hb hs
end
end G

set_option Elab.async false
set_option linter.all false
set_option maxRecDepth 100000
set_option maxHeartbeats 4000000
/-! Rules that take any kind of value, and the walk of a reading step by step. -/
namespace G
open PySem PySem.Spec PyProof.Rows L2

/-! ### a tuple, repeated -/
theorem tuple_mul1 (l : Addr) (items : Array Value) (n : Nat) (dd : Option Addr) (sl : Array (Option Value)) (u : Tok) :
    Meets (Builtin.«tuple.__mul__» ⟨[.ref l, .int 1 u], []⟩) (fun _ R s => s.heap.get? l = some { cls := .type "tuple", dict := dd, data := .seq items n, slots := sl } ∧
      R (.ok (.ret (Value.ref l))) s) :=
  .of_wp fun prog w A R s h => by
    obtain ⟨hp, g, d, tk, os⟩ := s
    obtain ⟨hl, h⟩ := h
    have f1 := AutoSeq1.idx_int
    have c0 : (decide ((1 : Int) < -(2 ^ 63)) || decide ((1 : Int) ≥ 2 ^ 63)) = false := by decide
    have c1 : (items.isEmpty || (1 : Int) == 1) = true := by rw [Bool.or_eq_true]; exact .inr rfl
    wp_walk using wpAny_loadPart' hl
    repeat (first
      | (refine wpAny_ite_false (decide_eq_false (by rw [c0]; exact Bool.false_ne_true)) ?_; wp_walk using wpAny_loadPart' hl)
      | (refine wpAny_ite_true (decide_eq_true c1) ?_; wp_walk using wpAny_loadPart' hl))
    exact ⟨_, rfl, h⟩
def rRepT1 (K : PySem.W.Frag) : R2 := fun x y H Q => ∃ l xs, x = .ref l ∧ y = .int 1 ∧ SqT K H l xs ∧ Q x H
theorem op_repT1 {X : Cx} : OpR X (binaryOp .Mult) (rRepT1 X.K) := by
  intro pins s σ H x y v u Q I rx ry h
  obtain ⟨l, xs, rfl, rfl, hT, q⟩ := h
  cases rx
  obtain ⟨t, rfl⟩ := ry
  obtain ⟨its, r, ⟨⟨cls, dd, data, sl⟩, ho, hc, n, hd⟩, hs⟩ := I.tuple hT
  simp only at hc hd
  subst hc hd
  exact wpAny_binaryOp_repeat_ref (T := "tuple") (U := "int") (by decide) ⟨_, ho, rfl⟩ (fun s' => typeIs_int s' 1 t) noFill_tuple_mul F.fills_int_mul F.slot_int_rmul repeat_tuple F.slot_int_index.lookup
    (call_meets F.slot_int_rmul (typeIs_int s 1 t) F.entry_int_rmul (F.args_int_rmul_2 _ _) (int_rmul_tuple 1 t l its.toArray n dd sl)
      ⟨ho, rfl, ⟨_, ho, rfl⟩, call_meets F.slot_tuple_mul ⟨_, ho, rfl⟩ F.entry_tuple_mul (F.args_tuple_mul_2 _ _) (tuple_mul1 l its.toArray n dd sl t) ⟨ho, ⟨.ref l, H, I, rfl, q⟩⟩⟩)
/-- t * k of a tuple, 1 to 1000 times -/
def rRepTU : R2 := fun x y H Q => ∃ l k xs, x = .ref l ∧ y = .int k ∧ H l = some (.tup xs) ∧ xs ≠ [] ∧ 1 ≤ k ∧ k ≤ 1000 ∧ xs.length ≤ 1000 ∧ ∀ p H', Same H H' → H' p = some (.tup (List.replicate k.toNat xs).flatten) → Q (.ref p) H'
theorem op_repTU {X : Cx} : OpR X (binaryOp .Mult) rRepTU := by
  intro pins s σ H x y v u Q I rx ry h
  obtain ⟨l, k, xs, rfl, rfl, hT, hne, h1, h2, hl, q⟩ := h
  by_cases hk : k = 1
  · subst hk
    refine op_repT1 pins s σ H _ _ v u Q I rx ry ⟨l, xs, rfl, rfl, SqT.of hT, q l H (Same.refl H) ?_⟩
    rw [hT]
    simp
  · exact op_repT pins s σ H _ _ v u Q I rx ry ⟨l, k, xs, rfl, rfl, SqT.of hT, hne, by omega, h2, hl, fun p hp => q p _ (Same.new hp) upd_same⟩
/-! ### rules for any kind of value -/
def rAddU (K : PySem.W.Frag) : R2 := fun x y H Q => match x, y with
  | .int i, .int j => Q (.int (i + j)) H
  | .str a, .str b => a.length + b.length ≤ sizeLine ∧ Q (.str (a ++ b)) H
  | .ref a, .ref b => rCat (.ref a) (.ref b) H Q ∨ rCatA K (.ref a) (.ref b) H Q
  | _, _ => False
def rMulU : R2 := fun x y H Q => match x, y with
  | .int i, .int j => (CMul i j ∨ CMulW i j) ∧ Q (.int (i * j)) H
  | .ref a, .int j => rRep (.ref a) (.int j) H Q ∨ rRepTU (.ref a) (.int j) H Q
  | _, _ => False
def rEqU (K : PySem.W.Frag) (neg : Bool) : R2 := fun x y H Q => (scal x y = true ∧ Q (.bl (if neg then !decide (x = y) else decide (x = y))) H) ∨ (if neg then rNeD K x y H Q else rEqD K x y H Q)
/-- the heap's dict at a holds o at y -/
def rInDT (K : PySem.W.Frag) (neg : Bool) : R2 := fun x y H Q => ∃ d ds, Dp K H x d ∧ (Dp K H y (.tuple ds) ∨ Dp K H y (.list ds)) ∧ SeqAt.shaped d = true ∧ PyData.canLayAll0 ds = true ∧ Q (.bl (if neg then !(ds.any fun z => PyData.eqv z d) else ds.any fun z => PyData.eqv z d)) H
theorem hu65 {A : Around} {k : Nat} (hr : Room k A) : A.units + 65 < cLine := by have := hr.un; omega
theorem op_inDT {X : Cx} (hu : X.A.units + 65 < cLine) : OpR X (compareOp .In) (rInDT X.K false) := by
  intro pins s σ H x y v u Q I rx ry h
  obtain ⟨d, ds, hd, he, sd, se, q⟩ := h
  obtain ⟨as, r1⟩ := Dp.reads I d x v hd rx
  rcases he with he | he
  · obtain ⟨bs, r2⟩ := Dp.reads I (.tuple ds) y u he ry
    exact SeqAt.in_tuple_reads r2 r1 se (SeqAt.canLay_of_shaped sd) (room_in_shaped sd hu) ⟨.bl _, H, I, rfl, q⟩
  · obtain ⟨bs, r2⟩ := Dp.reads I (.list ds) y u he ry
    exact SeqAt.in_list_reads r2 r1 se (SeqAt.canLay_of_shaped sd) (room_in_shaped sd hu) ⟨.bl _, H, I, rfl, q⟩
theorem op_niDT {X : Cx} (hu : X.A.units + 65 < cLine) : OpR X (compareOp .NotIn) (rInDT X.K true) := by
  intro pins s σ H x y v u Q I rx ry h
  obtain ⟨d, ds, hd, he, sd, se, q⟩ := h
  obtain ⟨as, r1⟩ := Dp.reads I d x v hd rx
  rcases he with he | he
  · obtain ⟨bs, r2⟩ := Dp.reads I (.tuple ds) y u he ry
    exact SeqAt.notIn_tuple_reads r2 r1 se (SeqAt.canLay_of_shaped sd) (room_in_shaped sd hu) ⟨.bl _, H, I, rfl, q⟩
  · obtain ⟨bs, r2⟩ := Dp.reads I (.list ds) y u he ry
    exact SeqAt.notIn_list_reads r2 r1 se (SeqAt.canLay_of_shaped sd) (room_in_shaped sd hu) ⟨.bl _, H, I, rfl, q⟩
def rInU (K : PySem.W.Frag) (neg : Bool) : R2 := fun x y H Q => rIn K neg x y H Q ∨ (∃ a o, y = .ref a ∧ DGet H a x o ∧ Q (.bl (if neg then !o.isSome else o.isSome)) H) ∨
  (∃ c z, x = .str ⟨#[c]⟩ ∧ y = .str z ∧ Q (.bl (if neg then !decide (c ∈ z.cps.toList) else decide (c ∈ z.cps.toList))) H) ∨ rInDT K neg x y H Q
def rIxU (K : PySem.W.Frag) : R2 := fun x y H Q => rIxL K x y H Q ∨ rIxT K x y H Q ∨ rIxS x y H Q ∨ ∃ a v, x = .ref a ∧ DGet H a y (some v) ∧ Q v H
def rLenU (K : PySem.W.Frag) : List V → Hp → VK → Prop := fun xs H Q => (∃ x n, xs = [x] ∧ LenV K x H n ∧ Q (.int n) H) ∨ ∃ a kvs, xs = [.ref a] ∧ H a = some (.dK kvs) ∧ Q (.int (kvs.length : Nat)) H
def rAbs : List V → Hp → VK → Prop := fun xs H Q => ∃ i, xs = [.int i] ∧ Q (.int (if i < 0 then -i else i)) H
def rMax2 : List V → Hp → VK → Prop := fun xs H Q => ∃ i j, xs = [.int i, .int j] ∧ Q (.int (if j > i then j else i)) H
def rMin2 : List V → Hp → VK → Prop := fun xs H Q => ∃ i j, xs = [.int i, .int j] ∧ Q (.int (if j < i then j else i)) H
def rInt1 : List V → Hp → VK → Prop := fun xs H Q => (∃ i, xs = [.int i] ∧ Q (.int i) H) ∨ ∃ k, xs = [.bl k] ∧ Q (.int (if k then 1 else 0)) H
def rStrI : List V → Hp → VK → Prop := fun xs H Q => ∃ i, xs = [.int i] ∧ i.natAbs.log2 < 1920 ∧ Q (.str (toString i)) H
def rCmpI (p : Int → Int → Bool) : R2 := rI0 fun i j => .bl (p i j)

section
variable {X : Cx} {a b c : Expr} {ta tb tc : TE} {pos : Pos}
theorem op_addU {K : PySem.W.Frag} (hK : X.K = K) : OpR X (binaryOp .Add) (rAddU K) := by
  subst hK
  intro pins s σ H x y v u Q I rx ry h
  cases x <;> cases y <;> first | exact h.elim | skip
  · exact op_add pins s σ H _ _ v u Q I rx ry ⟨_, _, rfl, rfl, h⟩
  · exact op_add_str pins s σ H _ _ v u Q I rx ry ⟨_, _, rfl, rfl, h.1, h.2⟩
  · rcases h with h | h
    · exact op_cat pins s σ H _ _ v u Q I rx ry h
    · exact op_catA pins s σ H _ _ v u Q I rx ry h
theorem op_mulU : OpR X (binaryOp .Mult) rMulU := by
  intro pins s σ H x y v u Q I rx ry h
  cases x <;> cases y <;> first | exact h.elim | skip
  · rcases h with ⟨h | h, q⟩
    · exact op_mul pins s σ H _ _ v u Q I rx ry ⟨_, _, rfl, rfl, h, q⟩
    · exact op_mulW pins s σ H _ _ v u Q I rx ry ⟨_, _, rfl, rfl, h, q⟩
  · rcases h with h | h
    · exact op_rep pins s σ H _ _ v u Q I rx ry h
    · exact op_repTU pins s σ H _ _ v u Q I rx ry h
theorem op_eqU {K : PySem.W.Frag} (hK : X.K = K) (hu : X.A.units + 64 < cLine) : OpR X (compareOp .Eq) (rEqU K false) := by
  subst hK
  intro pins s σ H x y v u Q I rx ry h
  rcases h with ⟨hs, q⟩ | h
  · exact op_eq pins s σ H x y v u Q I rx ry ⟨hs, q⟩
  · exact op_eqD hu pins s σ H x y v u Q I rx ry h
theorem op_neU {K : PySem.W.Frag} (hK : X.K = K) (hu : X.A.units + 64 < cLine) : OpR X (compareOp .NotEq) (rEqU K true) := by
  subst hK
  intro pins s σ H x y v u Q I rx ry h
  rcases h with ⟨hs, q⟩ | h
  · exact op_ne pins s σ H x y v u Q I rx ry ⟨hs, q⟩
  · exact op_neD hu pins s σ H x y v u Q I rx ry h
theorem op_inU {K : PySem.W.Frag} (hK : X.K = K) (hu : X.A.units + 65 < cLine) : OpR X (compareOp .In) (rInU K false) := by
  subst hK
  intro pins s σ H x y v u Q I rx ry h
  rcases h with h | ⟨a, o, rfl, g, q⟩ | ⟨c, z, rfl, rfl, q⟩ | h
  · exact op_in_seq pins s σ H x y v u Q I rx ry h
  · obtain rfl : u = Value.ref a := ry
    exact d_in (by omega) I g rx fun s1 I1 => ⟨.bl _, H, I1, rfl, q⟩
  · exact op_in_sign pins s σ H _ _ v u Q I rx ry ⟨c, z, rfl, rfl, q⟩
  · exact op_inDT hu pins s σ H x y v u Q I rx ry h
theorem op_niU {K : PySem.W.Frag} (hK : X.K = K) (hu : X.A.units + 65 < cLine) : OpR X (compareOp .NotIn) (rInU K true) := by
  subst hK
  intro pins s σ H x y v u Q I rx ry h
  rcases h with h | ⟨a, o, rfl, g, q⟩ | ⟨c, z, rfl, rfl, q⟩ | h
  · exact op_notIn_seq pins s σ H x y v u Q I rx ry h
  · obtain rfl : u = Value.ref a := ry
    exact d_notIn (by omega) I g rx fun s1 I1 => ⟨.bl _, H, I1, rfl, q⟩
  · exact op_notIn_sign pins s σ H _ _ v u Q I rx ry ⟨c, z, rfl, rfl, q⟩
  · exact op_niDT hu pins s σ H x y v u Q I rx ry h
theorem ix_dict (hu : X.A.units + 1 < cLine) : IxR X (fun x y H Q => ∃ a v, x = .ref a ∧ DGet H a y (some v) ∧ Q v H) := by
  intro value slice pins s σ H x y v u Q I rx ry h hs
  obtain ⟨a, z, rfl, g, q⟩ := h
  obtain rfl : v = Value.ref a := rx
  exact tail_any (dict_typeIs I g) PySem.F.slot_dict_getitem.lookup (d_getItem hu I g ry fun w' s' I' rw' => ⟨z, H, I', rw', q⟩) hs
theorem ix_U {K : PySem.W.Frag} (hK : X.K = K) (hu : X.A.units + 1 < cLine) : IxR X (rIxU K) := by
  subst hK
  exact ix_list.or (ix_tup.or (ix_str.or (ix_dict hu)))
theorem pe_ixU {K : PySem.W.Frag} (hK : X.K = K) {a b : Expr} {ta tb : TE} {pos : Pos} (hu : X.A.units + 1 < cLine) (ha : PE X a ta) (hb : PE X b tb) (hs : PlainIx b := by exact fun _ _ => rfl) : PE X (.Subscript a b pos) (tOp (rIxU K) ta tb) := pe_ix (ix_U hK hu) ha hb hs
theorem c_len {K : PySem.W.Frag} (hK : X.K = K) : CallR X (.builtin "len") (rLenU K) := by
  subst hK
  intro pins s σ H xs us Q I r h
  rcases h with h | ⟨a, kvs, rfl, e, q⟩
  · exact call_len pins s σ H xs us Q I r h
  · rw [Vals.ref1 r]
    exact d_len I (.inl e) fun t s1 I1 => ⟨.int _, H, I1, ⟨_, rfl⟩, q⟩
theorem c_abs : CallR X (.builtin "abs") rAbs := call_abs
theorem c_max2 (hc : X.calm = true) : CallR X (.builtin "max") rMax2 := call_max2 hc
theorem c_min2 (hc : X.calm = true) : CallR X (.builtin "min") rMin2 := call_min2 hc
theorem c_int : CallR X (.type "int") rInt1 := call_int1
theorem c_str : CallR X (.type "str") rStrI := call_str_int
theorem c_isi {K : PySem.W.Frag} (hK : X.K = K) : CallR X (.builtin "isinstance") (rIsi K) := by
  subst hK
  exact call_isi
theorem o_lt : OpR X (compareOp .Lt) (rCmpI fun i j => decide (i < j)) := op_lt
theorem o_le : OpR X (compareOp .LtE) (rCmpI fun i j => decide (i ≤ j)) := op_le
theorem o_gt : OpR X (compareOp .Gt) (rCmpI fun i j => decide (j < i)) := op_gt
theorem o_ge : OpR X (compareOp .GtE) (rCmpI fun i j => decide (j ≤ i)) := op_ge
/-- what is walked: a list or a tuple -/
def iSeq (K : PySem.W.Frag) (tl : TE) : TI := fun σ H R => tl σ H fun x H1 => (∃ a xs, x = .ref a ∧ SqL K H1 a xs ∧ R (Itl K a) H1) ∨ ∃ a xs, x = .ref a ∧ SqT K H1 a xs ∧ R (Itt K a) H1
/-- an iterator that was just laid -/
theorem pie_new {pins : List (Addr × Obj)} {σ : L2.St} {H : Hp} {s : Shared} {R : It → Hp → Prop} {tg : Expr} {o : Obj} {J : It} {tn : Nat → Heap → Prop} (I : Inv X pins σ H s)
    (tu : Turn X.prog X.w X.K tg J [s.heap.objs.size] s.heap.objs.size tn) (h0 : tn 0 (s.heap.push o)) (q : R J H) : PIE X pins σ tg R (.ref s.heap.objs.size) { s with heap := s.heap.push o } := by
  have k := I.kept (t' := s.toks) (h' := s.heap.push o) (fun b u e => Heap.get?_push_of_some _ e)
  refine ⟨_, _, tn, J, H, rfl, k, tu, h0, ?_, q⟩
  intro b hb
  rw [List.mem_singleton.mp hb]
  exact I.fpOk (Nat.le_refl _) (I.hok.fresh (Nat.le_refl _))
theorem pi_seq {K : PySem.W.Frag} (hK : X.K = K) {tg l : Expr} {tl : TE} (hl : PE X l tl) : PI X tg l (iSeq K tl) := by
  subst hK
  refine ⟨fun pins s σ H R I h => thn (hl.run pins s σ H _ I h) ?_⟩
  rintro v s1 ⟨x, H1, I1, r1, ⟨a, xs, rfl, hq, q⟩ | ⟨a, xs, rfl, hq, q⟩⟩ <;> cases r1
  · obtain ⟨its, _, p, _⟩ := I1.list hq
    exact wpAny_pyIter_list p.isList (pie_new I1 (turn_list a _) ⟨_, Heap.get?_push_size _ rfl, rfl, rfl⟩ q)
  · obtain ⟨its, _, p, _⟩ := I1.tuple hq
    exact wpAny_pyIter_tuple (show s1.heap.IsTuple a its.toArray from p) (pie_new I1 (turn_tuple a _) ⟨_, Heap.get?_push_size _ rfl, rfl, rfl⟩ q)
/-- a value's truth as a test -/
def tTru (K : PySem.W.Frag) (ta : TE) : TT := fun σ H Q => ta σ H fun x H' => ∃ k, TruV K x H' k ∧ Q k H'
theorem pt_tru {K : PySem.W.Frag} (hK : X.K = K) (ha : PE X a ta) (he : ∀ whole, isTrue a X.env whole = (do let v ← whole; standAt a.pos; holding [v] (truthy v)) := by intro _; rfl) : PT X a (tTru K ta) := by
  subst hK
  exact pt_truth ha he
end

/-! ### the steps of a reading -/
/-- a new tuple, a new list, of these -/
def rTupN (xs : List V) : Hp → VK → Prop := fun H Q => xs.length ≤ sizeLine ∧ ∀ p, H p = none → Q (.ref p) (upd H p (.tup xs))
def rLstN (xs : List V) : Hp → VK → Prop := fun H Q => xs.length ≤ sizeLine ∧ ∀ p, H p = none → Q (.ref p) (upd H p (.lst xs))
section
variable {K : PySem.W.Frag} {σ : L2.St} {H : Hp} {D : Ends} {t u : TS} {te ta tb tc : TE} {tt tt' : TT} {Q : VK} {QB : Bool → Hp → Prop} {QA : List V → Hp → Prop} {QS : L2.St → Hp → Prop} {g : TG} {r r' : R2} {v x y : V} {i j : Int} {b c : Bool} {k : Nat} {tA tA' : TA} {A B : Prop} {p q : Prop} {sp : Sp} {E : XK} {dvs vs : List V} {xs ys : List V} {a d C dx : Addr} {fs : List (Str × V)} {f : Str} {z z' : Str}
theorem g_seq (h : t { nx := u D, rt := D.rt, bk := D.bk, ct := D.ct } σ H) : tSeq t u D σ H := h
theorem g_next (h : D.nx σ H) : tNext D σ H := h
theorem g_asg (h : te σ H fun x H1 => g x σ H1 D.nx) : tAsg te g D σ H := h
theorem g_drop (h : te σ H fun _ H1 => D.nx σ H1) : tDrop te D σ H := h
theorem g_ret (h : te σ H D.rt) : tRet te D σ H := h
theorem g_retN (h : D.rt .non H) : tRetN D σ H := h
theorem g_brk (h : D.bk σ H) : tBreak D σ H := h
theorem g_ct (h : D.ct σ H) : tCont D σ H := h
theorem g_ifS (h : tt σ H fun b H1 => if b = true then t D σ H1 else u D σ H1) : tIfS tt t u D σ H := h
theorem g_name (h : QS (σ.set k (some v)) H) : gName k v σ H QS := h
theorem g_aug {ti : TIp} (e : σ[k]? = some (some x)) (h : te σ H fun y H1 => ti x y H1 fun z H2 => D.nx (σ.set k (some z)) H2) : tAug k te ti D σ H := ⟨x, e, h⟩
theorem g_ipI {f : Int → Int → Int} (h : Q (.int (f i j)) H) : ipI f (.int i) (.int j) H Q := ⟨i, j, rfl, rfl, h⟩
theorem g_var (e : σ[k]? = some (some v)) (h : Q v H) : tVar k σ H Q := ⟨v, e, h⟩
theorem g_c (h : Q v H) : tC v σ H Q := h
theorem g_op (h : ta σ H fun x H1 => tb σ H1 fun y H2 => r x y H2 Q) : tOp r ta tb σ H Q := h
theorem g_un {r : V → Hp → VK → Prop} (h : ta σ H fun x H1 => r x H1 Q) : tUn r ta σ H Q := h
theorem g_rU {g : Int → V} (h : Q (g i) H) : rU g (.int i) H Q := ⟨i, rfl, h⟩
theorem g_I0 {g : Int → Int → V} (h : Q (g i j) H) : rI0 g (.int i) (.int j) H Q := ⟨i, j, rfl, rfl, h⟩
theorem g_I {C : Int → Int → Prop} {g : Int → Int → V} (hc : C i j) (h : Q (g i j) H) : rI C g (.int i) (.int j) H Q := ⟨i, j, rfl, rfl, hc, h⟩
theorem g_cmpI {p : Int → Int → Bool} (h : Q (.bl (p i j)) H) : rCmpI p (.int i) (.int j) H Q := ⟨i, j, rfl, rfl, h⟩
theorem g_addI (h : Q (.int (i + j)) H) : rAddU K (.int i) (.int j) H Q := h
theorem g_addS (hl : z.length + z'.length ≤ sizeLine) (h : Q (.str (z ++ z')) H) : rAddU K (.str z) (.str z') H Q := ⟨hl, h⟩
theorem g_mulI (hc : CMul i j ∨ CMulW i j) (h : Q (.int (i * j)) H) : rMulU (.int i) (.int j) H Q := ⟨hc, h⟩
theorem g_eqI (h : Q (.bl (decide (i = j))) H) : rEqU K false (.int i) (.int j) H Q := .inl ⟨rfl, by
  have e : decide (V.int i = V.int j) = decide (i = j) := by simp
  show Q (.bl (decide (V.int i = V.int j))) H
  rw [e]
  exact h⟩
theorem g_neI (h : Q (.bl (!decide (i = j))) H) : rEqU K true (.int i) (.int j) H Q := .inl ⟨rfl, by
  have e : decide (V.int i = V.int j) = decide (i = j) := by simp
  show Q (.bl (!decide (V.int i = V.int j))) H
  rw [e]
  exact h⟩
theorem g_eqS (h : Q (.bl (decide (z = z'))) H) : rEqU K false (.str z) (.str z') H Q := .inl ⟨rfl, by
  have e : decide (V.str z = V.str z') = decide (z = z') := by simp
  show Q (.bl (decide (V.str z = V.str z'))) H
  rw [e]
  exact h⟩
theorem g_neS (h : Q (.bl (!decide (z = z'))) H) : rEqU K true (.str z) (.str z') H Q := .inl ⟨rfl, by
  have e : decide (V.str z = V.str z') = decide (z = z') := by simp
  show Q (.bl (!decide (V.str z = V.str z'))) H
  rw [e]
  exact h⟩
theorem g_eqB (h : Q (.bl (decide (b = c))) H) : rEqU K false (.bl b) (.bl c) H Q := .inl ⟨rfl, by
  have e : decide (V.bl b = V.bl c) = decide (b = c) := by simp
  show Q (.bl (decide (V.bl b = V.bl c))) H
  rw [e]
  exact h⟩
theorem g_neB (h : Q (.bl (!decide (b = c))) H) : rEqU K true (.bl b) (.bl c) H Q := .inl ⟨rfl, by
  have e : decide (V.bl b = V.bl c) = decide (b = c) := by simp
  show Q (.bl (!decide (V.bl b = V.bl c))) H
  rw [e]
  exact h⟩
theorem g_eqD {d e : PyData} (h1 : Dp K H x d) (h2 : Dp K H y e) (s1 : SeqAt.shaped d = true) (s2 : SeqAt.shaped e = true) (h : Q (.bl (PyData.eqv d e)) H) : rEqU K false x y H Q := .inr ⟨d, e, h1, h2, s1, s2, h⟩
theorem g_neD {d e : PyData} (h1 : Dp K H x d) (h2 : Dp K H y e) (s1 : SeqAt.shaped d = true) (s2 : SeqAt.shaped e = true) (h : Q (.bl (!PyData.eqv d e)) H) : rEqU K true x y H Q := .inr ⟨d, e, h1, h2, s1, s2, h⟩
theorem g_test (h : te σ H fun x H' => ∃ k, x = .bl k ∧ QB k H') : tTest te σ H QB := h
theorem g_B (h : te σ H fun x H' => ∃ k, x = .bl k ∧ QB k H') : tB te σ H QB := h
theorem g_exb {R : Bool → Prop} (h : R b) : ∃ k, V.bl b = V.bl k ∧ R k := ⟨b, rfl, h⟩
theorem g_tru (h : te σ H fun x H' => ∃ k, TruV K x H' k ∧ QB k H') : tTru K te σ H QB := h
theorem g_truB {R : Bool → Prop} (h : R b) : ∃ k, TruV K (.bl b) H k ∧ R k := ⟨b, rfl, h⟩
theorem g_truI {R : Bool → Prop} (h : R (i != 0)) : ∃ k, TruV K (.int i) H k ∧ R k := ⟨_, rfl, h⟩
theorem g_truN {R : Bool → Prop} (h : R false) : ∃ k, TruV K .non H k ∧ R k := ⟨_, rfl, h⟩
theorem g_not (h : tt σ H fun c H1 => QB (!c) H1) : tNot tt σ H QB := h
theorem g_and (h : tt σ H fun c H1 => if c = true then tt' σ H1 QB else QB false H1) : tAnd tt tt' σ H QB := h
theorem g_or (h : tt σ H fun c H1 => if c = true then QB true H1 else tt' σ H1 QB) : tOr tt tt' σ H QB := h
theorem g_notV (h : ta σ H fun x H1 => ∃ c, x = .bl c ∧ Q (.bl (!c)) H1) : tNotV ta σ H Q := h
theorem g_andV (h : ta σ H fun x H1 => ∃ c, x = .bl c ∧ if c = true then tb σ H1 Q else Q (.bl false) H1) : tAndV ta tb σ H Q := h
theorem g_orV (h : ta σ H fun x H1 => ∃ c, x = .bl c ∧ if c = true then Q (.bl true) H1 else tb σ H1 Q) : tOrV ta tb σ H Q := h
theorem g_ifE (h : tt σ H fun c H1 => if c = true then ta σ H1 Q else tb σ H1 Q) : tIf tt ta tb σ H Q := h
theorem g_chain (h : ta σ H fun x H1 => tb σ H1 fun y H2 => r x y H2 fun z H3 => ∃ k, z = .bl k ∧ (if k = true then tc σ H3 fun w' H4 => r' y w' H4 Q else Q (.bl false) H3)) : tChain r r' ta tb tc σ H Q := h
theorem g_nilA (h : QA [] H) : tNil σ H QA := h
theorem g_consA (h : ta σ H fun x H1 => tA σ H1 fun xs H2 => QA (x :: xs) H2) : tCons ta tA σ H QA := h
theorem g_tup (h : tA σ H fun xs H1 => rTupN xs H1 Q) : tTup tA σ H Q := h
theorem g_lst (h : tA σ H fun xs H1 => rLstN xs H1 Q) : tLst tA σ H Q := h
theorem g_cb {r : List V → Hp → VK → Prop} (h : tA σ H fun vs H1 => r vs H1 Q) : tCB r tA σ H Q := h
theorem g_call (h : tA σ H fun vs H1 => sp (vs ++ dvs) H1 Q E) : tCall sp dvs E tA σ H Q := h
theorem g_bm {T : String} {r : V → List V → Hp → VK → Prop} (h : te σ H fun x H1 => tyV K T x H1 ∧ tA σ H1 fun xs H2 => r x xs H2 Q) : tBM K T r te tA σ H Q := h
theorem g_bm0 {T : String} {r : V → List V → Hp → VK → Prop} (h : te σ H fun x H1 => tyV K T x H1 ∧ r x [] H1 Q) : tBM0 K T r te σ H Q := h
theorem g_lenL (hl : SqL K H a xs) (h : Q (.int (xs.length : Nat)) H) : rLenU K [.ref a] H Q := .inl ⟨_, _, rfl, .inl ⟨_, hl, rfl⟩, h⟩
theorem g_lenT (hl : SqT K H a xs) (h : Q (.int (xs.length : Nat)) H) : rLenU K [.ref a] H Q := .inl ⟨_, _, rfl, .inr ⟨_, hl, rfl⟩, h⟩
theorem g_lenS (hl : z.length ≤ sizeLine) (h : Q (.int (z.length : Nat)) H) : rLenU K [.str z] H Q := .inl ⟨_, _, rfl, ⟨hl, rfl⟩, h⟩
theorem g_abs (h : Q (.int (if i < 0 then -i else i)) H) : rAbs [.int i] H Q := ⟨i, rfl, h⟩
theorem g_max2 (h : Q (.int (if j > i then j else i)) H) : rMax2 [.int i, .int j] H Q := ⟨i, j, rfl, h⟩
theorem g_min2 (h : Q (.int (if j < i then j else i)) H) : rMin2 [.int i, .int j] H Q := ⟨i, j, rfl, h⟩
theorem g_intI (h : Q (.int i) H) : rInt1 [.int i] H Q := .inl ⟨i, rfl, h⟩
theorem g_intB (h : Q (.int (if b then 1 else 0)) H) : rInt1 [.bl b] H Q := .inr ⟨b, rfl, h⟩
theorem g_ixL {n : Nat} (hl : SqL K H a xs) (e : i = (n : Int)) (hv : xs[n]? = some v) (h : Q v H) : rIxU K (.ref a) (.int i) H Q := .inl ⟨_, _, _, _, rfl, rfl, hl, by rw [e]; exact atI_nat hv, h⟩
theorem g_ixL' (hl : SqL K H a xs) (hv : atI xs i = some v) (h : Q v H) : rIxU K (.ref a) (.int i) H Q := .inl ⟨_, _, _, _, rfl, rfl, hl, hv, h⟩
theorem g_ixT {n : Nat} (hl : SqT K H a xs) (e : i = (n : Int)) (hv : xs[n]? = some v) (h : Q v H) : rIxU K (.ref a) (.int i) H Q := .inr (.inl ⟨_, _, _, _, rfl, rfl, hl, by rw [e]; exact atI_nat hv, h⟩)
theorem g_ixT' (hl : SqT K H a xs) (hv : atI xs i = some v) (h : Q v H) : rIxU K (.ref a) (.int i) H Q := .inr (.inl ⟨_, _, _, _, rfl, rfl, hl, hv, h⟩)
theorem g_ixD (g : DGet H a x (some v)) (h : Q v H) : rIxU K (.ref a) x H Q := .inr (.inr (.inr ⟨_, _, rfl, g, h⟩))
theorem g_isi {t u : Value} (hc : ClsV y u) (ht : TyX K H x t) (hk : PySem.W.kitOne K t u = some b) (h : Q (.bl b) H) : rIsi K [x, y] H Q := ⟨x, y, t, u, b, rfl, hc, ht, hk, h⟩
/-- branches -/
theorem g_if [Decidable p] (h1 : p → A) (h2 : ¬ p → B) : if decide p = true then A else B := by
  by_cases h : p
  · rw [if_pos (decide_eq_true h)]
    exact h1 h
  · rw [if_neg fun z => h (of_decide_eq_true z)]
    exact h2 h
theorem g_ifN [Decidable p] (h1 : ¬ p → A) (h2 : p → B) : if (!decide p) = true then A else B := by
  by_cases h : p
  · rw [decide_eq_true h]
    exact h2 h
  · rw [decide_eq_false h]
    exact h1 h
theorem g_ifB (h1 : b = true → A) (h2 : b = false → B) : if b = true then A else B := by
  cases b with
  | true => exact h1 rfl
  | false => exact h2 rfl
theorem g_ifBn (h1 : b = false → A) (h2 : b = true → B) : if (!b) = true then A else B := by
  cases b with
  | true => exact h2 rfl
  | false => exact h1 rfl
theorem g_ifT (h : A) : if true = true then A else B := h
theorem g_ifF (h : B) : if false = true then A else B := h
theorem g_ifNT (h : B) : if (!true) = true then A else B := h
theorem g_ifNF (h : A) : if (!false) = true then A else B := h
/-- a list grown -/
theorem g_append {L : List (Addr × HO)} (M : Has H L) (n : Nat) (h : L[n]? = some (a, .lst xs)) (hl : xs.length < sizeLine) (k : Has (upd H a (.lst (xs ++ [y]))) (L.set n (a, .lst (xs ++ [y]))) → Q .non (upd H a (.lst (xs ++ [y])))) : rAppend (.ref a) [y] H Q :=
  ⟨a, xs, y, rfl, rfl, M.get n h, hl, k (M.set n h)⟩
theorem g_setL {L : List (Addr × HO)} {R : Hp → Prop} {m : Nat} (M : Has H L) (n : Nat) (h : L[n]? = some (a, .lst xs)) (hi : ixN xs.length i = some m) (k : Has (upd H a (.lst (xs.set m y))) (L.set n (a, .lst (xs.set m y))) → R (upd H a (.lst (xs.set m y)))) : rSetL (.ref a) (.int i) y H R :=
  ⟨a, xs, i, m, rfl, rfl, M.get n h, hi, k (M.set n h)⟩
/-- a new object -/
theorem g_new {L : List (Addr × HO)} {o : HO} {R : Addr → Hp → Prop} (M : Has H L) (k : ∀ p, H p = none → Has (upd H p o) (L ++ [(p, o)]) → R p (upd H p o)) : ∀ p, H p = none → R p (upd H p o) := fun p hp => k p hp (M.new hp)
end
theorem mul_ok {i j : Int} (h : -18446744073709551616 < j) (h2 : j < 18446744073709551616) : CMul i j ∨ CMulW i j := .inl (.inr ⟨h, h2⟩)
theorem mul_ok' {i j : Int} (h : -18446744073709551616 < i) (h2 : i < 18446744073709551616) : CMul i j ∨ CMulW i j := .inl (.inl ⟨h, h2⟩)
theorem cdivW_of {i j : Int} (h : 0 < j) (h2 : j < 2 ^ 64) : CDivW i j := wide_div h (b := 64) (by omega) (by decide) (by decide)
theorem cpow_of {i j : Int} (h : 0 ≤ j) (h2 : j ≤ 1000000) (h3 : i.natAbs < 2 ^ 64) : CPow i j := ⟨h, h2, h3⟩

/-! ### loops -/
/-- what a for asks once its iterator has come -/
def ForW (g : TG) (tb : TS) (D : Ends) (σ : L2.St) : It → Hp → Prop := fun J H1 => ∃ W : Nat → Nat → L2.St → Hp → Prop, (∃ m, W 0 m σ H1) ∧ ∀ i m σ H, W i m σ H →
  (J.stop i H ∧ D.nx σ H) ∨ (J.go i H ∧ ∃ N : L2.St → Hp → Prop, (∀ σ' H', N σ' H' → ∃ m', m' < m ∧ W (i + 1) m' σ' H') ∧ ∀ x H', J.yld i H x H' → g x σ H' fun σ2 H2 => tb { D with nx := N, ct := N, bk := D.nx } σ2 H2)
def rR1 : List V → Hp → (It → Hp → Prop) → Prop := fun vs H R => ∃ j : Int, vs = [.int j] ∧ -(2 ^ 62) ≤ j ∧ j < 2 ^ 62 ∧ R (Itr 0 j.toNat) H
def rR2 : List V → Hp → (It → Hp → Prop) → Prop := fun vs H R => ∃ i j : Int, vs = [.int i, .int j] ∧ (-(2 ^ 62) ≤ i ∧ i < 2 ^ 62 ∧ -(2 ^ 62) ≤ j ∧ j < 2 ^ 62) ∧ R (Itr i (j - i).toNat) H
def iR (r : List V → Hp → (It → Hp → Prop) → Prop) (ta : TA) : TI := fun σ H R => ta σ H fun vs H1 => r vs H1 R
theorem pi_r1 {X : Cx} {tg a : Expr} {ta : TA} {p pos : Pos} (hg : Gl X "range") (hm : X.mg "range" = none) (ha : PA X [a] ta) (hs : starEach [a] X.env = [(false, eval a X.env)] := by rfl) : PI X tg (.Call (.Name "range" p) [a] [] pos) (iR rR1 ta) := pi_range1 hg hm ha hs
theorem pi_r2 {X : Cx} {tg a b : Expr} {ta : TA} {p pos : Pos} (hg : Gl X "range") (hm : X.mg "range" = none) (ha : PA X [a, b] ta) (hs : starEach [a, b] X.env = [(false, eval a X.env), (false, eval b X.env)] := by rfl) (hs2 : starEach [b] X.env = [(false, eval b X.env)] := by rfl) : PI X tg (.Call (.Name "range" p) [a, b] [] pos) (iR rR2 ta) := pi_range2 hg hm ha hs hs2
section
variable {K : PySem.W.Frag} {σ : L2.St} {H : Hp} {D : Ends} {wi : TI} {g : TG} {tb : TS} {ta : TA} {te : TE} {R : It → Hp → Prop} {r : List V → Hp → (It → Hp → Prop) → Prop} {i j : Int} {a : Addr} {xs : List V} {Q : VK} {n lo : Int}
theorem g_for (h : wi σ H (ForW g tb D σ)) : tFor wi g tb D σ H := h
theorem g_iR (h : ta σ H fun vs H1 => r vs H1 R) : iR r ta σ H R := h
theorem g_rR1 (h1 : -4611686018427387904 ≤ i) (h2 : i < 4611686018427387904) (h : R (Itr 0 i.toNat) H) : rR1 [.int i] H R := ⟨i, rfl, h1, h2, h⟩
theorem g_rR2 (h1 : -4611686018427387904 ≤ i ∧ i < 4611686018427387904 ∧ -4611686018427387904 ≤ j ∧ j < 4611686018427387904) (h : R (Itr i (j - i).toNat) H) : rR2 [.int i, .int j] H R := ⟨i, j, rfl, h1, h⟩
theorem g_iSeq (h : te σ H fun x H1 => (∃ a xs, x = .ref a ∧ SqL K H1 a xs ∧ R (Itl K a) H1) ∨ ∃ a xs, x = .ref a ∧ SqT K H1 a xs ∧ R (Itt K a) H1) : iSeq K te σ H R := h
theorem g_seqL (hl : SqL K H a xs) (h : R (Itl K a) H) : (∃ b ys, V.ref a = .ref b ∧ SqL K H b ys ∧ R (Itl K b) H) ∨ ∃ b ys, V.ref a = .ref b ∧ SqT K H b ys ∧ R (Itt K b) H := .inl ⟨a, xs, rfl, hl, h⟩
theorem g_seqT (hl : SqT K H a xs) (h : R (Itt K a) H) : (∃ b ys, V.ref a = .ref b ∧ SqL K H b ys ∧ R (Itl K b) H) ∨ ∃ b ys, V.ref a = .ref b ∧ SqT K H b ys ∧ R (Itt K b) H := .inr ⟨a, xs, rfl, hl, h⟩
theorem f_range {lo : Int} {n : Nat} (Pv : Nat → L2.St → Hp → Prop) (h0 : Pv 0 σ H)
    (hs : ∀ i σ H, i < n → Pv i σ H → g (.int (lo + i)) σ H fun σ2 H2 => tb { nx := Pv (i + 1), rt := D.rt, ct := Pv (i + 1), bk := D.nx } σ2 H2) (hd : ∀ σ H, Pv n σ H → D.nx σ H) : ForW g tb D σ (Itr lo n) H := for_range Pv h0 hs hd
theorem f_list (Pv : Nat → L2.St → Hp → Prop) (h0 : Pv 0 σ H) (hl : ∀ i σ H, i ≤ xs.length → Pv i σ H → SqL K H a xs)
    (hs : ∀ i x σ H, xs[i]? = some x → Pv i σ H → g x σ H fun σ2 H2 => tb { nx := Pv (i + 1), rt := D.rt, ct := Pv (i + 1), bk := D.nx } σ2 H2) (hd : ∀ σ H, Pv xs.length σ H → D.nx σ H) : ForW g tb D σ (Itl K a) H := for_list Pv h0 hl hs hd
theorem f_tup (Pv : Nat → L2.St → Hp → Prop) (h0 : Pv 0 σ H) (hl : ∀ i σ H, i ≤ xs.length → Pv i σ H → SqT K H a xs)
    (hs : ∀ i x σ H, xs[i]? = some x → Pv i σ H → g x σ H fun σ2 H2 => tb { nx := Pv (i + 1), rt := D.rt, ct := Pv (i + 1), bk := D.nx } σ2 H2) (hd : ∀ σ H, Pv xs.length σ H → D.nx σ H) : ForW g tb D σ (Itt K a) H := for_tup Pv h0 hl hs hd
/-- while: W by a measure and the state -/
def WhileW (c : TT) (tb : TS) (D : Ends) (W : Nat → L2.St → Hp → Prop) : Prop := ∀ m σ H, W m σ H →
  c σ H fun b H1 => if b = true then ∃ N : L2.St → Hp → Prop, (∀ σ' H', N σ' H' → ∃ m', m' < m ∧ W m' σ' H') ∧ tb { D with nx := N, ct := N, bk := D.nx } σ H1 else D.nx σ H1
theorem g_whileT {m : Nat} {W : Nat → L2.St → Hp → Prop} {A : (L2.St → Hp → Prop) → Prop} (h : A fun σ' H' => ∃ m', m' < m ∧ W m' σ' H') : ∃ N : L2.St → Hp → Prop, (∀ σ' H', N σ' H' → ∃ m', m' < m ∧ W m' σ' H') ∧ A N := ⟨_, fun _ _ h => h, h⟩
/-! ### isinstance of the scalars -/
theorem isi_of {x : V} {T T' : String} {b : Bool} (ht : TyX K H x (.type T)) (hk : kitB T T' = some b) (h : Q (.bl b) H) : rIsi K [x, .ty T'] H Q := ⟨x, .ty T', .type T, .type T', b, rfl, .ty T', ht, kit_ty hk, h⟩
theorem k_ii : kitB "int" "int" = some true := by decide +kernel
theorem k_ib : kitB "int" "bool" = some false := by decide +kernel
theorem k_bi : kitB "bool" "int" = some true := by decide +kernel
theorem k_bb : kitB "bool" "bool" = some true := by decide +kernel
theorem k_is_ : kitB "int" "str" = some false := by decide +kernel
theorem k_bs : kitB "bool" "str" = some false := by decide +kernel
theorem k_it : kitB "int" "tuple" = some false := by decide +kernel
theorem k_bt : kitB "bool" "tuple" = some false := by decide +kernel
theorem k_si : kitB "str" "int" = some false := by decide +kernel
theorem k_sb : kitB "str" "bool" = some false := by decide +kernel
theorem k_ss : kitB "str" "str" = some true := by decide +kernel
theorem k_st : kitB "str" "tuple" = some false := by decide +kernel
theorem k_ni : kitB "NoneType" "int" = some false := by decide +kernel
theorem k_nb : kitB "NoneType" "bool" = some false := by decide +kernel
theorem k_ns : kitB "NoneType" "str" = some false := by decide +kernel
theorem k_nt : kitB "NoneType" "tuple" = some false := by decide +kernel
theorem k_tt : kitB "tuple" "tuple" = some true := by decide +kernel
theorem k_ti : kitB "tuple" "int" = some false := by decide +kernel
theorem k_tb : kitB "tuple" "bool" = some false := by decide +kernel
theorem k_ts : kitB "tuple" "str" = some false := by decide +kernel
variable {z : Str} {b : Bool}
theorem g_isiIi (h : Q (.bl true) H) : rIsi K [.int i, .ty "int"] H Q := isi_of (.base (.int i)) k_ii h
theorem g_isiIb (h : Q (.bl false) H) : rIsi K [.int i, .ty "bool"] H Q := isi_of (.base (.int i)) k_ib h
theorem g_isiIs (h : Q (.bl false) H) : rIsi K [.int i, .ty "str"] H Q := isi_of (.base (.int i)) k_is_ h
theorem g_isiIt (h : Q (.bl false) H) : rIsi K [.int i, .ty "tuple"] H Q := isi_of (.base (.int i)) k_it h
theorem g_isiBi (h : Q (.bl true) H) : rIsi K [.bl b, .ty "int"] H Q := isi_of (.base (.bl b)) k_bi h
theorem g_isiBb (h : Q (.bl true) H) : rIsi K [.bl b, .ty "bool"] H Q := isi_of (.base (.bl b)) k_bb h
theorem g_isiBs (h : Q (.bl false) H) : rIsi K [.bl b, .ty "str"] H Q := isi_of (.base (.bl b)) k_bs h
theorem g_isiBt (h : Q (.bl false) H) : rIsi K [.bl b, .ty "tuple"] H Q := isi_of (.base (.bl b)) k_bt h
theorem g_isiSi (h : Q (.bl false) H) : rIsi K [.str z, .ty "int"] H Q := isi_of (.base (.str z)) k_si h
theorem g_isiSb (h : Q (.bl false) H) : rIsi K [.str z, .ty "bool"] H Q := isi_of (.base (.str z)) k_sb h
theorem g_isiSs (h : Q (.bl true) H) : rIsi K [.str z, .ty "str"] H Q := isi_of (.base (.str z)) k_ss h
theorem g_isiSt (h : Q (.bl false) H) : rIsi K [.str z, .ty "tuple"] H Q := isi_of (.base (.str z)) k_st h
theorem g_isiNi (h : Q (.bl false) H) : rIsi K [.non, .ty "int"] H Q := isi_of (.base .non) k_ni h
theorem g_isiNb (h : Q (.bl false) H) : rIsi K [.non, .ty "bool"] H Q := isi_of (.base .non) k_nb h
theorem g_isiNs (h : Q (.bl false) H) : rIsi K [.non, .ty "str"] H Q := isi_of (.base .non) k_ns h
theorem g_isiNt (h : Q (.bl false) H) : rIsi K [.non, .ty "tuple"] H Q := isi_of (.base .non) k_nt h
end
section
variable {H H1 : Hp} {a : Addr} {o : HO}
theorem Same.mut (x : Same H H1) (h : H a = none) : Same H (upd H1 a o) := fun b u e => by
  rw [upd_ne (ne_of_none e h)]
  exact x b u e
theorem Same.new' (x : Same H H1) (h : H1 a = none) : Same H (upd H1 a o) := fun b u e => keep_new (x b u e) h
end
theorem q_int {Q : VK} {x y : Int} {H : Hp} (e : x = y) (h : Q (.int x) H) : Q (.int y) H := e ▸ h
theorem q_bl {Q : VK} {x y : Bool} {H : Hp} (e : x = y) (h : Q (.bl x) H) : Q (.bl y) H := e ▸ h
theorem q_str {Q : VK} {x y : Str} {H : Hp} (e : x = y) (h : Q (.str x) H) : Q (.str y) H := e ▸ h
theorem g_disp {trs : List (TE × TE)} {σ : L2.St} {H : Hp} {Q : VK} (h : ∀ p, H p = none → tPairs trs σ (upd H p (.dK [])) fun ps H2 => H2 p = some (.dK []) ∧ ∃ kvs : List (Key × V), ps = kvs.map (fun kv => (kV kv.1, kv.2)) ∧ kvs.length ≤ 15 ∧ Q (.ref p) (upd H2 p (.dK (mergeK [] kvs)))) : tDisp trs σ H Q := h
theorem g_pairN {σ : L2.St} {H : Hp} {R : List (V × V) → Hp → Prop} (h : R [] H) : tPairs [] σ H R := h
theorem g_pairC {tk tv : TE} {r : List (TE × TE)} {σ : L2.St} {H : Hp} {R : List (V × V) → Hp → Prop} (h : tk σ H fun x H1 => tv σ H1 fun y H2 => tPairs r σ H2 fun ps H3 => R ((x, y) :: ps) H3) : tPairs ((tk, tv) :: r) σ H R := h
theorem g_dput {td ty tv : TE} {D : Ends} {σ : L2.St} {H : Hp} (h : tv σ H fun v H1 => td σ H1 fun x H2 => ty σ H2 fun y H3 => ∃ a H4, x = .ref a ∧ DPut H3 a y v H4 ∧ D.nx σ H4) : sDPut td ty tv D σ H := h

/-! ### the laws' draws: a dict with a row, a place and a seed -/
theorem ne_ra : ¬ (("row" : Str) = "at") := by decide +kernel
theorem ne_rs : ¬ (("row" : Str) = "seed") := by decide +kernel
theorem ne_as : ¬ (("at" : Str) = "seed") := by decide +kernel
theorem ne_sa : ¬ (("seed" : Str) = "at") := by decide +kernel
theorem ne_ar : ¬ (("at" : Str) = "row") := by decide +kernel
theorem ne_sr : ¬ (("seed" : Str) = "row") := by decide +kernel
def drK (r : Addr) (n sd : Int) : List (Key × V) := [(.inr "row", .ref r), (.inr "at", .int n), (.inr "seed", .int sd)]
structure RowOk (row : List Int) (sd : Int) : Prop where
  dig : ∀ x ∈ row, 0 ≤ x ∧ x < 1000
  len : row.length ≤ 1260
  s0 : 0 ≤ sd
  s1 : sd < 1000003
theorem dr_row (r : Addr) (n sd : Int) : valV (drK r n sd) (.inr "row") = some (.ref r) := by
  unfold drK
  exact valV_pos rfl
theorem dr_at (r : Addr) (n sd : Int) : valV (drK r n sd) (.inr "at") = some (.int n) := by
  unfold drK
  rw [valV_neg (fun e => ne_ra (Sum.inr.inj e))]
  exact valV_pos rfl
theorem dr_seed (r : Addr) (n sd : Int) : valV (drK r n sd) (.inr "seed") = some (.int sd) := by
  unfold drK
  rw [valV_neg (fun e => ne_rs (Sum.inr.inj e)), valV_neg (fun e => ne_as (Sum.inr.inj e))]
  exact valV_pos rfl
theorem dr_put (r : Addr) (n m sd : Int) : putK (drK r n sd) (.inr "at") (.int m) = drK r m sd := by
  unfold putK
  rw [valV_any, dr_at]
  simp only [Option.isSome_some, if_true]
  unfold drK
  simp only [List.map_cons, List.map_nil]
  rw [if_neg (fun e => ne_ra (Sum.inr.inj e)), if_pos trivial, if_neg (fun e => ne_sa (Sum.inr.inj e))]
theorem dr_made (r : Addr) (n sd : Int) : mergeK [] [(.inr "row", .ref r), (.inr "at", .int n), (.inr "seed", .int sd)] = drK r n sd := by
  have h1 : putK ([] : List (Key × V)) (.inr "row") (.ref r) = [(.inr "row", .ref r)] := putK_new _ rfl
  have h2 : putK ([(.inr "row", .ref r)] : List (Key × V)) (.inr "at") (.int n) = [(.inr "row", .ref r)] ++ [(.inr "at", .int n)] := putK_new _ (by rw [valV_neg (fun e => ne_ra (Sum.inr.inj e))]; rfl)
  have h3 : putK ([(.inr "row", .ref r), (.inr "at", .int n)] : List (Key × V)) (.inr "seed") (.int sd) = [(.inr "row", .ref r), (.inr "at", .int n)] ++ [(.inr "seed", .int sd)] := putK_new _ (by
    rw [valV_neg (fun e => ne_rs (Sum.inr.inj e)), valV_neg (fun e => ne_as (Sum.inr.inj e))]; rfl)
  unfold mergeK
  simp only [List.foldl_cons, List.foldl_nil]
  rw [h1, h2]
  exact h3
theorem dg_row {H : Hp} {d r : Addr} {n sd : Int} (h : H d = some (.dK (drK r n sd))) : DGet H d (.str "row") (some (.ref r)) := by
  rw [← dr_row r n sd]
  exact DGet.k (k := .inr "row") h
theorem dg_at {H : Hp} {d r : Addr} {n sd : Int} (h : H d = some (.dK (drK r n sd))) : DGet H d (.str "at") (some (.int n)) := by
  rw [← dr_at r n sd]
  exact DGet.k (k := .inr "at") h
theorem dg_seed {H : Hp} {d r : Addr} {n sd : Int} (h : H d = some (.dK (drK r n sd))) : DGet H d (.str "seed") (some (.int sd)) := by
  rw [← dr_seed r n sd]
  exact DGet.k (k := .inr "seed") h
theorem dp_at {H : Hp} {d r : Addr} {n sd : Int} (m : Int) (h : H d = some (.dK (drK r n sd))) : DPut H d (.str "at") (.int m) (upd H d (.dK (drK r m sd))) := by
  rw [← dr_put r n m sd]
  exact DPut.k (k := .inr "at") h (by show 3 < sizeLine; decide)
theorem szl {n : Nat} (h : n ≤ 100000) : n < sizeLine := Nat.lt_of_le_of_lt h (by decide)
theorem szle {n : Nat} (h : n ≤ 100000) : n ≤ sizeLine := Nat.le_trans h (by decide)

/-! ### //, %, shifts by name -/
def rMod : R2 := rI (fun _ j => 0 < j) fun i j => .int (i % j)
def rFdiv : R2 := rI CDivW fun i j => .int (i / j)
def rShl : R2 := rI CPow fun i j => .int (i * 2 ^ j.toNat)
def rPow : R2 := rI CPow fun i j => .int (i ^ j.toNat)
def rShr : R2 := rI (fun _ j => 0 ≤ j) fun i j => .int (i / 2 ^ j.toNat)
section
variable {X : Cx} {i j : Int} {H : Hp} {Q : VK}
theorem o_mod : OpR X (binaryOp .Mod) rMod := op_mod
theorem o_fdiv : OpR X (binaryOp .FloorDiv) rFdiv := op_fdivW
theorem o_shl : OpR X (binaryOp .LShift) rShl := op_shl
theorem o_pow : OpR X (binaryOp .Pow) rPow := op_pow
theorem o_shr : OpR X (binaryOp .RShift) rShr := op_shr
theorem io_fdiv : OpR X (inplaceOp .FloorDiv) rFdiv := iop_fdivW
theorem io_mod : OpR X (inplaceOp .Mod) rMod := iop_mod
theorem g_mod (h : 0 < j) (q : Q (.int (i % j)) H) : rMod (.int i) (.int j) H Q := ⟨i, j, rfl, rfl, h, q⟩
theorem g_fdiv (h : 0 < j) (h2 : j < 18446744073709551616) (q : Q (.int (i / j)) H) : rFdiv (.int i) (.int j) H Q := ⟨i, j, rfl, rfl, cdivW_of h h2, q⟩
theorem g_shl (h : 0 ≤ j) (h2 : j ≤ 1000000) (h3 : i.natAbs < 18446744073709551616) (q : Q (.int (i * 2 ^ j.toNat)) H) : rShl (.int i) (.int j) H Q := ⟨i, j, rfl, rfl, ⟨h, h2, h3⟩, q⟩
theorem g_pow (h : 0 ≤ j) (h2 : j ≤ 1000000) (h3 : i.natAbs < 18446744073709551616) (q : Q (.int (i ^ j.toNat)) H) : rPow (.int i) (.int j) H Q := ⟨i, j, rfl, rfl, ⟨h, h2, h3⟩, q⟩
theorem g_shr (h : 0 ≤ j) (q : Q (.int (i / 2 ^ j.toNat)) H) : rShr (.int i) (.int j) H Q := ⟨i, j, rfl, rfl, h, q⟩
end

/-! ### fields, methods, makes -/
def rFld (K : PySem.W.Frag) (f : Str) : V → Hp → VK → Prop := fun x H Q => ∃ a C dx fs v, x = .ref a ∧ H a = some (.ins C dx fs) ∧ Cls K C ∧ NoAttr K C f ∧ fs.lookup f = some v ∧ Q v H
def rSFld (K : PySem.W.Frag) (f : Str) : V → V → Hp → (Hp → Prop) → Prop := fun x y H R => ∃ a C dx fs, x = .ref a ∧ H a = some (.ins C dx fs) ∧ Cls K C ∧ NoAttr K C f ∧ fs.length < 1000 ∧ R (upd H a (.ins C dx (putF f y fs)))
def tSFld (K : PySem.W.Frag) (ta tv : TE) (f : Str) : TS := fun D σ H => tv σ H fun y H1 => ta σ H1 fun x H2 => rSFld K f x y H2 (D.nx σ)
/-- o.f as a target within a tuple -/
def gFldU (K : PySem.W.Frag) (to : TE) (f : Str) : TG := fun v σ H Q => to σ H fun x H1 => rSFld K f x v H1 (Q σ)
theorem pg_fldU {X : Cx} {K : PySem.W.Frag} (hK : X.K = K) {o : Expr} {to : TE} {f : Str} {pos : Pos} (ho : PE X o to) : PG X (.Attribute o f pos) (gFldU K to f) := by
  subst hK
  refine ⟨fun pins s σ H v u Q I r h => ?_⟩
  rw [PySem.assign_Attribute]
  refine wpAny_bind (wpAny_holding (thn (ho.run pins s σ H _ I h) fun ov s1 ⟨x, H1, I1, rx, a, C, dx, fs, ex, ea, c, n, l, q⟩ => ?_))
  subst ex
  obtain rfl : ov = Value.ref a := rx
  refine wpAny_bind (wpAny_standAt (wpAny_bind (wpAny_holding (setattr_ok I1 ea c n l r fun s3 I3 => ?_))))
  exact wpAny_release ⟨σ, _, I3, q⟩
theorem g_gfld {K : PySem.W.Frag} {to : TE} {f : Str} {v : V} {σ : L2.St} {H : Hp} {Q : L2.St → Hp → Prop} (h : to σ H fun x H1 => rSFld K f x v H1 (Q σ)) : gFldU K to f v σ H Q := h
/-- the receiver of a method's call -/
def rRcv (C : Addr) (m : Str) : V → Hp → (Hp → Prop) → Prop := fun x H R => ∃ a dx fs, x = .ref a ∧ H a = some (.ins C dx fs) ∧ fs.lookup m = none ∧ R H
section
variable {X : Cx} {o e value : Expr} {f : Str} {pos pos' : Pos} {ta tv : TE}
theorem pe_fldU {K : PySem.W.Frag} (hK : X.K = K) (he : PE X e ta) (hb : attributeBase e f X.env (eval e X.env) = eval e X.env) : PE X (.Attribute e f pos) (tUn (rFld K f) ta) := by
  subst hK
  exact pe_fld he hb
theorem ps_fldU {K : PySem.W.Frag} (hK : X.K = K) (ha : PE X o ta) (hv : PE X value tv) (hs : swapsWith value (some (.Attribute o f pos')) pos.line X.env = pure false) : PS X (.Assign [.Attribute o f pos'] value pos) (tSFld K ta tv f) := by
  subst hK
  exact ps_fld ha hv hs
end
section
variable {K : PySem.W.Frag} {σ : L2.St} {H : Hp} {D : Ends} {ta tv : TE} {t : TA} {Q : VK} {v y : V} {a C dx : Addr} {fs fs' : List (Str × V)} {f m : Str} {sp : Sp} {dvs : List V} {E : XK} {L : List (Addr × HO)} {R : Hp → Prop}
theorem g_fld (he : H a = some (.ins C dx fs)) (cl : Cls K C) (na : NoAttr K C f) (l : fs.lookup f = some v) (h : Q v H) : rFld K f (.ref a) H Q := ⟨a, C, dx, fs, v, rfl, he, cl, na, l, h⟩
theorem g_sfld (h : tv σ H fun y H1 => ta σ H1 fun x H2 => rSFld K f x y H2 (D.nx σ)) : tSFld K ta tv f D σ H := h
theorem g_setF (M : Has H L) (n : Nat) (he : L[n]? = some (a, .ins C dx fs)) (cl : Cls K C) (na : NoAttr K C f) (hl : fs.length < 1000) (e : putF f y fs = fs') (k : Has (upd H a (.ins C dx fs')) (L.set n (a, .ins C dx fs')) → R (upd H a (.ins C dx fs'))) : rSFld K f (.ref a) y H R :=
  ⟨a, C, dx, fs, rfl, M.get n he, cl, na, hl, by rw [e]; exact k (M.set n he)⟩
theorem g_meth (h : ta σ H fun x H1 => ∃ a dx fs, x = .ref a ∧ H1 a = some (.ins C dx fs) ∧ fs.lookup m = none ∧ t σ H1 fun vs H2 => sp (x :: (vs ++ dvs)) H2 Q E) : tMeth C m sp dvs E ta t σ H Q := h
theorem g_rcv {A : Prop} (he : H a = some (.ins C dx fs)) (l : fs.lookup m = none) (h : A) : ∃ b dx' fs', V.ref a = .ref b ∧ H b = some (.ins C dx' fs') ∧ fs'.lookup m = none ∧ A := ⟨a, dx, fs, rfl, he, l, h⟩
theorem g_make (h : t σ H fun vs H1 => ∀ x dx, H1 x = none → H1 dx = none → dx ≠ x → sp (.ref x :: (vs ++ dvs)) (upd (upd H1 dx (.own x)) x (.ins C dx [])) (fun v H2 => v = .non ∧ Q (.ref x) H2) E) : tMake C sp dvs E t σ H Q := h
end
section
variable {H : Hp} {x dx C : Addr}
/-- the heap in which an __init__ starts -/
def made (H : Hp) (x dx C : Addr) : Hp := upd (upd H dx (.own x)) x (.ins C dx [])
theorem made_same (hx : H x = none) (hd : H dx = none) : Same H (made H x dx C) := fun b o e => by
  unfold made
  rw [upd_ne (ne_of_none e hx), upd_ne (ne_of_none e hd)]
  exact e
theorem made_at : made H x dx C x = some (.ins C dx []) := upd_same
theorem made_none {p : Addr} (h : made H x dx C p = none) : H p = none ∧ p ≠ x ∧ p ≠ dx := by
  unfold made at h
  by_cases h1 : p = x
  · subst h1; rw [upd_same] at h; cases h
  · rw [upd_ne h1] at h
    by_cases h2 : p = dx
    · subst h2; rw [upd_same] at h; cases h
    · rw [upd_ne h2] at h
      exact ⟨h, h1, h2⟩
end

/-! ### stores by place, replicated lists, slices, all and any -/
def rSetU : V → V → V → Hp → (Hp → Prop) → Prop := fun o i v H Q => rSetL o i v H Q ∨ ∃ a H', o = .ref a ∧ DPut H a i v H' ∧ Q H'
section
variable {X : Cx}
theorem set_U (hu : X.A.units + 1 < cLine) : PSet X rSetU := by
  intro pins s σ H o i v ov iv u Q I ro ri rv h
  rcases h with h | ⟨a, H', rfl, g, q⟩
  · exact set_list pins s σ H o i v ov iv u Q I ro ri rv h
  · obtain rfl : ov = Value.ref a := ro
    exact d_setItem hu I g ri rv fun s1 I1 => ⟨H', I1, q⟩
end
section
variable {K : PySem.W.Frag} {σ : L2.St} {H : Hp} {R : Hp → Prop} {RS : L2.St → Hp → Prop} {te ti : TE} {t : TSet} {v y : V} {a : Addr} {xs : List V} {i : Int} {L : List (Addr × HO)} {m : Nat} {Q : VK}
theorem g_sub (h : te σ H fun o H1 => ti σ H1 fun i H2 => t o i v H2 fun H3 => RS σ H3) : gSub te ti t v σ H RS := h
theorem g_setU (M : Has H L) (n : Nat) (h : L[n]? = some (a, .lst xs)) (hi : i = (m : Int)) (hm : m < xs.length) (k : Has (upd H a (.lst (xs.set m y))) (L.set n (a, .lst (xs.set m y))) → R (upd H a (.lst (xs.set m y)))) : rSetU (.ref a) (.int i) y H R :=
  .inl ⟨a, xs, i, m, rfl, rfl, M.get n h, by
    unfold ixN
    rw [if_pos (by omega), if_pos (by omega)]
    congr 1
    omega, k (M.set n h)⟩
theorem rep_flat {x : V} : ∀ n : Nat, (List.replicate n [x]).flatten = List.replicate n x
  | 0 => rfl
  | n + 1 => by
    rw [List.replicate_succ, List.replicate_succ, List.flatten_cons, rep_flat n]
    rfl
theorem g_rep {x : V} {k : Int} (h : H a = some (.lst [x])) (h0 : -4611686018427387904 ≤ k) (h1 : k ≤ 100000) (q : ∀ p, H p = none → Q (.ref p) (upd H p (.lst (List.replicate k.toNat x)))) : rMulU (.ref a) (.int k) H Q := by
  refine .inl ⟨a, k, [x], rfl, rfl, h, by omega, by omega, szle (by simp; omega), fun p hp => ?_⟩
  rw [rep_flat]
  exact q p hp
theorem g_repI {x : Int} {k : Int} (h : H a = some (.lst [.int x])) (h0 : -4611686018427387904 ≤ k) (h1 : k ≤ 100000) (q : ∀ p, H p = none → Q (.ref p) (upd H p (.lst ((List.replicate k.toNat x).map V.int)))) : rMulU (.ref a) (.int k) H Q :=
  g_rep h h0 h1 fun p hp => by
    have z := q p hp
    rw [List.map_replicate] at z
    exact z
end
def rAllU (K : PySem.W.Frag) : List V → Hp → VK → Prop := fun vs H Q => ∃ (a : Addr) (bs : List Bool), vs = [V.ref a] ∧ SqL K H a (bs.map V.bl) ∧ Q (.bl (bs.all id)) H
def rAnyU (K : PySem.W.Frag) : List V → Hp → VK → Prop := fun vs H Q => ∃ (a : Addr) (bs : List Bool), vs = [V.ref a] ∧ SqL K H a (bs.map V.bl) ∧ Q (.bl (bs.any id)) H
section
variable {X : Cx} {K : PySem.W.Frag} {H : Hp} {Q : VK} {a : Addr} {bs : List Bool}
theorem c_all {K : PySem.W.Frag} (hK : X.K = K) (hc : X.calm = true) : CallR X (.builtin "all") (rAllU K) := by
  subst hK
  exact cr_all hc
theorem c_any {K : PySem.W.Frag} (hK : X.K = K) (hc : X.calm = true) : CallR X (.builtin "any") (rAnyU K) := by
  subst hK
  exact cr_any hc
theorem g_all (h : SqL K H a (bs.map V.bl)) (q : Q (.bl (bs.all id)) H) : rAllU K [.ref a] H Q := ⟨a, bs, rfl, h, q⟩
theorem g_any (h : SqL K H a (bs.map V.bl)) (q : Q (.bl (bs.any id)) H) : rAnyU K [.ref a] H Q := ⟨a, bs, rfl, h, q⟩
end
/-! slices -/
def rSlU (K : PySem.W.Frag) : V → Option Int → Option Int → Hp → VK → Prop := fun x lo hi H Q => rSlL K x lo hi H Q ∨ rSlA K x lo hi H Q ∨ ∃ z, x = .str z ∧ z.length ≤ sizeLine ∧ Q (.str (cutS z lo hi)) H
theorem sl_U {X : Cx} {K : PySem.W.Frag} (hK : X.K = K) : SlR X (rSlU K) := by
  subst hK
  exact sl_list.or (sl_tupA.or sl_str)
section
variable {K : PySem.W.Frag} {σ : L2.St} {H : Hp} {Q : VK} {te : TE} {tl th : TO} {QO : Option Int → Hp → Prop} {r : V → Option Int → Option Int → Hp → VK → Prop} {a : Addr} {xs : List V} {lo hi : Option Int} {i : Int} {z : Str}
theorem g_sl (h : te σ H fun x H1 => tl σ H1 fun l H2 => th σ H2 fun u H3 => r x l u H3 Q) : tSl r te tl th σ H Q := h
theorem g_part (h : te σ H fun x H1 => ∃ i, x = .int i ∧ QO (some i) H1) : tPart te σ H QO := h
theorem g_exi {A : Int → Prop} (h : A i) : ∃ j, V.int i = .int j ∧ A j := ⟨i, rfl, h⟩
theorem g_noPart (h : QO none H) : tNoPart σ H QO := h
theorem g_slL (h : SqL K H a xs) (q : ∀ p, H p = none → Q (.ref p) (upd H p (.lst (cutV xs lo hi)))) : rSlU K (.ref a) lo hi H Q := .inl ⟨a, xs, rfl, h, q⟩
theorem g_slS (hl : z.length ≤ sizeLine) (q : Q (.str (cutS z lo hi)) H) : rSlU K (.str z) lo hi H Q := .inr (.inr ⟨z, rfl, hl, q⟩)
end
theorem cutV_from {xs : List V} {n : Nat} : cutV xs (some (n : Int)) none = xs.drop n := by
  unfold cutV
  rw [HT.sIx_nat, HT.sIx_none]
  by_cases h : n ≤ xs.length
  · rw [Nat.min_eq_left h, List.take_of_length_le (by simp)]
  · rw [Nat.min_eq_right (by omega), List.drop_of_length_le (by omega), List.drop_of_length_le (by omega)]
    simp

/-! ### methods of built-in types, own methods: the written part named -/
section
variable {X : Cx} {K : PySem.W.Frag} {o e : Expr} {es : List Expr} {to : TE} {t : TA} {name : Str} {apos cpos pos : Pos} {T id : String} {r : V → List V → Hp → VK → Prop}
def rTyV (K : PySem.W.Frag) (T : String) : V → Hp → (Hp → Prop) → Prop := fun x H R => tyV K T x H ∧ R H
def tBMU (K : PySem.W.Frag) (T : String) (r : V → List V → Hp → VK → Prop) (to : TE) (t : TA) : TE := fun σ H Q => to σ H fun x H1 => rTyV K T x H1 fun H2 => t σ H2 fun xs H3 => r x xs H3 Q
end
theorem g_lenM {K : PySem.W.Frag} {H : Hp} {a : Addr} {Q : VK} {α : Type} {f : α → V} {ns : List α} (h : SqL K H a (ns.map f)) (q : Q (.int (ns.length : Nat)) H) : rLenU K [.ref a] H Q := g_lenL h (by rw [List.length_map]; exact q)
theorem g_ty_ {K : PySem.W.Frag} {T : String} {x : V} {H : Hp} {A : Prop} (h : tyV K T x H) (q : A) : tyV K T x H ∧ A := ⟨h, q⟩

/-! ### list comprehensions -/
def LcW (g : TG) (tt : TT) (te : TE) (vs : List Nat) (σ : L2.St) (Q : VK) : It → Hp → Prop := fun J H1 => ∀ D, H1 D = none → ∃ W : Nat → Nat → Hp → Prop, (∃ m, W 0 m (upd H1 D (.lst []))) ∧ ∀ i m H, W i m H →
  (J.stop i H ∧ Q (.ref D) H) ∨ (J.go i H ∧ ∃ Nx : Hp → Prop, (∀ H', Nx H' → ∃ m', m' < m ∧ W (i + 1) m' H') ∧ ∀ x H', J.yld i H x H' → g x (wipe σ vs) H' fun σ2 H2 => wipe σ2 vs = wipe σ vs ∧ tt σ2 H2 fun b H3 =>
    if b = true then te σ2 H3 fun y H4 => ∃ acc, H4 D = some (.lst acc) ∧ acc.length < sizeLine ∧ Nx (upd H4 D (.lst (acc ++ [y]))) else Nx H3)
section
variable {K : PySem.W.Frag} {σ : L2.St} {H : Hp} {g : TG} {tt : TT} {te : TE} {wi : TI} {vs : List Nat} {Q : VK} {lo : Int} {n : Nat} {a : Addr} {xs : List V} {QB : Bool → Hp → Prop}
theorem g_lc (h : wi σ H (LcW g tt te vs σ Q)) : tLc wi g tt te vs σ H Q := h
theorem g_yes (h : QB true H) : tYes σ H QB := h
theorem g_wipe {σ1 σ2 : L2.St} {A : Prop} (e : wipe σ1 vs = wipe σ2 vs) (h : A) : wipe σ1 vs = wipe σ2 vs ∧ A := ⟨e, h⟩
theorem l_range (Pv : Addr → Nat → Hp → Prop) (h0 : ∀ D, H D = none → Pv D 0 (upd H D (.lst [])))
    (hs : ∀ D, H D = none → ∀ i H', i < n → Pv D i H' → g (.int (lo + i)) (wipe σ vs) H' fun σ2 H2 => wipe σ2 vs = wipe σ vs ∧ tt σ2 H2 fun b H3 => if b = true then te σ2 H3 fun y H4 => ∃ acc, H4 D = some (.lst acc) ∧ acc.length < sizeLine ∧ Pv D (i + 1) (upd H4 D (.lst (acc ++ [y]))) else Pv D (i + 1) H3)
    (hd : ∀ D, H D = none → ∀ H', Pv D n H' → Q (.ref D) H') : LcW g tt te vs σ Q (Itr lo n) H := fun D hD => lc_range (Pv D) (h0 D hD) (hs D hD) (hd D hD)
theorem l_list (Pv : Addr → Nat → Hp → Prop) (h0 : ∀ D, H D = none → Pv D 0 (upd H D (.lst []))) (hl : ∀ D, H D = none → ∀ i H', i ≤ xs.length → Pv D i H' → SqL K H' a xs)
    (hs : ∀ D, H D = none → ∀ i x H', xs[i]? = some x → Pv D i H' → g x (wipe σ vs) H' fun σ2 H2 => wipe σ2 vs = wipe σ vs ∧ tt σ2 H2 fun b H3 => if b = true then te σ2 H3 fun y H4 => ∃ acc, H4 D = some (.lst acc) ∧ acc.length < sizeLine ∧ Pv D (i + 1) (upd H4 D (.lst (acc ++ [y]))) else Pv D (i + 1) H3)
    (hd : ∀ D, H D = none → ∀ H', Pv D xs.length H' → Q (.ref D) H') : LcW g tt te vs σ Q (Itl K a) H := fun D hD => lc_list (Pv D) (h0 D hD) (hl D hD) (hs D hD) (hd D hD)
theorem l_tup (Pv : Addr → Nat → Hp → Prop) (h0 : ∀ D, H D = none → Pv D 0 (upd H D (.lst []))) (hl : ∀ D, H D = none → ∀ i H', i ≤ xs.length → Pv D i H' → SqT K H' a xs)
    (hs : ∀ D, H D = none → ∀ i x H', xs[i]? = some x → Pv D i H' → g x (wipe σ vs) H' fun σ2 H2 => wipe σ2 vs = wipe σ vs ∧ tt σ2 H2 fun b H3 => if b = true then te σ2 H3 fun y H4 => ∃ acc, H4 D = some (.lst acc) ∧ acc.length < sizeLine ∧ Pv D (i + 1) (upd H4 D (.lst (acc ++ [y]))) else Pv D (i + 1) H3)
    (hd : ∀ D, H D = none → ∀ H', Pv D xs.length H' → Q (.ref D) H') : LcW g tt te vs σ Q (Itt K a) H := fun D hD => lc_tup (Pv D) (h0 D hD) (hl D hD) (hs D hD) (hd D hD)
end
section
variable {H H1 : Hp} {L : List (Addr × HO)} {a b : Addr} {o o' u u' : HO}
/-- two objects have changed -/
theorem Has.call2 (M : Has H L) (k : Keep [a, b] H H1) (i j : Nat) (hi : L[i]? = some (a, o)) (hj : L[j]? = some (b, u)) (hij : i ≠ j) (e1 : H1 a = some o') (e2 : H1 b = some u') : Has H1 ((L.set i (a, o')).set j (b, u')) := by
  have nab : a ≠ b := M.ne i j hi hj hij
  have k1 : Keep [a] H (upd H1 b u) := fun x w e n => by
    by_cases hx : x = b
    · subst hx
      rw [upd_same]
      exact (M.get j hj).symm.trans e
    · rw [upd_ne hx]
      refine k x w e ?_
      simp only [List.mem_cons, List.not_mem_nil, or_false, not_or]
      exact ⟨fun z => n (List.mem_singleton.mpr z), hx⟩
  have M1 : Has (upd H1 b u) (L.set i (a, o')) := M.call1 k1 i hi (by rw [upd_ne nab]; exact e1)
  have hj' : (L.set i (a, o'))[j]? = some (b, u) := by rw [List.getElem?_set_ne hij]; exact hj
  have M2 := M1.set (o' := u') j hj'
  have e : upd (upd H1 b u) b u' = H1 := by
    rw [upd_upd]
    funext x
    by_cases hx : x = b
    · subst hx
      rw [upd_same, e2]
    · rw [upd_ne hx]
  rw [e] at M2
  exact M2
end

/-! ### None asked -/
def rIsN (neg : Bool) : R2 := fun x y H Q => y = .non ∧ Q (.bl (if neg then !decide (x = .non) else decide (x = .non))) H
theorem o_isN {X : Cx} : OpR X (compareOp .Is) (rIsN false) := op_isN
theorem o_notN {X : Cx} : OpR X (compareOp .IsNot) (rIsN true) := op_notN
section
variable {H : Hp} {Q : VK} {i : Int} {z : Str} {b : Bool} {a : Addr}
theorem g_isNn (h : Q (.bl true) H) : rIsN false .non .non H Q := ⟨rfl, h⟩
theorem g_isNi (h : Q (.bl false) H) : rIsN false (.int i) .non H Q := ⟨rfl, h⟩
theorem g_isNs (h : Q (.bl false) H) : rIsN false (.str z) .non H Q := ⟨rfl, h⟩
theorem g_isNb (h : Q (.bl false) H) : rIsN false (.bl b) .non H Q := ⟨rfl, h⟩
theorem g_isNr (h : Q (.bl false) H) : rIsN false (.ref a) .non H Q := ⟨rfl, h⟩
theorem g_noNn (h : Q (.bl false) H) : rIsN true .non .non H Q := ⟨rfl, h⟩
theorem g_noNi (h : Q (.bl true) H) : rIsN true (.int i) .non H Q := ⟨rfl, h⟩
theorem g_noNs (h : Q (.bl true) H) : rIsN true (.str z) .non H Q := ⟨rfl, h⟩
theorem g_noNb (h : Q (.bl true) H) : rIsN true (.bl b) .non H Q := ⟨rfl, h⟩
theorem g_noNr (h : Q (.bl true) H) : rIsN true (.ref a) .non H Q := ⟨rfl, h⟩
end

/-! ### list.index, min and max of a list -/
def rIndexU (K : PySem.W.Frag) : V → List V → Hp → VK → Prop := rIndex K
theorem m_index {X : Cx} {K : PySem.W.Frag} (hK : X.K = K) : MtR X "list.index" (rIndexU K) := by
  subst hK
  exact mt_index
def rMin1 (K : PySem.W.Frag) : List V → Hp → VK → Prop := rMin K
def rMax1 (K : PySem.W.Frag) : List V → Hp → VK → Prop := rMax K
theorem c_min1 {X : Cx} {K : PySem.W.Frag} (hK : X.K = K) (hc : X.calm = true) : CallR X (.builtin "min") (rMin1 K) := by
  subst hK
  exact cr_min hc
theorem c_max1 {X : Cx} {K : PySem.W.Frag} (hK : X.K = K) (hc : X.calm = true) : CallR X (.builtin "max") (rMax1 K) := by
  subst hK
  exact cr_max hc
section
variable {K : PySem.W.Frag} {H : Hp} {Q : VK} {a : Addr} {ns : List Int} {ys : List V} {y z : V} {j : Nat}
theorem g_min1 (h : SqL K H a (ns.map V.int)) (h0 : 0 < ns.length) (q : ∀ m, m ∈ ns → (∀ y, y ∈ ns → m ≤ y) → Q (.int m) H) : rMin1 K [.ref a] H Q := ⟨a, ns, rfl, h, h0, q⟩
theorem g_max1 (h : SqL K H a (ns.map V.int)) (h0 : 0 < ns.length) (q : ∀ m, m ∈ ns → (∀ y, y ∈ ns → y ≤ m) → Q (.int m) H) : rMax1 K [.ref a] H Q := ⟨a, ns, rfl, h, h0, q⟩
theorem g_index (h : SqL K H a ys) (f1 : flatV y = true) (f2 : ys.all flatV = true) (hj : ys[j]? = some z) (e : eqV z y = true) (n : ∀ (m : Nat) (z' : V), m < j → ys[m]? = some z' → eqV z' y = false) (q : Q (.int (j : Nat)) H) : rIndexU K (.ref a) [y] H Q :=
  ⟨a, ys, y, j, z, rfl, rfl, h, f1, f2, hj, e, n, q⟩
end

/-! ### unpacking -/
section
variable {K : PySem.W.Frag} {σ : L2.St} {H : Hp} {R : L2.St → Hp → Prop} {t : TGs} {g : TG} {n : Nat} {a : Addr} {xs r : List V} {v : V}
theorem g_unp (h : SqT K H a xs) (hn : xs.length = n) (k : t xs σ H R) : gTup K n t (.ref a) σ H R := ⟨a, xs, rfl, h, hn, k⟩
theorem g_gc (k : g v σ H fun σ' H' => t r σ' H' R) : gCons g t (v :: r) σ H R := ⟨v, r, rfl, k⟩
theorem g_gn (k : R σ H) : gNil [] σ H R := ⟨rfl, k⟩
end
/-! e.f += x -/
def rFA (K : PySem.W.Frag) (tv : TE) (rd : V → V → Hp → VK → Prop) (f : Str) (σ : L2.St) : V → Hp → (Hp → Prop) → Prop := fun x H1 R => ∃ a C dx fs v, x = .ref a ∧ H1 a = some (.ins C dx fs) ∧ Cls K C ∧ NoAttr K C f ∧ fs.lookup f = some v ∧
  tv σ H1 fun y H2 => rd v y H2 fun z H3 => ∃ dx' fs', H3 a = some (.ins C dx' fs') ∧ fs'.length < 1000 ∧ R (upd H3 a (.ins C dx' (putF f z fs')))
section
variable {K : PySem.W.Frag} {σ : L2.St} {H : Hp} {D : Ends} {ta tv : TE} {a C dx : Addr} {fs fs' : List (Str × V)} {f : Str} {L : List (Addr × HO)} {R : Hp → Prop} {i j : Int} {rd : V → V → Hp → VK → Prop}
theorem g_fldaug (h : ta σ H fun x H1 => rFA K tv rd f σ x H1 (D.nx σ)) : sFldAug K ta tv rd f D σ H := h
theorem g_fa1 (M : Has H L) (n : Nat) (he : L[n]? = some (a, .ins C dx fs)) (cl : Cls K C) (na : NoAttr K C f) (l : fs.lookup f = some (.int i)) (hv : tv σ H fun y H2 => y = .int j ∧ H2 = H) (hl : fs.length < 1000) (e : putF f (.int (i + j)) fs = fs')
    (hm : ∀ {Q Q' : VK}, (∀ v H, Q v H → Q' v H) → tv σ H Q → tv σ H Q' := by intro Q Q' hh z; exact hh _ _ z) (k : Has (upd H a (.ins C dx fs')) (L.set n (a, .ins C dx fs')) → R (upd H a (.ins C dx fs'))) : rFA K tv rAdd f σ (.ref a) H R := by
  refine ⟨a, C, dx, fs, .int i, rfl, M.get n he, cl, na, l, hm (fun y H2 z => ?_) hv⟩
  obtain ⟨rfl, rfl⟩ := z
  exact ⟨i, j, rfl, rfl, dx, fs, M.get n he, hl, by rw [e]; exact k (M.set n he)⟩
end
theorem g_repT {H : Hp} {Q : VK} {a : Addr} {x : V} {k : Int} (h : H a = some (.tup [x])) (h0 : 1 ≤ k) (h1 : k ≤ 1000) (q : ∀ p H', Same H H' → H' p = some (.tup (List.replicate k.toNat x)) → Q (.ref p) H') : rMulU (.ref a) (.int k) H Q :=
  .inr ⟨a, k, [x], rfl, rfl, h, by simp, h0, h1, by simp, fun p H' sm hp => q p H' sm (by rw [rep_flat] at hp; exact hp)⟩
theorem g_isB {H : Hp} {Q : VK} {a b : Bool} (h : Q (.bl (decide (a = b))) H) : rIsB (.bl a) (.bl b) H Q := ⟨a, b, rfl, rfl, h⟩
theorem g_notB {H : Hp} {Q : VK} {a b : Bool} (h : Q (.bl (!decide (a = b))) H) : rNotB (.bl a) (.bl b) H Q := ⟨a, b, rfl, rfl, h⟩
/-! len(set(xs)) of ints, each once -/
def rLS (K : PySem.W.Frag) : V → Hp → VK → Prop := fun x H1 Q => ∃ (l : Addr) (ns : List Int), x = V.ref l ∧ SqL K H1 l (ns.map V.int) ∧ ns.length < 64 ∧ ns.Nodup ∧ Q (.int ns.length) H1
def tLS (K : PySem.W.Frag) (ta : TE) : TE := fun σ H Q => ta σ H fun x H1 => rLS K x H1 Q
theorem pe_lenSetU {X : Cx} {K : PySem.W.Frag} (hK : X.K = K) {a : Expr} {ta : TE} {p p2 q pos : Pos} (hc : X.calm = true) (hg : Gl X "len") (hm : X.mg "len" = none) (hg2 : Gl X "set") (hm2 : X.mg "set" = none) (ha : PE X a ta)
    (na : starEach [a] X.env = (false, eval a X.env) :: starEach [] X.env := by rfl) : PE X (.Call (.Name "len" p) [.Call (.Name "set" p2) [a] [] q] [] pos) (tLS K ta) := by
  subst hK
  exact pe_lenSetI hc hg hm hg2 hm2 ha na
section
variable {K : PySem.W.Frag} {σ : L2.St} {H : Hp} {ta : TE} {Q : VK} {l : Addr} {ns : List Int}
theorem g_lset (h : ta σ H fun x H1 => rLS K x H1 Q) : tLS K ta σ H Q := h
theorem g_ls (h : SqL K H l (ns.map V.int)) (hl : ns.length < 64) (hn : ns.Nodup) (q : Q (.int (ns.length : Nat)) H) : rLS K (.ref l) H Q := ⟨l, ns, rfl, h, hl, hn, q⟩
end
theorem _root_.G.Has.right {H : Hp} {X C : List (Addr × HO)} (M : Has H (X ++ C)) : Has H C := M.sub (List.sublist_append_right X C)
theorem _root_.G.Has.left {H : Hp} {X C : List (Addr × HO)} (M : Has H (X ++ C)) : Has H X := M.sub (List.sublist_append_left X C)
theorem _root_.G.Has.frameR {H H' : Hp} {X C C' : List (Addr × HO)} (M : Has H (X ++ C)) (k : Keep (C.map (·.1)) H H') (M' : Has H' C') (e : C'.map (·.1) = C.map (·.1)) : Has H' (X ++ C') := by
  have z := Has.frame (X := X) (L := C) (Y := []) (L' := C') (by rw [List.append_nil]; exact M) k M' e
  rw [List.append_nil] at z
  exact z
/-! texts that stand written: equal, not equal -/
section
variable {K : PySem.W.Frag} {H : Hp} {Q : VK} {z z' : Str}
theorem g_eqSS (h : Q (.bl true) H) : rEqU K false (.str z) (.str z) H Q := g_eqS (by rw [decide_eq_true (rfl : z = z)]; exact h)
theorem g_eqSx (e : ¬ z = z') (h : Q (.bl false) H) : rEqU K false (.str z) (.str z') H Q := g_eqS (by rw [decide_eq_false e]; exact h)
theorem g_neSS (h : Q (.bl false) H) : rEqU K true (.str z) (.str z) H Q := g_neS (by rw [decide_eq_true (rfl : z = z)]; exact h)
theorem g_neSx (e : ¬ z = z') (h : Q (.bl true) H) : rEqU K true (.str z) (.str z') H Q := g_neS (by rw [decide_eq_false e]; exact h)
end
theorem pg_tupU {X : Cx} {K : PySem.W.Frag} (hK : X.K = K) {es : List Expr} {k : Nat} {t : TGs} {n : Nat} {pos : Pos} (hc : X.calm = true) (h : PGs X es t)
    (hn : (assignEach es X.env).length = n := by rfl) (hst : (assignEach es X.env).findIdx? (·.1) = none := by rfl) : PG X (.Tuple es k pos) (gTup K n t) := by
  subst hK
  exact pg_tup hc h hn hst
/-! zip of two lists, of two tuples; a tuple's item by a written place -/
def rZipU (K : PySem.W.Frag) : List V → Hp → (It → Hp → Prop) → Prop := fun vs H1 R => ∃ a b xs ys, vs = [.ref a, .ref b] ∧ ((SqL K H1 a xs ∧ SqL K H1 b ys ∧ R (Itz K a b) H1) ∨ (SqT K H1 a xs ∧ SqT K H1 b ys ∧ R (RZ.ItzT K a b) H1))
theorem pi_zipU {X : Cx} {K : PySem.W.Frag} (hK : X.K = K) {e e2 : Expr} {ta : TA} {p pos tpos : Pos} {elts : List Expr} {kk : Nat} (hg : Gl X "zip") (hm : X.mg "zip" = none) (ha : PA X [e, e2] ta)
    (hs : starEach [e, e2] X.env = (false, eval e X.env) :: starEach [e2] X.env := by rfl) (hpl : (backTo pos (starEach [e2] X.env)).any (·.1) = false := by rfl) :
    PI X (.Tuple elts kk tpos) (.Call (.Name "zip" p) [e, e2] [] pos) (iR (rZipU K) ta) := by
  subst hK
  exact RZ.pi_zipA hg hm ha hs hpl
section
variable {K : PySem.W.Frag} {H : Hp} {Q : VK} {a b : Addr} {xs ys : List V} {i : Int} {v : V} {R : It → Hp → Prop} {td ty tx : TE} {σ : L2.St} {g : TG} {tb : TS} {D : Ends}
theorem g_ixA (h : H a = some (.tup xs)) (h0 : 0 ≤ i) (hv : xs[i.toNat]? = some v) (q : Q v H) : rIxU K (.ref a) (.int i) H Q := g_ixT (SqT.of h) (n := i.toNat) (Int.toNat_of_nonneg h0).symm hv q
theorem g_zipT (h1 : SqT K H a xs) (h2 : SqT K H b ys) (h : R (RZ.ItzT K a b) H) : rZipU K [.ref a, .ref b] H R := ⟨a, b, xs, ys, rfl, .inr ⟨h1, h2, h⟩⟩
theorem f_zipT (hl : xs.length = ys.length) (Pv : Nat → L2.St → Hp → Prop) (h0 : Pv 0 σ H) (hq : ∀ i σ H, Pv i σ H → SqT K H a xs ∧ SqT K H b ys)
    (hs : ∀ (i : Nat) (x y : V) (T : Addr) (σ : L2.St) (H : Hp), xs[i]? = some x → ys[i]? = some y → Pv i σ H → H T = none → g (.ref T) σ (upd H T (.tup [x, y])) fun σ2 H2 => tb { D with nx := Pv (i + 1), ct := Pv (i + 1), bk := D.nx } σ2 H2) (hd : ∀ σ H, Pv xs.length σ H → D.nx σ H) : ForW g tb D σ (RZ.ItzT K a b) H := RZ.for_zipT hl Pv h0 hq hs hd
theorem g_dget2 (h : td σ H fun x H1 => ∃ a, x = .ref a ∧ IsD H1 a ∧ ty σ H1 fun y H2 => tx σ H2 fun z H3 => ∃ o, DGet H3 a y o ∧ Q (o.getD z) H3) : tDGet2 td ty tx σ H Q := h
theorem g_dget1 (h : td σ H fun x H1 => ∃ a, x = .ref a ∧ IsD H1 a ∧ ty σ H1 fun y H2 => ∃ o, DGet H2 a y o ∧ Q (o.getD .non) H2) : tDGet1 td ty σ H Q := h
theorem g_isD {kvs : List (Key × V)} {A : Addr → Prop} (h : H a = some (.dK kvs)) (q : A a) : ∃ b, V.ref a = .ref b ∧ IsD H b ∧ A b := ⟨a, rfl, .inl ⟨kvs, .inl h⟩, q⟩
end
end G

set_option Elab.async false
set_option linter.all false
set_option maxRecDepth 100000
set_option maxHeartbeats 4000000
/-! Data that never changes: None, bools, ints, texts, tuples of such. -/
namespace G
open PySem PySem.Spec PyProof.Rows L2

mutual
/-- the value v is the data d, by the heap H -/
inductive Im (H : Hp) : V → PyData → Prop
  | non : Im H .non .none
  | bl (b : Bool) : Im H (.bl b) (.bool b)
  | int (i : Int) : Im H (.int i) (.int i)
  | str (x : Str) : Im H (.str x) (.str x)
  | tup {a : Addr} {xs : List V} {ds : List PyData} : H a = some (.tup xs) → Ims H xs ds → Im H (.ref a) (.tuple ds)
inductive Ims (H : Hp) : List V → List PyData → Prop
  | nil : Ims H [] []
  | cons {v : V} {vs : List V} {d : PyData} {ds : List PyData} : Im H v d → Ims H vs ds → Ims H (v :: vs) (d :: ds)
end
section
variable {K : PySem.W.Frag} {H H' : Hp} {v x y : V} {d e : PyData} {vs xs : List V} {ds es : List PyData} {a b p : Addr} {ms : List Addr} {i : Int} {z : Str}
mutual
theorem Im.mono : ∀ {v : V} {d : PyData}, Im H v d → (∀ a xs, H a = some (.tup xs) → H' a = some (.tup xs)) → Im H' v d
  | _, _, .non, _ => .non
  | _, _, .bl b, _ => .bl b
  | _, _, .int i, _ => .int i
  | _, _, .str x, _ => .str x
  | _, _, .tup h hs, k => .tup (k _ _ h) (Ims.mono hs k)
theorem Ims.mono : ∀ {vs : List V} {ds : List PyData}, Ims H vs ds → (∀ a xs, H a = some (.tup xs) → H' a = some (.tup xs)) → Ims H' vs ds
  | _, _, .nil, _ => .nil
  | _, _, .cons h t, k => .cons (Im.mono h k) (Ims.mono t k)
end
theorem Im.same (h : Im H v d) (k : Same H H') : Im H' v d := h.mono fun a xs e => k a _ e
theorem Ims.same (h : Ims H vs ds) (k : Same H H') : Ims H' vs ds := h.mono fun a xs e => k a _ e
/-- no tuple stands at ms -/
def NoTup (H : Hp) (ms : List Addr) : Prop := ∀ m ∈ ms, ∀ xs, H m ≠ some (.tup xs)
theorem NoTup.nil : NoTup H [] := fun _ h => nomatch h
theorem NoTup.one {o : HO} (h : H a = some o) (n : ∀ xs, o ≠ .tup xs) : NoTup H [a] := fun m hm xs e => by
  rw [List.mem_singleton.mp hm, h] at e
  exact n xs (Option.some.inj e)
theorem NoTup.new (h : H a = none) : NoTup H [a] := fun m hm xs e => by
  rw [List.mem_singleton.mp hm, h] at e
  cases e
theorem NoTup.cons {o : HO} (h : H a = some o) (n : ∀ xs, o ≠ .tup xs) (t : NoTup H ms) : NoTup H (a :: ms) := fun m hm xs e => by
  rcases List.mem_cons.mp hm with z | z
  · rw [z, h] at e
    exact n xs (Option.some.inj e)
  · exact t m z xs e
theorem Im.keep (h : Im H v d) (k : Keep ms H H') (n : NoTup H ms) : Im H' v d := h.mono fun a xs e => k a _ e fun z => n a z xs e
theorem Ims.keep (h : Ims H vs ds) (k : Keep ms H H') (n : NoTup H ms) : Ims H' vs ds := h.mono fun a xs e => k a _ e fun z => n a z xs e
mutual
theorem Im.dp : ∀ {v : V} {d : PyData}, Im H v d → Dp K H v d
  | _, _, .non => .non
  | _, _, .bl b => .bl b
  | _, _, .int i => .int i
  | _, _, .str x => .str x
  | _, _, .tup h hs => .tup (SqT.of h) (Ims.dp hs)
theorem Ims.dp : ∀ {vs : List V} {ds : List PyData}, Ims H vs ds → DpAll K H vs ds
  | _, _, .nil => .nil
  | _, _, .cons h t => .cons (Im.dp h) (Ims.dp t)
end
theorem Ims.length : ∀ {vs : List V} {ds : List PyData}, Ims H vs ds → vs.length = ds.length
  | _, _, .nil => rfl
  | _, _, .cons _ t => by rw [List.length_cons, List.length_cons, t.length]
theorem Ims.get : ∀ {vs : List V} {ds : List PyData} {n : Nat} {d : PyData}, Ims H vs ds → ds[n]? = some d → ∃ v, vs[n]? = some v ∧ Im H v d
  | _, _, n, _, .nil, e => by simp at e
  | _, _, 0, _, .cons h t, e => by
    simp only [List.getElem?_cons_zero, Option.some.injEq] at e
    subst e
    exact ⟨_, rfl, h⟩
  | _, _, n + 1, _, .cons h t, e => by
    simp only [List.getElem?_cons_succ] at e
    obtain ⟨v, h1, h2⟩ := t.get e
    exact ⟨v, by simpa using h1, h2⟩
theorem Ims.append : ∀ {vs xs : List V} {ds es : List PyData}, Ims H vs ds → Ims H xs es → Ims H (vs ++ xs) (ds ++ es)
  | _, _, _, _, .nil, s => s
  | _, _, _, _, .cons h t, s => .cons h (t.append s)
theorem Ims.take : ∀ {vs : List V} {ds : List PyData} (n : Nat), Ims H vs ds → Ims H (vs.take n) (ds.take n)
  | _, _, 0, _ => .nil
  | _, _, _ + 1, .nil => .nil
  | _, _, n + 1, .cons h t => .cons h (t.take n)
theorem Ims.drop : ∀ {vs : List V} {ds : List PyData} (n : Nat), Ims H vs ds → Ims H (vs.drop n) (ds.drop n)
  | _, _, 0, h => h
  | _, _, _ + 1, .nil => .nil
  | _, _, n + 1, .cons _ t => t.drop n
theorem Ims.one (h : Im H v d) : Ims H [v] [d] := .cons h .nil
theorem Im.int_inv (h : Im H v (.int i)) : v = .int i := by cases h; rfl
theorem Im.bl_inv {b : Bool} (h : Im H v (.bool b)) : v = .bl b := by cases h; rfl
theorem Im.str_inv (h : Im H v (.str z)) : v = .str z := by cases h; rfl
theorem Im.non_inv (h : Im H v .none) : v = .non := by cases h; rfl
theorem Im.tup_inv (h : Im H v (.tuple ds)) : ∃ a xs, v = .ref a ∧ H a = some (.tup xs) ∧ Ims H xs ds := by
  cases h with
  | tup h hs => exact ⟨_, _, rfl, h, hs⟩
/-- the items of ds[lo:hi] -/
def cutD (ds : List PyData) (lo hi : Option Int) : List PyData := (ds.drop (HT.sIx ds.length 0 lo)).take (HT.sIx ds.length ds.length hi - HT.sIx ds.length 0 lo)
theorem Ims.cut {lo hi : Option Int} (h : Ims H vs ds) : Ims H (cutV vs lo hi) (cutD ds lo hi) := by
  unfold cutV cutD
  rw [h.length]
  exact (h.drop _).take _
theorem cutD_to {n : Nat} : cutD ds none (some (n : Int)) = ds.take n := by
  unfold cutD
  rw [HT.sIx_nat, HT.sIx_none, Nat.sub_zero, List.drop_zero]
  by_cases h : n ≤ ds.length
  · rw [Nat.min_eq_left h]
  · rw [Nat.min_eq_right (by omega), List.take_of_length_le (Nat.le_refl _), List.take_of_length_le (by omega)]
theorem cutD_from {n : Nat} : cutD ds (some (n : Int)) none = ds.drop n := by
  unfold cutD
  rw [HT.sIx_nat, HT.sIx_none]
  by_cases h : n ≤ ds.length
  · rw [Nat.min_eq_left h, List.take_of_length_le (by simp)]
  · rw [Nat.min_eq_right (by omega), List.drop_of_length_le (by omega), List.drop_of_length_le (by omega)]
    simp
theorem cutD_length (ds : List PyData) (lo hi : Option Int) : (cutD ds lo hi).length ≤ ds.length := by
  unfold cutD
  rw [List.length_take, List.length_drop]
  omega
end
/-! ### the steps over data -/
section
variable {K : PySem.W.Frag} {H : Hp} {Q : VK} {v x y : V} {d e : PyData} {vs xs : List V} {ds es : List PyData} {a b p : Addr} {i : Int} {z : Str} {n : Nat} {lo hi : Option Int} {R : It → Hp → Prop} {QB : Bool → Hp → Prop}
/-- a new tuple of data -/
theorem m_new (h : Ims H xs ds) (hl : ds.length ≤ 100000) (k : ∀ p H', Same H H' → H p = none → Im H' (.ref p) (.tuple ds) → Q (.ref p) H') : rTupN xs H Q :=
  ⟨szle (by rw [h.length]; exact hl), fun p hp => k p _ (Same.new hp) hp (.tup upd_same (h.same (Same.new hp)))⟩
theorem m_ix (h : Im H x (.tuple ds)) (e : i = (n : Int)) (hd : ds[n]? = some d) (k : ∀ v, Im H v d → Q v H) : rIxU K x (.int i) H Q := by
  obtain ⟨a, xs, rfl, h1, h2⟩ := h.tup_inv
  obtain ⟨v, hv, hm⟩ := h2.get hd
  exact g_ixT (SqT.of h1) e hv (k v hm)
theorem m_len (h : Im H x (.tuple ds)) (q : Q (.int (ds.length : Nat)) H) : rLenU K [x] H Q := by
  obtain ⟨a, xs, rfl, h1, h2⟩ := h.tup_inv
  refine g_lenT (SqT.of h1) ?_
  rw [h2.length]
  exact q
theorem m_eq (hx : Im H x d) (hy : Im H y e) (s1 : SeqAt.shaped d = true) (s2 : SeqAt.shaped e = true) (h : Q (.bl (PyData.eqv d e)) H) : rEqU K false x y H Q := g_eqD hx.dp hy.dp s1 s2 h
theorem m_ne (hx : Im H x d) (hy : Im H y e) (s1 : SeqAt.shaped d = true) (s2 : SeqAt.shaped e = true) (h : Q (.bl (!PyData.eqv d e)) H) : rEqU K true x y H Q := g_neD hx.dp hy.dp s1 s2 h
theorem m_cat (hx : Im H x (.tuple ds)) (hy : Im H y (.tuple es)) (hl : ds.length + es.length ≤ 100000) (k : ∀ p H', Same H H' → Im H' (.ref p) (.tuple (ds ++ es)) → Q (.ref p) H') : rAddU K x y H Q := by
  obtain ⟨a, xs, rfl, h1, h2⟩ := hx.tup_inv
  obtain ⟨b, ys, rfl, h3, h4⟩ := hy.tup_inv
  refine .inr ⟨a, b, xs, ys, rfl, rfl, SqT.of h1, SqT.of h3, szle (by rw [h2.length, h4.length]; exact hl), fun e => ?_, fun _ e => ?_, fun _ _ p hp => ?_⟩
  · subst e
    have : ds = [] := by cases h2; rfl
    subst this
    exact k b H (Same.refl H) hy
  · subst e
    have : es = [] := by cases h4; rfl
    subst this
    rw [List.append_nil] at k
    exact k a H (Same.refl H) hx
  · exact k p _ (Same.new hp) (.tup upd_same ((h2.append h4).same (Same.new hp)))
theorem m_sl (hx : Im H x (.tuple ds)) (k : ∀ p H', Same H H' → Im H' (.ref p) (.tuple (cutD ds lo hi)) → Q (.ref p) H') : rSlU K x lo hi H Q := by
  obtain ⟨a, xs, rfl, h1, h2⟩ := hx.tup_inv
  refine .inr (.inl ⟨a, xs, rfl, SqT.of h1, fun e => ?_, fun _ p hp => ?_⟩)
  · have z : cutD ds lo hi = ds := by
      unfold cutD
      rw [← h2.length, e.1, e.2, List.drop_zero, Nat.sub_zero, h2.length, List.take_length]
    rw [z] at k
    exact k a H (Same.refl H) hx
  · exact k p _ (Same.new hp) (.tup upd_same (h2.cut.same (Same.new hp)))
theorem m_isiT {T' : String} {b : Bool} (hx : Im H x (.tuple ds)) (hk : kitB "tuple" T' = some b) (h : Q (.bl b) H) : rIsi K [x, .ty T'] H Q := by
  obtain ⟨a, xs, rfl, h1, _⟩ := hx.tup_inv
  exact isi_of (.base (.tup h1)) hk h
theorem m_seq (hx : Im H x (.tuple ds)) (k : ∀ a xs, x = .ref a → H a = some (.tup xs) → Ims H xs ds → R (Itt K a) H) : (∃ b ys, x = .ref b ∧ SqL K H b ys ∧ R (Itl K b) H) ∨ ∃ b ys, x = .ref b ∧ SqT K H b ys ∧ R (Itt K b) H := by
  obtain ⟨a, xs, e, h1, h2⟩ := hx.tup_inv
  exact .inr ⟨a, xs, e, SqT.of h1, k a xs e h1 h2⟩
end
/-! tuple(..) -/
def rTupU (K : PySem.W.Frag) : List V → Hp → VK → Prop := fun vs H Q => ∃ x, vs = [x] ∧ kTup K x H Q
theorem c_tuple {X : Cx} {K : PySem.W.Frag} (hK : X.K = K) : CallR X (.type "tuple") (rTupU K) := by
  subst hK
  rintro pins s σ H _ us Q I r ⟨x, rfl, h⟩
  obtain ⟨u, rfl, ru⟩ := vals1 r
  exact rl_tuple pins s σ H x u Q I ru h
section
variable {K : PySem.W.Frag} {H : Hp} {Q : VK} {x : V} {a : Addr} {xs : List V} {ds : List PyData}
theorem m_tupleT (hx : Im H x (.tuple ds)) (q : Q x H) : rTupU K [x] H Q := by
  obtain ⟨a, xs, rfl, h1, _⟩ := hx.tup_inv
  exact ⟨_, rfl, .inr ⟨a, xs, rfl, SqT.of h1, q⟩⟩
theorem m_tupleL (h : SqL K H a xs) (hm : Ims H xs ds) (k : ∀ p H', Same H H' → H p = none → Im H' (.ref p) (.tuple ds) → Q (.ref p) H') : rTupU K [.ref a] H Q :=
  ⟨_, rfl, .inl ⟨a, xs, rfl, h, fun p hp => k p _ (Same.new hp) hp (.tup upd_same (hm.same (Same.new hp)))⟩⟩
end
/-! ### what == says -/
theorem shaped_of {d : PyData} (h : d.canLay0 = true) (h2 : d.depth ≤ 64) : SeqAt.shaped d = true := by
  unfold SeqAt.shaped
  rw [h, decide_eq_true h2]
  rfl
theorem layAll_mem : ∀ {ds : List PyData}, (∀ d ∈ ds, d.canLay0 = true) → PyData.canLayAll0 ds = true
  | [], _ => rfl
  | d :: ds, h => by
    rw [PyData.canLayAll0, h d List.mem_cons_self, layAll_mem fun x hx => h x (List.mem_cons_of_mem _ hx)]
    rfl
theorem depthAll_mem {k : Nat} : ∀ {ds : List PyData}, (∀ d ∈ ds, d.depth ≤ k) → PyData.depthAll ds ≤ k
  | [], _ => by rw [PyData.depthAll]; exact Nat.zero_le _
  | d :: ds, h => by
    rw [PyData.depthAll]
    exact Nat.max_le.mpr ⟨h d List.mem_cons_self, depthAll_mem fun x hx => h x (List.mem_cons_of_mem _ hx)⟩
/-- data of depth at most k -/
def Lay (k : Nat) (d : PyData) : Prop := d.canLay0 = true ∧ d.depth ≤ k
theorem Lay.shaped {k : Nat} {d : PyData} (h : Lay k d) (hk : k ≤ 64) : SeqAt.shaped d = true := shaped_of h.1 (Nat.le_trans h.2 hk)
theorem Lay.tup {k : Nat} {ds : List PyData} (h : ∀ d ∈ ds, Lay k d) : Lay (k + 1) (.tuple ds) :=
  ⟨by rw [PyData.canLay0]; exact layAll_mem fun d hd => (h d hd).1, by rw [PyData.depth]; exact Nat.succ_le_succ (depthAll_mem fun d hd => (h d hd).2)⟩
theorem Lay.int {k : Nat} {i : Int} : Lay k (.int i) := ⟨by rw [PyData.canLay0], by rw [PyData.depth]; exact Nat.zero_le _⟩
theorem Lay.bl {k : Nat} {b : Bool} : Lay k (.bool b) := ⟨by rw [PyData.canLay0], by rw [PyData.depth]; exact Nat.zero_le _⟩
theorem Lay.non {k : Nat} : Lay k .none := ⟨by rw [PyData.canLay0], by rw [PyData.depth]; exact Nat.zero_le _⟩
theorem Lay.str {k : Nat} {z : Str} (h : PyData.strOk z = true) : Lay k (.str z) := ⟨by rw [PyData.canLay0]; exact h, by rw [PyData.depth]; exact Nat.zero_le _⟩
theorem Lay.mono {k k' : Nat} {d : PyData} (h : Lay k d) (hk : k ≤ k') : Lay k' d := ⟨h.1, Nat.le_trans h.2 hk⟩
theorem Lay.refl {k : Nat} {d : PyData} (h : Lay k d) : PyData.eqv d d = true := SeqAt.eqv_refl d h.1
theorem inV_strs {k : Str} {ks : List Str} : inV (.str k) (ks.map V.str) = ks.contains k := by
  unfold inV
  induction ks with
  | nil => rfl
  | cons z ks ih =>
    rw [List.map_cons, List.any_cons, ih, List.contains_cons]
    congr 1
    have e : eqV (.str z) (.str k) = (z == k) := rfl
    rw [e]
    by_cases h : z = k
    · subst h; rfl
    · rw [beq_eq_false_iff_ne.mpr h, beq_eq_false_iff_ne.mpr (Ne.symm h)]
theorem flat_strs {ks : List Str} : (ks.map V.str).all flatV = true := by
  induction ks with
  | nil => rfl
  | cons z ks ih => rw [List.map_cons, List.all_cons, ih]; rfl
/-- a text within a new tuple, a new list of texts -/
theorem g_inTs {K : PySem.W.Frag} {H : Hp} {Q : VK} {k : Str} {p : Addr} {ks : List Str} (h : H p = some (.tup (ks.map V.str)) ∨ H p = some (.lst (ks.map V.str))) (q : Q (.bl (ks.contains k)) H) : rInU K false (.str k) (.ref p) H Q := by
  refine .inl ⟨p, ks.map V.str, rfl, ?_, rfl, flat_strs, ?_⟩
  · rcases h with h | h
    · exact .inr (SqT.of h)
    · exact .inl (SqL.of h)
  · rw [inV_strs]
    exact q
theorem g_niTs {K : PySem.W.Frag} {H : Hp} {Q : VK} {k : Str} {p : Addr} {ks : List Str} (h : H p = some (.tup (ks.map V.str)) ∨ H p = some (.lst (ks.map V.str))) (q : Q (.bl (!ks.contains k)) H) : rInU K true (.str k) (.ref p) H Q := by
  refine .inl ⟨p, ks.map V.str, rfl, ?_, rfl, flat_strs, ?_⟩
  · rcases h with h | h
    · exact .inr (SqT.of h)
    · exact .inl (SqL.of h)
  · rw [inV_strs]
    exact q
theorem map_take_succ {α β : Type} {f : α → β} {ds : List α} {i : Nat} {d : α} (h : ds[i]? = some d) : (ds.take (i + 1)).map f = (ds.take i).map f ++ [f d] := by
  rw [List.take_add_one, h, List.map_append]
  rfl
theorem filter_take_succ {α : Type} {f : α → Bool} {ds : List α} {i : Nat} {d : α} (h : ds[i]? = some d) : (ds.take (i + 1)).filter f = (ds.take i).filter f ++ (if f d then [d] else []) := by
  rw [List.take_add_one, h, List.filter_append]
  congr 1
  show [d].filter f = _
  rw [List.filter_cons]
  rfl
/-! ### data of any kind, looked at -/
def isI : PyData → Bool
  | .int _ => true
  | .bool _ => true
  | _ => false
def isB : PyData → Bool
  | .bool _ => true
  | _ => false
def isS : PyData → Bool
  | .str _ => true
  | _ => false
def isT : PyData → Bool
  | .tuple _ => true
  | _ => false
def strD (ks : List Str) : PyData → Bool
  | .str z => ks.contains z
  | _ => false
def numD (lo hi : Int) : PyData → Bool
  | .int i => decide (lo ≤ i) && decide (i ≤ hi)
  | _ => false
def lenI (n : Int) : PyData → Bool
  | .tuple ds => decide ((ds.length : Int) = n)
  | _ => false
section
variable {K : PySem.W.Frag} {H : Hp} {Q : VK} {x y : V} {d e : PyData} {vs xs : List V} {ds es : List PyData} {a b p : Addr} {i lo hi : Int} {z : Str} {n : Nat} {ks : List Str}
theorem m_isiI (hx : Im H x d) (q : Q (.bl (isI d)) H) : rIsi K [x, .ty "int"] H Q := by
  cases hx with
  | non => exact g_isiNi q
  | bl b => exact g_isiBi q
  | int i => exact g_isiIi q
  | str z => exact g_isiSi q
  | tup h hs => exact m_isiT (.tup h hs) k_ti q
theorem m_isiB (hx : Im H x d) (q : Q (.bl (isB d)) H) : rIsi K [x, .ty "bool"] H Q := by
  cases hx with
  | non => exact g_isiNb q
  | bl b => exact g_isiBb q
  | int i => exact g_isiIb q
  | str z => exact g_isiSb q
  | tup h hs => exact m_isiT (.tup h hs) k_tb q
theorem m_isiS (hx : Im H x d) (q : Q (.bl (isS d)) H) : rIsi K [x, .ty "str"] H Q := by
  cases hx with
  | non => exact g_isiNs q
  | bl b => exact g_isiBs q
  | int i => exact g_isiIs q
  | str z => exact g_isiSs q
  | tup h hs => exact m_isiT (.tup h hs) k_ts q
theorem m_isiU (hx : Im H x d) (q : Q (.bl (isT d)) H) : rIsi K [x, .ty "tuple"] H Q := by
  cases hx with
  | non => exact g_isiNt q
  | bl b => exact g_isiBt q
  | int i => exact g_isiIt q
  | str z => exact g_isiSt q
  | tup h hs => exact m_isiT (.tup h hs) k_tt q
theorem isT_inv (h : isT d = true) : ∃ ds, d = .tuple ds := by
  cases d <;> first | (cases h; done) | exact ⟨_, rfl⟩
theorem isS_inv (h : isS d = true) : ∃ z, d = .str z := by
  cases d <;> first | (cases h; done) | exact ⟨_, rfl⟩
theorem isB_inv (h : isB d = true) : ∃ b, d = .bool b := by
  cases d <;> first | (cases h; done) | exact ⟨_, rfl⟩
theorem num_inv (h : numD lo hi d = true) : ∃ i, d = .int i ∧ lo ≤ i ∧ i ≤ hi := by
  cases d <;> first | (cases h; done) | skip
  rename_i i
  replace h : (decide (lo ≤ i) && decide (i ≤ hi)) = true := h
  rw [Bool.and_eq_true, decide_eq_true_eq, decide_eq_true_eq] at h
  exact ⟨i, rfl, h.1, h.2⟩
theorem num_of (h1 : lo ≤ i) (h2 : i ≤ hi) : numD lo hi (.int i) = true := by
  show (decide (lo ≤ i) && decide (i ≤ hi)) = true
  rw [decide_eq_true h1, decide_eq_true h2]
  rfl
theorem str_inv (h : strD ks d = true) : ∃ z, d = .str z ∧ z ∈ ks := by
  cases d <;> first | (cases h; done) | skip
  rename_i z
  exact ⟨z, rfl, List.contains_iff_mem.mp h⟩
theorem len_inv (h : lenI (n : Int) d = true) : ∃ ds, d = .tuple ds ∧ ds.length = n := by
  cases d <;> first | (cases h; done) | skip
  rename_i ds
  replace h : decide ((ds.length : Int) = n) = true := h
  rw [decide_eq_true_eq] at h
  exact ⟨ds, rfl, by omega⟩
theorem len1 (h : lenI 1 d = true) : ∃ a, d = .tuple [a] := by
  obtain ⟨ds, rfl, hl⟩ := len_inv (n := 1) h
  match ds, hl with
  | [a], _ => exact ⟨a, rfl⟩
theorem len2 (h : lenI 2 d = true) : ∃ a b, d = .tuple [a, b] := by
  obtain ⟨ds, rfl, hl⟩ := len_inv (n := 2) h
  match ds, hl with
  | [a, b], _ => exact ⟨a, b, rfl⟩
theorem len3 (h : lenI 3 d = true) : ∃ a b c, d = .tuple [a, b, c] := by
  obtain ⟨ds, rfl, hl⟩ := len_inv (n := 3) h
  match ds, hl with
  | [a, b, c], _ => exact ⟨a, b, c, rfl⟩
theorem len4 (h : lenI 4 d = true) : ∃ a b c e, d = .tuple [a, b, c, e] := by
  obtain ⟨ds, rfl, hl⟩ := len_inv (n := 4) h
  match ds, hl with
  | [a, b, c, e], _ => exact ⟨a, b, c, e, rfl⟩
theorem len7 (h : lenI 7 d = true) : ∃ a b c e f g k, d = .tuple [a, b, c, e, f, g, k] := by
  obtain ⟨ds, rfl, hl⟩ := len_inv (n := 7) h
  match ds, hl with
  | [a, b, c, e, f, g, k], _ => exact ⟨a, b, c, e, f, g, k, rfl⟩
theorem Ims.cons_inv (h : Ims H vs (d :: ds)) : ∃ v ws, vs = v :: ws ∧ Im H v d ∧ Ims H ws ds := by
  cases h with
  | cons h t => exact ⟨_, _, rfl, h, t⟩
theorem Ims.nil_inv (h : Ims H vs []) : vs = [] := by
  cases h
  rfl
theorem Ims.mem : ∀ {vs : List V} {ds : List PyData} {v : V}, Ims H vs ds → v ∈ vs → ∃ d ∈ ds, Im H v d
  | _, _, _, .nil, h => by cases h
  | _, _, _, .cons h t, hv => by
    rcases List.mem_cons.mp hv with rfl | hv
    · exact ⟨_, List.mem_cons_self, h⟩
    · obtain ⟨d, hd, hi⟩ := t.mem hv
      exact ⟨d, List.mem_cons_of_mem _ hd, hi⟩
theorem ims_strs : ∀ (ks : List Str), Ims H (ks.map V.str) (ks.map PyData.str)
  | [] => .nil
  | z :: ks => .cons (.str z) (ims_strs ks)
theorem any_strs : ∀ (ks : List Str), ((ks.map PyData.str).any fun z => PyData.eqv z d) = strD ks d
  | [] => by cases d <;> rfl
  | z :: ks => by
    rw [List.map_cons, List.any_cons, any_strs ks]
    cases d <;> first | (unfold PyData.eqv strD; rfl) | skip
    rename_i y
    show (PyData.eqv (.str z) (.str y) || ks.contains y) = (z :: ks).contains y
    unfold PyData.eqv
    rw [List.contains_cons, Bool.beq_comm]
theorem lay_strs (h : ∀ k ∈ ks, PyData.strOk k = true) : PyData.canLayAll0 (ks.map PyData.str) = true := layAll_mem fun d hd => by
  obtain ⟨k, hk, rfl⟩ := List.mem_map.mp hd
  rw [PyData.canLay0]
  exact h k hk
/-- data within a tuple of texts -/
theorem m_inTs (h : H p = some (.tup (ks.map V.str))) (hx : Im H x d) (sd : SeqAt.shaped d = true) (hs : ∀ k ∈ ks, PyData.strOk k = true) (q : Q (.bl (strD ks d)) H) : rInU K false x (.ref p) H Q := by
  refine .inr (.inr (.inr ⟨d, ks.map PyData.str, hx.dp, .inl (Im.dp (.tup h (ims_strs ks))), sd, lay_strs hs, ?_⟩))
  rw [any_strs]
  exact q
theorem m_niTs (h : H p = some (.tup (ks.map V.str))) (hx : Im H x d) (sd : SeqAt.shaped d = true) (hs : ∀ k ∈ ks, PyData.strOk k = true) (q : Q (.bl (!strD ks d)) H) : rInU K true x (.ref p) H Q := by
  refine .inr (.inr (.inr ⟨d, ks.map PyData.str, hx.dp, .inl (Im.dp (.tup h (ims_strs ks))), sd, lay_strs hs, ?_⟩))
  rw [any_strs]
  exact q
theorem strD_eqv : PyData.eqv d (.str z) = strD [z] d := by
  cases d <;> first | (unfold PyData.eqv strD; rfl) | skip
  rename_i y
  show PyData.eqv (.str y) (.str z) = [z].contains y
  unfold PyData.eqv
  rw [List.contains_cons]
  simp
theorem m_eqS (hx : Im H x d) (sd : SeqAt.shaped d = true) (hz : PyData.strOk z = true) (q : Q (.bl (strD [z] d)) H) : rEqU K false x (.str z) H Q :=
  m_eq hx (.str z) sd ((Lay.str (k := 0) hz).shaped (by decide)) (by rw [strD_eqv]; exact q)
theorem m_neS (hx : Im H x d) (sd : SeqAt.shaped d = true) (hz : PyData.strOk z = true) (q : Q (.bl (!strD [z] d)) H) : rEqU K true x (.str z) H Q :=
  m_ne hx (.str z) sd ((Lay.str (k := 0) hz).shaped (by decide)) (by rw [strD_eqv]; exact q)
theorem im1 {d1 : PyData} (h : Im H x (.tuple [d1])) : ∃ a x1, x = .ref a ∧ H a = some (.tup [x1]) ∧ Im H x1 d1 := by
  obtain ⟨a, xs, rfl, h1, h2⟩ := h.tup_inv
  obtain ⟨x1, r, rfl, i1, h2⟩ := h2.cons_inv
  rw [h2.nil_inv] at h1
  exact ⟨a, x1, rfl, h1, i1⟩
theorem im2 {d1 d2 : PyData} (h : Im H x (.tuple [d1, d2])) : ∃ a x1 x2, x = .ref a ∧ H a = some (.tup [x1, x2]) ∧ Im H x1 d1 ∧ Im H x2 d2 := by
  obtain ⟨a, xs, rfl, h1, h2⟩ := h.tup_inv
  obtain ⟨x1, r, rfl, i1, h2⟩ := h2.cons_inv
  obtain ⟨x2, r, rfl, i2, h2⟩ := h2.cons_inv
  rw [h2.nil_inv] at h1
  exact ⟨a, x1, x2, rfl, h1, i1, i2⟩
theorem im3 {d1 d2 d3 : PyData} (h : Im H x (.tuple [d1, d2, d3])) : ∃ a x1 x2 x3, x = .ref a ∧ H a = some (.tup [x1, x2, x3]) ∧ Im H x1 d1 ∧ Im H x2 d2 ∧ Im H x3 d3 := by
  obtain ⟨a, xs, rfl, h1, h2⟩ := h.tup_inv
  obtain ⟨x1, r, rfl, i1, h2⟩ := h2.cons_inv
  obtain ⟨x2, r, rfl, i2, h2⟩ := h2.cons_inv
  obtain ⟨x3, r, rfl, i3, h2⟩ := h2.cons_inv
  rw [h2.nil_inv] at h1
  exact ⟨a, x1, x2, x3, rfl, h1, i1, i2, i3⟩
theorem im4 {d1 d2 d3 d4 : PyData} (h : Im H x (.tuple [d1, d2, d3, d4])) : ∃ a x1 x2 x3 x4, x = .ref a ∧ H a = some (.tup [x1, x2, x3, x4]) ∧ Im H x1 d1 ∧ Im H x2 d2 ∧ Im H x3 d3 ∧ Im H x4 d4 := by
  obtain ⟨a, xs, rfl, h1, h2⟩ := h.tup_inv
  obtain ⟨x1, r, rfl, i1, h2⟩ := h2.cons_inv
  obtain ⟨x2, r, rfl, i2, h2⟩ := h2.cons_inv
  obtain ⟨x3, r, rfl, i3, h2⟩ := h2.cons_inv
  obtain ⟨x4, r, rfl, i4, h2⟩ := h2.cons_inv
  rw [h2.nil_inv] at h1
  exact ⟨a, x1, x2, x3, x4, rfl, h1, i1, i2, i3, i4⟩
end
theorem layAll_inv : ∀ {ds : List PyData}, PyData.canLayAll0 ds = true → ∀ d ∈ ds, d.canLay0 = true
  | [], _, d, hd => by cases hd
  | e :: ds, h, d, hd => by
    rw [PyData.canLayAll0, Bool.and_eq_true] at h
    rcases List.mem_cons.mp hd with rfl | hd
    · exact h.1
    · exact layAll_inv h.2 d hd
theorem depthAll_inv {k : Nat} : ∀ {ds : List PyData}, PyData.depthAll ds ≤ k → ∀ d ∈ ds, d.depth ≤ k
  | [], _, d, hd => by cases hd
  | e :: ds, h, d, hd => by
    rw [PyData.depthAll] at h
    rcases List.mem_cons.mp hd with rfl | hd
    · omega
    · exact depthAll_inv (by omega) d hd
theorem Lay.items {k : Nat} {ds : List PyData} (h : Lay k (.tuple ds)) : ∀ d ∈ ds, Lay k d := fun d hd => by
  obtain ⟨h1, h2⟩ := h
  rw [PyData.canLay0] at h1
  rw [PyData.depth] at h2
  exact ⟨layAll_inv h1 d hd, depthAll_inv (by omega) d hd⟩
/-! how wide, how deep -/
def Wd (n : Nat) : Nat → PyData → Prop
  | 0, .none => True
  | 0, .bool _ => True
  | 0, .int _ => True
  | 0, .str z => PyData.strOk z = true
  | k + 1, .tuple ds => ds.length ≤ n ∧ ∀ x ∈ ds, Wd n k x
  | _ + 1, .none => True
  | _ + 1, .bool _ => True
  | _ + 1, .int _ => True
  | _ + 1, .str z => PyData.strOk z = true
  | _, _ => False
theorem Wd.lay {n : Nat} : ∀ {k : Nat} {d : PyData}, Wd n k d → Lay k d
  | 0, .none, _ => Lay.non
  | 0, .bool _, _ => Lay.bl
  | 0, .int _, _ => Lay.int
  | 0, .str _, h => Lay.str h
  | 0, .tuple _, h => h.elim
  | 0, .list _, h => h.elim
  | 0, .dict _, h => h.elim
  | _ + 1, .none, _ => Lay.non
  | _ + 1, .bool _, _ => Lay.bl
  | _ + 1, .int _, _ => Lay.int
  | _ + 1, .str _, h => Lay.str h
  | k + 1, .tuple ds, h => Lay.tup fun d hd => (h.2 d hd).lay
  | _ + 1, .list _, h => h.elim
  | _ + 1, .dict _, h => h.elim
theorem Wd.mono {n m : Nat} (hn : n ≤ m) : ∀ {k l : Nat} {d : PyData}, k ≤ l → Wd n k d → Wd m l d
  | 0, 0, .none, _, _ => trivial
  | 0, 0, .bool _, _, _ => trivial
  | 0, 0, .int _, _, _ => trivial
  | 0, 0, .str _, _, h => h
  | 0, l + 1, .none, _, _ => trivial
  | 0, l + 1, .bool _, _, _ => trivial
  | 0, l + 1, .int _, _, _ => trivial
  | 0, l + 1, .str _, _, h => h
  | 0, _, .tuple _, _, h => h.elim
  | 0, _, .list _, _, h => h.elim
  | 0, _, .dict _, _, h => h.elim
  | k + 1, 0, _, e, _ => absurd e (by omega)
  | k + 1, l + 1, .none, _, _ => trivial
  | k + 1, l + 1, .bool _, _, _ => trivial
  | k + 1, l + 1, .int _, _, _ => trivial
  | k + 1, l + 1, .str _, _, h => h
  | k + 1, l + 1, .tuple ds, e, h => ⟨Nat.le_trans h.1 hn, fun x hx => Wd.mono hn (by omega) (h.2 x hx)⟩
  | k + 1, _, .list _, _, h => h.elim
  | k + 1, _, .dict _, _, h => h.elim
theorem cutD_mem {ds : List PyData} {lo hi : Option Int} {d : PyData} (h : d ∈ cutD ds lo hi) : d ∈ ds := by
  unfold cutD at h
  exact List.mem_of_mem_drop (List.mem_of_mem_take h)
theorem Wd.cut {n k : Nat} {ds : List PyData} {lo hi : Option Int} (h : Wd n (k + 1) (.tuple ds)) : Wd n (k + 1) (.tuple (cutD ds lo hi)) := ⟨Nat.le_trans (cutD_length ds lo hi) h.1, fun x hx => h.2 x (cutD_mem hx)⟩
theorem Wd.cat {n m k : Nat} {ds es : List PyData} (h : Wd n (k + 1) (.tuple ds)) (g : Wd m (k + 1) (.tuple es)) : Wd (n + m) (k + 1) (.tuple (ds ++ es)) :=
  ⟨by rw [List.length_append]; exact Nat.add_le_add h.1 g.1, fun x hx => by
    rcases List.mem_append.mp hx with hx | hx
    · exact (h.2 x hx).mono (by omega) (Nat.le_refl _)
    · exact (g.2 x hx).mono (by omega) (Nat.le_refl _)⟩
/-! lists of ints as data -/
theorem lst_shaped {ns : List Int} : SeqAt.shaped (.list (ns.map .int)) = true := shaped_of (by
    rw [PyData.canLay0]
    exact layAll_mem fun d hd => by
      obtain ⟨x, _, rfl⟩ := List.mem_map.mp hd
      rw [PyData.canLay0]) (by
    rw [PyData.depth]
    have : PyData.depthAll (ns.map .int) ≤ 0 := depthAll_mem fun d hd => by
      obtain ⟨x, _, rfl⟩ := List.mem_map.mp hd
      rw [PyData.depth]
      exact Nat.le_refl _
    omega)
theorem lst_all {K : PySem.W.Frag} {H : Hp} : ∀ ms : List Int, DpAll K H (ms.map V.int) (ms.map .int)
  | [] => .nil
  | m :: ms => .cons (.int m) (lst_all ms)
theorem lst_dp {K : PySem.W.Frag} {H : Hp} {a : Addr} {ns : List Int} (h : H a = some (.lst (ns.map V.int))) : Dp K H (.ref a) (.list (ns.map .int)) := .lst (SqL.of h) (lst_all ns)
theorem eqv_lnil {ds : List PyData} : PyData.eqv (.list ds) (.list []) = ds.isEmpty := by
  unfold PyData.eqv
  cases ds with
  | nil => unfold PyData.eqvAll; rfl
  | cons d ds => unfold PyData.eqvAll; rfl
theorem wd_s {z : Str} {n k : Nat} (h : PyData.strOk z = true) : Wd n k (.str z) := by
  cases k <;> exact h
theorem wd_i {i : Int} {n k : Nat} : Wd n k (.int i) := by
  cases k <;> trivial
theorem wd_b {b : Bool} {n k : Nat} : Wd n k (.bool b) := by
  cases k <;> trivial
theorem wd_o {n k : Nat} : Wd n k .none := by
  cases k <;> trivial
theorem wd_t {n k : Nat} {ds : List PyData} (h : ds.length ≤ n) (g : ∀ x ∈ ds, Wd n k x) : Wd n (k + 1) (.tuple ds) := ⟨h, g⟩
theorem g_dK {H : Hp} {a : Addr} {kvs : List (Key × V)} {z : Str} {P : Option V → Prop} (h : H a = some (.dK kvs)) (q : P (valV kvs (.inr z))) : ∃ o, DGet H a (.str z) o ∧ P o := ⟨_, DGet.k (k := .inr z) h, q⟩
theorem dp_k {H : Hp} {a : Addr} {kvs : List (Key × V)} {z : Str} {v : V} (h : H a = some (.dK kvs)) (hl : kvs.length < sizeLine) : DPut H a (.str z) v (upd H a (.dK (putK kvs (.inr z) v))) := DPut.k (k := .inr z) h hl
/-- (a list) + (a list) -/
theorem g_catL {K : PySem.W.Frag} {H : Hp} {Q : VK} {a b : Addr} {xs ys : List V} (h1 : H a = some (.lst xs)) (h2 : H b = some (.lst ys)) (hl : xs.length + ys.length ≤ 100000) (k : ∀ p, H p = none → Q (.ref p) (upd H p (.lst (xs ++ ys)))) : rAddU K (.ref a) (.ref b) H Q :=
  .inl ⟨a, b, xs, ys, rfl, rfl, h1, h2, szle hl, k⟩
end G

set_option Elab.async false
set_option linter.all false
set_option maxRecDepth 100000
set_option maxHeartbeats 4000000


namespace K17
open PySem PySem.Spec PyProof.Rows L2 G
local macro_rules | `(tactic| walk_at "sc") => `(tactic| first | (with_reducible assumption) | decide | omega | assumption | (simp only [List.length_cons, List.length_nil, List.length_append, List.length_map, List.length_replicate, List.length_set]; omega) | (show _ ≤ sizeLine; decide) | (show _ < sizeLine; decide))
local macro_rules | `(tactic| walk_at "sq") => `(tactic| first | assumption | exact SqL.of (by walk_at "hi") | exact SqT.of (by walk_at "hi"))
local macro_rules | `(tactic| walk_at "sd") => `(tactic| first | exact mul_ok (by first | omega | walk_at "sc") (by first | omega | walk_at "sc") | exact mul_ok' (by first | omega | walk_at "sc") (by first | omega | walk_at "sc"))
local macro_rules | `(tactic| walk_at "hi") => `(tactic| first | assumption | exact Has.get (by assumption) 0 rfl | exact Has.get (by assumption) 1 rfl | exact Has.get (by assumption) 2 rfl | exact Has.get (by assumption) 3 rfl | exact Has.get (by assumption) 4 rfl | exact Has.get (by assumption) 5 rfl | exact Has.get (by assumption) 6 rfl | exact Has.get (by assumption) 7 rfl | exact Has.get (by assumption) 8 rfl | exact Has.get (by assumption) 9 rfl)
local macro_rules | `(tactic| walk_at "s") => `(tactic| first
  | (with_reducible first
  | refine g_seq ?_ | refine g_asg ?_ | refine g_var rfl ?_ | refine g_c ?_ | refine g_op ?_ | refine g_name ?_ | refine g_consA ?_ | refine g_nilA ?_
  | refine g_test ?_ | refine g_exb ?_ | refine g_ifS ?_ | refine g_ret ?_ | refine g_call ?_ | refine g_cb ?_ | refine g_eqI ?_ | refine g_neI ?_
  | refine g_cmpI ?_ | refine g_I0 ?_ | refine g_addI ?_ | refine g_intI ?_ | refine g_abs ?_ | refine g_max2 ?_ | refine g_min2 ?_ | refine g_next ?_ | refine g_drop ?_ | refine g_aug rfl ?_ | refine g_ipI ?_
  | refine g_tru ?_ | refine g_truB ?_ | refine g_truI ?_ | refine g_truN ?_ | refine g_not ?_ | refine g_and ?_ | refine g_or ?_ | refine g_notV ?_ | refine g_andV ?_ | refine g_orV ?_ | refine g_ifE ?_ | refine g_chain ?_
  | refine g_un ?_ | refine g_rU ?_ | refine g_retN ?_ | refine g_brk ?_ | refine g_ct ?_ | refine g_B ?_ | refine g_eqB ?_ | refine g_neB ?_ | refine g_bm ?_ | refine g_bm0 ?_ | refine g_intB ?_
  | refine g_disp ?_ | refine g_dget2 ?_ | refine g_dget1 ?_ | refine g_pairN ?_ | refine g_pairC ?_ | refine g_dput ?_ | refine g_isNn ?_ | refine g_isNi ?_ | refine g_isNs ?_ | refine g_isNb ?_ | refine g_isNr ?_ | refine g_isB ?_ | refine g_lset ?_ | refine g_notB ?_ | refine g_noNn ?_ | refine g_noNi ?_ | refine g_noNs ?_ | refine g_noNb ?_ | refine g_noNr ?_ | refine g_gc ?_ | refine g_gn ?_ | refine g_gfld ?_ | refine g_lc ?_ | refine g_yes ?_ | refine g_sfld ?_ | refine g_meth ?_ | refine g_make ?_ | refine g_sub ?_ | refine g_sl ?_ | refine g_part ?_ | refine g_exi ?_ | refine g_noPart ?_ | refine g_for ?_ | refine g_iR ?_ | refine g_iSeq ?_ | refine g_isiIi ?_ | refine g_isiIb ?_ | refine g_isiIs ?_ | refine g_isiIt ?_ | refine g_isiBi ?_ | refine g_isiBb ?_ | refine g_isiBs ?_ | refine g_isiBt ?_ | refine g_isiSi ?_ | refine g_isiSb ?_ | refine g_isiSs ?_ | refine g_isiSt ?_ | refine g_isiNi ?_ | refine g_isiNb ?_ | refine g_isiNs ?_ | refine g_isiNt ?_
  | refine g_ifT ?_ | refine g_ifF ?_ | refine g_ifNT ?_ | refine g_ifNF ?_ | refine g_tup ?_ | refine g_lst ?_)
  | (with_reducible refine g_eqSS ?_) | (with_reducible refine g_neSS ?_) | ((with_reducible refine g_eqSx ?c ?_); (case c => decide +kernel)) | ((with_reducible refine g_neSx ?c ?_); (case c => decide +kernel)) | (with_reducible refine g_eqS ?_) | (with_reducible refine g_neS ?_)
  | ((with_reducible refine g_mod ?c ?_); (case c => walk_at "sc")) | ((with_reducible refine g_fdiv ?c ?d ?_); (case c => walk_at "sc"); (case d => walk_at "sc")) | ((with_reducible refine g_shr ?c ?_); (case c => walk_at "sc"))
  | ((with_reducible refine g_shl ?c ?d ?e ?_); (case c => walk_at "sc"); (case d => walk_at "sc"); (case e => walk_at "sc")) | ((with_reducible refine g_pow ?c ?d ?e ?_); (case c => walk_at "sc"); (case d => walk_at "sc"); (case e => walk_at "sc")) | ((with_reducible refine g_mulI ?c ?_); (case c => walk_at "sd"))
  | ((with_reducible refine' g_unp ?h ?n ?_); (case h => walk_at "sq"); (case n => rfl)) | ((with_reducible refine g_wipe ?e ?_); (case e => rfl)) | walk_at "fld" | ((with_reducible refine g_rR1 ?c1 ?c2 ?_); (case c1 => walk_at "sc"); (case c2 => walk_at "sc")) | ((with_reducible refine g_rR2 ?c1 ?_); (case c1 => exact ⟨by walk_at "sc", by walk_at "sc", by walk_at "sc", by walk_at "sc"⟩))
  | ((with_reducible refine' g_ixA ?h ?z ?v ?_); (case h => assumption); (case z => decide); (case v => rfl)) | ((with_reducible refine' g_isD ?h ?_); (case h => walk_at "hi")) | ((with_reducible refine' g_lenM ?c ?_); (case c => walk_at "sq")) | ((with_reducible refine' g_lenL ?c ?_); (case c => walk_at "sq")) | ((with_reducible refine' g_seqL ?c ?_); (case c => walk_at "sq"))
  | ((with_reducible refine' g_ty_ ?c ?_); (case c => exact .inl ⟨rfl, _, by walk_at "sq"⟩)))
local macro_rules | `(tactic| walk_at "go") => `(tactic| repeat walk_at "s")
local macro_rules | `(tactic| walk_at "len") => `(tactic| (intro vs H Q E h; first | (obtain ⟨e, _⟩ := h; rw [e]; rfl) | (obtain ⟨_, e, _⟩ := h; rw [e]; rfl) | (obtain ⟨_, _, e, _⟩ := h; rw [e]; rfl) | (obtain ⟨_, _, _, e, _⟩ := h; rw [e]; rfl) | (obtain ⟨_, _, _, _, e, _⟩ := h; rw [e]; rfl) | (obtain ⟨_, _, _, _, _, e, _⟩ := h; rw [e]; rfl) | (obtain ⟨_, _, _, _, _, _, e, _⟩ := h; rw [e]; rfl) | (obtain ⟨_, _, _, _, _, _, _, e, _⟩ := h; rw [e]; rfl) | (obtain ⟨_, _, _, _, _, _, _, _, e, _⟩ := h; rw [e]; rfl) | (obtain ⟨_, _, _, _, _, _, _, _, _, e, _⟩ := h; rw [e]; rfl) | (obtain ⟨_, _, _, _, _, _, _, _, _, _, e, _⟩ := h; rw [e]; rfl) | (obtain ⟨_, _, _, _, _, _, _, _, _, _, _, e, _⟩ := h; rw [e]; rfl) | (obtain ⟨_, _, _, _, _, _, _, _, _, _, _, _, e, _⟩ := h; rw [e]; rfl) | (obtain ⟨_, _, _, _, _, _, _, _, _, _, _, _, _, e, _⟩ := h; rw [e]; rfl) | (obtain ⟨_, _, _, _, _, _, _, _, _, _, _, _, _, _, e, _⟩ := h; rw [e]; rfl) | (obtain ⟨_, _, _, _, _, _, _, _, _, _, _, _, _, _, _, e, _⟩ := h; rw [e]; rfl) | (obtain ⟨_, _, _, _, _, _, _, _, _, _, _, _, _, _, _, _, e, _⟩ := h; rw [e]; rfl) | (obtain ⟨_, _, _, _, _, _, _, _, _, _, _, _, _, _, _, _, _, e, _⟩ := h; rw [e]; rfl) | (obtain ⟨_, _, _, _, _, _, _, _, _, _, _, _, _, _, _, _, _, _, e, _⟩ := h; rw [e]; rfl) | (obtain ⟨_, _, _, _, _, _, _, _, _, _, _, _, _, _, _, _, _, _, _, e, _⟩ := h; rw [e]; rfl) | (obtain ⟨_, _, _, _, _, _, _, _, _, _, _, _, _, _, _, _, _, _, _, _, e, _⟩ := h; rw [e]; rfl) | (obtain ⟨_, _, _, _, _, _, _, _, _, _, _, _, _, _, _, _, _, _, _, _, _, e, _⟩ := h; rw [e]; rfl) | (obtain ⟨_, _, _, _, _, _, _, _, _, _, _, _, _, _, _, _, _, _, _, _, _, _, e, _⟩ := h; rw [e]; rfl) | (obtain ⟨_, _, _, _, _, _, _, _, _, _, _, _, _, _, _, _, _, _, _, _, _, _, _, e, _⟩ := h; rw [e]; rfl)))

def topS (i : Nat) : Stmt := PySem.Challenge.pw_sameclock_k17_listings_written_and_read.main.body.getD i (.Pass ⟨0, 0, 0, 0⟩)
def dOf (x : Str) (i : Nat) : He.DefD := ⟨(x, none), x, x, defArgs (topS i), defBody (topS i), defScope (topS i), [], []⟩
def mOf (c m q : Str) (s : Stmt) : He.DefD := ⟨(c, some m), m, q, defArgs s, defBody s, defScope s, [], []⟩
def fn : List He.DefD := [dOf "is_count" 11, dOf "is_part" 12, dOf "write_listing" 19, dOf "number_of" 20, dOf "read_region" 21, dOf "read_part" 22, dOf "read_row" 23, dOf "may_end" 24, dOf "read_listing" 25, dOf "_law_mix" 27, dOf "_law_stream" 28, dOf "_law_pick" 29, dOf "_law_reg" 30, dOf "_law_place" 31, dOf "_law_row" 32, dOf "_law_code" 33, dOf "_law_listing" 34, dOf "_law_equal" 35, dOf "law" 36]
def fa : List He.Fa := [.glo "is_count", .glo "is_part", .glo "write_listing", .glo "number_of", .glo "read_region", .glo "read_part", .glo "read_row", .glo "may_end", .glo "read_listing", .glo "_law_mix", .glo "_law_stream", .glo "_law_pick", .glo "_law_reg", .glo "_law_place", .glo "_law_row", .glo "_law_code", .glo "_law_listing", .glo "_law_equal", .glo "law", .glo "ClockError", .glo "CodeError", .glo "BadListing", .free "ValueError", .free "all", .free "bool", .free "int", .free "isinstance", .free "len", .free "list", .free "min", .free "range", .free "str", .free "sum", .free "tuple", .int "REGISTERS" 16, .int "MOST_WORD" 4294967295, .int "MOST_BASE" 500000, .int "MOST_SIZE" 4096, .int "MOST_REGIONS" 1000, .int "MOST_ROWS" 100000, .str "DIGITS" "0123456789", .glo "SIGNS", .glo "LABELS", .glo "PARTS", .glo "MASKS"]
def dt_SIGNS : List PyData := [.str "+", .str "-", .str "*", .str "&", .str "|", .str "^", .str "<<", .str ">>", .str "==", .str "<", .str "<=", .str "div", .str "mod"]
def dt_LABELS : List PyData := [.str "public", .str "secret"]
def kv_PARTS : List (Str × PyData) := [("const", .tuple [.str "d", .str "n"]), ("op", .tuple [.str "sign", .str "d", .str "a", .str "a"]), ("select", .tuple [.str "d", .str "a", .str "a", .str "a"]), ("load", .tuple [.str "d", .str "a", .str "base", .str "mask"]), ("store", .tuple [.str "a", .str "base", .str "mask", .str "a"]), ("out", .tuple [.str "a"]), ("jump", .tuple [.str "t"]), ("branch", .tuple [.str "a", .str "t"]), ("stop", .tuple [.str "a"])]
def dt_MASKS : List PyData := [.int 0, .int 1, .int 3, .int 7, .int 15, .int 31, .int 63, .int 127, .int 255, .int 511, .int 1023, .int 2047, .int 4095]
def cs : List (Str × GD) := [("SIGNS", GD.dat (.tuple dt_SIGNS)), ("LABELS", GD.dat (.tuple dt_LABELS)), ("PARTS", GD.dic kv_PARTS), ("MASKS", GD.dat (.tuple dt_MASKS))]
theorem in_SIGNS : (("SIGNS" : Str), GD.dat (.tuple dt_SIGNS)) ∈ cs := List.mem_of_getElem? (i := 0) rfl
theorem in_LABELS : (("LABELS" : Str), GD.dat (.tuple dt_LABELS)) ∈ cs := List.mem_of_getElem? (i := 1) rfl
theorem in_PARTS : (("PARTS" : Str), GD.dic kv_PARTS) ∈ cs := List.mem_of_getElem? (i := 2) rfl
theorem in_MASKS : (("MASKS" : Str), GD.dat (.tuple dt_MASKS)) ∈ cs := List.mem_of_getElem? (i := 3) rfl
variable {P : Program} {w : World} {K : PySem.W.Frag} {mg : Str → Option Value} {base : Heap}
/-! ### the head -/
abbrev R : PySem.W.OpenRow := PySem.W.OpenLaw.row PySem.Challenge.rw_sameclock_k17_listings_written_and_read
abbrev hk : PySem.W.Hook := He.hookX 5 fa fn (tabs cs) [] (exB cs)
def ob (s : PySem.W.SharedT) : He.AlX := He.obsX 5 fa fn (tabs cs) [] (exB cs) (HandSHeadRun.getT s)
theorem ob_eq (s : PySem.W.SharedT) : ob s = hk.obs s.abs := He.obsX_eq (HandSHeadRun.getT_eq s)
theorem run_false (w : World) : HandSHeadRun.RunEq R (PySem.W.view R.prog [36]) hk ob 8000 (("SIGNS" : Str) :: ("REGISTERS" : Str) :: ("LABELS" : Str) :: ("PARTS" : Str) :: ("MOST_WORD" : Str) :: ("MOST_BASE" : Str) :: ("MOST_SIZE" : Str) :: ("MOST_REGIONS" : Str) :: ("MOST_ROWS" : Str) :: ("MASKS" : Str) :: ("is_count" : Str) :: ("is_part" : Str) :: ("ClockError" : Str) :: ("CodeError" : Str) :: ("BadListing" : Str) :: ("DIGITS" : Str) :: ("write_listing" : Str) :: ("number_of" : Str) :: ("read_region" : Str) :: ("read_part" : Str) :: ("read_row" : Str) :: ("may_end" : Str) :: ("read_listing" : Str) :: ("_law_mix" : Str) :: ("_law_stream" : Str) :: ("_law_pick" : Str) :: ("_law_reg" : Str) :: ("_law_place" : Str) :: ("_law_row" : Str) :: ("_law_code" : Str) :: ("_law_listing" : Str) :: ("_law_equal" : Str) :: []) (w.withFollow "special-get-raises" false) := by
  intro os
  kernel_rfl
theorem run_true (w : World) : HandSHeadRun.RunEq R (PySem.W.view R.prog [36]) hk ob 8000 (("SIGNS" : Str) :: ("REGISTERS" : Str) :: ("LABELS" : Str) :: ("PARTS" : Str) :: ("MOST_WORD" : Str) :: ("MOST_BASE" : Str) :: ("MOST_SIZE" : Str) :: ("MOST_REGIONS" : Str) :: ("MOST_ROWS" : Str) :: ("MASKS" : Str) :: ("is_count" : Str) :: ("is_part" : Str) :: ("ClockError" : Str) :: ("CodeError" : Str) :: ("BadListing" : Str) :: ("DIGITS" : Str) :: ("write_listing" : Str) :: ("number_of" : Str) :: ("read_region" : Str) :: ("read_part" : Str) :: ("read_row" : Str) :: ("may_end" : Str) :: ("read_listing" : Str) :: ("_law_mix" : Str) :: ("_law_stream" : Str) :: ("_law_pick" : Str) :: ("_law_reg" : Str) :: ("_law_place" : Str) :: ("_law_row" : Str) :: ("_law_code" : Str) :: ("_law_listing" : Str) :: ("_law_equal" : Str) :: []) (w.withFollow "special-get-raises" true) := by
  intro os
  kernel_rfl
theorem run (w : World) : HandSHeadRun.RunEq R (PySem.W.view R.prog [36]) hk ob 8000 (("SIGNS" : Str) :: ("REGISTERS" : Str) :: ("LABELS" : Str) :: ("PARTS" : Str) :: ("MOST_WORD" : Str) :: ("MOST_BASE" : Str) :: ("MOST_SIZE" : Str) :: ("MOST_REGIONS" : Str) :: ("MOST_ROWS" : Str) :: ("MASKS" : Str) :: ("is_count" : Str) :: ("is_part" : Str) :: ("ClockError" : Str) :: ("CodeError" : Str) :: ("BadListing" : Str) :: ("DIGITS" : Str) :: ("write_listing" : Str) :: ("number_of" : Str) :: ("read_region" : Str) :: ("read_part" : Str) :: ("read_row" : Str) :: ("may_end" : Str) :: ("read_listing" : Str) :: ("_law_mix" : Str) :: ("_law_stream" : Str) :: ("_law_pick" : Str) :: ("_law_reg" : Str) :: ("_law_place" : Str) :: ("_law_row" : Str) :: ("_law_code" : Str) :: ("_law_listing" : Str) :: ("_law_equal" : Str) :: []) w :=
  PySem.W.byRow2 "special-get-raises" (P := fun w => HandSHeadRun.RunEq R (PySem.W.view R.prog [36]) hk ob 8000 (("SIGNS" : Str) :: ("REGISTERS" : Str) :: ("LABELS" : Str) :: ("PARTS" : Str) :: ("MOST_WORD" : Str) :: ("MOST_BASE" : Str) :: ("MOST_SIZE" : Str) :: ("MOST_REGIONS" : Str) :: ("MOST_ROWS" : Str) :: ("MASKS" : Str) :: ("is_count" : Str) :: ("is_part" : Str) :: ("ClockError" : Str) :: ("CodeError" : Str) :: ("BadListing" : Str) :: ("DIGITS" : Str) :: ("write_listing" : Str) :: ("number_of" : Str) :: ("read_region" : Str) :: ("read_part" : Str) :: ("read_row" : Str) :: ("may_end" : Str) :: ("read_listing" : Str) :: ("_law_mix" : Str) :: ("_law_stream" : Str) :: ("_law_pick" : Str) :: ("_law_reg" : Str) :: ("_law_place" : Str) :: ("_law_row" : Str) :: ("_law_code" : Str) :: ("_law_listing" : Str) :: ("_law_equal" : Str) :: []) w) run_false run_true w

/-! ### texts: statements that are never come to, str(x), join, signs one by one -/
theorem ps_dead {X : Cx} {st : Stmt} : PS X st (fun _ _ _ => False) := ⟨fun _ _ _ _ _ _ h => h.elim⟩
def rStrU : List V → Hp → VK → Prop := fun xs H Q => rStrI xs H Q ∨ ∃ z, xs = [.str z] ∧ Q (.str z) H
theorem c_strU {X : Cx} : CallR X (.type "str") rStrU := by
  intro pins s σ H xs us Q I r h
  rcases h with h | h
  · exact c_str pins s σ H xs us Q I r h
  · exact SkE.call_str_str pins s σ H xs us Q I r h
def rJoinU (K : PySem.W.Frag) : V → List V → Hp → VK → Prop := fun x xs H Q => ∃ a p, ∃ ys : List Str, x = .str a ∧ xs = [.ref p] ∧ (SqL K H p (ys.map V.str) ∨ SqT K H p (ys.map V.str)) ∧ (ys.map (·.length)).sum + ys.length * a.length ≤ 16777216 ∧ Q (.str (PySem.Txt.join a ys)) H
theorem m_joinU {X : Cx} {K : PySem.W.Frag} (hK : X.K = K) : MtR X "str.join" (rJoinU K) := by
  subst hK
  exact mt_join
theorem f_str {g : TG} {tb : TS} {D : Ends} {σ : L2.St} {H : Hp} {z : Str} (Pv : Nat → L2.St → Hp → Prop) (h0 : Pv 0 σ H)
    (hs : ∀ i c σ H, z.cps[i]? = some c → Pv i σ H → g (.str ⟨#[c]⟩) σ H fun σ2 H2 => tb { nx := Pv (i + 1), rt := D.rt, ct := Pv (i + 1), bk := D.nx } σ2 H2) (hd : ∀ σ H, Pv z.cps.size σ H → D.nx σ H) : ForW g tb D σ (Its z) H :=
  for_it walk_str Pv h0 (fun _ _ _ _ _ => True.intro) (fun i v σ H H' hi p y => by
    obtain ⟨rfl, c, hc, rfl⟩ := y
    exact hs i c σ _ hc p) hd


/-! ### what code may be: parts of rows -/
inductive PK
  | sg | d | a | n | b | m | t
  deriving DecidableEq
def PK.s : PK → Str
  | .sg => "sign" | .d => "d" | .a => "a" | .n => "n" | .b => "base" | .m => "mask" | .t => "t"
def SGS : List Str := ["+", "-", "*", "&", "|", "^", "<<", ">>", "==", "<", "<=", "div", "mod"]
def LAB : List Str := ["public", "secret"]
def MSK : List Int := [0, 1, 3, 7, 15, 31, 63, 127, 255, 511, 1023, 2047, 4095]
def maskD : PyData → Bool
  | .int i => MSK.contains i
  | _ => false
def partD (k : PK) (rows : Int) (d : PyData) : Bool := match k with
  | .sg => strD SGS d
  | .d => numD 0 15 d
  | .a => numD 0 15 d
  | .n => numD 0 4294967295 d
  | .b => numD 0 500000 d
  | .m => maskD d
  | .t => numD 0 (rows - 1) d
theorem msk_in : ∀ i ∈ MSK, (0 : Int) ≤ i ∧ i ≤ 4095 := by decide
theorem mask_num {d : PyData} (h : maskD d = true) : numD 0 4096 d = true := by
  cases d <;> first | (cases h; done) | skip
  rename_i i
  have z := msk_in i (List.contains_iff_mem.mp h)
  exact num_of z.1 (by omega)
theorem mask_no {d : PyData} (h : numD 0 4096 d = false) : maskD d = false := by
  cases e : maskD d with
  | false => rfl
  | true =>
    rw [mask_num e] at h
    cases h
theorem inV_ints {i : Int} {ks : List Int} : inV (.int i) (ks.map V.int) = ks.contains i := by
  unfold inV
  induction ks with
  | nil => rfl
  | cons z ks ih =>
    rw [List.map_cons, List.any_cons, ih, List.contains_cons]
    congr 1
    have e : eqV (.int z) (.int i) = (z == i) := rfl
    rw [e, Bool.beq_comm]
theorem flat_ints {ks : List Int} : (ks.map V.int).all flatV = true := by
  induction ks with
  | nil => rfl
  | cons z ks ih => rw [List.map_cons, List.all_cons, ih]; rfl
theorem g_inFs {K : PySem.W.Frag} {H : Hp} {Q : VK} {z : Str} {p : Addr} {ks : List Str} (h : SqT K H p (ks.map V.str)) (q : Q (.bl (ks.contains z)) H) : rInU K false (.str z) (.ref p) H Q := by
  refine .inl ⟨p, ks.map V.str, rfl, .inr h, rfl, flat_strs, ?_⟩
  rw [inV_strs]
  exact q
theorem g_niFs {K : PySem.W.Frag} {H : Hp} {Q : VK} {z : Str} {p : Addr} {ks : List Str} (h : SqT K H p (ks.map V.str)) (q : Q (.bl (!ks.contains z)) H) : rInU K true (.str z) (.ref p) H Q := by
  refine .inl ⟨p, ks.map V.str, rfl, .inr h, rfl, flat_strs, ?_⟩
  rw [inV_strs]
  exact q
theorem g_inFi {K : PySem.W.Frag} {H : Hp} {Q : VK} {i : Int} {p : Addr} {ks : List Int} (h : SqT K H p (ks.map V.int)) (q : Q (.bl (ks.contains i)) H) : rInU K false (.int i) (.ref p) H Q := by
  refine .inl ⟨p, ks.map V.int, rfl, .inr h, rfl, flat_ints, ?_⟩
  rw [inV_ints]
  exact q
theorem fz_SIGNS (T : Txt fa fn K mg (CsOk cs K w)) (H : Hp) : SqT K H (He.ga K "SIGNS") (SGS.map V.str) := dp_strs (ks := SGS) (T.m.tup in_SIGNS H)
theorem fz_LABELS (T : Txt fa fn K mg (CsOk cs K w)) (H : Hp) : SqT K H (He.ga K "LABELS") (LAB.map V.str) := dp_strs (ks := LAB) (T.m.tup in_LABELS H)
theorem fz_MASKS (T : Txt fa fn K mg (CsOk cs K w)) (H : Hp) : SqT K H (He.ga K "MASKS") (MSK.map V.int) := dp_ints (ks := MSK) (T.m.tup in_MASKS H)
theorem mg5 {k1 k2 k3 k4 k5 k : Str} {v1 v2 v3 v4 v5 : V} : valV (mergeK [] [(.inr k1, v1), (.inr k2, v2), (.inr k3, v3), (.inr k4, v4), (.inr k5, v5)]) (.inr k : Key) = if k = k5 then some v5 else if k = k4 then some v4 else if k = k3 then some v3 else if k = k2 then some v2 else if k = k1 then some v1 else none := by
  unfold mergeK
  simp only [List.foldl_cons, List.foldl_nil]
  rw [valV_put, valV_put, valV_put, valV_put, valV_put, valV_nil]
  simp only [Sum.inr.injEq]
theorem g_d5 {A : Prop} {R : List (Key × V) → Prop} {k1 k2 k3 k4 k5 : Str} {v1 v2 v3 v4 v5 : V} (h : A) (q : R [(.inr k1, v1), (.inr k2, v2), (.inr k3, v3), (.inr k4, v4), (.inr k5, v5)]) :
    A ∧ ∃ kvs : List (Key × V), [(V.str k1, v1), (V.str k2, v2), (V.str k3, v3), (V.str k4, v4), (V.str k5, v5)] = kvs.map (fun kv => (kV kv.1, kv.2)) ∧ kvs.length ≤ 15 ∧ R kvs :=
  ⟨h, [(.inr k1, v1), (.inr k2, v2), (.inr k3, v3), (.inr k4, v4), (.inr k5, v5)], rfl, (by show 5 ≤ 15; decide), q⟩
theorem dg_of {H : Hp} {a : Addr} {kvs : List (Key × V)} {k : Str} {v : V} (h : H a = some (.dK kvs)) (e : valV kvs (.inr k) = some v) : DGet H a (.str k) (some v) := by
  rw [← e]
  exact DGet.k (k := .inr k) h
def sp_is_count (K : PySem.W.Frag) : Sp := fun vs H Q _ => ∃ (x : V) (hi : Int) (d : PyData), vs = [x, .int hi] ∧ Im H x d ∧ Q (.bl (numD 0 hi d)) H
theorem sc_is_count : FnScope ["thing", "most"] ["thing", "most"] (defScope (topS 11)) := ⟨rfl, rfl, rfl, by decide +kernel, rfl, by decide +kernel, by decide +kernel⟩
theorem ok_is_count (T : Txt fa fn K mg (CsOk cs K w)) : Dn P w K mg base CX0 1 "is_count" ["thing", "most"] (sp_is_count K) := by
  refine mk_dn (d := dOf "is_count" 11) T 0 0 rfl rfl rfl rfl rfl sc_is_count (by walk_at "len") (fun _ _ _ _ _ _ us hl => match us, hl with | [_, _], _ => rfl) (fun cdv A outer s H vs Q E hr h => ⟨_, (pss_one (ps_ret (pe_and (pe_callB (c_isi (K := K) rfl) rfl (T.free 26 rfl) (by decide +kernel) (pa_cons (pv 0) (pa_cons (pe_bltn (v := .ty "int") rfl (T.free 25 rfl) (by decide +kernel) rfl) pa_nil))) (pe_and (pe_not (pe_callB (c_isi (K := K) rfl) rfl (T.free 26 rfl) (by decide +kernel) (pa_cons (pv 0) (pa_cons (pe_bltn (v := .ty "bool") rfl (T.free 24 rfl) (by decide +kernel) rfl) pa_nil)))) (pe_one (pe_chain o_le o_le pe_int (pv 0) (pv 1))))))), ?_⟩)
  obtain ⟨x, hi, d, rfl, him, hQ⟩ := h
  cases him with
  | non => walk_at "go"; exact hQ
  | bl b => walk_at "go"; exact hQ
  | str z => walk_at "go"; exact hQ
  | tup h hs =>
    walk_at "go"
    refine m_isiT (.tup h hs) k_ti ?_
    walk_at "go"
    exact hQ
  | int i =>
    walk_at "go"
    refine g_if (fun c => ?_) (fun c => ?_)
    · walk_at "go"
      refine q_bl ?_ hQ
      show (decide (0 ≤ i) && decide (i ≤ hi)) = _
      rw [decide_eq_true c]
      rfl
    · refine q_bl ?_ hQ
      show (decide (0 ≤ i) && decide (i ≤ hi)) = _
      rw [decide_eq_false c]
      rfl
def sp_is_part (K : PySem.W.Frag) : Sp := fun vs H Q _ => ∃ (k : PK) (z : Str) (x : V) (rows : Int) (d : PyData), vs = [.str z, x, .int rows] ∧ z = k.s ∧ Im H x d ∧ ∀ H', Same H H' → Q (.bl (partD k rows d)) H'
theorem sc_is_part : FnScope ["sort", "thing", "rows", "mosts"] ["sort", "thing", "rows"] (defScope (topS 12)) := ⟨rfl, rfl, rfl, by decide +kernel, rfl, by decide +kernel, by decide +kernel⟩
theorem ok_is_part (T : Txt fa fn K mg (CsOk cs K w)) : Dn P w K mg base CX0 2 "is_part" ["sort", "thing", "rows"] (sp_is_part K) := by
  refine mk_dn (d := dOf "is_part" 12) T 1 1 rfl rfl rfl rfl rfl sc_is_part (by walk_at "len") (fun _ _ _ _ _ _ us hl => match us, hl with | [_, _, _], _ => rfl) (fun cdv A outer s H vs Q E hr h => ⟨_, (pss_cons (ps_if (pt_cmpR (op_eqU (K := K) rfl hr.units) (pv 0) pe_str (nomark _)) (pss_one (ps_ret (pe_and (pe_callB (c_isi (K := K) rfl) rfl (T.free 26 rfl) (by decide +kernel) (pa_cons (pv 1) (pa_cons (pe_bltn (v := .ty "str") rfl (T.free 31 rfl) (by decide +kernel) rfl) pa_nil))) (pe_one (pe_cmpR (op_inU (K := K) rfl (hu65 hr)) (pv 1) (pe_glob (v := .ref (He.ga K "SIGNS")) rfl (T.glo 41 rfl) rfl) (by rfl)))))) pss_nil)
      (pss_cons (ps_if (pt_cmpR (op_eqU (K := K) rfl hr.units) (pv 0) pe_str (nomark _)) (pss_one (ps_ret (pe_and (pe_callD (K := K) rfl (ok_is_count T) (hr.mono (by decide)) rfl pass0 (pa_cons (pv 1) (pa_cons (pe_gint T rfl 37 rfl rfl) pa_nil))) (pe_one (pe_cmpR (op_inU (K := K) rfl (hu65 hr)) (pv 1) (pe_glob (v := .ref (He.ga K "MASKS")) rfl (T.glo 44 rfl) rfl) (by rfl)))))) pss_nil)
      (pss_cons (ps_set (i := 3) sc_is_part.nd rfl (.inl rfl) (pe_disp (pps_cons pe_str (pe_op op_sub (pe_gint T rfl 34 rfl rfl) pe_int) (pps_cons pe_str (pe_op op_sub (pe_gint T rfl 34 rfl rfl) pe_int) (pps_cons pe_str (pe_gint T rfl 35 rfl rfl) (pps_cons pe_str (pe_gint T rfl 36 rfl rfl) (pps_cons pe_str (pe_op op_sub (pv 2) pe_int) pps_nil))))) (by rfl) (by rfl) (fun z => by cases z) (by decide)))
      (pss_one (ps_ret (pe_callD (K := K) rfl (ok_is_count T) (hr.mono (by decide)) rfl pass0 (pa_cons (pv 1) (pa_cons (pe_ixU (K := K) rfl (hu_of hr) (pv 3) (pv 0)) pa_nil)))))))), ?_⟩)
  obtain ⟨k, z, x, rows, d, rfl, hz, him, hQ⟩ := h
  cases k <;> (simp only [PK.s] at hz; subst hz)
  case sg =>
    walk_at "go"
    refine m_isiS him ?_
    walk_at "go"
    refine g_ifB (fun c => ?_) (fun c => ?_)
    · obtain ⟨y, rfl⟩ := isS_inv c
      obtain rfl := him.str_inv
      walk_at "go"
      exact g_inFs (fz_SIGNS T _) (hQ _ (Same.refl H))
    · refine q_bl ?_ (hQ _ (Same.refl H))
      cases d <;> first | rfl | cases c
  case m =>
    walk_at "go"
    refine ⟨x, 4096, d, rfl, him, ?_⟩
    walk_at "go"
    refine g_ifB (fun c => ?_) (fun c => ?_)
    · obtain ⟨i, rfl, h1, h2⟩ := num_inv c
      obtain rfl := him.int_inv
      walk_at "go"
      exact g_inFi (fz_MASKS T _) (hQ _ (Same.refl H))
    · refine q_bl ?_ (hQ _ (Same.refl H))
      exact mask_no c
  all_goals
    walk_at "go"
    intro m hm
    walk_at "go"
    refine g_d5 upd_same ?_
    rw [upd_upd]
    have sm := Same.new (o := .dK (mergeK [] [(.inr "d", V.int (16 - 1)), (.inr "a", V.int (16 - 1)), (.inr "n", V.int 4294967295), (.inr "base", V.int 500000), (.inr "t", V.int (rows - 1))])) hm
    walk_at "go"
  case d =>
    refine g_ixD (dg_of upd_same (mg5.trans (by rw [if_neg (by decide), if_neg (by decide), if_neg (by decide), if_neg (by decide), if_pos rfl]))) ?_
    walk_at "go"
    exact ⟨x, _, d, rfl, him.same sm, hQ _ sm⟩
  case a =>
    refine g_ixD (dg_of upd_same (mg5.trans (by rw [if_neg (by decide), if_neg (by decide), if_neg (by decide), if_pos rfl]))) ?_
    walk_at "go"
    exact ⟨x, _, d, rfl, him.same sm, hQ _ sm⟩
  case n =>
    refine g_ixD (dg_of upd_same (mg5.trans (by rw [if_neg (by decide), if_neg (by decide), if_pos rfl]))) ?_
    walk_at "go"
    exact ⟨x, _, d, rfl, him.same sm, hQ _ sm⟩
  case b =>
    refine g_ixD (dg_of upd_same (mg5.trans (by rw [if_neg (by decide), if_pos rfl]))) ?_
    walk_at "go"
    exact ⟨x, _, d, rfl, him.same sm, hQ _ sm⟩
  case t =>
    refine g_ixD (dg_of upd_same (mg5.trans (by rw [if_pos rfl]))) ?_
    walk_at "go"
    exact ⟨x, _, d, rfl, him.same sm, hQ _ sm⟩


/-! ### rows -/
def shpL : List (Str × List PK) := [("const", [.d, .n]), ("op", [.sg, .d, .a, .a]), ("select", [.d, .a, .a, .a]), ("load", [.d, .a, .b, .m]), ("store", [.a, .b, .m, .a]), ("out", [.a]), ("jump", [.t]), ("branch", [.a, .t]), ("stop", [.a])]
def shp (z : Str) : Option (List PK) := (shpL.find? fun p => decide (p.1 = z)).map (·.2)
theorem kv_shp : kv_PARTS = shpL.map fun p => (p.1, PyData.tuple (p.2.map fun k => .str k.s)) := rfl
theorem shp_some {z : Str} {ks : List PK} (h : shp z = some ks) : (z, ks) ∈ shpL := by
  unfold shp at h
  obtain ⟨p, hp, rfl⟩ := Option.map_eq_some_iff.mp h
  have h1 := List.find?_some hp
  have h2 := List.mem_of_find?_eq_some hp
  have e : p.1 = z := of_decide_eq_true h1
  rw [← e]
  exact h2
theorem shp_none {z : Str} (h : shp z = none) : z ∉ kv_PARTS.map (·.1) := fun hm => by
  unfold shp at h
  rw [Option.map_eq_none_iff] at h
  rw [kv_shp, List.map_map] at hm
  obtain ⟨p, hp, e⟩ := List.mem_map.mp hm
  have := List.find?_eq_none.mp h p hp
  exact this (decide_eq_true e)
theorem shp_len : ∀ p ∈ shpL, p.2.length ≤ 4 := by decide
/-- the parts of a kind of row stand in the module -/
theorem shp_at (T : Txt fa fn K mg (CsOk cs K w)) {z : Str} {ks : List PK} (h : shp z = some ks) : ∃ (u : Value) (b : Addr), PySem.W.nsIn K (He.ga K "PARTS") z = some (some u) ∧ RelV (.ref b) u ∧ ∀ H, SqT K H b ((ks.map PK.s).map V.str) := by
  have hm : (z, PyData.tuple (ks.map fun k => .str k.s)) ∈ kv_PARTS := by
    rw [kv_shp]
    exact List.mem_map.mpr ⟨(z, ks), shp_some h, rfl⟩
  obtain ⟨u, v, h1, h2, h3⟩ := T.m.key in_PARTS hm
  have e : (ks.map fun k => PyData.str k.s) = (ks.map PK.s).map PyData.str := by rw [List.map_map]; rfl
  rw [e] at h3
  cases h3 (fun _ => none) with
  | tup hs hd => exact ⟨u, _, h1, h2, fun H => dp_strs (h3 H)⟩
def partsD (rows : Int) (ks : List PK) (ds : List PyData) : Bool := ((List.range ks.length).map fun i => partD (ks.getD i .a) rows (ds.getD i .none)).all id
def rowD (rows : Int) : PyData → Bool
  | .tuple (.str z :: ds) => (match shp z with
    | some ks => decide (ds.length = ks.length) && partsD rows ks ds
    | none => false)
  | _ => false
theorem eqv_nil {ds : List PyData} : PyData.eqv (.tuple ds) (.tuple []) = ds.isEmpty := by
  unfold PyData.eqv
  cases ds with
  | nil => unfold PyData.eqvAll; rfl
  | cons d ds => unfold PyData.eqvAll; rfl
theorem row_notT {rows : Int} {d : PyData} (h : isT d = false) : rowD rows d = false := by
  unfold rowD
  split
  · cases h
  · rfl
theorem row_notS {rows : Int} {e : PyData} {ds : List PyData} (h : isS e = false) : rowD rows (.tuple (e :: ds)) = false := by
  unfold rowD
  split
  · rename_i x z ds' q
    injection q with q
    injection q with q1 q2
    subst q1
    cases h
  · rfl
theorem lay_nil : SeqAt.shaped (.tuple []) = true := by decide +kernel
/-- a comprehension of truths over a range -/
theorem l_askR {σ : L2.St} {H : Hp} {te : TE} {k n : Nat} {lo : Int} {vs : List Nat} {f : Nat → Bool} {Q : VK} (hn : n ≤ 10000) (hwp : ∀ x : V, wipe ((wipe σ vs).set k (some x)) vs = wipe σ vs)
    (step : ∀ (i : Nat) (H' : Hp) (R : VK), i < n → Same H H' → (∀ H2, Same H' H2 → R (.bl (f i)) H2) → te ((wipe σ vs).set k (some (.int (lo + i)))) H' R)
    (q : ∀ D H', Same H H' → H' D = some (.lst (((List.range n).map f).map V.bl)) → Q (.ref D) H') : LcW (gName k) tYes te vs σ Q (Itr lo n) H := by
  refine l_range (fun D i H' => H' D = some (.lst (((List.range i).map f).map V.bl)) ∧ Same H H') (fun D hD => ⟨upd_same, Same.new hD⟩) ?_ ?_
  · rintro D hD i H' hi ⟨hD', sm⟩
    refine g_name (g_wipe (hwp _) (g_yes (g_ifT ?_)))
    refine step i H' _ hi sm (fun H2 sm2 => ⟨_, sm2 _ _ hD', by
      refine szl ?_
      rw [List.length_map, List.length_map, List.length_range]
      omega, ?_, Same.mut (sm.trans sm2) hD⟩)
    rw [upd_same, List.range_succ, List.map_append, List.map_append]
    rfl
  · rintro D hD H' ⟨hD', sm⟩
    exact q D H' sm hD'
/-! ### regions -/
def regD (b : Int) : List PyData → Bool
  | [] => true
  | .tuple [x, y, l] :: rs => numD 0 500000 x && (decide (PyData.eqv x (.int b) = true) && (numD 0 4096 y && (decide (¬ PyData.eqv y (.int 0) = true) && (strD LAB l && regD (b + (match y with | .int i => i | _ => 0)) rs))))
  | _ :: _ => false
theorem reg_not {b : Int} {d : PyData} {vs : List PyData} (h : lenI 3 d = false) : regD b (d :: vs) = false := by
  unfold regD
  split
  · rename_i e
    cases e
  · rename_i e
    cases e
    cases h
  · rfl
theorem reg_cons {b x y : Int} {l : PyData} {rs : List PyData} (hx : numD 0 500000 (.int x) = true) (hy : numD 0 4096 (.int y) = true) : regD b (.tuple [.int x, .int y, l] :: rs) = (decide (x = b) && (decide (¬ y = 0) && (strD LAB l && regD (b + y) rs))) := by
  show (numD 0 500000 (.int x) && (decide (PyData.eqv (.int x) (.int b) = true) && (numD 0 4096 (.int y) && (decide (¬ PyData.eqv (.int y) (.int 0) = true) && (strD LAB l && regD (b + y) rs))))) = _
  rw [hx, hy]
  have e : ∀ i j : Int, PyData.eqv (.int i) (.int j) = (i == j) := fun i j => by unfold PyData.eqv; rfl
  rw [e, e]
  simp
def regionsD : PyData → Bool
  | .tuple rs => decide (rs.length ≤ 1000) && regD 0 rs
  | _ => false
theorem regions_notT {d : PyData} (h : isT d = false) : regionsD d = false := by
  unfold regionsD
  split
  · cases h
  · rfl
theorem reg_3 {b : Int} {d1 d2 d3 : PyData} {rs : List PyData} : regD b (.tuple [d1, d2, d3] :: rs) = (numD 0 500000 d1 && (decide (PyData.eqv d1 (.int b) = true) && (numD 0 4096 d2 && (decide (¬ PyData.eqv d2 (.int 0) = true) && (strD LAB d3 && regD (b + (match d2 with | .int i => i | _ => 0)) rs))))) := rfl

/-! ### code -/
theorem all_map_id {α : Type} (f : α → Bool) (l : List α) : (l.map f).all id = l.all f := by
  rw [List.all_map]
  rfl
/-- a comprehension that asks each item -/
theorem l_ask {K : PySem.W.Frag} {σ : L2.St} {H : Hp} {te : TE} {k : Nat} {vs : List Nat} {a : Addr} {xs : List V} {ds : List PyData} {f : PyData → Bool} {Q : VK} (ha : H a = some (.tup xs)) (hs : Ims H xs ds) (hl : ds.length ≤ 1000)
    (hwp : ∀ x : V, wipe ((wipe σ vs).set k (some x)) vs = wipe σ vs)
    (step : ∀ (i : Nat) (d : PyData) (y : V) (H' : Hp) (Q' : VK), ds[i]? = some d → xs[i]? = some y → Same H H' → Im H' y d → (∀ H2, Same H' H2 → Q' (.bl (f d)) H2) → te ((wipe σ vs).set k (some y)) H' Q')
    (q : ∀ D H', Same H H' → H' D = some (.lst ((ds.map f).map V.bl)) → Q (.ref D) H') : LcW (gName k) tYes te vs σ Q (Itt K a) H := by
  have hlen := hs.length
  refine l_tup (xs := xs) (fun D i H' => H' D = some (.lst (((ds.take i).map f).map V.bl)) ∧ Same H H') (fun D hD => ⟨upd_same, Same.new hD⟩) ?_ ?_ ?_
  · rintro D hD i H' hi ⟨hD', sm⟩
    exact SqT.of (sm _ _ ha)
  · rintro D hD i y H' hi ⟨hD', sm⟩
    obtain ⟨hlt, _⟩ := List.getElem?_eq_some_iff.mp hi
    have hd : ds[i]? = some (ds[i]'(by omega)) := List.getElem?_eq_getElem _
    generalize ds[i]'(by omega) = dv at hd
    obtain ⟨y', hy', hiy⟩ := hs.get hd
    rw [hi] at hy'
    cases hy'
    refine g_name (g_wipe (hwp _) (g_yes (g_ifT ?_)))
    refine step i dv y H' _ hd hi sm (hiy.same sm) (fun H2 sm2 => ⟨_, sm2 _ _ hD', by
      refine szl ?_
      rw [List.length_map, List.length_map, List.length_take]
      omega, ?_, Same.mut (sm.trans sm2) hD⟩)
    rw [upd_same, map_take_succ hd, List.map_append]
    rfl
  · rintro D hD H' ⟨hD', sm⟩
    refine q D H' sm ?_
    rw [hlen, List.take_length] at hD'
    exact hD'
def endD (rows : List PyData) : Bool := match rows.getLast? with
  | some (.tuple (e :: _)) => strD ["jump", "stop"] e
  | _ => false
def codeD : PyData → Bool
  | .tuple [rg, .tuple rows] => regionsD rg && (decide (1 ≤ rows.length) && (rows.all (rowD rows.length) && endD rows))
  | _ => false
theorem code_not {d : PyData} (h : lenI 2 d = false) : codeD d = false := by
  unfold codeD
  split
  · cases h
  · rfl
theorem code_2 {d1 d2 : PyData} (h : isT d2 = false) : codeD (.tuple [d1, d2]) = false := by
  cases d2 <;> first | (cases h; done) | rfl
theorem code_3 {d1 : PyData} {rows : List PyData} : codeD (.tuple [d1, .tuple rows]) = (regionsD d1 && (decide (1 ≤ rows.length) && (rows.all (rowD rows.length) && endD rows))) := rfl
theorem code_r {d1 d2 : PyData} (h : regionsD d1 = false) : codeD (.tuple [d1, d2]) = false := by
  unfold codeD
  split
  · rename_i e
    injection e with e
    injection e with e1 e2
    subst e1
    rw [h]
    rfl
  · rfl
theorem m_last {K : PySem.W.Frag} {H : Hp} {Q : VK} {x : V} {ds : List PyData} {d : PyData} (h : Im H x (.tuple ds)) (hl : 0 < ds.length) (hd : ds[ds.length - 1]? = some d) (k : ∀ v, Im H v d → Q v H) : rIxU K x (.int (-1)) H Q := by
  obtain ⟨a, xs, rfl, h1, h2⟩ := h.tup_inv
  obtain ⟨v, hv, hm⟩ := h2.get hd
  have l := h2.length
  refine g_ixT' (SqT.of h1) (v := v) ?_ (k v hm)
  show (ixN _ (-1)).bind _ = _
  unfold ixN
  rw [if_neg (by decide), if_pos (by omega)]
  have e : ((-1 : Int) + (xs.length : Int)).toNat = ds.length - 1 := by omega
  show xs[((-1 : Int) + (xs.length : Int)).toNat]? = _
  rw [e]
  exact hv
theorem row_shape {rows : Int} {d : PyData} (h : rowD rows d = true) : ∃ z ds, d = .tuple (.str z :: ds) := by
  unfold rowD at h
  split at h
  · exact ⟨_, _, rfl⟩
  · cases h


/-! ### the draws of the laws that mix cells (_law_mix, _law_stream, _law_pick) -/
def sp_law_mix (K : PySem.W.Frag) : Sp := fun vs H Q _ => ∃ (c k : Int), vs = [.int c, .int k] ∧ ∀ v, 0 ≤ v → v < 1000 → Q (.int v) H
theorem sc_law_mix : FnScope ["cell", "k", "low"] ["cell", "k"] (defScope (topS 27)) := ⟨rfl, rfl, rfl, by decide +kernel, rfl, by decide +kernel, by decide +kernel⟩
theorem ok_law_mix (T : Txt fa fn K mg (CsOk cs K w)) : Dn P w K mg base CX0 1 "_law_mix" ["cell", "k"] (sp_law_mix K) := by
  refine mk_dn (d := dOf "_law_mix" 27) T 9 9 rfl rfl rfl rfl rfl sc_law_mix (by walk_at "len") (fun _ _ _ _ _ _ us hl => match us, hl with | [_, _], _ => rfl) (fun cdv A outer s H vs Q E hr h => ⟨_, (pss_cons (ps_set (i := 2) sc_law_mix.nd rfl (.inl rfl) (pe_op o_mod (pe_callTy c_int rfl (T.free 25 rfl) (by decide +kernel) (pa_cons (pe_op (op_addU (K := K) rfl) (pe_op (op_addU (K := K) rfl) (pe_op op_mulU (pv 0) pe_int) (pe_op op_mulU (pv 1) pe_int)) pe_int) pa_nil)) pe_int))
      (pss_one (ps_ret (pe_op o_mod (pe_op o_mod (pe_callTy c_int rfl (T.free 25 rfl) (by decide +kernel) (pa_cons (pe_op (op_addU (K := K) rfl) (pe_op (op_addU (K := K) rfl) (pe_op (op_addU (K := K) rfl) (pe_op op_mulU (pv 2) (pv 2)) (pe_op op_mulU (pv 0) pe_int)) (pe_op op_mulU (pv 1) pe_int)) pe_int) pa_nil)) pe_int) pe_int)))), ?_⟩)
  obtain ⟨c, k, rfl, hQ⟩ := h
  walk_at "go"
  exact hQ _ (Int.emod_nonneg _ (by decide)) (Int.emod_lt_of_pos _ (by decide))
def sp_law_stream (K : PySem.W.Frag) : Sp := fun vs H Q _ => ∃ (a : Addr) (ns : List Int) (most : Int), vs = [.ref a, .int most] ∧ SqL K H a (ns.map V.int) ∧ ns.length ≤ 63 ∧ 0 ≤ most ∧ most ≤ 1200 ∧
  ∀ H' d r (row : List Int) (sd : Int), Same H H' → H d = none → H r = none → Has H' [(d, .dK (drK r 0 sd)), (r, .lst (row.map V.int))] → RowOk row sd → Q (.ref d) H'
theorem app_map {row : List Int} {x : Int} : row.map V.int ++ [V.int x] = (row ++ [x]).map V.int := by simp
theorem draw_snoc {row : List Int} {x : Int} (h : ∀ y ∈ row, 0 ≤ y ∧ y < 1000) (h0 : 0 ≤ x) (h1 : x < 1000) : ∀ y ∈ row ++ [x], 0 ≤ y ∧ y < 1000 := fun y hy => by
  rcases List.mem_append.mp hy with hy | hy
  · exact h y hy
  · rw [List.mem_singleton.mp hy]
    exact ⟨h0, h1⟩
theorem sc_law_stream : FnScope ["script", "most", "row", "k", "rest", "j"] ["script", "most"] (defScope (topS 28)) := ⟨rfl, rfl, rfl, by decide +kernel, rfl, by decide +kernel, by decide +kernel⟩
theorem ok_law_stream (T : Txt fa fn K mg (CsOk cs K w)) : Dn P w K mg base CX0 2 "_law_stream" ["script", "most"] (sp_law_stream K) := by
  refine mk_dn (d := dOf "_law_stream" 28) T 10 10 rfl rfl rfl rfl rfl sc_law_stream (by walk_at "len") (fun _ _ _ _ _ _ us hl => match us, hl with | [_, _], _ => rfl) (fun cdv A outer s H vs Q E hr h => ⟨_, (pss_cons (ps_set (i := 2) sc_law_stream.nd rfl (.inl rfl) (pe_lst pa_nil))
      (pss_cons (ps_for PassesOwn.never rfl (pi_r1 rfl (T.free 30 rfl) (pa_cons (pe_callB (c_min2 rfl) rfl (T.free 29 rfl) (by decide +kernel) (pa_cons (pe_callB (c_len (K := K) rfl) rfl (T.free 27 rfl) (by decide +kernel) (pa_cons (pv 0) pa_nil)) (pa_cons pe_int pa_nil))) pa_nil)) (pg_name (i := 3) sc_law_stream.nd rfl (.inl rfl)) (pss_cons (ps_set (i := 4) sc_law_stream.nd rfl (.inl rfl) (pe_ixU (K := K) rfl (hu_of hr) (pv 0) (pv 3)))
      (pss_one (ps_if (pt_cmpR o_ge (pv 4) (pe_op o_pow pe_int pe_int) (nomark _)) (pss_one (ps_for PassesOwn.never rfl (pi_r1 rfl (T.free 30 rfl) (pa_cons pe_int pa_nil)) (pg_name (i := 5) sc_law_stream.nd rfl (.inl rfl)) (pss_one (ps_if (PW.pt (pw_and (pt_cmpR o_gt (pv 4) pe_int (nomark _)) (pw_and1 (pt_cmpR o_lt (pe_callB (c_len (K := K) rfl) rfl (T.free 27 rfl) (by decide +kernel) (pa_cons (pv 2) pa_nil)) (pv 1) (nomark _))))) (pss_cons (ps_expr (pe_bm PySem.F.plainAttrs_list PySem.F.slot_list_append PySem.F.type_list_append mt_append (pv 2) (pa_cons (pe_op o_mod (pe_callTy c_int rfl (T.free 25 rfl) (by decide +kernel) (pa_cons (pv 4) pa_nil)) pe_int) pa_nil)))
      (pss_one (ps_set (i := 4) sc_law_stream.nd rfl (.inl rfl) (pe_op o_fdiv (pv 4) pe_int)))) pss_nil)))) (pss_one (ps_for PassesOwn.never rfl (pi_r1 rfl (T.free 30 rfl) (pa_cons pe_int pa_nil)) (pg_name (i := 5) sc_law_stream.nd rfl (.inl rfl)) (pss_one (ps_if (pt_cmpR o_lt (pe_callB (c_len (K := K) rfl) rfl (T.free 27 rfl) (by decide +kernel) (pa_cons (pv 2) pa_nil)) (pv 1) (nomark _)) (pss_one (ps_expr (pe_bm PySem.F.plainAttrs_list PySem.F.slot_list_append PySem.F.type_list_append mt_append (pv 2) (pa_cons (pe_callD (K := K) rfl (ok_law_mix T) (hr.mono (by decide)) rfl pass0 (pa_cons (pv 4) (pa_cons (pe_op (op_addU (K := K) rfl) (pe_op op_mulU pe_int (pv 5)) (pv 3)) pa_nil))) pa_nil)))) pss_nil))))))))
      (pss_one (ps_ret (pe_disp (pps_cons pe_str (pv 2) (pps_cons pe_str pe_int (pps_cons pe_str (pe_callB (c_len (K := K) rfl) rfl (T.free 27 rfl) (by decide +kernel) (pa_cons (pv 2) pa_nil)) pps_nil))) (by rfl) (by rfl) (fun z => by cases z) (by decide)))))), ?_⟩)
  obtain ⟨a, ns, most, rfl, hS, hlen, hm0, hm1, hQ⟩ := h
  walk_at "go"
  refine ⟨by decide, fun p hp => ?_⟩
  walk_at "go"
  have hS1 : SqL K (upd H p (.lst [])) a (ns.map V.int) := (Same.new hp).seq hS
  refine g_lenL hS1 ?_
  walk_at "go"
  have hn : (ns.map V.int).length = ns.length := List.length_map _
  rw [hn]
  have hj : (if (63 : Int) < (ns.length : Int) then (63 : Int) else (ns.length : Int)).toNat = ns.length := by split <;> omega
  rw [hj]
  have M0 : Has (upd H p (.lst [])) [(p, .lst (([] : List Int).map V.int))] := Has.one upd_same
  refine f_range (fun i σ H' => ∃ (row : List Int) (k c t : Option V), σ = [some (.ref a), some (.int most), some (.ref p), k, c, t] ∧ Same H H' ∧ Has H' [(p, .lst (row.map V.int))] ∧ (∀ x ∈ row, 0 ≤ x ∧ x < 1000) ∧ (row.length : Int) ≤ most)
    ⟨[], _, _, _, rfl, Same.new hp, M0, (fun _ h => nomatch h), by simpa using hm0⟩ ?_ ?_
  · rintro i σ H' hi ⟨row, k, c, t, rfl, hs, M, hr1, hr2⟩
    walk_at "go"
    have hS2 := hs.seq hS
    obtain ⟨z, hz⟩ : ∃ z, ns[i]? = some z := ⟨_, List.getElem?_eq_getElem hi⟩
    have hz' : (ns.map V.int)[i]? = some (V.int z) := by rw [List.getElem?_map, hz]; rfl
    refine g_ixL hS2 (n := i) (by omega) hz' ?_
    walk_at "go"
    refine g_if (fun hc => ?_) (fun hc => ?_)
    · walk_at "go"
      refine f_range (fun j σ H' => ∃ (row : List Int) (cell : Int) (k t : Option V), σ = [some (.ref a), some (.int most), some (.ref p), k, some (.int cell), t] ∧ Same H H' ∧ Has H' [(p, .lst (row.map V.int))] ∧ (∀ x ∈ row, 0 ≤ x ∧ x < 1000) ∧ (row.length : Int) ≤ most)
        ⟨row, z, _, _, rfl, hs, M, hr1, hr2⟩ ?_ ?_
      · rintro j σ H2 hj ⟨row, cell, k, t, rfl, hs, M, hr1, hr2⟩
        walk_at "go"
        refine g_if (fun h0 => ?_) (fun h0 => ?_)
        · walk_at "go"
          refine g_if (fun h3 => ?_) (fun h3 => ?_)
          · walk_at "go"
            refine g_append M 0 rfl (szl (by rw [List.length_map]; omega)) (fun M1 => ?_)
            walk_at "go"
            exact ⟨row ++ [cell % 1000], cell / 1000, _, _, rfl, Same.mut hs hp, by rw [← app_map]; exact M1, draw_snoc hr1 (Int.emod_nonneg _ (by decide)) (Int.emod_lt_of_pos _ (by decide)), by rw [List.length_append]; simp; omega⟩
          · walk_at "go"
            exact ⟨row, cell, _, _, rfl, hs, M, hr1, hr2⟩
        · walk_at "go"
          exact ⟨row, cell, _, _, rfl, hs, M, hr1, hr2⟩
      · rintro σ H2 ⟨row, cell, k, t, rfl, hs, M, hr1, hr2⟩
        walk_at "go"
        exact ⟨row, _, _, _, rfl, hs, M, hr1, hr2⟩
    · walk_at "go"
      refine f_range (fun j σ H' => ∃ (row : List Int) (t : Option V), σ = [some (.ref a), some (.int most), some (.ref p), some (.int (0 + i)), some (.int z), t] ∧ Same H H' ∧ Has H' [(p, .lst (row.map V.int))] ∧ (∀ x ∈ row, 0 ≤ x ∧ x < 1000) ∧ (row.length : Int) ≤ most)
        ⟨row, _, rfl, hs, M, hr1, hr2⟩ ?_ ?_
      · rintro j σ H2 hj ⟨row, t, rfl, hs, M, hr1, hr2⟩
        walk_at "go"
        refine g_if (fun h3 => ?_) (fun h3 => ?_)
        · walk_at "go"
          refine ⟨_, _, rfl, fun v h0 h1 => ?_⟩
          walk_at "go"
          refine g_append M 0 rfl (szl (by rw [List.length_map]; omega)) (fun M1 => ?_)
          walk_at "go"
          exact ⟨row ++ [v], _, rfl, Same.mut hs hp, by rw [← app_map]; exact M1, draw_snoc hr1 h0 h1, by rw [List.length_append]; simp; omega⟩
        · walk_at "go"
          exact ⟨row, _, rfl, hs, M, hr1, hr2⟩
      · rintro σ H2 ⟨row, t, rfl, hs, M, hr1, hr2⟩
        walk_at "go"
        exact ⟨row, _, _, _, rfl, hs, M, hr1, hr2⟩
  · rintro σ H' ⟨row, k, c, t, rfl, hs, M, hr1, hr2⟩
    walk_at "go"
    intro d hd
    walk_at "go"
    refine g_lenL (SqL.of ((Same.new hd) _ _ (M.get 0 rfl))) ?_
    rw [List.length_map]
    walk_at "go"
    refine ⟨upd_same, [(.inr "row", .ref p), (.inr "at", .int 0), (.inr "seed", .int (row.length : Int))], rfl, (by show 3 ≤ 15; decide), ?_⟩
    rw [dr_made, upd_upd]
    refine hQ _ d p row (row.length : Int) (Same.new' hs hd) (hs.free hd) hp ?_ ⟨hr1, by omega, by omega, by omega⟩
    have M2 : Has (upd H' d (.dK (drK p 0 (row.length : Int)))) ([(p, .lst (row.map V.int))] ++ [(d, .dK (drK p 0 (row.length : Int)))]) := M.new hd
    exact M2.perm (List.perm_append_comm (l₁ := [_]) (l₂ := [_]))
def sp_law_next (K : PySem.W.Frag) : Sp := fun vs H Q _ => ∃ (d r : Addr) (n sd m : Int) (row : List Int), vs = [.ref d, .int m] ∧ H d = some (.dK (drK r n sd)) ∧ H r = some (.lst (row.map V.int)) ∧ RowOk row sd ∧ 0 ≤ n ∧ 0 < m ∧
  ∀ H' v, Keep [d] H H' → H' d = some (.dK (drK r (n + 1) sd)) → 0 ≤ v → v < m → Q (.int v) H'
abbrev sp_law_pick := sp_law_next
theorem sc_law_pick : FnScope ["draws", "many", "at", "number"] ["draws", "many"] (defScope (topS 29)) := ⟨rfl, rfl, rfl, by decide +kernel, rfl, by decide +kernel, by decide +kernel⟩
theorem ok_law_pick (T : Txt fa fn K mg (CsOk cs K w)) : Dn P w K mg base CX0 2 "_law_pick" ["draws", "many"] (sp_law_pick K) := by
  refine mk_dn (d := dOf "_law_pick" 29) T 11 11 rfl rfl rfl rfl rfl sc_law_pick (by walk_at "len") (fun _ _ _ _ _ _ us hl => match us, hl with | [_, _], _ => rfl) (fun cdv A outer s H vs Q E hr h => ⟨_, (pss_cons (ps_set (i := 2) sc_law_pick.nd rfl (.inl rfl) (pe_ixU (K := K) rfl (hu_of hr) (pv 0) pe_str))
      (pss_cons (ps_dput (hu_of hr) (pv 0) pe_str (pe_op (op_addU (K := K) rfl) (pv 2) pe_int) rfl)
      (pss_cons (ps_set (i := 3) sc_law_pick.nd rfl (.inl rfl) (pe_callD (K := K) rfl (ok_law_mix T) (hr.mono (by decide)) rfl pass0 (pa_cons (pe_ixU (K := K) rfl (hu_of hr) (pv 0) pe_str) (pa_cons (pv 2) pa_nil))))
      (pss_cons (ps_if (pt_cmpR o_lt (pv 2) (pe_callB (c_len (K := K) rfl) rfl (T.free 27 rfl) (by decide +kernel) (pa_cons (pe_ixU (K := K) rfl (hu_of hr) (pv 0) pe_str) pa_nil)) (nomark _)) (pss_one (ps_set (i := 3) sc_law_pick.nd rfl (.inl rfl) (pe_ixU (K := K) rfl (hu_of hr) (pe_ixU (K := K) rfl (hu_of hr) (pv 0) pe_str) (pv 2)))) pss_nil)
      (pss_one (ps_ret (pe_op o_mod (pe_callTy c_int rfl (T.free 25 rfl) (by decide +kernel) (pa_cons (pv 3) pa_nil)) (pv 1)))))))), ?_⟩)
  obtain ⟨d, r, n, sd, m, row, rfl, hd, hr, ok, hn, hm, hQ⟩ := h
  walk_at "go"
  refine g_ixD (dg_at hd) ?_
  walk_at "go"
  refine ⟨d, _, rfl, dp_at (n + 1) hd, ?_⟩
  have ne : r ≠ d := ne_of hr hd (by intro z; cases z)
  have hd1 : upd H d (.dK (drK r (n + 1) sd)) d = some (.dK (drK r (n + 1) sd)) := upd_same
  have hr1 : upd H d (.dK (drK r (n + 1) sd)) r = some (.lst (row.map V.int)) := by rw [upd_ne ne]; exact hr
  have hk : Keep [d] H (upd H d (.dK (drK r (n + 1) sd))) := Keep.set (List.mem_singleton.mpr rfl)
  walk_at "go"
  refine g_ixD (dg_seed hd1) ?_
  walk_at "go"
  refine ⟨_, _, rfl, fun v h0 h1 => ?_⟩
  walk_at "go"
  refine g_ixD (dg_row hd1) ?_
  walk_at "go"
  refine g_if (fun h0 => ?_) (fun h0 => ?_)
  · walk_at "go"
    refine g_ixD (dg_row hd1) ?_
    walk_at "go"
    obtain ⟨z, hz⟩ : ∃ z, row[n.toNat]? = some z := ⟨_, List.getElem?_eq_getElem (by omega)⟩
    refine g_ixL (SqL.of hr1) (n := n.toNat) (by omega) (by rw [List.getElem?_map, hz]; rfl) ?_
    walk_at "go"
    exact hQ _ _ hk hd1 (Int.emod_nonneg _ (by omega)) (Int.emod_lt_of_pos _ hm)
  · walk_at "go"
    exact hQ _ _ hk hd1 (Int.emod_nonneg _ (by omega)) (Int.emod_lt_of_pos _ hm)
theorem use_next {H : Hp} {d r : Addr} {n sd m : Int} {row : List Int} {Q : VK} {E : XK} (hd : H d = some (.dK (drK r n sd))) (hr : H r = some (.lst (row.map V.int))) (ok : RowOk row sd) (hn : 0 ≤ n) (hm : 0 < m)
    (k : ∀ H' v, Keep [d] H H' → H' d = some (.dK (drK r (n + 1) sd)) → H' r = some (.lst (row.map V.int)) → 0 ≤ v → v < m → Q (.int v) H') : sp_law_next K ([.ref d, .int m] ++ []) H Q E :=
  ⟨d, r, n, sd, m, row, rfl, hd, hr, ok, hn, hm, fun H' v kp h1 h2 h3 => k H' v kp h1 (kp r _ hr (by
    have ne : r ≠ d := ne_of hr hd (by intro z; cases z)
    simpa using ne)) h2 h3⟩
theorem use_nextM {H : Hp} {L : List (Addr × HO)} {d r : Addr} {n sd m : Int} {row : List Int} {Q : VK} {E : XK} (M : Has H ((d, .dK (drK r n sd)) :: (r, .lst (row.map V.int)) :: L)) (ok : RowOk row sd) (hn : 0 ≤ n) (hm : 0 < m)
    (k : ∀ H' v, Keep [d] H H' → Has H' ((d, .dK (drK r (n + 1) sd)) :: (r, .lst (row.map V.int)) :: L) → 0 ≤ v → v < m → Q (.int v) H') : sp_law_next K ([.ref d, .int m] ++ []) H Q E :=
  ⟨d, r, n, sd, m, row, rfl, M.get 0 rfl, M.get 1 rfl, ok, hn, hm, fun H' v kp h1 h2 h3 => k H' v kp (M.call1 kp 0 rfl h1) h2 h3⟩

/-! ### draws, bundled -/
/-- the draws dict stands at d, beside the objects L -/
structure DrL (H : Hp) (d : Addr) (L : List (Addr × HO)) : Prop where
  ex : ∃ (r : Addr) (n sd : Int) (row : List Int), Has H ((d, .dK (drK r n sd)) :: (r, .lst (row.map V.int)) :: L) ∧ RowOk row sd ∧ 0 ≤ n
section
variable {H H' : Hp} {d p a : Addr} {L L' : List (Addr × HO)} {o o' : HO} {Q : VK} {E : XK} {m : Int} {v : V} {e : PyData} {xs : List V} {ds : List PyData} {σ : L2.St} {j : Nat}
theorem DrL.has (D : DrL H d L) : Has H L := by
  obtain ⟨r, n, sd, row, M, _⟩ := D.ex
  exact M.sub ((List.sublist_cons_self _ _).trans (List.sublist_cons_self _ _))
theorem DrL.get (D : DrL H d L) (i : Nat) (h : L[i]? = some (a, o)) : H a = some o := D.has.get i h
theorem DrL.new (D : DrL H d L) (hp : H p = none) : DrL (upd H p o) d (L ++ [(p, o)]) := by
  obtain ⟨r, n, sd, row, M, ok, hn⟩ := D.ex
  exact ⟨r, n, sd, row, M.new hp, ok, hn⟩
theorem DrL.same (D : DrL H d L) (k : Same H H') : DrL H' d L := by
  obtain ⟨r, n, sd, row, M, ok, hn⟩ := D.ex
  exact ⟨r, n, sd, row, M.keep k, ok, hn⟩
theorem DrL.sub (D : DrL H d L) (h : L'.Sublist L) : DrL H d L' := by
  obtain ⟨r, n, sd, row, M, ok, hn⟩ := D.ex
  exact ⟨r, n, sd, row, M.sub ((h.cons₂ _).cons₂ _), ok, hn⟩
theorem DrL.set (D : DrL H d L) (i : Nat) (h : L[i]? = some (a, o)) : DrL (upd H a o') d (L.set i (a, o')) := by
  obtain ⟨r, n, sd, row, M, ok, hn⟩ := D.ex
  exact ⟨r, n, sd, row, M.set (i + 2) h, ok, hn⟩
theorem DrL.noTup (D : DrL H d L) : NoTup H [d] := by
  obtain ⟨r, n, sd, row, M, ok, hn⟩ := D.ex
  exact NoTup.one (M.get 0 rfl) (fun xs e => nomatch e)
theorem DrL.im (D : DrL H d L) (k : Keep [d] H H') (h : Im H v e) : Im H' v e := h.keep k D.noTup
theorem DrL.ims (D : DrL H d L) (k : Keep [d] H H') (h : Ims H xs ds) : Ims H' xs ds := h.keep k D.noTup
theorem DrL.ne (D : DrL H d L) (hp : H p = none) : p ≠ d := by
  obtain ⟨r, n, sd, row, M, ok, hn⟩ := D.ex
  rintro rfl
  have := M.get 0 rfl
  rw [hp] at this
  cases this
theorem DrL.at_ (D : DrL H d L) (k : Keep [d] H H') (h : H a = some o) (n : ∀ kvs, o ≠ .dK kvs) : H' a = some o := by
  obtain ⟨r, q, sd, row, M, ok, hn⟩ := D.ex
  refine k a o h fun z => ?_
  rw [List.mem_singleton.mp z, M.get 0 rfl] at h
  exact n _ (Option.some.inj h).symm
theorem use_nx (D : DrL H d L) (hm : 0 < m) (k : ∀ H' v, Keep [d] H H' → DrL H' d L → 0 ≤ v → v < m → Q (.int v) H') : sp_law_next K ([.ref d, .int m] ++ []) H Q E := by
  obtain ⟨r, n, sd, row, M, ok, hn⟩ := D.ex
  exact use_nextM M ok hn hm fun H' v kp M' h0 h1 => k H' v kp ⟨r, _, sd, row, M', ok, by omega⟩ h0 h1
/-- one of a written list, by a draw -/
theorem use_pk (D : DrL H d L) (hj : σ[j]? = some (some (.ref d))) (hm : (xs.length : Int) = m) (h0 : 0 < xs.length) (hs : xs.length ≤ 1000) (k : ∀ H' v, Keep [d] H H' → DrL H' d L → v ∈ xs → Q v H') :
    rLstN xs H fun x H1 => tCall (sp_law_next K) [] E (tCons (tVar j) (tCons (tC (.int m)) tNil)) σ H1 fun y H2 => rIxU K x y H2 Q := by
  refine ⟨szle (by omega), fun p hp => ?_⟩
  refine g_call (g_consA (g_var hj (g_consA (g_c (g_nilA ?_)))))
  have D1 := D.same (Same.new (o := .lst xs) hp)
  refine use_nx D1 (by omega) fun H2 v k2 D2 h1 h2 => ?_
  have hv : v.toNat < xs.length := by omega
  have hx : xs[v.toNat]? = some xs[v.toNat] := List.getElem?_eq_getElem hv
  exact g_ixL (SqL.of (D1.at_ k2 upd_same (fun _ e => nomatch e))) (n := v.toNat) (by omega) hx (k H2 _ ((Keep.new hp).trans k2) D2 (List.getElem_mem hv))
theorem gD_append (D : DrL H d L) (n : Nat) (h : L[n]? = some (a, .lst xs)) (hl : xs.length < 100000) (k : DrL (upd H a (.lst (xs ++ [v]))) d (L.set n (a, .lst (xs ++ [v]))) → Q .non (upd H a (.lst (xs ++ [v])))) : rAppend (.ref a) [v] H Q :=
  ⟨a, xs, v, rfl, rfl, D.get n h, szl (by omega), k (D.set n h)⟩
end

/-! ### comprehensions that make data -/
section
variable {K : PySem.W.Frag} {σ : L2.St} {H : Hp} {g : TG} {te : TE} {vs : List Nat} {Q : VK} {a d : Addr} {xs : List V} {ds : List PyData} {n k : Nat} {lo : Int}
theorem ims_snoc {H H2 : Hp} {us : List V} {es : List PyData} {v : V} {e : PyData} {D : Addr} {o : HO} (h : Ims H us es) (hv : Im H v e) (hD : H D = some (.lst us)) : Ims (upd H D o) (us ++ [v]) (es ++ [e]) :=
  (h.append (Ims.one hv)).keep (Keep.set (List.mem_singleton.mpr rfl)) (NoTup.one hD (fun _ e => nomatch e))
/-- over a tuple of data -/
theorem l_map {f : PyData → PyData} (ha : H a = some (.tup xs)) (hs : Ims H xs ds) (hl : ds.length ≤ 1000)
    (step : ∀ (i : Nat) (e : PyData) (y : V) (H' : Hp) (R : VK), ds[i]? = some e → Same H H' → Im H' y e → (∀ H2 v, Same H' H2 → Im H2 v (f e) → R v H2) → g y (wipe σ vs) H' fun σ2 H2 => wipe σ2 vs = wipe σ vs ∧ te σ2 H2 R)
    (hm : ∀ (y : V) (σ1 : L2.St) (H1 : Hp) (R R' : L2.St → Hp → Prop), (∀ σ2 H2, R σ2 H2 → R' σ2 H2) → g y σ1 H1 R → g y σ1 H1 R')
    (q : ∀ D H' us, Same H H' → H' D = some (.lst us) → Ims H' us (ds.map f) → Q (.ref D) H') : LcW g tYes te vs σ Q (Itt K a) H := by
  have hlen := hs.length
  refine l_tup (xs := xs) (fun D i H' => ∃ us, H' D = some (.lst us) ∧ Ims H' us ((ds.take i).map f) ∧ Same H H') (fun D hD => ⟨[], upd_same, .nil, Same.new hD⟩) ?_ ?_ ?_
  · rintro D hD i H' hi ⟨us, hD', im, sm⟩
    exact SqT.of (sm _ _ ha)
  · rintro D hD i y H' hi ⟨us, hD', im, sm⟩
    obtain ⟨hlt, _⟩ := List.getElem?_eq_some_iff.mp hi
    have hd : ds[i]? = some (ds[i]'(by omega)) := List.getElem?_eq_getElem _
    generalize ds[i]'(by omega) = dv at hd
    obtain ⟨y', hy', hiy⟩ := hs.get hd
    rw [hi] at hy'
    cases hy'
    have hul : us.length = (ds.take i).length := by rw [im.length, List.length_map]
    refine hm _ _ _ _ _ ?_ (step i dv y H' (fun v H3 => ∃ acc, H3 D = some (.lst acc) ∧ acc.length < sizeLine ∧ ∃ us, upd H3 D (.lst (acc ++ [v])) D = some (.lst us) ∧ Ims (upd H3 D (.lst (acc ++ [v]))) us ((ds.take (i + 1)).map f) ∧ Same H (upd H3 D (.lst (acc ++ [v])))) hd sm (hiy.same sm) (fun H2 v sm2 imv => ?_))
    · rintro σ2 H2 ⟨e1, e2⟩
      exact ⟨e1, g_yes (g_ifT e2)⟩
    · have hD2 := sm2 _ _ hD'
      refine ⟨us, hD2, szl (by rw [hul, List.length_take]; omega), _, upd_same, ?_, Same.mut (sm.trans sm2) hD⟩
      rw [map_take_succ hd]
      exact ims_snoc (H2 := H2) (im.same sm2) imv hD2
  · rintro D hD H' ⟨us, hD', im, sm⟩
    refine q D H' us sm hD' ?_
    rw [hlen, List.take_length] at im
    exact im
/-- over a range -/
theorem l_mapR {f : Nat → PyData} (hn : n ≤ 10000) (hwp : ∀ x : V, wipe ((wipe σ vs).set k (some x)) vs = wipe σ vs)
    (step : ∀ (i : Nat) (H' : Hp) (R : VK), i < n → Same H H' → (∀ H2 v, Same H' H2 → Im H2 v (f i) → R v H2) → te ((wipe σ vs).set k (some (.int (lo + i)))) H' R)
    (q : ∀ D H' us, Same H H' → H' D = some (.lst us) → Ims H' us ((List.range n).map f) → Q (.ref D) H') : LcW (gName k) tYes te vs σ Q (Itr lo n) H := by
  refine l_range (fun D i H' => ∃ us, H' D = some (.lst us) ∧ Ims H' us ((List.range i).map f) ∧ Same H H') (fun D hD => ⟨[], upd_same, .nil, Same.new hD⟩) ?_ ?_
  · rintro D hD i H' hi ⟨us, hD', im, sm⟩
    have hul : us.length = i := by rw [im.length, List.length_map, List.length_range]
    refine g_name (g_wipe (hwp _) (g_yes (g_ifT ?_)))
    refine step i H' _ hi sm (fun H2 v sm2 imv => ?_)
    have hD2 := sm2 _ _ hD'
    refine ⟨us, hD2, szl (by omega), _, upd_same, ?_, Same.mut (sm.trans sm2) hD⟩
    rw [List.range_succ, List.map_append]
    exact ims_snoc (H2 := H2) (im.same sm2) imv hD2
  · rintro D hD H' ⟨us, hD', im, sm⟩
    exact q D H' us sm hD' im
/-- over a range, with draws -/
theorem l_drawR {P : Nat → PyData → Prop} {L : List (Addr × HO)} (D0 : DrL H d L) (hn : n ≤ 10000) (hwp : ∀ x : V, wipe ((wipe σ vs).set k (some x)) vs = wipe σ vs)
    (step : ∀ (i : Nat) (H' : Hp) (R : VK) (L' : List (Addr × HO)), i < n → Keep [d] H H' → DrL H' d L' → (∀ H2 v e, Keep [d] H' H2 → DrL H2 d L' → Im H2 v e → P i e → R v H2) → te ((wipe σ vs).set k (some (.int (lo + i)))) H' R)
    (q : ∀ D H' us es, H D = none → Keep [d] H H' → DrL H' d (L ++ [(D, .lst us)]) → Ims H' us es → es.length = n → (∀ i e, es[i]? = some e → P i e) → Q (.ref D) H') : LcW (gName k) tYes te vs σ Q (Itr lo n) H := by
  refine l_range (fun D i H' => ∃ us es, DrL H' d (L ++ [(D, .lst us)]) ∧ Ims H' us es ∧ es.length = i ∧ (∀ j e, es[j]? = some e → P j e) ∧ Keep [d] H H') (fun D hD => ⟨[], [], D0.new hD, .nil, rfl, fun j e h => by simp at h, Keep.new hD⟩) ?_ ?_
  · rintro D hD i H' hi ⟨us, es, D1, im, hl, hp, kp⟩
    have hul : us.length = i := by rw [im.length, hl]
    refine g_name (g_wipe (hwp _) (g_yes (g_ifT ?_)))
    refine step i H' _ _ hi kp D1 (fun H2 v e k2 D2 imv pe => ?_)
    have hD2 : H2 D = some (.lst us) := D2.get L.length (by simp)
    have D3 := D2.set (o' := .lst (us ++ [v])) L.length (by simp : (L ++ [(D, HO.lst us)])[L.length]? = some (D, HO.lst us))
    refine ⟨us, hD2, szl (by omega), us ++ [v], es ++ [e], ?_, ims_snoc (H2 := H2) (D1.ims k2 im) imv hD2, by rw [List.length_append, hl]; rfl, fun j e' hj => ?_, (kp.trans k2).mut hD⟩
    · rw [show (L ++ [(D, HO.lst us)]).set L.length (D, HO.lst (us ++ [v])) = L ++ [(D, HO.lst (us ++ [v]))] by simp] at D3
      exact D3
    · by_cases hj2 : j < es.length
      · rw [List.getElem?_append_left hj2] at hj
        exact hp j e' hj
      · rw [List.getElem?_append_right (by omega)] at hj
        cases hk : j - es.length with
        | zero =>
          rw [hk] at hj
          simp only [List.getElem?_cons_zero, Option.some.injEq] at hj
          subst hj
          have : j = i := by omega
          rw [this]
          exact pe
        | succ m =>
          rw [hk] at hj
          simp at hj
  · rintro D hD H' ⟨us, es, D1, im, hl, hp, kp⟩
    exact q D H' us es hD kp D1 im hl hp
/-- over a tuple of data, with draws -/
theorem l_drawT {P : Nat → PyData → Prop} {L : List (Addr × HO)} (D0 : DrL H d L) (ha : H a = some (.tup xs)) (hs : Ims H xs ds) (hl : ds.length ≤ 1000)
    (step : ∀ (i : Nat) (e0 : PyData) (y : V) (H' : Hp) (R : VK) (L' : List (Addr × HO)), ds[i]? = some e0 → Keep [d] H H' → Im H' y e0 → DrL H' d L' → (∀ H2 v e, Keep [d] H' H2 → DrL H2 d L' → Im H2 v e → P i e → R v H2) → g y (wipe σ vs) H' fun σ2 H2 => wipe σ2 vs = wipe σ vs ∧ te σ2 H2 R)
    (hm : ∀ (y : V) (σ1 : L2.St) (H1 : Hp) (R R' : L2.St → Hp → Prop), (∀ σ2 H2, R σ2 H2 → R' σ2 H2) → g y σ1 H1 R → g y σ1 H1 R')
    (q : ∀ D H' us es, H D = none → Keep [d] H H' → DrL H' d (L ++ [(D, .lst us)]) → Ims H' us es → es.length = ds.length → (∀ i e, es[i]? = some e → P i e) → Q (.ref D) H') : LcW g tYes te vs σ Q (Itt K a) H := by
  have hlen := hs.length
  refine l_tup (xs := xs) (fun D i H' => ∃ us es, DrL H' d (L ++ [(D, .lst us)]) ∧ Ims H' us es ∧ es.length = i ∧ (∀ j e, es[j]? = some e → P j e) ∧ Keep [d] H H') (fun D hD => ⟨[], [], D0.new hD, .nil, rfl, fun j e h => by simp at h, Keep.new hD⟩) ?_ ?_ ?_
  · rintro D hD i H' hi ⟨us, es, D1, im, hl2, hp, kp⟩
    exact SqT.of (D0.at_ kp ha (fun _ e => nomatch e))
  · rintro D hD i y H' hi ⟨us, es, D1, im, hl2, hp, kp⟩
    obtain ⟨hlt, _⟩ := List.getElem?_eq_some_iff.mp hi
    have hd : ds[i]? = some (ds[i]'(by omega)) := List.getElem?_eq_getElem _
    generalize ds[i]'(by omega) = dv at hd
    obtain ⟨y', hy', hiy⟩ := hs.get hd
    rw [hi] at hy'
    cases hy'
    have hul : us.length = i := by rw [im.length, hl2]
    refine hm _ _ _ _ _ ?_ (step i dv y H' (fun v H3 => ∃ acc, H3 D = some (.lst acc) ∧ acc.length < sizeLine ∧ ∃ us es, DrL (upd H3 D (.lst (acc ++ [v]))) d (L ++ [(D, .lst us)]) ∧ Ims (upd H3 D (.lst (acc ++ [v]))) us es ∧ es.length = i + 1 ∧ (∀ j e, es[j]? = some e → P j e) ∧ Keep [d] H (upd H3 D (.lst (acc ++ [v])))) _ hd kp (D0.im kp hiy) D1 (fun H2 v e k2 D2 imv pe => ?_))
    · rintro σ2 H2 ⟨e1, e2⟩
      exact ⟨e1, g_yes (g_ifT e2)⟩
    · have hD2 : H2 D = some (.lst us) := D2.get L.length (by simp)
      have D3 := D2.set (o' := .lst (us ++ [v])) L.length (by simp : (L ++ [(D, HO.lst us)])[L.length]? = some (D, HO.lst us))
      refine ⟨us, hD2, szl (by omega), us ++ [v], es ++ [e], ?_, ims_snoc (H2 := H2) (D1.ims k2 im) imv hD2, by rw [List.length_append, hl2]; rfl, fun j e' hj => ?_, (kp.trans k2).mut hD⟩
      · rw [show (L ++ [(D, HO.lst us)]).set L.length (D, HO.lst (us ++ [v])) = L ++ [(D, HO.lst (us ++ [v]))] by simp] at D3
        exact D3
      · by_cases hj2 : j < es.length
        · rw [List.getElem?_append_left hj2] at hj
          exact hp j e' hj
        · rw [List.getElem?_append_right (by omega)] at hj
          cases hk : j - es.length with
          | zero =>
            rw [hk] at hj
            simp only [List.getElem?_cons_zero, Option.some.injEq] at hj
            subst hj
            have : j = i := by omega
            rw [this]
            exact pe
          | succ m =>
            rw [hk] at hj
            simp at hj
  · rintro D hD H' ⟨us, es, D1, im, hl2, hp, kp⟩
    exact q D H' us es hD kp D1 im (by omega) hp
end

def rLstU (K : PySem.W.Frag) : List V → Hp → VK → Prop := fun xs H Q => ∃ p ys, xs = [.ref p] ∧ (SqL K H p ys ∨ SqT K H p ys) ∧ ∀ l, H l = none → Q (.ref l) (upd H l (.lst ys))
theorem c_list {X : Cx} {K : PySem.W.Frag} (hK : X.K = K) : CallR X (.type "list") (rLstU K) := by
  subst hK
  exact call_list_of
def rSumK (K : PySem.W.Frag) : List V → Hp → VK → Prop := rSum K
theorem c_sumK {X : Cx} {K : PySem.W.Frag} (hK : X.K = K) (hc : X.calm = true) : CallR X (.builtin "sum") (rSumK K) := by
  subst hK
  exact cr_sum hc
theorem g_sum {K : PySem.W.Frag} {H : Hp} {Q : VK} {a : Addr} {ns : List Int} (h : SqL K H a (ns.map V.int)) (q : Q (.int ns.sum) H) : rSumK K [.ref a] H Q := ⟨a, ns, rfl, h, q⟩


/-! ### the drawn code -/
theorem all_snoc {α : Type} {p : α → Prop} {l : List α} {y : α} (h : ∀ x ∈ l, p x) (hy : p y) : ∀ x ∈ l ++ [y], p x := fun x hx => by
  rcases List.mem_append.mp hx with hx | hx
  · exact h x hx
  · rw [List.mem_singleton.mp hx]
    exact hy
theorem sub_last {L : List (Addr × HO)} {x : Addr × HO} : L.Sublist (L ++ [x]) := List.sublist_append_left L [x]
theorem get_last {L : List (Addr × HO)} {x : Addr × HO} : (L ++ [x])[L.length]? = some x := by simp
theorem set_last {L : List (Addr × HO)} {x y : Addr × HO} : (L ++ [x]).set L.length y = L ++ [y] := by simp
theorem shp_tab : shp "const" = some [.d, .n] ∧ shp "op" = some [.sg, .d, .a, .a] ∧ shp "select" = some [.d, .a, .a, .a] ∧ shp "load" = some [.d, .a, .b, .m] ∧ shp "store" = some [.a, .b, .m, .a] ∧ shp "out" = some [.a] ∧ shp "jump" = some [.t] ∧ shp "branch" = some [.a, .t] ∧ shp "stop" = some [.a] := by decide +kernel
def sp_law_reg (K : PySem.W.Frag) : Sp := fun vs H Q _ => ∃ (d : Addr) (L : List (Addr × HO)), vs = [.ref d] ∧ DrL H d L ∧ ∀ H' v, Keep [d] H H' → DrL H' d L → 0 ≤ v → v < 16 → Q (.int v) H'
theorem sc_law_reg : FnScope ["draws"] ["draws"] (defScope (topS 30)) := ⟨rfl, rfl, rfl, by decide +kernel, rfl, by decide +kernel, by decide +kernel⟩
theorem ok_law_reg (T : Txt fa fn K mg (CsOk cs K w)) : Dn P w K mg base CX0 3 "_law_reg" ["draws"] (sp_law_reg K) := by
  refine mk_dn (d := dOf "_law_reg" 30) T 12 12 rfl rfl rfl rfl rfl sc_law_reg (by walk_at "len") (fun _ _ _ _ _ _ us hl => match us, hl with | [_], _ => rfl) (fun cdv A outer s H vs Q E hr h => ⟨_, (pss_one (ps_ret (pe_callD (K := K) rfl (ok_law_pick T) (hr.mono (by decide)) rfl pass0 (pa_cons (pv 0) (pa_cons pe_int pa_nil))))), ?_⟩)
  obtain ⟨d, L, rfl, D, hQ⟩ := h
  walk_at "go"
  exact use_nx D (by decide) (fun H1 v k1 D1 h0 h1 => hQ H1 v k1 D1 h0 h1)
def sp_law_place (K : PySem.W.Frag) : Sp := fun vs H Q _ => ∃ (d : Addr) (L : List (Addr × HO)), vs = [.ref d] ∧ DrL H d L ∧
  ∀ H' t (b m : Int), Keep [d] H H' → DrL H' d L → H' t = some (.tup [.int b, .int m]) → 0 ≤ b → b ≤ 500000 → maskD (.int m) = true → Q (.ref t) H'
theorem sc_law_place : FnScope ["draws"] ["draws"] (defScope (topS 31)) := ⟨rfl, rfl, rfl, by decide +kernel, rfl, by decide +kernel, by decide +kernel⟩
theorem ok_law_place (T : Txt fa fn K mg (CsOk cs K w)) : Dn P w K mg base CX0 3 "_law_place" ["draws"] (sp_law_place K) := by
  refine mk_dn (d := dOf "_law_place" 31) T 13 13 rfl rfl rfl rfl rfl sc_law_place (by walk_at "len") (fun _ _ _ _ _ _ us hl => match us, hl with | [_], _ => rfl) (fun cdv A outer s H vs Q E hr h => ⟨_, (pss_one (ps_ret (pe_tup (pa_cons (pe_ixU (K := K) rfl (hu_of hr) (pe_lst (pa_cons pe_int (pa_cons pe_int (pa_cons pe_int (pa_cons pe_int (pa_cons pe_int pa_nil)))))) (pe_callD (K := K) rfl (ok_law_pick T) (hr.mono (by decide)) rfl pass0 (pa_cons (pv 0) (pa_cons pe_int pa_nil)))) (pa_cons (pe_ixU (K := K) rfl (hu_of hr) (pe_lst (pa_cons pe_int (pa_cons pe_int (pa_cons pe_int (pa_cons pe_int (pa_cons pe_int (pa_cons pe_int pa_nil))))))) (pe_callD (K := K) rfl (ok_law_pick T) (hr.mono (by decide)) rfl pass0 (pa_cons (pv 0) (pa_cons pe_int pa_nil)))) pa_nil))))), ?_⟩)
  obtain ⟨d, L, rfl, D, hQ⟩ := h
  walk_at "go"
  refine use_pk D rfl rfl (by simp) (by simp) (fun H1 v k1 D1 hv => ?_)
  obtain ⟨b, rfl, hb0, hb1⟩ : ∃ n : Int, v = .int n ∧ 0 ≤ n ∧ n ≤ 500000 := by
    simp only [List.mem_cons, List.not_mem_nil, or_false] at hv
    rcases hv with rfl | rfl | rfl | rfl | rfl <;> exact ⟨_, rfl, by decide, by decide⟩
  walk_at "go"
  refine use_pk D1 rfl rfl (by simp) (by simp) (fun H2 v k2 D2 hv => ?_)
  obtain ⟨m, rfl, hm⟩ : ∃ n : Int, v = .int n ∧ maskD (.int n) = true := by
    simp only [List.mem_cons, List.not_mem_nil, or_false] at hv
    rcases hv with rfl | rfl | rfl | rfl | rfl | rfl <;> exact ⟨_, rfl, by decide⟩
  walk_at "go"
  refine ⟨by show 2 ≤ sizeLine; decide, fun p hp => ?_⟩
  have s3 := Same.new (o := .tup [.int b, .int m]) hp
  exact hQ _ p b m ((k1.trans k2).trans (Keep.of s3)) (D2.same s3) upd_same hb0 hb1 hm
theorem parts1 {rows : Int} {k1 : PK} {d1 : PyData} : partsD rows [k1] [d1] = (partD k1 rows d1 && true) := rfl
theorem parts2 {rows : Int} {k1 k2 : PK} {d1 d2 : PyData} : partsD rows [k1, k2] [d1, d2] = (partD k1 rows d1 && (partD k2 rows d2 && true)) := rfl
theorem parts4 {rows : Int} {k1 k2 k3 k4 : PK} {d1 d2 d3 d4 : PyData} : partsD rows [k1, k2, k3, k4] [d1, d2, d3, d4] = (partD k1 rows d1 && (partD k2 rows d2 && (partD k3 rows d3 && (partD k4 rows d4 && true)))) := rfl
theorem row_ok {rows : Int} {z : Str} {ks : List PK} {ds : List PyData} (h : shp z = some ks) (hl : ds.length = ks.length) (hp : partsD rows ks ds = true) : rowD rows (.tuple (.str z :: ds)) = true := by
  show (match shp z with
    | some ks => decide (ds.length = ks.length) && partsD rows ks ds
    | none => false) = _
  rw [h]
  show (decide (ds.length = ks.length) && partsD rows ks ds) = true
  rw [decide_eq_true hl, hp]
  rfl
theorem p_d {rows v : Int} (h0 : 0 ≤ v) (h1 : v < 16) : partD .d rows (.int v) = true := num_of h0 (by omega)
theorem p_a {rows v : Int} (h0 : 0 ≤ v) (h1 : v < 16) : partD .a rows (.int v) = true := num_of h0 (by omega)
theorem p_n {rows v : Int} (h0 : 0 ≤ v) (h1 : v ≤ 4294967295) : partD .n rows (.int v) = true := num_of h0 h1
theorem p_b {rows v : Int} (h0 : 0 ≤ v) (h1 : v ≤ 500000) : partD .b rows (.int v) = true := num_of h0 h1
theorem p_m {rows v : Int} (h : maskD (.int v) = true) : partD .m rows (.int v) = true := h
theorem p_t {rows v : Int} (h0 : 0 ≤ v) (h1 : v < rows) : partD .t rows (.int v) = true := num_of h0 (by omega)
theorem p_sg {rows : Int} {z : Str} (h : z ∈ SGS) : partD .sg rows (.str z) = true := List.contains_iff_mem.mpr h
theorem wd_row {z : Str} {ds : List PyData} (hz : PyData.strOk z = true) (hl : ds.length ≤ 4) (hw : ∀ x ∈ ds, Wd 5 0 x) : Wd 5 1 (.tuple (.str z :: ds)) := wd_t (by simp only [List.length_cons]; omega) fun x hx => by
  rcases List.mem_cons.mp hx with rfl | hx
  · exact wd_s hz
  · exact hw x hx
theorem wd_ints4 {a b c e : Int} : ∀ x ∈ [PyData.int a, .int b, .int c, .int e], Wd 5 0 x := fun x hx => by
  simp only [List.mem_cons, List.not_mem_nil, or_false] at hx
  rcases hx with rfl | rfl | rfl | rfl <;> exact wd_i
theorem wd_ints2 {a b : Int} : ∀ x ∈ [PyData.int a, .int b], Wd 5 0 x := fun x hx => by
  simp only [List.mem_cons, List.not_mem_nil, or_false] at hx
  rcases hx with rfl | rfl <;> exact wd_i
theorem wd_ints1 {a : Int} : ∀ x ∈ [PyData.int a], Wd 5 0 x := fun x hx => by
  rw [List.mem_singleton.mp hx]
  exact wd_i
theorem sgs_ok : ∀ z ∈ SGS, PyData.strOk z = true := by decide +kernel
theorem nm_ok : PyData.strOk "const" = true ∧ PyData.strOk "op" = true ∧ PyData.strOk "select" = true ∧ PyData.strOk "load" = true ∧ PyData.strOk "store" = true ∧ PyData.strOk "out" = true ∧ PyData.strOk "jump" = true ∧ PyData.strOk "branch" = true ∧ PyData.strOk "stop" = true := by decide +kernel
def sp_law_row (K : PySem.W.Frag) : Sp := fun vs H Q _ => ∃ (d : Addr) (L : List (Addr × HO)) (many : Int), vs = [.ref d, .int many] ∧ DrL H d L ∧ 0 < many ∧ many ≤ 1000 ∧
  ∀ H' v e, Keep [d] H H' → DrL H' d L → Im H' v e → rowD many e = true → Wd 5 1 e → Q v H'
theorem sc_law_row : FnScope ["draws", "many", "pick", "base", "mask", "one", "two", "signs"] ["draws", "many"] (defScope (topS 32)) := ⟨rfl, rfl, rfl, by decide +kernel, rfl, by decide +kernel, by decide +kernel⟩
theorem ok_law_row (T : Txt fa fn K mg (CsOk cs K w)) : Dn P w K mg base CX0 4 "_law_row" ["draws", "many"] (sp_law_row K) := by
  refine mk_dn (d := dOf "_law_row" 32) T 14 14 rfl rfl rfl rfl rfl sc_law_row (by walk_at "len") (fun _ _ _ _ _ _ us hl => match us, hl with | [_, _], _ => rfl) (fun cdv A outer s H vs Q E hr h => ⟨_, (pss_cons (ps_set (i := 2) sc_law_row.nd rfl (.inl rfl) (pe_callD (K := K) rfl (ok_law_pick T) (hr.mono (by decide)) rfl pass0 (pa_cons (pv 0) (pa_cons pe_int pa_nil))))
      (pss_cons (ps_asg (pe_callD (K := K) rfl (ok_law_place T) (hr.mono (by decide)) rfl pass0 (pa_cons (pv 0) pa_nil)) (pg_tup rfl (pgs_cons (pg_name (i := 3) sc_law_row.nd rfl (.inl rfl)) (pgs_cons (pg_name (i := 4) sc_law_row.nd rfl (.inl rfl)) pgs_nil))))
      (pss_cons (ps_set (i := 5) sc_law_row.nd rfl (.inl rfl) (pe_callD (K := K) rfl (ok_law_reg T) (hr.mono (by decide)) rfl pass0 (pa_cons (pv 0) pa_nil)))
      (pss_cons (ps_set (i := 6) sc_law_row.nd rfl (.inl rfl) (pe_callD (K := K) rfl (ok_law_reg T) (hr.mono (by decide)) rfl pass0 (pa_cons (pv 0) pa_nil)))
      (pss_cons (ps_if (pt_cmpR (op_eqU (K := K) rfl hr.units) (pv 2) pe_int (nomark _)) (pss_one (ps_ret (pe_tup (pa_cons pe_str (pa_cons (pv 5) (pa_cons (pe_ixU (K := K) rfl (hu_of hr) (pe_lst (pa_cons pe_int (pa_cons pe_int (pa_cons (pe_op op_sub (pe_op o_pow pe_int pe_int) pe_int) pa_nil)))) (pe_callD (K := K) rfl (ok_law_pick T) (hr.mono (by decide)) rfl pass0 (pa_cons (pv 0) (pa_cons pe_int pa_nil)))) pa_nil)))))) pss_nil)
      (pss_cons (ps_if (pt_cmpR (op_eqU (K := K) rfl hr.units) (pv 2) pe_int (nomark _)) (pss_cons (ps_set (i := 7) sc_law_row.nd rfl (.inl rfl) (pe_lst (pa_cons pe_str (pa_cons pe_str (pa_cons pe_str (pa_cons pe_str (pa_cons pe_str (pa_cons pe_str (pa_cons pe_str (pa_cons pe_str (pa_cons pe_str (pa_cons pe_str (pa_cons pe_str (pa_cons pe_str (pa_cons pe_str pa_nil)))))))))))))))
      (pss_one (ps_ret (pe_tup (pa_cons pe_str (pa_cons (pe_ixU (K := K) rfl (hu_of hr) (pv 7) (pe_callD (K := K) rfl (ok_law_pick T) (hr.mono (by decide)) rfl pass0 (pa_cons (pv 0) (pa_cons pe_int pa_nil)))) (pa_cons (pv 5) (pa_cons (pv 6) (pa_cons (pe_callD (K := K) rfl (ok_law_reg T) (hr.mono (by decide)) rfl pass0 (pa_cons (pv 0) pa_nil)) pa_nil))))))))) pss_nil)
      (pss_cons (ps_if (pt_cmpR (op_eqU (K := K) rfl hr.units) (pv 2) pe_int (nomark _)) (pss_one (ps_ret (pe_tup (pa_cons pe_str (pa_cons (pv 5) (pa_cons (pv 6) (pa_cons (pe_callD (K := K) rfl (ok_law_reg T) (hr.mono (by decide)) rfl pass0 (pa_cons (pv 0) pa_nil)) (pa_cons (pe_callD (K := K) rfl (ok_law_reg T) (hr.mono (by decide)) rfl pass0 (pa_cons (pv 0) pa_nil)) pa_nil)))))))) pss_nil)
      (pss_cons (ps_if (pt_cmpR (op_eqU (K := K) rfl hr.units) (pv 2) pe_int (nomark _)) (pss_one (ps_ret (pe_tup (pa_cons pe_str (pa_cons (pv 5) (pa_cons (pv 6) (pa_cons (pv 3) (pa_cons (pv 4) pa_nil)))))))) pss_nil)
      (pss_cons (ps_if (pt_cmpR (op_eqU (K := K) rfl hr.units) (pv 2) pe_int (nomark _)) (pss_one (ps_ret (pe_tup (pa_cons pe_str (pa_cons (pv 5) (pa_cons (pv 3) (pa_cons (pv 4) (pa_cons (pv 6) pa_nil)))))))) pss_nil)
      (pss_one (ps_ret (pe_ixU (K := K) rfl (hu_of hr) (pe_lst (pa_cons (pe_tup (pa_cons pe_str (pa_cons (pv 5) pa_nil))) (pa_cons (pe_tup (pa_cons pe_str (pa_cons (pe_callD (K := K) rfl (ok_law_pick T) (hr.mono (by decide)) rfl pass0 (pa_cons (pv 0) (pa_cons (pv 1) pa_nil))) pa_nil))) (pa_cons (pe_tup (pa_cons pe_str (pa_cons (pv 5) (pa_cons (pe_callD (K := K) rfl (ok_law_pick T) (hr.mono (by decide)) rfl pass0 (pa_cons (pv 0) (pa_cons (pv 1) pa_nil))) pa_nil)))) (pa_cons (pe_tup (pa_cons pe_str (pa_cons (pv 5) pa_nil))) pa_nil))))) (pe_op op_sub (pv 2) pe_int))))))))))))), ?_⟩)
  obtain ⟨d, L, many, rfl, D, hm0, hm1, hQ⟩ := h
  obtain ⟨s1, s2, s3, s4, s5, s6, s7, s8, s9⟩ := shp_tab
  obtain ⟨o1, o2, o3, o4, o5, o6, o7, o8, o9⟩ := nm_ok
  walk_at "go"
  refine use_nx D (by decide) (fun H1 pick k1 D1 h10 h11 => ?_)
  walk_at "go"
  refine ⟨d, L, rfl, D1, fun H2 t b m k2 D2 ht hb0 hb1 hmk => ?_⟩
  walk_at "go"
  refine ⟨d, L, rfl, D2, fun H3 one k3 D3 h30 h31 => ?_⟩
  walk_at "go"
  refine ⟨d, L, rfl, D3, fun H4 two k4 D4 h40 h41 => ?_⟩
  have kk := ((k1.trans k2).trans k3).trans k4
  walk_at "go"
  refine g_if (fun c => ?_) (fun c => ?_)
  · walk_at "go"
    refine use_pk D4 rfl rfl (by simp) (by simp) (fun H5 v k5 D5 hv => ?_)
    obtain ⟨n, rfl, hn0, hn1⟩ : ∃ n : Int, v = .int n ∧ 0 ≤ n ∧ n ≤ 4294967295 := by
      simp only [List.mem_cons, List.not_mem_nil, or_false] at hv
      rcases hv with rfl | rfl | rfl <;> exact ⟨_, rfl, by decide, by decide⟩
    walk_at "go"
    refine m_new (.cons (.str _) (.cons (.int _) (.cons (.int _) .nil))) (by simp) (fun p H6 s6 hp im => ?_)
    exact hQ _ _ _ ((kk.trans k5).trans (Keep.of s6)) (D5.same s6) im (row_ok s1 rfl (by rw [parts2, p_d h30 h31, p_n hn0 hn1]; rfl)) (wd_row o1 (by simp) wd_ints2)
  walk_at "go"
  refine g_if (fun c => ?_) (fun c => ?_)
  · walk_at "go"
    refine ⟨by decide, fun q hq => ?_⟩
    have sq := Same.new (o := .lst [.str "+", .str "-", .str "*", .str "&", .str "|", .str "^", .str "<<", .str ">>", .str "==", .str "<", .str "<=", .str "div", .str "mod"]) hq
    have D5 := D4.same sq
    have hl : upd H4 q (.lst [.str "+", .str "-", .str "*", .str "&", .str "|", .str "^", .str "<<", .str ">>", .str "==", .str "<", .str "<=", .str "div", .str "mod"]) q = some (.lst (SGS.map V.str)) := upd_same
    walk_at "go"
    refine use_nx D5 (by decide) (fun H6 v6 k6 D6 h60 h61 => ?_)
    have hv : v6.toNat < SGS.length := by show _ < 13; omega
    walk_at "go"
    refine g_ixL (SqL.of (D5.at_ k6 hl (fun _ e => nomatch e))) (n := v6.toNat) (by omega) (by rw [List.getElem?_map, List.getElem?_eq_getElem hv]; rfl) ?_
    have hz : SGS[v6.toNat] ∈ SGS := List.getElem_mem hv
    generalize SGS[v6.toNat] = z at hz
    walk_at "go"
    refine ⟨d, L, rfl, D6, fun H7 v7 k7 D7 h70 h71 => ?_⟩
    walk_at "go"
    refine m_new (.cons (.str _) (.cons (.str _) (.cons (.int _) (.cons (.int _) (.cons (.int _) .nil))))) (by simp) (fun p H8 s8' hp im => ?_)
    refine hQ _ _ _ ((((kk.trans (Keep.of sq)).trans k6).trans k7).trans (Keep.of s8')) (D7.same s8') im (row_ok s2 rfl (by rw [parts4, p_sg hz, p_d h30 h31, p_a h40 h41, p_a h70 h71]; rfl)) (wd_row o2 (by simp) ?_)
    intro x hx
    simp only [List.mem_cons, List.not_mem_nil, or_false] at hx
    rcases hx with rfl | rfl | rfl | rfl
    · exact wd_s (sgs_ok z hz)
    · exact wd_i
    · exact wd_i
    · exact wd_i
  walk_at "go"
  refine g_if (fun c => ?_) (fun c => ?_)
  · walk_at "go"
    refine ⟨d, L, rfl, D4, fun H5 v5 k5 D5 h50 h51 => ?_⟩
    walk_at "go"
    refine ⟨d, L, rfl, D5, fun H6 v6 k6 D6 h60 h61 => ?_⟩
    walk_at "go"
    refine m_new (.cons (.str _) (.cons (.int _) (.cons (.int _) (.cons (.int _) (.cons (.int _) .nil))))) (by simp) (fun p H7 s7' hp im => ?_)
    exact hQ _ _ _ (((kk.trans k5).trans k6).trans (Keep.of s7')) (D6.same s7') im (row_ok s3 rfl (by rw [parts4, p_d h30 h31, p_a h40 h41, p_a h50 h51, p_a h60 h61]; rfl)) (wd_row o3 (by simp) wd_ints4)
  walk_at "go"
  refine g_if (fun c => ?_) (fun c => ?_)
  · walk_at "go"
    refine m_new (.cons (.str _) (.cons (.int _) (.cons (.int _) (.cons (.int _) (.cons (.int _) .nil))))) (by simp) (fun p H7 s7' hp im => ?_)
    exact hQ _ _ _ (kk.trans (Keep.of s7')) (D4.same s7') im (row_ok s4 rfl (by rw [parts4, p_d h30 h31, p_a h40 h41, p_b hb0 hb1, p_m hmk]; rfl)) (wd_row o4 (by simp) wd_ints4)
  walk_at "go"
  refine g_if (fun c => ?_) (fun c => ?_)
  · walk_at "go"
    refine m_new (.cons (.str _) (.cons (.int _) (.cons (.int _) (.cons (.int _) (.cons (.int _) .nil))))) (by simp) (fun p H7 s7' hp im => ?_)
    exact hQ _ _ _ (kk.trans (Keep.of s7')) (D4.same s7') im (row_ok s5 rfl (by rw [parts4, p_a h30 h31, p_b hb0 hb1, p_m hmk, p_a h40 h41]; rfl)) (wd_row o5 (by simp) wd_ints4)
  walk_at "go"
  refine m_new (.cons (.str _) (.cons (.int _) .nil)) (by simp) (fun p1 H5 t5 hp1 i1 => ?_)
  have D5 := D4.same t5
  walk_at "go"
  refine use_nx D5 hm0 (fun H6 v6 k6 D6 h60 h61 => ?_)
  walk_at "go"
  refine m_new (.cons (.str _) (.cons (.int _) .nil)) (by simp) (fun p2 H7 t7 hp2 i2 => ?_)
  have D7 := D6.same t7
  walk_at "go"
  refine use_nx D7 hm0 (fun H8 v8 k8 D8 h80 h81 => ?_)
  walk_at "go"
  refine m_new (.cons (.str _) (.cons (.int _) (.cons (.int _) .nil))) (by simp) (fun p3 H9 t9 hp3 i3 => ?_)
  have D9 := D8.same t9
  walk_at "go"
  refine m_new (.cons (.str _) (.cons (.int _) .nil)) (by simp) (fun p4 H10 t10 hp4 i4 => ?_)
  have D10 := D9.same t10
  walk_at "go"
  refine ⟨by show 4 ≤ sizeLine; decide, fun q hq => ?_⟩
  have sq := Same.new (o := .lst [.ref p1, .ref p2, .ref p3, .ref p4]) hq
  have D11 := D10.same sq
  have kz := ((((((kk.trans (Keep.of t5)).trans k6).trans (Keep.of t7)).trans k8).trans (Keep.of t9)).trans (Keep.of t10)).trans (Keep.of sq)
  have j1 := (((D7.im k8 ((D5.im k6 i1).same t7)).same t9).same t10).same sq
  have j2 := (((D7.im k8 i2).same t9).same t10).same sq
  have j3 := (i3.same t10).same sq
  have j4 := i4.same sq
  walk_at "go"
  have hpk : pick = 5 ∨ pick = 6 ∨ pick = 7 ∨ pick = 8 := by omega
  rcases hpk with rfl | rfl | rfl | rfl
  · refine g_ixL (SqL.of upd_same) (n := 0) rfl rfl ?_
    exact hQ _ _ _ kz D11 j1 (row_ok s6 rfl (by rw [parts1, p_a h30 h31]; rfl)) (wd_row o6 (by simp) wd_ints1)
  · refine g_ixL (SqL.of upd_same) (n := 1) rfl rfl ?_
    exact hQ _ _ _ kz D11 j2 (row_ok s7 rfl (by rw [parts1, p_t h60 h61]; rfl)) (wd_row o7 (by simp) wd_ints1)
  · refine g_ixL (SqL.of upd_same) (n := 2) rfl rfl ?_
    exact hQ _ _ _ kz D11 j3 (row_ok s8 rfl (by rw [parts2, p_a h30 h31, p_t h80 h81]; rfl)) (wd_row o8 (by simp) wd_ints2)
  · refine g_ixL (SqL.of upd_same) (n := 3) rfl rfl ?_
    exact hQ _ _ _ kz D11 j4 (row_ok s9 rfl (by rw [parts1, p_a h30 h31]; rfl)) (wd_row o9 (by simp) wd_ints1)
/-- code: regions, rows -/
theorem code_ok {rg rows : List PyData} (h1 : regD 0 rg = true) (h2 : rg.length ≤ 1000) (h3 : 1 ≤ rows.length) (h4 : ∀ r ∈ rows, rowD rows.length r = true) (h5 : endD rows = true) : codeD (.tuple [.tuple rg, .tuple rows]) = true := by
  rw [code_3]
  show ((decide (rg.length ≤ 1000) && regD 0 rg) && _) = true
  rw [decide_eq_true h2, h1, decide_eq_true h3, List.all_eq_true.mpr h4, h5]
  rfl
theorem end_snoc {rows : List PyData} {z : Str} {ds : List PyData} (h : z = "jump" ∨ z = "stop") : endD (rows ++ [.tuple (.str z :: ds)]) = true := by
  unfold endD
  rw [List.getLast?_append]
  rcases h with rfl | rfl
  · show strD ["jump", "stop"] (.str "jump") = true
    decide +kernel
  · show strD ["jump", "stop"] (.str "stop") = true
    decide +kernel
theorem lab_ok : ∀ z ∈ LAB, PyData.strOk z = true := by decide +kernel
def sp_law_code (K : PySem.W.Frag) : Sp := fun vs H Q _ => ∃ (d : Addr) (L : List (Addr × HO)), vs = [.ref d] ∧ DrL H d L ∧
  ∀ H' v rg rows, Keep [d] H H' → DrL H' d L → Im H' v (.tuple [.tuple rg, .tuple rows]) → codeD (.tuple [.tuple rg, .tuple rows]) = true → rg.length ≤ 6 → rows.length ≤ 20 → Wd 21 3 (.tuple [.tuple rg, .tuple rows]) → Q v H'
theorem sc_law_code : FnScope ["draws", "regions", "base", "k", "many", "rows", "size"] ["draws"] (defScope (topS 33)) := ⟨rfl, rfl, rfl, by decide +kernel, rfl, by decide +kernel, by decide +kernel⟩
theorem ok_law_code (T : Txt fa fn K mg (CsOk cs K w)) : Dn P w K mg base CX0 5 "_law_code" ["draws"] (sp_law_code K) := by
  refine mk_dn (d := dOf "_law_code" 33) T 15 15 rfl rfl rfl rfl rfl sc_law_code (by walk_at "len") (fun _ _ _ _ _ _ us hl => match us, hl with | [_], _ => rfl) (fun cdv A outer s H vs Q E hr h => ⟨_, (pss_cons (ps_set (i := 1) sc_law_code.nd rfl (.inl rfl) (pe_lst pa_nil))
      (pss_cons (ps_set (i := 2) sc_law_code.nd rfl (.inl rfl) pe_int)
      (pss_cons (ps_for PassesOwn.never rfl (pi_r1 rfl (T.free 30 rfl) (pa_cons (pe_callD (K := K) rfl (ok_law_pick T) (hr.mono (by decide)) rfl pass0 (pa_cons (pv 0) (pa_cons pe_int pa_nil))) pa_nil)) (pg_name (i := 3) sc_law_code.nd rfl (.inl rfl)) (pss_cons (ps_set (i := 6) sc_law_code.nd rfl (.inl rfl) (pe_ixU (K := K) rfl (hu_of hr) (pe_lst (pa_cons pe_int (pa_cons pe_int (pa_cons pe_int (pa_cons pe_int (pa_cons pe_int pa_nil)))))) (pe_callD (K := K) rfl (ok_law_pick T) (hr.mono (by decide)) rfl pass0 (pa_cons (pv 0) (pa_cons pe_int pa_nil)))))
      (pss_cons (ps_expr (pe_bm PySem.F.plainAttrs_list PySem.F.slot_list_append PySem.F.type_list_append mt_append (pv 1) (pa_cons (pe_tup (pa_cons (pv 2) (pa_cons (pv 6) (pa_cons (pe_ixU (K := K) rfl (hu_of hr) (pe_lst (pa_cons pe_str (pa_cons pe_str pa_nil))) (pe_callD (K := K) rfl (ok_law_pick T) (hr.mono (by decide)) rfl pass0 (pa_cons (pv 0) (pa_cons pe_int pa_nil)))) pa_nil)))) pa_nil)))
      (pss_one (ps_set (i := 2) sc_law_code.nd rfl (.inl rfl) (pe_op (op_addU (K := K) rfl) (pv 2) (pv 6)))))))
      (pss_cons (ps_set (i := 4) sc_law_code.nd rfl (.inr rfl) (pe_op (op_addU (K := K) rfl) pe_int (pe_callD (K := K) rfl (ok_law_pick T) (hr.mono (by decide)) rfl pass0 (pa_cons (pv 0) (pa_cons pe_int pa_nil)))))
      (pss_cons (ps_setLc (i := 5) rfl sc_law_code.nd rfl rfl (sw_true rfl rfl rfl (by decide +kernel)) (pi_r1 rfl (T.free 30 rfl) (pa_cons (pe_op op_sub (pv 4) pe_int) pa_nil)) (blkOk_by (own := [("k", 3)]) (N := ["draws", "regions", "base", "k", "many", "rows", "size"]) (sc := defScope (topS 33)) (by decide +kernel)) (fun _ _ _ _ _ => (pg_name (i := 3) sc_law_code.nd rfl (.inl rfl))) (fun _ _ _ _ _ => pts_nil) (fun _ _ _ _ _ => (pe_callD (K := K) rfl (ok_law_row T) (hr.mono (by decide)) rfl pass0 (pa_cons (pv 0) (pa_cons (pv 4) pa_nil)))))
      (pss_cons (ps_expr (pe_bm PySem.F.plainAttrs_list PySem.F.slot_list_append PySem.F.type_list_append mt_append (pv 5) (pa_cons (pe_ixU (K := K) rfl (hu_of hr) (pe_lst (pa_cons (pe_tup (pa_cons pe_str (pa_cons (pe_callD (K := K) rfl (ok_law_pick T) (hr.mono (by decide)) rfl pass0 (pa_cons (pv 0) (pa_cons (pv 4) pa_nil))) pa_nil))) (pa_cons (pe_tup (pa_cons pe_str (pa_cons (pe_callD (K := K) rfl (ok_law_reg T) (hr.mono (by decide)) rfl pass0 (pa_cons (pv 0) pa_nil)) pa_nil))) pa_nil))) (pe_callD (K := K) rfl (ok_law_pick T) (hr.mono (by decide)) rfl pass0 (pa_cons (pv 0) (pa_cons pe_int pa_nil)))) pa_nil)))
      (pss_one (ps_ret (pe_tup (pa_cons (pe_callTy (c_tuple (K := K) rfl) rfl (T.free 33 rfl) (by decide +kernel) (pa_cons (pv 1) pa_nil)) (pa_cons (pe_callTy (c_tuple (K := K) rfl) rfl (T.free 33 rfl) (by decide +kernel) (pa_cons (pv 5) pa_nil)) pa_nil))))))))))), ?_⟩)
  obtain ⟨d, L, rfl, D, hQ⟩ := h
  obtain ⟨s1, s2, s3, s4, s5, s6, s7, s8, s9⟩ := shp_tab
  obtain ⟨o1, o2, o3, o4, o5, o6, o7, o8, o9⟩ := nm_ok
  walk_at "go"
  refine ⟨by decide, fun p hp => ?_⟩
  have D1 := D.new (o := .lst []) hp
  have kp : Keep [d] H _ := Keep.new (o := .lst []) hp
  walk_at "go"
  refine use_nx D1 (by decide) (fun H2 v2 k2 D2 h20 h21 => ?_)
  have kp2 := kp.trans k2
  walk_at "go"
  refine f_range (fun i σ H' => ∃ (b : Int) (k m r s : Option V) (xs : List V) (es : List PyData), σ = [some (.ref d), some (.ref p), some (.int b), k, m, r, s] ∧ Keep [d] H H' ∧ DrL H' d (L ++ [(p, .lst xs)]) ∧ Ims H' xs es ∧ es.length = i ∧ 0 ≤ b ∧ b ≤ 4096 * i ∧ (∀ rs, regD 0 (es ++ rs) = regD b rs) ∧ ∀ e ∈ es, Wd 21 1 e)
    ⟨0, _, _, _, _, [], [], rfl, kp2, D2, .nil, rfl, by decide, by decide, fun _ => rfl, by simp⟩ ?_ ?_
  · rintro i σ H3 hi ⟨b, k, m, r, s, xs, es, rfl, k3, D3, ims, hl, hb0, hb1, a1, a2⟩
    have hxs := ims.length
    walk_at "go"
    refine use_pk D3 rfl rfl (by simp) (by simp) (fun H4 v k4 D4 hv => ?_)
    obtain ⟨size, rfl, hz0, hz1⟩ : ∃ n : Int, v = .int n ∧ 1 ≤ n ∧ n ≤ 4096 := by
      simp only [List.mem_cons, List.not_mem_nil, or_false] at hv
      rcases hv with rfl | rfl | rfl | rfl | rfl <;> exact ⟨_, rfl, by decide, by decide⟩
    have ims4 := D3.ims k4 ims
    have at4 : H4 p = some (.lst xs) := D4.get L.length get_last
    walk_at "go"
    refine use_pk D4 rfl rfl (by simp) (by simp) (fun H5 v k5 D5 hv => ?_)
    obtain ⟨z, rfl, hz⟩ : ∃ z : Str, v = .str z ∧ z ∈ LAB := by
      simp only [List.mem_cons, List.not_mem_nil, or_false] at hv
      rcases hv with rfl | rfl <;> exact ⟨_, rfl, by decide +kernel⟩
    have ims5 := D4.ims k5 ims4
    walk_at "go"
    refine m_new (.cons (.int _) (.cons (.int _) (.cons (.str _) .nil))) (by simp) (fun a H6 s6' ha im => ?_)
    have D6 := D5.same s6'
    walk_at "go"
    refine gD_append D6 L.length get_last (by omega) (fun D7 => ?_)
    rw [set_last] at D7
    have nt : NoTup H6 [p] := NoTup.one (D6.get L.length get_last) (fun _ e => nomatch e)
    walk_at "go"
    refine ⟨b + size, _, _, _, _, xs ++ [.ref a], es ++ [.tuple [.int b, .int size, .str z]], rfl, (((k3.trans k4).trans k5).trans (Keep.of s6')).mut hp, D7, ((ims5.same s6').append (Ims.one im)).keep (Keep.set (List.mem_singleton.mpr rfl)) nt, by rw [List.length_append, hl]; rfl, by omega, by omega, fun rs => ?_, all_snoc a2 (wd_t (by simp) ?_)⟩
    · have eq : ∀ i j : Int, PyData.eqv (.int i) (.int j) = (i == j) := fun i j => by unfold PyData.eqv; rfl
      have hi' : i < 7 := by omega
      rw [List.append_assoc, a1, List.singleton_append, reg_3, num_of hb0 (by omega), num_of (by omega) hz1, eq, eq, decide_eq_true (by simp), decide_eq_true (by simp; omega)]
      have e : strD LAB (.str z) = true := List.contains_iff_mem.mpr hz
      rw [e]
      rfl
    · intro x hx
      simp only [List.mem_cons, List.not_mem_nil, or_false] at hx
      rcases hx with rfl | rfl | rfl
      · exact wd_i
      · exact wd_i
      · exact wd_s (lab_ok z hz)
  · rintro σ H3 ⟨b, k, m, r, s, xs, es, rfl, k3, D3, ims, hl, hb0, hb1, a1, a2⟩
    have hxs := ims.length
    walk_at "go"
    refine use_nx D3 (by decide) (fun H4 v4 k4 D4 h40 h41 => ?_)
    have ims4 := D3.ims k4 ims
    walk_at "go"
    obtain ⟨n, hn, hn20⟩ : ∃ n : Nat, (1 + v4 - 1).toNat = n ∧ n < 20 ∧ v4 = (n : Int) := ⟨v4.toNat, by omega, by omega, by omega⟩
    obtain ⟨hn20, rfl⟩ := hn20
    rw [hn]
    refine l_drawR (P := fun _ e => rowD (1 + (n : Int)) e = true ∧ Wd 5 1 e) D4 (by omega) (fun _ => rfl) (fun i H5 R L5 hi k5 D5 hR => ?_) (fun D0 H5 us fs hD0 k5 D5 im5 hl5 hp5 => ?_)
    · walk_at "go"
      exact ⟨d, L5, _, rfl, D5, by omega, by omega, fun H6 v e k6 D6 im he hw => hR H6 v e k6 D6 im ⟨he, hw⟩⟩
    · have ims5 := D4.ims k5 ims4
      have at5 : H5 D0 = some (.lst us) := D5.get (L ++ [(p, HO.lst xs)]).length get_last
      walk_at "go"
      refine use_nx D5 (by omega) (fun H6 v6 k6 D6 h60 h61 => ?_)
      walk_at "go"
      refine m_new (.cons (.str _) (.cons (.int _) .nil)) (by simp) (fun p1 H7 t7 hp1 i1 => ?_)
      have D7 := D6.same t7
      walk_at "go"
      refine ⟨d, _, rfl, D7, fun H8 v8 k8 D8 h80 h81 => ?_⟩
      walk_at "go"
      refine m_new (.cons (.str _) (.cons (.int _) .nil)) (by simp) (fun p2 H9 t9 hp2 i2 => ?_)
      have D9 := D8.same t9
      have ims9 := (D7.ims k8 ((D5.ims k6 ims5).same t7)).same t9
      have jm9 := (D7.ims k8 ((D5.ims k6 im5).same t7)).same t9
      have j1 := (D7.im k8 i1).same t9
      walk_at "go"
      refine use_pk D9 rfl rfl (by simp) (by simp) (fun H10 v k10 D10 hv => ?_)
      have kz := (((((((k3.trans k4).trans k5).trans k6).trans (Keep.of t7)).trans k8).trans (Keep.of t9)).trans k10)
      have ims10 := D9.ims k10 ims9
      have jm10 := D9.ims k10 jm9
      obtain ⟨e, hie, hrow, hwe, hend⟩ : ∃ e, Im H10 v e ∧ rowD (1 + (n : Int)) e = true ∧ Wd 5 1 e ∧ ∀ fs, endD (fs ++ [e]) = true := by
        simp only [List.mem_cons, List.not_mem_nil, or_false] at hv
        rcases hv with rfl | rfl
        · exact ⟨_, D9.im k10 j1, row_ok s7 rfl (by rw [parts1, p_t h60 h61]; rfl), wd_row o7 (by simp) wd_ints1, fun fs => end_snoc (.inl rfl)⟩
        · exact ⟨_, D9.im k10 i2, row_ok s9 rfl (by rw [parts1, p_a h80 h81]; rfl), wd_row o9 (by simp) wd_ints1, fun fs => end_snoc (.inr rfl)⟩
      have hus := jm10.length
      walk_at "go"
      refine gD_append D10 (L ++ [(p, HO.lst xs)]).length get_last (by omega) (fun D11 => ?_)
      rw [set_last] at D11
      have nt : NoTup H10 [D0] := NoTup.one (D10.get (L ++ [(p, HO.lst xs)]).length get_last) (fun _ e => nomatch e)
      have kt : Keep [D0] H10 (upd H10 D0 (.lst (us ++ [v]))) := Keep.set (List.mem_singleton.mpr rfl)
      have ims11 := ims10.keep kt nt
      have jm11 := (jm10.append (Ims.one hie)).keep kt nt
      walk_at "go"
      refine m_tupleL (SqL.of (D11.get L.length (by simp))) ims11 (fun q1 H12 t12 hq1 i12 => ?_)
      have D12 := D11.same t12
      walk_at "go"
      refine m_tupleL (SqL.of (D12.get (L ++ [(p, HO.lst xs)]).length get_last)) (jm11.same t12) (fun q2 H13 t13 hq2 i13 => ?_)
      have D13 := D12.same t13
      walk_at "go"
      refine m_new (.cons (i12.same t13) (.cons i13 .nil)) (by simp) (fun q3 H14 t14 hq3 i14 => ?_)
      have D14 := (D13.same t14).sub (sub_last.trans sub_last)
      have hlen : (fs ++ [e]).length = n + 1 := by rw [List.length_append, hl5]; rfl
      have allr : ∀ r ∈ fs ++ [e], rowD (fs ++ [e]).length r = true ∧ Wd 5 1 r := by
        rw [hlen, show ((n + 1 : Nat) : Int) = 1 + (n : Int) by omega]
        refine all_snoc (fun r hr => ?_) ⟨hrow, hwe⟩
        obtain ⟨j, hj⟩ := List.mem_iff_getElem?.mp hr
        exact hp5 j r hj
      have v2n : es.length ≤ 6 := by omega
      refine hQ _ _ es (fs ++ [e]) ?_ D14 i14 (code_ok ?_ (by omega) (by omega) (fun r hr => (allr r hr).1) (hend fs)) v2n (by omega) (wd_t (by simp) ?_)
      · have hD0' : H D0 = none := (k3.trans k4).back hD0 (by simpa using D4.ne hD0)
        exact ((((kz.mut hD0').trans (Keep.of t12)).trans (Keep.of t13)).trans (Keep.of t14))
      · have z := a1 []
        rw [List.append_nil] at z
        rw [z]
        rfl
      · intro x hx
        simp only [List.mem_cons, List.not_mem_nil, or_false] at hx
        rcases hx with rfl | rfl
        · exact wd_t (by omega) a2
        · exact wd_t (by omega) (fun r hr => ((allr r hr).2).mono (by decide) (by decide))


/-! ### the texts of code, sign by sign -/
abbrev nI (n : Nat) : PyData := .int (n : Int)
abbrev tl := TL.tl
abbrev SS := SX.S
def wL : PyData → List Nat
  | .int i => TL.numL i.toNat
  | .str z => tl z
  | _ => []
def wsL (ws : List PyData) : List Nat := ws.flatMap fun w => 32 :: wL w
def rowL (k : Nat) (ws : List PyData) : List Nat := TL.numL k ++ 58 :: wsL ws
def regL (g : Nat × Str) : List Nat := [114, 101, 103, 105, 111, 110, 32] ++ (TL.numL g.1 ++ 32 :: tl g.2)
abbrev RwT := Str × List PyData
def wdsR (r : RwT) : List PyData := .str r.1 :: r.2
def linesL (gs : List (Nat × Str)) (rws : List RwT) : List (List Nat) := gs.map regL ++ (List.range rws.length).map fun k => rowL k (wdsR (rws.getD k ("", [])))
def textL (gs : List (Nat × Str)) (rws : List RwT) : List Nat := (linesL gs rws).flatMap fun l => l ++ [10]
/-! data -/
def regsV (b : Nat) : List (Nat × Str) → List PyData
  | [] => []
  | g :: gs => .tuple [nI b, nI g.1, .str g.2] :: regsV (b + g.1) gs
def rwV (r : RwT) : PyData := .tuple (.str r.1 :: r.2)
def cdV (gs : List (Nat × Str)) (rws : List RwT) : PyData := .tuple [.tuple (regsV 0 gs), .tuple (rws.map rwV)]
def RwOk (many : Int) (r : RwT) : Prop := ∃ ks, shp r.1 = some ks ∧ r.2.length = ks.length ∧ partsD many ks r.2 = true
structure CdOk (gs : List (Nat × Str)) (rws : List RwT) : Prop where
  gl : gs.length ≤ 6
  gn : ∀ g ∈ gs, 1 ≤ g.1 ∧ g.1 ≤ 4096
  gb : ∀ g ∈ gs, g.2 ∈ LAB
  r1 : 1 ≤ rws.length
  r2 : rws.length ≤ 20
  rw_ : ∀ r ∈ rws, RwOk rws.length r
  re : ∃ r ∈ rws.getLast?, r.1 = "jump" ∨ r.1 = "stop"
theorem tl_tos (n : Nat) : tl (toString ((n : Nat) : Int) : Str) = TL.numL n := TL.tl_num n
theorem tos_eq (n : Nat) : (toString ((n : Nat) : Int) : Str) = SS (TL.numL n) := TL.ext_tl ((TL.tl_num n).trans (TL.tl_mk _).symm)
theorem nat_of_num {lo hi : Int} {d : PyData} (h : numD lo hi d = true) (h0 : 0 ≤ lo) : ∃ n : Nat, d = nI n ∧ lo ≤ (n : Int) ∧ (n : Int) ≤ hi := by
  obtain ⟨i, rfl, a, b⟩ := num_inv h
  exact ⟨i.toNat, by show PyData.int i = .int _; rw [Int.toNat_of_nonneg (by omega)], by omega, by omega⟩
/-- what a part is: a number below 2 ** 32, or a sign -/
theorem part_kind {k : PK} {many : Int} {d : PyData} (hm : many ≤ 100000) (h : partD k many d = true) : (k = .sg ∧ ∃ z ∈ SGS, d = .str z) ∨ (k ≠ .sg ∧ ∃ n : Nat, d = nI n ∧ n < 4294967296 ∧ partD k 100000 (nI n) = true) := by
  cases k with
  | sg =>
    refine .inl ⟨rfl, ?_⟩
    cases d <;> first | (cases h; done) | exact ⟨_, List.contains_iff_mem.mp h, rfl⟩
  | d => obtain ⟨n, rfl, a, b⟩ := nat_of_num h (by decide); exact .inr ⟨by decide, n, rfl, by omega, h⟩
  | a => obtain ⟨n, rfl, a, b⟩ := nat_of_num h (by decide); exact .inr ⟨by decide, n, rfl, by omega, h⟩
  | n => obtain ⟨n, rfl, a, b⟩ := nat_of_num h (by decide); exact .inr ⟨by decide, n, rfl, by omega, h⟩
  | b => obtain ⟨n, rfl, a, b⟩ := nat_of_num h (by decide); exact .inr ⟨by decide, n, rfl, by omega, h⟩
  | t =>
    obtain ⟨n, rfl, a, b⟩ := nat_of_num h (by decide)
    have e : numD 0 (100000 - 1) (nI n) = true := num_of a (by omega)
    exact .inr ⟨by decide, n, rfl, by omega, e⟩
  | m =>
    obtain ⟨n, rfl, a, b⟩ := nat_of_num (mask_num h) (by decide)
    exact .inr ⟨by decide, n, rfl, by omega, h⟩
/-- the signs of a word: none is 32 (space), 10 (newline) -/
def Plain (l : List Nat) : Prop := (32 : Nat) ∉ l ∧ (10 : Nat) ∉ l
theorem plain_num (n : Nat) : Plain (TL.numL n) := ⟨TL.numL_free (by omega), TL.numL_free (by omega)⟩
theorem no_mem {l : List Nat} {x : Nat} (h : l.contains x = false) : x ∉ l := fun m => by
  rw [List.contains_iff_mem.mpr m] at h
  cases h
theorem sgs_plain : ∀ z ∈ SGS, Plain (tl z) := by
  have h : ∀ z ∈ SGS, (tl z).contains 32 = false ∧ (tl z).contains 10 = false := by decide +kernel
  intro z hz
  obtain ⟨a, b⟩ := h z hz
  exact ⟨no_mem a, no_mem b⟩
theorem lab_plain : ∀ z ∈ LAB, Plain (tl z) := by
  have h : ∀ z ∈ LAB, (tl z).contains 32 = false ∧ (tl z).contains 10 = false := by decide +kernel
  intro z hz
  obtain ⟨a, b⟩ := h z hz
  exact ⟨no_mem a, no_mem b⟩
theorem nm_plain : ∀ p ∈ shpL, Plain (tl p.1) ∧ (tl p.1).length ≤ 10 := by
  have h : ∀ p ∈ shpL, (tl p.1).contains 32 = false ∧ (tl p.1).contains 10 = false ∧ (tl p.1).length ≤ 10 := by decide +kernel
  intro z hz
  obtain ⟨a, b, c⟩ := h z hz
  exact ⟨⟨no_mem a, no_mem b⟩, c⟩
theorem part_plain {k : PK} {many : Int} {d : PyData} (hm : many ≤ 100000) (h : partD k many d = true) : Plain (wL d) ∧ (wL d).length ≤ 10 := by
  rcases part_kind hm h with ⟨_, z, hz, rfl⟩ | ⟨_, n, rfl, hn, _⟩
  · refine ⟨sgs_plain z hz, ?_⟩
    have h : ∀ z ∈ SGS, (tl z).length ≤ 10 := by decide +kernel
    exact h z hz
  · exact ⟨plain_num n, TL.numL_len (by decide) (by show n < 10 ^ 10; omega)⟩
theorem rw_words {many : Int} {r : RwT} (hm : many ≤ 100000) (h : RwOk many r) : (∀ w ∈ wdsR r, Plain (wL w) ∧ (wL w).length ≤ 10) ∧ (wdsR r).length ≤ 5 := by
  obtain ⟨ks, hs, hl, hp⟩ := h
  have hk : ks.length ≤ 4 := shp_len _ (shp_some hs)
  refine ⟨fun w hw => ?_, by unfold wdsR; rw [List.length_cons]; omega⟩
  rcases List.mem_cons.mp hw with rfl | hw
  · exact nm_plain _ (shp_some hs)
  · obtain ⟨i, hi, rfl⟩ := List.mem_iff_getElem.mp hw
    have hpa : partD (ks.getD i .a) many (r.2.getD i .none) = true := by
      unfold partsD at hp
      exact List.all_eq_true.mp hp _ (List.mem_map.mpr ⟨i, List.mem_range.mpr (by omega), rfl⟩)
    rw [List.getD_eq_getElem?_getD (l := r.2), List.getElem?_eq_getElem hi] at hpa
    exact part_plain hm hpa
/-! ### the lines and their words -/
theorem join_flat (s : Nat) : ∀ (ps : List (List Nat)), ps ≠ [] → ∀ p, TL.joinL [s] (p :: ps) = p ++ ps.flatMap fun q => s :: q
  | [], h, _ => absurd rfl h
  | [q], _, p => by
    show p ++ ([s] ++ q) = p ++ ([q].flatMap fun q => s :: q)
    simp
  | q :: r :: ps, _, p => by
    show p ++ ([s] ++ TL.joinL [s] (q :: r :: ps)) = _
    rw [join_flat s (r :: ps) (by simp) q]
    simp
theorem join_flat' (s : Nat) (p : List Nat) (ps : List (List Nat)) : TL.joinL [s] (p :: ps) = p ++ ps.flatMap fun q => s :: q := by
  cases ps with
  | nil => simp [TL.joinL]
  | cons q ps => exact join_flat s _ (by simp) p
/-- a text of words with a space between is split into them -/
theorem split_words {p : List Nat} {ps : List (List Nat)} (h : ∀ q ∈ p :: ps, (32 : Nat) ∉ q) : PySem.Txt.split (SS (p ++ ps.flatMap fun q => 32 :: q)) " " = (p :: ps).map SS := by
  have e : (" " : Str) = SS [32] := by decide +kernel
  rw [e, SX.split_S (by simp) (by decide), ← join_flat', SX.spl_join (sep := []) (by simp) h]
theorem flat_lines : ∀ (ls : List (List Nat)), (ls.flatMap fun l => l ++ [10]) = TL.joinL [10] (ls ++ [[]])
  | [] => rfl
  | [l] => by simp [TL.joinL]
  | l :: m :: ls => by
    show (l ++ [10]) ++ ((m :: ls).flatMap fun l => l ++ [10]) = l ++ ([10] ++ TL.joinL [10] (m :: ls ++ [[]]))
    rw [flat_lines (m :: ls), List.append_assoc]
theorem split_lines {ls : List (List Nat)} (h : ∀ l ∈ ls, (10 : Nat) ∉ l) : PySem.Txt.split (SS (ls.flatMap fun l => l ++ [10])) "\n" = (ls ++ [[]]).map SS := by
  have e : ("\n" : Str) = SS [10] := by decide +kernel
  rw [e, SX.split_S (by simp) (by decide), flat_lines, SX.spl_join (sep := []) (by simp) (fun p hp => ?_)]
  rcases List.mem_append.mp hp with hp | hp
  · exact h p hp
  · rw [List.mem_singleton.mp hp]
    simp
theorem num_head : ∀ n : Nat, 0 < n → ∃ c t, TL.numL n = c :: t ∧ c ≠ 48 := fun n => by
  induction n using Nat.strongRecOn with
  | ind n ih =>
    intro h
    by_cases hn : n < 10
    · exact ⟨48 + n, [], TL.numL_lt hn, by omega⟩
    · obtain ⟨c, t, e, hc⟩ := ih (n / 10) (by omega) (by omega)
      exact ⟨c, t ++ [48 + n % 10], by rw [TL.numL_step (by omega), e]; rfl, hc⟩


/-! ### listings written -/
/-- the str of a part -/
def pS : PyData → Str := fun d => SS (wL d)
theorem num_str {n : Nat} : (toString ((n : Nat) : Int) : Str) = pS (nI n) := tos_eq n
theorem str_str {z : Str} : pS (.str z) = z := TL.mk_tl z
theorem regsV_at : ∀ {gs : List (Nat × Str)} {b i : Nat} {g : Nat × Str}, gs[i]? = some g → ∃ c : Nat, (regsV b gs)[i]? = some (.tuple [nI c, nI g.1, .str g.2])
  | g0 :: gs, b, 0, g, h => by
    cases h
    exact ⟨b, rfl⟩
  | g0 :: gs, b, i + 1, g, h => by
    obtain ⟨c, hc⟩ := regsV_at (b := b + g0.1) (i := i) (gs := gs) (by simpa using h)
    exact ⟨c, by simpa [regsV] using hc⟩
theorem regsV_len : ∀ {gs : List (Nat × Str)} {b : Nat}, (regsV b gs).length = gs.length
  | [], _ => rfl
  | g :: gs, b => by
    show (regsV (b + g.1) gs).length + 1 = _
    rw [regsV_len]
    rfl
theorem take_snoc {α β : Type} {l : List α} {i : Nat} {x : α} {f : α → β} (h : l[i]? = some x) : (l.take (i + 1)).map f = (l.take i).map f ++ [f x] := by
  rw [List.take_add_one, h]
  simp
theorem reg_text {n : Nat} {z : Str} : ("region " : Str) ++ (toString ((n : Nat) : Int) : Str) ++ " " ++ z = SS (regL (n, z)) := by
  refine TL.ext_tl ?_
  have e1 : TL.tl ("region " : Str) = [114, 101, 103, 105, 111, 110, 32] := by decide +kernel
  have e2 : TL.tl (" " : Str) = [32] := by decide +kernel
  rw [TL.tl_append, TL.tl_append, TL.tl_append, TL.tl_num, e1, e2, TL.tl_mk]
  simp [regL]
theorem num_len {n : Nat} (h : n < 4294967296) : (toString ((n : Nat) : Int) : Str).length ≤ 10 := by
  rw [tos_eq, SX.S_len]
  exact TL.numL_len (by decide) (by show n < 10 ^ 10; omega)
theorem lab_len {z : Str} (h : z ∈ LAB) : z.length ≤ 6 := by
  have h2 : ∀ z ∈ LAB, z.length ≤ 6 := by decide +kernel
  exact h2 z h
theorem len_app (a b : Str) : (a ++ b).length = a.length + b.length := by
  have : ∀ z : Str, z.length = (TL.tl z).length := fun z => by
    show z.cps.size = z.cps.toList.length
    simp
  rw [this, this a, this b, TL.tl_append, List.length_append]
theorem ty_str {K : PySem.W.Frag} {z : Str} {H : Hp} {A : Prop} (h : A) : tyV K "str" (.str z) H ∧ A := ⟨by first | rfl | trivial | exact .str z | simp [tyV], h⟩
theorem sl_region : ("region " : Str).length = 7 := by decide +kernel
theorem sl_sp : (" " : Str).length = 1 := by decide +kernel
theorem sl_nl : ("\n" : Str).length = 1 := by decide +kernel
theorem sl_co : (": " : Str).length = 2 := by decide +kernel
theorem log_nat {n : Nat} (h : n < 4294967296) : ((n : Nat) : Int).natAbs.log2 < 1920 := by
  rw [Int.natAbs_natCast]
  by_cases h0 : n = 0
  · subst h0; decide
  · exact Nat.lt_of_lt_of_le ((Nat.log2_lt h0).mpr (show n < 2 ^ 32 by omega)) (by decide)
theorem map_take_snoc {α β : Type} {l : List α} {i : Nat} {x : α} {f : α → β} (h : l[i]? = some x) : (l.take (i + 1)).map f = (l.take i).map f ++ [f x] := take_snoc h
/-- a comprehension of texts over a tuple of data -/
theorem l_strT {K : PySem.W.Frag} {σ : L2.St} {H : Hp} {te : TE} {k : Nat} {vs : List Nat} {a : Addr} {xs : List V} {ds : List PyData} {f : PyData → Str} {Q : VK} (ha : H a = some (.tup xs)) (hs : Ims H xs ds) (hl : ds.length ≤ 1000)
    (hwp : ∀ x : V, wipe ((wipe σ vs).set k (some x)) vs = wipe σ vs)
    (step : ∀ (i : Nat) (d : PyData) (y : V) (H' : Hp) (Q' : VK), ds[i]? = some d → xs[i]? = some y → Same H H' → Im H' y d → Q' (.str (f d)) H' → te ((wipe σ vs).set k (some y)) H' Q')
    (q : ∀ D H', Same H H' → H' D = some (.lst ((ds.map f).map V.str)) → Q (.ref D) H') : LcW (gName k) tYes te vs σ Q (Itt K a) H := by
  have hlen := hs.length
  refine l_tup (xs := xs) (fun D i H' => H' D = some (.lst (((ds.take i).map f).map V.str)) ∧ Same H H') (fun D hD => ⟨upd_same, Same.new hD⟩) ?_ ?_ ?_
  · rintro D hD i H' hi ⟨hD', sm⟩
    exact SqT.of (sm _ _ ha)
  · rintro D hD i y H' hi ⟨hD', sm⟩
    obtain ⟨hlt, _⟩ := List.getElem?_eq_some_iff.mp hi
    have hd : ds[i]? = some (ds[i]'(by omega)) := List.getElem?_eq_getElem _
    generalize ds[i]'(by omega) = dv at hd
    obtain ⟨y', hy', hiy⟩ := hs.get hd
    rw [hi] at hy'
    cases hy'
    refine g_name (g_wipe (hwp _) (g_yes (g_ifT ?_)))
    refine step i dv y H' _ hd hi sm (hiy.same sm) ⟨_, hD', szl (by
      rw [List.length_map, List.length_map, List.length_take]
      omega), ?_, Same.mut sm hD⟩
    rw [upd_same, take_snoc hd, List.map_append]
    rfl
  · rintro D hD H' ⟨hD', sm⟩
    refine q D H' sm ?_
    rw [hlen, List.take_length] at hD'
    exact hD'
/-- a comprehension of texts over a list of texts -/
theorem l_strL {K : PySem.W.Frag} {σ : L2.St} {H : Hp} {te : TE} {k : Nat} {vs : List Nat} {a : Addr} {zs : List Str} {f : Str → Str} {Q : VK} (ha : H a = some (.lst (zs.map V.str))) (hl : zs.length ≤ 1000)
    (hwp : ∀ x : V, wipe ((wipe σ vs).set k (some x)) vs = wipe σ vs)
    (step : ∀ (z : Str) (H' : Hp) (Q' : VK), z ∈ zs → Same H H' → Q' (.str (f z)) H' → te ((wipe σ vs).set k (some (.str z))) H' Q')
    (q : ∀ D H', Same H H' → H' D = some (.lst ((zs.map f).map V.str)) → Q (.ref D) H') : LcW (gName k) tYes te vs σ Q (Itl K a) H := by
  refine l_list (xs := zs.map V.str) (fun D i H' => H' D = some (.lst (((zs.take i).map f).map V.str)) ∧ Same H H') (fun D hD => ⟨upd_same, Same.new hD⟩) ?_ ?_ ?_
  · rintro D hD i H' hi ⟨hD', sm⟩
    exact SqL.of (sm _ _ ha)
  · rintro D hD i y H' hi ⟨hD', sm⟩
    rw [List.getElem?_map] at hi
    obtain ⟨z, hz, rfl⟩ := Option.map_eq_some_iff.mp hi
    refine g_name (g_wipe (hwp _) (g_yes (g_ifT ?_)))
    refine step z H' _ (List.mem_of_getElem? hz) sm ⟨_, hD', szl (by
      rw [List.length_map, List.length_map, List.length_take]
      omega), ?_, Same.mut sm hD⟩
    rw [upd_same, take_snoc hz, List.map_append]
    rfl
  · rintro D hD H' ⟨hD', sm⟩
    refine q D H' sm ?_
    rw [List.length_map, List.take_length] at hD'
    exact hD'
theorem rw_kind {many : Int} {r : RwT} (hm : many ≤ 100000) (h : RwOk many r) : ∀ w ∈ wdsR r, (∃ z, w = .str z) ∨ ∃ n : Nat, w = nI n ∧ n < 4294967296 := fun w hw => by
  obtain ⟨ks, hs, hl, hp⟩ := h
  rcases List.mem_cons.mp hw with rfl | hw
  · exact .inl ⟨_, rfl⟩
  · obtain ⟨i, hi, rfl⟩ := List.mem_iff_getElem.mp hw
    have hpa : partD (ks.getD i .a) many (r.2.getD i .none) = true := by
      unfold partsD at hp
      exact List.all_eq_true.mp hp _ (List.mem_map.mpr ⟨i, List.mem_range.mpr (by omega), rfl⟩)
    rw [List.getD_eq_getElem?_getD (l := r.2), List.getElem?_eq_getElem hi] at hpa
    rcases part_kind hm hpa with ⟨_, z, hz, e⟩ | ⟨_, n, e, hn, _⟩
    · exact .inl ⟨z, e⟩
    · exact .inr ⟨n, e, hn⟩
theorem word_len {w : PyData} {n : Nat} (h : (wL w).length ≤ n) : (pS w).length ≤ n := by
  show (SS (wL w)).length ≤ n
  rw [SX.S_len]
  exact h
theorem sum_len {ws : List PyData} {n : Nat} (h : ∀ w ∈ ws, (wL w).length ≤ n) : ((ws.map pS).map (·.length)).sum ≤ n * ws.length := by
  induction ws with
  | nil => simp
  | cons w ws ih =>
    rw [List.map_cons, List.map_cons, List.sum_cons, List.length_cons, Nat.mul_add]
    have h1 := word_len (h w List.mem_cons_self)
    have h2 := ih fun x hx => h x (List.mem_cons_of_mem _ hx)
    show (pS w).length + _ ≤ _
    omega
/-- the words of a row, joined -/
theorem row_text {k : Nat} {w : PyData} {ws : List PyData} : (toString ((k : Nat) : Int) : Str) ++ ": " ++ PySem.Txt.join " " ((w :: ws).map pS) = SS (rowL k (w :: ws)) := by
  refine TL.ext_tl ?_
  have e1 : TL.tl (": " : Str) = [58, 32] := by decide +kernel
  have e2 : (" " : Str) = SS [32] := by decide +kernel
  have e3 : (w :: ws).map pS = ((w :: ws).map wL).map SS := by rw [List.map_map]; rfl
  rw [TL.tl_append, TL.tl_append, TL.tl_num, e1, e2, e3, SX.join_S, TL.tl_mk, TL.tl_mk, List.map_cons, join_flat']
  simp [rowL, wsL, List.flatMap_map]
theorem wsL_len {ws : List PyData} {n : Nat} (h : ∀ w ∈ ws, (wL w).length ≤ n) : (wsL ws).length ≤ (n + 1) * ws.length := by
  induction ws with
  | nil => simp [wsL]
  | cons w ws ih =>
    have h1 := h w List.mem_cons_self
    have h2 := ih fun x hx => h x (List.mem_cons_of_mem _ hx)
    show ((32 :: wL w) ++ wsL ws).length ≤ _
    rw [List.length_append, List.length_cons, List.length_cons, Nat.mul_add]
    omega
theorem row_len {many : Int} {r : RwT} {k : Nat} (hm : many ≤ 100000) (h : RwOk many r) (hk : k < 4294967296) : (rowL k (wdsR r)).length ≤ 66 := by
  obtain ⟨h1, h2⟩ := rw_words hm h
  have h3 := wsL_len (ws := wdsR r) (n := 10) fun w hw => (h1 w hw).2
  have h4 : (TL.numL k).length ≤ 10 := TL.numL_len (by decide) (by omega)
  show (TL.numL k ++ 58 :: wsL (wdsR r)).length ≤ 66
  rw [List.length_append, List.length_cons]
  omega
theorem reg_len {g : Nat × Str} (h1 : g.1 ≤ 4096) (h2 : g.2 ∈ LAB) : (regL g).length ≤ 66 := by
  have h4 : (TL.numL g.1).length ≤ 10 := TL.numL_len (by decide) (by omega)
  have h5 : (tl g.2).length ≤ 6 := by
    have h : ∀ z ∈ LAB, (tl z).length ≤ 6 := by decide +kernel
    exact h _ h2
  simp only [regL, List.length_append, List.length_cons, List.length_nil]
  omega
theorem lines_len {gs : List (Nat × Str)} {rws : List RwT} (ok : CdOk gs rws) : ∀ l ∈ linesL gs rws, l.length ≤ 66 := fun l hl => by
  have hr2 := ok.r2
  rcases List.mem_append.mp hl with h | h
  · obtain ⟨g, hg, rfl⟩ := List.mem_map.mp h
    exact reg_len (ok.gn g hg).2 (ok.gb g hg)
  · obtain ⟨k, hk, rfl⟩ := List.mem_map.mp h
    have hk := List.mem_range.mp hk
    have e : rws.getD k ("", []) = rws[k] := by rw [List.getD_eq_getElem?_getD, List.getElem?_eq_getElem hk]; rfl
    rw [e]
    exact row_len (by omega) (ok.rw_ _ (List.getElem_mem hk)) (by omega)
theorem nl_app (l : List Nat) : SS l ++ ("\n" : Str) = SS (l ++ [10]) := by
  have e : ("\n" : Str) = SS [10] := by decide +kernel
  rw [e, SX.S_cat]
theorem join_nil : ∀ ps : List (List Nat), TL.joinL [] ps = ps.flatten
  | [] => rfl
  | [p] => by simp [TL.joinL]
  | p :: q :: ps => by
    show p ++ ([] ++ TL.joinL [] (q :: ps)) = _
    rw [join_nil (q :: ps)]
    rfl
theorem nl_join (ls : List (List Nat)) : PySem.Txt.join "" ((ls.map SS).map fun (z : Str) => z ++ ("\n" : Str)) = SS (ls.flatMap fun l => l ++ [10]) := by
  have e : (ls.map SS).map (fun (z : Str) => z ++ ("\n" : Str)) = (ls.map fun l => l ++ [10]).map SS := by
    rw [List.map_map, List.map_map]
    exact List.map_congr_left fun l _ => nl_app l
  have e2 : ("" : Str) = SS [] := by decide +kernel
  rw [e, e2, SX.join_S, join_nil, List.flatMap_def]
theorem nl_sum {ls : List (List Nat)} (h : ∀ l ∈ ls, l.length ≤ 66) : (((ls.map SS).map fun (z : Str) => z ++ ("\n" : Str)).map (·.length)).sum ≤ 67 * ls.length := by
  induction ls with
  | nil => simp
  | cons l ls ih =>
    have h1 := h l List.mem_cons_self
    have h2 := ih fun x hx => h x (List.mem_cons_of_mem _ hx)
    rw [List.map_cons, List.map_cons, List.map_cons, List.sum_cons, List.length_cons, Nat.mul_add, len_app, SX.S_len, sl_nl]
    omega
theorem lines_n {gs : List (Nat × Str)} {rws : List RwT} : (linesL gs rws).length = gs.length + rws.length := by simp [linesL]
def sp_write_listing (K : PySem.W.Frag) : Sp := fun vs H Q _ => ∃ (x : V) (gs : List (Nat × Str)) (rws : List RwT), vs = [x] ∧ Im H x (cdV gs rws) ∧ CdOk gs rws ∧ ∀ H', Same H H' → Q (.str (SS (textL gs rws))) H'
theorem sc_write_listing : FnScope ["code", "regions", "rows", "lines", "at", "_", "label", "size", "line", "part"] ["code"] (defScope (topS 19)) := ⟨rfl, rfl, rfl, by decide +kernel, rfl, by decide +kernel, by decide +kernel⟩
theorem ok_write_listing (T : Txt fa fn K mg (CsOk cs K w)) : Dn P w K mg base CX0 1 "write_listing" ["code"] (sp_write_listing K) := by
  refine mk_dn (d := dOf "write_listing" 19) T 2 2 rfl rfl rfl rfl rfl sc_write_listing (by walk_at "len") (fun _ _ _ _ _ _ us hl => match us, hl with | [_], _ => rfl) (fun cdv A outer s H vs Q E hr h => ⟨_, (pss_cons (ps_asg (pv 0) (pg_tup rfl (pgs_cons (pg_name (i := 1) sc_write_listing.nd rfl (.inl rfl)) (pgs_cons (pg_name (i := 2) sc_write_listing.nd rfl (.inl rfl)) pgs_nil))))
      (pss_cons (ps_setLc (i := 3) rfl sc_write_listing.nd rfl rfl (sw_true rfl rfl rfl (by decide +kernel)) (pi_seq (K := K) rfl (pv 1)) (blkOk_by (own := [("_", 5), ("size", 7), ("label", 6)]) (N := ["code", "regions", "rows", "lines", "at", "_", "label", "size", "line", "part"]) (sc := defScope (topS 19)) (by decide +kernel)) (fun _ _ _ _ _ => (pg_tupU (K := K) (n := 3) rfl rfl (pgs_cons (pg_name (i := 5) sc_write_listing.nd rfl (.inl rfl) (.inr rfl)) (pgs_cons (pg_name (i := 7) sc_write_listing.nd rfl (.inl rfl) (.inr rfl)) (pgs_cons (pg_name (i := 6) sc_write_listing.nd rfl (.inl rfl) (.inr rfl)) pgs_nil))))) (fun _ _ _ _ _ => pts_nil) (fun _ _ _ _ _ => (pe_op (op_addU (K := K) rfl) (pe_op (op_addU (K := K) rfl) (pe_op (op_addU (K := K) rfl) pe_str (pe_callTy c_strU rfl (T.free 31 rfl) (by decide +kernel) (pa_cons (pv 7) pa_nil))) pe_str) (pv 6))))
      (pss_cons (ps_for PassesOwn.never rfl (pi_r1 rfl (T.free 30 rfl) (pa_cons (pe_callB (c_len (K := K) rfl) rfl (T.free 27 rfl) (by decide +kernel) (pa_cons (pv 2) pa_nil)) pa_nil)) (pg_name (i := 4) sc_write_listing.nd rfl (.inl rfl)) (pss_one (ps_expr (pe_bm PySem.F.plainAttrs_list PySem.F.slot_list_append PySem.F.type_list_append mt_append (pv 3) (pa_cons (pe_op (op_addU (K := K) rfl) (pe_op (op_addU (K := K) rfl) (pe_callTy c_strU rfl (T.free 31 rfl) (by decide +kernel) (pa_cons (pv 4) pa_nil)) pe_str) (pe_bm PySem.F.plainAttrs_str PySem.F.slot_str_join PySem.F.type_str_join (m_joinU (K := K) rfl) pe_str (pa_cons (pe_lc rfl sc_write_listing.nd (pi_seq (K := K) rfl (pe_ixU (K := K) rfl (hu_of hr) (pv 2) (pv 4))) (blkOk_by (own := [("part", 9)]) (N := ["code", "regions", "rows", "lines", "at", "_", "label", "size", "line", "part"]) (sc := defScope (topS 19)) (by decide +kernel)) (fun _ _ _ _ _ => (pg_name (i := 9) sc_write_listing.nd rfl (.inl rfl))) (fun _ _ _ _ _ => pts_nil) (fun _ _ _ _ _ => (pe_callTy c_strU rfl (T.free 31 rfl) (by decide +kernel) (pa_cons (pv 9) pa_nil)))) pa_nil))) pa_nil)))))
      (pss_one (ps_ret (pe_bm PySem.F.plainAttrs_str PySem.F.slot_str_join PySem.F.type_str_join (m_joinU (K := K) rfl) pe_str (pa_cons (pe_lc rfl sc_write_listing.nd (pi_seq (K := K) rfl (pv 3)) (blkOk_by (own := [("line", 8)]) (N := ["code", "regions", "rows", "lines", "at", "_", "label", "size", "line", "part"]) (sc := defScope (topS 19)) (by decide +kernel)) (fun _ _ _ _ _ => (pg_name (i := 8) sc_write_listing.nd rfl (.inl rfl))) (fun _ _ _ _ _ => pts_nil) (fun _ _ _ _ _ => (pe_op (op_addU (K := K) rfl) (pv 8) pe_str))) pa_nil))))))), ?_⟩)
  obtain ⟨x, gs, rws, rfl, im, ok, hQ⟩ := h
  obtain ⟨a, x1, x2, rfl, h1, i1, i2⟩ := im2 im
  obtain ⟨b1, rgv, rfl, h2, ims1⟩ := i1.tup_inv
  obtain ⟨b2, rwv, rfl, h3, ims2⟩ := i2.tup_inv
  have hgl := ok.gl
  have hrl := ok.r2
  have hlen1 : rgv.length = gs.length := by rw [ims1.length, regsV_len]
  have hlen2 : rwv.length = rws.length := by rw [ims2.length, List.length_map]
  walk_at "go"
  refine .inr ⟨_, _, rfl, SqT.of h2, ?_⟩
  refine l_tup (xs := rgv) (fun D i H' => H' D = some (.lst (((gs.take i).map fun g => SS (regL g)).map V.str)) ∧ Same H H') (fun D hD => ⟨upd_same, Same.new hD⟩) (fun D hD i H' hi h => SqT.of (h.2 _ _ h2)) ?_ ?_
  · rintro D hD i y H' hi ⟨hD', sm⟩
    obtain ⟨hlt, _⟩ := List.getElem?_eq_some_iff.mp hi
    obtain ⟨g, hg⟩ : ∃ g, gs[i]? = some g := ⟨_, List.getElem?_eq_getElem (by omega)⟩
    obtain ⟨c, hc⟩ := regsV_at (b := 0) hg
    obtain ⟨y', hy', iy⟩ := ims1.get hc
    rw [hi] at hy'
    cases hy'
    have hgm := List.mem_of_getElem? hg
    have hgn := ok.gn g hgm
    have hgb := lab_len (ok.gb g hgm)
    obtain ⟨t, y1, y2, y3, rfl, ht, j1, j2, j3⟩ := im3 (iy.same sm)
    obtain rfl := j1.int_inv
    obtain rfl := j2.int_inv
    obtain rfl := j3.str_inv
    have hnl := num_len (show g.1 < 4294967296 by omega)
    refine g_unp (SqT.of ht) rfl ?_
    walk_at "go"
    refine .inl ⟨_, rfl, log_nat (by omega), ?_⟩
    walk_at "go"
    refine g_addS (szle (by rw [sl_region]; omega)) ?_
    walk_at "go"
    refine g_addS (szle (by rw [len_app, sl_region, sl_sp]; omega)) ?_
    walk_at "go"
    refine g_addS (szle (by rw [len_app, len_app, sl_region, sl_sp]; omega)) ?_
    rw [reg_text]
    refine ⟨_, hD', szl (by rw [List.length_map, List.length_map, List.length_take]; omega), ?_, Same.mut sm hD⟩
    rw [upd_same, take_snoc hg, List.map_append]
    rfl
  · rintro D hD H1 ⟨hD1, s1⟩
    rw [hlen1, List.take_length] at hD1
    walk_at "go"
    refine g_lenT (SqT.of (s1 _ _ h3)) ?_
    rw [hlen2]
    walk_at "go"
    rw [Int.toNat_natCast]
    refine f_range (fun i σ H' => (∃ k1 k2 k3 k4 k5 k6 : Option V, σ = [some (.ref a), some (.ref b1), some (.ref b2), some (.ref D), k1, k2, k3, k4, k5, k6]) ∧ Same H H' ∧
        H' D = some (.lst ((gs.map (fun g => SS (regL g)) ++ (List.range i).map fun k => SS (rowL k (wdsR (rws.getD k ("", []))))).map V.str))) ⟨⟨_, _, _, _, _, _, rfl⟩, s1, by rw [hD1]; simp⟩ ?_ ?_
    · rintro i σ H2 hi ⟨⟨k1, k2, k3, k4, k5, k6, rfl⟩, s2, hD2⟩
      obtain ⟨r, hr'⟩ : ∃ r, rws[i]? = some r := ⟨_, List.getElem?_eq_getElem hi⟩
      obtain ⟨y, hy, iy⟩ := ims2.get (show (rws.map rwV)[i]? = some (rwV r) by rw [List.getElem?_map, hr']; rfl)
      obtain ⟨t, ws, rfl, ht, imw⟩ := (iy.same s2).tup_inv
      have rk := rw_words (by have := ok.r2; omega) (ok.rw_ r (List.mem_of_getElem? hr'))
      walk_at "go"
      rw [Int.zero_add]
      refine .inl ⟨_, rfl, log_nat (by omega), ?_⟩
      have hni := num_len (n := i) (by omega)
      walk_at "go"
      refine g_addS (szle (by rw [sl_co]; omega)) ?_
      walk_at "go"
      refine ty_str ?_
      walk_at "go"
      refine g_ixT (SqT.of (s2 _ _ h3)) (n := i) rfl hy ?_
      walk_at "go"
      refine .inr ⟨_, _, rfl, SqT.of ht, ?_⟩
      refine l_strT (f := pS) ht imw (Nat.le_trans rk.2 (by decide)) (fun _ => rfl) (fun j d y H3 Q' hd hy' s3 iy' hq => ?_) (fun D2 H3 s3 hD3 => ?_)
      · walk_at "go"
        rcases rw_kind (by omega) (ok.rw_ r (List.mem_of_getElem? hr')) d (List.mem_of_getElem? hd) with ⟨z, rfl⟩ | ⟨n, rfl, hn⟩
        · obtain rfl := iy'.str_inv
          rw [str_str] at hq
          exact .inr ⟨z, rfl, hq⟩
        · obtain rfl := iy'.int_inv
          refine .inl ⟨_, rfl, log_nat hn, ?_⟩
          rw [num_str]
          exact hq
      walk_at "go"
      have hsum := sum_len (ws := wdsR r) (n := 10) fun w hw => (rk.1 w hw).2
      refine ⟨" ", D2, (wdsR r).map pS, rfl, rfl, .inl (SqL.of hD3), by rw [List.length_map, sl_sp]; omega, ?_⟩
      walk_at "go"
      have hrw := row_text (k := i) (w := .str r.1) (ws := r.2)
      have hrl2 := row_len (k := i) (by omega) (ok.rw_ r (List.mem_of_getElem? hr')) (by omega)
      refine g_addS (szle ?_) ?_
      · rw [← len_app]
        show (_ ++ PySem.Txt.join " " ((.str r.1 :: r.2).map pS)).length ≤ _
        rw [hrw, SX.S_len]
        exact Nat.le_trans hrl2 (by decide)
      rw [show (toString ((i : Nat) : Int) : Str) ++ ": " ++ PySem.Txt.join " " ((wdsR r).map pS) = SS (rowL i (wdsR r)) from hrw]
      walk_at "go"
      refine g_append (Has.one (s3 _ _ hD2)) 0 rfl (szl (by rw [List.length_map, List.length_append, List.length_map, List.length_map, List.length_range]; omega)) (fun M1 => ?_)
      walk_at "go"
      refine ⟨⟨_, _, _, _, _, _, rfl⟩, Same.mut (s2.trans s3) hD, ?_⟩
      rw [upd_same, List.range_succ]
      have e : rws.getD i ("", []) = r := by rw [List.getD_eq_getElem?_getD, hr']; rfl
      simp only [List.map_append, List.map_cons, List.map_nil, List.append_assoc, e]
    · rintro σ H2 ⟨⟨k1, k2, k3, k4, k5, k6, rfl⟩, s2, hD2⟩
      walk_at "go"
      refine ty_str ?_
      walk_at "go"
      have eL : gs.map (fun g => SS (regL g)) ++ (List.range rws.length).map (fun k => SS (rowL k (wdsR (rws.getD k ("", []))))) = (linesL gs rws).map SS := by
        unfold linesL
        rw [List.map_append, List.map_map, List.map_map]
        rfl
      rw [eL] at hD2
      have hnl := lines_n (gs := gs) (rws := rws)
      have hll := lines_len ok
      refine l_strL (f := fun (z : Str) => z ++ ("\n" : Str)) hD2 (by rw [List.length_map]; omega) (fun _ => rfl) (fun z H3 Q' hz s3 hq => ?_) (fun D2 H3 s3 hD3 => ?_)
      · obtain ⟨l, hl, rfl⟩ := List.mem_map.mp hz
        walk_at "go"
        exact g_addS (szle (by rw [SX.S_len, sl_nl]; have := hll l hl; omega)) hq
      walk_at "go"
      refine ⟨"", D2, _, rfl, rfl, .inl (SqL.of hD3), ?_, ?_⟩
      · have hs := nl_sum hll
        rw [show ("" : Str).length = 0 from rfl, Nat.mul_zero]
        omega
      rw [nl_join]
      exact hQ _ (s2.trans s3)


/-! ### listings read -/
theorem idx_text {i : Nat} : (toString ((i : Nat) : Int) : Str) ++ ":" = SS (TL.numL i ++ [58]) := by
  have e : (":" : Str) = SS [58] := by decide +kernel
  rw [tos_eq, e, SX.S_cat]
theorem g_ixS {K : PySem.W.Frag} {H : Hp} {Q : VK} {z : Str} {i : Int} {n c : Nat} (hz : z.length ≤ sizeLine) (e : i = (n : Int)) (hc : z.cps.toList[n]? = some c) (q : Q (.str ⟨#[c]⟩) H) : rIxU K (.str z) (.int i) H Q :=
  .inr (.inr (.inl ⟨z, i, c, rfl, rfl, hz, by rw [e]; exact atI_nat hc, q⟩))
theorem g_lstS {xs : List V} {H : Hp} {Q : VK} (hl : xs.length ≤ 1000) (k : ∀ p H', Same H H' → H p = none → H' p = some (.lst xs) → Q (.ref p) H') : rLstN xs H Q := ⟨szle (Nat.le_trans hl (by decide)), fun p hp => k p _ (Same.new hp) hp upd_same⟩
theorem row_lay {many : Int} {r : RwT} (hm : many ≤ 100000) (h : RwOk many r) : Lay 1 (rwV r) := by
  obtain ⟨ks, hs, hl, hp⟩ := h
  refine Lay.tup fun w hw => ?_
  rcases List.mem_cons.mp hw with rfl | hw
  · have hn : ∀ p ∈ shpL, PyData.strOk p.1 = true := by decide +kernel
    exact Lay.str (hn _ (shp_some hs))
  · obtain ⟨i, hi, rfl⟩ := List.mem_iff_getElem.mp hw
    have hpa : partD (ks.getD i .a) many (r.2.getD i .none) = true := by
      unfold partsD at hp
      exact List.all_eq_true.mp hp _ (List.mem_map.mpr ⟨i, List.mem_range.mpr (by omega), rfl⟩)
    rw [List.getD_eq_getElem?_getD (l := r.2), List.getElem?_eq_getElem hi] at hpa
    have hpa : partD (ks.getD i .a) many r.2[i] = true := hpa
    rcases part_kind hm hpa with ⟨_, z, hz, e⟩ | ⟨_, n, e, hn, _⟩
    · rw [e]
      exact Lay.str (sgs_ok z hz)
    · rw [e]
      exact Lay.int
theorem rows_shaped {many : Int} {rws : List RwT} (hm : many ≤ 100000) (h : ∀ r ∈ rws, RwOk many r) : SeqAt.shaped (.list (rws.map rwV)) = true := shaped_of (by
    rw [PyData.canLay0]
    exact layAll_mem fun d hd => by
      obtain ⟨r, hr, rfl⟩ := List.mem_map.mp hd
      exact (row_lay hm (h r hr)).1) (by
    rw [PyData.depth]
    have : PyData.depthAll (rws.map rwV) ≤ 1 := depthAll_mem fun d hd => by
      obtain ⟨r, hr, rfl⟩ := List.mem_map.mp hd
      exact (row_lay hm (h r hr)).2
    omega)
theorem g_tupS {xs : List V} {H : Hp} {Q : VK} (hl : xs.length ≤ 1000) (k : ∀ p H', Same H H' → H' p = some (.tup xs) → Q (.ref p) H') : rTupN xs H Q := ⟨szle (Nat.le_trans hl (by decide)), fun p hp => k p _ (Same.new hp) upd_same⟩
theorem part_at {rows : Int} {ks : List PK} {ds : List PyData} {i : Nat} (h : partsD rows ks ds = true) (hi : i < ks.length) : partD (ks.getD i .a) rows (ds.getD i .none) = true := by
  unfold partsD at h
  exact List.all_eq_true.mp h _ (List.mem_map.mpr ⟨i, List.mem_range.mpr hi, rfl⟩)
theorem ims_sn {H H5 : Hp} {vs : List V} {ds : List PyData} {v : V} {d : PyData} {D : Addr} {ws : List V} {o : HO} (h : Ims H vs ds) (hv : Im H v d) (hD : H D = some (.lst ws)) : Ims (upd H D o) (vs ++ [v]) (ds ++ [d]) :=
  (h.append (Ims.one hv)).keep (Keep.set (List.mem_singleton.mpr rfl)) (NoTup.one hD (fun _ e => nomatch e))
theorem split_row {i : Nat} {ws : List PyData} (h : ∀ w ∈ ws, (32 : Nat) ∉ wL w) : PySem.Txt.split (SS (rowL i ws)) " " = SS (TL.numL i ++ [58]) :: ws.map pS := by
  have e : rowL i ws = (TL.numL i ++ [58]) ++ (ws.map wL).flatMap fun q => 32 :: q := by simp [rowL, wsL, List.flatMap_map]
  rw [e, split_words, List.map_cons, List.map_map]
  · rfl
  · intro q hq
    rcases List.mem_cons.mp hq with rfl | hq
    · intro m
      rcases List.mem_append.mp m with m | m
      · exact (plain_num i).1 m
      · simp at m
    · obtain ⟨w, hw, rfl⟩ := List.mem_map.mp hq
      exact h w hw
theorem split_reg {g : Nat × Str} (h : g.2 ∈ LAB) : PySem.Txt.split (SS (regL g)) " " = (["region", SS (TL.numL g.1), g.2] : List Str) := by
  have e : regL g = [114, 101, 103, 105, 111, 110] ++ ([TL.numL g.1, tl g.2].flatMap fun q => 32 :: q) := by simp [regL]
  have e1 : SS [114, 101, 103, 105, 111, 110] = "region" := by decide +kernel
  rw [e, split_words, List.map_cons, List.map_cons, List.map_cons, List.map_nil, e1, show SS (tl g.2) = g.2 from TL.mk_tl _]
  intro q hq
  simp only [List.mem_cons, List.not_mem_nil, or_false] at hq
  rcases hq with rfl | rfl | rfl
  · decide
  · exact (plain_num _).1
  · exact (lab_plain _ h).1
theorem rw_target {many : Int} {r : RwT} (h : RwOk many r) (hn : r.1 = "jump" ∨ r.1 = "branch") : ∃ t : Nat, (wdsR r)[(wdsR r).length - 1]? = some (nI t) ∧ (t : Int) < many := by
  obtain ⟨s1, s2, s3, s4, s5, s6, s7, s8, s9⟩ := shp_tab
  obtain ⟨z, ds⟩ := r
  obtain ⟨ks, hs, hl, hp⟩ := h
  rcases hn with e | e
  · dsimp only at e hs hl hp
    subst e
    rw [s7] at hs
    cases hs
    match ds, hl with
    | [d], _ =>
      rw [parts1, Bool.and_true] at hp
      obtain ⟨t, rfl, a, b⟩ := nat_of_num (show numD 0 (many - 1) d = true from hp) (by decide)
      exact ⟨t, rfl, by omega⟩
  · dsimp only at e hs hl hp
    subst e
    rw [s8] at hs
    cases hs
    match ds, hl with
    | [d1, d], _ =>
      rw [parts2, Bool.and_true, Bool.and_eq_true] at hp
      obtain ⟨t, rfl, a, b⟩ := nat_of_num (show numD 0 (many - 1) d = true from hp.2) (by decide)
      exact ⟨t, rfl, by omega⟩
def sp_number_of (K : PySem.W.Frag) : Sp := fun vs H Q _ => ∃ n : Nat, vs = [.str (SS (TL.numL n))] ∧ n < 4294967296 ∧ Q (.int (n : Nat)) H
theorem sc_number_of : FnScope ["word", "char"] ["word"] (defScope (topS 20)) := ⟨rfl, rfl, rfl, by decide +kernel, rfl, by decide +kernel, by decide +kernel⟩
theorem ok_number_of (T : Txt fa fn K mg (CsOk cs K w)) : Dn P w K mg base CX0 1 "number_of" ["word"] (sp_number_of K) := by
  refine mk_dn (d := dOf "number_of" 20) T 3 3 rfl rfl rfl rfl rfl sc_number_of (by walk_at "len") (fun _ _ _ _ _ _ us hl => match us, hl with | [_], _ => rfl) (fun cdv A outer s H vs Q E hr h => ⟨_, (pss_cons (ps_join (ps_if (PW.pt (pw_or (pt_cmpR (op_eqU (K := K) rfl hr.units) (pv 0) pe_str (nomark _)) (pw_or (pt_cmpR o_gt (pe_callB (c_len (K := K) rfl) rfl (T.free 27 rfl) (by decide +kernel) (pa_cons (pv 0) pa_nil)) pe_int (nomark _)) (pw_or1 (PW.pt (pw_and (pt_cmpR (op_eqU (K := K) rfl hr.units) (pe_ixU (K := K) rfl (hu_of hr) (pv 0) pe_int) pe_str (nomark _)) (pw_and1 (pt_cmpR o_gt (pe_callB (c_len (K := K) rfl) rfl (T.free 27 rfl) (by decide +kernel) (pa_cons (pv 0) pa_nil)) pe_int (nomark _))))))))) (pss_one (ps_ret (pe_un un_neg pe_int))) pss_nil))
      (pss_cons (ps_for PassesOwn.never rfl (pi_str (pv 0)) (pg_name (i := 1) sc_number_of.nd rfl (.inl rfl)) (pss_one (ps_if (pt_cmpR (op_niU (K := K) rfl (hu65 hr)) (pv 1) (pe_gstr T rfl 40 rfl rfl) (by rfl)) (pss_one (ps_ret (pe_un un_neg pe_int))) pss_nil)))
      (pss_one (ps_ret (pe_callTy call_int_str rfl (T.free 25 rfl) (by decide +kernel) (pa_cons (pv 0) pa_nil)))))), ?_⟩)
  obtain ⟨n, rfl, hn, hQ⟩ := h
  have hlen : (TL.numL n).length ≤ 10 := TL.numL_len (by decide) (by omega)
  have hne := TL.numL_ne n
  have hsz : (SS (TL.numL n)).length = (TL.numL n).length := SX.S_len _
  walk_at "go"
  refine ⟨fun σ' H7 => (∃ k : Option V, σ' = [some (.str (SS (TL.numL n))), k]) ∧ H7 = H, ?_, ?_⟩
  · walk_at "go"
    have hx : ¬ SS (TL.numL n) = "" := fun e => hne (SX.S_inj (a := TL.numL n) (b := []) e)
    rw [decide_eq_false hx, if_neg Bool.false_ne_true]
    walk_at "go"
    refine g_lenS (szle (by omega)) ?_
    rw [hsz]
    walk_at "go"
    rw [decide_eq_false (by omega : ¬ (10 : Int) < ((TL.numL n).length : Int)), if_neg Bool.false_ne_true]
    walk_at "go"
    obtain ⟨c, t, hc⟩ : ∃ c t, TL.numL n = c :: t := by
      cases e : TL.numL n with
      | nil => exact absurd e hne
      | cons c t => exact ⟨c, t, rfl⟩
    refine g_ixS (by rw [hsz]; exact szle (by omega)) (n := 0) rfl (c := c) (by show (TL.numL n)[0]? = _; rw [hc]; rfl) ?_
    walk_at "go"
    have h0 : c = 48 → (TL.numL n).length = 1 := fun e => by
      by_cases hz : n = 0
      · rw [hz, TL.numL_lt (by decide)]
        rfl
      · obtain ⟨c', t', e', hc'⟩ := num_head n (by omega)
        rw [e'] at hc
        injection hc with q1 q2
        omega
    refine g_if (fun e => ?_) (fun e => ?_)
    · have e1 : c = 48 := by
        have h1 := congrArg (fun z : Str => z.cps.toList) e
        have h2 : ("0" : Str).cps.toList = [48] := by decide +kernel
        rw [h2] at h1
        simpa using h1
      walk_at "go"
      refine g_lenS (szle (by omega)) ?_
      rw [hsz]
      walk_at "go"
      rw [decide_eq_false (by have := h0 e1; omega : ¬ (1 : Int) < ((TL.numL n).length : Int)), if_neg Bool.false_ne_true]
      walk_at "go"
      exact ⟨⟨_, rfl⟩, rfl⟩
    · walk_at "go"
      exact ⟨⟨_, rfl⟩, rfl⟩
  rintro σ' H7 ⟨⟨k, rfl⟩, rfl⟩
  walk_at "go"
  refine ⟨_, rfl, _, rfl, ?_⟩
  refine f_str (fun i σ H' => (∃ k : Option V, σ = [some (.str (SS (TL.numL n))), k]) ∧ H' = H7) ⟨⟨_, rfl⟩, rfl⟩ ?_ ?_
  · rintro i c σ H' hc ⟨⟨k, rfl⟩, rfl⟩
    have hd := TL.numL_digits n c (by
      have : (TL.numL n)[i]? = some c := by
        have h1 : (SS (TL.numL n)).cps.toList = TL.numL n := TL.tl_mk _
        rw [← h1, Array.getElem?_toList]
        exact hc
      exact List.mem_of_getElem? this)
    walk_at "go"
    refine .inr (.inr (.inl ⟨c, _, rfl, rfl, ?_⟩))
    have hm : c ∈ ("0123456789" : Str).cps.toList := by
      have : ∀ k : Fin 10, 48 + k.val ∈ ("0123456789" : Str).cps.toList := by decide +kernel
      have h2 := this ⟨c - 48, by omega⟩
      rw [show 48 + (c - 48) = c by omega] at h2
      exact h2
    rw [decide_eq_true hm]
    walk_at "go"
    exact ⟨⟨_, rfl⟩, rfl⟩
  · rintro σ H' ⟨⟨k, rfl⟩, rfl⟩
    walk_at "go"
    refine ⟨_, n, rfl, ?_, ?_, hQ⟩
    · rw [← tos_eq]
      exact TL.int_num (by omega)
    · rw [hsz]
      omega
def gV (g : Nat × Str) : PyData := .tuple [nI g.1, .str g.2]
def sp_read_region (K : PySem.W.Frag) : Sp := fun vs H Q _ => ∃ (p q : Addr) (g : Nat × Str) (gs : List (Nat × Str)) (xs : List V), vs = [.ref p, .ref q] ∧ H p = some (.lst ((["region", SS (TL.numL g.1), g.2] : List Str).map V.str)) ∧ H q = some (.lst xs) ∧ Ims H xs (gs.map gV) ∧
  gs.length ≤ 6 ∧ (∀ g ∈ gs, g.1 ≤ 4096) ∧ 1 ≤ g.1 ∧ g.1 ≤ 4096 ∧ g.2 ∈ LAB ∧ ∀ H' v, Same H H' → Im H' v (gV g) → Q v H'
theorem sc_read_region : FnScope ["words", "sizes", "base", "size", "_"] ["words", "sizes"] (defScope (topS 21)) := ⟨rfl, rfl, rfl, by decide +kernel, rfl, by decide +kernel, by decide +kernel⟩
theorem ok_read_region (T : Txt fa fn K mg (CsOk cs K w)) : Dn P w K mg base CX0 2 "read_region" ["words", "sizes"] (sp_read_region K) := by
  refine mk_dn (d := dOf "read_region" 21) T 4 4 rfl rfl rfl rfl rfl sc_read_region (by walk_at "len") (fun _ _ _ _ _ _ us hl => match us, hl with | [_, _], _ => rfl) (fun cdv A outer s H vs Q E hr h => ⟨_, (pss_cons (ps_set (i := 2) sc_read_region.nd rfl (.inl rfl) (pe_callB (c_sumK (K := K) rfl rfl) rfl (T.free 32 rfl) (by decide +kernel) (pa_cons (pe_lc rfl sc_read_region.nd (pi_seq (K := K) rfl (pv 1)) (blkOk_by (own := [("size", 3), ("_", 4)]) (N := ["words", "sizes", "base", "size", "_"]) (sc := defScope (topS 21)) (by decide +kernel)) (fun _ _ _ _ _ => (pg_tupU (K := K) (n := 2) rfl rfl (pgs_cons (pg_name (i := 3) sc_read_region.nd rfl (.inl rfl) (.inr rfl)) (pgs_cons (pg_name (i := 4) sc_read_region.nd rfl (.inl rfl) (.inr rfl)) pgs_nil)))) (fun _ _ _ _ _ => pts_nil) (fun _ _ _ _ _ => (pv 3))) pa_nil)))
      (pss_cons (ps_if (PW.pt (pw_or (pt_cmpR (op_neU (K := K) rfl hr.units) (pe_callB (c_len (K := K) rfl) rfl (T.free 27 rfl) (by decide +kernel) (pa_cons (pv 0) pa_nil)) pe_int (nomark _)) (pw_or (pt_cmpR (op_niU (K := K) rfl (hu65 hr)) (pe_ixU (K := K) rfl (hu_of hr) (pv 0) pe_int) (pe_glob (v := .ref (He.ga K "LABELS")) rfl (T.glo 42 rfl) rfl) (by rfl)) (pw_or (pt_cmpR o_ge (pe_callB (c_len (K := K) rfl) rfl (T.free 27 rfl) (by decide +kernel) (pa_cons (pv 1) pa_nil)) (pe_gint T rfl 38 rfl rfl) (nomark _)) (pw_or1 (pt_cmpR o_gt (pv 2) (pe_gint T rfl 36 rfl rfl) (nomark _))))))) (pss_one (ps_ret pe_non)) pss_nil)
      (pss_cons (ps_set (i := 3) sc_read_region.nd rfl (.inl rfl) (pe_callD (K := K) rfl (ok_number_of T) (hr.mono (by decide)) rfl pass0 (pa_cons (pe_ixU (K := K) rfl (hu_of hr) (pv 0) pe_int) pa_nil)))
      (pss_cons (ps_if (pt_not (pt_chain o_le o_le pe_int (pv 3) (pe_gint T rfl 37 rfl rfl))) (pss_one (ps_ret pe_non)) pss_nil)
      (pss_one (ps_ret (pe_tup (pa_cons (pv 3) (pa_cons (pe_ixU (K := K) rfl (hu_of hr) (pv 0) pe_int) pa_nil))))))))), ?_⟩)
  obtain ⟨p, q, g, gs, xs, rfl, hp, hq, ims, hl, hgs, hg1, hg2, hb, hQ⟩ := h
  have hxl : xs.length = gs.length := by rw [ims.length, List.length_map]
  walk_at "go"
  refine l_list (xs := xs) (fun D i H' => H' D = some (.lst (((gs.take i).map fun g => (g.1 : Int)).map V.int)) ∧ Same H H') (fun D hD => ⟨upd_same, Same.new hD⟩) (fun D hD i H' hi h => SqL.of (h.2 _ _ hq)) ?_ ?_
  · rintro D hD i y H' hi ⟨hD', sm⟩
    obtain ⟨hlt, _⟩ := List.getElem?_eq_some_iff.mp hi
    obtain ⟨g', hg'⟩ : ∃ g, gs[i]? = some g := ⟨_, List.getElem?_eq_getElem (by omega)⟩
    obtain ⟨y', hy', iy⟩ := ims.get (show (gs.map gV)[i]? = some (gV g') by rw [List.getElem?_map, hg']; rfl)
    rw [hi] at hy'
    cases hy'
    obtain ⟨t, y1, y2, rfl, ht, j1, j2⟩ := im2 (iy.same sm)
    obtain rfl := j1.int_inv
    obtain rfl := j2.str_inv
    refine g_unp (SqT.of ht) rfl ?_
    walk_at "go"
    refine ⟨_, hD', szl (by rw [List.length_map, List.length_map, List.length_take]; omega), ?_, Same.mut sm hD⟩
    rw [upd_same, take_snoc hg', List.map_append]
    rfl
  · rintro D hD H1 ⟨hD1, s1⟩
    rw [hxl, List.take_length] at hD1
    walk_at "go"
    refine g_sum (SqL.of hD1) ?_
    have hsm : (gs.map fun g => (g.1 : Int)).sum ≤ 4096 * gs.length := by
      clear hQ hD1 ims hxl hl
      induction gs with
      | nil => decide
      | cons g' gs ih =>
        have h1 := hgs g' List.mem_cons_self
        have h2 := ih fun x hx => hgs x (List.mem_cons_of_mem _ hx)
        rw [List.map_cons, List.sum_cons, List.length_cons]
        omega
    generalize (gs.map fun g => (g.1 : Int)).sum = base at hsm
    walk_at "go"
    have e3 : ((["region", SS (TL.numL g.1), g.2] : List Str).map V.str).length = 3 := rfl
    refine g_lenL (SqL.of (s1 _ _ hp)) ?_
    rw [e3]
    walk_at "go"
    refine g_ifF ?_
    walk_at "go"
    refine g_ixL (SqL.of (s1 _ _ hp)) (n := 2) rfl rfl ?_
    walk_at "go"
    refine g_niFs (fz_LABELS T _) ?_
    rw [List.contains_iff_mem.mpr hb]
    walk_at "go"
    refine g_lenL (SqL.of (s1 _ _ hq)) ?_
    walk_at "go"
    rw [decide_eq_false (by omega : ¬ (1000 : Int) ≤ (xs.length : Int)), if_neg Bool.false_ne_true]
    walk_at "go"
    rw [decide_eq_false (by omega : ¬ (500000 : Int) < base), if_neg Bool.false_ne_true]
    walk_at "go"
    refine g_ixL (SqL.of (s1 _ _ hp)) (n := 1) rfl rfl ?_
    walk_at "go"
    refine ⟨g.1, rfl, by omega, ?_⟩
    walk_at "go"
    rw [decide_eq_true (by omega : (1 : Int) ≤ (g.1 : Int))]
    walk_at "go"
    rw [decide_eq_true (by omega : (g.1 : Int) ≤ 4096)]
    walk_at "go"
    refine g_ixL (SqL.of (s1 _ _ hp)) (n := 2) rfl rfl ?_
    walk_at "go"
    refine m_new (.cons (.int _) (.cons (.str _) .nil)) (by simp) (fun p2 H2 s2 _ i2 => ?_)
    walk_at "go"
    exact hQ _ _ (s1.trans s2) i2
def sp_read_part (K : PySem.W.Frag) : Sp := fun vs H Q _ => ∃ (k : PK) (d : PyData) (many : Int), vs = [.str k.s, .str (pS d)] ∧ many ≤ 100000 ∧ partD k many d = true ∧ ∀ H' v, Same H H' → Im H' v d → Q v H'
theorem sc_read_part : FnScope ["sort", "word", "part"] ["sort", "word"] (defScope (topS 22)) := ⟨rfl, rfl, rfl, by decide +kernel, rfl, by decide +kernel, by decide +kernel⟩
theorem ok_read_part (T : Txt fa fn K mg (CsOk cs K w)) : Dn P w K mg base CX0 3 "read_part" ["sort", "word"] (sp_read_part K) := by
  refine mk_dn (d := dOf "read_part" 22) T 5 5 rfl rfl rfl rfl rfl sc_read_part (by walk_at "len") (fun _ _ _ _ _ _ us hl => match us, hl with | [_, _], _ => rfl) (fun cdv A outer s H vs Q E hr h => ⟨_, (pss_cons (ps_if (pt_cmpR (op_eqU (K := K) rfl hr.units) (pv 0) pe_str (nomark _)) (pss_one (ps_set (i := 2) sc_read_part.nd rfl (.inl rfl) (pv 1))) (pss_one (ps_set (i := 2) sc_read_part.nd rfl (.inl rfl) (pe_callD (K := K) rfl (ok_number_of T) (hr.mono (by decide)) rfl pass0 (pa_cons (pv 1) pa_nil)))))
      (pss_cons (ps_if (pt_not (pt_tru (K := K) rfl (pe_callD (K := K) rfl (ok_is_part T) (hr.mono (by decide)) rfl pass0 (pa_cons (pv 0) (pa_cons (pv 2) (pa_cons (pe_gint T rfl 39 rfl rfl) pa_nil)))))) (pss_one (ps_ret pe_non)) pss_nil)
      (pss_one (ps_ret (pv 2))))), ?_⟩)
  obtain ⟨k, d, many, rfl, hm, hp, hQ⟩ := h
  walk_at "go"
  rcases part_kind hm hp with ⟨rfl, z, hz, rfl⟩ | ⟨hk, n, rfl, hn, hpn⟩
  · rw [if_pos (by decide +kernel)]
    rw [str_str] at *
    walk_at "go"
    refine ⟨.sg, _, .str z, 100000, .str z, rfl, rfl, .str z, fun H1 s1 => ?_⟩
    rw [show partD .sg 100000 (.str z) = true from hp]
    walk_at "go"
    exact hQ _ _ s1 (.str z)
  · have hks : ¬ decide (k.s = "sign") = true := by
      cases k <;> first | exact absurd rfl hk | decide +kernel
    rw [if_neg hks]
    walk_at "go"
    refine ⟨n, rfl, hn, ?_⟩
    walk_at "go"
    refine ⟨k, _, .int n, 100000, nI n, rfl, rfl, .int n, fun H1 s1 => ?_⟩
    rw [hpn]
    walk_at "go"
    exact hQ _ _ s1 (.int n)
def sp_read_row (K : PySem.W.Frag) : Sp := fun vs H Q _ => ∃ (i : Nat) (r : RwT) (many : Int), vs = [.str (SS (rowL i (wdsR r))), .int (i : Nat)] ∧ i < 100 ∧ many ≤ 100000 ∧ RwOk many r ∧ ∀ H' v, Same H H' → Im H' v (rwV r) → Q v H'
theorem sc_read_row : FnScope ["line", "index", "words", "sorts", "found", "at", "part"] ["line", "index"] (defScope (topS 23)) := ⟨rfl, rfl, rfl, by decide +kernel, rfl, by decide +kernel, by decide +kernel⟩
theorem ok_read_row (T : Txt fa fn K mg (CsOk cs K w)) : Dn P w K mg base CX0 4 "read_row" ["line", "index"] (sp_read_row K) := by
  refine mk_dn (d := dOf "read_row" 23) T 6 6 rfl rfl rfl rfl rfl sc_read_row (by walk_at "len") (fun _ _ _ _ _ _ us hl => match us, hl with | [_, _], _ => rfl) (fun cdv A outer s H vs Q E hr h => ⟨_, (pss_cons (ps_set (i := 2) sc_read_row.nd rfl (.inl rfl) (pe_bm PySem.F.plainAttrs_str PySem.F.slot_str_split PySem.F.type_str_split mt_split (pv 0) (pa_cons pe_str pa_nil)))
      (pss_cons (ps_if (PW.pt (pw_or (pt_cmpR o_ge (pv 1) (pe_gint T rfl 39 rfl rfl) (nomark _)) (pw_or (pt_cmpR (op_neU (K := K) rfl hr.units) (pe_ixU (K := K) rfl (hu_of hr) (pv 2) pe_int) (pe_op (op_addU (K := K) rfl) (pe_callTy c_strU rfl (T.free 31 rfl) (by decide +kernel) (pa_cons (pv 1) pa_nil)) pe_str) (nomark _)) (pw_or (pt_cmpR o_lt (pe_callB (c_len (K := K) rfl) rfl (T.free 27 rfl) (by decide +kernel) (pa_cons (pv 2) pa_nil)) pe_int (nomark _)) (pw_or1 (pt_cmpR (op_niG (K := K) rfl rfl T.m in_PARTS) (pe_ixU (K := K) rfl (hu_of hr) (pv 2) pe_int) (pe_glob (v := .ref (He.ga K "PARTS")) rfl (T.glo 43 rfl) rfl) (by rfl))))))) (pss_one (ps_ret pe_non)) pss_nil)
      (pss_cons (ps_set (i := 3) sc_read_row.nd rfl (.inl rfl) (pe_ixG (K := K) rfl rfl T.m in_PARTS (pe_glob (v := .ref (He.ga K "PARTS")) rfl (T.glo 43 rfl) rfl) (pe_ixU (K := K) rfl (hu_of hr) (pv 2) pe_int)))
      (pss_cons (ps_if (pt_cmpR (op_neU (K := K) rfl hr.units) (pe_callB (c_len (K := K) rfl) rfl (T.free 27 rfl) (by decide +kernel) (pa_cons (pv 2) pa_nil)) (pe_op (op_addU (K := K) rfl) (pe_callB (c_len (K := K) rfl) rfl (T.free 27 rfl) (by decide +kernel) (pa_cons (pv 3) pa_nil)) pe_int) (nomark _)) (pss_one (ps_ret pe_non)) pss_nil)
      (pss_cons (ps_set (i := 4) sc_read_row.nd rfl (.inl rfl) (pe_lst (pa_cons (pe_ixU (K := K) rfl (hu_of hr) (pv 2) pe_int) pa_nil)))
      (pss_cons (ps_for PassesOwn.never rfl (pi_r1 rfl (T.free 30 rfl) (pa_cons (pe_callB (c_len (K := K) rfl) rfl (T.free 27 rfl) (by decide +kernel) (pa_cons (pv 3) pa_nil)) pa_nil)) (pg_name (i := 5) sc_read_row.nd rfl (.inl rfl)) (pss_cons (ps_set (i := 6) sc_read_row.nd rfl (.inl rfl) (pe_callD (K := K) rfl (ok_read_part T) (hr.mono (by decide)) rfl pass0 (pa_cons (pe_ixU (K := K) rfl (hu_of hr) (pv 3) (pv 5)) (pa_cons (pe_ixU (K := K) rfl (hu_of hr) (pv 2) (pe_op (op_addU (K := K) rfl) (pv 5) pe_int)) pa_nil))))
      (pss_cons (ps_if (pt_cmpR o_isN (pv 6) pe_non (nomark _)) (pss_one (ps_ret pe_non)) pss_nil)
      (pss_one (ps_expr (pe_bm PySem.F.plainAttrs_list PySem.F.slot_list_append PySem.F.type_list_append mt_append (pv 4) (pa_cons (pv 6) pa_nil)))))))
      (pss_one (ps_ret (pe_callTy (c_tuple (K := K) rfl) rfl (T.free 33 rfl) (by decide +kernel) (pa_cons (pv 4) pa_nil)))))))))), ?_⟩)
  obtain ⟨i, r, many, rfl, hi, hm, ok, hQ⟩ := h
  have rk := rw_words hm ok
  have hrl := row_len (k := i) hm ok (by omega)
  walk_at "go"
  refine ty_str ?_
  walk_at "go"
  refine ⟨_, _, rfl, rfl, by decide +kernel, by rw [SX.S_len]; exact Nat.le_trans (Nat.add_le_add_right hrl 2) (by decide), ?_⟩
  have es := split_row (i := i) (ws := wdsR r) fun w hw => (rk.1 w hw).1.1
  rw [es]
  intro pw hpw
  have s1 := Same.new (o := .lst ((SS (TL.numL i ++ [58]) :: (wdsR r).map pS).map V.str)) hpw
  have w1 : upd H pw (.lst ((SS (TL.numL i ++ [58]) :: (wdsR r).map pS).map V.str)) pw = some (.lst ((SS (TL.numL i ++ [58]) :: (wdsR r).map pS).map V.str)) := upd_same
  generalize upd H pw (.lst ((SS (TL.numL i ++ [58]) :: (wdsR r).map pS).map V.str)) = H1 at s1 w1
  walk_at "go"
  rw [decide_eq_false (by omega : ¬ (100000 : Int) ≤ (i : Int)), if_neg Bool.false_ne_true]
  walk_at "go"
  refine g_ixL (SqL.of w1) (n := 0) rfl rfl ?_
  walk_at "go"
  refine .inl ⟨_, rfl, log_nat (by omega), ?_⟩
  walk_at "go"
  refine g_addS (szle ?_) ?_
  · have := num_len (n := i) (by omega)
    rw [show (":" : Str).length = 1 by decide +kernel]
    omega
  rw [show (toString ((i : Nat) : Int) : Str) ++ ":" = SS (TL.numL i ++ [58]) from idx_text]
  walk_at "go"
  obtain ⟨ks, hs, hl, hp⟩ := ok
  obtain ⟨u, b, h1, h2, h3⟩ := shp_at T hs
  have klen : ks.length ≤ 4 := shp_len _ (shp_some hs)
  have ewl : (((SS (TL.numL i ++ [58]) :: (wdsR r).map pS).map V.str)).length = r.2.length + 2 := by simp [wdsR]
  have ewl' : (SS (TL.numL i ++ [58]) :: (wdsR r).map pS).length = r.2.length + 2 := by simp [wdsR]
  rw [ewl', decide_eq_false (by omega), if_neg Bool.false_ne_true]
  walk_at "go"
  refine g_ixL (SqL.of w1) (n := 1) rfl (v := .str r.1) (by show some (V.str (pS (.str r.1))) = _; rw [str_str]) ?_
  walk_at "go"
  refine ⟨r.1, some u, rfl, rfl, h1, ?_⟩
  walk_at "go"
  refine g_ifF ?_
  walk_at "go"
  refine g_ixL (SqL.of w1) (n := 1) rfl (v := .str r.1) (by show some (V.str (pS (.str r.1))) = _; rw [str_str]) ?_
  walk_at "go"
  refine ⟨r.1, u, .ref b, rfl, rfl, h1, h2, ?_⟩
  walk_at "go"
  rw [ewl']
  refine g_lenT (h3 _) ?_
  rw [List.length_map, List.length_map]
  walk_at "go"
  rw [decide_eq_true (by omega : ((r.2.length + 2 : Nat) : Int) = (ks.length : Int) + 2)]
  walk_at "go"
  refine g_ixL (SqL.of w1) (n := 1) rfl (v := .str r.1) (by show some (V.str (pS (.str r.1))) = _; rw [str_str]) ?_
  walk_at "go"
  refine g_lstS (by simp) (fun D H2 s2 hD e2 => ?_)
  walk_at "go"
  refine g_lenT (h3 _) ?_
  rw [List.length_map, List.length_map]
  walk_at "go"
  rw [Int.toNat_natCast]
  refine f_range (fun j σ H' => ∃ (k1 k2 : Option V) (vs : List V), σ = [some (.str (SS (rowL i (wdsR r)))), some (.int (i : Nat)), some (.ref pw), some (.ref b), some (.ref D), k1, k2] ∧ Same H1 H' ∧ H' D = some (.lst (.str r.1 :: vs)) ∧ Ims H' vs (r.2.take j)) ⟨_, _, [], rfl, s2, e2, by rw [List.take_zero]; exact .nil⟩ ?_ ?_
  · rintro j σ H3 hj ⟨k1, k2, vs, rfl, s3, eD, ims⟩
    have g1 : ks[j]? = some (ks.getD j .a) := by rw [List.getD_eq_getElem?_getD, List.getElem?_eq_getElem hj]; rfl
    have g2 : r.2[j]? = some (r.2.getD j .none) := by rw [List.getD_eq_getElem?_getD, List.getElem?_eq_getElem (by omega)]; rfl
    have hpa : partD (ks.getD j .a) many (r.2.getD j .none) = true := part_at hp hj
    have hvl := ims.length
    rw [List.length_take] at hvl
    have e0 : (0 : Int) + (j : Int) = (j : Int) := by omega
    walk_at "go"
    rw [e0]
    refine g_ixT (h3 _) (n := j) rfl (v := .str (ks.getD j .a).s) (by rw [List.getElem?_map, List.getElem?_map, g1]; rfl) ?_
    walk_at "go"
    refine g_ixL (SqL.of (s3 _ _ w1)) (n := j + 2) (by omega) (v := .str (pS (r.2.getD j .none))) (by
      rw [List.getElem?_map, List.getElem?_cons_succ, List.getElem?_map]
      show (((PyData.str r.1 :: r.2)[j + 1]?).map pS).map V.str = _
      rw [List.getElem?_cons_succ, g2]
      rfl) ?_
    walk_at "go"
    refine ⟨_, r.2.getD j .none, many, rfl, hm, hpa, fun H4 v s4 iv => ?_⟩
    have eD4 := s4 _ _ eD
    have fin : ∀ H5, H5 = upd H4 D (.lst (.str r.1 :: vs ++ [v])) → Same H1 H5 ∧ H5 D = some (.lst (.str r.1 :: (vs ++ [v]))) ∧ Ims H5 (vs ++ [v]) (r.2.take (j + 1)) := by
      rintro H5 rfl
      refine ⟨Same.mut (s3.trans s4) hD, upd_same, ?_⟩
      rw [List.take_add_one, g2]
      exact ims_sn (H5 := H4) (ims.same s4) iv (s4 _ _ eD)
    rcases part_kind hm hpa with ⟨_, z, hz, e⟩ | ⟨_, n, e, hn, _⟩
    · rw [e] at iv
      obtain rfl := iv.str_inv
      walk_at "go"
      refine g_append (Has.one (s4 _ _ eD)) 0 rfl (szl (by rw [List.length_cons]; omega)) (fun M1 => ?_)
      obtain ⟨f1, f2, f3⟩ := fin _ rfl
      walk_at "go"
      exact ⟨_, _, _, rfl, f1, f2, f3⟩
    · rw [e] at iv
      obtain rfl := iv.int_inv
      walk_at "go"
      refine g_append (Has.one (s4 _ _ eD)) 0 rfl (szl (by rw [List.length_cons]; omega)) (fun M1 => ?_)
      obtain ⟨f1, f2, f3⟩ := fin _ rfl
      walk_at "go"
      exact ⟨_, _, _, rfl, f1, f2, f3⟩
  · rintro σ H3 ⟨k1, k2, vs, rfl, s3, eD, ims⟩
    rw [List.take_of_length_le (by omega)] at ims
    walk_at "go"
    refine m_tupleL (SqL.of eD) (.cons (.str r.1) ims) (fun t H4 s4 _ im => ?_)
    exact hQ _ _ ((s1.trans s3).trans s4) im
def sp_may_end (K : PySem.W.Frag) : Sp := fun vs H Q _ => ∃ (p : Addr) (xs : List V) (gs : List (Nat × Str)) (rws : List RwT), vs = [.ref p] ∧ H p = some (.lst xs) ∧ Ims H xs (rws.map rwV) ∧ CdOk gs rws ∧ ∀ H', Same H H' → Q (.bl true) H'
theorem sc_may_end : FnScope ["rows", "row"] ["rows"] (defScope (topS 24)) := ⟨rfl, rfl, rfl, by decide +kernel, rfl, by decide +kernel, by decide +kernel⟩
theorem ok_may_end (T : Txt fa fn K mg (CsOk cs K w)) : Dn P w K mg base CX0 1 "may_end" ["rows"] (sp_may_end K) := by
  refine mk_dn (d := dOf "may_end" 24) T 7 7 rfl rfl rfl rfl rfl sc_may_end (by walk_at "len") (fun _ _ _ _ _ _ us hl => match us, hl with | [_], _ => rfl) (fun cdv A outer s H vs Q E hr h => ⟨_, (pss_cons (ps_if (PW.pt (pw_or (pt_cmpR (op_eqU (K := K) rfl hr.units) (pv 0) (pe_lst pa_nil) (nomark _)) (pw_or1 (pt_cmpR (op_niU (K := K) rfl (hu65 hr)) (pe_ixU (K := K) rfl (hu_of hr) (pe_ixU (K := K) rfl (hu_of hr) (pv 0) (pe_un un_neg pe_int)) pe_int) (pe_tup (pa_cons pe_str (pa_cons pe_str pa_nil))) (by rfl))))) (pss_one (ps_ret pe_bl)) pss_nil)
      (pss_one (ps_ret (pe_callB (c_all (K := K) rfl rfl) rfl (T.free 23 rfl) (by decide +kernel) (pa_cons (pe_lc rfl sc_may_end.nd (pi_seq (K := K) rfl (pv 0)) (blkOk_by (own := [("row", 1)]) (N := ["rows", "row"]) (sc := defScope (topS 24)) (by decide +kernel)) (fun _ _ _ _ _ => (pg_name (i := 1) sc_may_end.nd rfl (.inl rfl))) (fun _ _ _ _ _ => (pts_one (pt_cmpR (op_inU (K := K) rfl (hu65 hr)) (pe_ixU (K := K) rfl (hu_of hr) (pv 1) pe_int) (pe_tup (pa_cons pe_str (pa_cons pe_str pa_nil))) (by rfl)))) (fun _ _ _ _ _ => (pe_cmpR o_lt (pe_ixU (K := K) rfl (hu_of hr) (pv 1) (pe_un un_neg pe_int)) (pe_callB (c_len (K := K) rfl) rfl (T.free 27 rfl) (by decide +kernel) (pa_cons (pv 0) pa_nil)) (nomark _)))) pa_nil))))), ?_⟩)
  obtain ⟨p, xs, gs, rws, rfl, hp, ims, ok, hQ⟩ := h
  have hr1 := ok.r1
  have hr2 := ok.r2
  have hxl : xs.length = rws.length := by rw [ims.length, List.length_map]
  walk_at "go"
  refine g_lstS (by simp) (fun p2 H1 s1 _ e1 => ?_)
  have hdp : DpAll K H1 xs (rws.map rwV) := (ims.same s1).dp
  refine g_eqD (.lst (SqL.of (s1 _ _ hp)) hdp) (.lst (SqL.of e1) .nil) ?_ ?_ ?_
  · exact rows_shaped (many := rws.length) (by omega) ok.rw_
  · decide +kernel
  rw [eqv_lnil]
  have hemp : (rws.map rwV).isEmpty = false := by
    cases rws with
    | nil => exact absurd hr1 (by decide)
    | cons r rws => rfl
  rw [hemp]
  walk_at "go"
  obtain ⟨r, hrl, hrn⟩ := ok.re
  have hrl : rws[rws.length - 1]? = some r := by rw [← List.getLast?_eq_getElem?]; exact hrl
  obtain ⟨y, hy, iy⟩ := ims.get (show (rws.map rwV)[rws.length - 1]? = some (rwV r) by rw [List.getElem?_map, hrl]; rfl)
  refine g_ixL' (SqL.of (s1 _ _ hp)) (v := y) ?_ ?_
  · show (ixN _ (-1)).bind _ = _
    unfold ixN
    rw [if_neg (by decide), if_pos (by omega)]
    have e : ((-1 : Int) + (xs.length : Int)).toNat = rws.length - 1 := by omega
    show xs[((-1 : Int) + (xs.length : Int)).toNat]? = _
    rw [e]
    exact hy
  walk_at "go"
  refine m_ix (iy.same s1) (n := 0) rfl rfl (fun v hv => ?_)
  obtain rfl := hv.str_inv
  walk_at "go"
  refine g_tupS (by simp) (fun p3 H2 s2 e2 => ?_)
  have s12 := s1.trans s2
  refine g_niTs (ks := ["jump", "stop"]) (.inl e2) ?_
  have hc : (["jump", "stop"] : List Str).contains r.1 = true := by
    rcases hrn with e | e <;> rw [e] <;> decide +kernel
  rw [hc]
  walk_at "go"
  have hp2 := s12 _ _ hp
  refine .inl ⟨_, _, rfl, SqL.of hp2, ?_⟩
  refine l_list (xs := xs) (fun D i H' => (∃ n : Nat, n ≤ i ∧ H' D = some (.lst ((List.replicate n true).map V.bl))) ∧ Same H2 H') (fun D hD => ⟨⟨0, Nat.le_refl _, upd_same⟩, Same.new hD⟩) (fun D hD i H' hi h => SqL.of (h.2 _ _ hp2)) ?_ ?_
  · rintro D hD i y' H' hi ⟨⟨n, hn, hD'⟩, sm⟩
    obtain ⟨hlt, _⟩ := List.getElem?_eq_some_iff.mp hi
    obtain ⟨r2, hr2'⟩ : ∃ g, rws[i]? = some g := ⟨_, List.getElem?_eq_getElem (by omega)⟩
    obtain ⟨y2, hy2, iy2⟩ := ims.get (show (rws.map rwV)[i]? = some (rwV r2) by rw [List.getElem?_map, hr2']; rfl)
    rw [hi] at hy2
    cases hy2
    have iy3 := iy2.same (s12.trans sm)
    refine g_name (g_wipe rfl ?_)
    walk_at "go"
    refine m_ix iy3 (n := 0) rfl rfl (fun v hv => ?_)
    obtain rfl := hv.str_inv
    walk_at "go"
    refine g_tupS (by simp) (fun p4 H4 s4 e4 => ?_)
    refine g_inTs (ks := ["jump", "branch"]) (.inl e4) ?_
    refine ⟨_, rfl, ?_⟩
    refine g_ifB (fun c => ?_) (fun c => ?_)
    · obtain ⟨t, h1, h2⟩ := rw_target (ok.rw_ r2 (List.mem_of_getElem? hr2')) (by
        simp only [List.contains_cons, List.contains_nil, Bool.or_false, Bool.or_eq_true, beq_iff_eq] at c
        exact c)
      walk_at "go"
      refine m_last (iy3.same s4) (by simp) h1 (fun v hv => ?_)
      obtain rfl := hv.int_inv
      have hp4 := s4 _ _ (sm _ _ hp2)
      walk_at "go"
      rw [decide_eq_true (by omega : (t : Int) < (xs.length : Int))]
      refine ⟨_, s4 _ _ hD', szl (by rw [List.length_map, List.length_replicate]; omega), ⟨n + 1, by omega, ?_⟩, Same.mut (sm.trans s4) hD⟩
      rw [upd_same, List.replicate_succ', List.map_append]
      rfl
    · exact ⟨⟨n, by omega, s4 _ _ hD'⟩, sm.trans s4⟩
  · rintro D hD H' ⟨⟨n, hn, hD'⟩, sm⟩
    walk_at "go"
    refine g_all (SqL.of hD') ?_
    have e : (List.replicate n true).all id = true := by simp
    rw [e]
    exact hQ _ (s12.trans sm)
theorem text_len {ls : List (List Nat)} (h : ∀ l ∈ ls, l.length ≤ 66) : (ls.flatMap fun l => l ++ [10]).length ≤ 67 * ls.length := by
  induction ls with
  | nil => simp
  | cons l ls ih =>
    have h1 := h l List.mem_cons_self
    have h2 := ih fun x hx => h x (List.mem_cons_of_mem _ hx)
    rw [List.flatMap_cons, List.length_append, List.length_append, List.length_cons, List.length_cons, Nat.mul_add]
    simp only [List.length_nil]
    omega
theorem lines_nl {gs : List (Nat × Str)} {rws : List RwT} (ok : CdOk gs rws) : ∀ l ∈ linesL gs rws, (10 : Nat) ∉ l := fun l hl => by
  have hr2 := ok.r2
  rcases List.mem_append.mp hl with h | h
  · obtain ⟨g, hg, rfl⟩ := List.mem_map.mp h
    have h1 := (plain_num g.1).2
    have h2 := (lab_plain _ (ok.gb g hg)).2
    simp only [regL, List.mem_append, List.mem_cons, List.not_mem_nil, or_false, not_or]
    exact ⟨by decide, h1, by decide, h2⟩
  · obtain ⟨k, hk, rfl⟩ := List.mem_map.mp h
    have hk := List.mem_range.mp hk
    have e : rws.getD k ("", []) = rws[k] := by rw [List.getD_eq_getElem?_getD, List.getElem?_eq_getElem hk]; rfl
    rw [e]
    have rk := rw_words (by omega) (ok.rw_ _ (List.getElem_mem hk))
    intro m
    rcases List.mem_append.mp m with m | m
    · exact (plain_num k).2 m
    · rcases List.mem_cons.mp m with m | m
      · cases m
      · obtain ⟨w, hw, m⟩ := List.mem_flatMap.mp m
        rcases List.mem_cons.mp m with m | m
        · cases m
        · exact (rk.1 w hw).1.2 m


def sumN (gs : List (Nat × Str)) : Nat := (gs.map (·.1)).sum
theorem regsV_snoc : ∀ {gs : List (Nat × Str)} {b : Nat} {g : Nat × Str}, regsV b (gs ++ [g]) = regsV b gs ++ [.tuple [nI (b + sumN gs), nI g.1, .str g.2]]
  | [], b, g => by simp [regsV, sumN]
  | g0 :: gs, b, g => by
    show PyData.tuple _ :: regsV (b + g0.1) (gs ++ [g]) = _
    rw [regsV_snoc]
    simp [regsV, sumN, Nat.add_assoc]
theorem not_region (j : Nat) : ¬ SS (TL.numL j ++ [58]) = "region" := fun e => by
  have h1 : ("region" : Str) = SS [114, 101, 103, 105, 111, 110] := by decide +kernel
  rw [h1] at e
  have h2 := SX.S_inj e
  have h3 : (58 : Nat) ∈ [114, 101, 103, 105, 111, 110] := by
    rw [← h2]
    simp
  revert h3
  decide
def sp_read_listing (K : PySem.W.Frag) : Sp := fun vs H Q _ => ∃ (gs : List (Nat × Str)) (rws : List RwT), vs = [.str (SS (textL gs rws))] ∧ CdOk gs rws ∧ ∀ H' v, Same H H' → Im H' v (cdV gs rws) → Q v H'
theorem sc_read_listing : FnScope ["text", "lines", "sizes", "rows", "at", "regions", "base", "size", "label", "words", "found"] ["text"] (defScope (topS 25)) := ⟨rfl, rfl, rfl, by decide +kernel, rfl, by decide +kernel, by decide +kernel⟩
theorem ok_read_listing (T : Txt fa fn K mg (CsOk cs K w)) : Dn P w K mg base CX0 5 "read_listing" ["text"] (sp_read_listing K) := by
  refine mk_dn (d := dOf "read_listing" 25) T 8 8 rfl rfl rfl rfl rfl sc_read_listing (by walk_at "len") (fun _ _ _ _ _ _ us hl => match us, hl with | [_], _ => rfl) (fun cdv A outer s H vs Q E hr h => ⟨_, (pss_cons (ps_set (i := 1) sc_read_listing.nd rfl (.inl rfl) (pe_bm PySem.F.plainAttrs_str PySem.F.slot_str_split PySem.F.type_str_split mt_split (pv 0) (pa_cons pe_str pa_nil)))
      (pss_cons (ps_set (i := 2) sc_read_listing.nd rfl (.inl rfl) (pe_lst pa_nil))
      (pss_cons (ps_set (i := 3) sc_read_listing.nd rfl (.inl rfl) (pe_lst pa_nil))
      (pss_cons (ps_for PassesOwn.never rfl (pi_r1 rfl (T.free 30 rfl) (pa_cons (pe_op op_sub (pe_callB (c_len (K := K) rfl) rfl (T.free 27 rfl) (by decide +kernel) (pa_cons (pv 1) pa_nil)) pe_int) pa_nil)) (pg_name (i := 4) sc_read_listing.nd rfl (.inl rfl)) (pss_cons (ps_set (i := 9) sc_read_listing.nd rfl (.inl rfl) (pe_bm PySem.F.plainAttrs_str PySem.F.slot_str_split PySem.F.type_str_split mt_split (pe_ixU (K := K) rfl (hu_of hr) (pv 1) (pv 4)) (pa_cons pe_str pa_nil)))
      (pss_cons (ps_if (PW.pt (pw_and (pt_cmpR (op_eqU (K := K) rfl hr.units) (pv 3) (pe_lst pa_nil) (nomark _)) (pw_and1 (pt_cmpR (op_eqU (K := K) rfl hr.units) (pe_ixU (K := K) rfl (hu_of hr) (pv 9) pe_int) pe_str (nomark _))))) (pss_cons (ps_set (i := 10) sc_read_listing.nd rfl (.inl rfl) (pe_callD (K := K) rfl (ok_read_region T) (hr.mono (by decide)) rfl pass0 (pa_cons (pv 9) (pa_cons (pv 2) pa_nil))))
      (pss_one (ps_expr (pe_bm PySem.F.plainAttrs_list PySem.F.slot_list_append PySem.F.type_list_append mt_append (pv 2) (pa_cons (pv 10) pa_nil))))) (pss_cons (ps_set (i := 10) sc_read_listing.nd rfl (.inl rfl) (pe_callD (K := K) rfl (ok_read_row T) (hr.mono (by decide)) rfl pass0 (pa_cons (pe_ixU (K := K) rfl (hu_of hr) (pv 1) (pv 4)) (pa_cons (pe_callB (c_len (K := K) rfl) rfl (T.free 27 rfl) (by decide +kernel) (pa_cons (pv 3) pa_nil)) pa_nil))))
      (pss_one (ps_expr (pe_bm PySem.F.plainAttrs_list PySem.F.slot_list_append PySem.F.type_list_append mt_append (pv 3) (pa_cons (pv 10) pa_nil))))))
      (pss_one (ps_if (pt_cmpR o_isN (pv 10) pe_non (nomark _)) (pss_one ps_dead) pss_nil)))))
      (pss_cons (ps_if (PW.pt (pw_or (pt_cmpR (op_neU (K := K) rfl hr.units) (pe_ixU (K := K) rfl (hu_of hr) (pv 1) (pe_un un_neg pe_int)) pe_str (nomark _)) (pw_or1 (pt_not (pt_tru (K := K) rfl (pe_callD (K := K) rfl (ok_may_end T) (hr.mono (by decide)) rfl pass0 (pa_cons (pv 3) pa_nil))))))) (pss_one ps_dead) pss_nil)
      (pss_cons (ps_set (i := 5) sc_read_listing.nd rfl (.inl rfl) (pe_lst pa_nil))
      (pss_cons (ps_set (i := 6) sc_read_listing.nd rfl (.inl rfl) pe_int)
      (pss_cons (ps_for PassesOwn.never rfl (pi_seq (K := K) rfl (pv 2)) (pg_tup rfl (pgs_cons (pg_name (i := 7) sc_read_listing.nd rfl (.inl rfl)) (pgs_cons (pg_name (i := 8) sc_read_listing.nd rfl (.inl rfl)) pgs_nil))) (pss_cons (ps_expr (pe_bm PySem.F.plainAttrs_list PySem.F.slot_list_append PySem.F.type_list_append mt_append (pv 5) (pa_cons (pe_tup (pa_cons (pv 6) (pa_cons (pv 7) (pa_cons (pv 8) pa_nil)))) pa_nil)))
      (pss_one (ps_aug (i := 6) sc_read_listing.nd rfl (.inl rfl) (pv 7) ip_add))))
      (pss_one (ps_ret (pe_tup (pa_cons (pe_callTy (c_tuple (K := K) rfl) rfl (T.free 33 rfl) (by decide +kernel) (pa_cons (pv 5) pa_nil)) (pa_cons (pe_callTy (c_tuple (K := K) rfl) rfl (T.free 33 rfl) (by decide +kernel) (pa_cons (pv 3) pa_nil)) pa_nil))))))))))))), ?_⟩)
  obtain ⟨gs, rws, rfl, ok, hQ⟩ := h
  have hgl := ok.gl
  have hr1 := ok.r1
  have hr2 := ok.r2
  have hll := lines_len ok
  have hln := lines_n (gs := gs) (rws := rws)
  walk_at "go"
  refine ty_str ?_
  walk_at "go"
  refine ⟨_, _, rfl, rfl, by decide +kernel, ?_, ?_⟩
  · rw [SX.S_len]
    have := text_len hll
    exact szle (by show (textL gs rws).length + 2 ≤ _; unfold textL; omega)
  have esp : PySem.Txt.split (SS (textL gs rws)) "\n" = (linesL gs rws ++ [[]]).map SS := split_lines (lines_nl ok)
  rw [esp]
  intro pl hpl
  have s1 := Same.new (o := .lst (((linesL gs rws ++ [[]]).map SS).map V.str)) hpl
  have w1 : upd H pl (.lst (((linesL gs rws ++ [[]]).map SS).map V.str)) pl = some (.lst (((linesL gs rws ++ [[]]).map SS).map V.str)) := upd_same
  generalize upd H pl (.lst (((linesL gs rws ++ [[]]).map SS).map V.str)) = H1 at s1 w1
  walk_at "go"
  refine g_lstS (by simp) (fun D1 H2 s2 hD1 e1 => ?_)
  walk_at "go"
  refine g_lstS (by simp) (fun D2 H3 s3 hD2 e2 => ?_)
  walk_at "go"
  have w3 := s3 _ _ (s2 _ _ w1)
  have e13 := s3 _ _ e1
  have s123 := (s1.trans s2).trans s3
  have n1 : H D1 = none := Same.back s1 hD1
  have n2 : H D2 = none := Same.back (s1.trans s2) hD2
  have ne1 : D1 ≠ pl := fun e => by
    rw [e, w1] at hD1
    cases hD1
  have ne2 : D2 ≠ pl := fun e => by
    rw [e, s2 _ _ w1] at hD2
    cases hD2
  have n12 : D1 ≠ D2 := fun e => by
    rw [e] at e1
    rw [e1] at hD2
    cases hD2
  walk_at "go"
  rw [List.length_map, List.length_append, hln]
  have etn : (((gs.length + rws.length + ([[]] : List (List Nat)).length : Nat) : Int) - 1).toNat = gs.length + rws.length := by
    rw [List.length_singleton]
    omega
  rw [etn]
  have wlen : ∀ {H' : Hp}, H' pl = some (.lst (((linesL gs rws ++ [[]]).map SS).map V.str)) → SqL K H' pl (((linesL gs rws ++ [[]]).map SS).map V.str) := fun h => SqL.of h
  refine f_range (fun i σ H' => ∃ (k1 k2 k3 k4 k5 k6 k7 : Option V) (us ws : List V), σ = [some (.str (SS (textL gs rws))), some (.ref pl), some (.ref D1), some (.ref D2), k1, k2, k3, k4, k5, k6, k7] ∧ Same H H' ∧
      H' pl = some (.lst (((linesL gs rws ++ [[]]).map SS).map V.str)) ∧ H' D1 = some (.lst us) ∧ H' D2 = some (.lst ws) ∧ Ims H' us ((gs.take i).map gV) ∧ Ims H' ws ((rws.take (i - gs.length)).map rwV))
    ⟨_, _, _, _, _, _, _, [], [], rfl, s123, w3, e13, e2, by rw [List.take_zero]; exact .nil, by rw [Nat.zero_sub, List.take_zero]; exact .nil⟩ ?_ ?_
  · rintro i σ H4 hi ⟨k1, k2, k3, k4, k5, k6, k7, us, ws, rfl, s4, w4, f1, f2, im1, q2⟩
    have ul := im1.length
    have wl := q2.length
    rw [List.length_map, List.length_take] at ul wl
    walk_at "go"
    rw [Int.zero_add]
    by_cases hg : i < gs.length
    · obtain ⟨g, hgi⟩ : ∃ g, gs[i]? = some g := ⟨_, List.getElem?_eq_getElem hg⟩
      have hgm := List.mem_of_getElem? hgi
      have hline : (((linesL gs rws ++ [[]]).map SS).map V.str)[i]? = some (.str (SS (regL g))) := by
        rw [List.getElem?_map, List.getElem?_map, List.getElem?_append_left (by omega)]
        unfold linesL
        rw [List.getElem?_append_left (by rw [List.length_map]; exact hg), List.getElem?_map, hgi]
        rfl
      refine g_ixL (wlen w4) (n := i) rfl hline ?_
      walk_at "go"
      refine ty_str ?_
      walk_at "go"
      refine ⟨_, _, rfl, rfl, by decide +kernel, ?_, ?_⟩
      · rw [SX.S_len]
        have := reg_len (ok.gn g hgm).2 (ok.gb g hgm)
        exact szle (by omega)
      rw [split_reg (ok.gb g hgm)]
      intro pw hpw
      have s5 := Same.new (o := .lst ((["region", SS (TL.numL g.1), g.2] : List Str).map V.str)) hpw
      have w5 : upd H4 pw (.lst ((["region", SS (TL.numL g.1), g.2] : List Str).map V.str)) pw = some (.lst ((["region", SS (TL.numL g.1), g.2] : List Str).map V.str)) := upd_same
      generalize upd H4 pw (.lst ((["region", SS (TL.numL g.1), g.2] : List Str).map V.str)) = H5 at s5 w5
      have f15 := s5 _ _ f1
      have f25 := s5 _ _ f2
      rw [show i - gs.length = 0 by omega, List.take_zero] at q2
      cases q2
      walk_at "go"
      refine g_lstS (by simp) (fun p6 H6 s6 _ e6 => ?_)
      refine g_eqD (d := .list []) (.lst (SqL.of (s6 _ _ f25)) .nil) (.lst (SqL.of e6) .nil) (by decide +kernel) (by decide +kernel) ?_
      rw [eqv_lnil]
      walk_at "go"
      refine g_ifT ?_
      walk_at "go"
      refine g_ixL (SqL.of (s6 _ _ w5)) (n := 0) rfl rfl ?_
      walk_at "go"
      refine ⟨pw, D1, g, gs.take i, us, rfl, s6 _ _ w5, s6 _ _ f15, (im1.same s5).same s6, by rw [List.length_take]; omega, fun g' hg' => (ok.gn g' (List.mem_of_mem_take hg')).2, (ok.gn g hgm).1, (ok.gn g hgm).2, ok.gb g hgm, fun H7 v s7 iv => ?_⟩
      obtain ⟨t, y1, y2, rfl, ht, _, _⟩ := im2 iv
      have f17 := s7 _ _ (s6 _ _ f15)
      have f27 := s7 _ _ (s6 _ _ f25)
      have w7 := s7 _ _ (s6 _ _ (s5 _ _ w4))
      walk_at "go"
      refine g_append (Has.one f17) 0 rfl (szl (by omega)) (fun M1 => ?_)
      walk_at "go"
      refine ⟨_, _, _, _, _, _, _, us ++ [.ref t], [], rfl, Same.mut (((s4.trans s5).trans s6).trans s7) n1, ?_, upd_same, ?_, ?_, ?_⟩
      · rw [upd_ne (Ne.symm ne1)]
        exact w7
      · rw [upd_ne (Ne.symm n12)]
        exact f27
      · rw [List.take_add_one, hgi, List.map_append]
        exact ims_sn (H5 := H7) (((im1.same s5).same s6).same s7) iv f17
      · rw [show i + 1 - gs.length = 0 by omega, List.take_zero]
        exact .nil
    · obtain ⟨j, rfl⟩ : ∃ j, i = gs.length + j := ⟨i - gs.length, by omega⟩
      rw [show gs.length + j - gs.length = j by omega] at *
      obtain ⟨r, hrj⟩ : ∃ r, rws[j]? = some r := ⟨_, List.getElem?_eq_getElem (by omega)⟩
      have hrm := List.mem_of_getElem? hrj
      have hline : (((linesL gs rws ++ [[]]).map SS).map V.str)[gs.length + j]? = some (.str (SS (rowL j (wdsR r)))) := by
        rw [List.getElem?_map, List.getElem?_map, List.getElem?_append_left (by omega)]
        unfold linesL
        rw [List.getElem?_append_right (by rw [List.length_map]; omega), List.length_map, List.getElem?_map, List.getElem?_range (by omega)]
        have e : rws.getD (gs.length + j - gs.length) ("", []) = r := by
          rw [show gs.length + j - gs.length = j by omega, List.getD_eq_getElem?_getD, hrj]
          rfl
        rw [show gs.length + j - gs.length = j by omega] at e ⊢
        simp only [Option.map_some, e]
      refine g_ixL (wlen w4) (n := gs.length + j) rfl hline ?_
      walk_at "go"
      refine ty_str ?_
      walk_at "go"
      refine ⟨_, _, rfl, rfl, by decide +kernel, ?_, ?_⟩
      · rw [SX.S_len]
        have := row_len (k := j) (by omega) (ok.rw_ r hrm) (by omega)
        exact szle (by omega)
      have rk := rw_words (by omega) (ok.rw_ r hrm)
      rw [split_row fun w hw => (rk.1 w hw).1.1]
      intro pw hpw
      have s5 := Same.new (o := .lst ((SS (TL.numL j ++ [58]) :: (wdsR r).map pS).map V.str)) hpw
      have w5 : upd H4 pw (.lst ((SS (TL.numL j ++ [58]) :: (wdsR r).map pS).map V.str)) pw = some (.lst ((SS (TL.numL j ++ [58]) :: (wdsR r).map pS).map V.str)) := upd_same
      generalize upd H4 pw (.lst ((SS (TL.numL j ++ [58]) :: (wdsR r).map pS).map V.str)) = H5 at s5 w5
      have f15 := s5 _ _ f1
      have f25 := s5 _ _ f2
      walk_at "go"
      refine g_lstS (by simp) (fun p6 H6 s6 _ e6 => ?_)
      refine g_eqD (d := .list ((rws.take j).map rwV)) (.lst (SqL.of (s6 _ _ f25)) ((q2.same s5).same s6).dp) (.lst (SqL.of e6) .nil) (rows_shaped (by omega) fun r' hr' => ok.rw_ r' (List.mem_of_mem_take hr')) (by decide +kernel) ?_
      rw [eqv_lnil]
      rcases Nat.eq_zero_or_pos j with hj0 | hj0
      case' inl =>
        rw [show ((rws.take j).map rwV).isEmpty = true by rw [hj0, List.take_zero]; rfl]
        walk_at "go"
        refine g_ixL (SqL.of (s6 _ _ w5)) (n := 0) rfl rfl ?_
        walk_at "go"
        rw [decide_eq_false (not_region j), if_neg Bool.false_ne_true]
      case' inr =>
        rw [show ((rws.take j).map rwV).isEmpty = false by
          cases rws with
          | nil => cases hrj
          | cons r' rws =>
            obtain ⟨j, rfl⟩ : ∃ m, j = m + 1 := ⟨j - 1, by omega⟩
            rfl]
        walk_at "go"
      all_goals
        walk_at "go"
        have w6 := s6 _ _ (s5 _ _ w4)
        have f26 := s6 _ _ f25
        have wl2 : ws.length = j := by omega
        refine g_ixL (wlen w6) (n := gs.length + j) rfl hline ?_
        walk_at "go"
        rw [wl2]
        refine ⟨j, r, rws.length, rfl, by omega, by omega, ok.rw_ r hrm, fun H7 v s7 iv => ?_⟩
        obtain ⟨t, ys, rfl, ht, _⟩ := iv.tup_inv
        have f17 := s7 _ _ (s6 _ _ f15)
        have f27 := s7 _ _ f26
        have w7 := s7 _ _ w6
        walk_at "go"
        refine g_append (Has.one f27) 0 rfl (szl (by omega)) (fun M1 => ?_)
        walk_at "go"
        refine ⟨_, _, _, _, _, _, _, us, ws ++ [.ref t], rfl, Same.mut (((s4.trans s5).trans s6).trans s7) n2, ?_, ?_, upd_same, ?_, ?_⟩
        · rw [upd_ne (Ne.symm ne2)]
          exact w7
        · rw [upd_ne n12]
          exact f17
        · rw [List.take_of_length_le (by omega)] at im1 ⊢
          have nt : NoTup H7 [D2] := NoTup.one f27 (fun _ e => nomatch e)
          exact (((im1.same s5).same s6).same s7).keep (Keep.set (List.mem_singleton.mpr rfl)) nt
        · rw [show gs.length + j + 1 - gs.length = j + 1 by omega, List.take_add_one, hrj, List.map_append]
          exact ims_sn (H5 := H7) (((q2.same s5).same s6).same s7) iv f27
  · rintro σ H4 ⟨k1, k2, k3, k4, k5, k6, k7, us, ws, rfl, s4, w4, f1, f2, im1, q2⟩
    rw [show gs.length + rws.length - gs.length = rws.length by omega, List.take_length] at q2
    rw [List.take_of_length_le (by omega)] at im1
    have ul := im1.length
    rw [List.length_map] at ul
    walk_at "go"
    have e0 : SS [] = ("" : Str) := by decide +kernel
    refine g_ixL' (wlen w4) (v := .str "") ?_ ?_
    · show (ixN _ (-1)).bind _ = _
      unfold ixN
      rw [if_neg (by decide), if_pos (by rw [List.length_map, List.length_map, List.length_append, hln]; omega)]
      show (((linesL gs rws ++ [[]]).map SS).map V.str)[_]? = _
      rw [List.getElem?_map, List.getElem?_map, List.length_map, List.length_map, List.length_append, hln]
      rw [List.getElem?_append_right (by rw [hln, List.length_singleton]; omega), hln]
      have e : ((-1 : Int) + ((gs.length + rws.length + ([[]] : List (List Nat)).length : Nat) : Int)).toNat - (gs.length + rws.length) = 0 := by
        rw [List.length_singleton]
        omega
      rw [e]
      show some (V.str (SS [])) = _
      rw [e0]
    walk_at "go"
    refine ⟨D2, ws, gs, rws, rfl, f2, q2, ok, fun H5 s5 => ?_⟩
    walk_at "go"
    refine g_lstS (by simp) (fun D3 H6 s6 hD3 e3 => ?_)
    have f16 := s6 _ _ (s5 _ _ f1)
    have f26 := s6 _ _ (s5 _ _ f2)
    have n3 : H D3 = none := Same.back (s4.trans s5) hD3
    have n13 : D3 ≠ D1 := fun e => by
      rw [e, s5 _ _ f1] at hD3
      cases hD3
    have n23 : D3 ≠ D2 := fun e => by
      rw [e, s5 _ _ f2] at hD3
      cases hD3
    have im6 := (im1.same s5).same s6
    walk_at "go"
    try refine .inl ⟨_, _, rfl, SqL.of f16, ?_⟩
    refine f_list (xs := us) (fun i σ H' => ∃ (k1 k3 k4 k5 k6 : Option V) (es : List V), σ = [some (.str (SS (textL gs rws))), some (.ref pl), some (.ref D1), some (.ref D2), k1, some (.ref D3), some (.int (sumN (gs.take i) : Nat)), k3, k4, k5, k6] ∧ Same H H' ∧
        H' D1 = some (.lst us) ∧ H' D2 = some (.lst ws) ∧ H' D3 = some (.lst es) ∧ Ims H' us (gs.map gV) ∧ Ims H' ws (rws.map rwV) ∧ Ims H' es (regsV 0 (gs.take i)))
      ⟨_, _, _, _, _, [], rfl, (s4.trans s5).trans s6, f16, f26, e3, im6, (q2.same s5).same s6, by rw [List.take_zero]; exact .nil⟩ (fun i σ H' _ h => ?_) ?_ ?_
    · obtain ⟨k1, k3, k4, k5, k6, es, _, _, g1, _⟩ := h
      exact SqL.of g1
    · rintro i x σ H7 hx ⟨k1, k3, k4, k5, k6, es, rfl, s7, g1, g2, g3, j1, j2, j3⟩
      obtain ⟨hlt, _⟩ := List.getElem?_eq_some_iff.mp hx
      obtain ⟨g, hgi⟩ : ∃ g, gs[i]? = some g := ⟨_, List.getElem?_eq_getElem (by omega)⟩
      obtain ⟨y, hy, iy⟩ := j1.get (show (gs.map gV)[i]? = some (gV g) by rw [List.getElem?_map, hgi]; rfl)
      rw [hx] at hy
      cases hy
      obtain ⟨t, y1, y2, rfl, ht, l1, l2⟩ := im2 iy
      obtain rfl := l1.int_inv
      obtain rfl := l2.str_inv
      have el := j3.length
      rw [regsV_len, List.length_take] at el
      walk_at "go"
      have esum : ((sumN (gs.take (i + 1)) : Nat) : Int) = ((sumN (gs.take i) : Nat) : Int) + (g.1 : Int) := by
        rw [List.take_add_one, hgi]
        simp [sumN]
      refine m_new (.cons (.int _) (.cons (.int _) (.cons (.str _) .nil))) (by simp) (fun t9 H9 s9 _ i9 => ?_)
      have g39 := s9 _ _ g3
      have nt : NoTup H9 [D3] := NoTup.one g39 (fun _ e => nomatch e)
      have kp : ∀ o, Keep [D3] H9 (upd H9 D3 o) := fun o => Keep.set (List.mem_singleton.mpr rfl)
      walk_at "go"
      refine g_append (Has.one g39) 0 rfl (szl (by omega)) (fun M1 => ?_)
      walk_at "go"
      refine ⟨_, _, _, _, _, es ++ [.ref t9], by rw [esum]; rfl, Same.mut (s7.trans s9) n3, ?_, ?_, upd_same, (j1.same s9).keep (kp _) nt, (j2.same s9).keep (kp _) nt, ?_⟩
      · rw [upd_ne (Ne.symm n13)]
        exact s9 _ _ g1
      · rw [upd_ne (Ne.symm n23)]
        exact s9 _ _ g2
      · rw [List.take_add_one, hgi]
        show Ims _ _ (regsV 0 (gs.take i ++ [g]))
        rw [regsV_snoc, Nat.zero_add]
        exact ims_sn (H5 := H9) (j3.same s9) i9 g39
    · rintro σ H7 ⟨k1, k3, k4, k5, k6, es, rfl, s7, g1, g2, g3, j1, j2, j3⟩
      rw [List.take_of_length_le (by omega)] at j3
      walk_at "go"
      refine m_tupleL (SqL.of g3) j3 (fun t8 H8 s8 _ i8 => ?_)
      have g28 := s8 _ _ g2
      walk_at "go"
      refine m_tupleL (SqL.of g28) (j2.same s8) (fun t9 H9 s9 _ i9 => ?_)
      walk_at "go"
      refine m_new (.cons (i8.same s9) (.cons i9 .nil)) (by simp) (fun t10 H10 s10 _ i10 => ?_)
      walk_at "go"
      exact hQ _ _ (((s7.trans s8).trans s9).trans s10) i10


/-! isinstance(x, (tuple, list)) -/
theorem c_isiT {X : Cx} {K : PySem.W.Frag} (hK : X.K = K) : CallR X (.builtin "isinstance") (rIsiT K) := by
  subst hK
  exact call_isiT
theorem k_tl : kitB "tuple" "list" = some false := by decide +kernel
theorem k_il : kitB "int" "list" = some false := by decide +kernel
theorem k_ll : kitB "list" "list" = some true := by decide +kernel
theorem k_lt : kitB "list" "tuple" = some false := by decide +kernel
theorem k_sl : kitB "str" "list" = some false := by decide +kernel
theorem k_bl : kitB "bool" "list" = some false := by decide +kernel
theorem k_nl : kitB "NoneType" "list" = some false := by decide +kernel
theorem isiTL_of {K : PySem.W.Frag} {H : Hp} {Q : VK} {x : V} {p : Addr} {T : String} {b : Bool} (hp : H p = some (.tup [.ty "tuple", .ty "list"])) (ht : TyX K H x (.type T)) {b1 b2 : Bool} (h1 : kitB T "tuple" = some b1) (h2 : kitB T "list" = some b2) (e : (b1 || b2) = b) (q : Q (.bl b) H) : rIsiT K [x, .ref p] H Q := by
  refine ⟨x, p, [.ty "tuple", .ty "list"], .type T, [.type "tuple", .type "list"], b, rfl, hp, .cons (.ty _) (.cons (.ty _) .nil), ht, ?_, q⟩
  subst e
  refine kitAny_cons (kit_ty h1) (fun e => ?_) (fun e => by rw [e]; rfl)
  subst e
  refine kitAny_cons (kit_ty h2) (fun e => ?_) (fun e => by rw [e]; rfl)
  subst e
  exact kitAny_nil
section
variable {K : PySem.W.Frag} {H : Hp} {Q : VK} {x : V} {p : Addr} {ds : List PyData}
theorem isiTL_t (hp : H p = some (.tup [.ty "tuple", .ty "list"])) (hx : Im H x (.tuple ds)) (q : Q (.bl true) H) : rIsiT K [x, .ref p] H Q := by
  obtain ⟨a, xs, rfl, h1, _⟩ := hx.tup_inv
  exact isiTL_of hp (.base (.tup h1)) k_tt k_tl rfl q
theorem isiTL_l {a : Addr} {xs : List V} (hp : H p = some (.tup [.ty "tuple", .ty "list"])) (h1 : H a = some (.lst xs)) (q : Q (.bl true) H) : rIsiT K [.ref a, .ref p] H Q := isiTL_of hp (.base (.lst h1)) k_lt k_ll rfl q
theorem isiTL_i {i : Int} (hp : H p = some (.tup [.ty "tuple", .ty "list"])) (q : Q (.bl false) H) : rIsiT K [.int i, .ref p] H Q := isiTL_of hp (.base (.int i)) k_it k_il rfl q
theorem isiTL_b {i : Bool} (hp : H p = some (.tup [.ty "tuple", .ty "list"])) (q : Q (.bl false) H) : rIsiT K [.bl i, .ref p] H Q := isiTL_of hp (.base (.bl i)) k_bt k_bl rfl q
theorem isiTL_s {i : Str} (hp : H p = some (.tup [.ty "tuple", .ty "list"])) (q : Q (.bl false) H) : rIsiT K [.str i, .ref p] H Q := isiTL_of hp (.base (.str i)) k_st k_sl rfl q
theorem isiTL_n (hp : H p = some (.tup [.ty "tuple", .ty "list"])) (q : Q (.bl false) H) : rIsiT K [.non, .ref p] H Q := isiTL_of hp (.base .non) k_nt k_nl rfl q
end

/-! ### data, compared at any depth -/
def TQ : Nat → PyData → Prop
  | 0, _ => False
  | n + 1, d => (∃ i, d = .int i) ∨ (∃ b, d = .bool b) ∨ (∃ z, d = .str z) ∨ ∃ ds, d = .tuple ds ∧ ds.length ≤ 5000 ∧ ∀ e ∈ ds, TQ n e
def sp_law_equal (K : PySem.W.Frag) : Nat → Sp
  | 0 => fun _ _ _ _ => False
  | n + 1 => fun vs H Q _ => ∃ (x y : V) (d : PyData), vs = [x, y] ∧ Im H x d ∧ Im H y d ∧ TQ (n + 1) d ∧ ∀ H', Same H H' → Q (.bl true) H'
theorem sc_law_equal : FnScope ["told", "due", "k"] ["told", "due"] (defScope (topS 35)) := ⟨rfl, rfl, rfl, by decide +kernel, rfl, by decide +kernel, by decide +kernel⟩
theorem ok_law_equal (T : Txt fa fn K mg (CsOk cs K w)) : ∀ n : Nat, Dn P w K mg base CX0 (1 + n) "_law_equal" ["told", "due"] (sp_law_equal K n)
| 0 => Dn.imp (mk_dn (k := 0) (d := dOf "_law_equal" 35) T 17 17 rfl rfl rfl rfl rfl sc_law_equal (sp := fun _ _ _ _ => False) (fun _ _ _ _ h => h.elim) (fun _ _ _ _ _ _ us hl => match us, hl with | [_, _], _ => rfl) (fun _ _ _ _ _ _ _ _ _ h => h.elim)) (fun _ _ _ _ h => (h : False))
| n + 1 => by
  refine mk_dn (k := 1 + n) (d := dOf "_law_equal" 35) T 17 17 rfl rfl rfl rfl rfl sc_law_equal (by walk_at "len") (fun _ _ _ _ _ _ us hl => match us, hl with | [_, _], _ => rfl) (fun cdv A outer s H vs Q E hr h => ⟨_, (pss_cons (ps_if (pt_tru (K := K) rfl (pe_callB (c_isiT (K := K) rfl) rfl (T.free 26 rfl) (by decide +kernel) (pa_cons (pv 1) (pa_cons (pe_tup (pa_cons (pe_bltn (v := .ty "tuple") rfl (T.free 33 rfl) (by decide +kernel) rfl) (pa_cons (pe_bltn (v := .ty "list") rfl (T.free 28 rfl) (by decide +kernel) rfl) pa_nil))) pa_nil)))) (pss_cons (ps_if (PW.pt (pw_or (pt_not (pt_tru (K := K) rfl (pe_callB (c_isiT (K := K) rfl) rfl (T.free 26 rfl) (by decide +kernel) (pa_cons (pv 0) (pa_cons (pe_tup (pa_cons (pe_bltn (v := .ty "tuple") rfl (T.free 33 rfl) (by decide +kernel) rfl) (pa_cons (pe_bltn (v := .ty "list") rfl (T.free 28 rfl) (by decide +kernel) rfl) pa_nil))) pa_nil))))) (pw_or (pt_cmpR (op_neU (K := K) rfl hr.units) (pe_callB (c_isi (K := K) rfl) rfl (T.free 26 rfl) (by decide +kernel) (pa_cons (pv 0) (pa_cons (pe_bltn (v := .ty "tuple") rfl (T.free 33 rfl) (by decide +kernel) rfl) pa_nil))) (pe_callB (c_isi (K := K) rfl) rfl (T.free 26 rfl) (by decide +kernel) (pa_cons (pv 1) (pa_cons (pe_bltn (v := .ty "tuple") rfl (T.free 33 rfl) (by decide +kernel) rfl) pa_nil))) (nomark _)) (pw_or1 (pt_cmpR (op_neU (K := K) rfl hr.units) (pe_callB (c_len (K := K) rfl) rfl (T.free 27 rfl) (by decide +kernel) (pa_cons (pv 0) pa_nil)) (pe_callB (c_len (K := K) rfl) rfl (T.free 27 rfl) (by decide +kernel) (pa_cons (pv 1) pa_nil)) (nomark _)))))) (pss_one (ps_ret pe_bl)) pss_nil)
      (pss_one (ps_ret (pe_cmpR (op_eqU (K := K) rfl hr.units) (pe_lc rfl sc_law_equal.nd (pi_r1 rfl (T.free 30 rfl) (pa_cons (pe_callB (c_len (K := K) rfl) rfl (T.free 27 rfl) (by decide +kernel) (pa_cons (pv 1) pa_nil)) pa_nil)) (blkOk_by (own := [("k", 2)]) (N := ["told", "due", "k"]) (sc := defScope (topS 35)) (by decide +kernel)) (fun _ _ _ _ _ => (pg_name (i := 2) sc_law_equal.nd rfl (.inl rfl))) (fun _ _ _ _ _ => (pts_one (pt_not (pt_tru (K := K) rfl (pe_callD (K := K) rfl (ok_law_equal T n) (hr.mono (by omega)) rfl pass0 (pa_cons (pe_ixU (K := K) rfl (hu_of hr) (pv 0) (pv 2)) (pa_cons (pe_ixU (K := K) rfl (hu_of hr) (pv 1) (pv 2)) pa_nil))))))) (fun _ _ _ _ _ => (pv 2))) (pe_lst pa_nil) (nomark _))))) pss_nil)
      (pss_cons (ps_if (pt_cmpR o_isN (pv 1) pe_non (nomark _)) (pss_one (ps_ret (pe_cmpR o_isN (pv 0) pe_non (nomark _)))) pss_nil)
      (pss_cons (ps_if (pt_tru (K := K) rfl (pe_callB (c_isi (K := K) rfl) rfl (T.free 26 rfl) (by decide +kernel) (pa_cons (pv 1) (pa_cons (pe_bltn (v := .ty "str") rfl (T.free 31 rfl) (by decide +kernel) rfl) pa_nil)))) (pss_one (ps_ret (pe_and (pe_callB (c_isi (K := K) rfl) rfl (T.free 26 rfl) (by decide +kernel) (pa_cons (pv 0) (pa_cons (pe_bltn (v := .ty "str") rfl (T.free 31 rfl) (by decide +kernel) rfl) pa_nil))) (pe_one (pe_cmpR (op_eqU (K := K) rfl hr.units) (pv 0) (pv 1) (nomark _)))))) pss_nil)
      (pss_one (ps_ret (pe_and (pe_callB (c_isi (K := K) rfl) rfl (T.free 26 rfl) (by decide +kernel) (pa_cons (pv 0) (pa_cons (pe_bltn (v := .ty "int") rfl (T.free 25 rfl) (by decide +kernel) rfl) pa_nil))) (pe_and (pe_cmpR (op_eqU (K := K) rfl hr.units) (pe_callB (c_isi (K := K) rfl) rfl (T.free 26 rfl) (by decide +kernel) (pa_cons (pv 0) (pa_cons (pe_bltn (v := .ty "bool") rfl (T.free 24 rfl) (by decide +kernel) rfl) pa_nil))) (pe_callB (c_isi (K := K) rfl) rfl (T.free 26 rfl) (by decide +kernel) (pa_cons (pv 1) (pa_cons (pe_bltn (v := .ty "bool") rfl (T.free 24 rfl) (by decide +kernel) rfl) pa_nil))) (nomark _)) (pe_one (pe_cmpR (op_eqU (K := K) rfl hr.units) (pv 0) (pv 1) (nomark _)))))))))), ?_⟩)
  obtain ⟨x, y, d, rfl, ix, iy, td, hQ⟩ := h
  walk_at "go"
  refine ⟨by show 2 ≤ sizeLine; decide, fun p hp => ?_⟩
  have s1 := Same.new (o := .tup [.ty "tuple", .ty "list"]) hp
  walk_at "go"
  rcases td with ⟨i, rfl⟩ | ⟨b, rfl⟩ | ⟨z, rfl⟩ | ⟨ds, rfl, hl, hd⟩
  · rw [ix.int_inv, iy.int_inv]
    refine isiTL_i upd_same ?_
    walk_at "go"
    rw [if_pos (by decide)]
    walk_at "go"
    rw [decide_eq_true rfl]
    exact hQ _ s1
  · rw [ix.bl_inv, iy.bl_inv]
    refine isiTL_b upd_same ?_
    walk_at "go"
    rw [if_pos (by decide)]
    walk_at "go"
    rw [decide_eq_true rfl]
    exact hQ _ s1
  · rw [ix.str_inv, iy.str_inv]
    refine isiTL_s upd_same ?_
    walk_at "go"
    exact hQ _ s1
  · refine isiTL_t upd_same (iy.same s1) ?_
    walk_at "go"
    refine ⟨by show 2 ≤ sizeLine; decide, fun p2 hp2 => ?_⟩
    have s2 := Same.new' (o := .tup [.ty "tuple", .ty "list"]) s1 hp2
    walk_at "go"
    refine isiTL_t upd_same (ix.same s2) ?_
    walk_at "go"
    refine m_isiT (ix.same s2) k_tt ?_
    walk_at "go"
    refine m_isiT (iy.same s2) k_tt ?_
    walk_at "go"
    rw [if_neg (by decide)]
    walk_at "go"
    refine m_len (ix.same s2) ?_
    walk_at "go"
    refine m_len (iy.same s2) ?_
    walk_at "go"
    rw [if_neg (by simp)]
    walk_at "go"
    refine m_len (iy.same s2) ?_
    walk_at "go"
    have hm : ∀ e ∈ ds, ∃ m, n = m + 1 := fun e he => by
      have := hd e he
      cases n with
      | zero => exact this.elim
      | succ m => exact ⟨m, rfl⟩
    refine l_range (fun D i H' => H' D = some (.lst []) ∧ Same H H') (fun D hD => ⟨upd_same, Same.new' s2 hD⟩) ?_ ?_
    · rintro D hD i H3 hi ⟨hDl, s3⟩
      have hil : i < ds.length := by omega
      have hdi : ds[i]? = some (ds[i]'hil) := List.getElem?_eq_getElem _
      generalize ds[i]'hil = e at hdi
      have hme := List.mem_of_getElem? hdi
      obtain ⟨m, rfl⟩ := hm e hme
      have e0 : (0 : Int) + (i : Int) = (i : Int) := by omega
      walk_at "go"
      rw [e0]
      refine m_ix (ix.same s3) (n := i) rfl hdi (fun v1 hv1 => ?_)
      walk_at "go"
      refine m_ix (iy.same s3) (n := i) rfl hdi (fun v2 hv2 => ?_)
      walk_at "go"
      refine ⟨v1, v2, e, rfl, hv1, hv2, hd e hme, fun H4 s4 => ?_⟩
      walk_at "go"
      exact ⟨s4 _ _ hDl, s3.trans s4⟩
    · rintro D hD H3 ⟨hDl, s3⟩
      walk_at "go"
      refine ⟨by decide, fun E hE => ?_⟩
      have s4 := Same.new (o := .lst []) hE
      refine g_eqD (lst_dp (ns := []) (s4 _ _ hDl)) (lst_dp (ns := []) upd_same) lst_shaped lst_shaped ?_
      walk_at "go"
      rw [List.map_nil, eqv_lnil]
      exact hQ _ (s3.trans s4)

/-! ### the law -/
theorem app1 (l : List Nat) (z : Str) : SS l ++ z = SS (l ++ tl z) := by
  rw [show z = SS (tl z) from (TL.mk_tl z).symm, SX.S_cat]
theorem tl_regn : tl ("region " : Str) = [114, 101, 103, 105, 111, 110, 32] := by decide +kernel
theorem tl_spc : tl (" " : Str) = [32] := by decide +kernel
theorem tl_nln : tl ("\n" : Str) = [10] := by decide +kernel
theorem tl_cln : tl (":" : Str) = [58] := by decide +kernel
def preL (gs : List (Nat × Str)) (rws : List RwT) (i : Nat) : List Nat := ((linesL gs rws).take i).flatMap fun l => l ++ [10]
theorem preL_len {gs : List (Nat × Str)} {rws : List RwT} (ok : CdOk gs rws) (i : Nat) : (preL gs rws i).length ≤ 67 * 26 := by
  have h := text_len (ls := (linesL gs rws).take i) fun l hl => lines_len ok l (List.mem_of_mem_take hl)
  have h2 := lines_n (gs := gs) (rws := rws)
  have h3 := ok.gl
  have h4 := ok.r2
  rw [List.length_take] at h
  unfold preL
  omega
theorem preL_succ {gs : List (Nat × Str)} {rws : List RwT} {i : Nat} {l : List Nat} (h : (linesL gs rws)[i]? = some l) : preL gs rws (i + 1) = preL gs rws i ++ (l ++ [10]) := by
  unfold preL
  rw [List.take_add_one, h, List.flatMap_append]
  simp
def sp_law_listing (K : PySem.W.Frag) : Sp := fun vs H Q _ => ∃ (x : V) (gs : List (Nat × Str)) (rws : List RwT), vs = [x] ∧ Im H x (cdV gs rws) ∧ CdOk gs rws ∧ ∀ H', Same H H' → Q (.str (SS (textL gs rws))) H'
theorem sc_law_listing : FnScope ["code", "text", "base", "size", "label", "k", "part"] ["code"] (defScope (topS 34)) := ⟨rfl, rfl, rfl, by decide +kernel, rfl, by decide +kernel, by decide +kernel⟩
theorem ok_law_listing (T : Txt fa fn K mg (CsOk cs K w)) : Dn P w K mg base CX0 1 "_law_listing" ["code"] (sp_law_listing K) := by
  refine mk_dn (d := dOf "_law_listing" 34) T 16 16 rfl rfl rfl rfl rfl sc_law_listing (by walk_at "len") (fun _ _ _ _ _ _ us hl => match us, hl with | [_], _ => rfl) (fun cdv A outer s H vs Q E hr h => ⟨_, (pss_cons (ps_set (i := 1) sc_law_listing.nd rfl (.inl rfl) pe_str)
      (pss_cons (ps_for PassesOwn.never rfl (pi_seq (K := K) rfl (pe_ixU (K := K) rfl (hu_of hr) (pv 0) pe_int)) (pg_tup rfl (pgs_cons (pg_name (i := 2) sc_law_listing.nd rfl (.inl rfl)) (pgs_cons (pg_name (i := 3) sc_law_listing.nd rfl (.inl rfl)) (pgs_cons (pg_name (i := 4) sc_law_listing.nd rfl (.inl rfl)) pgs_nil)))) (pss_one (ps_set (i := 1) sc_law_listing.nd rfl (.inl rfl) (pe_op (op_addU (K := K) rfl) (pe_op (op_addU (K := K) rfl) (pe_op (op_addU (K := K) rfl) (pe_op (op_addU (K := K) rfl) (pe_op (op_addU (K := K) rfl) (pv 1) pe_str) (pe_callTy c_strU rfl (T.free 31 rfl) (by decide +kernel) (pa_cons (pv 3) pa_nil))) pe_str) (pv 4)) pe_str))))
      (pss_cons (ps_for PassesOwn.never rfl (pi_r1 rfl (T.free 30 rfl) (pa_cons (pe_callB (c_len (K := K) rfl) rfl (T.free 27 rfl) (by decide +kernel) (pa_cons (pe_ixU (K := K) rfl (hu_of hr) (pv 0) pe_int) pa_nil)) pa_nil)) (pg_name (i := 5) sc_law_listing.nd rfl (.inl rfl)) (pss_cons (ps_set (i := 1) sc_law_listing.nd rfl (.inl rfl) (pe_op (op_addU (K := K) rfl) (pe_op (op_addU (K := K) rfl) (pv 1) (pe_callTy c_strU rfl (T.free 31 rfl) (by decide +kernel) (pa_cons (pv 5) pa_nil))) pe_str))
      (pss_cons (ps_for PassesOwn.never rfl (pi_seq (K := K) rfl (pe_ixU (K := K) rfl (hu_of hr) (pe_ixU (K := K) rfl (hu_of hr) (pv 0) pe_int) (pv 5))) (pg_name (i := 6) sc_law_listing.nd rfl (.inl rfl)) (pss_one (ps_set (i := 1) sc_law_listing.nd rfl (.inl rfl) (pe_op (op_addU (K := K) rfl) (pe_op (op_addU (K := K) rfl) (pv 1) pe_str) (pe_callTy c_strU rfl (T.free 31 rfl) (by decide +kernel) (pa_cons (pv 6) pa_nil))))))
      (pss_one (ps_set (i := 1) sc_law_listing.nd rfl (.inl rfl) (pe_op (op_addU (K := K) rfl) (pv 1) pe_str))))))
      (pss_one (ps_ret (pv 1)))))), ?_⟩)
  obtain ⟨x, gs, rws, rfl, im, ok, hQ⟩ := h
  obtain ⟨a, x1, x2, rfl, h1, i1, i2⟩ := im2 im
  obtain ⟨b1, rgv, rfl, h2, ims1⟩ := i1.tup_inv
  obtain ⟨b2, rwv, rfl, h3, ims2⟩ := i2.tup_inv
  have hgl := ok.gl
  have hrl := ok.r2
  have hll := lines_len ok
  have hln := lines_n (gs := gs) (rws := rws)
  have hpl := preL_len ok
  have hlen1 : rgv.length = gs.length := by rw [ims1.length, regsV_len]
  have hlen2 : rwv.length = rws.length := by rw [ims2.length, List.length_map]
  have e0 : ("" : Str) = SS (preL gs rws 0) := by
    show _ = SS []
    decide +kernel
  walk_at "go"
  try refine .inr ⟨_, _, rfl, SqT.of h2, ?_⟩
  refine f_tup (xs := rgv) (fun i σ H' => (∃ k1 k2 k3 k4 k5 : Option V, σ = [some (.ref a), some (.str (SS (preL gs rws i))), k1, k2, k3, k4, k5]) ∧ H' = H) ⟨⟨_, _, _, _, _, by rw [← e0]; rfl⟩, rfl⟩ (fun i σ H' _ h => by rw [h.2]; exact SqT.of h2) ?_ ?_
  · rintro i y σ H' hi ⟨⟨k1, k2, k3, k4, k5, rfl⟩, rfl⟩
    obtain ⟨hlt, _⟩ := List.getElem?_eq_some_iff.mp hi
    obtain ⟨g, hg⟩ : ∃ g, gs[i]? = some g := ⟨_, List.getElem?_eq_getElem (by omega)⟩
    obtain ⟨c, hc⟩ := regsV_at (b := 0) hg
    obtain ⟨y', hy', iy⟩ := ims1.get hc
    rw [hi] at hy'
    cases hy'
    have hgm := List.mem_of_getElem? hg
    have hgn := ok.gn g hgm
    have hgb := lab_len (ok.gb g hgm)
    obtain ⟨t, y1, y2, y3, rfl, ht, j1, j2, j3⟩ := im3 iy
    obtain rfl := j1.int_inv
    obtain rfl := j2.int_inv
    obtain rfl := j3.str_inv
    have hnl := num_len (show g.1 < 4294967296 by omega)
    have hnl2 : (TL.numL g.1).length ≤ 10 := TL.numL_len (by decide) (by omega)
    have hline : (linesL gs rws)[i]? = some (regL g) := by
      unfold linesL
      rw [List.getElem?_append_left (by rw [List.length_map]; omega), List.getElem?_map, hg]
      rfl
    have hb := hpl i
    have hsx := preL_succ hline
    have hb2 := hpl (i + 1)
    generalize preL gs rws i = b at hb hsx
    walk_at "go"
    refine g_addS (szle (by rw [SX.S_len, sl_region]; omega)) ?_
    rw [app1, tl_regn]
    walk_at "go"
    refine .inl ⟨_, rfl, log_nat (by omega), ?_⟩
    walk_at "go"
    refine g_addS (szle (by rw [SX.S_len, List.length_append]; simp only [List.length_cons, List.length_nil]; omega)) ?_
    rw [app1, tl_tos]
    walk_at "go"
    refine g_addS (szle (by rw [SX.S_len, List.length_append, List.length_append, sl_sp]; simp only [List.length_cons, List.length_nil]; omega)) ?_
    rw [app1, tl_spc]
    walk_at "go"
    refine g_addS (szle (by rw [SX.S_len, List.length_append, List.length_append, List.length_append]; simp only [List.length_cons, List.length_nil]; omega)) ?_
    rw [app1]
    have hlb : (tl g.2).length ≤ 6 := by
      have h : ∀ z ∈ LAB, (tl z).length ≤ 6 := by decide +kernel
      exact h _ (ok.gb g hgm)
    walk_at "go"
    refine g_addS (szle (by rw [SX.S_len, List.length_append, List.length_append, List.length_append, List.length_append, sl_nl]; simp only [List.length_cons, List.length_nil]; omega)) ?_
    rw [app1, tl_nln]
    walk_at "go"
    have e1 : b ++ [114, 101, 103, 105, 111, 110, 32] ++ TL.numL g.1 ++ [32] ++ tl g.2 ++ [10] = preL gs rws (i + 1) := by
      rw [hsx]
      simp [regL]
    rw [e1]
    exact ⟨⟨_, _, _, _, _, rfl⟩, rfl⟩
  · rintro σ H' ⟨⟨k1, k2, k3, k4, k5, rfl⟩, rfl⟩
    rw [hlen1]
    walk_at "go"
    refine g_lenT (SqT.of h3) ?_
    rw [hlen2]
    walk_at "go"
    rw [Int.toNat_natCast]
    refine f_range (fun i σ H2 => (∃ k1 k2 k3 k4 k5 : Option V, σ = [some (.ref a), some (.str (SS (preL gs rws (gs.length + i)))), k1, k2, k3, k4, k5]) ∧ H2 = H') ⟨⟨_, _, _, _, _, rfl⟩, rfl⟩ ?_ ?_
    · rintro i σ H2 hi ⟨⟨k1, k2, k3, k4, k5, rfl⟩, rfl⟩
      obtain ⟨r, hri⟩ : ∃ r, rws[i]? = some r := ⟨_, List.getElem?_eq_getElem hi⟩
      obtain ⟨y, hy, iy⟩ := ims2.get (show (rws.map rwV)[i]? = some (rwV r) by rw [List.getElem?_map, hri]; rfl)
      obtain ⟨t, ws, rfl, ht, imw⟩ := iy.tup_inv
      have hrm := List.mem_of_getElem? hri
      have rk := rw_words (by omega) (ok.rw_ r hrm)
      have hwl : ws.length = (wdsR r).length := imw.length
      have hnl := num_len (n := i) (by omega)
      have hnl2 : (TL.numL i).length ≤ 10 := TL.numL_len (by decide) (by omega)
      have hline : (linesL gs rws)[gs.length + i]? = some (rowL i (wdsR r)) := by
        unfold linesL
        rw [List.getElem?_append_right (by rw [List.length_map]; omega), List.length_map, List.getElem?_map, List.getElem?_range (by omega)]
        have e : rws.getD (gs.length + i - gs.length) ("", []) = r := by
          rw [show gs.length + i - gs.length = i by omega, List.getD_eq_getElem?_getD, hri]
          rfl
        rw [show gs.length + i - gs.length = i by omega] at e ⊢
        simp only [Option.map_some, e]
      have hb := hpl (gs.length + i)
      have hsx := preL_succ hline
      rw [show gs.length + i + 1 = gs.length + (i + 1) by omega] at hsx
      generalize preL gs rws (gs.length + i) = b at hb hsx
      walk_at "go"
      rw [Int.zero_add]
      refine .inl ⟨_, rfl, log_nat (by omega), ?_⟩
      walk_at "go"
      refine g_addS (szle (by rw [SX.S_len]; omega)) ?_
      rw [app1, tl_tos]
      walk_at "go"
      refine g_addS (szle (by rw [SX.S_len, List.length_append, show (":" : Str).length = 1 by decide +kernel]; omega)) ?_
      rw [app1, tl_cln]
      walk_at "go"
      refine g_ixT (SqT.of h3) (n := i) rfl hy ?_
      walk_at "go"
      have ew0 : b ++ TL.numL i ++ [58] = b ++ TL.numL i ++ [58] ++ wsL ((wdsR r).take 0) := by simp [wsL]
      try refine .inr ⟨_, _, rfl, SqT.of ht, ?_⟩
      refine f_tup (xs := ws) (fun j σ H3 => (∃ k1 k2 k3 k5 : Option V, σ = [some (.ref a), some (.str (SS (b ++ TL.numL i ++ [58] ++ wsL ((wdsR r).take j)))), k1, k2, k3, some (.int (i : Nat)), k5]) ∧ H3 = H2) ⟨⟨_, _, _, _, by rw [← ew0]; rfl⟩, rfl⟩ (fun j σ H3 _ h => by rw [h.2]; exact SqT.of ht) ?_ ?_
      · rintro j y σ H3 hj ⟨⟨k1, k2, k3, k5, rfl⟩, rfl⟩
        obtain ⟨hlt, _⟩ := List.getElem?_eq_some_iff.mp hj
        obtain ⟨d, hd⟩ : ∃ d, (wdsR r)[j]? = some d := ⟨_, List.getElem?_eq_getElem (by omega)⟩
        obtain ⟨y', hy', iyd⟩ := imw.get hd
        rw [hj] at hy'
        cases hy'
        have hdm := List.mem_of_getElem? hd
        have hwsl := wsL_len (ws := (wdsR r).take j) (n := 10) fun w hw => (rk.1 w (List.mem_of_mem_take hw)).2
        rw [List.length_take] at hwsl
        have hdl := (rk.1 d hdm).2
        have hws1 : wsL ((wdsR r).take (j + 1)) = wsL ((wdsR r).take j) ++ (32 :: wL d) := by
          unfold wsL
          rw [List.take_add_one, hd, List.flatMap_append]
          simp
        generalize wsL ((wdsR r).take j) = q at hwsl hws1
        walk_at "go"
        refine g_addS (szle (by rw [SX.S_len, List.length_append, List.length_append, List.length_append, sl_sp]; simp only [List.length_cons, List.length_nil]; omega)) ?_
        rw [app1, tl_spc]
        walk_at "go"
        have fin : SS (b ++ TL.numL i ++ [58] ++ q ++ [32] ++ wL d) = SS (b ++ TL.numL i ++ [58] ++ wsL ((wdsR r).take (j + 1))) := by
          rw [hws1]
          simp
        rcases rw_kind (by omega) (ok.rw_ r hrm) d hdm with ⟨z, rfl⟩ | ⟨n, rfl, hn⟩
        · obtain rfl := iyd.str_inv
          refine .inr ⟨z, rfl, ?_⟩
          walk_at "go"
          refine g_addS (szle (by
            have hz : z.length ≤ 10 := by
              have := word_len hdl
              rw [str_str] at this
              exact this
            rw [SX.S_len, List.length_append, List.length_append, List.length_append, List.length_append]
            simp only [List.length_cons, List.length_nil]
            omega)) ?_
          rw [app1, show tl z = wL (.str z) from rfl, fin]
          walk_at "go"
          exact ⟨⟨_, _, _, _, rfl⟩, rfl⟩
        · obtain rfl := iyd.int_inv
          refine .inl ⟨_, rfl, log_nat hn, ?_⟩
          walk_at "go"
          refine g_addS (szle (by
            have hz := num_len hn
            rw [SX.S_len, List.length_append, List.length_append, List.length_append, List.length_append]
            simp only [List.length_cons, List.length_nil]
            omega)) ?_
          rw [app1, tl_tos, show TL.numL n = wL (nI n) from rfl, fin]
          walk_at "go"
          exact ⟨⟨_, _, _, _, rfl⟩, rfl⟩
      · rintro σ H3 ⟨⟨k1, k2, k3, k5, rfl⟩, rfl⟩
        rw [hwl, List.take_length]
        have hwsl := wsL_len (ws := wdsR r) (n := 10) fun w hw => (rk.1 w hw).2
        walk_at "go"
        refine g_addS (szle (by rw [SX.S_len, List.length_append, List.length_append, List.length_append, sl_nl]; simp only [List.length_cons, List.length_nil]; omega)) ?_
        rw [app1, tl_nln]
        walk_at "go"
        have e1 : b ++ TL.numL i ++ [58] ++ wsL (wdsR r) ++ [10] = preL gs rws (gs.length + (i + 1)) := by
          rw [hsx]
          simp [rowL]
        rw [e1]
        exact ⟨⟨_, _, _, _, _, rfl⟩, rfl⟩
    · rintro σ H2 ⟨⟨k1, k2, k3, k4, k5, rfl⟩, rfl⟩
      walk_at "go"
      have e2 : preL gs rws (gs.length + rws.length) = textL gs rws := by
        unfold preL textL
        rw [List.take_of_length_le (by omega)]
      rw [e2]
      exact hQ _ (Same.refl _)
theorem regs_typed : ∀ {rg : List PyData} {b : Nat}, regD (b : Int) rg = true → ∃ gs : List (Nat × Str), rg = regsV b gs ∧ ∀ g ∈ gs, (1 ≤ g.1 ∧ g.1 ≤ 4096) ∧ g.2 ∈ LAB
  | [], b, _ => ⟨[], rfl, fun _ h => nomatch h⟩
  | .tuple [x, y, l] :: rs, b, h => by
    rw [reg_3] at h
    simp only [Bool.and_eq_true, decide_eq_true_eq] at h
    obtain ⟨h1, h2, h3, h4, h5, h6⟩ := h
    obtain ⟨i, rfl, _, _⟩ := nat_of_num h1 (by decide)
    obtain ⟨n, rfl, n0, n1⟩ := nat_of_num h3 (by decide)
    have eq : ∀ i j : Int, PyData.eqv (.int i) (.int j) = (i == j) := fun i j => by unfold PyData.eqv; rfl
    rw [eq, beq_iff_eq] at h2
    rw [eq, beq_iff_eq] at h4
    obtain ⟨z, rfl, hz⟩ : ∃ z, l = .str z ∧ z ∈ LAB := by
      cases l <;> first | (cases h5; done) | exact ⟨_, rfl, List.contains_iff_mem.mp h5⟩
    have h6 : regD (((b + n : Nat) : Int)) rs = true := by
      rw [Int.natCast_add]
      exact h6
    obtain ⟨gs, rfl, hg⟩ := regs_typed h6
    have hib : i = b := by omega
    subst hib
    refine ⟨(n, z) :: gs, rfl, fun g hg' => ?_⟩
    rcases List.mem_cons.mp hg' with rfl | hg'
    · exact ⟨⟨by show 1 ≤ n; omega, by show n ≤ 4096; omega⟩, hz⟩
    · exact hg g hg'
  | .none :: _, _, h | .bool _ :: _, _, h | .int _ :: _, _, h | .str _ :: _, _, h | .list _ :: _, _, h | .dict _ :: _, _, h => by cases h
  | .tuple [] :: _, _, h | .tuple [_] :: _, _, h | .tuple [_, _] :: _, _, h | .tuple (_ :: _ :: _ :: _ :: _) :: _, _, h => by cases h
theorem row_inv {rows : Int} {d : PyData} (h : rowD rows d = true) : ∃ r : RwT, d = rwV r ∧ RwOk rows r := by
  obtain ⟨z, ds, rfl⟩ := row_shape h
  have e : rowD rows (.tuple (.str z :: ds)) = (match shp z with
    | some ks => decide (ds.length = ks.length) && partsD rows ks ds
    | none => false) := rfl
  rw [e] at h
  cases hs : shp z with
  | none => rw [hs] at h; cases h
  | some ks =>
    rw [hs] at h
    have h : (decide (ds.length = ks.length) && partsD rows ks ds) = true := h
    rw [Bool.and_eq_true, decide_eq_true_eq] at h
    exact ⟨(z, ds), rfl, ks, hs, h.1, h.2⟩
theorem rows_typed {many : Int} : ∀ {rows : List PyData}, (∀ d ∈ rows, rowD many d = true) → ∃ rws : List RwT, rows = rws.map rwV ∧ ∀ r ∈ rws, RwOk many r
  | [], _ => ⟨[], rfl, fun _ h => nomatch h⟩
  | d :: rows, h => by
    obtain ⟨r, rfl, hr⟩ := row_inv (h d List.mem_cons_self)
    obtain ⟨rws, rfl, hrs⟩ := rows_typed fun x hx => h x (List.mem_cons_of_mem _ hx)
    refine ⟨r :: rws, rfl, fun x hx => ?_⟩
    rcases List.mem_cons.mp hx with rfl | hx
    · exact hr
    · exact hrs x hx
theorem code_typed {rg rows : List PyData} (h : codeD (.tuple [.tuple rg, .tuple rows]) = true) (h1 : rg.length ≤ 6) (h2 : rows.length ≤ 20) : ∃ gs rws, PyData.tuple [.tuple rg, .tuple rows] = cdV gs rws ∧ CdOk gs rws := by
  rw [code_3] at h
  simp only [Bool.and_eq_true, decide_eq_true_eq] at h
  obtain ⟨hr, hl, ha, he⟩ := h
  have hr : (decide (rg.length ≤ 1000) && regD 0 rg) = true := hr
  rw [Bool.and_eq_true] at hr
  obtain ⟨gs, rfl, hg⟩ := regs_typed (b := 0) (rg := rg) hr.2
  obtain ⟨rws, rfl, hw⟩ := rows_typed (List.all_eq_true.mp ha)
  rw [regsV_len] at h1
  rw [List.length_map] at h2 hl hw
  refine ⟨gs, rws, rfl, h1, fun g hg' => (hg g hg').1, fun g hg' => (hg g hg').2, hl, h2, hw, ?_⟩
  unfold endD at he
  rw [List.getLast?_map] at he
  cases hq : rws.getLast? with
  | none => rw [hq] at he; cases he
  | some r =>
    rw [hq] at he
    have he : strD ["jump", "stop"] (.str r.1) = true := he
    refine ⟨r, rfl, ?_⟩
    have := List.contains_iff_mem.mp he
    simpa using this
theorem tq_str {n : Nat} {z : Str} : TQ (n + 1) (.str z) := .inr (.inr (.inl ⟨z, rfl⟩))
theorem tq_int {n : Nat} {i : Int} : TQ (n + 1) (.int i) := .inl ⟨i, rfl⟩
theorem tq_tup {n : Nat} {ds : List PyData} (hl : ds.length ≤ 5000) (h : ∀ e ∈ ds, TQ n e) : TQ (n + 1) (.tuple ds) := .inr (.inr (.inr ⟨ds, rfl, hl, h⟩))
theorem regs_tq : ∀ {gs : List (Nat × Str)} {b : Nat}, ∀ e ∈ regsV b gs, TQ 4 e
  | [], _, _, h => nomatch h
  | g :: gs, b, e, h => by
    rcases List.mem_cons.mp h with rfl | h
    · refine tq_tup (by simp) fun e he => ?_
      simp only [List.mem_cons, List.not_mem_nil, or_false] at he
      rcases he with rfl | rfl | rfl
      · exact tq_int
      · exact tq_int
      · exact tq_str
    · exact regs_tq e h
theorem cd_tq {gs : List (Nat × Str)} {rws : List RwT} (ok : CdOk gs rws) : TQ 6 (cdV gs rws) := by
  have h1 := ok.gl
  have h2 := ok.r2
  refine tq_tup (by simp) fun e he => ?_
  simp only [List.mem_cons, List.not_mem_nil, or_false] at he
  rcases he with rfl | rfl
  · exact tq_tup (by rw [regsV_len]; omega) regs_tq
  · refine tq_tup (by rw [List.length_map]; omega) fun e he => ?_
    obtain ⟨r, hr, rfl⟩ := List.mem_map.mp he
    have rk := rw_words (by omega) (ok.rw_ r hr)
    refine tq_tup (by have : (PyData.str r.1 :: r.2).length ≤ 5 := rk.2; omega) fun w hw => ?_
    rcases rw_kind (by omega) (ok.rw_ r hr) w hw with ⟨z, rfl⟩ | ⟨n, rfl, _⟩
    · exact tq_str
    · exact tq_int
def sp_law (K : PySem.W.Frag) : Sp := fun vs H Q _ => ∃ (a : Addr) (ns : List Int), vs = [.ref a] ∧ SqL K H a (ns.map V.int) ∧ ns.length ≤ 63 ∧ ∀ H', Q (.bl true) H'
theorem sc_law : FnScope ["script", "draws", "turn", "code", "one", "text"] ["script"] (defScope (topS 36)) := ⟨rfl, rfl, rfl, by decide +kernel, rfl, by decide +kernel, by decide +kernel⟩
theorem ok_law (T : Txt fa fn K mg (CsOk cs K w)) : Dn P w K mg base CX0 8 "law" ["script"] (sp_law K) := by
  refine mk_dn (d := dOf "law" 36) T 18 18 rfl rfl rfl rfl rfl sc_law (by walk_at "len") (fun _ _ _ _ _ _ us hl => match us, hl with | [_], _ => rfl) (fun cdv A outer s H vs Q E hr h => ⟨_, (pss_cons (ps_set (i := 1) sc_law.nd rfl (.inl rfl) (pe_callD (K := K) rfl (ok_law_stream T) (hr.mono (by decide)) rfl pass0 (pa_cons (pv 0) (pa_cons pe_int pa_nil))))
      (pss_cons (ps_for PassesOwn.never rfl (pi_r1 rfl (T.free 30 rfl) (pa_cons pe_int pa_nil)) (pg_name (i := 2) sc_law.nd rfl (.inl rfl)) (pss_cons (ps_set (i := 3) sc_law.nd rfl (.inl rfl) (pe_callD (K := K) rfl (ok_law_code T) (hr.mono (by decide)) rfl pass0 (pa_cons (pv 1) pa_nil)))
      (pss_one (ps_for PassesOwn.never rfl (pi_seq (K := K) rfl (pe_lst (pa_cons (pv 3) (pa_cons (pe_tup (pa_cons (pe_tup pa_nil) (pa_cons (pe_ixU (K := K) rfl (hu_of hr) (pv 3) pe_int) pa_nil))) (pa_cons (pe_tup (pa_cons (pe_ixU (K := K) rfl (hu_of hr) (pv 3) pe_int) (pa_cons (pe_tup (pa_cons (pe_tup (pa_cons pe_str (pa_cons (pv 2) pa_nil))) pa_nil)) pa_nil))) pa_nil))))) (pg_name (i := 4) sc_law.nd rfl (.inl rfl)) (pss_cons (ps_set (i := 5) sc_law.nd rfl (.inl rfl) (pe_callD (K := K) rfl (ok_law_listing T) (hr.mono (by decide)) rfl pass0 (pa_cons (pv 4) pa_nil)))
      (pss_one (ps_if (PW.pt (pw_or (pt_not (pt_tru (K := K) rfl (pe_callD (K := K) rfl (ok_law_equal T 6) (hr.mono (by decide)) rfl pass0 (pa_cons (pe_callD (K := K) rfl (ok_write_listing T) (hr.mono (by decide)) rfl pass0 (pa_cons (pv 4) pa_nil)) (pa_cons (pv 5) pa_nil))))) (pw_or1 (pt_not (pt_tru (K := K) rfl (pe_callD (K := K) rfl (ok_law_equal T 6) (hr.mono (by decide)) rfl pass0 (pa_cons (pe_callD (K := K) rfl (ok_read_listing T) (hr.mono (by decide)) rfl pass0 (pa_cons (pv 5) pa_nil)) (pa_cons (pv 4) pa_nil)))))))) (pss_one (ps_ret pe_bl)) pss_nil)))))))
      (pss_one (ps_ret pe_bl)))), ?_⟩)
  obtain ⟨a, ns, rfl, hs, hl, hQ⟩ := h
  walk_at "go"
  refine ⟨a, ns, 400, rfl, hs, hl, by decide, by decide, fun H1 d r row sd s1 hd hr M ok => ?_⟩
  have D1 : DrL H1 d [] := ⟨r, 0, sd, row, M, ok, by decide⟩
  walk_at "go"
  refine f_range (fun i σ H' => (∃ k1 k2 k3 k4 : Option V, σ = [some (.ref a), some (.ref d), k1, k2, k3, k4]) ∧ DrL H' d []) ⟨⟨_, _, _, _, rfl⟩, D1⟩ ?_ ?_
  · rintro i σ H2 hi ⟨⟨k1, k2, k3, k4, rfl⟩, D2⟩
    walk_at "go"
    refine ⟨d, [], rfl, D2, fun H3 x rg rows k3' D3 i3 c3 l1 l2 w3 => ?_⟩
    obtain ⟨gs, rws, ecd, ok3⟩ := code_typed c3 l1 l2
    rw [ecd] at i3
    obtain ⟨a3, x1, x2, rfl, h3, j1, j2⟩ := im2 i3
    walk_at "go"
    rw [Int.zero_add]
    refine m_new (ds := []) .nil (by simp) (fun p4 H4 s4 _ i4 => ?_)
    have h34 := s4 _ _ h3
    walk_at "go"
    refine m_new (.cons i4 (.cons (j2.same s4) .nil)) (by simp) (fun p5 H5 s5 _ i5 => ?_)
    have h35 := s5 _ _ h34
    walk_at "go"
    refine m_new (.cons (.str _) (.cons (.int _) .nil)) (by simp) (fun p6 H6 s6 _ i6 => ?_)
    walk_at "go"
    refine m_new (.cons i6 .nil) (by simp) (fun p7 H7 s7 _ i7 => ?_)
    have j17 := ((((j1.same s4).same s5).same s6).same s7)
    walk_at "go"
    refine m_new (.cons j17 (.cons i7 .nil)) (by simp) (fun p8 H8 s8 _ i8 => ?_)
    walk_at "go"
    refine g_lstS (by simp) (fun p9 H9 s9 _ e9 => ?_)
    have D9 := ((((((D3.same s4).same s5).same s6).same s7).same s8).same s9)
    have ok5 : CdOk [] rws := ⟨by decide, (fun _ h => nomatch h), (fun _ h => nomatch h), ok3.r1, ok3.r2, ok3.rw_, ok3.re⟩
    have ok8 : CdOk gs [("stop", [.int (i : Int)])] := by
      have h9 : shp "stop" = some [.a] := shp_tab.2.2.2.2.2.2.2.2
      refine ⟨ok3.gl, ok3.gn, ok3.gb, Nat.le_refl 1, by show 1 ≤ 20; decide, fun r hr => ?_, ⟨_, rfl, .inr rfl⟩⟩
      rw [List.mem_singleton.mp hr]
      refine ⟨[.a], h9, rfl, ?_⟩
      rw [parts1, p_a (by omega) (by have : i < 3 := hi; omega)]
      rfl
    have all : ∀ y ∈ [V.ref a3, V.ref p5, V.ref p8], ∃ gs rws, Im H9 y (cdV gs rws) ∧ CdOk gs rws := fun y hy => by
      simp only [List.mem_cons, List.not_mem_nil, or_false] at hy
      rcases hy with rfl | rfl | rfl
      · exact ⟨gs, rws, (((((i3.same s4).same s5).same s6).same s7).same s8).same s9, ok3⟩
      · exact ⟨[], rws, (((i5.same s6).same s7).same s8).same s9, ok5⟩
      · exact ⟨gs, [("stop", [.int (i : Int)])], i8.same s9, ok8⟩
    walk_at "go"
    try refine .inl ⟨_, _, rfl, SqL.of e9, ?_⟩
    refine f_list (xs := [V.ref a3, V.ref p5, V.ref p8]) (fun j σ H' => (∃ k2 k3 k4 : Option V, σ = [some (.ref a), some (.ref d), some (.int (i : Int)), some (.ref a3), k3, k4]) ∧ Same H9 H') ⟨⟨some (.int 0), _, _, rfl⟩, Same.refl _⟩ (fun j σ H' _ h => SqL.of (h.2 _ _ e9)) ?_ ?_
    · rintro j y σ H10 hj ⟨⟨k2, k3, k4, rfl⟩, s10⟩
      obtain ⟨gs1, rws1, iy, ok1⟩ := all y (List.mem_of_getElem? hj)
      have tq := cd_tq ok1
      have iy10 := iy.same s10
      walk_at "go"
      refine ⟨y, gs1, rws1, rfl, iy10, ok1, fun H11 s11 => ?_⟩
      walk_at "go"
      refine ⟨y, gs1, rws1, rfl, iy10.same s11, ok1, fun H12 s12 => ?_⟩
      walk_at "go"
      refine ⟨_, _, .str _, rfl, .str _, .str _, tq_str, fun H13 s13 => ?_⟩
      walk_at "go"
      refine ⟨gs1, rws1, rfl, ok1, fun H14 v s14 iv => ?_⟩
      walk_at "go"
      refine ⟨_, _, _, rfl, iv, ((((iy10.same s11).same s12).same s13).same s14), tq, fun H15 s15 => ?_⟩
      walk_at "go"
      exact ⟨⟨some (.int 0), _, _, rfl⟩, ((((s10.trans s11).trans s12).trans s13).trans s14).trans s15⟩
    · rintro σ H10 ⟨⟨k2, k3, k4, rfl⟩, s10⟩
      walk_at "go"
      exact ⟨⟨_, _, _, _, rfl⟩, D9.same s10⟩
  · rintro σ H2 ⟨⟨k1, k2, k3, k4, rfl⟩, D2⟩
    walk_at "go"
    exact hQ _


theorem facts {P : Program} {w : World} {K : PySem.W.Frag} {h : Heap} {mg : Str → Option Value} {f : Addr} (X : K.In h) (G : h.Ns mainGlobals mg) (hfa : mg ("law" : Str) = some (.ref f)) (c : He.SaysX fa fn (tabs cs) [] (exB cs) w h K) :
    ∃ fd : FuncData, (∀ (s : Shared) (v : Value), BindsTo s fd ⟨[v], []⟩ [("script", v)]) ∧ ∀ base : Heap, K.In base → base.Ns mainGlobals mg → FnOk P w K mg base CX0 8 f fd ["script"] (sp_law K) :=
  law_facts (d := dOf "law" 36) X G hfa c.t.d (CsOk.of c) 18 18 rfl rfl rfl rfl rfl (fun _ _ _ _ _ _ us hl => match us, hl with | [_], _ => rfl) fun _ T => ok_law T
end K17
open PySem PySem.W PySem.Calls PyProof.Rows
theorem PySem.Challenge.cw_sameclock_k17_listings_written_and_read_holds : PySem.Challenge.rw_sameclock_k17_listings_written_and_read.Holds := by
  w_on; o_law
  refine HandSHeadRun.head_any (r := OpenLaw.row PySem.Challenge.rw_sameclock_k17_listings_written_and_read) (q := view (OpenLaw.row PySem.Challenge.rw_sameclock_k17_listings_written_and_read).prog [36]) (H := K17.hk) (ob := K17.ob) (M := 8000) (loose := (("SIGNS" : Str) :: ("REGISTERS" : Str) :: ("LABELS" : Str) :: ("PARTS" : Str) :: ("MOST_WORD" : Str) :: ("MOST_BASE" : Str) :: ("MOST_SIZE" : Str) :: ("MOST_REGIONS" : Str) :: ("MOST_ROWS" : Str) :: ("MASKS" : Str) :: ("is_count" : Str) :: ("is_part" : Str) :: ("ClockError" : Str) :: ("CodeError" : Str) :: ("BadListing" : Str) :: ("DIGITS" : Str) :: ("write_listing" : Str) :: ("number_of" : Str) :: ("read_region" : Str) :: ("read_part" : Str) :: ("read_row" : Str) :: ("may_end" : Str) :: ("read_listing" : Str) :: ("_law_mix" : Str) :: ("_law_stream" : Str) :: ("_law_pick" : Str) :: ("_law_reg" : Str) :: ("_law_place" : Str) :: ("_law_row" : Str) :: ("_law_code" : Str) :: ("_law_listing" : Str) :: ("_law_equal" : Str) :: [])) (d := HandSHeadRun.topDef (OpenLaw.row PySem.Challenge.rw_sameclock_k17_listings_written_and_read).prog 36) (kwd := []) K17.ob_eq
    (by kernel_rfl) (fun s => by kernel_rfl) K17.run (by kernel_rfl) (by kernel_rfl) (by kernel_rfl) (by rfl) (by first | assumption | decide +kernel) (by decide +kernel) ⟨rfl, rfl, rfl, rfl, rfl, by decide +kernel⟩ ?hw ?hc
  case hw => w_witness2
  case hc =>
    refine L2.walk_ofE (l := PySem.Challenge.rw_sameclock_k17_listings_written_and_read) (n := 63) (k := 8) (x := "script") (CX := L2.CX0) rfl (by decide) (by kernel_rfl) ⟨rfl, by decide, by decide⟩ ?F (fun _ _ _ _ z => z)
    intro w mg fa h Y G hmg0
    obtain ⟨K, KX, c⟩ := Y
    have hmg : mg ("law" : PySem.Str) = some (.ref fa) := by
      have e : (HandSHeadRun.topDef (OpenLaw.row PySem.Challenge.rw_sameclock_k17_listings_written_and_read).prog 36).name = ("law" : PySem.Str) := by kernel_rfl
      rw [← e]
      exact hmg0
    obtain ⟨fd, hb, hF⟩ := K17.facts (P := (PySem.Challenge.rw_sameclock_k17_listings_written_and_read).prog) (w := w) KX G hmg c
    exact ⟨K, fd, K17.sp_law K, KX, hb, fun H a ns hl _ hS => ⟨a, ns, rfl, hS, hl, fun _ => rfl⟩, hF⟩
#print axioms PySem.Challenge.cw_sameclock_k17_listings_written_and_read_holds

