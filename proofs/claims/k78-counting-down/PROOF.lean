import PyProof.Rows.All
import Wide.All
import OpenK.AllK
import Wide.FinOn
import HandS.ForMost
import HandS.More
import HandS.IsInst
import HandS.Wide
import HandS.Codes
import HandS.Defaults
import HandS.ClsMeth
import HandS.Rev
import HandS.Head0
import HandS.Head1
import HandS.Head2
import HandS.HeadEnd
import HandS.HeadHook1
import HandS.HeadHook2
import HandS.HeadHook3
import HandS.HeadHook4
import PySem.Challenge.RW_manygoings_k78_counting_down

set_option Elab.async false
set_option linter.all false
set_option maxRecDepth 100000
set_option maxHeartbeats 1000000
namespace MG
open PySem PySem.Spec PyProof.Rows L2
/-! ## 1. Fields of an instance: names beside values -/
theorem fz_get : ∀ {ns : List Str} {vs : List V} {i : Nat} {f : Str} {v : V}, ns[i]? = some f → ns.Nodup → vs[i]? = some v → (ns.zip vs).lookup f = some v
  | [], _, _, _, _, h, _, _ => by simp at h
  | _ :: _, [], _, _, _, _, _, h => by simp at h
  | n :: ns, x :: vs, 0, f, v, h, _, hv => by
    have e1 : n = f := Option.some.inj h
    have e2 : x = v := Option.some.inj hv
    subst e1 e2
    simp [List.zip_cons_cons, List.lookup_cons]
  | n :: ns, x :: vs, i + 1, f, v, h, nd, hv => by
    have h' : ns[i]? = some f := h
    have ne : f ≠ n := fun e => (List.nodup_cons.mp nd).1 (e ▸ List.mem_of_getElem? h')
    have ih := fz_get (ns := ns) (vs := vs) (i := i) h' (List.nodup_cons.mp nd).2 hv
    rw [List.zip_cons_cons, List.lookup_cons, beq_eq_false_iff_ne.mpr ne]
    exact ih
theorem fz_no : ∀ {ns : List Str} {vs : List V} {f : Str}, f ∉ ns → (ns.zip vs).lookup f = none
  | [], _, _, _ => by simp
  | _ :: _, [], _, _ => by simp
  | n :: ns, x :: vs, f, h => by
    have ne : f ≠ n := fun e => h (e ▸ List.mem_cons_self)
    rw [List.zip_cons_cons, List.lookup_cons, beq_eq_false_iff_ne.mpr ne]
    exact fz_no fun m => h (List.mem_cons_of_mem _ m)
theorem fz_put : ∀ {ns : List Str} {vs : List V} {i : Nat} {f : Str} {v : V}, ns[i]? = some f → ns.Nodup → ns.length = vs.length → putF f v (ns.zip vs) = ns.zip (vs.set i v)
  | [], _, _, _, _, h, _, _ => by simp at h
  | _ :: _, [], _, _, _, _, _, h => by simp at h
  | n :: ns, x :: vs, 0, f, v, h, _, _ => by
    have e1 : n = f := Option.some.inj h
    subst e1
    simp [List.zip_cons_cons, putF]
  | n :: ns, x :: vs, i + 1, f, v, h, nd, hl => by
    have h' : ns[i]? = some f := h
    have ne : n ≠ f := fun e => (List.nodup_cons.mp nd).1 (e.symm ▸ List.mem_of_getElem? h')
    rw [List.zip_cons_cons, List.set_cons_succ, List.zip_cons_cons]
    show (if n = f then _ else _) = _
    rw [if_neg ne, fz_put h' (List.nodup_cons.mp nd).2 (by simpa using hl)]
theorem fz_new : ∀ {ns : List Str} {vs : List V} {f : Str} {v : V}, f ∉ ns → ns.length = vs.length → putF f v (ns.zip vs) = (ns ++ [f]).zip (vs ++ [v])
  | [], [], _, _, _, _ => rfl
  | [], _ :: _, _, _, _, h => by simp at h
  | _ :: _, [], _, _, _, h => by simp at h
  | n :: ns, x :: vs, f, v, h, hl => by
    have ne : n ≠ f := fun e => h (e ▸ List.mem_cons_self)
    show putF f v ((n, x) :: ns.zip vs) = _
    rw [List.cons_append, List.cons_append, List.zip_cons_cons]
    show (if n = f then _ else _) = _
    rw [if_neg ne, fz_new (fun m => h (List.mem_cons_of_mem _ m)) (by simpa using hl)]
theorem fz_len {ns : List Str} {vs : List V} (h : ns.length = vs.length) (hn : ns.length < 1000) : (ns.zip vs).length < 1000 := by
  rw [List.length_zip]; omega

/-! ## 2. Calls, by names -/
section
variable {P : Program} {w : World} {K : PySem.W.Frag} {mg : Str → Option Value} {base : Heap}
structure Cal (P : Program) (w : World) (K : PySem.W.Frag) (mg : Str → Option Value) (base : Heap) (k : Nat) (x : Str) (sp : Sp) (dvs : List V) : Prop where
  ex : ∃ (f : Addr) (fd : FuncData) (ps : List Str) (ds : List Value), FnOk P w K mg base CX0 k f fd ps sp ∧ mg x = some (.ref f) ∧ PySem.W.keepIn K (.ref f) = true ∧ Binds K fd ps ds ∧ Vals dvs ds
structure Met (P : Program) (w : World) (K : PySem.W.Frag) (mg : Str → Option Value) (base : Heap) (k : Nat) (C : Addr) (m : Str) (sp : Sp) (dvs : List V) : Prop where
  ex : ∃ (f : Addr) (fd : FuncData) (ps : List Str) (ds : List Value), Cls K C ∧ Meth K C m f ∧ FnOk P w K mg base CX0 k f fd ps sp ∧ Binds K fd ps ds ∧ Vals dvs ds
structure Mak (P : Program) (w : World) (K : PySem.W.Frag) (mg : Str → Option Value) (base : Heap) (k : Nat) (x : Str) (C : Addr) (sp : Sp) (dvs : List V) : Prop where
  ex : ∃ (f : Addr) (fd : FuncData) (ps : List Str) (ds : List Value), Mk K C f ∧ FnOk P w K mg base CX0 k f fd ps sp ∧ mg x = some (.ref C) ∧ Binds K fd ps ds ∧ Vals dvs ds
/-- a function by its address, reached through its class -/
structure Fat (P : Program) (w : World) (K : PySem.W.Frag) (mg : Str → Option Value) (base : Heap) (k : Nat) (C : Addr) (m : Str) (sp : Sp) : Prop where
  ex : ∃ (f : Addr) (fd : FuncData) (ps : List Str) (mc : Value), ClX.CRead K C mc ∧ PySem.W.findCls K (.ref C) mc m = some (.val (.ref f)) ∧ PySem.W.keepIn K (.ref f) = true ∧ FnOk P w K mg base CX0 k f fd ps sp ∧ Binds K fd ps []
theorem Met.imp {k : Nat} {C : Addr} {m : Str} {sp sp' : Sp} {dvs : List V} (M : Met P w K mg base k C m sp dvs) (h : ∀ vs H Q E, sp' vs H Q E → sp vs H Q E) : Met P w K mg base k C m sp' dvs := by
  obtain ⟨f, fd, ps, ds, a, b, c, d, e⟩ := M.ex
  exact ⟨f, fd, ps, ds, a, b, c.imp h, d, e⟩
theorem Met.mono {j k : Nat} {C : Addr} {m : Str} {sp : Sp} {dvs : List V} (M : Met P w K mg base j C m sp dvs) (h : j ≤ k) : Met P w K mg base k C m sp dvs := by
  obtain ⟨f, fd, ps, ds, a, b, c, d, e⟩ := M.ex
  exact ⟨f, fd, ps, ds, a, b, c.mono h, d, e⟩
theorem Cal.mono {j k : Nat} {x : Str} {sp : Sp} {dvs : List V} (M : Cal P w K mg base j x sp dvs) (h : j ≤ k) : Cal P w K mg base k x sp dvs := by
  obtain ⟨f, fd, ps, ds, c, d, e, g, i⟩ := M.ex
  exact ⟨f, fd, ps, ds, c.mono h, d, e, g, i⟩
/-- THE RULE, for a def that lets no exception out -/
theorem fd_ok {x qual : Str} {params : Arguments} {body : List Stmt} {scope : Scope} {dvs : List V} {f : Addr} {fd : FuncData} {N ps : List Str} {k : Nat} {sp : Sp} (F : FunD K x qual params body scope dvs [] f fd) (S : FnScope N ps scope)
    (len : ∀ vs H Q E, sp vs H Q E → vs.length = ps.length)
    (hbody : ∀ (cdv : Value) (A : Around) (outer : List Env) (s : Shared) (H : Hp) (vs : List V) (Q : VK) (E : XK), Room k (A.deeper (envOfC qual scope s.heap.objs.size f cdv)) → sp vs H Q E →
      ∃ t, PSs (cxOf CX0 P w K mg base N qual scope f cdv A outer s H E).nox body t ∧ t { nx := fun _ H' => Q .non H', rt := Q } (start N vs) H) : FnOk P w K mg base CX0 (k + 1) f fd ps sp :=
  F.ok S len fun cdv A outer s H vs Q E hr h => let ⟨t, a, b⟩ := hbody cdv A outer s H vs Q E hr h; ⟨t, a.nox, b⟩
end
section
variable {X : Cx} {k j : Nat} {x m : Str} {C : Addr} {sp : Sp} {dvs : List V} {p pos apos : Pos} {e o : Expr} {es : List Expr} {ta : TE} {t : TA}
theorem pe_c (c : Cal X.prog X.w X.K X.mg X.base k x sp dvs) (hr : Room j X.A) (hk : k ≤ j) (hg : Gl X x) (ha : PA X (e :: es) t)
    (hdb : (x == ("__debug__" : Str)) = false := by decide) (he : starEach (e :: es) X.env = (false, eval e X.env) :: starEach es X.env := by rfl) (hpl : (backTo pos (starEach es X.env)).any (·.1) = false := by rfl) :
    PE X (.Call (.Name x p) (e :: es) [] pos) (tCall sp dvs E0 t) := by
  obtain ⟨f, fd, ps, ds, F, hm, kp, b, d⟩ := c.ex
  exact pe_call F (hr.mono hk) hg hm kp b d pass0 ha hdb he hpl
theorem pe_mk (c : Mak X.prog X.w X.K X.mg X.base k x C sp dvs) (hr : Room j X.A) (hk : k + 1 ≤ j) (hg : Gl X x) (ha : PA X (e :: es) t)
    (hdb : (x == ("__debug__" : Str)) = false := by decide) (he : starEach (e :: es) X.env = (false, eval e X.env) :: starEach es X.env := by rfl) (hpl : (backTo pos (starEach es X.env)).any (·.1) = false := by rfl) :
    PE X (.Call (.Name x p) (e :: es) [] pos) (tMake C sp dvs E0 t) := by
  obtain ⟨f, fd, ps, ds, M, F, hm, b, d⟩ := c.ex
  exact pe_make M F (hr.mono hk) hg hm b d pass0 ha hdb he hpl
theorem pe_mk0 (c : Mak X.prog X.w X.K X.mg X.base k x C sp dvs) (hr : Room j X.A) (hk : k + 1 ≤ j) (hg : Gl X x) (hdb : (x == ("__debug__" : Str)) = false := by decide) :
    PE X (.Call (.Name x p) [] [] pos) (tMake C sp dvs E0 tNil) := by
  obtain ⟨f, fd, ps, ds, M, F, hm, b, d⟩ := c.ex
  exact pe_make0 M F (hr.mono hk) hg hm b d pass0 hdb
theorem pe_mt {pl : Sem Bool} (c : Met X.prog X.w X.K X.mg X.base k C m sp dvs) (hr : Room j X.A) (hk : k ≤ j) (he : PE X o ta) (ha : PA X (e :: es) t)
    (hst : starEach (e :: es) X.env = (false, eval e X.env) :: starEach es X.env := by rfl) (hpl : (backTo pos (starEach es X.env)).any (·.1) = false := by rfl)
    (ht : eval (.Call (.Attribute o m apos) (e :: es) [] pos) X.env = (do
      let ov ← eval o X.env
      standAt apos.atName
      let (f, first) ← holding [ov] (getMethod ov m pl)
      callWith pos f first (backTo pos (starEach (e :: es) X.env)) (backToKw pos (keywordEach [] X.env))) := by rfl) :
    PE X (.Call (.Attribute o m apos) (e :: es) [] pos) (tMeth C m sp dvs E0 ta t) := by
  obtain ⟨f, fd, ps, ds, cl, hm, F, b, d⟩ := c.ex
  exact pe_meth (pl := pl) he cl hm F (hr.mono hk) b d pass0 ha hst hpl ht
theorem pe_mt0 {pl : Sem Bool} (c : Met X.prog X.w X.K X.mg X.base k C m sp dvs) (hr : Room j X.A) (hk : k ≤ j) (he : PE X o ta)
    (ht : eval (.Call (.Attribute o m apos) [] [] pos) X.env = (do
      let ov ← eval o X.env
      standAt apos.atName
      let (f, first) ← holding [ov] (getMethod ov m pl)
      callWith pos f first (backTo pos (starEach [] X.env)) (backToKw pos (keywordEach [] X.env))) := by rfl) :
    PE X (.Call (.Attribute o m apos) [] [] pos) (tMeth C m sp dvs E0 ta tNil) := by
  obtain ⟨f, fd, ps, ds, cl, hm, F, b, d⟩ := c.ex
  exact pe_meth0 (pl := pl) he cl hm F (hr.mono hk) b d pass0 ht
/-- C.m(..), C a class of the module, m a def of it -/
theorem pe_clsfn {pl : Sem Bool} (gm : X.mg x = some (.ref C)) (c : Fat X.prog X.w X.K X.mg X.base k C m sp) (hr : Room j X.A) (hk : k ≤ j) (hg : Gl X x) (ha : PA X (e :: es) t)
    (hd : (x == ("__debug__" : Str)) = false := by decide)
    (hst : starEach (e :: es) X.env = (false, eval e X.env) :: starEach es X.env := by rfl) (hpl : (backTo pos (starEach es X.env)).any (·.1) = false := by rfl)
    (ht : eval (.Call (.Attribute (.Name x p) m apos) (e :: es) [] pos) X.env = (do
      let ov ← eval (.Name x p) X.env
      standAt apos.atName
      let (f, first) ← holding [ov] (getMethod ov m pl)
      callWith pos f first (backTo pos (starEach (e :: es) X.env)) (backToKw pos (keywordEach [] X.env))) := by rfl) :
    PE X (.Call (.Attribute (.Name x p) m apos) (e :: es) [] pos) (tCall sp [] E0 t) := by
  obtain ⟨f, fd, ps, mc, r, fc, kp, F, b⟩ := c.ex
  have he : PE X (.Name x p) (tC (.ref C)) := pe_glob hg gm rfl hd
  refine ⟨fun pins s σ H Q I h => ?_⟩
  refine PySem.W.methodCall_KW (pl := pl) (thn (he.run pins s σ H (fun v H' => v = V.ref C ∧ H' = H) I ⟨rfl, rfl⟩) fun u s1 ⟨v, H1, I1, rx, ev, eh⟩ => ?_) ht
  subst ev eh
  obtain rfl : u = Value.ref C := rx
  have cv : ClX.CVal X.K C mc m (V.ref f) (Value.ref f) := ⟨fc, rfl⟩
  refine PySem.W.method_cls I1.kIn r.ga (ClX.getcval_ok I1 r cv fun s2 I2 => ?_)
  refine PySem.W.callWith_K (first := []) (h₀ := X.base) I.ok.mod.kin kp (thn (ha.run pos pins s2 σ H1 _ I2 h) fun us s3 ⟨vs, H2, I3, rr, q2⟩ => ⟨I3.kIn, ?_⟩) hst hpl
  exact run_fn (us := us) (vs := vs) F (hr.mono hk) b .nil pass0 I3 rr q2
theorem pe_gc {v : V} (hg : Gl X x) (h : ∃ u, X.mg x = some u ∧ RelV v u) (hd : (x == ("__debug__" : Str)) = false := by decide) : PE X (.Name x pos) (tC v) := by
  obtain ⟨u, hm, r⟩ := h
  exact pe_glob hg hm r hd
end

/-- C.m is the def that an instance's m is -/
def clsFnB (K : PySem.W.Frag) (C m : Str) : Bool := PySem.W.readsIn K (He.ga K C) (.type "type") && (He.eqO (PySem.W.specialIn K (.ref (He.ga K C)) "__getattribute__") (some (some (.builtin "type.__getattribute__"))) &&
  match PySem.W.findCls K (.ref (He.ga K C)) (.type "type") m with
  | some (.val (.ref f)) => decide (f = He.ma K (He.ga K C) m)
  | _ => false)
theorem clsFnB_ok {K : PySem.W.Frag} {C m : Str} (h : clsFnB K C m = true) : ClX.CRead K (He.ga K C) (.type "type") ∧ PySem.W.findCls K (.ref (He.ga K C)) (.type "type") m = some (.val (.ref (He.ma K (He.ga K C) m))) := by
  obtain ⟨h1, h⟩ := He.ba h
  obtain ⟨h2, h⟩ := He.ba h
  refine ⟨⟨h1, He.eqO_ok h2⟩, ?_⟩
  split at h
  · rename_i f e
    rw [e, of_decide_eq_true h]
  · cases h
/-! ## 3. What may change -/
/-- all that stood, but what is in F, stands as it was; and tuples stand anyhow -/
structure Mv (F : Addr → Prop) (H : Hp) (F' : Addr → Prop) (H' : Hp) : Prop where
  frm : ∀ b o, H b = some o → ¬ F b → H' b = some o
  tup : ∀ b xs, H b = some (.tup xs) → H' b = some (.tup xs)
  grow : ∀ b, F' b → F b ∨ H b = none
  liv : ∀ b, H b ≠ none → H' b ≠ none
theorem Mv.refl (F : Addr → Prop) (H : Hp) : Mv F H F H := ⟨fun _ _ h _ => h, fun _ _ h => h, fun _ h => .inl h, fun _ h => h⟩
theorem Mv.trans {F F1 F2 : Addr → Prop} {H H1 H2 : Hp} (a : Mv F H F1 H1) (b : Mv F1 H1 F2 H2) : Mv F H F2 H2 where
  frm := fun c o h hn => b.frm c o (a.frm c o h hn) fun f => by
    rcases a.grow c f with g | g
    · exact hn g
    · rw [h] at g; cases g
  tup := fun c xs h => b.tup c xs (a.tup c xs h)
  grow := fun c f => by
    rcases b.grow c f with g | g
    · exact a.grow c g
    · cases e : H c with
      | none => exact .inr rfl
      | some o => exact absurd g (a.liv c (by rw [e]; exact fun z => nomatch z))
  liv := fun c h => b.liv c (a.liv c h)
/-- an object of F is changed -/
theorem Mv.wr {F F' : Addr → Prop} {H H' : Hp} {a : Addr} {o : HO} (m : Mv F H F' H') (h : F' a) (hn : ∀ xs, H' a ≠ some (.tup xs)) : Mv F H F' (upd H' a o) :=
  m.trans ⟨fun b u e hf => by rw [upd_ne (fun z : b = a => hf (by rw [z]; exact h))]; exact e, fun b xs e => by rw [upd_ne (fun z : b = a => hn xs (by rw [← z]; exact e))]; exact e, fun _ f => .inl f, fun b hb => by
    unfold upd; split
    · exact fun z => nomatch z
    · exact hb⟩
/-- an object is new, and F's from now on, or nobody's -/
theorem Mv.new {F F' : Addr → Prop} {H H' : Hp} {a : Addr} {o : HO} (m : Mv F H F' H') (h : H' a = none) : Mv F H (fun b => F' b ∨ b = a) (upd H' a o) :=
  m.trans ⟨fun b u e hf => by rw [upd_ne (ne_of_none e h)]; exact e, fun b xs e => by rw [upd_ne (ne_of_none e h)]; exact e, fun b f => by
    rcases f with f | f
    · exact .inl f
    · exact .inr (f ▸ h), fun b hb => by
    unfold upd; split
    · exact fun z => nomatch z
    · exact hb⟩
theorem Mv.new0 {F F' : Addr → Prop} {H H' : Hp} {a : Addr} {o : HO} (m : Mv F H F' H') (h : H' a = none) : Mv F H F' (upd H' a o) :=
  ⟨(m.new h).frm, (m.new h).tup, m.grow, (m.new h).liv⟩
/-- an object that is newer than H, and nobody's, is changed -/
theorem Mv.own {F F' : Addr → Prop} {H H' : Hp} {l : Addr} {o : HO} (m : Mv F H F' H') (hl : H l = none) : Mv F H F' (upd H' l o) :=
  ⟨fun b u e hf => by rw [upd_ne (ne_of_none e hl)]; exact m.frm b u e hf, fun b xs e => by rw [upd_ne (ne_of_none e hl)]; exact m.tup b xs e, m.grow, fun b hb => by
    unfold upd; split
    · exact fun z => nomatch z
    · exact m.liv b hb⟩
/-- an object is made and stored in a field of p -/
theorem mk_fld {H0 H : Hp} {p r : Addr} {o o' op : HO} (kp : ∀ b u, H0 b = some u → b ≠ p → H b = some u) (hp0 : H0 p ≠ none) (hp : H p = some op) (nr : H r = none) :
    (upd (upd H r o) p o') p = some o' ∧ (upd (upd H r o) p o') r = some o ∧ (∀ b u, H b = some u → b ≠ p → (upd (upd H r o) p o') b = some u) ∧ H0 r = none ∧ r ≠ p := by
  have ne : p ≠ r := ne_of_none hp nr
  refine ⟨upd_same, by rw [upd_ne ne.symm, upd_same], fun b u e nb => by rw [upd_ne nb, upd_ne (ne_of_none e nr)]; exact e, ?_, ne.symm⟩
  cases e : H0 r with
  | none => rfl
  | some u => rw [kp r u e ne.symm] at nr; cases nr
/-- tuples stand when a list changes -/
theorem tup_l {H : Hp} {l : Addr} {us : List V} {o : HO} (hl : H l = some (.lst us)) : ∀ b xs, H b = some (.tup xs) → upd H l o b = some (.tup xs) := fun b xs e => by
  rw [upd_ne (ne_of e hl (by intro z; cases z))]; exact e
theorem Mv.nF {F F' : Addr → Prop} {H H' : Hp} {l : Addr} {o : HO} (m : Mv F H F' H') (h : H l = some o) (n : ¬ F l) : ¬ F' l := fun f => by
  rcases m.grow l f with g | g
  · exact n g
  · rw [h] at g; cases g
theorem Mv.same {F : Addr → Prop} {H H' : Hp} {F' : Addr → Prop} (m : Mv F H F' H') (hF : ∀ b o, H b = some o → ¬ F b) : Same H H' := fun b o e => m.frm b o e (hF b o e)
theorem Mv.less {F F' F'' : Addr → Prop} {H H' : Hp} (m : Mv F H F' H') (h : ∀ b, F'' b → F' b) : Mv F H F'' H' := ⟨m.frm, m.tup, fun b f => m.grow b (h b f), m.liv⟩

/-- nothing changes: there may be more -/
def Sm (H H' : Hp) : Prop := ∀ b o, H b = some o → H' b = some o
theorem Sm.mv {H H' : Hp} (h : Sm H H') (F : Addr → Prop) : Mv F H F H' := ⟨fun b o e _ => h b o e, fun b xs e => h b _ e, fun _ f => .inl f, fun b hb => by
  cases e : H b with
  | none => exact absurd e hb
  | some o => rw [h b o e]; exact fun z => nomatch z⟩
theorem Sm.refl (H : Hp) : Sm H H := fun _ _ h => h
theorem Sm.trans {H H1 H2 : Hp} (a : Sm H H1) (b : Sm H1 H2) : Sm H H2 := fun c o h => b c o (a c o h)
theorem Sm.new {H H' : Hp} {a : Addr} {o : HO} (m : Sm H H') (h : H' a = none) : Sm H (upd H' a o) := fun b u e => by
  rw [upd_ne (ne_of_none (m b u e) h)]; exact m b u e
/-! ## 4. Worths -/
abbrev Wo := Str × Int
def WV (H : Hp) (v : V) (x : Wo) : Prop := ∃ t, v = .ref t ∧ H t = some (.tup [.str x.1, .int x.2])
/-- a list of worths, by their tuples -/
inductive WL (H : Hp) : List V → List Wo → Prop where
  | nil : WL H [] []
  | cons {v : V} {x : Wo} {vs : List V} {xs : List Wo} : WV H v x → WL H vs xs → WL H (v :: vs) (x :: xs)
theorem WV.keep {H H' : Hp} {v : V} {x : Wo} (h : WV H v x) (k : ∀ b xs, H b = some (.tup xs) → H' b = some (.tup xs)) : WV H' v x :=
  let ⟨t, e, q⟩ := h; ⟨t, e, k _ _ q⟩
theorem WL.keep {H H' : Hp} {vs : List V} {xs : List Wo} (h : WL H vs xs) (k : ∀ b xs, H b = some (.tup xs) → H' b = some (.tup xs)) : WL H' vs xs := by
  induction h with
  | nil => exact .nil
  | cons a _ ih => exact .cons (a.keep k) ih
theorem WL.length {H : Hp} {vs : List V} {xs : List Wo} (h : WL H vs xs) : vs.length = xs.length := by
  induction h with
  | nil => rfl
  | cons _ _ ih => simp [ih]
theorem WL.get {H : Hp} {vs : List V} {xs : List Wo} (h : WL H vs xs) : ∀ {i : Nat} {x : Wo}, xs[i]? = some x → ∃ v, vs[i]? = some v ∧ WV H v x := by
  induction h with
  | nil => intro i x e; simp at e
  | cons a _ ih =>
    intro i x e
    cases i with
    | zero => simp at e; subst e; exact ⟨_, rfl, a⟩
    | succ i => exact ih (by simpa using e)
theorem WL.get' {H : Hp} {vs : List V} {xs : List Wo} (h : WL H vs xs) : ∀ {i : Nat} {v : V}, vs[i]? = some v → ∃ x, xs[i]? = some x ∧ WV H v x := by
  induction h with
  | nil => intro i x e; simp at e
  | cons a _ ih =>
    intro i x e
    cases i with
    | zero => simp at e; subst e; exact ⟨_, rfl, a⟩
    | succ i => exact ih (by simpa using e)
theorem WL.append {H : Hp} {vs us : List V} {xs ys : List Wo} (h : WL H vs xs) (g : WL H us ys) : WL H (vs ++ us) (xs ++ ys) := by
  induction h with
  | nil => exact g
  | cons a _ ih => exact .cons a ih
theorem WL.one {H : Hp} {v : V} {x : Wo} (h : WV H v x) : WL H [v] [x] := .cons h .nil
theorem WL.split {H : Hp} : ∀ {us : List V} {xs : List Wo} {x : Wo}, WL H us (xs ++ [x]) → ∃ us' v, us = us' ++ [v] ∧ WL H us' xs ∧ WV H v x
  | _, [], x, h => by
    cases h with
    | cons a t => cases t; exact ⟨[], _, rfl, .nil, a⟩
  | _, y :: xs, x, h => by
    cases h with
    | cons a t =>
      obtain ⟨us', v, rfl, w, z⟩ := WL.split t
      exact ⟨_ :: us', v, rfl, .cons a w, z⟩
theorem WL.drop {H : Hp} {vs : List V} {xs : List Wo} (h : WL H vs xs) : ∀ n : Nat, WL H (vs.drop n) (xs.drop n) := by
  induction h with
  | nil => intro n; simp; exact .nil
  | cons a t ih =>
    intro n
    cases n with
    | zero => exact .cons a t
    | succ n => exact ih n
theorem WL.take {H : Hp} {vs : List V} {xs : List Wo} (h : WL H vs xs) : ∀ n : Nat, WL H (vs.take n) (xs.take n) := by
  induction h with
  | nil => intro n; simp; exact .nil
  | cons a t ih =>
    intro n
    cases n with
    | zero => exact .nil
    | succ n => exact .cons a (ih n)
theorem WL.reverse {H : Hp} {vs : List V} {xs : List Wo} (h : WL H vs xs) : WL H vs.reverse xs.reverse := by
  induction h with
  | nil => exact .nil
  | cons a t ih => simp only [List.reverse_cons]; exact ih.append (.one a)
theorem WL.dropLast {H : Hp} {vs : List V} {xs : List Wo} (h : WL H vs xs) : WL H vs.dropLast xs.dropLast := by
  rw [List.dropLast_eq_take, List.dropLast_eq_take, h.length]
  exact h.take _
/-- as data, for == -/
def dWo (x : Wo) : PyData := .tuple [.str x.1, .int x.2]
theorem WV.dp {K : PySem.W.Frag} {H : Hp} {v : V} {x : Wo} (h : WV H v x) : Dp K H v (dWo x) := by
  obtain ⟨t, rfl, e⟩ := h
  exact .tup (SqT.of e) (.cons (.str _) (.cons (.int _) .nil))
theorem WL.dp {K : PySem.W.Frag} {H : Hp} {vs : List V} {xs : List Wo} (h : WL H vs xs) : DpAll K H vs (xs.map dWo) := by
  induction h with
  | nil => exact .nil
  | cons a _ ih => exact .cons a.dp ih

/-! ## 5. Readings, step by step -/
section
variable {K : PySem.W.Frag} {σ : L2.St} {H : Hp} {Q : VK} {D : Ends} {ta tb te : TE} {t u : TS} {tt tu : TT} {v x y : V} {i : Nat} {f : Str}
theorem r_seq (h : t { D with nx := u D } σ H) : tSeq t u D σ H := h
theorem r_next (h : D.nx σ H) : tNext D σ H := h
theorem r_set (h : te σ H fun x H1 => D.nx (σ.set i (some x)) H1) : tAsg te (gName i) D σ H := h
theorem r_asg {g : TG} (h : te σ H fun x H1 => g x σ H1 D.nx) : tAsg te g D σ H := h
theorem r_gsub {to ti : TE} {r : TSet} {Q : L2.St → Hp → Prop} (h : to σ H fun o H1 => ti σ H1 fun i H2 => r o i v H2 fun H3 => Q σ H3) : gSub to ti r v σ H Q := h
theorem r_drop (h : te σ H fun _ H1 => D.nx σ H1) : tDrop te D σ H := h
theorem r_ret (h : te σ H D.rt) : tRet te D σ H := h
theorem r_retN (h : D.rt .non H) : tRetN D σ H := h
theorem r_ifs (h : tt σ H fun b H1 => if b = true then t D σ H1 else u D σ H1) : tIfS tt t u D σ H := h
theorem r_var (h : σ[i]? = some (some v)) (q : Q v H) : tVar i σ H Q := ⟨v, h, q⟩
theorem r_c (q : Q v H) : tC v σ H Q := q
theorem r_op {r : R2} (h : ta σ H fun x H1 => tb σ H1 fun y H2 => r x y H2 Q) : tOp r ta tb σ H Q := h
theorem r_un {r : V → Hp → VK → Prop} (h : ta σ H fun x H1 => r x H1 Q) : tUn r ta σ H Q := h
def RFld (K : PySem.W.Frag) (f : Str) (x : V) (H : Hp) (Q : VK) : Prop := ∃ a C dx fs v, x = .ref a ∧ H a = some (.ins C dx fs) ∧ Cls K C ∧ NoAttr K C f ∧ fs.lookup f = some v ∧ Q v H
theorem r_fld (h : ta σ H fun x H1 => RFld K f x H1 Q) : tFld K ta f σ H Q := h
theorem r_fld1 {a C dx : Addr} {fs : List (Str × V)} (h : H a = some (.ins C dx fs)) (hc : Cls K C) (hn : NoAttr K C f) (hl : fs.lookup f = some v) (q : Q v H) : RFld K f (.ref a) H Q := ⟨a, C, dx, fs, v, rfl, h, hc, hn, hl, q⟩
def RPut (K : PySem.W.Frag) (f : Str) (x y : V) (H : Hp) (Q : Hp → Prop) : Prop := ∃ a C dx fs, x = .ref a ∧ H a = some (.ins C dx fs) ∧ Cls K C ∧ NoAttr K C f ∧ fs.length < 1000 ∧ Q (upd H a (.ins C dx (putF f y fs)))
theorem r_sfld (h : tb σ H fun y H1 => ta σ H1 fun x H2 => RPut K f x y H2 fun H3 => D.nx σ H3) : sFld K ta tb f D σ H := h
theorem r_put1 {a C dx : Addr} {fs : List (Str × V)} {Q : Hp → Prop} (h : H a = some (.ins C dx fs)) (hc : Cls K C) (hn : NoAttr K C f) (hl : fs.length < 1000) (q : Q (upd H a (.ins C dx (putF f y fs)))) : RPut K f (.ref a) y H Q :=
  ⟨a, C, dx, fs, rfl, h, hc, hn, hl, q⟩
/-- a field that is not yet there | one that is there, the i-th -/
theorem r_putN {a C dx : Addr} {ns : List Str} {vs : List V} {Q : Hp → Prop} (ns' : List Str) (vs' : List V) (h : H a = some (.ins C dx (ns.zip vs))) (hc : Cls K C) (hn : NoAttr K C f) (nf : f ∉ ns) (hl : ns.length = vs.length) (hz : ns.length < 1000) (e1 : ns ++ [f] = ns') (e2 : vs ++ [y] = vs') (q : Q (upd H a (.ins C dx (ns'.zip vs')))) : RPut K f (.ref a) y H Q :=
  r_put1 h hc hn (fz_len hl hz) (by rw [fz_new nf hl, e1, e2]; exact q)
theorem r_putO {a C dx : Addr} {ns : List Str} {vs : List V} {Q : Hp → Prop} (i : Nat) (h : H a = some (.ins C dx (ns.zip vs))) (hc : Cls K C) (hn : NoAttr K C f) (hi : ns[i]? = some f) (nd : ns.Nodup) (hl : ns.length = vs.length) (hz : ns.length < 1000) (q : Q (upd H a (.ins C dx (ns.zip (vs.set i y))))) : RPut K f (.ref a) y H Q :=
  r_put1 h hc hn (fz_len hl hz) (by rw [fz_put hi nd hl]; exact q)
def RPut2 (f : Str) (a : Addr) (z : V) (H : Hp) (Q : Hp → Prop) : Prop := ∃ C dx fs, H a = some (.ins C dx fs) ∧ fs.length < 1000 ∧ Q (upd H a (.ins C dx (putF f z fs)))
def RAug (K : PySem.W.Frag) (f : Str) (te : TE) (rd : V → V → Hp → VK → Prop) (σ : L2.St) (x : V) (H : Hp) (Q : Hp → Prop) : Prop := ∃ a C dx fs v, x = .ref a ∧ H a = some (.ins C dx fs) ∧ Cls K C ∧ NoAttr K C f ∧ fs.lookup f = some v ∧
  te σ H fun y H2 => rd v y H2 fun z H3 => ∃ dx' fs', H3 a = some (.ins C dx' fs') ∧ fs'.length < 1000 ∧ Q (upd H3 a (.ins C dx' (putF f z fs')))
theorem r_saug {rd : V → V → Hp → VK → Prop} (h : ta σ H fun x H1 => RAug K f tb rd σ x H1 fun H3 => D.nx σ H3) : sFldAug K ta tb rd f D σ H := h
/-- an int field changed by a written int -/
theorem r_augC {rd : V → V → Hp → VK → Prop} {a C dx : Addr} {fs : List (Str × V)} {z : V} {Q : Hp → Prop} (h : H a = some (.ins C dx fs)) (hc : Cls K C) (hn : NoAttr K C f) (hl : fs.lookup f = some v) (hz : fs.length < 1000)
    (hr : ∀ Q : VK, Q z H → rd v y H Q) (q : Q (upd H a (.ins C dx (putF f z fs)))) : RAug K f (tC y) rd σ (.ref a) H Q :=
  ⟨a, C, dx, fs, v, rfl, h, hc, hn, hl, hr _ ⟨dx, fs, h, hz, q⟩⟩
theorem r_call {sp : Sp} {dvs : List V} {E : XK} {t : TA} (h : t σ H fun vs H1 => sp (vs ++ dvs) H1 Q E) : tCall sp dvs E t σ H Q := h
theorem r_make {C : Addr} {sp : Sp} {dvs : List V} {E : XK} {t : TA} (h : t σ H fun vs H1 => ∀ x dx, H1 x = none → H1 dx = none → dx ≠ x → sp (.ref x :: (vs ++ dvs)) (upd (upd H1 dx (.own x)) x (.ins C dx [])) (fun v H2 => v = .non ∧ Q (.ref x) H2) E) : tMake C sp dvs E t σ H Q := h
def RMeth (C : Addr) (m : Str) (sp : Sp) (dvs : List V) (E : XK) (t : TA) (σ : L2.St) (x : V) (H : Hp) (Q : VK) : Prop := ∃ a dx fs, x = .ref a ∧ H a = some (.ins C dx fs) ∧ fs.lookup m = none ∧ t σ H fun vs H2 => sp (x :: (vs ++ dvs)) H2 Q E
theorem r_meth {C : Addr} {m : Str} {sp : Sp} {dvs : List V} {E : XK} {t : TA} (h : ta σ H fun x H1 => RMeth C m sp dvs E t σ x H1 Q) : tMeth C m sp dvs E ta t σ H Q := h
theorem r_meth1 {C : Addr} {m : Str} {sp : Sp} {dvs : List V} {E : XK} {t : TA} {a dx : Addr} {fs : List (Str × V)} (h : H a = some (.ins C dx fs)) (hl : fs.lookup m = none) (q : t σ H fun vs H2 => sp (.ref a :: (vs ++ dvs)) H2 Q E) : RMeth C m sp dvs E t σ (.ref a) H Q := ⟨a, dx, fs, rfl, h, hl, q⟩
theorem r_nil {Q : List V → Hp → Prop} (q : Q [] H) : tNil σ H Q := q
theorem r_cons {t : TA} {Q : List V → Hp → Prop} (h : ta σ H fun x H1 => t σ H1 fun xs H2 => Q (x :: xs) H2) : tCons ta t σ H Q := h
theorem r_tup {t : TA} (h : t σ H fun xs H1 => xs.length ≤ sizeLine ∧ ∀ p, H1 p = none → Q (.ref p) (upd H1 p (.tup xs))) : tTup t σ H Q := h
theorem r_lst {t : TA} (h : t σ H fun xs H1 => xs.length ≤ sizeLine ∧ ∀ p, H1 p = none → Q (.ref p) (upd H1 p (.lst xs))) : tLst t σ H Q := h
theorem r_cb {r : List V → Hp → VK → Prop} {t : TA} (h : t σ H fun vs H1 => r vs H1 Q) : tCB r t σ H Q := h
theorem r_bm {T : String} {r : V → List V → Hp → VK → Prop} {t : TA} (h : ta σ H fun x H1 => tyV K T x H1 ∧ t σ H1 fun xs H2 => r x xs H2 Q) : tBM K T r ta t σ H Q := h
theorem r_bm0 {T : String} {r : V → List V → Hp → VK → Prop} (h : ta σ H fun x H1 => tyV K T x H1 ∧ r x [] H1 Q) : tBM0 K T r ta σ H Q := h
variable {R : Bool → Hp → Prop}
def RBl (x : V) (H : Hp) (R : Bool → Hp → Prop) : Prop := ∃ c, x = .bl c ∧ R c H
theorem r_bl {c : Bool} (q : R c H) : RBl (.bl c) H R := ⟨c, rfl, q⟩
theorem r_tb (h : te σ H fun x H1 => RBl x H1 R) : tB te σ H R := h
theorem r_test (h : te σ H fun x H1 => RBl x H1 R) : tTest te σ H R := h
theorem r_not (h : tt σ H fun c H1 => R (!c) H1) : tNot tt σ H R := h
theorem r_and (h : tt σ H fun c H1 => if c = true then tu σ H1 R else R false H1) : tAnd tt tu σ H R := h
theorem r_or (h : tt σ H fun c H1 => if c = true then R true H1 else tu σ H1 R) : tOr tt tu σ H R := h
theorem r_andV (h : ta σ H fun x H1 => RBl x H1 fun c H1 => if c = true then tb σ H1 Q else Q (.bl false) H1) : tAndV ta tb σ H Q := h
theorem r_orV (h : ta σ H fun x H1 => RBl x H1 fun c H1 => if c = true then Q (.bl true) H1 else tb σ H1 Q) : tOrV ta tb σ H Q := h
theorem r_notV (h : ta σ H fun x H1 => RBl x H1 fun c H1 => Q (.bl (!c)) H1) : tNotV ta σ H Q := h
theorem r_I0 {g : Int → Int → V} {i j : Int} (q : Q (g i j) H) : rI0 g (.int i) (.int j) H Q := ⟨i, j, rfl, rfl, q⟩
theorem r_I {C : Int → Int → Prop} {g : Int → Int → V} {i j : Int} (c : C i j) (q : Q (g i j) H) : rI C g (.int i) (.int j) H Q := ⟨i, j, rfl, rfl, c, q⟩
theorem r_eqI {i j : Int} (q : Q (.bl (decide (i = j))) H) : rEq (.int i) (.int j) H Q := ⟨rfl, by
  have e : decide (V.int i = V.int j) = decide (i = j) := by simp
  rw [e]; exact q⟩
theorem r_neI {i j : Int} (q : Q (.bl (!decide (i = j))) H) : rNe (.int i) (.int j) H Q := ⟨rfl, by
  have e : decide (V.int i = V.int j) = decide (i = j) := by simp
  rw [e]; exact q⟩
theorem r_eqS {i j : Str} (q : Q (.bl (decide (i = j))) H) : rEq (.str i) (.str j) H Q := ⟨rfl, by
  have e : decide (V.str i = V.str j) = decide (i = j) := by simp
  rw [e]; exact q⟩
theorem r_neS {i j : Str} (q : Q (.bl (!decide (i = j))) H) : rNe (.str i) (.str j) H Q := ⟨rfl, by
  have e : decide (V.str i = V.str j) = decide (i = j) := by simp
  rw [e]; exact q⟩
theorem r_eqB {i j : Bool} (q : Q (.bl (decide (i = j))) H) : rEq (.bl i) (.bl j) H Q := ⟨rfl, by
  have e : decide (V.bl i = V.bl j) = decide (i = j) := by simp
  rw [e]; exact q⟩
theorem r_neB {i j : Bool} (q : Q (.bl (!decide (i = j))) H) : rNe (.bl i) (.bl j) H Q := ⟨rfl, by
  have e : decide (V.bl i = V.bl j) = decide (i = j) := by simp
  rw [e]; exact q⟩
theorem r_ixL {p : Addr} {xs : List V} {i : Int} (h : SqL K H p xs) (ha : atI xs i = some v) (q : Q v H) : rIxL K (.ref p) (.int i) H Q := ⟨p, xs, i, v, rfl, rfl, h, ha, q⟩
theorem r_ixT {p : Addr} {xs : List V} {i : Int} (h : SqT K H p xs) (ha : atI xs i = some v) (q : Q v H) : rIxT K (.ref p) (.int i) H Q := ⟨p, xs, i, v, rfl, rfl, h, ha, q⟩
theorem r_din {td ty : TE} (h : ty σ H fun y H1 => td σ H1 fun x H2 => ∃ a o, x = .ref a ∧ DGet H2 a y o ∧ Q (.bl o.isSome) H2) : tDIn ty td σ H Q := h
theorem r_dnin {td ty : TE} (h : ty σ H fun y H1 => td σ H1 fun x H2 => ∃ a o, x = .ref a ∧ DGet H2 a y o ∧ Q (.bl (!o.isSome)) H2) : tDNotIn ty td σ H Q := h
theorem r_gname {Q : L2.St → Hp → Prop} (h : Q (σ.set i (some v)) H) : gName i v σ H Q := h
/-- a field, the i-th, changed by an operator -/
def RSt (C : Addr) (f : Str) (a : Addr) (z : V) (H : Hp) (Q : Hp → Prop) : Prop := ∃ dx' fs', H a = some (.ins C dx' fs') ∧ fs'.length < 1000 ∧ Q (upd H a (.ins C dx' (putF f z fs')))
theorem r_aug1 {g : V → V → Hp → VK → Prop} {a C dx : Addr} {fs : List (Str × V)} {Q : Hp → Prop} (h : H a = some (.ins C dx fs)) (hc : Cls K C) (hn : NoAttr K C f) (hv : fs.lookup f = some v)
    (q : te σ H fun y H2 => g v y H2 fun z H3 => RSt C f a z H3 Q) : RAug K f te g σ (.ref a) H Q := ⟨a, C, dx, _, v, rfl, h, hc, hn, hv, q⟩
theorem r_st1 {a C dx : Addr} {ns : List Str} {vs : List V} {z : V} {Q : Hp → Prop} (i : Nat) (h : H a = some (.ins C dx (ns.zip vs))) (hi : ns[i]? = some f) (nd : ns.Nodup) (hl : ns.length = vs.length) (hz : ns.length < 1000)
    (q : Q (upd H a (.ins C dx (ns.zip (vs.set i z))))) : RSt C f a z H Q := ⟨dx, _, h, fz_len hl hz, by rw [fz_put hi nd hl]; exact q⟩
theorem r_add {i j : Int} (q : Q (.int (i + j)) H) : rAdd (.int i) (.int j) H Q := ⟨i, j, rfl, rfl, q⟩
theorem r_sub {i j : Int} (q : Q (.int (i - j)) H) : rSub (.int i) (.int j) H Q := ⟨i, j, rfl, rfl, q⟩
def RFor (J : It) (g : TG) (tb : TS) (D : Ends) (σ : L2.St) (H1 : Hp) : Prop := ∃ W : Nat → Nat → L2.St → Hp → Prop, (∃ m, W 0 m σ H1) ∧ ∀ i m σ H, W i m σ H →
  (J.stop i H ∧ D.nx σ H) ∨ (J.go i H ∧ ∃ N : L2.St → Hp → Prop, (∀ σ' H', N σ' H' → ∃ m', m' < m ∧ W (i + 1) m' σ' H') ∧ ∀ x H', J.yld i H x H' → g x σ H' fun σ2 H2 => tb { D with nx := N, ct := N, bk := D.nx } σ2 H2)
theorem r_forL {g : TG} (h : te σ H fun x H1 => ∃ a, x = .ref a ∧ (∃ xs, SqL K H1 a xs) ∧ RFor (Itl K a) g t D σ H1) : tFor (iList K te) g t D σ H := h
theorem r_forR1 {g : TG} {ta : TA} (h : ta σ H fun vs H1 => ∃ j : Int, vs = [.int j] ∧ -(2 ^ 62) ≤ j ∧ j < 2 ^ 62 ∧ RFor (Itr 0 j.toNat) g t D σ H1) : tFor (iRng1 ta) g t D σ H := h
theorem r_forRev {g : TG} {ta : TA} (h : ta σ H fun vs H1 => ∃ (a : Addr) (xs : List V), vs = [.ref a] ∧ SqL K H1 a xs ∧ RFor (Itv K a xs.length) g t D σ H1) : tFor (iRev K ta) g t D σ H := h
theorem iteD {p : Prop} [Decidable p] {A B : Prop} (h1 : p → A) (h2 : ¬ p → B) : if decide p = true then A else B := by
  by_cases h : p
  · rw [if_pos (decide_eq_true h)]; exact h1 h
  · rw [if_neg (by simp [h])]; exact h2 h
theorem iteDN {p : Prop} [Decidable p] {A B : Prop} (h1 : ¬ p → A) (h2 : p → B) : if (!decide p) = true then A else B := by
  by_cases h : p
  · rw [if_neg (by simp [h])]; exact h2 h
  · rw [if_pos (by simp [h])]; exact h1 h
theorem ite_t {c : Bool} {A B : Prop} (e : c = true) (h : A) : if c = true then A else B := by rw [if_pos e]; exact h
theorem ite_f {c : Bool} {A B : Prop} (e : c = false) (h : B) : if c = true then A else B := by rw [if_neg (by rw [e]; decide)]; exact h
theorem iteB {c : Bool} {A B : Prop} (h1 : c = true → A) (h2 : c = false → B) : if c = true then A else B := by
  cases c with
  | true => exact iteT (h1 rfl)
  | false => exact iteF (h2 rfl)
end
section
variable {K : PySem.W.Frag} {σ : L2.St} {H : Hp} {Q : VK} {v x y : V}
theorem r_isi {c : V} {t u : Value} {b : Bool} (k : ClsV c u) (ty : TyX K H x t) (e : PySem.W.kitOne K t u = some b) (q : Q (.bl b) H) : rIsi K [x, c] H Q := ⟨x, c, t, u, b, rfl, k, ty, e, q⟩
theorem tyX_int {i : Int} : TyX K H (.int i) (.type "int") := .base (.int i)
theorem tyX_bl {i : Bool} : TyX K H (.bl i) (.type "bool") := .base (.bl i)
theorem tyX_str {i : Str} : TyX K H (.str i) (.type "str") := .base (.str i)
theorem tyX_lst {a : Addr} {xs : List V} (e : H a = some (.lst xs)) : TyX K H (.ref a) (.type "list") := .base (.lst e)
theorem tyX_tup {a : Addr} {xs : List V} (e : H a = some (.tup xs)) : TyX K H (.ref a) (.type "tuple") := .base (.tup e)
theorem tyL {a : Addr} {xs : List V} (e : H a = some (.lst xs)) : tyV K "list" (.ref a) H := .inl ⟨rfl, _, SqL.of e⟩
theorem r_append {l : Addr} {xs : List V} (h : H l = some (.lst xs)) (hl : xs.length < sizeLine) (q : Q .non (upd H l (.lst (xs ++ [y])))) : rAppend (.ref l) [y] H Q := ⟨l, xs, y, rfl, rfl, h, hl, q⟩
theorem r_extend {l b : Addr} {xs zs : List V} (h : H l = some (.lst xs)) (hb : H b = some (.lst zs)) (hl : xs.length + zs.length ≤ sizeLine) (q : Q .non (upd H l (.lst (xs ++ zs)))) : rExtend (.ref l) [.ref b] H Q := ⟨l, b, xs, zs, rfl, rfl, h, hb, hl, q⟩
theorem r_pop {l : Addr} {xs : List V} (h : H l = some (.lst (xs ++ [y]))) (q : Q y (upd H l (.lst xs))) : rPop (.ref l) [] H Q := by
  refine ⟨l, xs ++ [y], y, rfl, rfl, h, ?_, ?_⟩
  · simp
  · rw [List.dropLast_concat]; exact q
/-- xs[-1 - k] -/
theorem atI_back {α : Type} {xs : List α} {k : Nat} {v : α} (h : xs.reverse[k]? = some v) : atI xs (-1 - (k : Int)) = some v := by
  have hk : k < xs.length := by
    have := (List.getElem?_eq_some_iff.mp h).1
    simpa using this
  unfold atI ixN
  rw [if_neg (by omega), if_pos (by omega)]
  have e : (-1 - (k : Int) + (xs.length : Int)).toNat = xs.length - 1 - k := by omega
  rw [e]
  show xs[xs.length - 1 - k]? = some v
  rw [List.getElem?_reverse hk] at h
  exact h
theorem r_slL {a : Addr} {xs : List V} {lo hi : Option Int} (h : SqL K H a xs) (q : ∀ p, H p = none → Q (.ref p) (upd H p (.lst (cutV xs lo hi)))) : rSlL K (.ref a) lo hi H Q := ⟨a, xs, rfl, h, q⟩
theorem r_sl {r : V → Option Int → Option Int → Hp → VK → Prop} {ta : TE} {tl th : TO} (h : ta σ H fun x H1 => tl σ H1 fun lo H2 => th σ H2 fun hi H3 => r x lo hi H3 Q) : tSl r ta tl th σ H Q := h
theorem r_in {neg : Bool} {p : Addr} {xs : List V} {b : Bool} (h : SqL K H p xs ∨ SqT K H p xs) (hx : flatV x = true) (ha : xs.all flatV = true) (hb : (if neg then !inV x xs else inV x xs) = b) (q : Q (.bl b) H) : rIn K neg x (.ref p) H Q :=
  ⟨p, xs, rfl, h, hx, ha, by rw [hb]; exact q⟩
theorem r_eqD {d e : PyData} {b : Bool} (hx : Dp K H x d) (hy : Dp K H y e) (sd : SeqAt.shaped d = true) (se : SeqAt.shaped e = true) (hb : PyData.eqv d e = b) (q : Q (.bl b) H) : rEqD K x y H Q := ⟨d, e, hx, hy, sd, se, by rw [hb]; exact q⟩
theorem r_neD {d e : PyData} {b : Bool} (hx : Dp K H x d) (hy : Dp K H y e) (sd : SeqAt.shaped d = true) (se : SeqAt.shaped e = true) (hb : (!PyData.eqv d e) = b) (q : Q (.bl b) H) : rNeD K x y H Q := ⟨d, e, hx, hy, sd, se, by rw [hb]; exact q⟩
end
theorem cutV_drop {xs : List V} (k : Nat) : cutV xs (some (k : Int)) none = xs.drop k := by
  unfold cutV
  rw [HT.sIx_nat, HT.sIx_none]
  by_cases h : k ≤ xs.length
  · rw [Nat.min_eq_left h, List.take_of_length_le (by rw [List.length_drop]; omega)]
  · rw [Nat.min_eq_right (by omega), List.drop_eq_nil_of_le (Nat.le_refl _), List.drop_eq_nil_of_le (by omega), List.take_nil]
theorem cutV_take {xs : List V} (k : Nat) : cutV xs none (some (k : Int)) = xs.take k := by
  unfold cutV
  rw [HT.sIx_nat, HT.sIx_none, List.drop_zero, Nat.sub_zero]
  by_cases h : k ≤ xs.length
  · rw [Nat.min_eq_left h]
  · rw [Nat.min_eq_right (by omega), List.take_length, List.take_of_length_le (by omega)]
section
variable {K : PySem.W.Frag} {σ : L2.St} {H : Hp} {te : TE}
def RInt (x : V) (H : Hp) (Q : Option Int → Hp → Prop) : Prop := ∃ i, x = .int i ∧ Q (some i) H
theorem r_int {i : Int} {Q : Option Int → Hp → Prop} (q : Q (some i) H) : RInt (.int i) H Q := ⟨i, rfl, q⟩
theorem r_part {Q : Option Int → Hp → Prop} (h : te σ H fun x H1 => RInt x H1 Q) : tPart te σ H Q := h
theorem r_nopart {Q : Option Int → Hp → Prop} (q : Q none H) : tNoPart σ H Q := q
end
theorem small6 {n : Nat} (h : n ≤ 200000) : n < sizeLine := Nat.lt_of_le_of_lt h (by decide)
theorem small5 {n : Nat} (h : n ≤ 100000) : n < sizeLine := Nat.lt_of_le_of_lt h (by decide)
theorem small5' {n : Nat} (h : n ≤ 100000) : n ≤ sizeLine := Nat.le_of_lt (small5 h)
/-! ## 6. The fields of this program's classes -/
def FC : List Str := ["running", "wholes", "places", "in_box", "on_peg", "holding", "waiting"]
theorem FC_nd : FC.Nodup := by decide +kernel
theorem FC_running {v0 v1 v2 v3 v4 v5 v6 : V} : (FC.zip [v0, v1, v2, v3, v4, v5, v6]).lookup ("running" : Str) = some v0 := fz_get (i := 0) rfl FC_nd rfl
theorem FC_wholes {v0 v1 v2 v3 v4 v5 v6 : V} : (FC.zip [v0, v1, v2, v3, v4, v5, v6]).lookup ("wholes" : Str) = some v1 := fz_get (i := 1) rfl FC_nd rfl
theorem FC_places {v0 v1 v2 v3 v4 v5 v6 : V} : (FC.zip [v0, v1, v2, v3, v4, v5, v6]).lookup ("places" : Str) = some v2 := fz_get (i := 2) rfl FC_nd rfl
theorem FC_in_box {v0 v1 v2 v3 v4 v5 v6 : V} : (FC.zip [v0, v1, v2, v3, v4, v5, v6]).lookup ("in_box" : Str) = some v3 := fz_get (i := 3) rfl FC_nd rfl
theorem FC_on_peg {v0 v1 v2 v3 v4 v5 v6 : V} : (FC.zip [v0, v1, v2, v3, v4, v5, v6]).lookup ("on_peg" : Str) = some v4 := fz_get (i := 4) rfl FC_nd rfl
theorem FC_holding {v0 v1 v2 v3 v4 v5 v6 : V} : (FC.zip [v0, v1, v2, v3, v4, v5, v6]).lookup ("holding" : Str) = some v5 := fz_get (i := 5) rfl FC_nd rfl
theorem FC_waiting {v0 v1 v2 v3 v4 v5 v6 : V} : (FC.zip [v0, v1, v2, v3, v4, v5, v6]).lookup ("waiting" : Str) = some v6 := fz_get (i := 6) rfl FC_nd rfl
def FP : List Str := ["running", "wholes", "places", "in_box", "on_peg", "holding", "waiting", "most", "count_made", "count_handed", "count_moved", "high", "highs", "tops", "above"]
theorem FP_nd : FP.Nodup := by decide +kernel
theorem FP_running {v0 v1 v2 v3 v4 v5 v6 v7 v8 v9 v10 v11 v12 v13 v14 : V} : (FP.zip [v0, v1, v2, v3, v4, v5, v6, v7, v8, v9, v10, v11, v12, v13, v14]).lookup ("running" : Str) = some v0 := fz_get (i := 0) rfl FP_nd rfl
theorem FP_wholes {v0 v1 v2 v3 v4 v5 v6 v7 v8 v9 v10 v11 v12 v13 v14 : V} : (FP.zip [v0, v1, v2, v3, v4, v5, v6, v7, v8, v9, v10, v11, v12, v13, v14]).lookup ("wholes" : Str) = some v1 := fz_get (i := 1) rfl FP_nd rfl
theorem FP_places {v0 v1 v2 v3 v4 v5 v6 v7 v8 v9 v10 v11 v12 v13 v14 : V} : (FP.zip [v0, v1, v2, v3, v4, v5, v6, v7, v8, v9, v10, v11, v12, v13, v14]).lookup ("places" : Str) = some v2 := fz_get (i := 2) rfl FP_nd rfl
theorem FP_in_box {v0 v1 v2 v3 v4 v5 v6 v7 v8 v9 v10 v11 v12 v13 v14 : V} : (FP.zip [v0, v1, v2, v3, v4, v5, v6, v7, v8, v9, v10, v11, v12, v13, v14]).lookup ("in_box" : Str) = some v3 := fz_get (i := 3) rfl FP_nd rfl
theorem FP_on_peg {v0 v1 v2 v3 v4 v5 v6 v7 v8 v9 v10 v11 v12 v13 v14 : V} : (FP.zip [v0, v1, v2, v3, v4, v5, v6, v7, v8, v9, v10, v11, v12, v13, v14]).lookup ("on_peg" : Str) = some v4 := fz_get (i := 4) rfl FP_nd rfl
theorem FP_holding {v0 v1 v2 v3 v4 v5 v6 v7 v8 v9 v10 v11 v12 v13 v14 : V} : (FP.zip [v0, v1, v2, v3, v4, v5, v6, v7, v8, v9, v10, v11, v12, v13, v14]).lookup ("holding" : Str) = some v5 := fz_get (i := 5) rfl FP_nd rfl
theorem FP_waiting {v0 v1 v2 v3 v4 v5 v6 v7 v8 v9 v10 v11 v12 v13 v14 : V} : (FP.zip [v0, v1, v2, v3, v4, v5, v6, v7, v8, v9, v10, v11, v12, v13, v14]).lookup ("waiting" : Str) = some v6 := fz_get (i := 6) rfl FP_nd rfl
theorem FP_most {v0 v1 v2 v3 v4 v5 v6 v7 v8 v9 v10 v11 v12 v13 v14 : V} : (FP.zip [v0, v1, v2, v3, v4, v5, v6, v7, v8, v9, v10, v11, v12, v13, v14]).lookup ("most" : Str) = some v7 := fz_get (i := 7) rfl FP_nd rfl
theorem FP_count_made {v0 v1 v2 v3 v4 v5 v6 v7 v8 v9 v10 v11 v12 v13 v14 : V} : (FP.zip [v0, v1, v2, v3, v4, v5, v6, v7, v8, v9, v10, v11, v12, v13, v14]).lookup ("count_made" : Str) = some v8 := fz_get (i := 8) rfl FP_nd rfl
theorem FP_count_handed {v0 v1 v2 v3 v4 v5 v6 v7 v8 v9 v10 v11 v12 v13 v14 : V} : (FP.zip [v0, v1, v2, v3, v4, v5, v6, v7, v8, v9, v10, v11, v12, v13, v14]).lookup ("count_handed" : Str) = some v9 := fz_get (i := 9) rfl FP_nd rfl
theorem FP_count_moved {v0 v1 v2 v3 v4 v5 v6 v7 v8 v9 v10 v11 v12 v13 v14 : V} : (FP.zip [v0, v1, v2, v3, v4, v5, v6, v7, v8, v9, v10, v11, v12, v13, v14]).lookup ("count_moved" : Str) = some v10 := fz_get (i := 10) rfl FP_nd rfl
theorem FP_high {v0 v1 v2 v3 v4 v5 v6 v7 v8 v9 v10 v11 v12 v13 v14 : V} : (FP.zip [v0, v1, v2, v3, v4, v5, v6, v7, v8, v9, v10, v11, v12, v13, v14]).lookup ("high" : Str) = some v11 := fz_get (i := 11) rfl FP_nd rfl
theorem FP_highs {v0 v1 v2 v3 v4 v5 v6 v7 v8 v9 v10 v11 v12 v13 v14 : V} : (FP.zip [v0, v1, v2, v3, v4, v5, v6, v7, v8, v9, v10, v11, v12, v13, v14]).lookup ("highs" : Str) = some v12 := fz_get (i := 12) rfl FP_nd rfl
theorem FP_tops {v0 v1 v2 v3 v4 v5 v6 v7 v8 v9 v10 v11 v12 v13 v14 : V} : (FP.zip [v0, v1, v2, v3, v4, v5, v6, v7, v8, v9, v10, v11, v12, v13, v14]).lookup ("tops" : Str) = some v13 := fz_get (i := 13) rfl FP_nd rfl
theorem FP_above {v0 v1 v2 v3 v4 v5 v6 v7 v8 v9 v10 v11 v12 v13 v14 : V} : (FP.zip [v0, v1, v2, v3, v4, v5, v6, v7, v8, v9, v10, v11, v12, v13, v14]).lookup ("above" : Str) = some v14 := fz_get (i := 14) rfl FP_nd rfl
def FE : List Str := ["under", "worths", "holders"]
theorem FE_nd : FE.Nodup := by decide +kernel
theorem FE_under {v0 v1 v2 : V} : (FE.zip [v0, v1, v2]).lookup ("under" : Str) = some v0 := fz_get (i := 0) rfl FE_nd rfl
theorem FE_worths {v0 v1 v2 : V} : (FE.zip [v0, v1, v2]).lookup ("worths" : Str) = some v1 := fz_get (i := 1) rfl FE_nd rfl
theorem FE_holders {v0 v1 v2 : V} : (FE.zip [v0, v1, v2]).lookup ("holders" : Str) = some v2 := fz_get (i := 2) rfl FE_nd rfl
end MG

namespace MG
open PySem PySem.Spec PyProof.Rows L2
def top (i : Nat) : Stmt := PySem.Challenge.pw_manygoings_k78_counting_down.main.body.getD i (.Pass ⟨0, 0, 0, 0⟩)
abbrev s_is_whole : Stmt := top 11
abbrev N_is_whole : List Str := ["thing"]
abbrev P_is_whole : List Str := ["thing"]
abbrev s_is_worth : Stmt := top 12
abbrev N_is_worth : List Str := ["thing", "word", "number"]
abbrev P_is_worth : List Str := ["thing"]
abbrev s_is_thing : Stmt := top 13
abbrev N_is_thing : List Str := ["worth"]
abbrev P_is_thing : List Str := ["worth"]
abbrev s_things_of : Stmt := top 14
abbrev N_things_of : List Str := ["worths", "found", "worth"]
abbrev P_things_of : List Str := ["worths"]
abbrev s_is_row : Stmt := top 19
abbrev N_is_row : List Str := ["thing", "many"]
abbrev P_is_row : List Str := ["thing", "many"]
abbrev s_is_program : Stmt := top 20
abbrev N_is_program : List Str := ["thing", "row"]
abbrev P_is_program : List Str := ["thing"]
abbrev s_stands : Stmt := top 23
abbrev N_stands : List Str := ["house", "k", "word"]
abbrev P_stands : List Str := ["house", "k", "word"]
abbrev s_lacks_reached : Stmt := top 24
abbrev N_lacks_reached : List Str := ["house", "word", "k", "many"]
abbrev P_lacks_reached : List Str := ["house", "word", "k", "many"]
abbrev s_lacks : Stmt := top 25
abbrev N_lacks : List Str := ["house", "row", "many", "word"]
abbrev P_lacks : List Str := ["house", "row", "many"]
abbrev s_reckon : Stmt := top 26
abbrev N_reckon : List Str := ["house", "word", "c", "a"]
abbrev P_reckon : List Str := ["house", "word"]
abbrev s_open_box : Stmt := top 27
abbrev N_open_box : List Str := ["house", "word"]
abbrev P_open_box : List Str := ["house", "word"]
abbrev s_reach : Stmt := top 28
abbrev N_reach : List Str := ["house", "word", "k"]
abbrev P_reach : List Str := ["house", "word", "k"]
abbrev s_lead : Stmt := top 29
abbrev N_lead : List Str := ["house", "word", "to", "at"]
abbrev P_lead : List Str := ["house", "word", "to", "at"]
abbrev s_done_row : Stmt := top 30
abbrev N_done_row : List Str := ["house", "row", "at", "told", "word"]
abbrev P_done_row : List Str := ["house", "row", "at", "told"]
abbrev s_how_it_is : Stmt := top 31
abbrev N_how_it_is : List Str := ["house", "rows", "at"]
abbrev P_how_it_is : List Str := ["house", "rows", "at"]
abbrev s_run : Stmt := top 32
abbrev N_run : List Str := ["house", "rows", "steps", "at", "told", "done"]
abbrev P_run : List Str := ["house", "rows", "steps", "at"]
abbrev s_things : Stmt := top 34
abbrev N_things : List Str := ["picture", "b", "worth", "g", "place", "row"]
abbrev P_things : List Str := ["picture"]
abbrev s_roots : Stmt := top 35
abbrev N_roots : List Str := ["picture", "name", "worth"]
abbrev P_roots : List Str := ["picture"]
abbrev s_all_held : Stmt := top 36
abbrev N_all_held : List Str := ["picture", "held", "b", "worth", "g", "place", "row"]
abbrev P_all_held : List Str := ["picture"]
abbrev s_reached : Stmt := top 38
abbrev N_reached : List Str := ["picture", "held", "found", "waiting", "one"]
abbrev P_reached : List Str := ["picture"]
abbrev s_lost : Stmt := top 39
abbrev N_lost : List Str := ["picture", "found", "one"]
abbrev P_lost : List Str := ["picture"]
abbrev s_least_free : Stmt := top 41
abbrev N_least_free : List Str := ["numbers", "k"]
abbrev P_least_free : List Str := ["numbers"]
abbrev s_Copies___init__ : Stmt := inClass (top 42) 0
abbrev N_Copies___init__ : List Str := ["self"]
abbrev P_Copies___init__ : List Str := ["self"]
abbrev s_Copies_whole : Stmt := inClass (top 42) 1
abbrev N_Copies_whole : List Str := ["self"]
abbrev P_Copies_whole : List Str := ["self"]
abbrev s_Copies_whole_of : Stmt := inClass (top 42) 2
abbrev N_Copies_whole_of : List Str := ["self", "g"]
abbrev P_Copies_whole_of : List Str := ["self", "g"]
abbrev s_Copies_tall : Stmt := inClass (top 42) 3
abbrev N_Copies_tall : List Str := ["self"]
abbrev P_Copies_tall : List Str := ["self"]
abbrev s_Copies_at_depth : Stmt := inClass (top 42) 4
abbrev N_Copies_at_depth : List Str := ["self", "k"]
abbrev P_Copies_at_depth : List Str := ["self", "k"]
abbrev s_Copies_lay_on : Stmt := inClass (top 42) 5
abbrev N_Copies_lay_on : List Str := ["self", "worth"]
abbrev P_Copies_lay_on : List Str := ["self", "worth"]
abbrev s_Copies_lift_off : Stmt := inClass (top 42) 6
abbrev N_Copies_lift_off : List Str := ["self", "worth"]
abbrev P_Copies_lift_off : List Str := ["self"]
abbrev s_Copies_keep_whole : Stmt := inClass (top 42) 7
abbrev N_Copies_keep_whole : List Str := ["self", "g", "worth"]
abbrev P_Copies_keep_whole : List Str := ["self", "g"]
abbrev s_Copies_turn_to : Stmt := inClass (top 42) 8
abbrev N_Copies_turn_to : List Str := ["self", "g", "worth"]
abbrev P_Copies_turn_to : List Str := ["self", "g"]
abbrev s_Copies_forget_whole : Stmt := inClass (top 42) 9
abbrev N_Copies_forget_whole : List Str := ["self", "g", "worth"]
abbrev P_Copies_forget_whole : List Str := ["self", "g"]
abbrev s_Copies_hold : Stmt := inClass (top 42) 11
abbrev N_Copies_hold : List Str := ["self", "worth"]
abbrev P_Copies_hold : List Str := ["self", "worth"]
abbrev s_Copies_loose : Stmt := inClass (top 42) 12
abbrev N_Copies_loose : List Str := ["self", "worth"]
abbrev P_Copies_loose : List Str := ["self", "worth"]
abbrev s_Copies_settle : Stmt := inClass (top 42) 13
abbrev N_Copies_settle : List Str := ["self", "thing"]
abbrev P_Copies_settle : List Str := ["self"]
abbrev s_Copies_forget : Stmt := inClass (top 42) 14
abbrev N_Copies_forget : List Str := ["self", "thing"]
abbrev P_Copies_forget : List Str := ["self", "thing"]
abbrev s_Copies_let_by : Stmt := inClass (top 42) 15
abbrev N_Copies_let_by : List Str := ["self", "worth"]
abbrev P_Copies_let_by : List Str := ["self", "worth"]
abbrev s_Copies_let_place : Stmt := inClass (top 42) 16
abbrev N_Copies_let_place : List Str := ["self", "k"]
abbrev P_Copies_let_place : List Str := ["self", "k"]
abbrev s_Copies_out : Stmt := inClass (top 42) 17
abbrev N_Copies_out : List Str := ["self", "k", "above", "j", "worth", "one"]
abbrev P_Copies_out : List Str := ["self", "k"]
abbrev s_Copies_put : Stmt := inClass (top 42) 18
abbrev N_Copies_put : List Str := ["self", "worth"]
abbrev P_Copies_put : List Str := ["self", "worth"]
abbrev s_Copies_take : Stmt := inClass (top 42) 19
abbrev N_Copies_take : List Str := ["self", "k", "worth"]
abbrev P_Copies_take : List Str := ["self", "k"]
abbrev s_Copies_lift : Stmt := inClass (top 42) 20
abbrev N_Copies_lift : List Str := ["self", "k"]
abbrev P_Copies_lift : List Str := ["self", "k"]
abbrev s_Copies_look : Stmt := inClass (top 42) 21
abbrev N_Copies_look : List Str := ["self", "k"]
abbrev P_Copies_look : List Str := ["self", "k"]
abbrev s_Copies_height : Stmt := inClass (top 42) 22
abbrev N_Copies_height : List Str := ["self"]
abbrev P_Copies_height : List Str := ["self"]
abbrev s_Copies_pile : Stmt := inClass (top 42) 23
abbrev N_Copies_pile : List Str := ["self"]
abbrev P_Copies_pile : List Str := ["self"]
abbrev s_Copies_keep : Stmt := inClass (top 42) 24
abbrev N_Copies_keep : List Str := ["self", "place", "g"]
abbrev P_Copies_keep : List Str := ["self", "place"]
abbrev s_Copies_go : Stmt := inClass (top 42) 25
abbrev N_Copies_go : List Str := ["self", "g", "many", "place", "along", "worth", "j"]
abbrev P_Copies_go : List Str := ["self", "g", "many"]
abbrev s_Copies_box : Stmt := inClass (top 42) 26
abbrev N_Copies_box : List Str := ["self", "worth", "b"]
abbrev P_Copies_box : List Str := ["self"]
abbrev s_Copies_held : Stmt := inClass (top 42) 27
abbrev N_Copies_held : List Str := ["self", "b"]
abbrev P_Copies_held : List Str := ["self", "b"]
abbrev s_Copies_fill : Stmt := inClass (top 42) 28
abbrev N_Copies_fill : List Str := ["self", "b", "worth", "old"]
abbrev P_Copies_fill : List Str := ["self", "b", "worth"]
abbrev s_Copies_pegs : Stmt := inClass (top 42) 32
abbrev N_Copies_pegs : List Str := ["self"]
abbrev P_Copies_pegs : List Str := ["self"]
abbrev s_Copies_goings : Stmt := inClass (top 42) 33
abbrev N_Copies_goings : List Str := ["self"]
abbrev P_Copies_goings : List Str := ["self"]
abbrev s_Copies_boxes : Stmt := inClass (top 42) 34
abbrev N_Copies_boxes : List Str := ["self"]
abbrev P_Copies_boxes : List Str := ["self"]
abbrev s_Copies_place_of : Stmt := inClass (top 42) 36
abbrev N_Copies_place_of : List Str := ["self", "g"]
abbrev P_Copies_place_of : List Str := ["self", "g"]
abbrev s_Copies_sweep : Stmt := inClass (top 42) 37
abbrev N_Copies_sweep : List Str := ["self", "gone", "thing"]
abbrev P_Copies_sweep : List Str := ["self"]
abbrev s_Copies_picture : Stmt := inClass (top 42) 38
abbrev N_Copies_picture : List Str := ["self", "pegs", "goings", "boxes", "name", "g", "b"]
abbrev P_Copies_picture : List Str := ["self"]
abbrev s_Piece___init__ : Stmt := inClass (top 44) 0
abbrev N_Piece___init__ : List Str := ["self", "under", "worths"]
abbrev P_Piece___init__ : List Str := ["self", "under", "worths"]
abbrev s_pile_on : Stmt := top 45
abbrev N_pile_on : List Str := ["piece", "rows", "found", "row"]
abbrev P_pile_on : List Str := ["piece"]
abbrev s_Pieces___init__ : Stmt := inClass (top 46) 0
abbrev N_Pieces___init__ : List Str := ["self", "size"]
abbrev P_Pieces___init__ : List Str := ["self", "size"]
abbrev s_Pieces_piece_on : Stmt := inClass (top 46) 1
abbrev N_Pieces_piece_on : List Str := ["self", "under", "worths", "piece"]
abbrev P_Pieces_piece_on : List Str := ["self", "under", "worths"]
abbrev s_Pieces_run_on : Stmt := inClass (top 46) 2
abbrev N_Pieces_run_on : List Str := ["self", "under", "worths", "piece"]
abbrev P_Pieces_run_on : List Str := ["self", "under", "worths"]
abbrev s_Pieces_hand_back : Stmt := inClass (top 46) 3
abbrev N_Pieces_hand_back : List Str := ["self", "piece", "worth"]
abbrev P_Pieces_hand_back : List Str := ["self", "piece"]
abbrev s_Pieces_whole : Stmt := inClass (top 46) 4
abbrev N_Pieces_whole : List Str := ["self"]
abbrev P_Pieces_whole : List Str := ["self"]
abbrev s_Pieces_whole_of : Stmt := inClass (top 46) 5
abbrev N_Pieces_whole_of : List Str := ["self", "g"]
abbrev P_Pieces_whole_of : List Str := ["self", "g"]
abbrev s_Pieces_tall : Stmt := inClass (top 46) 6
abbrev N_Pieces_tall : List Str := ["self"]
abbrev P_Pieces_tall : List Str := ["self"]
abbrev s_Pieces_at_depth : Stmt := inClass (top 46) 7
abbrev N_Pieces_at_depth : List Str := ["self", "k", "piece"]
abbrev P_Pieces_at_depth : List Str := ["self", "k"]
abbrev s_Pieces_lay_on : Stmt := inClass (top 46) 8
abbrev N_Pieces_lay_on : List Str := ["self", "worth"]
abbrev P_Pieces_lay_on : List Str := ["self", "worth"]
abbrev s_Pieces_go_up : Stmt := inClass (top 46) 9
abbrev N_Pieces_go_up : List Str := ["self", "old", "stay"]
abbrev P_Pieces_go_up : List Str := ["self"]
abbrev s_Pieces_lift_off : Stmt := inClass (top 46) 10
abbrev N_Pieces_lift_off : List Str := ["self", "worth"]
abbrev P_Pieces_lift_off : List Str := ["self"]
abbrev s_Pieces_go_down : Stmt := inClass (top 46) 11
abbrev N_Pieces_go_down : List Str := ["self", "under", "worth"]
abbrev P_Pieces_go_down : List Str := ["self"]
abbrev s_Pieces_part : Stmt := inClass (top 46) 12
abbrev N_Pieces_part : List Str := ["self", "piece", "cut", "low"]
abbrev P_Pieces_part : List Str := ["self", "piece"]
abbrev s_Pieces_keep_whole : Stmt := inClass (top 46) 13
abbrev N_Pieces_keep_whole : List Str := ["self", "g", "top"]
abbrev P_Pieces_keep_whole : List Str := ["self", "g"]
abbrev s_Pieces_turn_to : Stmt := inClass (top 46) 14
abbrev N_Pieces_turn_to : List Str := ["self", "g", "old"]
abbrev P_Pieces_turn_to : List Str := ["self", "g"]
abbrev s_Pieces_forget_whole : Stmt := inClass (top 46) 15
abbrev N_Pieces_forget_whole : List Str := ["self", "g"]
abbrev P_Pieces_forget_whole : List Str := ["self", "g"]
abbrev s_Pieces_handed : Stmt := inClass (top 46) 22
abbrev N_Pieces_handed : List Str := ["self"]
abbrev P_Pieces_handed : List Str := ["self"]
abbrev s_Pieces_ahead : Stmt := inClass (top 46) 25
abbrev N_Pieces_ahead : List Str := ["self"]
abbrev P_Pieces_ahead : List Str := ["self"]
abbrev s_Pieces_size : Stmt := inClass (top 46) 26
abbrev N_Pieces_size : List Str := ["self"]
abbrev P_Pieces_size : List Str := ["self"]
abbrev s__law_cell_at : Stmt := top 48
abbrev N__law_cell_at : List Str := ["script", "k"]
abbrev P__law_cell_at : List Str := ["script", "k"]
abbrev s__law_bag : Stmt := top 49
abbrev N__law_bag : List Str := ["cell"]
abbrev P__law_bag : List Str := ["cell"]
abbrev s__law_draw : Stmt := top 50
abbrev N__law_draw : List Str := ["bag", "many", "one"]
abbrev P__law_draw : List Str := ["bag", "many"]
abbrev s__law_number : Stmt := top 51
abbrev N__law_number : List Str := ["bag", "way", "great"]
abbrev P__law_number : List Str := ["bag"]
abbrev s__law_same : Stmt := top 52
abbrev N__law_same : List Str := ["found", "due", "k"]
abbrev P__law_same : List Str := ["found", "due"]
abbrev s__law_house : Stmt := top 53
abbrev N__law_house : List Str := ["bag", "way"]
abbrev P__law_house : List Str := ["bag"]
abbrev s__law_within : Stmt := top 54
abbrev N__law_within : List Str := ["number", "phase", "some", "n"]
abbrev P__law_within : List Str := ["number", "phase"]
abbrev s_law : Stmt := top 55
abbrev N_law : List Str := ["script", "head", "way", "number", "start", "steps", "house", "pile", "cell", "bag", "worth", "rows", "found", "rounds", "phase", "told", "due", "left", "k"]
abbrev P_law : List Str := ["script"]
structure Txt (K : PySem.W.Frag) (w : World) (mg : Str → Option Value) : Prop where
  b_ValueError : mg "ValueError" = none
  b_abs : mg "abs" = none
  b_all : mg "all" = none
  b_any : mg "any" = none
  b_bool : mg "bool" = none
  b_dict : mg "dict" = none
  b_enumerate : mg "enumerate" = none
  b_int : mg "int" = none
  b_isinstance : mg "isinstance" = none
  b_len : mg "len" = none
  b_list : mg "list" = none
  b_max : mg "max" = none
  b_min : mg "min" = none
  b_range : mg "range" = none
  b_reversed : mg "reversed" = none
  b_set : mg "set" = none
  b_sorted : mg "sorted" = none
  b_str : mg "str" = none
  b_sum : mg "sum" = none
  b_tuple : mg "tuple" = none
  b_zip : mg "zip" = none
  g_is_whole : mg "is_whole" = some (.ref (He.ga K "is_whole"))
  g_is_worth : mg "is_worth" = some (.ref (He.ga K "is_worth"))
  g_is_thing : mg "is_thing" = some (.ref (He.ga K "is_thing"))
  g_things_of : mg "things_of" = some (.ref (He.ga K "things_of"))
  g_is_row : mg "is_row" = some (.ref (He.ga K "is_row"))
  g_is_program : mg "is_program" = some (.ref (He.ga K "is_program"))
  g_stands : mg "stands" = some (.ref (He.ga K "stands"))
  g_lacks_reached : mg "lacks_reached" = some (.ref (He.ga K "lacks_reached"))
  g_lacks : mg "lacks" = some (.ref (He.ga K "lacks"))
  g_reckon : mg "reckon" = some (.ref (He.ga K "reckon"))
  g_open_box : mg "open_box" = some (.ref (He.ga K "open_box"))
  g_reach : mg "reach" = some (.ref (He.ga K "reach"))
  g_lead : mg "lead" = some (.ref (He.ga K "lead"))
  g_done_row : mg "done_row" = some (.ref (He.ga K "done_row"))
  g_how_it_is : mg "how_it_is" = some (.ref (He.ga K "how_it_is"))
  g_run : mg "run" = some (.ref (He.ga K "run"))
  g_things : mg "things" = some (.ref (He.ga K "things"))
  g_roots : mg "roots" = some (.ref (He.ga K "roots"))
  g_all_held : mg "all_held" = some (.ref (He.ga K "all_held"))
  g_reached : mg "reached" = some (.ref (He.ga K "reached"))
  g_lost : mg "lost" = some (.ref (He.ga K "lost"))
  g_least_free : mg "least_free" = some (.ref (He.ga K "least_free"))
  g_pile_on : mg "pile_on" = some (.ref (He.ga K "pile_on"))
  g__law_cell_at : mg "_law_cell_at" = some (.ref (He.ga K "_law_cell_at"))
  g__law_bag : mg "_law_bag" = some (.ref (He.ga K "_law_bag"))
  g__law_draw : mg "_law_draw" = some (.ref (He.ga K "_law_draw"))
  g__law_number : mg "_law_number" = some (.ref (He.ga K "_law_number"))
  g__law_same : mg "_law_same" = some (.ref (He.ga K "_law_same"))
  g__law_house : mg "_law_house" = some (.ref (He.ga K "_law_house"))
  g__law_within : mg "_law_within" = some (.ref (He.ga K "_law_within"))
  g_law : mg "law" = some (.ref (He.ga K "law"))
  g_Copies : mg "Copies" = some (.ref (He.ga K "Copies"))
  cl_Copies : Cls K (He.ga K "Copies")
  mk_Copies : Mk K (He.ga K "Copies") (He.ma K (He.ga K "Copies") "__init__")
  na_Copies_running : NoAttr K (He.ga K "Copies") "running"
  na_Copies_wholes : NoAttr K (He.ga K "Copies") "wholes"
  na_Copies_places : NoAttr K (He.ga K "Copies") "places"
  na_Copies_in_box : NoAttr K (He.ga K "Copies") "in_box"
  na_Copies_on_peg : NoAttr K (He.ga K "Copies") "on_peg"
  na_Copies_holding : NoAttr K (He.ga K "Copies") "holding"
  na_Copies_waiting : NoAttr K (He.ga K "Copies") "waiting"
  g_Piece : mg "Piece" = some (.ref (He.ga K "Piece"))
  cl_Piece : Cls K (He.ga K "Piece")
  mk_Piece : Mk K (He.ga K "Piece") (He.ma K (He.ga K "Piece") "__init__")
  na_Piece_under : NoAttr K (He.ga K "Piece") "under"
  na_Piece_worths : NoAttr K (He.ga K "Piece") "worths"
  na_Piece_holders : NoAttr K (He.ga K "Piece") "holders"
  g_Pieces : mg "Pieces" = some (.ref (He.ga K "Pieces"))
  cl_Pieces : Cls K (He.ga K "Pieces")
  mk_Pieces : Mk K (He.ga K "Pieces") (He.ma K (He.ga K "Pieces") "__init__")
  na_Pieces_most : NoAttr K (He.ga K "Pieces") "most"
  na_Pieces_count_made : NoAttr K (He.ga K "Pieces") "count_made"
  na_Pieces_count_handed : NoAttr K (He.ga K "Pieces") "count_handed"
  na_Pieces_count_moved : NoAttr K (He.ga K "Pieces") "count_moved"
  na_Pieces_high : NoAttr K (He.ga K "Pieces") "high"
  na_Pieces_highs : NoAttr K (He.ga K "Pieces") "highs"
  na_Pieces_tops : NoAttr K (He.ga K "Pieces") "tops"
  na_Pieces_above : NoAttr K (He.ga K "Pieces") "above"
  na_Pieces_running : NoAttr K (He.ga K "Pieces") "running"
  na_Pieces_wholes : NoAttr K (He.ga K "Pieces") "wholes"
  na_Pieces_places : NoAttr K (He.ga K "Pieces") "places"
  na_Pieces_in_box : NoAttr K (He.ga K "Pieces") "in_box"
  na_Pieces_on_peg : NoAttr K (He.ga K "Pieces") "on_peg"
  na_Pieces_holding : NoAttr K (He.ga K "Pieces") "holding"
  na_Pieces_waiting : NoAttr K (He.ga K "Pieces") "waiting"
  c_MARKS : ∃ u, mg "MARKS" = some u ∧ RelV (V.ref (He.ga K "MARKS")) u
  c_REACHING : ∃ u, mg "REACHING" = some u ∧ RelV (V.ref (He.ga K "REACHING")) u
  c_LEADING : ∃ u, mg "LEADING" = some u ∧ RelV (V.ref (He.ga K "LEADING")) u
  c_BARE : ∃ u, mg "BARE" = some u ∧ RelV (V.ref (He.ga K "BARE")) u
  c_MOST_STEPS : ∃ u, mg "MOST_STEPS" = some u ∧ RelV (V.int 1000) u
  d_MARKS : ∃ es n, KDict K w (He.ga K "MARKS") es n
  f_is_whole : ∃ fd, FunD K "is_whole" "is_whole" (defArgs s_is_whole) (defBody s_is_whole) (defScope s_is_whole) [] [] (He.ga K "is_whole") fd
  f_is_worth : ∃ fd, FunD K "is_worth" "is_worth" (defArgs s_is_worth) (defBody s_is_worth) (defScope s_is_worth) [] [] (He.ga K "is_worth") fd
  f_is_thing : ∃ fd, FunD K "is_thing" "is_thing" (defArgs s_is_thing) (defBody s_is_thing) (defScope s_is_thing) [] [] (He.ga K "is_thing") fd
  f_things_of : ∃ fd, FunD K "things_of" "things_of" (defArgs s_things_of) (defBody s_things_of) (defScope s_things_of) [] [] (He.ga K "things_of") fd
  f_is_row : ∃ fd, FunD K "is_row" "is_row" (defArgs s_is_row) (defBody s_is_row) (defScope s_is_row) [] [] (He.ga K "is_row") fd
  f_is_program : ∃ fd, FunD K "is_program" "is_program" (defArgs s_is_program) (defBody s_is_program) (defScope s_is_program) [] [] (He.ga K "is_program") fd
  f_stands : ∃ fd, FunD K "stands" "stands" (defArgs s_stands) (defBody s_stands) (defScope s_stands) [] [] (He.ga K "stands") fd
  f_lacks_reached : ∃ fd, FunD K "lacks_reached" "lacks_reached" (defArgs s_lacks_reached) (defBody s_lacks_reached) (defScope s_lacks_reached) [] [] (He.ga K "lacks_reached") fd
  f_lacks : ∃ fd, FunD K "lacks" "lacks" (defArgs s_lacks) (defBody s_lacks) (defScope s_lacks) [] [] (He.ga K "lacks") fd
  f_reckon : ∃ fd, FunD K "reckon" "reckon" (defArgs s_reckon) (defBody s_reckon) (defScope s_reckon) [] [] (He.ga K "reckon") fd
  f_open_box : ∃ fd, FunD K "open_box" "open_box" (defArgs s_open_box) (defBody s_open_box) (defScope s_open_box) [] [] (He.ga K "open_box") fd
  f_reach : ∃ fd, FunD K "reach" "reach" (defArgs s_reach) (defBody s_reach) (defScope s_reach) [] [] (He.ga K "reach") fd
  f_lead : ∃ fd, FunD K "lead" "lead" (defArgs s_lead) (defBody s_lead) (defScope s_lead) [] [] (He.ga K "lead") fd
  f_done_row : ∃ fd, FunD K "done_row" "done_row" (defArgs s_done_row) (defBody s_done_row) (defScope s_done_row) [] [] (He.ga K "done_row") fd
  f_how_it_is : ∃ fd, FunD K "how_it_is" "how_it_is" (defArgs s_how_it_is) (defBody s_how_it_is) (defScope s_how_it_is) [] [] (He.ga K "how_it_is") fd
  f_run : ∃ fd, FunD K "run" "run" (defArgs s_run) (defBody s_run) (defScope s_run) [(V.int 0)] [] (He.ga K "run") fd
  f_things : ∃ fd, FunD K "things" "things" (defArgs s_things) (defBody s_things) (defScope s_things) [] [] (He.ga K "things") fd
  f_roots : ∃ fd, FunD K "roots" "roots" (defArgs s_roots) (defBody s_roots) (defScope s_roots) [] [] (He.ga K "roots") fd
  f_all_held : ∃ fd, FunD K "all_held" "all_held" (defArgs s_all_held) (defBody s_all_held) (defScope s_all_held) [] [] (He.ga K "all_held") fd
  f_reached : ∃ fd, FunD K "reached" "reached" (defArgs s_reached) (defBody s_reached) (defScope s_reached) [] [] (He.ga K "reached") fd
  f_lost : ∃ fd, FunD K "lost" "lost" (defArgs s_lost) (defBody s_lost) (defScope s_lost) [] [] (He.ga K "lost") fd
  f_least_free : ∃ fd, FunD K "least_free" "least_free" (defArgs s_least_free) (defBody s_least_free) (defScope s_least_free) [] [] (He.ga K "least_free") fd
  f_Copies___init__ : ∃ fd, FunD K "__init__" "Copies.__init__" (defArgs s_Copies___init__) (defBody s_Copies___init__) (defScope s_Copies___init__) [] [] (He.ma K (He.ga K "Copies") "__init__") fd
  f_Copies_whole : ∃ fd, FunD K "whole" "Copies.whole" (defArgs s_Copies_whole) (defBody s_Copies_whole) (defScope s_Copies_whole) [] [] (He.ma K (He.ga K "Copies") "whole") fd
  m_Copies_whole : Meth K (He.ga K "Copies") "whole" (He.ma K (He.ga K "Copies") "whole")
  f_Copies_whole_of : ∃ fd, FunD K "whole_of" "Copies.whole_of" (defArgs s_Copies_whole_of) (defBody s_Copies_whole_of) (defScope s_Copies_whole_of) [] [] (He.ma K (He.ga K "Copies") "whole_of") fd
  m_Copies_whole_of : Meth K (He.ga K "Copies") "whole_of" (He.ma K (He.ga K "Copies") "whole_of")
  f_Copies_tall : ∃ fd, FunD K "tall" "Copies.tall" (defArgs s_Copies_tall) (defBody s_Copies_tall) (defScope s_Copies_tall) [] [] (He.ma K (He.ga K "Copies") "tall") fd
  m_Copies_tall : Meth K (He.ga K "Copies") "tall" (He.ma K (He.ga K "Copies") "tall")
  f_Copies_at_depth : ∃ fd, FunD K "at_depth" "Copies.at_depth" (defArgs s_Copies_at_depth) (defBody s_Copies_at_depth) (defScope s_Copies_at_depth) [] [] (He.ma K (He.ga K "Copies") "at_depth") fd
  m_Copies_at_depth : Meth K (He.ga K "Copies") "at_depth" (He.ma K (He.ga K "Copies") "at_depth")
  f_Copies_lay_on : ∃ fd, FunD K "lay_on" "Copies.lay_on" (defArgs s_Copies_lay_on) (defBody s_Copies_lay_on) (defScope s_Copies_lay_on) [] [] (He.ma K (He.ga K "Copies") "lay_on") fd
  m_Copies_lay_on : Meth K (He.ga K "Copies") "lay_on" (He.ma K (He.ga K "Copies") "lay_on")
  f_Copies_lift_off : ∃ fd, FunD K "lift_off" "Copies.lift_off" (defArgs s_Copies_lift_off) (defBody s_Copies_lift_off) (defScope s_Copies_lift_off) [] [] (He.ma K (He.ga K "Copies") "lift_off") fd
  m_Copies_lift_off : Meth K (He.ga K "Copies") "lift_off" (He.ma K (He.ga K "Copies") "lift_off")
  f_Copies_keep_whole : ∃ fd, FunD K "keep_whole" "Copies.keep_whole" (defArgs s_Copies_keep_whole) (defBody s_Copies_keep_whole) (defScope s_Copies_keep_whole) [] [] (He.ma K (He.ga K "Copies") "keep_whole") fd
  m_Copies_keep_whole : Meth K (He.ga K "Copies") "keep_whole" (He.ma K (He.ga K "Copies") "keep_whole")
  f_Copies_turn_to : ∃ fd, FunD K "turn_to" "Copies.turn_to" (defArgs s_Copies_turn_to) (defBody s_Copies_turn_to) (defScope s_Copies_turn_to) [] [] (He.ma K (He.ga K "Copies") "turn_to") fd
  m_Copies_turn_to : Meth K (He.ga K "Copies") "turn_to" (He.ma K (He.ga K "Copies") "turn_to")
  f_Copies_forget_whole : ∃ fd, FunD K "forget_whole" "Copies.forget_whole" (defArgs s_Copies_forget_whole) (defBody s_Copies_forget_whole) (defScope s_Copies_forget_whole) [] [] (He.ma K (He.ga K "Copies") "forget_whole") fd
  m_Copies_forget_whole : Meth K (He.ga K "Copies") "forget_whole" (He.ma K (He.ga K "Copies") "forget_whole")
  f_Copies_hold : ∃ fd, FunD K "hold" "Copies.hold" (defArgs s_Copies_hold) (defBody s_Copies_hold) (defScope s_Copies_hold) [] [] (He.ma K (He.ga K "Copies") "hold") fd
  m_Copies_hold : Meth K (He.ga K "Copies") "hold" (He.ma K (He.ga K "Copies") "hold")
  f_Pieces_hold : ∃ fd, FunD K "hold" "Copies.hold" (defArgs s_Copies_hold) (defBody s_Copies_hold) (defScope s_Copies_hold) [] [] (He.ma K (He.ga K "Pieces") "hold") fd
  m_Pieces_hold : Meth K (He.ga K "Pieces") "hold" (He.ma K (He.ga K "Pieces") "hold")
  f_Copies_loose : ∃ fd, FunD K "loose" "Copies.loose" (defArgs s_Copies_loose) (defBody s_Copies_loose) (defScope s_Copies_loose) [] [] (He.ma K (He.ga K "Copies") "loose") fd
  m_Copies_loose : Meth K (He.ga K "Copies") "loose" (He.ma K (He.ga K "Copies") "loose")
  f_Pieces_loose : ∃ fd, FunD K "loose" "Copies.loose" (defArgs s_Copies_loose) (defBody s_Copies_loose) (defScope s_Copies_loose) [] [] (He.ma K (He.ga K "Pieces") "loose") fd
  m_Pieces_loose : Meth K (He.ga K "Pieces") "loose" (He.ma K (He.ga K "Pieces") "loose")
  f_Copies_settle : ∃ fd, FunD K "settle" "Copies.settle" (defArgs s_Copies_settle) (defBody s_Copies_settle) (defScope s_Copies_settle) [] [] (He.ma K (He.ga K "Copies") "settle") fd
  m_Copies_settle : Meth K (He.ga K "Copies") "settle" (He.ma K (He.ga K "Copies") "settle")
  f_Pieces_settle : ∃ fd, FunD K "settle" "Copies.settle" (defArgs s_Copies_settle) (defBody s_Copies_settle) (defScope s_Copies_settle) [] [] (He.ma K (He.ga K "Pieces") "settle") fd
  m_Pieces_settle : Meth K (He.ga K "Pieces") "settle" (He.ma K (He.ga K "Pieces") "settle")
  f_Copies_forget : ∃ fd, FunD K "forget" "Copies.forget" (defArgs s_Copies_forget) (defBody s_Copies_forget) (defScope s_Copies_forget) [] [] (He.ma K (He.ga K "Copies") "forget") fd
  m_Copies_forget : Meth K (He.ga K "Copies") "forget" (He.ma K (He.ga K "Copies") "forget")
  f_Pieces_forget : ∃ fd, FunD K "forget" "Copies.forget" (defArgs s_Copies_forget) (defBody s_Copies_forget) (defScope s_Copies_forget) [] [] (He.ma K (He.ga K "Pieces") "forget") fd
  m_Pieces_forget : Meth K (He.ga K "Pieces") "forget" (He.ma K (He.ga K "Pieces") "forget")
  f_Copies_let_by : ∃ fd, FunD K "let_by" "Copies.let_by" (defArgs s_Copies_let_by) (defBody s_Copies_let_by) (defScope s_Copies_let_by) [] [] (He.ma K (He.ga K "Copies") "let_by") fd
  m_Copies_let_by : Meth K (He.ga K "Copies") "let_by" (He.ma K (He.ga K "Copies") "let_by")
  f_Pieces_let_by : ∃ fd, FunD K "let_by" "Copies.let_by" (defArgs s_Copies_let_by) (defBody s_Copies_let_by) (defScope s_Copies_let_by) [] [] (He.ma K (He.ga K "Pieces") "let_by") fd
  m_Pieces_let_by : Meth K (He.ga K "Pieces") "let_by" (He.ma K (He.ga K "Pieces") "let_by")
  f_Copies_let_place : ∃ fd, FunD K "let_place" "Copies.let_place" (defArgs s_Copies_let_place) (defBody s_Copies_let_place) (defScope s_Copies_let_place) [] [] (He.ma K (He.ga K "Copies") "let_place") fd
  m_Copies_let_place : Meth K (He.ga K "Copies") "let_place" (He.ma K (He.ga K "Copies") "let_place")
  f_Pieces_let_place : ∃ fd, FunD K "let_place" "Copies.let_place" (defArgs s_Copies_let_place) (defBody s_Copies_let_place) (defScope s_Copies_let_place) [] [] (He.ma K (He.ga K "Pieces") "let_place") fd
  m_Pieces_let_place : Meth K (He.ga K "Pieces") "let_place" (He.ma K (He.ga K "Pieces") "let_place")
  f_Copies_out : ∃ fd, FunD K "out" "Copies.out" (defArgs s_Copies_out) (defBody s_Copies_out) (defScope s_Copies_out) [] [] (He.ma K (He.ga K "Copies") "out") fd
  m_Copies_out : Meth K (He.ga K "Copies") "out" (He.ma K (He.ga K "Copies") "out")
  f_Pieces_out : ∃ fd, FunD K "out" "Copies.out" (defArgs s_Copies_out) (defBody s_Copies_out) (defScope s_Copies_out) [] [] (He.ma K (He.ga K "Pieces") "out") fd
  m_Pieces_out : Meth K (He.ga K "Pieces") "out" (He.ma K (He.ga K "Pieces") "out")
  f_Copies_put : ∃ fd, FunD K "put" "Copies.put" (defArgs s_Copies_put) (defBody s_Copies_put) (defScope s_Copies_put) [] [] (He.ma K (He.ga K "Copies") "put") fd
  m_Copies_put : Meth K (He.ga K "Copies") "put" (He.ma K (He.ga K "Copies") "put")
  f_Pieces_put : ∃ fd, FunD K "put" "Copies.put" (defArgs s_Copies_put) (defBody s_Copies_put) (defScope s_Copies_put) [] [] (He.ma K (He.ga K "Pieces") "put") fd
  m_Pieces_put : Meth K (He.ga K "Pieces") "put" (He.ma K (He.ga K "Pieces") "put")
  f_Copies_take : ∃ fd, FunD K "take" "Copies.take" (defArgs s_Copies_take) (defBody s_Copies_take) (defScope s_Copies_take) [(V.int 0)] [] (He.ma K (He.ga K "Copies") "take") fd
  m_Copies_take : Meth K (He.ga K "Copies") "take" (He.ma K (He.ga K "Copies") "take")
  f_Pieces_take : ∃ fd, FunD K "take" "Copies.take" (defArgs s_Copies_take) (defBody s_Copies_take) (defScope s_Copies_take) [(V.int 0)] [] (He.ma K (He.ga K "Pieces") "take") fd
  m_Pieces_take : Meth K (He.ga K "Pieces") "take" (He.ma K (He.ga K "Pieces") "take")
  f_Copies_lift : ∃ fd, FunD K "lift" "Copies.lift" (defArgs s_Copies_lift) (defBody s_Copies_lift) (defScope s_Copies_lift) [] [] (He.ma K (He.ga K "Copies") "lift") fd
  m_Copies_lift : Meth K (He.ga K "Copies") "lift" (He.ma K (He.ga K "Copies") "lift")
  f_Pieces_lift : ∃ fd, FunD K "lift" "Copies.lift" (defArgs s_Copies_lift) (defBody s_Copies_lift) (defScope s_Copies_lift) [] [] (He.ma K (He.ga K "Pieces") "lift") fd
  m_Pieces_lift : Meth K (He.ga K "Pieces") "lift" (He.ma K (He.ga K "Pieces") "lift")
  f_Copies_look : ∃ fd, FunD K "look" "Copies.look" (defArgs s_Copies_look) (defBody s_Copies_look) (defScope s_Copies_look) [(V.int 0)] [] (He.ma K (He.ga K "Copies") "look") fd
  m_Copies_look : Meth K (He.ga K "Copies") "look" (He.ma K (He.ga K "Copies") "look")
  f_Pieces_look : ∃ fd, FunD K "look" "Copies.look" (defArgs s_Copies_look) (defBody s_Copies_look) (defScope s_Copies_look) [(V.int 0)] [] (He.ma K (He.ga K "Pieces") "look") fd
  m_Pieces_look : Meth K (He.ga K "Pieces") "look" (He.ma K (He.ga K "Pieces") "look")
  f_Copies_height : ∃ fd, FunD K "height" "Copies.height" (defArgs s_Copies_height) (defBody s_Copies_height) (defScope s_Copies_height) [] [] (He.ma K (He.ga K "Copies") "height") fd
  m_Copies_height : Meth K (He.ga K "Copies") "height" (He.ma K (He.ga K "Copies") "height")
  f_Pieces_height : ∃ fd, FunD K "height" "Copies.height" (defArgs s_Copies_height) (defBody s_Copies_height) (defScope s_Copies_height) [] [] (He.ma K (He.ga K "Pieces") "height") fd
  m_Pieces_height : Meth K (He.ga K "Pieces") "height" (He.ma K (He.ga K "Pieces") "height")
  f_Copies_pile : ∃ fd, FunD K "pile" "Copies.pile" (defArgs s_Copies_pile) (defBody s_Copies_pile) (defScope s_Copies_pile) [] [] (He.ma K (He.ga K "Copies") "pile") fd
  m_Copies_pile : Meth K (He.ga K "Copies") "pile" (He.ma K (He.ga K "Copies") "pile")
  f_Pieces_pile : ∃ fd, FunD K "pile" "Copies.pile" (defArgs s_Copies_pile) (defBody s_Copies_pile) (defScope s_Copies_pile) [] [] (He.ma K (He.ga K "Pieces") "pile") fd
  m_Pieces_pile : Meth K (He.ga K "Pieces") "pile" (He.ma K (He.ga K "Pieces") "pile")
  f_Copies_keep : ∃ fd, FunD K "keep" "Copies.keep" (defArgs s_Copies_keep) (defBody s_Copies_keep) (defScope s_Copies_keep) [] [] (He.ma K (He.ga K "Copies") "keep") fd
  m_Copies_keep : Meth K (He.ga K "Copies") "keep" (He.ma K (He.ga K "Copies") "keep")
  f_Pieces_keep : ∃ fd, FunD K "keep" "Copies.keep" (defArgs s_Copies_keep) (defBody s_Copies_keep) (defScope s_Copies_keep) [] [] (He.ma K (He.ga K "Pieces") "keep") fd
  m_Pieces_keep : Meth K (He.ga K "Pieces") "keep" (He.ma K (He.ga K "Pieces") "keep")
  f_Copies_go : ∃ fd, FunD K "go" "Copies.go" (defArgs s_Copies_go) (defBody s_Copies_go) (defScope s_Copies_go) [(V.int 0)] [] (He.ma K (He.ga K "Copies") "go") fd
  m_Copies_go : Meth K (He.ga K "Copies") "go" (He.ma K (He.ga K "Copies") "go")
  f_Pieces_go : ∃ fd, FunD K "go" "Copies.go" (defArgs s_Copies_go) (defBody s_Copies_go) (defScope s_Copies_go) [(V.int 0)] [] (He.ma K (He.ga K "Pieces") "go") fd
  m_Pieces_go : Meth K (He.ga K "Pieces") "go" (He.ma K (He.ga K "Pieces") "go")
  f_Copies_box : ∃ fd, FunD K "box" "Copies.box" (defArgs s_Copies_box) (defBody s_Copies_box) (defScope s_Copies_box) [] [] (He.ma K (He.ga K "Copies") "box") fd
  m_Copies_box : Meth K (He.ga K "Copies") "box" (He.ma K (He.ga K "Copies") "box")
  f_Pieces_box : ∃ fd, FunD K "box" "Copies.box" (defArgs s_Copies_box) (defBody s_Copies_box) (defScope s_Copies_box) [] [] (He.ma K (He.ga K "Pieces") "box") fd
  m_Pieces_box : Meth K (He.ga K "Pieces") "box" (He.ma K (He.ga K "Pieces") "box")
  f_Copies_held : ∃ fd, FunD K "held" "Copies.held" (defArgs s_Copies_held) (defBody s_Copies_held) (defScope s_Copies_held) [] [] (He.ma K (He.ga K "Copies") "held") fd
  m_Copies_held : Meth K (He.ga K "Copies") "held" (He.ma K (He.ga K "Copies") "held")
  f_Pieces_held : ∃ fd, FunD K "held" "Copies.held" (defArgs s_Copies_held) (defBody s_Copies_held) (defScope s_Copies_held) [] [] (He.ma K (He.ga K "Pieces") "held") fd
  m_Pieces_held : Meth K (He.ga K "Pieces") "held" (He.ma K (He.ga K "Pieces") "held")
  f_Copies_fill : ∃ fd, FunD K "fill" "Copies.fill" (defArgs s_Copies_fill) (defBody s_Copies_fill) (defScope s_Copies_fill) [] [] (He.ma K (He.ga K "Copies") "fill") fd
  m_Copies_fill : Meth K (He.ga K "Copies") "fill" (He.ma K (He.ga K "Copies") "fill")
  f_Pieces_fill : ∃ fd, FunD K "fill" "Copies.fill" (defArgs s_Copies_fill) (defBody s_Copies_fill) (defScope s_Copies_fill) [] [] (He.ma K (He.ga K "Pieces") "fill") fd
  m_Pieces_fill : Meth K (He.ga K "Pieces") "fill" (He.ma K (He.ga K "Pieces") "fill")
  f_Copies_pegs : ∃ fd, FunD K "pegs" "Copies.pegs" (defArgs s_Copies_pegs) (defBody s_Copies_pegs) (defScope s_Copies_pegs) [] [] (He.ma K (He.ga K "Copies") "pegs") fd
  m_Copies_pegs : Meth K (He.ga K "Copies") "pegs" (He.ma K (He.ga K "Copies") "pegs")
  f_Pieces_pegs : ∃ fd, FunD K "pegs" "Copies.pegs" (defArgs s_Copies_pegs) (defBody s_Copies_pegs) (defScope s_Copies_pegs) [] [] (He.ma K (He.ga K "Pieces") "pegs") fd
  m_Pieces_pegs : Meth K (He.ga K "Pieces") "pegs" (He.ma K (He.ga K "Pieces") "pegs")
  f_Copies_goings : ∃ fd, FunD K "goings" "Copies.goings" (defArgs s_Copies_goings) (defBody s_Copies_goings) (defScope s_Copies_goings) [] [] (He.ma K (He.ga K "Copies") "goings") fd
  m_Copies_goings : Meth K (He.ga K "Copies") "goings" (He.ma K (He.ga K "Copies") "goings")
  f_Pieces_goings : ∃ fd, FunD K "goings" "Copies.goings" (defArgs s_Copies_goings) (defBody s_Copies_goings) (defScope s_Copies_goings) [] [] (He.ma K (He.ga K "Pieces") "goings") fd
  m_Pieces_goings : Meth K (He.ga K "Pieces") "goings" (He.ma K (He.ga K "Pieces") "goings")
  f_Copies_boxes : ∃ fd, FunD K "boxes" "Copies.boxes" (defArgs s_Copies_boxes) (defBody s_Copies_boxes) (defScope s_Copies_boxes) [] [] (He.ma K (He.ga K "Copies") "boxes") fd
  m_Copies_boxes : Meth K (He.ga K "Copies") "boxes" (He.ma K (He.ga K "Copies") "boxes")
  f_Pieces_boxes : ∃ fd, FunD K "boxes" "Copies.boxes" (defArgs s_Copies_boxes) (defBody s_Copies_boxes) (defScope s_Copies_boxes) [] [] (He.ma K (He.ga K "Pieces") "boxes") fd
  m_Pieces_boxes : Meth K (He.ga K "Pieces") "boxes" (He.ma K (He.ga K "Pieces") "boxes")
  f_Copies_place_of : ∃ fd, FunD K "place_of" "Copies.place_of" (defArgs s_Copies_place_of) (defBody s_Copies_place_of) (defScope s_Copies_place_of) [] [] (He.ma K (He.ga K "Copies") "place_of") fd
  m_Copies_place_of : Meth K (He.ga K "Copies") "place_of" (He.ma K (He.ga K "Copies") "place_of")
  f_Pieces_place_of : ∃ fd, FunD K "place_of" "Copies.place_of" (defArgs s_Copies_place_of) (defBody s_Copies_place_of) (defScope s_Copies_place_of) [] [] (He.ma K (He.ga K "Pieces") "place_of") fd
  m_Pieces_place_of : Meth K (He.ga K "Pieces") "place_of" (He.ma K (He.ga K "Pieces") "place_of")
  f_Copies_sweep : ∃ fd, FunD K "sweep" "Copies.sweep" (defArgs s_Copies_sweep) (defBody s_Copies_sweep) (defScope s_Copies_sweep) [] [] (He.ma K (He.ga K "Copies") "sweep") fd
  m_Copies_sweep : Meth K (He.ga K "Copies") "sweep" (He.ma K (He.ga K "Copies") "sweep")
  f_Pieces_sweep : ∃ fd, FunD K "sweep" "Copies.sweep" (defArgs s_Copies_sweep) (defBody s_Copies_sweep) (defScope s_Copies_sweep) [] [] (He.ma K (He.ga K "Pieces") "sweep") fd
  m_Pieces_sweep : Meth K (He.ga K "Pieces") "sweep" (He.ma K (He.ga K "Pieces") "sweep")
  f_Copies_picture : ∃ fd, FunD K "picture" "Copies.picture" (defArgs s_Copies_picture) (defBody s_Copies_picture) (defScope s_Copies_picture) [] [] (He.ma K (He.ga K "Copies") "picture") fd
  m_Copies_picture : Meth K (He.ga K "Copies") "picture" (He.ma K (He.ga K "Copies") "picture")
  f_Pieces_picture : ∃ fd, FunD K "picture" "Copies.picture" (defArgs s_Copies_picture) (defBody s_Copies_picture) (defScope s_Copies_picture) [] [] (He.ma K (He.ga K "Pieces") "picture") fd
  m_Pieces_picture : Meth K (He.ga K "Pieces") "picture" (He.ma K (He.ga K "Pieces") "picture")
  f_Piece___init__ : ∃ fd, FunD K "__init__" "Piece.__init__" (defArgs s_Piece___init__) (defBody s_Piece___init__) (defScope s_Piece___init__) [] [] (He.ma K (He.ga K "Piece") "__init__") fd
  f_pile_on : ∃ fd, FunD K "pile_on" "pile_on" (defArgs s_pile_on) (defBody s_pile_on) (defScope s_pile_on) [] [] (He.ga K "pile_on") fd
  f_Pieces___init__ : ∃ fd, FunD K "__init__" "Pieces.__init__" (defArgs s_Pieces___init__) (defBody s_Pieces___init__) (defScope s_Pieces___init__) [] [] (He.ma K (He.ga K "Pieces") "__init__") fd
  f_Pieces_piece_on : ∃ fd, FunD K "piece_on" "Pieces.piece_on" (defArgs s_Pieces_piece_on) (defBody s_Pieces_piece_on) (defScope s_Pieces_piece_on) [] [] (He.ma K (He.ga K "Pieces") "piece_on") fd
  m_Pieces_piece_on : Meth K (He.ga K "Pieces") "piece_on" (He.ma K (He.ga K "Pieces") "piece_on")
  f_Pieces_run_on : ∃ fd, FunD K "run_on" "Pieces.run_on" (defArgs s_Pieces_run_on) (defBody s_Pieces_run_on) (defScope s_Pieces_run_on) [] [] (He.ma K (He.ga K "Pieces") "run_on") fd
  m_Pieces_run_on : Meth K (He.ga K "Pieces") "run_on" (He.ma K (He.ga K "Pieces") "run_on")
  f_Pieces_hand_back : ∃ fd, FunD K "hand_back" "Pieces.hand_back" (defArgs s_Pieces_hand_back) (defBody s_Pieces_hand_back) (defScope s_Pieces_hand_back) [] [] (He.ma K (He.ga K "Pieces") "hand_back") fd
  m_Pieces_hand_back : Meth K (He.ga K "Pieces") "hand_back" (He.ma K (He.ga K "Pieces") "hand_back")
  f_Pieces_whole : ∃ fd, FunD K "whole" "Pieces.whole" (defArgs s_Pieces_whole) (defBody s_Pieces_whole) (defScope s_Pieces_whole) [] [] (He.ma K (He.ga K "Pieces") "whole") fd
  m_Pieces_whole : Meth K (He.ga K "Pieces") "whole" (He.ma K (He.ga K "Pieces") "whole")
  f_Pieces_whole_of : ∃ fd, FunD K "whole_of" "Pieces.whole_of" (defArgs s_Pieces_whole_of) (defBody s_Pieces_whole_of) (defScope s_Pieces_whole_of) [] [] (He.ma K (He.ga K "Pieces") "whole_of") fd
  m_Pieces_whole_of : Meth K (He.ga K "Pieces") "whole_of" (He.ma K (He.ga K "Pieces") "whole_of")
  f_Pieces_tall : ∃ fd, FunD K "tall" "Pieces.tall" (defArgs s_Pieces_tall) (defBody s_Pieces_tall) (defScope s_Pieces_tall) [] [] (He.ma K (He.ga K "Pieces") "tall") fd
  m_Pieces_tall : Meth K (He.ga K "Pieces") "tall" (He.ma K (He.ga K "Pieces") "tall")
  f_Pieces_at_depth : ∃ fd, FunD K "at_depth" "Pieces.at_depth" (defArgs s_Pieces_at_depth) (defBody s_Pieces_at_depth) (defScope s_Pieces_at_depth) [] [] (He.ma K (He.ga K "Pieces") "at_depth") fd
  m_Pieces_at_depth : Meth K (He.ga K "Pieces") "at_depth" (He.ma K (He.ga K "Pieces") "at_depth")
  f_Pieces_lay_on : ∃ fd, FunD K "lay_on" "Pieces.lay_on" (defArgs s_Pieces_lay_on) (defBody s_Pieces_lay_on) (defScope s_Pieces_lay_on) [] [] (He.ma K (He.ga K "Pieces") "lay_on") fd
  m_Pieces_lay_on : Meth K (He.ga K "Pieces") "lay_on" (He.ma K (He.ga K "Pieces") "lay_on")
  f_Pieces_go_up : ∃ fd, FunD K "go_up" "Pieces.go_up" (defArgs s_Pieces_go_up) (defBody s_Pieces_go_up) (defScope s_Pieces_go_up) [] [] (He.ma K (He.ga K "Pieces") "go_up") fd
  m_Pieces_go_up : Meth K (He.ga K "Pieces") "go_up" (He.ma K (He.ga K "Pieces") "go_up")
  f_Pieces_lift_off : ∃ fd, FunD K "lift_off" "Pieces.lift_off" (defArgs s_Pieces_lift_off) (defBody s_Pieces_lift_off) (defScope s_Pieces_lift_off) [] [] (He.ma K (He.ga K "Pieces") "lift_off") fd
  m_Pieces_lift_off : Meth K (He.ga K "Pieces") "lift_off" (He.ma K (He.ga K "Pieces") "lift_off")
  f_Pieces_go_down : ∃ fd, FunD K "go_down" "Pieces.go_down" (defArgs s_Pieces_go_down) (defBody s_Pieces_go_down) (defScope s_Pieces_go_down) [] [] (He.ma K (He.ga K "Pieces") "go_down") fd
  m_Pieces_go_down : Meth K (He.ga K "Pieces") "go_down" (He.ma K (He.ga K "Pieces") "go_down")
  f_Pieces_part : ∃ fd, FunD K "part" "Pieces.part" (defArgs s_Pieces_part) (defBody s_Pieces_part) (defScope s_Pieces_part) [] [] (He.ma K (He.ga K "Pieces") "part") fd
  m_Pieces_part : Meth K (He.ga K "Pieces") "part" (He.ma K (He.ga K "Pieces") "part")
  f_Pieces_keep_whole : ∃ fd, FunD K "keep_whole" "Pieces.keep_whole" (defArgs s_Pieces_keep_whole) (defBody s_Pieces_keep_whole) (defScope s_Pieces_keep_whole) [] [] (He.ma K (He.ga K "Pieces") "keep_whole") fd
  m_Pieces_keep_whole : Meth K (He.ga K "Pieces") "keep_whole" (He.ma K (He.ga K "Pieces") "keep_whole")
  f_Pieces_turn_to : ∃ fd, FunD K "turn_to" "Pieces.turn_to" (defArgs s_Pieces_turn_to) (defBody s_Pieces_turn_to) (defScope s_Pieces_turn_to) [] [] (He.ma K (He.ga K "Pieces") "turn_to") fd
  m_Pieces_turn_to : Meth K (He.ga K "Pieces") "turn_to" (He.ma K (He.ga K "Pieces") "turn_to")
  f_Pieces_forget_whole : ∃ fd, FunD K "forget_whole" "Pieces.forget_whole" (defArgs s_Pieces_forget_whole) (defBody s_Pieces_forget_whole) (defScope s_Pieces_forget_whole) [] [] (He.ma K (He.ga K "Pieces") "forget_whole") fd
  m_Pieces_forget_whole : Meth K (He.ga K "Pieces") "forget_whole" (He.ma K (He.ga K "Pieces") "forget_whole")
  f_Pieces_handed : ∃ fd, FunD K "handed" "Pieces.handed" (defArgs s_Pieces_handed) (defBody s_Pieces_handed) (defScope s_Pieces_handed) [] [] (He.ma K (He.ga K "Pieces") "handed") fd
  m_Pieces_handed : Meth K (He.ga K "Pieces") "handed" (He.ma K (He.ga K "Pieces") "handed")
  f_Pieces_ahead : ∃ fd, FunD K "ahead" "Pieces.ahead" (defArgs s_Pieces_ahead) (defBody s_Pieces_ahead) (defScope s_Pieces_ahead) [] [] (He.ma K (He.ga K "Pieces") "ahead") fd
  m_Pieces_ahead : Meth K (He.ga K "Pieces") "ahead" (He.ma K (He.ga K "Pieces") "ahead")
  f_Pieces_size : ∃ fd, FunD K "size" "Pieces.size" (defArgs s_Pieces_size) (defBody s_Pieces_size) (defScope s_Pieces_size) [] [] (He.ma K (He.ga K "Pieces") "size") fd
  m_Pieces_size : Meth K (He.ga K "Pieces") "size" (He.ma K (He.ga K "Pieces") "size")
  f__law_cell_at : ∃ fd, FunD K "_law_cell_at" "_law_cell_at" (defArgs s__law_cell_at) (defBody s__law_cell_at) (defScope s__law_cell_at) [] [] (He.ga K "_law_cell_at") fd
  f__law_bag : ∃ fd, FunD K "_law_bag" "_law_bag" (defArgs s__law_bag) (defBody s__law_bag) (defScope s__law_bag) [] [] (He.ga K "_law_bag") fd
  f__law_draw : ∃ fd, FunD K "_law_draw" "_law_draw" (defArgs s__law_draw) (defBody s__law_draw) (defScope s__law_draw) [] [] (He.ga K "_law_draw") fd
  f__law_number : ∃ fd, FunD K "_law_number" "_law_number" (defArgs s__law_number) (defBody s__law_number) (defScope s__law_number) [] [] (He.ga K "_law_number") fd
  f__law_same : ∃ fd, FunD K "_law_same" "_law_same" (defArgs s__law_same) (defBody s__law_same) (defScope s__law_same) [] [] (He.ga K "_law_same") fd
  f__law_house : ∃ fd, FunD K "_law_house" "_law_house" (defArgs s__law_house) (defBody s__law_house) (defScope s__law_house) [] [] (He.ga K "_law_house") fd
  f__law_within : ∃ fd, FunD K "_law_within" "_law_within" (defArgs s__law_within) (defBody s__law_within) (defScope s__law_within) [] [] (He.ga K "_law_within") fd
  f_law : ∃ fd, FunD K "law" "law" (defArgs s_law) (defBody s_law) (defScope s_law) [] [] (He.ga K "law") fd
  v_MARKS : He.valsB K (He.ga K "MARKS") [("num", He.Dv.str ""), ("at", He.Dv.str "@"), ("box", He.Dv.str "b"), ("go", He.Dv.str "g")] = true
  t_REACHING : ∀ H : Hp, SqT K H (He.ga K "REACHING") [(V.str "pick"), (V.str "drop"), (V.str "lift"), (V.str "go"), (V.str "back")]
  t_LEADING : ∀ H : Hp, SqT K H (He.ga K "LEADING") [(V.str "keep"), (V.str "call"), (V.str "jump"), (V.str "if")]
  t_BARE : ∀ H : Hp, SqT K H (He.ga K "BARE") [(V.str "add"), (V.str "less"), (V.str "box"), (V.str "get"), (V.str "set"), (V.str "tell"), (V.str "sweep")]
  cf_Copies : clsFnB K "Copies" "__init__" = true
theorem sc_is_whole : FnScope N_is_whole P_is_whole (defScope s_is_whole) := ⟨rfl, rfl, rfl, by decide +kernel, rfl, by decide +kernel, by decide +kernel⟩
theorem sc_is_worth : FnScope N_is_worth P_is_worth (defScope s_is_worth) := ⟨rfl, rfl, rfl, by decide +kernel, rfl, by decide +kernel, by decide +kernel⟩
theorem sc_is_thing : FnScope N_is_thing P_is_thing (defScope s_is_thing) := ⟨rfl, rfl, rfl, by decide +kernel, rfl, by decide +kernel, by decide +kernel⟩
theorem sc_is_row : FnScope N_is_row P_is_row (defScope s_is_row) := ⟨rfl, rfl, rfl, by decide +kernel, rfl, by decide +kernel, by decide +kernel⟩
theorem sc_is_program : FnScope N_is_program P_is_program (defScope s_is_program) := ⟨rfl, rfl, rfl, by decide +kernel, rfl, by decide +kernel, by decide +kernel⟩
theorem sc_stands : FnScope N_stands P_stands (defScope s_stands) := ⟨rfl, rfl, rfl, by decide +kernel, rfl, by decide +kernel, by decide +kernel⟩
theorem sc_lacks_reached : FnScope N_lacks_reached P_lacks_reached (defScope s_lacks_reached) := ⟨rfl, rfl, rfl, by decide +kernel, rfl, by decide +kernel, by decide +kernel⟩
theorem sc_lacks : FnScope N_lacks P_lacks (defScope s_lacks) := ⟨rfl, rfl, rfl, by decide +kernel, rfl, by decide +kernel, by decide +kernel⟩
theorem sc_reckon : FnScope N_reckon P_reckon (defScope s_reckon) := ⟨rfl, rfl, rfl, by decide +kernel, rfl, by decide +kernel, by decide +kernel⟩
theorem sc_reach : FnScope N_reach P_reach (defScope s_reach) := ⟨rfl, rfl, rfl, by decide +kernel, rfl, by decide +kernel, by decide +kernel⟩
theorem sc_lead : FnScope N_lead P_lead (defScope s_lead) := ⟨rfl, rfl, rfl, by decide +kernel, rfl, by decide +kernel, by decide +kernel⟩
theorem sc_done_row : FnScope N_done_row P_done_row (defScope s_done_row) := ⟨rfl, rfl, rfl, by decide +kernel, rfl, by decide +kernel, by decide +kernel⟩
theorem sc_how_it_is : FnScope N_how_it_is P_how_it_is (defScope s_how_it_is) := ⟨rfl, rfl, rfl, by decide +kernel, rfl, by decide +kernel, by decide +kernel⟩
theorem sc_run : FnScope N_run P_run (defScope s_run) := ⟨rfl, rfl, rfl, by decide +kernel, rfl, by decide +kernel, by decide +kernel⟩
theorem sc_Copies___init__ : FnScope N_Copies___init__ P_Copies___init__ (defScope s_Copies___init__) := ⟨rfl, rfl, rfl, by decide +kernel, rfl, by decide +kernel, by decide +kernel⟩
theorem sc_Copies_whole : FnScope N_Copies_whole P_Copies_whole (defScope s_Copies_whole) := ⟨rfl, rfl, rfl, by decide +kernel, rfl, by decide +kernel, by decide +kernel⟩
theorem sc_Copies_tall : FnScope N_Copies_tall P_Copies_tall (defScope s_Copies_tall) := ⟨rfl, rfl, rfl, by decide +kernel, rfl, by decide +kernel, by decide +kernel⟩
theorem sc_Copies_at_depth : FnScope N_Copies_at_depth P_Copies_at_depth (defScope s_Copies_at_depth) := ⟨rfl, rfl, rfl, by decide +kernel, rfl, by decide +kernel, by decide +kernel⟩
theorem sc_Copies_lay_on : FnScope N_Copies_lay_on P_Copies_lay_on (defScope s_Copies_lay_on) := ⟨rfl, rfl, rfl, by decide +kernel, rfl, by decide +kernel, by decide +kernel⟩
theorem sc_Copies_lift_off : FnScope N_Copies_lift_off P_Copies_lift_off (defScope s_Copies_lift_off) := ⟨rfl, rfl, rfl, by decide +kernel, rfl, by decide +kernel, by decide +kernel⟩
theorem sc_Copies_hold : FnScope N_Copies_hold P_Copies_hold (defScope s_Copies_hold) := ⟨rfl, rfl, rfl, by decide +kernel, rfl, by decide +kernel, by decide +kernel⟩
theorem sc_Copies_loose : FnScope N_Copies_loose P_Copies_loose (defScope s_Copies_loose) := ⟨rfl, rfl, rfl, by decide +kernel, rfl, by decide +kernel, by decide +kernel⟩
theorem sc_Copies_settle : FnScope N_Copies_settle P_Copies_settle (defScope s_Copies_settle) := ⟨rfl, rfl, rfl, by decide +kernel, rfl, by decide +kernel, by decide +kernel⟩
theorem sc_Copies_let_by : FnScope N_Copies_let_by P_Copies_let_by (defScope s_Copies_let_by) := ⟨rfl, rfl, rfl, by decide +kernel, rfl, by decide +kernel, by decide +kernel⟩
theorem sc_Copies_let_place : FnScope N_Copies_let_place P_Copies_let_place (defScope s_Copies_let_place) := ⟨rfl, rfl, rfl, by decide +kernel, rfl, by decide +kernel, by decide +kernel⟩
theorem sc_Copies_out : FnScope N_Copies_out P_Copies_out (defScope s_Copies_out) := ⟨rfl, rfl, rfl, by decide +kernel, rfl, by decide +kernel, by decide +kernel⟩
theorem sc_Copies_put : FnScope N_Copies_put P_Copies_put (defScope s_Copies_put) := ⟨rfl, rfl, rfl, by decide +kernel, rfl, by decide +kernel, by decide +kernel⟩
theorem sc_Copies_take : FnScope N_Copies_take P_Copies_take (defScope s_Copies_take) := ⟨rfl, rfl, rfl, by decide +kernel, rfl, by decide +kernel, by decide +kernel⟩
theorem sc_Copies_lift : FnScope N_Copies_lift P_Copies_lift (defScope s_Copies_lift) := ⟨rfl, rfl, rfl, by decide +kernel, rfl, by decide +kernel, by decide +kernel⟩
theorem sc_Copies_look : FnScope N_Copies_look P_Copies_look (defScope s_Copies_look) := ⟨rfl, rfl, rfl, by decide +kernel, rfl, by decide +kernel, by decide +kernel⟩
theorem sc_Copies_height : FnScope N_Copies_height P_Copies_height (defScope s_Copies_height) := ⟨rfl, rfl, rfl, by decide +kernel, rfl, by decide +kernel, by decide +kernel⟩
theorem sc_Copies_pile : FnScope N_Copies_pile P_Copies_pile (defScope s_Copies_pile) := ⟨rfl, rfl, rfl, by decide +kernel, rfl, by decide +kernel, by decide +kernel⟩
theorem sc_Piece___init__ : FnScope N_Piece___init__ P_Piece___init__ (defScope s_Piece___init__) := ⟨rfl, rfl, rfl, by decide +kernel, rfl, by decide +kernel, by decide +kernel⟩
theorem sc_pile_on : FnScope N_pile_on P_pile_on (defScope s_pile_on) := ⟨rfl, rfl, rfl, by decide +kernel, rfl, by decide +kernel, by decide +kernel⟩
theorem sc_Pieces___init__ : FnScope N_Pieces___init__ P_Pieces___init__ (defScope s_Pieces___init__) := ⟨rfl, rfl, rfl, by decide +kernel, rfl, by decide +kernel, by decide +kernel⟩
theorem sc_Pieces_piece_on : FnScope N_Pieces_piece_on P_Pieces_piece_on (defScope s_Pieces_piece_on) := ⟨rfl, rfl, rfl, by decide +kernel, rfl, by decide +kernel, by decide +kernel⟩
theorem sc_Pieces_run_on : FnScope N_Pieces_run_on P_Pieces_run_on (defScope s_Pieces_run_on) := ⟨rfl, rfl, rfl, by decide +kernel, rfl, by decide +kernel, by decide +kernel⟩
theorem sc_Pieces_whole : FnScope N_Pieces_whole P_Pieces_whole (defScope s_Pieces_whole) := ⟨rfl, rfl, rfl, by decide +kernel, rfl, by decide +kernel, by decide +kernel⟩
theorem sc_Pieces_tall : FnScope N_Pieces_tall P_Pieces_tall (defScope s_Pieces_tall) := ⟨rfl, rfl, rfl, by decide +kernel, rfl, by decide +kernel, by decide +kernel⟩
theorem sc_Pieces_at_depth : FnScope N_Pieces_at_depth P_Pieces_at_depth (defScope s_Pieces_at_depth) := ⟨rfl, rfl, rfl, by decide +kernel, rfl, by decide +kernel, by decide +kernel⟩
theorem sc_Pieces_lay_on : FnScope N_Pieces_lay_on P_Pieces_lay_on (defScope s_Pieces_lay_on) := ⟨rfl, rfl, rfl, by decide +kernel, rfl, by decide +kernel, by decide +kernel⟩
theorem sc_Pieces_go_up : FnScope N_Pieces_go_up P_Pieces_go_up (defScope s_Pieces_go_up) := ⟨rfl, rfl, rfl, by decide +kernel, rfl, by decide +kernel, by decide +kernel⟩
theorem sc_Pieces_lift_off : FnScope N_Pieces_lift_off P_Pieces_lift_off (defScope s_Pieces_lift_off) := ⟨rfl, rfl, rfl, by decide +kernel, rfl, by decide +kernel, by decide +kernel⟩
theorem sc_Pieces_go_down : FnScope N_Pieces_go_down P_Pieces_go_down (defScope s_Pieces_go_down) := ⟨rfl, rfl, rfl, by decide +kernel, rfl, by decide +kernel, by decide +kernel⟩
theorem sc__law_cell_at : FnScope N__law_cell_at P__law_cell_at (defScope s__law_cell_at) := ⟨rfl, rfl, rfl, by decide +kernel, rfl, by decide +kernel, by decide +kernel⟩
theorem sc__law_bag : FnScope N__law_bag P__law_bag (defScope s__law_bag) := ⟨rfl, rfl, rfl, by decide +kernel, rfl, by decide +kernel, by decide +kernel⟩
theorem sc__law_draw : FnScope N__law_draw P__law_draw (defScope s__law_draw) := ⟨rfl, rfl, rfl, by decide +kernel, rfl, by decide +kernel, by decide +kernel⟩
theorem sc__law_number : FnScope N__law_number P__law_number (defScope s__law_number) := ⟨rfl, rfl, rfl, by decide +kernel, rfl, by decide +kernel, by decide +kernel⟩
theorem sc__law_same : FnScope N__law_same P__law_same (defScope s__law_same) := ⟨rfl, rfl, rfl, by decide +kernel, rfl, by decide +kernel, by decide +kernel⟩
theorem sc__law_house : FnScope N__law_house P__law_house (defScope s__law_house) := ⟨rfl, rfl, rfl, by decide +kernel, rfl, by decide +kernel, by decide +kernel⟩
theorem sc__law_within : FnScope N__law_within P__law_within (defScope s__law_within) := ⟨rfl, rfl, rfl, by decide +kernel, rfl, by decide +kernel, by decide +kernel⟩
theorem sc_law : FnScope N_law P_law (defScope s_law) := ⟨rfl, rfl, rfl, by decide +kernel, rfl, by decide +kernel, by decide +kernel⟩
end MG

namespace MG
open PySem PySem.Spec PyProof.Rows L2 C8
/-- what the names reach in n steps, and the interpreter's own statics (an attribute of a class is read there first) -/
def asXA (g : Addr → Option Obj) (n : Nat) : List Addr := He.asD g n ++ [PySem.cStatics]
def obsXA (n : Nat) (fa : List He.Fa) (fn : List He.DefD) (ts : List He.Tab) (ex : PySem.W.Frag → Bool) (g : Addr → Option Obj) : He.AlX := (He.obsT fa fn ts (He.frT g (asXA g n)), ex (He.frT g (asXA g n)))
theorem saysXA_of {n : Nat} {fa : List He.Fa} {fn : List He.DefD} {ts : List He.Tab} {ex : PySem.W.Frag → Bool} {w : World} {h : Heap} (e : obsXA n fa fn ts ex h.get? = He.valX fn ts w) : He.SaysX fa fn ts [] ex w h (He.frT h.get? (asXA h.get? n)) :=
  ⟨congrArg (fun z : He.AlX => z.1) e, congrArg (fun z : He.AlX => z.2) e, (fun _ hp => nomatch hp), (fun _ hp => nomatch hp), (fun _ hp => nomatch hp)⟩
def hookXA (n : Nat) (fa : List He.Fa) (fn : List He.DefD) (ts : List He.Tab) (ex : PySem.W.Frag → Bool) : PySem.W.Hook where
  α := He.AlX
  obs := fun s => obsXA n fa fn ts ex s.heap.get?
  val := fun w => He.valX fn ts w
  says := fun w h => ∃ K : PySem.W.Frag, K.In h ∧ He.SaysX fa fn ts [] ex w h K
  of := fun _ _ e => ⟨_, He.frT_in, saysXA_of e⟩
  keeps := fun _ _ _ ⟨K, hK, c⟩ k => ⟨K, PySem.W.Frag.In.keeps hK k, ⟨c.t, c.more, c.hd, c.out, (fun _ hp => nomatch hp)⟩⟩
theorem obsXA_eq {n : Nat} {fa : List He.Fa} {fn : List He.DefD} {ts : List He.Tab} {ex : PySem.W.Frag → Bool} {g : Addr → Option Obj} {s : Shared} (h : ∀ a, g a = s.heap.get? a) : obsXA n fa fn ts ex g = (hookXA n fa fn ts ex).obs s := by
  have e : g = s.heap.get? := funext h
  rw [e] <;> rfl
def fa0 : List He.Fa := [.free "ValueError",
  .free "abs",
  .free "all",
  .free "any",
  .free "bool",
  .free "dict",
  .free "enumerate",
  .free "int",
  .free "isinstance",
  .free "len",
  .free "list",
  .free "max",
  .free "min",
  .free "range",
  .free "reversed",
  .free "set",
  .free "sorted",
  .free "str",
  .free "sum",
  .free "tuple",
  .free "zip",
  .glo "is_whole",
  .glo "is_worth",
  .glo "is_thing",
  .glo "things_of",
  .glo "is_row",
  .glo "is_program",
  .glo "stands",
  .glo "lacks_reached",
  .glo "lacks",
  .glo "reckon",
  .glo "open_box",
  .glo "reach",
  .glo "lead",
  .glo "done_row",
  .glo "how_it_is",
  .glo "run",
  .glo "things",
  .glo "roots",
  .glo "all_held"]
def fa1 : List He.Fa := [.glo "reached",
  .glo "lost",
  .glo "least_free",
  .glo "pile_on",
  .glo "_law_cell_at",
  .glo "_law_bag",
  .glo "_law_draw",
  .glo "_law_number",
  .glo "_law_same",
  .glo "_law_house",
  .glo "_law_within",
  .glo "law",
  .glo "Copies",
  .cls "Copies",
  .mkr "Copies",
  .noat "Copies" "running",
  .noat "Copies" "wholes",
  .noat "Copies" "places",
  .noat "Copies" "in_box",
  .noat "Copies" "on_peg",
  .noat "Copies" "holding",
  .noat "Copies" "waiting",
  .glo "Piece",
  .cls "Piece",
  .mkr "Piece",
  .noat "Piece" "under",
  .noat "Piece" "worths",
  .noat "Piece" "holders",
  .glo "Pieces",
  .cls "Pieces",
  .mkr "Pieces",
  .noat "Pieces" "most",
  .noat "Pieces" "count_made",
  .noat "Pieces" "count_handed",
  .noat "Pieces" "count_moved",
  .noat "Pieces" "high",
  .noat "Pieces" "highs",
  .noat "Pieces" "tops",
  .noat "Pieces" "above",
  .noat "Pieces" "running"]
def fa2 : List He.Fa := [.noat "Pieces" "wholes",
  .noat "Pieces" "places",
  .noat "Pieces" "in_box",
  .noat "Pieces" "on_peg",
  .noat "Pieces" "holding",
  .noat "Pieces" "waiting",
  .glo "MARKS",
  .glo "REACHING",
  .glo "LEADING",
  .glo "BARE",
  .int "MOST_STEPS" 1000,
  .meth "Copies" "whole",
  .meth "Copies" "whole_of",
  .meth "Copies" "tall",
  .meth "Copies" "at_depth",
  .meth "Copies" "lay_on",
  .meth "Copies" "lift_off",
  .meth "Copies" "keep_whole",
  .meth "Copies" "turn_to",
  .meth "Copies" "forget_whole",
  .meth "Copies" "hold",
  .meth "Pieces" "hold",
  .meth "Copies" "loose",
  .meth "Pieces" "loose",
  .meth "Copies" "settle",
  .meth "Pieces" "settle",
  .meth "Copies" "forget",
  .meth "Pieces" "forget",
  .meth "Copies" "let_by",
  .meth "Pieces" "let_by",
  .meth "Copies" "let_place",
  .meth "Pieces" "let_place",
  .meth "Copies" "out",
  .meth "Pieces" "out",
  .meth "Copies" "put",
  .meth "Pieces" "put",
  .meth "Copies" "take",
  .meth "Pieces" "take",
  .meth "Copies" "lift",
  .meth "Pieces" "lift"]
def fa3 : List He.Fa := [.meth "Copies" "look",
  .meth "Pieces" "look",
  .meth "Copies" "height",
  .meth "Pieces" "height",
  .meth "Copies" "pile",
  .meth "Pieces" "pile",
  .meth "Copies" "keep",
  .meth "Pieces" "keep",
  .meth "Copies" "go",
  .meth "Pieces" "go",
  .meth "Copies" "box",
  .meth "Pieces" "box",
  .meth "Copies" "held",
  .meth "Pieces" "held",
  .meth "Copies" "fill",
  .meth "Pieces" "fill",
  .meth "Copies" "pegs",
  .meth "Pieces" "pegs",
  .meth "Copies" "goings",
  .meth "Pieces" "goings",
  .meth "Copies" "boxes",
  .meth "Pieces" "boxes",
  .meth "Copies" "place_of",
  .meth "Pieces" "place_of",
  .meth "Copies" "sweep",
  .meth "Pieces" "sweep",
  .meth "Copies" "picture",
  .meth "Pieces" "picture",
  .meth "Pieces" "piece_on",
  .meth "Pieces" "run_on",
  .meth "Pieces" "hand_back",
  .meth "Pieces" "whole",
  .meth "Pieces" "whole_of",
  .meth "Pieces" "tall",
  .meth "Pieces" "at_depth",
  .meth "Pieces" "lay_on",
  .meth "Pieces" "go_up",
  .meth "Pieces" "lift_off",
  .meth "Pieces" "go_down",
  .meth "Pieces" "part"]
def fa4 : List He.Fa := [.meth "Pieces" "keep_whole",
  .meth "Pieces" "turn_to",
  .meth "Pieces" "forget_whole",
  .meth "Pieces" "handed",
  .meth "Pieces" "ahead",
  .meth "Pieces" "size"]
def fa : List He.Fa := fa0 ++ (fa1 ++ (fa2 ++ (fa3 ++ (fa4))))
def fn0 : List He.DefD := [⟨("is_whole", none), "is_whole", "is_whole", defArgs s_is_whole, defBody s_is_whole, defScope s_is_whole, [], []⟩,
  ⟨("is_worth", none), "is_worth", "is_worth", defArgs s_is_worth, defBody s_is_worth, defScope s_is_worth, [], []⟩,
  ⟨("is_thing", none), "is_thing", "is_thing", defArgs s_is_thing, defBody s_is_thing, defScope s_is_thing, [], []⟩,
  ⟨("things_of", none), "things_of", "things_of", defArgs s_things_of, defBody s_things_of, defScope s_things_of, [], []⟩,
  ⟨("is_row", none), "is_row", "is_row", defArgs s_is_row, defBody s_is_row, defScope s_is_row, [], []⟩,
  ⟨("is_program", none), "is_program", "is_program", defArgs s_is_program, defBody s_is_program, defScope s_is_program, [], []⟩,
  ⟨("stands", none), "stands", "stands", defArgs s_stands, defBody s_stands, defScope s_stands, [], []⟩,
  ⟨("lacks_reached", none), "lacks_reached", "lacks_reached", defArgs s_lacks_reached, defBody s_lacks_reached, defScope s_lacks_reached, [], []⟩,
  ⟨("lacks", none), "lacks", "lacks", defArgs s_lacks, defBody s_lacks, defScope s_lacks, [], []⟩,
  ⟨("reckon", none), "reckon", "reckon", defArgs s_reckon, defBody s_reckon, defScope s_reckon, [], []⟩,
  ⟨("open_box", none), "open_box", "open_box", defArgs s_open_box, defBody s_open_box, defScope s_open_box, [], []⟩,
  ⟨("reach", none), "reach", "reach", defArgs s_reach, defBody s_reach, defScope s_reach, [], []⟩,
  ⟨("lead", none), "lead", "lead", defArgs s_lead, defBody s_lead, defScope s_lead, [], []⟩,
  ⟨("done_row", none), "done_row", "done_row", defArgs s_done_row, defBody s_done_row, defScope s_done_row, [], []⟩,
  ⟨("how_it_is", none), "how_it_is", "how_it_is", defArgs s_how_it_is, defBody s_how_it_is, defScope s_how_it_is, [], []⟩,
  ⟨("run", none), "run", "run", defArgs s_run, defBody s_run, defScope s_run, [(.int 0)], []⟩,
  ⟨("things", none), "things", "things", defArgs s_things, defBody s_things, defScope s_things, [], []⟩,
  ⟨("roots", none), "roots", "roots", defArgs s_roots, defBody s_roots, defScope s_roots, [], []⟩,
  ⟨("all_held", none), "all_held", "all_held", defArgs s_all_held, defBody s_all_held, defScope s_all_held, [], []⟩,
  ⟨("reached", none), "reached", "reached", defArgs s_reached, defBody s_reached, defScope s_reached, [], []⟩,
  ⟨("lost", none), "lost", "lost", defArgs s_lost, defBody s_lost, defScope s_lost, [], []⟩,
  ⟨("least_free", none), "least_free", "least_free", defArgs s_least_free, defBody s_least_free, defScope s_least_free, [], []⟩,
  ⟨("Copies", some "__init__"), "__init__", "Copies.__init__", defArgs s_Copies___init__, defBody s_Copies___init__, defScope s_Copies___init__, [], []⟩,
  ⟨("Copies", some "whole"), "whole", "Copies.whole", defArgs s_Copies_whole, defBody s_Copies_whole, defScope s_Copies_whole, [], []⟩,
  ⟨("Copies", some "whole_of"), "whole_of", "Copies.whole_of", defArgs s_Copies_whole_of, defBody s_Copies_whole_of, defScope s_Copies_whole_of, [], []⟩,
  ⟨("Copies", some "tall"), "tall", "Copies.tall", defArgs s_Copies_tall, defBody s_Copies_tall, defScope s_Copies_tall, [], []⟩,
  ⟨("Copies", some "at_depth"), "at_depth", "Copies.at_depth", defArgs s_Copies_at_depth, defBody s_Copies_at_depth, defScope s_Copies_at_depth, [], []⟩,
  ⟨("Copies", some "lay_on"), "lay_on", "Copies.lay_on", defArgs s_Copies_lay_on, defBody s_Copies_lay_on, defScope s_Copies_lay_on, [], []⟩,
  ⟨("Copies", some "lift_off"), "lift_off", "Copies.lift_off", defArgs s_Copies_lift_off, defBody s_Copies_lift_off, defScope s_Copies_lift_off, [], []⟩,
  ⟨("Copies", some "keep_whole"), "keep_whole", "Copies.keep_whole", defArgs s_Copies_keep_whole, defBody s_Copies_keep_whole, defScope s_Copies_keep_whole, [], []⟩,
  ⟨("Copies", some "turn_to"), "turn_to", "Copies.turn_to", defArgs s_Copies_turn_to, defBody s_Copies_turn_to, defScope s_Copies_turn_to, [], []⟩,
  ⟨("Copies", some "forget_whole"), "forget_whole", "Copies.forget_whole", defArgs s_Copies_forget_whole, defBody s_Copies_forget_whole, defScope s_Copies_forget_whole, [], []⟩,
  ⟨("Copies", some "hold"), "hold", "Copies.hold", defArgs s_Copies_hold, defBody s_Copies_hold, defScope s_Copies_hold, [], []⟩,
  ⟨("Pieces", some "hold"), "hold", "Copies.hold", defArgs s_Copies_hold, defBody s_Copies_hold, defScope s_Copies_hold, [], []⟩,
  ⟨("Copies", some "loose"), "loose", "Copies.loose", defArgs s_Copies_loose, defBody s_Copies_loose, defScope s_Copies_loose, [], []⟩,
  ⟨("Pieces", some "loose"), "loose", "Copies.loose", defArgs s_Copies_loose, defBody s_Copies_loose, defScope s_Copies_loose, [], []⟩,
  ⟨("Copies", some "settle"), "settle", "Copies.settle", defArgs s_Copies_settle, defBody s_Copies_settle, defScope s_Copies_settle, [], []⟩,
  ⟨("Pieces", some "settle"), "settle", "Copies.settle", defArgs s_Copies_settle, defBody s_Copies_settle, defScope s_Copies_settle, [], []⟩,
  ⟨("Copies", some "forget"), "forget", "Copies.forget", defArgs s_Copies_forget, defBody s_Copies_forget, defScope s_Copies_forget, [], []⟩,
  ⟨("Pieces", some "forget"), "forget", "Copies.forget", defArgs s_Copies_forget, defBody s_Copies_forget, defScope s_Copies_forget, [], []⟩]
def fn1 : List He.DefD := [⟨("Copies", some "let_by"), "let_by", "Copies.let_by", defArgs s_Copies_let_by, defBody s_Copies_let_by, defScope s_Copies_let_by, [], []⟩,
  ⟨("Pieces", some "let_by"), "let_by", "Copies.let_by", defArgs s_Copies_let_by, defBody s_Copies_let_by, defScope s_Copies_let_by, [], []⟩,
  ⟨("Copies", some "let_place"), "let_place", "Copies.let_place", defArgs s_Copies_let_place, defBody s_Copies_let_place, defScope s_Copies_let_place, [], []⟩,
  ⟨("Pieces", some "let_place"), "let_place", "Copies.let_place", defArgs s_Copies_let_place, defBody s_Copies_let_place, defScope s_Copies_let_place, [], []⟩,
  ⟨("Copies", some "out"), "out", "Copies.out", defArgs s_Copies_out, defBody s_Copies_out, defScope s_Copies_out, [], []⟩,
  ⟨("Pieces", some "out"), "out", "Copies.out", defArgs s_Copies_out, defBody s_Copies_out, defScope s_Copies_out, [], []⟩,
  ⟨("Copies", some "put"), "put", "Copies.put", defArgs s_Copies_put, defBody s_Copies_put, defScope s_Copies_put, [], []⟩,
  ⟨("Pieces", some "put"), "put", "Copies.put", defArgs s_Copies_put, defBody s_Copies_put, defScope s_Copies_put, [], []⟩,
  ⟨("Copies", some "take"), "take", "Copies.take", defArgs s_Copies_take, defBody s_Copies_take, defScope s_Copies_take, [(.int 0)], []⟩,
  ⟨("Pieces", some "take"), "take", "Copies.take", defArgs s_Copies_take, defBody s_Copies_take, defScope s_Copies_take, [(.int 0)], []⟩,
  ⟨("Copies", some "lift"), "lift", "Copies.lift", defArgs s_Copies_lift, defBody s_Copies_lift, defScope s_Copies_lift, [], []⟩,
  ⟨("Pieces", some "lift"), "lift", "Copies.lift", defArgs s_Copies_lift, defBody s_Copies_lift, defScope s_Copies_lift, [], []⟩,
  ⟨("Copies", some "look"), "look", "Copies.look", defArgs s_Copies_look, defBody s_Copies_look, defScope s_Copies_look, [(.int 0)], []⟩,
  ⟨("Pieces", some "look"), "look", "Copies.look", defArgs s_Copies_look, defBody s_Copies_look, defScope s_Copies_look, [(.int 0)], []⟩,
  ⟨("Copies", some "height"), "height", "Copies.height", defArgs s_Copies_height, defBody s_Copies_height, defScope s_Copies_height, [], []⟩,
  ⟨("Pieces", some "height"), "height", "Copies.height", defArgs s_Copies_height, defBody s_Copies_height, defScope s_Copies_height, [], []⟩,
  ⟨("Copies", some "pile"), "pile", "Copies.pile", defArgs s_Copies_pile, defBody s_Copies_pile, defScope s_Copies_pile, [], []⟩,
  ⟨("Pieces", some "pile"), "pile", "Copies.pile", defArgs s_Copies_pile, defBody s_Copies_pile, defScope s_Copies_pile, [], []⟩,
  ⟨("Copies", some "keep"), "keep", "Copies.keep", defArgs s_Copies_keep, defBody s_Copies_keep, defScope s_Copies_keep, [], []⟩,
  ⟨("Pieces", some "keep"), "keep", "Copies.keep", defArgs s_Copies_keep, defBody s_Copies_keep, defScope s_Copies_keep, [], []⟩,
  ⟨("Copies", some "go"), "go", "Copies.go", defArgs s_Copies_go, defBody s_Copies_go, defScope s_Copies_go, [(.int 0)], []⟩,
  ⟨("Pieces", some "go"), "go", "Copies.go", defArgs s_Copies_go, defBody s_Copies_go, defScope s_Copies_go, [(.int 0)], []⟩,
  ⟨("Copies", some "box"), "box", "Copies.box", defArgs s_Copies_box, defBody s_Copies_box, defScope s_Copies_box, [], []⟩,
  ⟨("Pieces", some "box"), "box", "Copies.box", defArgs s_Copies_box, defBody s_Copies_box, defScope s_Copies_box, [], []⟩,
  ⟨("Copies", some "held"), "held", "Copies.held", defArgs s_Copies_held, defBody s_Copies_held, defScope s_Copies_held, [], []⟩,
  ⟨("Pieces", some "held"), "held", "Copies.held", defArgs s_Copies_held, defBody s_Copies_held, defScope s_Copies_held, [], []⟩,
  ⟨("Copies", some "fill"), "fill", "Copies.fill", defArgs s_Copies_fill, defBody s_Copies_fill, defScope s_Copies_fill, [], []⟩,
  ⟨("Pieces", some "fill"), "fill", "Copies.fill", defArgs s_Copies_fill, defBody s_Copies_fill, defScope s_Copies_fill, [], []⟩,
  ⟨("Copies", some "pegs"), "pegs", "Copies.pegs", defArgs s_Copies_pegs, defBody s_Copies_pegs, defScope s_Copies_pegs, [], []⟩,
  ⟨("Pieces", some "pegs"), "pegs", "Copies.pegs", defArgs s_Copies_pegs, defBody s_Copies_pegs, defScope s_Copies_pegs, [], []⟩,
  ⟨("Copies", some "goings"), "goings", "Copies.goings", defArgs s_Copies_goings, defBody s_Copies_goings, defScope s_Copies_goings, [], []⟩,
  ⟨("Pieces", some "goings"), "goings", "Copies.goings", defArgs s_Copies_goings, defBody s_Copies_goings, defScope s_Copies_goings, [], []⟩,
  ⟨("Copies", some "boxes"), "boxes", "Copies.boxes", defArgs s_Copies_boxes, defBody s_Copies_boxes, defScope s_Copies_boxes, [], []⟩,
  ⟨("Pieces", some "boxes"), "boxes", "Copies.boxes", defArgs s_Copies_boxes, defBody s_Copies_boxes, defScope s_Copies_boxes, [], []⟩,
  ⟨("Copies", some "place_of"), "place_of", "Copies.place_of", defArgs s_Copies_place_of, defBody s_Copies_place_of, defScope s_Copies_place_of, [], []⟩,
  ⟨("Pieces", some "place_of"), "place_of", "Copies.place_of", defArgs s_Copies_place_of, defBody s_Copies_place_of, defScope s_Copies_place_of, [], []⟩,
  ⟨("Copies", some "sweep"), "sweep", "Copies.sweep", defArgs s_Copies_sweep, defBody s_Copies_sweep, defScope s_Copies_sweep, [], []⟩,
  ⟨("Pieces", some "sweep"), "sweep", "Copies.sweep", defArgs s_Copies_sweep, defBody s_Copies_sweep, defScope s_Copies_sweep, [], []⟩,
  ⟨("Copies", some "picture"), "picture", "Copies.picture", defArgs s_Copies_picture, defBody s_Copies_picture, defScope s_Copies_picture, [], []⟩,
  ⟨("Pieces", some "picture"), "picture", "Copies.picture", defArgs s_Copies_picture, defBody s_Copies_picture, defScope s_Copies_picture, [], []⟩]
def fn2 : List He.DefD := [⟨("Piece", some "__init__"), "__init__", "Piece.__init__", defArgs s_Piece___init__, defBody s_Piece___init__, defScope s_Piece___init__, [], []⟩,
  ⟨("pile_on", none), "pile_on", "pile_on", defArgs s_pile_on, defBody s_pile_on, defScope s_pile_on, [], []⟩,
  ⟨("Pieces", some "__init__"), "__init__", "Pieces.__init__", defArgs s_Pieces___init__, defBody s_Pieces___init__, defScope s_Pieces___init__, [], []⟩,
  ⟨("Pieces", some "piece_on"), "piece_on", "Pieces.piece_on", defArgs s_Pieces_piece_on, defBody s_Pieces_piece_on, defScope s_Pieces_piece_on, [], []⟩,
  ⟨("Pieces", some "run_on"), "run_on", "Pieces.run_on", defArgs s_Pieces_run_on, defBody s_Pieces_run_on, defScope s_Pieces_run_on, [], []⟩,
  ⟨("Pieces", some "hand_back"), "hand_back", "Pieces.hand_back", defArgs s_Pieces_hand_back, defBody s_Pieces_hand_back, defScope s_Pieces_hand_back, [], []⟩,
  ⟨("Pieces", some "whole"), "whole", "Pieces.whole", defArgs s_Pieces_whole, defBody s_Pieces_whole, defScope s_Pieces_whole, [], []⟩,
  ⟨("Pieces", some "whole_of"), "whole_of", "Pieces.whole_of", defArgs s_Pieces_whole_of, defBody s_Pieces_whole_of, defScope s_Pieces_whole_of, [], []⟩,
  ⟨("Pieces", some "tall"), "tall", "Pieces.tall", defArgs s_Pieces_tall, defBody s_Pieces_tall, defScope s_Pieces_tall, [], []⟩,
  ⟨("Pieces", some "at_depth"), "at_depth", "Pieces.at_depth", defArgs s_Pieces_at_depth, defBody s_Pieces_at_depth, defScope s_Pieces_at_depth, [], []⟩,
  ⟨("Pieces", some "lay_on"), "lay_on", "Pieces.lay_on", defArgs s_Pieces_lay_on, defBody s_Pieces_lay_on, defScope s_Pieces_lay_on, [], []⟩,
  ⟨("Pieces", some "go_up"), "go_up", "Pieces.go_up", defArgs s_Pieces_go_up, defBody s_Pieces_go_up, defScope s_Pieces_go_up, [], []⟩,
  ⟨("Pieces", some "lift_off"), "lift_off", "Pieces.lift_off", defArgs s_Pieces_lift_off, defBody s_Pieces_lift_off, defScope s_Pieces_lift_off, [], []⟩,
  ⟨("Pieces", some "go_down"), "go_down", "Pieces.go_down", defArgs s_Pieces_go_down, defBody s_Pieces_go_down, defScope s_Pieces_go_down, [], []⟩,
  ⟨("Pieces", some "part"), "part", "Pieces.part", defArgs s_Pieces_part, defBody s_Pieces_part, defScope s_Pieces_part, [], []⟩,
  ⟨("Pieces", some "keep_whole"), "keep_whole", "Pieces.keep_whole", defArgs s_Pieces_keep_whole, defBody s_Pieces_keep_whole, defScope s_Pieces_keep_whole, [], []⟩,
  ⟨("Pieces", some "turn_to"), "turn_to", "Pieces.turn_to", defArgs s_Pieces_turn_to, defBody s_Pieces_turn_to, defScope s_Pieces_turn_to, [], []⟩,
  ⟨("Pieces", some "forget_whole"), "forget_whole", "Pieces.forget_whole", defArgs s_Pieces_forget_whole, defBody s_Pieces_forget_whole, defScope s_Pieces_forget_whole, [], []⟩,
  ⟨("Pieces", some "handed"), "handed", "Pieces.handed", defArgs s_Pieces_handed, defBody s_Pieces_handed, defScope s_Pieces_handed, [], []⟩,
  ⟨("Pieces", some "ahead"), "ahead", "Pieces.ahead", defArgs s_Pieces_ahead, defBody s_Pieces_ahead, defScope s_Pieces_ahead, [], []⟩,
  ⟨("Pieces", some "size"), "size", "Pieces.size", defArgs s_Pieces_size, defBody s_Pieces_size, defScope s_Pieces_size, [], []⟩,
  ⟨("_law_cell_at", none), "_law_cell_at", "_law_cell_at", defArgs s__law_cell_at, defBody s__law_cell_at, defScope s__law_cell_at, [], []⟩,
  ⟨("_law_bag", none), "_law_bag", "_law_bag", defArgs s__law_bag, defBody s__law_bag, defScope s__law_bag, [], []⟩,
  ⟨("_law_draw", none), "_law_draw", "_law_draw", defArgs s__law_draw, defBody s__law_draw, defScope s__law_draw, [], []⟩,
  ⟨("_law_number", none), "_law_number", "_law_number", defArgs s__law_number, defBody s__law_number, defScope s__law_number, [], []⟩,
  ⟨("_law_same", none), "_law_same", "_law_same", defArgs s__law_same, defBody s__law_same, defScope s__law_same, [], []⟩,
  ⟨("_law_house", none), "_law_house", "_law_house", defArgs s__law_house, defBody s__law_house, defScope s__law_house, [], []⟩,
  ⟨("_law_within", none), "_law_within", "_law_within", defArgs s__law_within, defBody s__law_within, defScope s__law_within, [], []⟩,
  ⟨("law", none), "law", "law", defArgs s_law, defBody s_law, defScope s_law, [], []⟩]
def fn : List He.DefD := fn0 ++ (fn1 ++ (fn2))
def ts : List He.Tab := [((fun K => He.ga K "MARKS"), ["num", "at", "box", "go"])]
def ex (K : PySem.W.Frag) : Bool := He.valsB K (He.ga K "MARKS") [("num", He.Dv.str ""), ("at", He.Dv.str "@"), ("box", He.Dv.str "b"), ("go", He.Dv.str "g")] && (He.tupB K "REACHING" [(.str "pick"), (.str "drop"), (.str "lift"), (.str "go"), (.str "back")] && (He.tupB K "LEADING" [(.str "keep"), (.str "call"), (.str "jump"), (.str "if")] && (He.tupB K "BARE" [(.str "add"), (.str "less"), (.str "box"), (.str "get"), (.str "set"), (.str "tell"), (.str "sweep")] && (clsFnB K "Copies" "__init__" && (true)))))
def loose0 : List Str := ["_wall",
  "PileError",
  "NoWorth",
  "NoThing",
  "NoPlace",
  "NoSize",
  "NoProgram",
  "NoSteps",
  "MARKS",
  "is_whole",
  "is_worth",
  "is_thing",
  "things_of",
  "REACHING",
  "LEADING",
  "BARE",
  "is_row",
  "is_program",
  "MOST_STEPS",
  "stands",
  "lacks_reached",
  "lacks",
  "reckon",
  "open_box",
  "reach",
  "lead",
  "done_row",
  "how_it_is",
  "run",
  "things"]
def loose1 : List Str := ["roots",
  "all_held",
  "reached",
  "lost",
  "least_free",
  "Copies",
  "Piece",
  "pile_on",
  "Pieces",
  "_law_cell_at",
  "_law_bag",
  "_law_draw",
  "_law_number",
  "_law_same",
  "_law_house",
  "_law_within"]
def loose : List Str := loose0 ++ (loose1)
theorem txt_of {K : PySem.W.Frag} {w : World} {mg : Str → Option Value} {h : Heap} (X : K.In h) (G : h.Ns mainGlobals mg) (S : He.SaysX fa fn ts [] ex w h K) : Txt K w mg := by
  have D := S.t.d
  have m := S.more
  obtain ⟨e0, m⟩ := He.ba m
  obtain ⟨e1, m⟩ := He.ba m
  obtain ⟨e2, m⟩ := He.ba m
  obtain ⟨e3, m⟩ := He.ba m
  obtain ⟨e4, m⟩ := He.ba m
  exact {
    b_ValueError := He.free_ok X G (D.fact 0 rfl)
    b_abs := He.free_ok X G (D.fact 1 rfl)
    b_all := He.free_ok X G (D.fact 2 rfl)
    b_any := He.free_ok X G (D.fact 3 rfl)
    b_bool := He.free_ok X G (D.fact 4 rfl)
    b_dict := He.free_ok X G (D.fact 5 rfl)
    b_enumerate := He.free_ok X G (D.fact 6 rfl)
    b_int := He.free_ok X G (D.fact 7 rfl)
    b_isinstance := He.free_ok X G (D.fact 8 rfl)
    b_len := He.free_ok X G (D.fact 9 rfl)
    b_list := He.free_ok X G (D.fact 10 rfl)
    b_max := He.free_ok X G (D.fact 11 rfl)
    b_min := He.free_ok X G (D.fact 12 rfl)
    b_range := He.free_ok X G (D.fact 13 rfl)
    b_reversed := He.free_ok X G (D.fact 14 rfl)
    b_set := He.free_ok X G (D.fact 15 rfl)
    b_sorted := He.free_ok X G (D.fact 16 rfl)
    b_str := He.free_ok X G (D.fact 17 rfl)
    b_sum := He.free_ok X G (D.fact 18 rfl)
    b_tuple := He.free_ok X G (D.fact 19 rfl)
    b_zip := He.free_ok X G (D.fact 20 rfl)
    g_is_whole := He.glo_ok X G (D.fact 21 rfl)
    g_is_worth := He.glo_ok X G (D.fact 22 rfl)
    g_is_thing := He.glo_ok X G (D.fact 23 rfl)
    g_things_of := He.glo_ok X G (D.fact 24 rfl)
    g_is_row := He.glo_ok X G (D.fact 25 rfl)
    g_is_program := He.glo_ok X G (D.fact 26 rfl)
    g_stands := He.glo_ok X G (D.fact 27 rfl)
    g_lacks_reached := He.glo_ok X G (D.fact 28 rfl)
    g_lacks := He.glo_ok X G (D.fact 29 rfl)
    g_reckon := He.glo_ok X G (D.fact 30 rfl)
    g_open_box := He.glo_ok X G (D.fact 31 rfl)
    g_reach := He.glo_ok X G (D.fact 32 rfl)
    g_lead := He.glo_ok X G (D.fact 33 rfl)
    g_done_row := He.glo_ok X G (D.fact 34 rfl)
    g_how_it_is := He.glo_ok X G (D.fact 35 rfl)
    g_run := He.glo_ok X G (D.fact 36 rfl)
    g_things := He.glo_ok X G (D.fact 37 rfl)
    g_roots := He.glo_ok X G (D.fact 38 rfl)
    g_all_held := He.glo_ok X G (D.fact 39 rfl)
    g_reached := He.glo_ok X G (D.fact 40 rfl)
    g_lost := He.glo_ok X G (D.fact 41 rfl)
    g_least_free := He.glo_ok X G (D.fact 42 rfl)
    g_pile_on := He.glo_ok X G (D.fact 43 rfl)
    g__law_cell_at := He.glo_ok X G (D.fact 44 rfl)
    g__law_bag := He.glo_ok X G (D.fact 45 rfl)
    g__law_draw := He.glo_ok X G (D.fact 46 rfl)
    g__law_number := He.glo_ok X G (D.fact 47 rfl)
    g__law_same := He.glo_ok X G (D.fact 48 rfl)
    g__law_house := He.glo_ok X G (D.fact 49 rfl)
    g__law_within := He.glo_ok X G (D.fact 50 rfl)
    g_law := He.glo_ok X G (D.fact 51 rfl)
    g_Copies := He.glo_ok X G (D.fact 52 rfl)
    cl_Copies := He.cls_ok (D.fact 53 rfl)
    mk_Copies := He.mkr_ok (D.fact 54 rfl)
    na_Copies_running := He.noat_ok (D.fact 55 rfl)
    na_Copies_wholes := He.noat_ok (D.fact 56 rfl)
    na_Copies_places := He.noat_ok (D.fact 57 rfl)
    na_Copies_in_box := He.noat_ok (D.fact 58 rfl)
    na_Copies_on_peg := He.noat_ok (D.fact 59 rfl)
    na_Copies_holding := He.noat_ok (D.fact 60 rfl)
    na_Copies_waiting := He.noat_ok (D.fact 61 rfl)
    g_Piece := He.glo_ok X G (D.fact 62 rfl)
    cl_Piece := He.cls_ok (D.fact 63 rfl)
    mk_Piece := He.mkr_ok (D.fact 64 rfl)
    na_Piece_under := He.noat_ok (D.fact 65 rfl)
    na_Piece_worths := He.noat_ok (D.fact 66 rfl)
    na_Piece_holders := He.noat_ok (D.fact 67 rfl)
    g_Pieces := He.glo_ok X G (D.fact 68 rfl)
    cl_Pieces := He.cls_ok (D.fact 69 rfl)
    mk_Pieces := He.mkr_ok (D.fact 70 rfl)
    na_Pieces_most := He.noat_ok (D.fact 71 rfl)
    na_Pieces_count_made := He.noat_ok (D.fact 72 rfl)
    na_Pieces_count_handed := He.noat_ok (D.fact 73 rfl)
    na_Pieces_count_moved := He.noat_ok (D.fact 74 rfl)
    na_Pieces_high := He.noat_ok (D.fact 75 rfl)
    na_Pieces_highs := He.noat_ok (D.fact 76 rfl)
    na_Pieces_tops := He.noat_ok (D.fact 77 rfl)
    na_Pieces_above := He.noat_ok (D.fact 78 rfl)
    na_Pieces_running := He.noat_ok (D.fact 79 rfl)
    na_Pieces_wholes := He.noat_ok (D.fact 80 rfl)
    na_Pieces_places := He.noat_ok (D.fact 81 rfl)
    na_Pieces_in_box := He.noat_ok (D.fact 82 rfl)
    na_Pieces_on_peg := He.noat_ok (D.fact 83 rfl)
    na_Pieces_holding := He.noat_ok (D.fact 84 rfl)
    na_Pieces_waiting := He.noat_ok (D.fact 85 rfl)
    c_MARKS := ⟨_, He.glo_ok X G (D.fact 86 rfl), rfl⟩
    c_REACHING := ⟨_, He.glo_ok X G (D.fact 87 rfl), rfl⟩
    c_LEADING := ⟨_, He.glo_ok X G (D.fact 88 rfl), rfl⟩
    c_BARE := ⟨_, He.glo_ok X G (D.fact 89 rfl), rfl⟩
    c_MOST_STEPS := (let ⟨t, h⟩ := He.int_ok X G (D.fact 90 rfl); ⟨_, h, ⟨t, rfl⟩⟩)
    d_MARKS := S.t.tab 0 rfl
    f_is_whole := D.def_ 0 rfl
    f_is_worth := D.def_ 1 rfl
    f_is_thing := D.def_ 2 rfl
    f_things_of := D.def_ 3 rfl
    f_is_row := D.def_ 4 rfl
    f_is_program := D.def_ 5 rfl
    f_stands := D.def_ 6 rfl
    f_lacks_reached := D.def_ 7 rfl
    f_lacks := D.def_ 8 rfl
    f_reckon := D.def_ 9 rfl
    f_open_box := D.def_ 10 rfl
    f_reach := D.def_ 11 rfl
    f_lead := D.def_ 12 rfl
    f_done_row := D.def_ 13 rfl
    f_how_it_is := D.def_ 14 rfl
    f_run := D.def_ 15 rfl
    f_things := D.def_ 16 rfl
    f_roots := D.def_ 17 rfl
    f_all_held := D.def_ 18 rfl
    f_reached := D.def_ 19 rfl
    f_lost := D.def_ 20 rfl
    f_least_free := D.def_ 21 rfl
    f_Copies___init__ := D.def_ 22 rfl
    f_Copies_whole := D.def_ 23 rfl
    m_Copies_whole := He.meth_ok (D.fact 91 rfl)
    f_Copies_whole_of := D.def_ 24 rfl
    m_Copies_whole_of := He.meth_ok (D.fact 92 rfl)
    f_Copies_tall := D.def_ 25 rfl
    m_Copies_tall := He.meth_ok (D.fact 93 rfl)
    f_Copies_at_depth := D.def_ 26 rfl
    m_Copies_at_depth := He.meth_ok (D.fact 94 rfl)
    f_Copies_lay_on := D.def_ 27 rfl
    m_Copies_lay_on := He.meth_ok (D.fact 95 rfl)
    f_Copies_lift_off := D.def_ 28 rfl
    m_Copies_lift_off := He.meth_ok (D.fact 96 rfl)
    f_Copies_keep_whole := D.def_ 29 rfl
    m_Copies_keep_whole := He.meth_ok (D.fact 97 rfl)
    f_Copies_turn_to := D.def_ 30 rfl
    m_Copies_turn_to := He.meth_ok (D.fact 98 rfl)
    f_Copies_forget_whole := D.def_ 31 rfl
    m_Copies_forget_whole := He.meth_ok (D.fact 99 rfl)
    f_Copies_hold := D.def_ 32 rfl
    m_Copies_hold := He.meth_ok (D.fact 100 rfl)
    f_Pieces_hold := D.def_ 33 rfl
    m_Pieces_hold := He.meth_ok (D.fact 101 rfl)
    f_Copies_loose := D.def_ 34 rfl
    m_Copies_loose := He.meth_ok (D.fact 102 rfl)
    f_Pieces_loose := D.def_ 35 rfl
    m_Pieces_loose := He.meth_ok (D.fact 103 rfl)
    f_Copies_settle := D.def_ 36 rfl
    m_Copies_settle := He.meth_ok (D.fact 104 rfl)
    f_Pieces_settle := D.def_ 37 rfl
    m_Pieces_settle := He.meth_ok (D.fact 105 rfl)
    f_Copies_forget := D.def_ 38 rfl
    m_Copies_forget := He.meth_ok (D.fact 106 rfl)
    f_Pieces_forget := D.def_ 39 rfl
    m_Pieces_forget := He.meth_ok (D.fact 107 rfl)
    f_Copies_let_by := D.def_ 40 rfl
    m_Copies_let_by := He.meth_ok (D.fact 108 rfl)
    f_Pieces_let_by := D.def_ 41 rfl
    m_Pieces_let_by := He.meth_ok (D.fact 109 rfl)
    f_Copies_let_place := D.def_ 42 rfl
    m_Copies_let_place := He.meth_ok (D.fact 110 rfl)
    f_Pieces_let_place := D.def_ 43 rfl
    m_Pieces_let_place := He.meth_ok (D.fact 111 rfl)
    f_Copies_out := D.def_ 44 rfl
    m_Copies_out := He.meth_ok (D.fact 112 rfl)
    f_Pieces_out := D.def_ 45 rfl
    m_Pieces_out := He.meth_ok (D.fact 113 rfl)
    f_Copies_put := D.def_ 46 rfl
    m_Copies_put := He.meth_ok (D.fact 114 rfl)
    f_Pieces_put := D.def_ 47 rfl
    m_Pieces_put := He.meth_ok (D.fact 115 rfl)
    f_Copies_take := D.def_ 48 rfl
    m_Copies_take := He.meth_ok (D.fact 116 rfl)
    f_Pieces_take := D.def_ 49 rfl
    m_Pieces_take := He.meth_ok (D.fact 117 rfl)
    f_Copies_lift := D.def_ 50 rfl
    m_Copies_lift := He.meth_ok (D.fact 118 rfl)
    f_Pieces_lift := D.def_ 51 rfl
    m_Pieces_lift := He.meth_ok (D.fact 119 rfl)
    f_Copies_look := D.def_ 52 rfl
    m_Copies_look := He.meth_ok (D.fact 120 rfl)
    f_Pieces_look := D.def_ 53 rfl
    m_Pieces_look := He.meth_ok (D.fact 121 rfl)
    f_Copies_height := D.def_ 54 rfl
    m_Copies_height := He.meth_ok (D.fact 122 rfl)
    f_Pieces_height := D.def_ 55 rfl
    m_Pieces_height := He.meth_ok (D.fact 123 rfl)
    f_Copies_pile := D.def_ 56 rfl
    m_Copies_pile := He.meth_ok (D.fact 124 rfl)
    f_Pieces_pile := D.def_ 57 rfl
    m_Pieces_pile := He.meth_ok (D.fact 125 rfl)
    f_Copies_keep := D.def_ 58 rfl
    m_Copies_keep := He.meth_ok (D.fact 126 rfl)
    f_Pieces_keep := D.def_ 59 rfl
    m_Pieces_keep := He.meth_ok (D.fact 127 rfl)
    f_Copies_go := D.def_ 60 rfl
    m_Copies_go := He.meth_ok (D.fact 128 rfl)
    f_Pieces_go := D.def_ 61 rfl
    m_Pieces_go := He.meth_ok (D.fact 129 rfl)
    f_Copies_box := D.def_ 62 rfl
    m_Copies_box := He.meth_ok (D.fact 130 rfl)
    f_Pieces_box := D.def_ 63 rfl
    m_Pieces_box := He.meth_ok (D.fact 131 rfl)
    f_Copies_held := D.def_ 64 rfl
    m_Copies_held := He.meth_ok (D.fact 132 rfl)
    f_Pieces_held := D.def_ 65 rfl
    m_Pieces_held := He.meth_ok (D.fact 133 rfl)
    f_Copies_fill := D.def_ 66 rfl
    m_Copies_fill := He.meth_ok (D.fact 134 rfl)
    f_Pieces_fill := D.def_ 67 rfl
    m_Pieces_fill := He.meth_ok (D.fact 135 rfl)
    f_Copies_pegs := D.def_ 68 rfl
    m_Copies_pegs := He.meth_ok (D.fact 136 rfl)
    f_Pieces_pegs := D.def_ 69 rfl
    m_Pieces_pegs := He.meth_ok (D.fact 137 rfl)
    f_Copies_goings := D.def_ 70 rfl
    m_Copies_goings := He.meth_ok (D.fact 138 rfl)
    f_Pieces_goings := D.def_ 71 rfl
    m_Pieces_goings := He.meth_ok (D.fact 139 rfl)
    f_Copies_boxes := D.def_ 72 rfl
    m_Copies_boxes := He.meth_ok (D.fact 140 rfl)
    f_Pieces_boxes := D.def_ 73 rfl
    m_Pieces_boxes := He.meth_ok (D.fact 141 rfl)
    f_Copies_place_of := D.def_ 74 rfl
    m_Copies_place_of := He.meth_ok (D.fact 142 rfl)
    f_Pieces_place_of := D.def_ 75 rfl
    m_Pieces_place_of := He.meth_ok (D.fact 143 rfl)
    f_Copies_sweep := D.def_ 76 rfl
    m_Copies_sweep := He.meth_ok (D.fact 144 rfl)
    f_Pieces_sweep := D.def_ 77 rfl
    m_Pieces_sweep := He.meth_ok (D.fact 145 rfl)
    f_Copies_picture := D.def_ 78 rfl
    m_Copies_picture := He.meth_ok (D.fact 146 rfl)
    f_Pieces_picture := D.def_ 79 rfl
    m_Pieces_picture := He.meth_ok (D.fact 147 rfl)
    f_Piece___init__ := D.def_ 80 rfl
    f_pile_on := D.def_ 81 rfl
    f_Pieces___init__ := D.def_ 82 rfl
    f_Pieces_piece_on := D.def_ 83 rfl
    m_Pieces_piece_on := He.meth_ok (D.fact 148 rfl)
    f_Pieces_run_on := D.def_ 84 rfl
    m_Pieces_run_on := He.meth_ok (D.fact 149 rfl)
    f_Pieces_hand_back := D.def_ 85 rfl
    m_Pieces_hand_back := He.meth_ok (D.fact 150 rfl)
    f_Pieces_whole := D.def_ 86 rfl
    m_Pieces_whole := He.meth_ok (D.fact 151 rfl)
    f_Pieces_whole_of := D.def_ 87 rfl
    m_Pieces_whole_of := He.meth_ok (D.fact 152 rfl)
    f_Pieces_tall := D.def_ 88 rfl
    m_Pieces_tall := He.meth_ok (D.fact 153 rfl)
    f_Pieces_at_depth := D.def_ 89 rfl
    m_Pieces_at_depth := He.meth_ok (D.fact 154 rfl)
    f_Pieces_lay_on := D.def_ 90 rfl
    m_Pieces_lay_on := He.meth_ok (D.fact 155 rfl)
    f_Pieces_go_up := D.def_ 91 rfl
    m_Pieces_go_up := He.meth_ok (D.fact 156 rfl)
    f_Pieces_lift_off := D.def_ 92 rfl
    m_Pieces_lift_off := He.meth_ok (D.fact 157 rfl)
    f_Pieces_go_down := D.def_ 93 rfl
    m_Pieces_go_down := He.meth_ok (D.fact 158 rfl)
    f_Pieces_part := D.def_ 94 rfl
    m_Pieces_part := He.meth_ok (D.fact 159 rfl)
    f_Pieces_keep_whole := D.def_ 95 rfl
    m_Pieces_keep_whole := He.meth_ok (D.fact 160 rfl)
    f_Pieces_turn_to := D.def_ 96 rfl
    m_Pieces_turn_to := He.meth_ok (D.fact 161 rfl)
    f_Pieces_forget_whole := D.def_ 97 rfl
    m_Pieces_forget_whole := He.meth_ok (D.fact 162 rfl)
    f_Pieces_handed := D.def_ 98 rfl
    m_Pieces_handed := He.meth_ok (D.fact 163 rfl)
    f_Pieces_ahead := D.def_ 99 rfl
    m_Pieces_ahead := He.meth_ok (D.fact 164 rfl)
    f_Pieces_size := D.def_ 100 rfl
    m_Pieces_size := He.meth_ok (D.fact 165 rfl)
    f__law_cell_at := D.def_ 101 rfl
    f__law_bag := D.def_ 102 rfl
    f__law_draw := D.def_ 103 rfl
    f__law_number := D.def_ 104 rfl
    f__law_same := D.def_ 105 rfl
    f__law_house := D.def_ 106 rfl
    f__law_within := D.def_ 107 rfl
    f_law := D.def_ 108 rfl
    v_MARKS := e0
    t_REACHING := fun H => He.tupB_ok (e1) H
    t_LEADING := fun H => He.tupB_ok (e2) H
    t_BARE := fun H => He.tupB_ok (e3) H
    cf_Copies := e4
  }
abbrev LAWI : Nat := 55
abbrev R : PySem.W.OpenRow := PySem.W.OpenLaw.row PySem.Challenge.rw_manygoings_k78_counting_down
abbrev hk : PySem.W.Hook := hookXA 4 fa fn ts ex
def ob (s : PySem.W.SharedT) : He.AlX := obsXA 4 fa fn ts ex (HandSHeadRun.getT s)
theorem ob_eq (s : PySem.W.SharedT) : ob s = hk.obs s.abs := obsXA_eq (HandSHeadRun.getT_eq s)
set_option maxHeartbeats 0 in
theorem runF (w : World) : HandSHeadRun.RunEq R (PySem.W.view R.prog [LAWI]) hk ob 7000 loose (w.withFollow "special-get-raises" false) := by
  intro os
  kernel_rfl
set_option maxHeartbeats 0 in
theorem runT (w : World) : HandSHeadRun.RunEq R (PySem.W.view R.prog [LAWI]) hk ob 7000 loose (w.withFollow "special-get-raises" true) := by
  intro os
  kernel_rfl
theorem run (w : World) : HandSHeadRun.RunEq R (PySem.W.view R.prog [LAWI]) hk ob 7000 loose w :=
  PySem.W.byRow2 "special-get-raises" (P := fun w => HandSHeadRun.RunEq R (PySem.W.view R.prog [LAWI]) hk ob 7000 loose w) runF runT w
end MG

namespace MG
open PySem PySem.Spec PyProof.Rows L2
local macro_rules | `(tactic| walk_at "ne") => `(tactic| first | assumption | exact Ne.symm (by assumption) | exact ne_of_none (by assumption) (by assumption) | exact (ne_of_none (by assumption) (by assumption)).symm)
local macro_rules | `(tactic| walk_at "hp") => `(tactic| first | assumption | exact upd_same | (refine (upd_ne ?k1).trans ?k2; (case k1 => walk_at "ne"); (case k2 => walk_at "hp")))
local macro_rules | `(tactic| walk_at "lk") => `(tactic| first | assumption | with_reducible exact FE_under | with_reducible exact FE_worths | with_reducible exact FE_holders | with_reducible exact FC_running | with_reducible exact FC_wholes | with_reducible exact FC_places | with_reducible exact FC_in_box | with_reducible exact FC_on_peg | with_reducible exact FC_holding | with_reducible exact FC_waiting | with_reducible exact FP_running | with_reducible exact FP_wholes | with_reducible exact FP_places | with_reducible exact FP_in_box | with_reducible exact FP_on_peg | with_reducible exact FP_holding | with_reducible exact FP_waiting | with_reducible exact FP_most | with_reducible exact FP_count_made | with_reducible exact FP_count_handed | with_reducible exact FP_count_moved | with_reducible exact FP_high | with_reducible exact FP_highs | with_reducible exact FP_tops | with_reducible exact FP_above)
/-- one step of a reading that needs nothing but what is written -/
local macro_rules | `(tactic| walk_at "s") => `(tactic| first
  | with_reducible refine r_seq ?_ | with_reducible refine r_next ?_ | with_reducible refine r_set ?_ | with_reducible refine r_asg ?_ | with_reducible refine r_drop ?_ | with_reducible refine r_ret ?_ | with_reducible refine r_retN ?_ | with_reducible refine r_ifs ?_
  | ((with_reducible refine' r_var ?k1 ?_); (case k1 => exact rfl))
  | with_reducible refine r_c ?_ | with_reducible refine r_op ?_ | with_reducible refine r_un ?_ | with_reducible refine r_fld ?_ | with_reducible refine r_sfld ?_ | with_reducible refine r_saug ?_
  | with_reducible refine r_call ?_ | with_reducible refine r_make ?_ | with_reducible refine r_meth ?_ | with_reducible refine r_nil ?_ | with_reducible refine r_cons ?_ | with_reducible refine r_tup ?_ | with_reducible refine r_lst ?_ | with_reducible refine r_cb ?_ | with_reducible refine r_bm ?_ | with_reducible refine r_bm0 ?_
  | with_reducible refine r_tb ?_ | with_reducible refine r_test ?_ | with_reducible refine r_bl ?_ | with_reducible refine r_not ?_ | with_reducible refine r_and ?_ | with_reducible refine r_or ?_ | with_reducible refine r_andV ?_ | with_reducible refine r_orV ?_ | with_reducible refine r_notV ?_
  | with_reducible refine r_I0 ?_ | with_reducible refine r_eqI ?_ | with_reducible refine r_neI ?_ | with_reducible refine r_eqS ?_ | with_reducible refine r_neS ?_ | with_reducible refine r_eqB ?_ | with_reducible refine r_neB ?_
  | with_reducible refine r_gname ?_ | with_reducible refine r_forRev ?_ | with_reducible refine r_forL ?_ | with_reducible refine r_forR1 ?_ | with_reducible refine r_sl ?_ | with_reducible refine r_part ?_ | with_reducible refine r_int ?_ | with_reducible refine r_nopart ?_
  | with_reducible refine r_din ?_ | with_reducible refine r_dnin ?_ | with_reducible refine r_gsub ?_
  | ((with_reducible refine' r_fld1 ?k1 ?k2 ?k3 ?k4 ?_); (case k1 => walk_at "hp"); (case k2 => assumption); (case k3 => assumption); (case k4 => walk_at "lk"))
  | ((with_reducible refine' r_aug1 ?k1 ?k2 ?k3 ?k4 ?_); (case k1 => walk_at "hp"); (case k2 => assumption); (case k3 => assumption); (case k4 => walk_at "lk"))
  | with_reducible refine r_add ?_ | with_reducible refine r_sub ?_
  | ((with_reducible refine' r_meth1 ?k1 ?k2 ?_); (case k1 => walk_at "hp"); (case k2 => first | assumption | exact fz_no (by decide +kernel)))
  | ((with_reducible refine' r_ixT ?k1 ?k2 ?_); (case k1 => first | assumption | exact SqT.of (by walk_at "hp")); (case k2 => first | assumption | rfl)))
local macro_rules | `(tactic| walk_at "ss") => `(tactic| repeat walk_at "s")

/-! ## 6. Worths that lead nowhere; what all houses share -/
def Plain (x : Wo) : Prop := x.1 = "num" ∨ (x.1 = "at" ∧ 0 ≤ x.2)
theorem Plain.box {x : Wo} (h : Plain x) : ¬ x.1 = "box" := by
  rcases h with h | ⟨h, _⟩ <;> rw [h] <;> decide +kernel
theorem Plain.go {x : Wo} (h : Plain x) : ¬ x.1 = "go" := by
  rcases h with h | ⟨h, _⟩ <;> rw [h] <;> decide +kernel
/-- the methods' names: no attribute has one -/
def MN1 : List Str := ["whole", "whole_of", "tall", "at_depth", "lay_on", "lift_off", "keep_whole", "turn_to", "forget_whole", "lay_piles", "hold", "loose", "settle", "forget", "let_by", "let_place", "out", "put", "take", "lift", "look", "height", "pile", "keep"]
def MN2 : List Str := ["go", "box", "held", "fill", "peg", "pegged", "unpeg", "pegs", "goings", "boxes", "pile_of", "place_of", "sweep", "picture", "begin", "piece_on", "run_on", "hand_back", "go_up", "go_down", "part"]
def MN : List Str := MN1 ++ MN2
structure Com (H : Hp) (C p : Addr) : Prop where
  ex : ∃ (dx : Addr) (fs : List (Str × V)) (dh dw : Addr), H p = some (.ins C dx fs) ∧ (∀ m ∈ MN, fs.lookup m = none) ∧ fs.lookup ("holding" : Str) = some (V.ref dh) ∧ H dh = some (.dT []) ∧ fs.lookup ("waiting" : Str) = some (V.ref dw) ∧ H dw = some (.lst [])
/-- a method of the class at C, by its text -/
def HM (K : PySem.W.Frag) (C : Addr) (m qual : Str) (st : Stmt) (dvs : List V) : Prop := ∃ f fd, Meth K C m f ∧ FunD K m qual (defArgs st) (defBody st) (defScope st) dvs [] f fd
structure HCls (K : PySem.W.Frag) (C : Addr) : Prop where
  cl : Cls K C
  nH : NoAttr K C "holding"
  nW : NoAttr K C "waiting"
  hold : HM K C "hold" "Copies.hold" s_Copies_hold []
  loose : HM K C "loose" "Copies.loose" s_Copies_loose []
  settle : HM K C "settle" "Copies.settle" s_Copies_settle []
  let_by : HM K C "let_by" "Copies.let_by" s_Copies_let_by []
  let_place : HM K C "let_place" "Copies.let_place" s_Copies_let_place []
  out : HM K C "out" "Copies.out" s_Copies_out []
  put : HM K C "put" "Copies.put" s_Copies_put []
  take : HM K C "take" "Copies.take" s_Copies_take [V.int 0]
  lift : HM K C "lift" "Copies.lift" s_Copies_lift []
  look : HM K C "look" "Copies.look" s_Copies_look [V.int 0]
  height : HM K C "height" "Copies.height" s_Copies_height []
  pile : HM K C "pile" "Copies.pile" s_Copies_pile []
abbrev AtT := Hp → Addr → (Addr → Prop) → List Wo → Prop
/-! promises -/
def spIsWhole : Sp := fun vs H Q _ => ∃ n : Int, vs = [.int n] ∧ Q (.bl true) H
def spIsWorth : Sp := fun vs H Q _ => ∃ (t : Addr) (x : Wo), vs = [.ref t] ∧ H t = some (.tup [.str x.1, .int x.2]) ∧ Plain x ∧ Q (.bl true) H
def spIsThing : Sp := fun vs H Q _ => ∃ (t : Addr) (x : Wo), vs = [.ref t] ∧ H t = some (.tup [.str x.1, .int x.2]) ∧ Plain x ∧ Q (.bl false) H
/-- hold, loose: nothing is to be done -/
def spQuiet (C : Addr) : Sp := fun vs H Q _ => ∃ (p t : Addr) (x : Wo), vs = [.ref p, .ref t] ∧ Com H C p ∧ H t = some (.tup [.str x.1, .int x.2]) ∧ Plain x ∧ Q .non H
def spSettle (C : Addr) : Sp := fun vs H Q _ => ∃ p : Addr, vs = [.ref p] ∧ Com H C p ∧ ∀ H', Sm H H' → Q .non H'
section
variable {P : Program} {w : World} {K : PySem.W.Frag} {mg : Str → Option Value} {base : Heap} {C : Addr}
theorem cal_is_whole (T : Txt K w mg) : Cal P w K mg base 1 "is_whole" spIsWhole [] := by
  obtain ⟨fd, F⟩ := T.f_is_whole
  refine ⟨_, fd, P_is_whole, [], ?_, T.g_is_whole, F.kp, F.bindsN (fun _ _ _ _ _ _ us hl => match us, hl with | [_], _ => rfl), .nil⟩
  refine fd_ok F sc_is_whole (fun vs H Q E h => ?_) (fun cdv A outer s H vs Q E hr h => ?_)
  · obtain ⟨n, rfl, _⟩ := h; rfl
  · obtain ⟨n, rfl, q⟩ := h
    refine ⟨_, (pss_one (ps_ret (pe_and (pe_callB call_isi (by rfl) T.b_isinstance (by decide +kernel) (pa_cons (pv 0) (pa_cons (pe_bltn (v := .ty "int") (u := .type "int") (by rfl) T.b_int (by decide +kernel) rfl) pa_nil))) (pe_one (pe_not (pe_callB call_isi (by rfl) T.b_isinstance (by decide +kernel) (pa_cons (pv 0) (pa_cons (pe_bltn (v := .ty "bool") (u := .type "bool") (by rfl) T.b_bool (by decide +kernel) rfl) pa_nil)))))))), ?_⟩
    walk_at "ss"
    refine r_isi (.ty _) tyX_int (kit_ty (b := "int") (r := true) (by decide +kernel)) ?_
    walk_at "ss"
    refine ite_t rfl ?_
    walk_at "ss"
    refine r_isi (.ty _) tyX_int (kit_ty (b := "bool") (r := false) (by decide +kernel)) ?_
    walk_at "ss"
    exact q
theorem cal_is_worth (T : Txt K w mg) : Cal P w K mg base 2 "is_worth" spIsWorth [] := by
  obtain ⟨fd, F⟩ := T.f_is_worth
  have c_is_whole : Cal P w K mg base 1 "is_whole" spIsWhole [] := cal_is_whole T
  obtain ⟨_, _, dk_MARKS⟩ := T.d_MARKS
  refine ⟨_, fd, P_is_worth, [], ?_, T.g_is_worth, F.kp, F.bindsN (fun _ _ _ _ _ _ us hl => match us, hl with | [_], _ => rfl), .nil⟩
  refine fd_ok F sc_is_worth (fun vs H Q E h => ?_) (fun cdv A outer s H vs Q E hr h => ?_)
  · obtain ⟨t, x, rfl, _⟩ := h; rfl
  · obtain ⟨t, x, rfl, ht, hx, q⟩ := h
    refine ⟨_, (pss_cons (ps_if (PW.pt (pw_or (pt_not (pt_val (pe_callB call_isi (by rfl) T.b_isinstance (by decide +kernel) (pa_cons (pv 0) (pa_cons (pe_bltn (v := .ty "tuple") (u := .type "tuple") (by rfl) T.b_tuple (by decide +kernel) rfl) pa_nil))))) (pw_or1 (pt_cmpR op_ne (pe_callB call_len_seq (by rfl) T.b_len (by decide +kernel) (pa_cons (pv 0) pa_nil)) pe_int (nomark _))))) (pss_one (ps_ret pe_bl)) pss_nil)
      (pss_cons (ps_asg (pv 0) (pg_tup rfl (pgs_cons (pg_name (i := 1) sc_is_worth.nd rfl (Or.inl rfl)) (pgs_cons (pg_name (i := 2) sc_is_worth.nd rfl (Or.inl rfl)) pgs_nil))))
      (pss_cons (ps_if (PW.pt (pw_or (pt_not (pt_val (pe_callB call_isi (by rfl) T.b_isinstance (by decide +kernel) (pa_cons (pv 1) (pa_cons (pe_bltn (v := .ty "str") (u := .type "str") (by rfl) T.b_str (by decide +kernel) rfl) pa_nil))))) (pw_or1 (pt_not (pt_val (pe_c c_is_whole hr (by decide) rfl (pa_cons (pv 2) pa_nil))))))) (pss_one (ps_ret pe_bl)) pss_nil)
      (pss_one (ps_ret (pe_or (pe_cmpR op_eq (pv 1) pe_str (nomark _)) (pe_one (pe_and (pe_cmpR (op_in_kd dk_MARKS) (pv 1) (pe_gc (by rfl) T.c_MARKS) (by rfl)) (pe_one (pe_cmpR op_ge (pv 2) pe_int (nomark _))))))))))), ?_⟩
    walk_at "ss"
    refine r_isi (.ty _) (tyX_tup ht) (kit_ty (b := "tuple") (r := true) (by decide +kernel)) ?_
    walk_at "ss"
    refine ite_f rfl ?_
    walk_at "ss"
    refine ⟨t, _, rfl, .inr (SqT.of ht), ?_⟩
    walk_at "ss"
    refine ite_f rfl ?_
    walk_at "ss"
    refine ⟨t, _, rfl, SqT.of ht, rfl, _, _, rfl, ?_⟩
    refine ⟨_, _, rfl, rfl, ?_⟩
    walk_at "ss"
    refine r_isi (.ty _) tyX_str (kit_ty (b := "str") (r := true) (by decide +kernel)) ?_
    walk_at "ss"
    refine ite_f rfl ?_
    walk_at "ss"
    refine ⟨x.2, rfl, ?_⟩
    walk_at "ss"
    refine ite_f rfl ?_
    walk_at "ss"
    rcases hx with e | ⟨e, e2⟩
    · refine ite_t (decide_eq_true e) ?_
      exact q
    · refine ite_f (decide_eq_false (by rw [e]; decide +kernel)) ?_
      walk_at "ss"
      obtain ⟨u, hu, _⟩ := He.valsB_ok T.v_MARKS (q := ("at", .str "@")) (by simp)
      refine ⟨x.1, some u, rfl, rfl, by rw [e]; exact hu, ?_⟩
      walk_at "ss"
      refine ite_t rfl ?_
      walk_at "ss"
      have e3 : (decide ((0 : Int) ≤ x.2)) = true := decide_eq_true e2
      show Q (.bl (decide ((0 : Int) ≤ x.2))) H
      rw [e3]
      exact q
theorem cal_is_thing (T : Txt K w mg) : Cal P w K mg base 1 "is_thing" spIsThing [] := by
  obtain ⟨fd, F⟩ := T.f_is_thing
  refine ⟨_, fd, P_is_thing, [], ?_, T.g_is_thing, F.kp, F.bindsN (fun _ _ _ _ _ _ us hl => match us, hl with | [_], _ => rfl), .nil⟩
  refine fd_ok F sc_is_thing (fun vs H Q E h => ?_) (fun cdv A outer s H vs Q E hr h => ?_)
  · obtain ⟨t, x, rfl, _⟩ := h; rfl
  · obtain ⟨t, x, rfl, ht, hx, q⟩ := h
    refine ⟨_, (pss_one (ps_ret (pe_or (pe_cmpR op_eq (pe_ix ix_tup (pv 0) pe_int (fun _ _ => rfl)) pe_str (nomark _)) (pe_one (pe_cmpR op_eq (pe_ix ix_tup (pv 0) pe_int (fun _ _ => rfl)) pe_str (nomark _)))))), ?_⟩
    walk_at "ss"
    refine ite_f (decide_eq_false hx.box) ?_
    walk_at "ss"
    rw [decide_eq_false hx.go]
    exact q
theorem met_hold (T : Txt K w mg) (hc : HCls K C) : Met P w K mg base 2 C "hold" (spQuiet C) [] := by
  obtain ⟨f, fd, hm, F⟩ := hc.hold
  have c_is_thing : Cal P w K mg base 1 "is_thing" spIsThing [] := cal_is_thing T
  refine ⟨_, fd, P_Copies_hold, [], hc.cl, hm, ?_, F.bindsN (fun _ _ _ _ _ _ us hl => match us, hl with | [_, _], _ => rfl), .nil⟩
  refine fd_ok F sc_Copies_hold (fun vs H Q E h => ?_) (fun cdv A outer s H vs Q E hr h => ?_)
  · obtain ⟨p, t, x, rfl, _⟩ := h; rfl
  · obtain ⟨p, t, x, rfl, hp, ht, hx, q⟩ := h
    refine ⟨_, (pss_one (ps_if (pt_val (pe_c c_is_thing hr (by decide) rfl (pa_cons (pv 1) pa_nil))) (pss_one ps_never) pss_nil)), ?_⟩
    walk_at "ss"
    refine ⟨t, x, rfl, ht, hx, ?_⟩
    walk_at "ss"
    exact iteF q
theorem met_loose (T : Txt K w mg) (hc : HCls K C) : Met P w K mg base 1 C "loose" (spQuiet C) [] := by
  obtain ⟨f, fd, hm, F⟩ := hc.loose
  refine ⟨_, fd, P_Copies_loose, [], hc.cl, hm, ?_, F.bindsN (fun _ _ _ _ _ _ us hl => match us, hl with | [_, _], _ => rfl), .nil⟩
  refine fd_ok F sc_Copies_loose (fun vs H Q E h => ?_) (fun cdv A outer s H vs Q E hr h => ?_)
  · obtain ⟨p, t, x, rfl, _⟩ := h; rfl
  · obtain ⟨p, t, x, rfl, ⟨dx, fs, dh, dw, hp, nm, lh, hh, lw, hw⟩, ht, hx, q⟩ := h
    have cC := hc.cl; have nH := hc.nH; have nW := hc.nW
    have hu := hu_of hr
    refine ⟨_, (pss_one (ps_if (pt_cmp (pc_din hu (pv 1) (pe_fld (pv 0) rfl))) (pss_cons ps_never
      (pss_one ps_never)) pss_nil)), ?_⟩
    walk_at "ss"
    refine ⟨dh, none, rfl, DGet.t (k := [Sum.inr x.1, Sum.inl x.2]) hh ht, ?_⟩
    walk_at "ss"
    exact iteF q
theorem met_settle (T : Txt K w mg) (hc : HCls K C) : Met P w K mg base 1 C "settle" (spSettle C) [] := by
  obtain ⟨f, fd, hm, F⟩ := hc.settle
  refine ⟨_, fd, P_Copies_settle, [], hc.cl, hm, ?_, F.bindsN (fun _ _ _ _ _ _ us hl => match us, hl with | [_], _ => rfl), .nil⟩
  refine fd_ok F sc_Copies_settle (fun vs H Q E h => ?_) (fun cdv A outer s H vs Q E hr h => ?_)
  · obtain ⟨p, rfl, _⟩ := h; rfl
  · obtain ⟨p, rfl, ⟨dx, fs, dh, dw, hp, nm, lh, hh, lw, hw⟩, q⟩ := h
    have cC := hc.cl; have nH := hc.nH; have nW := hc.nW
    have hu := hu_of hr
    refine ⟨_, (pss_one (ps_while PassesOwn.never (pt_cmpR (op_neD hr.units) (pe_fld (pv 0) rfl) (pe_lst pa_nil) (nomark _)) (pss_cons ps_never
      (pss_one ps_never)))), ?_⟩
    refine ⟨fun _ σ' H' => σ' = start N_Copies_settle [.ref p] ∧ H' = H, ⟨0, rfl, rfl⟩, ?_⟩
    rintro m σ' H' ⟨rfl, rfl⟩
    walk_at "ss"
    refine ⟨Nat.zero_le _, fun l hl => ?_⟩
    refine r_neD (d := .list []) (e := .list []) (.lst (SqL.of (by rw [upd_ne (ne_of_none hw hl)]; exact hw)) .nil) (.lst (SqL.of upd_same) .nil) rfl rfl rfl ?_
    walk_at "ss"
    exact iteF (q _ ((Sm.refl _).new hl))
end
end MG

namespace MG
open PySem PySem.Spec PyProof.Rows L2
local macro_rules | `(tactic| walk_at "ne") => `(tactic| first | assumption | exact Ne.symm (by assumption) | exact ne_of_none (by assumption) (by assumption) | exact (ne_of_none (by assumption) (by assumption)).symm)
local macro_rules | `(tactic| walk_at "hp") => `(tactic| first | assumption | exact upd_same | (refine (upd_ne ?k1).trans ?k2; (case k1 => walk_at "ne"); (case k2 => walk_at "hp")))
local macro_rules | `(tactic| walk_at "lk") => `(tactic| first | assumption | with_reducible exact FE_under | with_reducible exact FE_worths | with_reducible exact FE_holders | with_reducible exact FC_running | with_reducible exact FC_wholes | with_reducible exact FC_places | with_reducible exact FC_in_box | with_reducible exact FC_on_peg | with_reducible exact FC_holding | with_reducible exact FC_waiting | with_reducible exact FP_running | with_reducible exact FP_wholes | with_reducible exact FP_places | with_reducible exact FP_in_box | with_reducible exact FP_on_peg | with_reducible exact FP_holding | with_reducible exact FP_waiting | with_reducible exact FP_most | with_reducible exact FP_count_made | with_reducible exact FP_count_handed | with_reducible exact FP_count_moved | with_reducible exact FP_high | with_reducible exact FP_highs | with_reducible exact FP_tops | with_reducible exact FP_above)
/-- one step of a reading that needs nothing but what is written -/
local macro_rules | `(tactic| walk_at "s") => `(tactic| first
  | with_reducible refine r_seq ?_ | with_reducible refine r_next ?_ | with_reducible refine r_set ?_ | with_reducible refine r_asg ?_ | with_reducible refine r_drop ?_ | with_reducible refine r_ret ?_ | with_reducible refine r_retN ?_ | with_reducible refine r_ifs ?_
  | ((with_reducible refine' r_var ?k1 ?_); (case k1 => exact rfl))
  | with_reducible refine r_c ?_ | with_reducible refine r_op ?_ | with_reducible refine r_un ?_ | with_reducible refine r_fld ?_ | with_reducible refine r_sfld ?_ | with_reducible refine r_saug ?_
  | with_reducible refine r_call ?_ | with_reducible refine r_make ?_ | with_reducible refine r_meth ?_ | with_reducible refine r_nil ?_ | with_reducible refine r_cons ?_ | with_reducible refine r_tup ?_ | with_reducible refine r_lst ?_ | with_reducible refine r_cb ?_ | with_reducible refine r_bm ?_ | with_reducible refine r_bm0 ?_
  | with_reducible refine r_tb ?_ | with_reducible refine r_test ?_ | with_reducible refine r_bl ?_ | with_reducible refine r_not ?_ | with_reducible refine r_and ?_ | with_reducible refine r_or ?_ | with_reducible refine r_andV ?_ | with_reducible refine r_orV ?_ | with_reducible refine r_notV ?_
  | with_reducible refine r_I0 ?_ | with_reducible refine r_eqI ?_ | with_reducible refine r_neI ?_ | with_reducible refine r_eqS ?_ | with_reducible refine r_neS ?_ | with_reducible refine r_eqB ?_ | with_reducible refine r_neB ?_
  | with_reducible refine r_gname ?_ | with_reducible refine r_forRev ?_ | with_reducible refine r_forL ?_ | with_reducible refine r_forR1 ?_ | with_reducible refine r_sl ?_ | with_reducible refine r_part ?_ | with_reducible refine r_int ?_ | with_reducible refine r_nopart ?_
  | with_reducible refine r_din ?_ | with_reducible refine r_dnin ?_ | with_reducible refine r_gsub ?_
  | ((with_reducible refine' r_fld1 ?k1 ?k2 ?k3 ?k4 ?_); (case k1 => walk_at "hp"); (case k2 => assumption); (case k3 => assumption); (case k4 => walk_at "lk"))
  | ((with_reducible refine' r_aug1 ?k1 ?k2 ?k3 ?k4 ?_); (case k1 => walk_at "hp"); (case k2 => assumption); (case k3 => assumption); (case k4 => walk_at "lk"))
  | with_reducible refine r_add ?_ | with_reducible refine r_sub ?_
  | ((with_reducible refine' r_meth1 ?k1 ?k2 ?_); (case k1 => walk_at "hp"); (case k2 => first | assumption | exact fz_no (by decide +kernel)))
  | ((with_reducible refine' r_ixT ?k1 ?k2 ?_); (case k1 => first | assumption | exact SqT.of (by walk_at "hp")); (case k2 => first | assumption | rfl)))
local macro_rules | `(tactic| walk_at "ss") => `(tactic| repeat walk_at "s")

/-! ## 7. What a kind of house must do, and what all houses do by it -/
def spTall (At : AtT) : Sp := fun vs H Q _ => ∃ p F st, vs = [.ref p] ∧ At H p F st ∧ Q (.int (st.length : Int)) H
def spAtDepth (At : AtT) : Sp := fun vs H Q _ => ∃ (p : Addr) (F : Addr → Prop) (st : List Wo) (k : Nat) (x : Wo), vs = [.ref p, .int (k : Int)] ∧ At H p F st ∧ st[k]? = some x ∧ ∀ v, WV H v x → Q v H
def spWhole (At : AtT) : Sp := fun vs H Q _ => ∃ p F st, vs = [.ref p] ∧ At H p F st ∧ st.length ≤ 100000 ∧ ∀ H' l us, Sm H H' → H l = none → H' l = some (.lst us) → WL H' us st.reverse → Q (.ref l) H'
def spLayOn (At : AtT) : Sp := fun vs H Q _ => ∃ (p : Addr) (F : Addr → Prop) (st : List Wo) (t : Addr) (x : Wo), vs = [.ref p, .ref t] ∧ At H p F st ∧ H t = some (.tup [.str x.1, .int x.2]) ∧ Plain x ∧ st.length < 100000 ∧ ∀ H' F', Mv F H F' H' → At H' p F' (x :: st) → Q .non H'
def spLiftOff (At : AtT) : Sp := fun vs H Q _ => ∃ (p : Addr) (F : Addr → Prop) (x : Wo) (st : List Wo), vs = [.ref p] ∧ At H p F (x :: st) ∧ (x :: st).length ≤ 100000 ∧ ∀ v H' F', Mv F H F' H' → At H' p F' st → WV H' v x → Q v H'
structure Low (P : Program) (w : World) (K : PySem.W.Frag) (mg : Str → Option Value) (base : Heap) (k : Nat) (C : Addr) (At : AtT) : Prop where
  com : ∀ {H p F st}, At H p F st → Com H C p
  liv : ∀ {H p F st}, At H p F st → ∀ b, F b → H b ≠ none
  stay : ∀ {H H' p F st}, At H p F st → (∀ b o, F b → H b = some o → H' b = some o) → (∀ b xs, H b = some (.tup xs) → H' b = some (.tup xs)) → At H' p F st
  pl : ∀ {H p F st}, At H p F st → ∀ x ∈ st, Plain x
  tall : Met P w K mg base k C "tall" (spTall At) []
  at_depth : Met P w K mg base k C "at_depth" (spAtDepth At) []
  whole : Met P w K mg base k C "whole" (spWhole At) []
  lay_on : Met P w K mg base k C "lay_on" (spLayOn At) []
  lift_off : Met P w K mg base k C "lift_off" (spLiftOff At) []
section
variable {P : Program} {w : World} {K : PySem.W.Frag} {mg : Str → Option Value} {base : Heap} {k : Nat} {C : Addr} {At : AtT}
theorem Low.sm (L : Low P w K mg base k C At) {H H' : Hp} {p : Addr} {F : Addr → Prop} {st : List Wo} (h : At H p F st) (s : Sm H H') : At H' p F st := L.stay h (fun b o _ e => s b o e) fun b xs e => s b _ e
theorem Low.out_ (L : Low P w K mg base k C At) {H : Hp} {p l : Addr} {F : Addr → Prop} {st : List Wo} (h : At H p F st) (hl : H l = none) : ¬ F l := fun f => L.liv h l f hl
theorem Low.ex_ (L : Low P w K mg base k C At) {H : Hp} {p l : Addr} {F : Addr → Prop} {st : List Wo} {us : List V} {o : HO} (h : At H p F st) (nF : ¬ F l) (hl : H l = some (.lst us)) : At (upd H l o) p F st :=
  L.stay h (fun b u fb e => by rw [upd_ne (fun z : b = l => nF (by rw [← z]; exact fb))]; exact e) (tup_l hl)
end
def spLetBy (C : Addr) : Sp := fun vs H Q _ => ∃ (p t : Addr) (x : Wo), vs = [.ref p, .ref t] ∧ Com H C p ∧ H t = some (.tup [.str x.1, .int x.2]) ∧ Plain x ∧ Q .non H
def spLetPlace (At : AtT) : Sp := fun vs H Q _ => ∃ (p : Addr) (F : Addr → Prop) (st : List Wo) (k : Nat), vs = [.ref p, .int (k : Int)] ∧ At H p F st ∧ k < st.length ∧ Q .non H
def spOut (At : AtT) : Sp := fun vs H Q _ => ∃ (p : Addr) (F : Addr → Prop) (st : List Wo) (k : Nat) (x : Wo), vs = [.ref p, .int (k : Int)] ∧ At H p F st ∧ st[k]? = some x ∧ st.length ≤ 100000 ∧ ∀ v H' F', Mv F H F' H' → At H' p F' (st.eraseIdx k) → WV H' v x → Q v H'
def spLift (At : AtT) : Sp := fun vs H Q _ => ∃ (p : Addr) (F : Addr → Prop) (st : List Wo) (k : Nat) (x : Wo), vs = [.ref p, .int (k : Int)] ∧ At H p F st ∧ st[k]? = some x ∧ st.length ≤ 100000 ∧ ∀ H' F', Mv F H F' H' → At H' p F' (x :: st.eraseIdx k) → Q .non H'
section
variable {P : Program} {w : World} {K : PySem.W.Frag} {mg : Str → Option Value} {base : Heap} {C : Addr} {At : AtT}
theorem met_let_by (T : Txt K w mg) (hc : HCls K C) : Met P w K mg base 3 C "let_by" (spLetBy C) [] := by
  obtain ⟨f, fd, hm, F⟩ := hc.let_by
  have c_is_worth : Cal P w K mg base 2 "is_worth" spIsWorth [] := cal_is_worth T
  have c_is_thing : Cal P w K mg base 1 "is_thing" spIsThing [] := cal_is_thing T
  refine ⟨_, fd, P_Copies_let_by, [], hc.cl, hm, ?_, F.bindsN (fun _ _ _ _ _ _ us hl => match us, hl with | [_, _], _ => rfl), .nil⟩
  refine fd_ok F sc_Copies_let_by (fun vs H Q E h => ?_) (fun cdv A outer s H vs Q E hr h => ?_)
  · obtain ⟨p, t, x, rfl, _⟩ := h; rfl
  · obtain ⟨p, t, x, rfl, hp, ht, hx, q⟩ := h
    have hu := hu_of hr
    refine ⟨_, (pss_cons (ps_if (pt_not (pt_val (pe_c c_is_worth hr (by decide) rfl (pa_cons (pv 1) pa_nil)))) (pss_one ps_never) pss_nil)
      (pss_one (ps_if (PW.pt (pw_and (pt_val (pe_c c_is_thing hr (by decide) rfl (pa_cons (pv 1) pa_nil))) (pw_and1 (pt_cmp (pc_dnotin hu (pv 1) (pe_fld (pv 0) rfl)))))) (pss_one ps_never) pss_nil))), ?_⟩
    walk_at "ss"
    refine ⟨t, x, rfl, ht, hx, ?_⟩
    walk_at "ss"
    refine ite_f rfl ?_
    walk_at "ss"
    refine ⟨t, x, rfl, ht, hx, ?_⟩
    walk_at "ss"
    refine ite_f rfl ?_
    exact iteF q
theorem met_let_place (hc : HCls K C) (L : Low P w K mg base 6 C At) : Met P w K mg base 7 C "let_place" (spLetPlace At) [] := by
  obtain ⟨f, fd, hm, F⟩ := hc.let_place
  have m_tall := L.tall
  refine ⟨_, fd, P_Copies_let_place, [], hc.cl, hm, ?_, F.bindsN (fun _ _ _ _ _ _ us hl => match us, hl with | [_, _], _ => rfl), .nil⟩
  refine fd_ok F sc_Copies_let_place (fun vs H Q E h => ?_) (fun cdv A outer s H vs Q E hr h => ?_)
  · obtain ⟨p, F, st, k, rfl, _⟩ := h; rfl
  · obtain ⟨p, F, st, k, rfl, ha, hk, q⟩ := h
    obtain ⟨dx, fs, dh, dw, hp, nm, _⟩ := L.com ha
    have nt := nm "tall" (by decide +kernel)
    refine ⟨_, (pss_one (ps_if (PW.pt (pw_or (pt_cmpR op_lt (pv 1) pe_int (nomark _)) (pw_or1 (pt_cmpR op_ge (pv 1) (pe_mt0 m_tall hr (by decide) (pv 0)) (nomark _))))) (pss_one ps_never) pss_nil)), ?_⟩
    walk_at "ss"
    refine ite_f (decide_eq_false (by omega)) ?_
    walk_at "ss"
    refine ⟨p, F, st, rfl, ha, ?_⟩
    walk_at "ss"
    exact ite_f (decide_eq_false (by omega)) q
theorem met_out (T : Txt K w mg) (hc : HCls K C) (L : Low P w K mg base 6 C At) : Met P w K mg base 7 C "out" (spOut At) [] := by
  obtain ⟨f, fd, hm, F⟩ := hc.out
  have m_lift_off := L.lift_off
  have m_lay_on := L.lay_on
  refine ⟨_, fd, P_Copies_out, [], hc.cl, hm, ?_, F.bindsN (fun _ _ _ _ _ _ us hl => match us, hl with | [_, _], _ => rfl), .nil⟩
  refine fd_ok F sc_Copies_out (fun vs H Q E h => ?_) (fun cdv A outer s H vs Q E hr h => ?_)
  · obtain ⟨p, F, st, k, x, rfl, _⟩ := h; rfl
  · obtain ⟨p, F, st, k, x, rfl, ha, hk, hl, q⟩ := h
    have hkl : k < st.length := (List.getElem?_eq_some_iff.mp hk).1
    refine ⟨_, (pss_cons (ps_set (i := 2) sc_Copies_out.nd rfl (Or.inl rfl) (pe_lst pa_nil))
      (pss_cons (ps_for PassesOwn.never rfl (pi_range1 (by rfl) T.b_range (pa_cons (pv 1) pa_nil)) (pg_name (i := 3) sc_Copies_out.nd rfl (Or.inl rfl)) (pss_one (ps_expr (pe_bm PySem.F.plainAttrs_list PySem.F.slot_list_append PySem.F.type_list_append mt_append (pv 2) (pa_cons (pe_mt0 m_lift_off hr (by decide) (pv 0)) pa_nil)))))
      (pss_cons (ps_set (i := 4) sc_Copies_out.nd rfl (Or.inl rfl) (pe_mt0 m_lift_off hr (by decide) (pv 0)))
      (pss_cons (ps_for PassesOwn.never rfl (pi_reversed (by rfl) T.b_reversed (pa_cons (pv 2) pa_nil)) (pg_name (i := 5) sc_Copies_out.nd rfl (Or.inl rfl)) (pss_one (ps_expr (pe_mt m_lay_on hr (by decide) (pv 0) (pa_cons (pv 5) pa_nil)))))
      (pss_one (ps_ret (pv 4))))))), ?_⟩
    walk_at "ss"
    refine ⟨Nat.zero_le _, fun l nl => ?_⟩
    walk_at "ss"
    refine ⟨(k : Int), rfl, by omega, by omega, ?_⟩
    have nFl : ¬ F l := L.out_ ha nl
    refine for_range (lo := 0) (n := ((k : Int)).toNat) (fun i σ H1 => ∃ F1 us j, σ = [some (V.ref p), some (V.int k), some (V.ref l), j, none, none] ∧ Mv F H F1 H1 ∧ At H1 p F1 (st.drop i) ∧ H1 l = some (.lst us) ∧ WL H1 us (st.take i) ∧ ¬ F1 l)
      ⟨F, [], none, rfl, ((Sm.refl H).new nl).mv F, L.sm ha ((Sm.refl H).new nl), upd_same, .nil, nFl⟩ ?_ ?_
    · rintro i σ H1 hi ⟨F1, us, j, rfl, mv, ha1, hl1, wl, nF1⟩
      have hi' : i < st.length := by omega
      obtain ⟨dx, fs, dh, dw, hp, nm, _⟩ := L.com ha1
      have nt := nm "lift_off" (by decide +kernel)
      walk_at "ss"
      refine ⟨tyL hl1, ?_⟩
      walk_at "ss"
      refine ⟨p, F1, st[i], st.drop (i + 1), rfl, by rw [List.drop_eq_getElem_cons hi'] at ha1; exact ha1, by rw [← List.drop_eq_getElem_cons hi', List.length_drop]; omega, fun v H2 F2 mv2 ha2 wv => ?_⟩
      walk_at "ss"
      have hl2 := mv2.frm _ _ hl1 nF1
      have nF2 := mv2.nF hl1 nF1
      have wl2 := wl.keep mv2.tup
      refine r_append hl2 (small5 (by rw [wl2.length, List.length_take]; omega)) ?_
      have tp2 := tup_l (o := HO.lst (us ++ [v])) hl2
      refine ⟨F2, us ++ [v], _, rfl, (mv.trans mv2).own nl, L.ex_ ha2 nF2 hl2, upd_same, ?_, nF2⟩
      rw [List.take_succ_eq_append_getElem hi']
      exact (wl2.keep tp2).append (.one (wv.keep tp2))
    · rintro σ H1 ⟨F1, us, j, rfl, mv, ha1, hl1, wl, nF1⟩
      have e0 : (k : Int).toNat = k := by omega
      rw [e0] at ha1 wl
      obtain ⟨dx, fs, dh, dw, hp, nm, _⟩ := L.com ha1
      have nt := nm "lift_off" (by decide +kernel)
      obtain ⟨_, ex⟩ := List.getElem?_eq_some_iff.mp hk
      walk_at "ss"
      refine ⟨p, F1, x, st.drop (k + 1), rfl, by rw [List.drop_eq_getElem_cons hkl, ex] at ha1; exact ha1, by rw [List.length_cons, List.length_drop]; omega, fun v H2 F2 mv2 ha2 wv => ?_⟩
      walk_at "ss"
      have hl2 := mv2.frm _ _ hl1 nF1
      have nF2 := mv2.nF hl1 nF1
      have wl2 := wl.keep mv2.tup
      have mv02 := mv.trans mv2
      refine ⟨l, us, rfl, SqL.of hl2, RT.for_Itv (K := K) (a := l) (xs := us) (fun i σ H3 => ∃ F3 j' o', σ = [some (V.ref p), some (V.int k), some (V.ref l), j', some v, o'] ∧ Mv F H F3 H3 ∧ At H3 p F3 ((st.take k).drop (k - i) ++ st.drop (k + 1)) ∧ H3 l = some (.lst us) ∧ WL H3 us (st.take k) ∧ ¬ F3 l ∧ WV H3 v x)
        ⟨F2, _, _, rfl, mv02, by rw [Nat.sub_zero, List.drop_eq_nil_of_le (by rw [List.length_take]; omega)]; exact ha2, hl2, wl2, nF2, wv⟩ (fun i σ H3 ⟨_, _, _, _, _, _, z, _⟩ => SqL.of z) ?_ ?_⟩
      · rintro i y σ H3 hi hy ⟨F3, j', o', rfl, mv3, ha3, hl3, wl3, nF3, wv3⟩
        have elen : us.length = k := by rw [wl3.length, List.length_take]; omega
        rw [elen] at hi hy
        obtain ⟨dx, fs, dh, dw, hp, nm, _⟩ := L.com ha3
        have nt := nm "lay_on" (by decide +kernel)
        obtain ⟨z, hz, ⟨t, rfl, ht⟩⟩ := wl3.get' hy
        walk_at "ss"
        have hpl : Plain z := L.pl ha z (List.mem_of_mem_take (List.mem_of_getElem? hz))
        refine ⟨p, F3, _, t, z, rfl, ha3, ht, hpl, by rw [List.length_append, List.length_drop, List.length_drop, List.length_take]; omega, fun H4 F4 mv4 ha4 => ?_⟩
        refine ⟨F4, _, _, rfl, mv3.trans mv4, ?_, mv4.frm _ _ hl3 nF3, wl3.keep mv4.tup, mv4.nF hl3 nF3, wv3.keep mv4.tup⟩
        have e1 : (st.take k).drop (k - (i + 1)) = z :: (st.take k).drop (k - i) := by
          have h1 : k - (i + 1) < (st.take k).length := by rw [List.length_take]; omega
          rw [List.drop_eq_getElem_cons h1]
          have h2 : k - (i + 1) + 1 = k - i := by omega
          rw [h2]
          have h3 : k - 1 - i = k - (i + 1) := by omega
          rw [h3] at hz
          rw [(List.getElem?_eq_some_iff.mp hz).2]
        rw [e1]
        exact ha4
      · rintro σ H3 ⟨F3, j', o', rfl, mv3, ha3, hl3, wl3, nF3, wv3⟩
        have elen : us.length = k := by rw [wl3.length, List.length_take]; omega
        rw [elen, Nat.sub_self, List.drop_zero] at ha3
        walk_at "ss"
        refine q v H3 F3 mv3 ?_ wv3
        rw [List.eraseIdx_eq_take_drop_succ]
        exact ha3
end
end MG

namespace MG
open PySem PySem.Spec PyProof.Rows L2
local macro_rules | `(tactic| walk_at "ne") => `(tactic| first | assumption | exact Ne.symm (by assumption) | exact ne_of_none (by assumption) (by assumption) | exact (ne_of_none (by assumption) (by assumption)).symm)
local macro_rules | `(tactic| walk_at "hp") => `(tactic| first | assumption | exact upd_same | (refine (upd_ne ?k1).trans ?k2; (case k1 => walk_at "ne"); (case k2 => walk_at "hp")))
local macro_rules | `(tactic| walk_at "lk") => `(tactic| first | assumption | with_reducible exact FE_under | with_reducible exact FE_worths | with_reducible exact FE_holders | with_reducible exact FC_running | with_reducible exact FC_wholes | with_reducible exact FC_places | with_reducible exact FC_in_box | with_reducible exact FC_on_peg | with_reducible exact FC_holding | with_reducible exact FC_waiting | with_reducible exact FP_running | with_reducible exact FP_wholes | with_reducible exact FP_places | with_reducible exact FP_in_box | with_reducible exact FP_on_peg | with_reducible exact FP_holding | with_reducible exact FP_waiting | with_reducible exact FP_most | with_reducible exact FP_count_made | with_reducible exact FP_count_handed | with_reducible exact FP_count_moved | with_reducible exact FP_high | with_reducible exact FP_highs | with_reducible exact FP_tops | with_reducible exact FP_above)
/-- one step of a reading that needs nothing but what is written -/
local macro_rules | `(tactic| walk_at "s") => `(tactic| first
  | with_reducible refine r_seq ?_ | with_reducible refine r_next ?_ | with_reducible refine r_set ?_ | with_reducible refine r_asg ?_ | with_reducible refine r_drop ?_ | with_reducible refine r_ret ?_ | with_reducible refine r_retN ?_ | with_reducible refine r_ifs ?_
  | ((with_reducible refine' r_var ?k1 ?_); (case k1 => exact rfl))
  | with_reducible refine r_c ?_ | with_reducible refine r_op ?_ | with_reducible refine r_un ?_ | with_reducible refine r_fld ?_ | with_reducible refine r_sfld ?_ | with_reducible refine r_saug ?_
  | with_reducible refine r_call ?_ | with_reducible refine r_make ?_ | with_reducible refine r_meth ?_ | with_reducible refine r_nil ?_ | with_reducible refine r_cons ?_ | with_reducible refine r_tup ?_ | with_reducible refine r_lst ?_ | with_reducible refine r_cb ?_ | with_reducible refine r_bm ?_ | with_reducible refine r_bm0 ?_
  | with_reducible refine r_tb ?_ | with_reducible refine r_test ?_ | with_reducible refine r_bl ?_ | with_reducible refine r_not ?_ | with_reducible refine r_and ?_ | with_reducible refine r_or ?_ | with_reducible refine r_andV ?_ | with_reducible refine r_orV ?_ | with_reducible refine r_notV ?_
  | with_reducible refine r_I0 ?_ | with_reducible refine r_eqI ?_ | with_reducible refine r_neI ?_ | with_reducible refine r_eqS ?_ | with_reducible refine r_neS ?_ | with_reducible refine r_eqB ?_ | with_reducible refine r_neB ?_
  | with_reducible refine r_gname ?_ | with_reducible refine r_forRev ?_ | with_reducible refine r_forL ?_ | with_reducible refine r_forR1 ?_ | with_reducible refine r_sl ?_ | with_reducible refine r_part ?_ | with_reducible refine r_int ?_ | with_reducible refine r_nopart ?_
  | with_reducible refine r_din ?_ | with_reducible refine r_dnin ?_ | with_reducible refine r_gsub ?_
  | ((with_reducible refine' r_fld1 ?k1 ?k2 ?k3 ?k4 ?_); (case k1 => walk_at "hp"); (case k2 => assumption); (case k3 => assumption); (case k4 => walk_at "lk"))
  | ((with_reducible refine' r_aug1 ?k1 ?k2 ?k3 ?k4 ?_); (case k1 => walk_at "hp"); (case k2 => assumption); (case k3 => assumption); (case k4 => walk_at "lk"))
  | with_reducible refine r_add ?_ | with_reducible refine r_sub ?_
  | ((with_reducible refine' r_meth1 ?k1 ?k2 ?_); (case k1 => walk_at "hp"); (case k2 => first | assumption | exact fz_no (by decide +kernel)))
  | ((with_reducible refine' r_ixT ?k1 ?k2 ?_); (case k1 => first | assumption | exact SqT.of (by walk_at "hp")); (case k2 => first | assumption | rfl)))
local macro_rules | `(tactic| walk_at "ss") => `(tactic| repeat walk_at "s")

section
variable {P : Program} {w : World} {K : PySem.W.Frag} {mg : Str → Option Value} {base : Heap} {C : Addr} {At : AtT}
theorem met_put (T : Txt K w mg) (hc : HCls K C) (L : Low P w K mg base 6 C At) : Met P w K mg base 7 C "put" (spLayOn At) [] := by
  obtain ⟨f, fd, hm, F⟩ := hc.put
  have m_let_by : Met P w K mg base 3 C "let_by" (spLetBy C) [] := met_let_by T hc
  have m_lay_on := L.lay_on
  refine ⟨_, fd, P_Copies_put, [], hc.cl, hm, ?_, F.bindsN (fun _ _ _ _ _ _ us hl => match us, hl with | [_, _], _ => rfl), .nil⟩
  refine fd_ok F sc_Copies_put (fun vs H Q E h => ?_) (fun cdv A outer s H vs Q E hr h => ?_)
  · obtain ⟨p, F, st, t, x, rfl, _⟩ := h; rfl
  · obtain ⟨p, F, st, t, x, rfl, ha, ht, hx, hl, q⟩ := h
    obtain ⟨dx, fs, dh, dw, hp, nm, _⟩ := L.com ha
    have n1 := nm "let_by" (by decide +kernel)
    have n2 := nm "lay_on" (by decide +kernel)
    refine ⟨_, (pss_cons (ps_expr (pe_mt m_let_by hr (by decide) (pv 0) (pa_cons (pv 1) pa_nil)))
      (pss_one (ps_expr (pe_mt m_lay_on hr (by decide) (pv 0) (pa_cons (pv 1) pa_nil))))), ?_⟩
    walk_at "ss"
    refine ⟨p, t, x, rfl, L.com ha, ht, hx, ?_⟩
    walk_at "ss"
    exact ⟨p, F, st, t, x, rfl, ha, ht, hx, hl, q⟩
theorem ok_take (T : Txt K w mg) (hc : HCls K C) (L : Low P w K mg base 6 C At) {f : Addr} {fd : FuncData} (F : FunD K "take" "Copies.take" (defArgs s_Copies_take) (defBody s_Copies_take) (defScope s_Copies_take) [V.int 0] [] f fd) : FnOk P w K mg base CX0 8 f fd P_Copies_take (spOut At) := by
  have m_let_place : Met P w K mg base 7 C "let_place" (spLetPlace At) [] := met_let_place hc L
  have m_out : Met P w K mg base 7 C "out" (spOut At) [] := met_out T hc L
  have m_settle : Met P w K mg base 1 C "settle" (spSettle C) [] := met_settle T hc
  refine fd_ok F sc_Copies_take (fun vs H Q E h => ?_) (fun cdv A outer s H vs Q E hr h => ?_)
  · obtain ⟨p, F, st, k, x, rfl, _⟩ := h; rfl
  · obtain ⟨p, F, st, k, x, rfl, ha, hk, hl, q⟩ := h
    have hkl : k < st.length := (List.getElem?_eq_some_iff.mp hk).1
    obtain ⟨dx, fs, dh, dw, hp, nm, _⟩ := L.com ha
    have n1 := nm "let_place" (by decide +kernel)
    have n2 := nm "out" (by decide +kernel)
    refine ⟨_, (pss_cons (ps_expr (pe_mt m_let_place hr (by decide) (pv 0) (pa_cons (pv 1) pa_nil)))
      (pss_cons (ps_set (i := 2) sc_Copies_take.nd rfl (Or.inl rfl) (pe_mt m_out hr (by decide) (pv 0) (pa_cons (pv 1) pa_nil)))
      (pss_cons (ps_expr (pe_mt0 m_settle hr (by decide) (pv 0)))
      (pss_one (ps_ret (pv 2)))))), ?_⟩
    walk_at "ss"
    refine ⟨p, F, st, k, rfl, ha, hkl, ?_⟩
    walk_at "ss"
    refine ⟨p, F, st, k, x, rfl, ha, hk, hl, fun v H' F' mv ha' wv => ?_⟩
    obtain ⟨dx', fs', dh', dw', hp', nm', _⟩ := L.com ha'
    have n3 := nm' "settle" (by decide +kernel)
    walk_at "ss"
    refine ⟨p, rfl, L.com ha', fun H2 sm => ?_⟩
    walk_at "ss"
    exact q v H2 F' (mv.trans (sm.mv F')) (L.sm ha' sm) (wv.keep fun b xs e => sm b _ e)
theorem met_take (T : Txt K w mg) (hc : HCls K C) (L : Low P w K mg base 6 C At) : Met P w K mg base 8 C "take" (spOut At) [] := by
  obtain ⟨f, fd, hm, F⟩ := hc.take
  obtain ⟨ds, hv, hb⟩ := F.binds1 (ps := P_Copies_take) 2 1 (fun z => nomatch z) rfl (fun _ _ _ _ _ _ _ us its hl hi => match us, its, hl, hi with | [_, _], [_], _, _ => ⟨_, rfl, rfl⟩)
  exact ⟨_, fd, P_Copies_take, ds, hc.cl, hm, ok_take T hc L F, hb, hv⟩
theorem met_take0 (T : Txt K w mg) (hc : HCls K C) (L : Low P w K mg base 6 C At) : Met P w K mg base 8 C "take" (spOut At) [V.int 0] := by
  obtain ⟨f, fd, hm, F⟩ := hc.take
  obtain ⟨ds, hv, hb⟩ := F.binds1 (ps := P_Copies_take) 1 0 (fun z => nomatch z) rfl (fun _ _ _ _ _ _ _ us its hl hi => match us, its, hl, hi with | [_], [_], _, _ => ⟨_, rfl, rfl⟩)
  exact ⟨_, fd, P_Copies_take, ds, hc.cl, hm, ok_take T hc L F, hb, hv⟩
theorem met_lift (T : Txt K w mg) (hc : HCls K C) (L : Low P w K mg base 6 C At) : Met P w K mg base 8 C "lift" (spLift At) [] := by
  obtain ⟨f, fd, hm, F⟩ := hc.lift
  have m_let_place : Met P w K mg base 7 C "let_place" (spLetPlace At) [] := met_let_place hc L
  have m_out : Met P w K mg base 7 C "out" (spOut At) [] := met_out T hc L
  have m_settle : Met P w K mg base 1 C "settle" (spSettle C) [] := met_settle T hc
  have m_lay_on := L.lay_on
  refine ⟨_, fd, P_Copies_lift, [], hc.cl, hm, ?_, F.bindsN (fun _ _ _ _ _ _ us hl => match us, hl with | [_, _], _ => rfl), .nil⟩
  refine fd_ok F sc_Copies_lift (fun vs H Q E h => ?_) (fun cdv A outer s H vs Q E hr h => ?_)
  · obtain ⟨p, F, st, k, x, rfl, _⟩ := h; rfl
  · obtain ⟨p, F, st, k, x, rfl, ha, hk, hl, q⟩ := h
    have hkl : k < st.length := (List.getElem?_eq_some_iff.mp hk).1
    obtain ⟨dx, fs, dh, dw, hp, nm, _⟩ := L.com ha
    have n1 := nm "let_place" (by decide +kernel)
    have n2 := nm "out" (by decide +kernel)
    have n3 := nm "lay_on" (by decide +kernel)
    refine ⟨_, (pss_cons (ps_expr (pe_mt m_let_place hr (by decide) (pv 0) (pa_cons (pv 1) pa_nil)))
      (pss_cons (ps_expr (pe_mt m_lay_on hr (by decide) (pv 0) (pa_cons (pe_mt m_out hr (by decide) (pv 0) (pa_cons (pv 1) pa_nil)) pa_nil)))
      (pss_one (ps_expr (pe_mt0 m_settle hr (by decide) (pv 0)))))), ?_⟩
    walk_at "ss"
    refine ⟨p, F, st, k, rfl, ha, hkl, ?_⟩
    walk_at "ss"
    refine ⟨p, F, st, k, x, rfl, ha, hk, hl, fun v H' F' mv ha' ⟨t, ev, ht⟩ => ?_⟩
    subst ev
    walk_at "ss"
    refine ⟨p, F', _, t, x, rfl, ha', ht, L.pl ha x (List.mem_of_getElem? hk), by rw [List.length_eraseIdx_of_lt hkl]; omega, fun H2 F2 mv2 ha2 => ?_⟩
    obtain ⟨dx', fs', dh', dw', hp', nm', _⟩ := L.com ha2
    have n4 := nm' "settle" (by decide +kernel)
    walk_at "ss"
    refine ⟨p, rfl, L.com ha2, fun H3 sm => ?_⟩
    walk_at "ss"
    exact q H3 F2 ((mv.trans mv2).trans (sm.mv F2)) (L.sm ha2 sm)
theorem ok_look (T : Txt K w mg) (hc : HCls K C) (L : Low P w K mg base 6 C At) {f : Addr} {fd : FuncData} (F : FunD K "look" "Copies.look" (defArgs s_Copies_look) (defBody s_Copies_look) (defScope s_Copies_look) [V.int 0] [] f fd) : FnOk P w K mg base CX0 8 f fd P_Copies_look (spAtDepth At) := by
  have m_let_place : Met P w K mg base 7 C "let_place" (spLetPlace At) [] := met_let_place hc L
  have m_at_depth := L.at_depth
  refine fd_ok F sc_Copies_look (fun vs H Q E h => ?_) (fun cdv A outer s H vs Q E hr h => ?_)
  · obtain ⟨p, F, st, k, x, rfl, _⟩ := h; rfl
  · obtain ⟨p, F, st, k, x, rfl, ha, hk, q⟩ := h
    have hkl : k < st.length := (List.getElem?_eq_some_iff.mp hk).1
    obtain ⟨dx, fs, dh, dw, hp, nm, _⟩ := L.com ha
    have n1 := nm "let_place" (by decide +kernel)
    have n2 := nm "at_depth" (by decide +kernel)
    refine ⟨_, (pss_cons (ps_expr (pe_mt m_let_place hr (by decide) (pv 0) (pa_cons (pv 1) pa_nil)))
      (pss_one (ps_ret (pe_mt m_at_depth hr (by decide) (pv 0) (pa_cons (pv 1) pa_nil))))), ?_⟩
    walk_at "ss"
    refine ⟨p, F, st, k, rfl, ha, hkl, ?_⟩
    walk_at "ss"
    exact ⟨p, F, st, k, x, rfl, ha, hk, q⟩
theorem met_look (T : Txt K w mg) (hc : HCls K C) (L : Low P w K mg base 6 C At) : Met P w K mg base 8 C "look" (spAtDepth At) [] := by
  obtain ⟨f, fd, hm, F⟩ := hc.look
  obtain ⟨ds, hv, hb⟩ := F.binds1 (ps := P_Copies_look) 2 1 (fun z => nomatch z) rfl (fun _ _ _ _ _ _ _ us its hl hi => match us, its, hl, hi with | [_, _], [_], _, _ => ⟨_, rfl, rfl⟩)
  exact ⟨_, fd, P_Copies_look, ds, hc.cl, hm, ok_look T hc L F, hb, hv⟩
theorem met_height (hc : HCls K C) (L : Low P w K mg base 6 C At) : Met P w K mg base 7 C "height" (spTall At) [] := by
  obtain ⟨f, fd, hm, F⟩ := hc.height
  have m_tall := L.tall
  refine ⟨_, fd, P_Copies_height, [], hc.cl, hm, ?_, F.bindsN (fun _ _ _ _ _ _ us hl => match us, hl with | [_], _ => rfl), .nil⟩
  refine fd_ok F sc_Copies_height (fun vs H Q E h => ?_) (fun cdv A outer s H vs Q E hr h => ?_)
  · obtain ⟨p, F, st, rfl, _⟩ := h; rfl
  · obtain ⟨p, F, st, rfl, ha, q⟩ := h
    obtain ⟨dx, fs, dh, dw, hp, nm, _⟩ := L.com ha
    have n1 := nm "tall" (by decide +kernel)
    refine ⟨_, (pss_one (ps_ret (pe_mt0 m_tall hr (by decide) (pv 0)))), ?_⟩
    walk_at "ss"
    exact ⟨p, F, st, rfl, ha, q⟩
theorem met_pile (hc : HCls K C) (L : Low P w K mg base 6 C At) : Met P w K mg base 7 C "pile" (spWhole At) [] := by
  obtain ⟨f, fd, hm, F⟩ := hc.pile
  have m_whole := L.whole
  refine ⟨_, fd, P_Copies_pile, [], hc.cl, hm, ?_, F.bindsN (fun _ _ _ _ _ _ us hl => match us, hl with | [_], _ => rfl), .nil⟩
  refine fd_ok F sc_Copies_pile (fun vs H Q E h => ?_) (fun cdv A outer s H vs Q E hr h => ?_)
  · obtain ⟨p, F, st, rfl, _⟩ := h; rfl
  · obtain ⟨p, F, st, rfl, ha, hl, q⟩ := h
    obtain ⟨dx, fs, dh, dw, hp, nm, _⟩ := L.com ha
    have n1 := nm "whole" (by decide +kernel)
    refine ⟨_, (pss_one (ps_ret (pe_mt0 m_whole hr (by decide) (pv 0)))), ?_⟩
    walk_at "ss"
    exact ⟨p, F, st, rfl, ha, hl, q⟩
end
/-- what a machine asks of a house -/
structure House (P : Program) (w : World) (K : PySem.W.Frag) (mg : Str → Option Value) (base : Heap) (C : Addr) (At : AtT) : Prop where
  com : ∀ {H p F st}, At H p F st → Com H C p
  liv : ∀ {H p F st}, At H p F st → ∀ b, F b → H b ≠ none
  stay : ∀ {H H' p F st}, At H p F st → (∀ b o, F b → H b = some o → H' b = some o) → (∀ b xs, H b = some (.tup xs) → H' b = some (.tup xs)) → At H' p F st
  pl : ∀ {H p F st}, At H p F st → ∀ x ∈ st, Plain x
  put : Met P w K mg base 8 C "put" (spLayOn At) []
  take : Met P w K mg base 8 C "take" (spOut At) []
  take0 : Met P w K mg base 8 C "take" (spOut At) [V.int 0]
  lift : Met P w K mg base 8 C "lift" (spLift At) []
  look : Met P w K mg base 8 C "look" (spAtDepth At) []
  height : Met P w K mg base 8 C "height" (spTall At) []
  pile : Met P w K mg base 8 C "pile" (spWhole At) []
section
variable {P : Program} {w : World} {K : PySem.W.Frag} {mg : Str → Option Value} {base : Heap} {C : Addr} {At : AtT}
theorem house_of (T : Txt K w mg) (hc : HCls K C) (L : Low P w K mg base 6 C At) : House P w K mg base C At :=
  ⟨L.com, L.liv, L.stay, L.pl, (met_put T hc L).mono (by decide), met_take T hc L, met_take0 T hc L, met_lift T hc L, met_look T hc L, (met_height hc L).mono (by decide), (met_pile hc L).mono (by decide)⟩
theorem House.sm (L : House P w K mg base C At) {H H' : Hp} {p : Addr} {F : Addr → Prop} {st : List Wo} (h : At H p F st) (s : Sm H H') : At H' p F st := L.stay h (fun b o _ e => s b o e) fun b xs e => s b _ e
theorem House.out_ (L : House P w K mg base C At) {H : Hp} {p l : Addr} {F : Addr → Prop} {st : List Wo} (h : At H p F st) (hl : H l = none) : ¬ F l := fun f => L.liv h l f hl
theorem House.ex_ (L : House P w K mg base C At) {H : Hp} {p l : Addr} {F : Addr → Prop} {st : List Wo} {us : List V} {o : HO} (h : At H p F st) (nF : ¬ F l) (hl : H l = some (.lst us)) : At (upd H l o) p F st :=
  L.stay h (fun b u fb e => by rw [upd_ne (fun z : b = l => nF (by rw [← z]; exact fb))]; exact e) (tup_l hl)
end
end MG

namespace MG
open PySem PySem.Spec PyProof.Rows L2
local macro_rules | `(tactic| walk_at "ne") => `(tactic| first | assumption | exact Ne.symm (by assumption) | exact ne_of_none (by assumption) (by assumption) | exact (ne_of_none (by assumption) (by assumption)).symm)
local macro_rules | `(tactic| walk_at "hp") => `(tactic| first | assumption | exact upd_same | (refine (upd_ne ?k1).trans ?k2; (case k1 => walk_at "ne"); (case k2 => walk_at "hp")))
local macro_rules | `(tactic| walk_at "lk") => `(tactic| first | assumption | with_reducible exact FE_under | with_reducible exact FE_worths | with_reducible exact FE_holders | with_reducible exact FC_running | with_reducible exact FC_wholes | with_reducible exact FC_places | with_reducible exact FC_in_box | with_reducible exact FC_on_peg | with_reducible exact FC_holding | with_reducible exact FC_waiting | with_reducible exact FP_running | with_reducible exact FP_wholes | with_reducible exact FP_places | with_reducible exact FP_in_box | with_reducible exact FP_on_peg | with_reducible exact FP_holding | with_reducible exact FP_waiting | with_reducible exact FP_most | with_reducible exact FP_count_made | with_reducible exact FP_count_handed | with_reducible exact FP_count_moved | with_reducible exact FP_high | with_reducible exact FP_highs | with_reducible exact FP_tops | with_reducible exact FP_above)
/-- one step of a reading that needs nothing but what is written -/
local macro_rules | `(tactic| walk_at "s") => `(tactic| first
  | with_reducible refine r_seq ?_ | with_reducible refine r_next ?_ | with_reducible refine r_set ?_ | with_reducible refine r_asg ?_ | with_reducible refine r_drop ?_ | with_reducible refine r_ret ?_ | with_reducible refine r_retN ?_ | with_reducible refine r_ifs ?_
  | ((with_reducible refine' r_var ?k1 ?_); (case k1 => exact rfl))
  | with_reducible refine r_c ?_ | with_reducible refine r_op ?_ | with_reducible refine r_un ?_ | with_reducible refine r_fld ?_ | with_reducible refine r_sfld ?_ | with_reducible refine r_saug ?_
  | with_reducible refine r_call ?_ | with_reducible refine r_make ?_ | with_reducible refine r_meth ?_ | with_reducible refine r_nil ?_ | with_reducible refine r_cons ?_ | with_reducible refine r_tup ?_ | with_reducible refine r_lst ?_ | with_reducible refine r_cb ?_ | with_reducible refine r_bm ?_ | with_reducible refine r_bm0 ?_
  | with_reducible refine r_tb ?_ | with_reducible refine r_test ?_ | with_reducible refine r_bl ?_ | with_reducible refine r_not ?_ | with_reducible refine r_and ?_ | with_reducible refine r_or ?_ | with_reducible refine r_andV ?_ | with_reducible refine r_orV ?_ | with_reducible refine r_notV ?_
  | with_reducible refine r_I0 ?_ | with_reducible refine r_eqI ?_ | with_reducible refine r_neI ?_ | with_reducible refine r_eqS ?_ | with_reducible refine r_neS ?_ | with_reducible refine r_eqB ?_ | with_reducible refine r_neB ?_
  | with_reducible refine r_gname ?_ | with_reducible refine r_forRev ?_ | with_reducible refine r_forL ?_ | with_reducible refine r_forR1 ?_ | with_reducible refine r_sl ?_ | with_reducible refine r_part ?_ | with_reducible refine r_int ?_ | with_reducible refine r_nopart ?_
  | with_reducible refine r_din ?_ | with_reducible refine r_dnin ?_ | with_reducible refine r_gsub ?_
  | ((with_reducible refine' r_fld1 ?k1 ?k2 ?k3 ?k4 ?_); (case k1 => walk_at "hp"); (case k2 => assumption); (case k3 => assumption); (case k4 => walk_at "lk"))
  | ((with_reducible refine' r_aug1 ?k1 ?k2 ?k3 ?k4 ?_); (case k1 => walk_at "hp"); (case k2 => assumption); (case k3 => assumption); (case k4 => walk_at "lk"))
  | with_reducible refine r_add ?_ | with_reducible refine r_sub ?_
  | ((with_reducible refine' r_meth1 ?k1 ?k2 ?_); (case k1 => walk_at "hp"); (case k2 => first | assumption | exact fz_no (by decide +kernel)))
  | ((with_reducible refine' r_ixT ?k1 ?k2 ?_); (case k1 => first | assumption | exact SqT.of (by walk_at "hp")); (case k2 => first | assumption | rfl)))
local macro_rules | `(tactic| walk_at "ss") => `(tactic| repeat walk_at "s")

/-! ## 8. A house of whole copies -/
def CopAt (C : Addr) : AtT := fun H p F st => ∃ (dx r d1 d2 d3 d4 dh dw : Addr) (us : List V), H p = some (.ins C dx (FC.zip [.ref r, .ref d1, .ref d2, .ref d3, .ref d4, .ref dh, .ref dw])) ∧ H r = some (.lst us) ∧ WL H us st.reverse ∧ H dh = some (.dT []) ∧ H dw = some (.lst []) ∧ r ≠ dw ∧
  (F p ∧ F r ∧ F dh ∧ F dw) ∧ (∀ b, F b → H b ≠ none) ∧ ∀ x ∈ st, Plain x
theorem fc_no : ∀ m ∈ MN, m ∉ FC := by decide +kernel
theorem CopAt.com {C : Addr} {H : Hp} {p : Addr} {F : Addr → Prop} {st : List Wo} (h : CopAt C H p F st) : Com H C p := by
  obtain ⟨dx, r, d1, d2, d3, d4, dh, dw, us, hp, hr, hw, h1, h2, _⟩ := h
  exact ⟨dx, _, dh, dw, hp, fun m hm => fz_no (fc_no m hm), fz_get (i := 5) rfl (by decide +kernel) rfl, h1, fz_get (i := 6) rfl (by decide +kernel) rfl, h2⟩
theorem CopAt.stay {C : Addr} {H H' : Hp} {p : Addr} {F : Addr → Prop} {st : List Wo} (h : CopAt C H p F st) (k : ∀ b o, F b → H b = some o → H' b = some o) (t : ∀ b xs, H b = some (.tup xs) → H' b = some (.tup xs)) : CopAt C H' p F st := by
  obtain ⟨dx, r, d1, d2, d3, d4, dh, dw, us, hp, hr, hw, h1, h2, ne, ⟨f1, f2, f3, f4⟩, liv, pl⟩ := h
  refine ⟨dx, r, d1, d2, d3, d4, dh, dw, us, k _ _ f1 hp, k _ _ f2 hr, hw.keep t, k _ _ f3 h1, k _ _ f4 h2, ne, ⟨f1, f2, f3, f4⟩, fun b f => ?_, pl⟩
  cases e : H b with
  | none => exact absurd e (liv b f)
  | some o => rw [k b o f e]; exact fun z => nomatch z
structure HInit (K : PySem.W.Frag) (C : Addr) : Prop where
  cl : Cls K C
  n1 : NoAttr K C "running"
  n2 : NoAttr K C "wholes"
  n3 : NoAttr K C "places"
  n4 : NoAttr K C "in_box"
  n5 : NoAttr K C "on_peg"
  n6 : NoAttr K C "holding"
  n7 : NoAttr K C "waiting"
def spInitC (C : Addr) : Sp := fun vs H Q _ => ∃ p dx : Addr, vs = [.ref p] ∧ H p = some (.ins C dx []) ∧
  ∀ (H' : Hp) (r d1 d2 d3 d4 dh dw : Addr), H' p = some (.ins C dx (FC.zip [.ref r, .ref d1, .ref d2, .ref d3, .ref d4, .ref dh, .ref dw])) → H' r = some (.lst []) → H' dh = some (.dT []) → H' dw = some (.lst []) → r ≠ dw → (∀ b ∈ [r, d1, d2, d3, d4, dh, dw], H b = none) →
    (∀ b o, H b = some o → b ≠ p → H' b = some o) → Q .non H'
section
variable {P : Program} {w : World} {K : PySem.W.Frag} {mg : Str → Option Value} {base : Heap} {C : Addr}
theorem ok_initC (hc : HInit K C) {f : Addr} {fd : FuncData} (F : FunD K "__init__" "Copies.__init__" (defArgs s_Copies___init__) (defBody s_Copies___init__) (defScope s_Copies___init__) [] [] f fd) : FnOk P w K mg base CX0 1 f fd P_Copies___init__ (spInitC C) := by
  refine fd_ok F sc_Copies___init__ (fun vs H Q E h => ?_) (fun cdv A outer s H vs Q E hr h => ?_)
  · obtain ⟨p, dx, rfl, _⟩ := h; rfl
  · obtain ⟨p, dx, rfl, hp, q⟩ := h
    obtain ⟨cl, n1, n2, n3, n4, n5, n6, n7⟩ := hc
    refine ⟨_, (pss_cons (ps_fld (pv 0) (pe_lst pa_nil) rfl)
      (pss_cons (ps_fld (pv 0) pe_dnewK rfl)
      (pss_cons (ps_fld (pv 0) pe_dnewK rfl)
      (pss_cons (ps_fld (pv 0) pe_dnewK rfl)
      (pss_cons (ps_fld (pv 0) pe_dnewK rfl)
      (pss_cons (ps_fld (pv 0) pe_dnewT rfl)
      (pss_one (ps_fld (pv 0) (pe_lst pa_nil) rfl)))))))), ?_⟩
    have hp0 : H p = some (.ins C dx (([] : List Str).zip ([] : List V))) := hp
    have hpn : H p ≠ none := by rw [hp]; exact fun z => nomatch z
    have kp0 : ∀ b u, H b = some u → b ≠ p → H b = some u := fun _ _ h _ => h
    walk_at "ss"
    refine ⟨Nat.zero_le _, fun r nr => ?_⟩
    walk_at "ss"
    have nrp := ne_of_none hp0 nr
    refine r_putN (ns := ([] : List Str)) (vs := ([] : List V)) ["running"] [.ref r] (by rw [upd_ne nrp]; exact hp0) cl n1 (by decide +kernel) rfl (by decide) rfl rfl ?_
    obtain ⟨hp1, a1, k1, z1, y1⟩ := mk_fld (o := .lst []) (o' := .ins C dx ((["running"] : List Str).zip ([.ref r] : List V))) kp0 hpn hp0 nr
    show _
    generalize eH1 : upd (upd H r (.lst [])) p (.ins C dx ((["running"] : List Str).zip ([.ref r] : List V))) = H1 at hp1 a1 k1
    have kp1 : ∀ b u, H b = some u → b ≠ p → H1 b = some u := fun b u h n => k1 b u (kp0 b u h n) n
    walk_at "ss"
    intro d1 nr
    walk_at "ss"
    have nrp := ne_of_none hp1 nr
    refine r_putN (ns := (["running"] : List Str)) (vs := ([.ref r] : List V)) ["running", "wholes"] [.ref r, .ref d1] (by rw [upd_ne nrp]; exact hp1) cl n2 (by decide +kernel) rfl (by decide) rfl rfl ?_
    obtain ⟨hp2, a2, k2, z2, y2⟩ := mk_fld (o := .dK []) (o' := .ins C dx ((["running", "wholes"] : List Str).zip ([.ref r, .ref d1] : List V))) kp1 hpn hp1 nr
    show _
    generalize eH2 : upd (upd H1 d1 (.dK [])) p (.ins C dx ((["running", "wholes"] : List Str).zip ([.ref r, .ref d1] : List V))) = H2 at hp2 a2 k2
    have kp2 : ∀ b u, H b = some u → b ≠ p → H2 b = some u := fun b u h n => k2 b u (kp1 b u h n) n
    walk_at "ss"
    intro d2 nr
    walk_at "ss"
    have nrp := ne_of_none hp2 nr
    refine r_putN (ns := (["running", "wholes"] : List Str)) (vs := ([.ref r, .ref d1] : List V)) ["running", "wholes", "places"] [.ref r, .ref d1, .ref d2] (by rw [upd_ne nrp]; exact hp2) cl n3 (by decide +kernel) rfl (by decide) rfl rfl ?_
    obtain ⟨hp3, a3, k3, z3, y3⟩ := mk_fld (o := .dK []) (o' := .ins C dx ((["running", "wholes", "places"] : List Str).zip ([.ref r, .ref d1, .ref d2] : List V))) kp2 hpn hp2 nr
    show _
    generalize eH3 : upd (upd H2 d2 (.dK [])) p (.ins C dx ((["running", "wholes", "places"] : List Str).zip ([.ref r, .ref d1, .ref d2] : List V))) = H3 at hp3 a3 k3
    have kp3 : ∀ b u, H b = some u → b ≠ p → H3 b = some u := fun b u h n => k3 b u (kp2 b u h n) n
    walk_at "ss"
    intro d3 nr
    walk_at "ss"
    have nrp := ne_of_none hp3 nr
    refine r_putN (ns := (["running", "wholes", "places"] : List Str)) (vs := ([.ref r, .ref d1, .ref d2] : List V)) ["running", "wholes", "places", "in_box"] [.ref r, .ref d1, .ref d2, .ref d3] (by rw [upd_ne nrp]; exact hp3) cl n4 (by decide +kernel) rfl (by decide) rfl rfl ?_
    obtain ⟨hp4, a4, k4, z4, y4⟩ := mk_fld (o := .dK []) (o' := .ins C dx ((["running", "wholes", "places", "in_box"] : List Str).zip ([.ref r, .ref d1, .ref d2, .ref d3] : List V))) kp3 hpn hp3 nr
    show _
    generalize eH4 : upd (upd H3 d3 (.dK [])) p (.ins C dx ((["running", "wholes", "places", "in_box"] : List Str).zip ([.ref r, .ref d1, .ref d2, .ref d3] : List V))) = H4 at hp4 a4 k4
    have kp4 : ∀ b u, H b = some u → b ≠ p → H4 b = some u := fun b u h n => k4 b u (kp3 b u h n) n
    walk_at "ss"
    intro d4 nr
    walk_at "ss"
    have nrp := ne_of_none hp4 nr
    refine r_putN (ns := (["running", "wholes", "places", "in_box"] : List Str)) (vs := ([.ref r, .ref d1, .ref d2, .ref d3] : List V)) ["running", "wholes", "places", "in_box", "on_peg"] [.ref r, .ref d1, .ref d2, .ref d3, .ref d4] (by rw [upd_ne nrp]; exact hp4) cl n5 (by decide +kernel) rfl (by decide) rfl rfl ?_
    obtain ⟨hp5, a5, k5, z5, y5⟩ := mk_fld (o := .dK []) (o' := .ins C dx ((["running", "wholes", "places", "in_box", "on_peg"] : List Str).zip ([.ref r, .ref d1, .ref d2, .ref d3, .ref d4] : List V))) kp4 hpn hp4 nr
    show _
    generalize eH5 : upd (upd H4 d4 (.dK [])) p (.ins C dx ((["running", "wholes", "places", "in_box", "on_peg"] : List Str).zip ([.ref r, .ref d1, .ref d2, .ref d3, .ref d4] : List V))) = H5 at hp5 a5 k5
    have kp5 : ∀ b u, H b = some u → b ≠ p → H5 b = some u := fun b u h n => k5 b u (kp4 b u h n) n
    walk_at "ss"
    intro dh nr
    walk_at "ss"
    have nrp := ne_of_none hp5 nr
    refine r_putN (ns := (["running", "wholes", "places", "in_box", "on_peg"] : List Str)) (vs := ([.ref r, .ref d1, .ref d2, .ref d3, .ref d4] : List V)) ["running", "wholes", "places", "in_box", "on_peg", "holding"] [.ref r, .ref d1, .ref d2, .ref d3, .ref d4, .ref dh] (by rw [upd_ne nrp]; exact hp5) cl n6 (by decide +kernel) rfl (by decide) rfl rfl ?_
    obtain ⟨hp6, a6, k6, z6, y6⟩ := mk_fld (o := .dT []) (o' := .ins C dx ((["running", "wholes", "places", "in_box", "on_peg", "holding"] : List Str).zip ([.ref r, .ref d1, .ref d2, .ref d3, .ref d4, .ref dh] : List V))) kp5 hpn hp5 nr
    show _
    generalize eH6 : upd (upd H5 dh (.dT [])) p (.ins C dx ((["running", "wholes", "places", "in_box", "on_peg", "holding"] : List Str).zip ([.ref r, .ref d1, .ref d2, .ref d3, .ref d4, .ref dh] : List V))) = H6 at hp6 a6 k6
    have kp6 : ∀ b u, H b = some u → b ≠ p → H6 b = some u := fun b u h n => k6 b u (kp5 b u h n) n
    walk_at "ss"
    refine ⟨Nat.zero_le _, fun dw nr => ?_⟩
    walk_at "ss"
    have nrp := ne_of_none hp6 nr
    refine r_putN (ns := (["running", "wholes", "places", "in_box", "on_peg", "holding"] : List Str)) (vs := ([.ref r, .ref d1, .ref d2, .ref d3, .ref d4, .ref dh] : List V)) ["running", "wholes", "places", "in_box", "on_peg", "holding", "waiting"] [.ref r, .ref d1, .ref d2, .ref d3, .ref d4, .ref dh, .ref dw] (by rw [upd_ne nrp]; exact hp6) cl n7 (by decide +kernel) rfl (by decide) rfl rfl ?_
    obtain ⟨hp7, a7, k7, z7, y7⟩ := mk_fld (o := .lst []) (o' := .ins C dx ((["running", "wholes", "places", "in_box", "on_peg", "holding", "waiting"] : List Str).zip ([.ref r, .ref d1, .ref d2, .ref d3, .ref d4, .ref dh, .ref dw] : List V))) kp6 hpn hp6 nr
    show _
    generalize eH7 : upd (upd H6 dw (.lst [])) p (.ins C dx ((["running", "wholes", "places", "in_box", "on_peg", "holding", "waiting"] : List Str).zip ([.ref r, .ref d1, .ref d2, .ref d3, .ref d4, .ref dh, .ref dw] : List V))) = H7 at hp7 a7 k7
    have kp7 : ∀ b u, H b = some u → b ≠ p → H7 b = some u := fun b u h n => k7 b u (kp6 b u h n) n
    have r6 : H6 r = some (.lst []) := k6 _ _ (k5 _ _ (k4 _ _ (k3 _ _ (k2 _ _ a1 y1) y1) y1) y1) y1
    walk_at "ss"
    refine q H7 r d1 d2 d3 d4 dh dw hp7 (k7 _ _ r6 y1) (k7 _ _ a6 y6) a7 (ne_of_none r6 nr) ?_ kp7
    intro b hb
    simp only [List.mem_cons, List.not_mem_nil, or_false] at hb
    rcases hb with rfl | rfl | rfl | rfl | rfl | rfl | rfl <;> assumption
end
/-! the class's own facts -/
section
variable {P : Program} {w : World} {K : PySem.W.Frag} {mg : Str → Option Value} {base : Heap}
theorem hinit_Copies (T : Txt K w mg) : HInit K (He.ga K "Copies") := ⟨T.cl_Copies, T.na_Copies_running, T.na_Copies_wholes, T.na_Copies_places, T.na_Copies_in_box, T.na_Copies_on_peg, T.na_Copies_holding, T.na_Copies_waiting⟩
theorem hcls_Copies (T : Txt K w mg) : HCls K (He.ga K "Copies") where
  cl := T.cl_Copies
  nH := T.na_Copies_holding
  nW := T.na_Copies_waiting
  hold := let ⟨fd, F⟩ := T.f_Copies_hold; ⟨_, fd, T.m_Copies_hold, F⟩
  loose := let ⟨fd, F⟩ := T.f_Copies_loose; ⟨_, fd, T.m_Copies_loose, F⟩
  settle := let ⟨fd, F⟩ := T.f_Copies_settle; ⟨_, fd, T.m_Copies_settle, F⟩
  let_by := let ⟨fd, F⟩ := T.f_Copies_let_by; ⟨_, fd, T.m_Copies_let_by, F⟩
  let_place := let ⟨fd, F⟩ := T.f_Copies_let_place; ⟨_, fd, T.m_Copies_let_place, F⟩
  out := let ⟨fd, F⟩ := T.f_Copies_out; ⟨_, fd, T.m_Copies_out, F⟩
  put := let ⟨fd, F⟩ := T.f_Copies_put; ⟨_, fd, T.m_Copies_put, F⟩
  take := let ⟨fd, F⟩ := T.f_Copies_take; ⟨_, fd, T.m_Copies_take, F⟩
  lift := let ⟨fd, F⟩ := T.f_Copies_lift; ⟨_, fd, T.m_Copies_lift, F⟩
  look := let ⟨fd, F⟩ := T.f_Copies_look; ⟨_, fd, T.m_Copies_look, F⟩
  height := let ⟨fd, F⟩ := T.f_Copies_height; ⟨_, fd, T.m_Copies_height, F⟩
  pile := let ⟨fd, F⟩ := T.f_Copies_pile; ⟨_, fd, T.m_Copies_pile, F⟩
theorem mak_Copies (T : Txt K w mg) : Mak P w K mg base 1 "Copies" (He.ga K "Copies") (spInitC (He.ga K "Copies")) [] := by
  obtain ⟨fd, F⟩ := T.f_Copies___init__
  exact ⟨_, fd, P_Copies___init__, [], T.mk_Copies, ok_initC (hinit_Copies T) F, T.g_Copies, F.bindsN (fun _ _ _ _ _ _ us hl => match us, hl with | [_], _ => rfl), .nil⟩
theorem metC_tall (T : Txt K w mg) : Met P w K mg base 1 (He.ga K "Copies") "tall" (spTall (CopAt (He.ga K "Copies"))) [] := by
  obtain ⟨fd, F⟩ := T.f_Copies_tall
  have cC := T.cl_Copies; have nR := T.na_Copies_running
  refine ⟨_, fd, P_Copies_tall, [], T.cl_Copies, T.m_Copies_tall, ?_, F.bindsN (fun _ _ _ _ _ _ us hl => match us, hl with | [_], _ => rfl), .nil⟩
  refine fd_ok F sc_Copies_tall (fun vs H Q E h => ?_) (fun cdv A outer s H vs Q E hr h => ?_)
  · obtain ⟨p, F, st, rfl, _⟩ := h; rfl
  · obtain ⟨p, F, st, rfl, ⟨dx, r, d1, d2, d3, d4, dh, dw, us, hp, hR, wl, h1, h2, ne, ⟨f1, f2, f3, f4⟩, liv, pl⟩, q⟩ := h
    refine ⟨_, (pss_one (ps_ret (pe_callB call_len_seq (by rfl) T.b_len (by decide +kernel) (pa_cons (pe_fld (pv 0) rfl) pa_nil)))), ?_⟩
    walk_at "ss"
    refine ⟨r, us, rfl, .inl (SqL.of hR), ?_⟩
    have e : us.length = st.length := by rw [wl.length, List.length_reverse]
    rw [e]
    exact q
theorem metC_whole (T : Txt K w mg) : Met P w K mg base 1 (He.ga K "Copies") "whole" (spWhole (CopAt (He.ga K "Copies"))) [] := by
  obtain ⟨fd, F⟩ := T.f_Copies_whole
  have cC := T.cl_Copies; have nR := T.na_Copies_running
  refine ⟨_, fd, P_Copies_whole, [], T.cl_Copies, T.m_Copies_whole, ?_, F.bindsN (fun _ _ _ _ _ _ us hl => match us, hl with | [_], _ => rfl), .nil⟩
  refine fd_ok F sc_Copies_whole (fun vs H Q E h => ?_) (fun cdv A outer s H vs Q E hr h => ?_)
  · obtain ⟨p, F, st, rfl, _⟩ := h; rfl
  · obtain ⟨p, F, st, rfl, ⟨dx, r, d1, d2, d3, d4, dh, dw, us, hp, hR, wl, h1, h2, ne, ⟨f1, f2, f3, f4⟩, liv, pl⟩, hl, q⟩ := h
    refine ⟨_, (pss_one (ps_ret (pe_callTy call_list_of (by rfl) T.b_list (by decide +kernel) (pa_cons (pe_fld (pv 0) rfl) pa_nil)))), ?_⟩
    walk_at "ss"
    refine ⟨r, us, rfl, .inl (SqL.of hR), fun l nl => ?_⟩
    have sm : Sm H (upd H l (.lst us)) := (Sm.refl H).new nl
    exact q _ l us sm nl upd_same (wl.keep fun b xs e => sm b _ e)
theorem metC_at_depth (T : Txt K w mg) : Met P w K mg base 1 (He.ga K "Copies") "at_depth" (spAtDepth (CopAt (He.ga K "Copies"))) [] := by
  obtain ⟨fd, F⟩ := T.f_Copies_at_depth
  have cC := T.cl_Copies; have nR := T.na_Copies_running
  refine ⟨_, fd, P_Copies_at_depth, [], T.cl_Copies, T.m_Copies_at_depth, ?_, F.bindsN (fun _ _ _ _ _ _ us hl => match us, hl with | [_, _], _ => rfl), .nil⟩
  refine fd_ok F sc_Copies_at_depth (fun vs H Q E h => ?_) (fun cdv A outer s H vs Q E hr h => ?_)
  · obtain ⟨p, F, st, k, x, rfl, _⟩ := h; rfl
  · obtain ⟨p, F, st, k, x, rfl, ⟨dx, r, d1, d2, d3, d4, dh, dw, us, hp, hR, wl, h1, h2, ne, ⟨f1, f2, f3, f4⟩, liv, pl⟩, hk, q⟩ := h
    refine ⟨_, (pss_one (ps_ret (pe_ix ix_list (pe_fld (pv 0) rfl) (pe_op op_sub (pe_un un_neg pe_int) (pv 1)) (fun _ _ => rfl)))), ?_⟩
    have wr := wl.reverse
    rw [List.reverse_reverse] at wr
    obtain ⟨v, hv, wv⟩ := wr.get hk
    walk_at "ss"
    refine ⟨1, rfl, ?_⟩
    walk_at "ss"
    exact r_ixL (SqL.of hR) (atI_back hv) (q v wv)
theorem metC_lay_on (T : Txt K w mg) : Met P w K mg base 3 (He.ga K "Copies") "lay_on" (spLayOn (CopAt (He.ga K "Copies"))) [] := by
  obtain ⟨fd, F⟩ := T.f_Copies_lay_on
  have cC := T.cl_Copies; have nR := T.na_Copies_running
  have m_hold : Met P w K mg base 2 (He.ga K "Copies") "hold" (spQuiet (He.ga K "Copies")) [] := met_hold T (hcls_Copies T)
  refine ⟨_, fd, P_Copies_lay_on, [], T.cl_Copies, T.m_Copies_lay_on, ?_, F.bindsN (fun _ _ _ _ _ _ us hl => match us, hl with | [_, _], _ => rfl), .nil⟩
  refine fd_ok F sc_Copies_lay_on (fun vs H Q E h => ?_) (fun cdv A outer s H vs Q E hr h => ?_)
  · obtain ⟨p, F, st, t, x, rfl, _⟩ := h; rfl
  · obtain ⟨p, F, st, t, x, rfl, ⟨dx, r, d1, d2, d3, d4, dh, dw, us, hp, hR, wl, h1, h2, ne, ⟨f1, f2, f3, f4⟩, liv, pl⟩, ht, hx, hl, q⟩ := h
    refine ⟨_, (pss_cons (ps_expr (pe_bm PySem.F.plainAttrs_list PySem.F.slot_list_append PySem.F.type_list_append mt_append (pe_fld (pv 0) rfl) (pa_cons (pv 1) pa_nil)))
      (pss_one (ps_expr (pe_mt m_hold hr (by decide) (pv 0) (pa_cons (pv 1) pa_nil))))), ?_⟩
    walk_at "ss"
    refine ⟨tyL hR, ?_⟩
    walk_at "ss"
    refine r_append hR (small5 (by rw [wl.length, List.length_reverse]; omega)) ?_
    have npr : p ≠ r := ne_of hp hR (by intro z; cases z)
    have ntr : t ≠ r := ne_of ht hR (by intro z; cases z)
    have nhr : dh ≠ r := ne_of h1 hR (by intro z; cases z)
    have mv : Mv F H F (upd H r (.lst (us ++ [.ref t]))) := (Mv.refl F H).wr f2 (fun xs z => by rw [hR] at z; cases z)
    have at2 : CopAt (He.ga K "Copies") (upd H r (.lst (us ++ [.ref t]))) p F (x :: st) := by
      refine ⟨dx, r, d1, d2, d3, d4, dh, dw, us ++ [.ref t], by rw [upd_ne npr]; exact hp, upd_same, ?_, by rw [upd_ne nhr]; exact h1, by rw [upd_ne ne.symm]; exact h2, ne, ⟨f1, f2, f3, f4⟩, fun b fb => mv.liv b (liv b fb), ?_⟩
      · rw [List.reverse_cons]
        exact (wl.keep mv.tup).append (.one ⟨t, rfl, mv.tup _ _ ht⟩)
      · intro y hy
        rcases List.mem_cons.mp hy with rfl | hy
        · exact hx
        · exact pl y hy
    walk_at "ss"
    exact ⟨p, t, x, rfl, at2.com, mv.tup _ _ ht, hx, q _ F mv at2⟩
theorem metC_lift_off (T : Txt K w mg) : Met P w K mg base 2 (He.ga K "Copies") "lift_off" (spLiftOff (CopAt (He.ga K "Copies"))) [] := by
  obtain ⟨fd, F⟩ := T.f_Copies_lift_off
  have cC := T.cl_Copies; have nR := T.na_Copies_running
  have m_loose : Met P w K mg base 1 (He.ga K "Copies") "loose" (spQuiet (He.ga K "Copies")) [] := met_loose T (hcls_Copies T)
  refine ⟨_, fd, P_Copies_lift_off, [], T.cl_Copies, T.m_Copies_lift_off, ?_, F.bindsN (fun _ _ _ _ _ _ us hl => match us, hl with | [_], _ => rfl), .nil⟩
  refine fd_ok F sc_Copies_lift_off (fun vs H Q E h => ?_) (fun cdv A outer s H vs Q E hr h => ?_)
  · obtain ⟨p, F, x, st, rfl, _⟩ := h; rfl
  · obtain ⟨p, F, x, st, rfl, ⟨dx, r, d1, d2, d3, d4, dh, dw, us, hp, hR, wl, h1, h2, ne, ⟨f1, f2, f3, f4⟩, liv, pl⟩, hl, q⟩ := h
    refine ⟨_, (pss_cons (ps_set (i := 1) sc_Copies_lift_off.nd rfl (Or.inl rfl) (pe_bm0 PySem.F.plainAttrs_list PySem.F.slot_list_pop PySem.F.type_list_pop mt_pop (pe_fld (pv 0) rfl)))
      (pss_cons (ps_expr (pe_mt m_loose hr (by decide) (pv 0) (pa_cons (pv 1) pa_nil)))
      (pss_one (ps_ret (pv 1))))), ?_⟩
    rw [List.reverse_cons] at wl
    obtain ⟨us', v, rfl, wl', t, rfl, ht⟩ := wl.split
    walk_at "ss"
    refine ⟨tyL hR, ?_⟩
    refine r_pop hR ?_
    have npr : p ≠ r := ne_of hp hR (by intro z; cases z)
    have nhr : dh ≠ r := ne_of h1 hR (by intro z; cases z)
    have mv : Mv F H F (upd H r (.lst us')) := (Mv.refl F H).wr f2 (fun xs z => by rw [hR] at z; cases z)
    have at2 : CopAt (He.ga K "Copies") (upd H r (.lst us')) p F st :=
      ⟨dx, r, d1, d2, d3, d4, dh, dw, us', by rw [upd_ne npr]; exact hp, upd_same, wl'.keep mv.tup, by rw [upd_ne nhr]; exact h1, by rw [upd_ne ne.symm]; exact h2, ne, ⟨f1, f2, f3, f4⟩, fun b fb => mv.liv b (liv b fb), fun y hy => pl y (List.mem_cons_of_mem _ hy)⟩
    walk_at "ss"
    refine ⟨p, t, x, rfl, at2.com, mv.tup _ _ ht, pl x List.mem_cons_self, ?_⟩
    walk_at "ss"
    exact q _ _ F mv at2 ⟨t, rfl, mv.tup _ _ ht⟩
theorem low_Copies (T : Txt K w mg) : Low P w K mg base 6 (He.ga K "Copies") (CopAt (He.ga K "Copies")) where
  com := CopAt.com
  liv := fun ⟨_, _, _, _, _, _, _, _, _, _, _, _, _, _, _, _, liv, _⟩ => liv
  stay := CopAt.stay
  pl := fun ⟨_, _, _, _, _, _, _, _, _, _, _, _, _, _, _, _, _, pl⟩ => pl
  tall := (metC_tall T).mono (by decide)
  at_depth := (metC_at_depth T).mono (by decide)
  whole := (metC_whole T).mono (by decide)
  lay_on := (metC_lay_on T).mono (by decide)
  lift_off := (metC_lift_off T).mono (by decide)
theorem house_Copies (T : Txt K w mg) : House P w K mg base (He.ga K "Copies") (CopAt (He.ga K "Copies")) := house_of T (hcls_Copies T) (low_Copies T)
end
end MG

namespace MG
open PySem PySem.Spec PyProof.Rows L2
local macro_rules | `(tactic| walk_at "ne") => `(tactic| first | assumption | exact Ne.symm (by assumption) | exact ne_of_none (by assumption) (by assumption) | exact (ne_of_none (by assumption) (by assumption)).symm)
local macro_rules | `(tactic| walk_at "hp") => `(tactic| first | assumption | exact upd_same | (refine (upd_ne ?k1).trans ?k2; (case k1 => walk_at "ne"); (case k2 => walk_at "hp")))
local macro_rules | `(tactic| walk_at "lk") => `(tactic| first | assumption | with_reducible exact FE_under | with_reducible exact FE_worths | with_reducible exact FE_holders | with_reducible exact FC_running | with_reducible exact FC_wholes | with_reducible exact FC_places | with_reducible exact FC_in_box | with_reducible exact FC_on_peg | with_reducible exact FC_holding | with_reducible exact FC_waiting | with_reducible exact FP_running | with_reducible exact FP_wholes | with_reducible exact FP_places | with_reducible exact FP_in_box | with_reducible exact FP_on_peg | with_reducible exact FP_holding | with_reducible exact FP_waiting | with_reducible exact FP_most | with_reducible exact FP_count_made | with_reducible exact FP_count_handed | with_reducible exact FP_count_moved | with_reducible exact FP_high | with_reducible exact FP_highs | with_reducible exact FP_tops | with_reducible exact FP_above)
/-- one step of a reading that needs nothing but what is written -/
local macro_rules | `(tactic| walk_at "s") => `(tactic| first
  | with_reducible refine r_seq ?_ | with_reducible refine r_next ?_ | with_reducible refine r_set ?_ | with_reducible refine r_asg ?_ | with_reducible refine r_drop ?_ | with_reducible refine r_ret ?_ | with_reducible refine r_retN ?_ | with_reducible refine r_ifs ?_
  | ((with_reducible refine' r_var ?k1 ?_); (case k1 => exact rfl))
  | with_reducible refine r_c ?_ | with_reducible refine r_op ?_ | with_reducible refine r_un ?_ | with_reducible refine r_fld ?_ | with_reducible refine r_sfld ?_ | with_reducible refine r_saug ?_
  | with_reducible refine r_call ?_ | with_reducible refine r_make ?_ | with_reducible refine r_meth ?_ | with_reducible refine r_nil ?_ | with_reducible refine r_cons ?_ | with_reducible refine r_tup ?_ | with_reducible refine r_lst ?_ | with_reducible refine r_cb ?_ | with_reducible refine r_bm ?_ | with_reducible refine r_bm0 ?_
  | with_reducible refine r_tb ?_ | with_reducible refine r_test ?_ | with_reducible refine r_bl ?_ | with_reducible refine r_not ?_ | with_reducible refine r_and ?_ | with_reducible refine r_or ?_ | with_reducible refine r_andV ?_ | with_reducible refine r_orV ?_ | with_reducible refine r_notV ?_
  | with_reducible refine r_I0 ?_ | with_reducible refine r_eqI ?_ | with_reducible refine r_neI ?_ | with_reducible refine r_eqS ?_ | with_reducible refine r_neS ?_ | with_reducible refine r_eqB ?_ | with_reducible refine r_neB ?_
  | with_reducible refine r_gname ?_ | with_reducible refine r_forRev ?_ | with_reducible refine r_forL ?_ | with_reducible refine r_forR1 ?_ | with_reducible refine r_sl ?_ | with_reducible refine r_part ?_ | with_reducible refine r_int ?_ | with_reducible refine r_nopart ?_
  | with_reducible refine r_din ?_ | with_reducible refine r_dnin ?_ | with_reducible refine r_gsub ?_
  | ((with_reducible refine' r_fld1 ?k1 ?k2 ?k3 ?k4 ?_); (case k1 => walk_at "hp"); (case k2 => assumption); (case k3 => assumption); (case k4 => walk_at "lk"))
  | ((with_reducible refine' r_aug1 ?k1 ?k2 ?k3 ?k4 ?_); (case k1 => walk_at "hp"); (case k2 => assumption); (case k3 => assumption); (case k4 => walk_at "lk"))
  | with_reducible refine r_add ?_ | with_reducible refine r_sub ?_
  | ((with_reducible refine' r_meth1 ?k1 ?k2 ?_); (case k1 => walk_at "hp"); (case k2 => first | assumption | exact fz_no (by decide +kernel)))
  | ((with_reducible refine' r_ixT ?k1 ?k2 ?_); (case k1 => first | assumption | exact SqT.of (by walk_at "hp")); (case k2 => first | assumption | rfl)))
local macro_rules | `(tactic| walk_at "ss") => `(tactic| repeat walk_at "s")

/-! ## 9. A house of pieces -/
/-- a piece: its object, its dict, its list, what stands in that, the worths (the lowest first) -/
structure Pc where
  a : Addr
  dx : Addr
  l : Addr
  us : List V
  ws : List Wo
def chV : List Pc → V
  | [] => .non
  | c :: _ => .ref c.a
def Chn (H : Hp) (CE : Addr) : List Pc → Prop
  | [] => True
  | c :: cs => H c.a = some (.ins CE c.dx (FE.zip [chV cs, .ref c.l, .int 1])) ∧ H c.l = some (.lst c.us) ∧ WL H c.us c.ws ∧ Chn H CE cs
/-- the pile, its top first -/
def flat : List Pc → List Wo
  | [] => []
  | c :: cs => c.ws.reverse ++ flat cs
def usOf : List Pc → List V
  | [] => []
  | c :: cs => usOf cs ++ c.us
theorem Chn.wl {H : Hp} {CE : Addr} : ∀ {cs : List Pc}, Chn H CE cs → WL H (usOf cs) (flat cs).reverse
  | [], _ => .nil
  | c :: cs, h => by
    obtain ⟨_, _, w, t⟩ := h
    show WL H (usOf cs ++ c.us) (c.ws.reverse ++ flat cs).reverse
    rw [List.reverse_append, List.reverse_reverse]
    exact t.wl.append w
theorem Chn.at_ {H : Hp} {CE : Addr} : ∀ {cs : List Pc} {i : Nat} {c : Pc}, Chn H CE cs → cs[i]? = some c → H c.a = some (.ins CE c.dx (FE.zip [chV (cs.drop (i + 1)), .ref c.l, .int 1])) ∧ H c.l = some (.lst c.us) ∧ WL H c.us c.ws
  | [], _, _, _, h => by simp at h
  | d :: cs, 0, c, h, e => by
    have ec : d = c := Option.some.inj e
    subst ec
    exact ⟨h.1, h.2.1, h.2.2.1⟩
  | d :: cs, i + 1, c, h, e => by
    have r := Chn.at_ (i := i) h.2.2.2 (show cs[i]? = some c from e)
    exact r
theorem Chn.keep {H H' : Hp} {CE : Addr} (k : ∀ b xs, H b = some (.tup xs) → H' b = some (.tup xs)) : ∀ {cs : List Pc}, Chn H CE cs → (∀ c ∈ cs, (∀ o, H c.a = some o → H' c.a = some o) ∧ ∀ o, H c.l = some o → H' c.l = some o) → Chn H' CE cs
  | [], _, _ => True.intro
  | c :: cs, h, f => by
    obtain ⟨h1, h2, w, t⟩ := h
    obtain ⟨f1, f2⟩ := f c List.mem_cons_self
    exact ⟨f1 _ h1, f2 _ h2, w.keep k, t.keep k fun d hd => f d (List.mem_cons_of_mem _ hd)⟩
theorem Chn.drop {H : Hp} {CE : Addr} : ∀ {cs : List Pc} (i : Nat), Chn H CE cs → Chn H CE (cs.drop i)
  | _, 0, h => h
  | [], _ + 1, _ => True.intro
  | _ :: cs, i + 1, h => Chn.drop (cs := cs) i h.2.2.2
theorem flat_drop : ∀ (cs : List Pc) (i : Nat), (flat (cs.drop i)).length ≤ (flat cs).length
  | cs, 0 => Nat.le_refl _
  | [], i + 1 => Nat.le_refl _
  | c :: cs, i + 1 => by
    have h := flat_drop cs i
    show (flat (cs.drop i)).length ≤ (c.ws.reverse ++ flat cs).length
    rw [List.length_append]
    omega
theorem flat_len {cs : List Pc} (h : ∀ c ∈ cs, c.ws ≠ []) : cs.length ≤ (flat cs).length := by
  induction cs with
  | nil => exact Nat.le_refl _
  | cons c cs ih =>
    have h1 := ih fun d hd => h d (List.mem_cons_of_mem _ hd)
    have h2 : 0 < c.ws.length := List.length_pos_iff.mpr (h c List.mem_cons_self)
    show cs.length + 1 ≤ (c.ws.reverse ++ flat cs).length
    rw [List.length_append, List.length_reverse]
    omega
def spPiece (CE : Addr) : Sp := fun vs H Q _ => ∃ (x dx l : Addr) (u : V), vs = [.ref x, u, .ref l] ∧ H x = some (.ins CE dx []) ∧ Q .non (upd H x (.ins CE dx (FE.zip [u, .ref l, .int 0])))
/-- u: what the new piece lies on, None or a piece of h holders at b -/
def OnV (H : Hp) (CE p : Addr) (u : V) (b db : Addr) (uu ll : V) (h : Int) : Prop := u = .non ∨ (u = .ref b ∧ b ≠ p ∧ H b = some (.ins CE db (FE.zip [uu, ll, .int h])))
def spPieceOn (C CE : Addr) (z : Int) : Sp := fun vs H Q _ => ∃ (p l dx b db : Addr) (u uu ll : V) (h m : Int) (ns : List Str) (fv : List V), vs = [.ref p, u, .ref l] ∧ H p = some (.ins C dx (ns.zip fv)) ∧ ns[8]? = some ("count_made" : Str) ∧ ns.Nodup ∧ (∀ m ∈ MN, m ∉ ns) ∧ ns.length = fv.length ∧ ns.length < 1000 ∧ fv[8]? = some (.int m) ∧ OnV H CE p u b db uu ll h ∧
  ∀ (H' : Hp) (x dx' : Addr), H x = none → H' p = some (.ins C dx (ns.zip (fv.set 8 (.int (m + 1))))) → H' x = some (.ins CE dx' (FE.zip [u, .ref l, .int z])) → OnV H' CE p u b db uu ll (h + 1) → (∀ c o, H c = some o → c ≠ p → u ≠ .ref c → H' c = some o) → Q (.ref x) H'
def spPileOn (CE : Addr) : Sp := fun vs H Q _ => ∃ cs : List Pc, vs = [chV cs] ∧ Chn H CE cs ∧ (flat cs).length ≤ 100000 ∧ cs.length ≤ 200000 ∧ ∀ H' l us, Sm H H' → H l = none → H' l = some (.lst us) → WL H' us (flat cs).reverse → Q (.ref l) H'
section
variable {P : Program} {w : World} {K : PySem.W.Frag} {mg : Str → Option Value} {base : Heap}
theorem mak_Piece (T : Txt K w mg) : Mak P w K mg base 1 "Piece" (He.ga K "Piece") (spPiece (He.ga K "Piece")) [] := by
  obtain ⟨fd, F⟩ := T.f_Piece___init__
  have cC := T.cl_Piece; have n1 := T.na_Piece_under; have n2 := T.na_Piece_worths; have n3 := T.na_Piece_holders
  refine ⟨_, fd, P_Piece___init__, [], T.mk_Piece, ?_, T.g_Piece, F.bindsN (fun _ _ _ _ _ _ us hl => match us, hl with | [_, _, _], _ => rfl), .nil⟩
  refine fd_ok F sc_Piece___init__ (fun vs H Q E h => ?_) (fun cdv A outer s H vs Q E hr h => ?_)
  · obtain ⟨x, dx, l, u, rfl, _⟩ := h; rfl
  · obtain ⟨x, dx, l, u, rfl, hx, q⟩ := h
    refine ⟨_, (pss_cons (ps_fld (pv 0) (pv 1) rfl)
      (pss_cons (ps_fld (pv 0) (pv 2) rfl)
      (pss_one (ps_fld (pv 0) pe_int rfl)))), ?_⟩
    walk_at "ss"
    refine r_putN (ns := []) (vs := []) ["under"] [u] hx cC n1 (by decide +kernel) rfl (by decide) rfl rfl ?_
    walk_at "ss"
    refine r_putN ["under", "worths"] [u, .ref l] upd_same cC n2 (by decide +kernel) rfl (by decide) rfl rfl ?_
    rw [upd_upd]
    walk_at "ss"
    refine r_putN ["under", "worths", "holders"] [u, .ref l, .int 0] upd_same cC n3 (by decide +kernel) rfl (by decide) rfl rfl ?_
    rw [upd_upd]
    exact q
theorem metP_piece_on (T : Txt K w mg) : Met P w K mg base 3 (He.ga K "Pieces") "piece_on" (spPieceOn (He.ga K "Pieces") (He.ga K "Piece") 0) [] := by
  obtain ⟨fd, F⟩ := T.f_Pieces_piece_on
  have cP := T.cl_Pieces; have nM := T.na_Pieces_count_made
  have cC := T.cl_Piece; have n3 := T.na_Piece_holders
  have k_Piece : Mak P w K mg base 1 "Piece" (He.ga K "Piece") (spPiece (He.ga K "Piece")) [] := mak_Piece T
  refine ⟨_, fd, P_Pieces_piece_on, [], T.cl_Pieces, T.m_Pieces_piece_on, ?_, F.bindsN (fun _ _ _ _ _ _ us hl => match us, hl with | [_, _, _], _ => rfl), .nil⟩
  refine fd_ok F sc_Pieces_piece_on (fun vs H Q E h => ?_) (fun cdv A outer s H vs Q E hr h => ?_)
  · obtain ⟨p, l, dx, b, db, u, uu, ll, h, m, ns, fv, rfl, _⟩ := h; rfl
  · obtain ⟨p, l, dx, b, db, u, uu, ll, h, m, ns, fv, rfl, hp, e8, nd, mn, el, e1000, f8, ov, q⟩ := h
    refine ⟨_, (pss_cons (ps_fldaug (pv 0) pe_int in_add)
      (pss_cons (ps_set (i := 3) sc_Pieces_piece_on.nd rfl (Or.inl rfl) (pe_mk k_Piece hr (by decide) rfl (pa_cons (pv 1) (pa_cons (pv 2) pa_nil))))
      (pss_cons (ps_if (pt_cmpR op_notN (pv 1) pe_non (nomark _)) (pss_one (ps_fldaug (pv 1) pe_int in_add)) pss_nil)
      (pss_one (ps_ret (pv 3)))))), ?_⟩
    have l8 := fz_get e8 nd f8
    walk_at "ss"
    refine r_st1 8 hp e8 nd el e1000 ?_
    walk_at "ss"
    intro x dx' nx ndx nex
    have npx : p ≠ x := fun z => by rw [← z, upd_same] at nx; cases nx
    have npd : p ≠ dx' := fun z => by rw [← z, upd_same] at ndx; cases ndx
    rw [upd_ne npx.symm] at nx
    rw [upd_ne npd.symm] at ndx
    refine ⟨x, dx', l, u, rfl, upd_same, rfl, ?_⟩
    rw [upd_upd]
    walk_at "ss"
    have kk : ∀ c o, H c = some o → c ≠ p → (upd (upd (upd H p (.ins (He.ga K "Pieces") dx (ns.zip (fv.set 8 (.int (m + 1)))))) dx' (.own x)) x (.ins (He.ga K "Piece") dx' (FE.zip [u, .ref l, .int 0]))) c = some o := fun c o hc nc => by
      rw [upd_ne (ne_of_none hc nx), upd_ne (ne_of_none hc ndx), upd_ne nc]; exact hc
    have kp : (upd (upd (upd H p (.ins (He.ga K "Pieces") dx (ns.zip (fv.set 8 (.int (m + 1)))))) dx' (.own x)) x (.ins (He.ga K "Piece") dx' (FE.zip [u, .ref l, .int 0]))) p = some (.ins (He.ga K "Pieces") dx (ns.zip (fv.set 8 (.int (m + 1))))) := by
      rw [upd_ne npx, upd_ne npd, upd_same]
    rcases ov with rfl | ⟨rfl, nbp, hb⟩
    · refine ⟨rfl, ?_⟩
      walk_at "ss"
      refine ite_f rfl ?_
      walk_at "ss"
      exact q _ x dx' nx kp upd_same (.inl rfl) fun c o hc nc _ => kk c o hc nc
    · refine ⟨rfl, ?_⟩
      walk_at "ss"
      refine ite_t rfl ?_
      walk_at "ss"
      have nbx : b ≠ x := ne_of_none hb nx
      refine r_st1 2 (kk _ _ hb nbp) rfl FE_nd rfl (by decide) ?_
      walk_at "ss"
      refine q _ x dx' nx (by rw [upd_ne nbp.symm]; exact kp) (by rw [upd_ne nbx.symm]; exact upd_same) (.inr ⟨rfl, nbp, upd_same⟩) fun c o hc nc nu => ?_
      rw [upd_ne (fun z : c = b => nu (by rw [z]))]
      exact kk c o hc nc
theorem metP_run_on (T : Txt K w mg) : Met P w K mg base 4 (He.ga K "Pieces") "run_on" (spPieceOn (He.ga K "Pieces") (He.ga K "Piece") 1) [] := by
  obtain ⟨fd, F⟩ := T.f_Pieces_run_on
  have cC := T.cl_Piece; have n3 := T.na_Piece_holders
  have m_piece_on : Met P w K mg base 3 (He.ga K "Pieces") "piece_on" (spPieceOn (He.ga K "Pieces") (He.ga K "Piece") 0) [] := metP_piece_on T
  refine ⟨_, fd, P_Pieces_run_on, [], T.cl_Pieces, T.m_Pieces_run_on, ?_, F.bindsN (fun _ _ _ _ _ _ us hl => match us, hl with | [_, _, _], _ => rfl), .nil⟩
  refine fd_ok F sc_Pieces_run_on (fun vs H Q E h => ?_) (fun cdv A outer s H vs Q E hr h => ?_)
  · obtain ⟨p, l, dx, b, db, u, uu, ll, h, m, ns, fv, rfl, _⟩ := h; rfl
  · obtain ⟨p, l, dx, b, db, u, uu, ll, h, m, ns, fv, rfl, hp, e8, nd, mn, el, e1000, f8, ov, q⟩ := h
    refine ⟨_, (pss_cons (ps_set (i := 3) sc_Pieces_run_on.nd rfl (Or.inl rfl) (pe_mt m_piece_on hr (by decide) (pv 0) (pa_cons (pv 1) (pa_cons (pv 2) pa_nil))))
      (pss_cons (ps_fld (pv 3) pe_int rfl)
      (pss_one (ps_ret (pv 3))))), ?_⟩
    have nl : (ns.zip fv).lookup ("piece_on" : Str) = none := fz_no (mn _ (by decide +kernel))
    walk_at "ss"
    refine ⟨p, l, dx, b, db, u, uu, ll, h, m, ns, fv, rfl, hp, e8, nd, mn, el, e1000, f8, ov, fun H' x dx' nx hp' hx' ov' kk => ?_⟩
    walk_at "ss"
    refine r_putO 2 hx' cC n3 rfl FE_nd rfl (by decide) ?_
    walk_at "ss"
    have npx : p ≠ x := ne_of_none hp nx
    refine q _ x dx' nx (by rw [upd_ne npx]; exact hp') upd_same ?_ fun c o hc nc nu => ?_
    · rcases ov' with rfl | ⟨rfl, nbp, hb⟩
      · exact .inl rfl
      · refine .inr ⟨rfl, nbp, ?_⟩
        rcases ov with z | ⟨_, _, hb0⟩
        · cases z
        · rw [upd_ne (ne_of_none hb0 nx)]; exact hb
    · rw [upd_ne (ne_of_none hc nx)]; exact kk c o hc nc nu
theorem cal_pile_on (T : Txt K w mg) : Cal P w K mg base 1 "pile_on" (spPileOn (He.ga K "Piece")) [] := by
  obtain ⟨fd, F⟩ := T.f_pile_on
  have cC := T.cl_Piece; have n1 := T.na_Piece_under; have n2 := T.na_Piece_worths; have n3 := T.na_Piece_holders
  refine ⟨_, fd, P_pile_on, [], ?_, T.g_pile_on, F.kp, F.bindsN (fun _ _ _ _ _ _ us hl => match us, hl with | [_], _ => rfl), .nil⟩
  refine fd_ok F sc_pile_on (fun vs H Q E h => ?_) (fun cdv A outer s H vs Q E hr h => ?_)
  · obtain ⟨cs, rfl, _⟩ := h; rfl
  · obtain ⟨cs, rfl, hc, hl1, hl2, q⟩ := h
    refine ⟨_, (pss_cons (ps_set (i := 1) sc_pile_on.nd rfl (Or.inl rfl) (pe_lst pa_nil))
      (pss_cons (ps_while PassesOwn.never (pt_cmpR op_notN (pv 0) pe_non (nomark _)) (pss_cons (ps_expr (pe_bm PySem.F.plainAttrs_list PySem.F.slot_list_append PySem.F.type_list_append mt_append (pv 1) (pa_cons (pe_fld (pv 0) rfl) pa_nil)))
      (pss_one (ps_set (i := 0) sc_pile_on.nd rfl (Or.inl rfl) (pe_fld (pv 0) rfl)))))
      (pss_cons (ps_set (i := 2) sc_pile_on.nd rfl (Or.inl rfl) (pe_lst pa_nil))
      (pss_cons (ps_for PassesOwn.never rfl (pi_reversed (by rfl) T.b_reversed (pa_cons (pv 1) pa_nil)) (pg_name (i := 3) sc_pile_on.nd rfl (Or.inl rfl)) (pss_one (ps_expr (pe_bm PySem.F.plainAttrs_list PySem.F.slot_list_extend PySem.F.type_list_extend mt_extend (pv 2) (pa_cons (pv 3) pa_nil)))))
      (pss_one (ps_ret (pv 2))))))), ?_⟩
    walk_at "ss"
    refine ⟨Nat.zero_le _, fun r nr => ?_⟩
    walk_at "ss"
    refine ⟨fun m σ H1 => ∃ i, i ≤ cs.length ∧ m = cs.length - i ∧ σ = [some (chV (cs.drop i)), some (.ref r), none, none] ∧ Sm H H1 ∧ H1 r = some (.lst ((cs.take i).map fun c => .ref c.l)), ⟨_, 0, Nat.zero_le _, rfl, rfl, (Sm.refl H).new nr, upd_same⟩, ?_⟩
    rintro m σ H1 ⟨i, hi, rfl, rfl, sm, hR⟩
    walk_at "ss"
    refine ⟨rfl, ?_⟩
    walk_at "ss"
    by_cases hlt : i < cs.length
    · have e0 : cs.drop i = cs[i] :: cs.drop (i + 1) := List.drop_eq_getElem_cons hlt
      obtain ⟨g1, g2, g3⟩ := hc.at_ (List.getElem?_eq_getElem hlt)
      have g1' := sm _ _ g1
      rw [e0]
      refine ite_t rfl ⟨_, fun _ _ n => n, ?_⟩
      have hlk : ([some (chV (cs[i] :: cs.drop (i + 1))), some (V.ref r), none, none] : List (Option V))[0]? = some (some (V.ref cs[i].a)) := rfl
      walk_at "ss"
      refine ⟨tyL hR, ?_⟩
      walk_at "s"
      walk_at "s"
      refine r_var hlk ?_
      walk_at "ss"
      refine r_append hR (small6 (by rw [List.length_map, List.length_take]; omega)) ?_
      have nar : cs[i].a ≠ r := ne_of g1' hR (by intro z; cases z)
      walk_at "ss"
      refine r_fld1 (a := cs[i].a) (by rw [upd_ne nar]; exact g1') cC n1 FE_under ?_
      walk_at "ss"
      refine ⟨cs.length - (i + 1), by omega, i + 1, hlt, rfl, rfl, fun b o e => ?_, ?_⟩
      · rw [upd_ne (ne_of_none e nr)]; exact sm b o e
      · rw [upd_same, List.take_succ_eq_append_getElem hlt, List.map_append]
        rfl
    · have e0 : i = cs.length := by omega
      subst e0
      rw [List.drop_length]
      refine ite_f rfl ?_
      walk_at "ss"
      refine ⟨Nat.zero_le _, fun f nf => ?_⟩
      have nfr : r ≠ f := ne_of_none hR nf
      rw [List.take_length] at hR
      walk_at "ss"
      have nf0 : H f = none := by
        cases e : H f with
        | none => rfl
        | some o => rw [sm f o e] at nf; cases nf
      refine ⟨r, cs.map fun c => .ref c.l, rfl, SqL.of (by rw [upd_ne nfr]; exact hR), RT.for_Itv (K := K) (a := r) (xs := cs.map fun c => V.ref c.l) (fun i σ H2 => ∃ o, σ = [some (chV []), some (.ref r), some (.ref f), o] ∧ Sm H H2 ∧ H2 r = some (.lst (cs.map fun c => .ref c.l)) ∧ H2 f = some (.lst (usOf (cs.drop (cs.length - i)))))
        ⟨none, rfl, sm.new nf, by rw [upd_ne nfr]; exact hR, by rw [upd_same, Nat.sub_zero, List.drop_length]; rfl⟩ (fun i σ H2 ⟨_, _, _, z, _⟩ => SqL.of z) ?_ ?_⟩
      · rintro i x σ H2 hi2 hx ⟨o, rfl, sm2, hR2, hF2⟩
        rw [List.length_map] at hi2 hx
        rw [List.getElem?_map] at hx
        have hj : cs.length - 1 - i < cs.length := by omega
        rw [List.getElem?_eq_getElem hj] at hx
        have ex : V.ref (cs[cs.length - 1 - i]).l = x := Option.some.inj hx
        subst ex
        obtain ⟨g1, g2, g3⟩ := hc.at_ (List.getElem?_eq_getElem hj)
        have g2' := sm2 _ _ g2
        walk_at "ss"
        refine ⟨tyL hF2, ?_⟩
        walk_at "ss"
        have e1 : cs.drop (cs.length - (i + 1)) = cs[cs.length - 1 - i] :: cs.drop (cs.length - i) := by
          have h3 : cs.length - (i + 1) = cs.length - 1 - i := by omega
          rw [h3, List.drop_eq_getElem_cons hj]
          have h4 : cs.length - 1 - i + 1 = cs.length - i := by omega
          rw [h4]
        have e2 : usOf (cs.drop (cs.length - (i + 1))) = usOf (cs.drop (cs.length - i)) ++ (cs[cs.length - 1 - i]).us := by rw [e1]; rfl
        have bound : (usOf (cs.drop (cs.length - (i + 1)))).length ≤ 100000 := by
          have w1 := (hc.drop (cs.length - (i + 1))).wl.length
          rw [List.length_reverse] at w1
          rw [w1]
          exact Nat.le_trans (flat_drop _ _) hl1
        refine r_extend hF2 g2' (small5' (by rw [e2, List.length_append] at bound; exact bound)) ?_
        rw [← e2]
        exact ⟨_, rfl, fun b o' e => by rw [upd_ne (ne_of_none e nf0)]; exact sm2 b o' e, by rw [upd_ne nfr]; exact hR2, upd_same⟩
      · rintro σ H2 ⟨o, rfl, sm2, hR2, hF2⟩
        rw [List.length_map, Nat.sub_self, List.drop_zero] at hF2
        walk_at "ss"
        exact q H2 f _ sm2 nf0 hF2 (hc.wl.keep fun b xs e => sm2 b _ e)
end
end MG

namespace MG
open PySem PySem.Spec PyProof.Rows L2
local macro_rules | `(tactic| walk_at "ne") => `(tactic| first | assumption | exact Ne.symm (by assumption) | exact ne_of_none (by assumption) (by assumption) | exact (ne_of_none (by assumption) (by assumption)).symm)
local macro_rules | `(tactic| walk_at "hp") => `(tactic| first | assumption | exact upd_same | (refine (upd_ne ?k1).trans ?k2; (case k1 => walk_at "ne"); (case k2 => walk_at "hp")))
local macro_rules | `(tactic| walk_at "lk") => `(tactic| first | assumption | with_reducible exact FE_under | with_reducible exact FE_worths | with_reducible exact FE_holders | with_reducible exact FC_running | with_reducible exact FC_wholes | with_reducible exact FC_places | with_reducible exact FC_in_box | with_reducible exact FC_on_peg | with_reducible exact FC_holding | with_reducible exact FC_waiting | with_reducible exact FP_running | with_reducible exact FP_wholes | with_reducible exact FP_places | with_reducible exact FP_in_box | with_reducible exact FP_on_peg | with_reducible exact FP_holding | with_reducible exact FP_waiting | with_reducible exact FP_most | with_reducible exact FP_count_made | with_reducible exact FP_count_handed | with_reducible exact FP_count_moved | with_reducible exact FP_high | with_reducible exact FP_highs | with_reducible exact FP_tops | with_reducible exact FP_above)
/-- one step of a reading that needs nothing but what is written -/
local macro_rules | `(tactic| walk_at "s") => `(tactic| first
  | with_reducible refine r_seq ?_ | with_reducible refine r_next ?_ | with_reducible refine r_set ?_ | with_reducible refine r_asg ?_ | with_reducible refine r_drop ?_ | with_reducible refine r_ret ?_ | with_reducible refine r_retN ?_ | with_reducible refine r_ifs ?_
  | ((with_reducible refine' r_var ?k1 ?_); (case k1 => exact rfl))
  | with_reducible refine r_c ?_ | with_reducible refine r_op ?_ | with_reducible refine r_un ?_ | with_reducible refine r_fld ?_ | with_reducible refine r_sfld ?_ | with_reducible refine r_saug ?_
  | with_reducible refine r_call ?_ | with_reducible refine r_make ?_ | with_reducible refine r_meth ?_ | with_reducible refine r_nil ?_ | with_reducible refine r_cons ?_ | with_reducible refine r_tup ?_ | with_reducible refine r_lst ?_ | with_reducible refine r_cb ?_ | with_reducible refine r_bm ?_ | with_reducible refine r_bm0 ?_
  | with_reducible refine r_tb ?_ | with_reducible refine r_test ?_ | with_reducible refine r_bl ?_ | with_reducible refine r_not ?_ | with_reducible refine r_and ?_ | with_reducible refine r_or ?_ | with_reducible refine r_andV ?_ | with_reducible refine r_orV ?_ | with_reducible refine r_notV ?_
  | with_reducible refine r_I0 ?_ | with_reducible refine r_eqI ?_ | with_reducible refine r_neI ?_ | with_reducible refine r_eqS ?_ | with_reducible refine r_neS ?_ | with_reducible refine r_eqB ?_ | with_reducible refine r_neB ?_
  | with_reducible refine r_gname ?_ | with_reducible refine r_forRev ?_ | with_reducible refine r_forL ?_ | with_reducible refine r_forR1 ?_ | with_reducible refine r_sl ?_ | with_reducible refine r_part ?_ | with_reducible refine r_int ?_ | with_reducible refine r_nopart ?_
  | with_reducible refine r_din ?_ | with_reducible refine r_dnin ?_ | with_reducible refine r_gsub ?_
  | ((with_reducible refine' r_fld1 ?k1 ?k2 ?k3 ?k4 ?_); (case k1 => walk_at "hp"); (case k2 => assumption); (case k3 => assumption); (case k4 => walk_at "lk"))
  | ((with_reducible refine' r_aug1 ?k1 ?k2 ?k3 ?k4 ?_); (case k1 => walk_at "hp"); (case k2 => assumption); (case k3 => assumption); (case k4 => walk_at "lk"))
  | with_reducible refine r_add ?_ | with_reducible refine r_sub ?_
  | ((with_reducible refine' r_meth1 ?k1 ?k2 ?_); (case k1 => walk_at "hp"); (case k2 => first | assumption | exact fz_no (by decide +kernel)))
  | ((with_reducible refine' r_ixT ?k1 ?k2 ?_); (case k1 => first | assumption | exact SqT.of (by walk_at "hp")); (case k2 => first | assumption | rfl)))
local macro_rules | `(tactic| walk_at "ss") => `(tactic| repeat walk_at "s")

theorem dWo_ok {x : Wo} (h : Plain x) : (dWo x).canLay0 = true ∧ (dWo x).depth = 1 := by
  refine ⟨?_, rfl⟩
  rcases h with h | ⟨h, _⟩ <;> (unfold dWo; rw [h]; simp only [PyData.canLay0, PyData.canLayAll0]; decide +kernel)
theorem wos_ok : ∀ {ws : List Wo}, (∀ x ∈ ws, Plain x) → PyData.canLayAll0 (ws.map dWo) = true ∧ PyData.depthAll (ws.map dWo) ≤ 1
  | [], _ => ⟨rfl, Nat.zero_le _⟩
  | x :: ws, h => by
    obtain ⟨a, b⟩ := dWo_ok (h x List.mem_cons_self)
    obtain ⟨c, d⟩ := wos_ok (ws := ws) fun y hy => h y (List.mem_cons_of_mem _ hy)
    constructor
    · show (PyData.canLay0 (dWo x) && PyData.canLayAll0 (ws.map dWo)) = true
      rw [a, c] <;> rfl
    · show max (PyData.depth (dWo x)) (PyData.depthAll (ws.map dWo)) ≤ 1
      rw [b]
      omega
theorem wos_shaped {ws : List Wo} (h : ∀ x ∈ ws, Plain x) : SeqAt.shaped (.list (ws.map dWo)) = true := by
  obtain ⟨a, b⟩ := wos_ok h
  unfold SeqAt.shaped
  have e1 : PyData.canLay0 (.list (ws.map dWo)) = true := by simp only [PyData.canLay0]; exact a
  have e2 : PyData.depth (.list (ws.map dWo)) = PyData.depthAll (ws.map dWo) + 1 := by simp only [PyData.depth]
  rw [e1, e2]
  simp
  omega
theorem wos_empty {ws : List Wo} : PyData.eqv (.list (ws.map dWo)) (.list []) = ws.isEmpty := by
  cases ws with
  | nil => rfl
  | cons x ws => simp [PyData.eqv, PyData.eqvAll]
/-- the house's own part, its chain open -/
structure PieX (C CE : Addr) (S : Nat) (H : Hp) (p : Addr) (F : Addr → Prop) (st : List Wo) (c : Pc) (cs : List Pc) : Prop where
  ho : ∃ (dx r d1 d2 d3 d4 dh dw dhi dto : Addr) (m1 m2 m3 : Int), H p = some (.ins C dx (FP.zip [.ref r, .ref d1, .ref d2, .ref d3, .ref d4, .ref dh, .ref dw, .int S, .int m1, .int m2, .int m3, .int st.length, .ref dhi, .ref dto, .ref c.a])) ∧
    H dh = some (.dT []) ∧ H dw = some (.lst []) ∧ F dh ∧ F dw ∧ ∀ d ∈ c :: cs, d.l ≠ dw
  ch : Chn H CE (c :: cs)
  na : ((c :: cs).map (·.a)).Nodup
  nl : ((c :: cs).map (·.l)).Nodup
  pa : ∀ d ∈ c :: cs, d.a ≠ p
  sz : ∀ d ∈ c :: cs, d.ws.length ≤ S
  ne : ∀ d ∈ cs, d.ws ≠ []
  fl : st = flat (c :: cs)
  fF : ∀ d ∈ c :: cs, F d.a ∧ F d.l
  s2 : 2 ≤ S ∧ S ≤ 64
  fp : F p
  liv : ∀ b, F b → H b ≠ none
  pl : ∀ x ∈ st, Plain x
def PieAt (C CE : Addr) (S : Nat) : AtT := fun H p F st => ∃ c cs, PieX C CE S H p F st c cs
theorem fp_no : ∀ m ∈ MN, m ∉ FP := by decide +kernel
section
variable {C CE : Addr} {S : Nat} {H H' : Hp} {p : Addr} {F : Addr → Prop} {st : List Wo} {c : Pc} {cs : List Pc}
theorem PieX.com (h : PieX C CE S H p F st c cs) : Com H C p := by
  obtain ⟨dx, r, d1, d2, d3, d4, dh, dw, dhi, dto, m1, m2, m3, hp, h1, h2, _⟩ := h.ho
  exact ⟨dx, _, dh, dw, hp, fun m hm => fz_no (fp_no m hm), FP_holding, h1, FP_waiting, h2⟩
theorem PieX.stay (h : PieX C CE S H p F st c cs) (k : ∀ b o, F b → H b = some o → H' b = some o) (t : ∀ b xs, H b = some (.tup xs) → H' b = some (.tup xs)) : PieX C CE S H' p F st c cs := by
  obtain ⟨dx, r, d1, d2, d3, d4, dh, dw, dhi, dto, m1, m2, m3, hp, h1, h2, f1, f2, nd⟩ := h.ho
  refine ⟨⟨dx, r, d1, d2, d3, d4, dh, dw, dhi, dto, m1, m2, m3, k _ _ h.fp hp, k _ _ f1 h1, k _ _ f2 h2, f1, f2, nd⟩, h.ch.keep t fun d hd => ⟨fun o e => k _ _ (h.fF d hd).1 e, fun o e => k _ _ (h.fF d hd).2 e⟩, h.na, h.nl, h.pa, h.sz, h.ne, h.fl, h.fF, h.s2, h.fp, fun b f => ?_, h.pl⟩
  cases e : H b with
  | none => exact absurd e (h.liv b f)
  | some o => rw [k b o f e]; exact fun z => nomatch z
theorem PieX.plc (h : PieX C CE S H p F st c cs) : ∀ x ∈ c.ws, Plain x := fun x hx => h.pl x (by rw [h.fl]; exact List.mem_append_left _ (List.mem_reverse.mpr hx))
theorem PieX.many (h : PieX C CE S H p F st c cs) : (c :: cs).length ≤ st.length + 1 := by
  have h1 := flat_len h.ne
  have e : st.length = c.ws.length + (flat cs).length := by rw [h.fl]; show (c.ws.reverse ++ flat cs).length = _; rw [List.length_append, List.length_reverse]
  rw [List.length_cons]
  omega
end
def spGoUp (C CE : Addr) (S : Nat) : Sp := fun vs H Q _ => ∃ (p : Addr) (F : Addr → Prop) (st : List Wo) (c : Pc) (cs : List Pc), vs = [.ref p] ∧ PieX C CE S H p F st c cs ∧ c.ws.length = S ∧ ∀ H' F' c' cs', Mv F H F' H' → PieX C CE S H' p F' st c' cs' → c'.ws.length < S → Q .non H'
def spGoDown (C CE : Addr) (S : Nat) : Sp := fun vs H Q _ => ∃ (p : Addr) (F : Addr → Prop) (st : List Wo) (c : Pc) (cs : List Pc), vs = [.ref p] ∧ PieX C CE S H p F st c cs ∧ c.ws = [] ∧ st ≠ [] ∧ ∀ H' F' c' cs', Mv F H F' H' → PieX C CE S H' p F' st c' cs' → c'.ws ≠ [] → Q .non H'
section
variable {P : Program} {w : World} {K : PySem.W.Frag} {mg : Str → Option Value} {base : Heap} {S : Nat}
theorem hcls_Pieces (T : Txt K w mg) : HCls K (He.ga K "Pieces") where
  cl := T.cl_Pieces
  nH := T.na_Pieces_holding
  nW := T.na_Pieces_waiting
  hold := let ⟨fd, F⟩ := T.f_Pieces_hold; ⟨_, fd, T.m_Pieces_hold, F⟩
  loose := let ⟨fd, F⟩ := T.f_Pieces_loose; ⟨_, fd, T.m_Pieces_loose, F⟩
  settle := let ⟨fd, F⟩ := T.f_Pieces_settle; ⟨_, fd, T.m_Pieces_settle, F⟩
  let_by := let ⟨fd, F⟩ := T.f_Pieces_let_by; ⟨_, fd, T.m_Pieces_let_by, F⟩
  let_place := let ⟨fd, F⟩ := T.f_Pieces_let_place; ⟨_, fd, T.m_Pieces_let_place, F⟩
  out := let ⟨fd, F⟩ := T.f_Pieces_out; ⟨_, fd, T.m_Pieces_out, F⟩
  put := let ⟨fd, F⟩ := T.f_Pieces_put; ⟨_, fd, T.m_Pieces_put, F⟩
  take := let ⟨fd, F⟩ := T.f_Pieces_take; ⟨_, fd, T.m_Pieces_take, F⟩
  lift := let ⟨fd, F⟩ := T.f_Pieces_lift; ⟨_, fd, T.m_Pieces_lift, F⟩
  look := let ⟨fd, F⟩ := T.f_Pieces_look; ⟨_, fd, T.m_Pieces_look, F⟩
  height := let ⟨fd, F⟩ := T.f_Pieces_height; ⟨_, fd, T.m_Pieces_height, F⟩
  pile := let ⟨fd, F⟩ := T.f_Pieces_pile; ⟨_, fd, T.m_Pieces_pile, F⟩
abbrev cP (K : PySem.W.Frag) : Addr := He.ga K "Pieces"
abbrev cE (K : PySem.W.Frag) : Addr := He.ga K "Piece"
theorem metP_tall (T : Txt K w mg) : Met P w K mg base 1 (cP K) "tall" (spTall (PieAt (cP K) (cE K) S)) [] := by
  obtain ⟨fd, F⟩ := T.f_Pieces_tall
  have cC := T.cl_Pieces; have n1 := T.na_Pieces_high
  refine ⟨_, fd, P_Pieces_tall, [], T.cl_Pieces, T.m_Pieces_tall, ?_, F.bindsN (fun _ _ _ _ _ _ us hl => match us, hl with | [_], _ => rfl), .nil⟩
  refine fd_ok F sc_Pieces_tall (fun vs H Q E h => ?_) (fun cdv A outer s H vs Q E hr h => ?_)
  · obtain ⟨p, F, st, rfl, _⟩ := h; rfl
  · obtain ⟨p, F, st, rfl, ⟨c, cs, h⟩, q⟩ := h
    obtain ⟨dx, r, d1, d2, d3, d4, dh, dw, dhi, dto, m1, m2, m3, hp, h1, h2, f1, f2, nd⟩ := h.ho
    refine ⟨_, (pss_one (ps_ret (pe_fld (pv 0) rfl))), ?_⟩
    walk_at "ss"
    exact q
theorem metP_whole (T : Txt K w mg) : Met P w K mg base 2 (cP K) "whole" (spWhole (PieAt (cP K) (cE K) S)) [] := by
  obtain ⟨fd, F⟩ := T.f_Pieces_whole
  have cC := T.cl_Pieces; have n1 := T.na_Pieces_above
  have c_pile_on : Cal P w K mg base 1 "pile_on" (spPileOn (cE K)) [] := cal_pile_on T
  refine ⟨_, fd, P_Pieces_whole, [], T.cl_Pieces, T.m_Pieces_whole, ?_, F.bindsN (fun _ _ _ _ _ _ us hl => match us, hl with | [_], _ => rfl), .nil⟩
  refine fd_ok F sc_Pieces_whole (fun vs H Q E h => ?_) (fun cdv A outer s H vs Q E hr h => ?_)
  · obtain ⟨p, F, st, rfl, _⟩ := h; rfl
  · obtain ⟨p, F, st, rfl, ⟨c, cs, h⟩, hl, q⟩ := h
    obtain ⟨dx, r, d1, d2, d3, d4, dh, dw, dhi, dto, m1, m2, m3, hp, h1, h2, f1, f2, nd⟩ := h.ho
    refine ⟨_, (pss_one (ps_ret (pe_c c_pile_on hr (by decide) rfl (pa_cons (pe_fld (pv 0) rfl) pa_nil)))), ?_⟩
    walk_at "ss"
    have hm := h.many
    have hfl := h.fl
    exact ⟨c :: cs, rfl, h.ch, by rw [← hfl]; exact hl, by omega, fun H' l us sm nl hl' wl => q H' l us sm nl hl' (by rw [hfl]; exact wl)⟩
theorem metP_at_depth (T : Txt K w mg) : Met P w K mg base 1 (cP K) "at_depth" (spAtDepth (PieAt (cP K) (cE K) S)) [] := by
  obtain ⟨fd, F⟩ := T.f_Pieces_at_depth
  have cC := T.cl_Pieces; have n1 := T.na_Pieces_above
  have cEE := T.cl_Piece; have n2 := T.na_Piece_under; have n3 := T.na_Piece_worths
  refine ⟨_, fd, P_Pieces_at_depth, [], T.cl_Pieces, T.m_Pieces_at_depth, ?_, F.bindsN (fun _ _ _ _ _ _ us hl => match us, hl with | [_, _], _ => rfl), .nil⟩
  refine fd_ok F sc_Pieces_at_depth (fun vs H Q E h => ?_) (fun cdv A outer s H vs Q E hr h => ?_)
  · obtain ⟨p, F, st, k, x, rfl, _⟩ := h; rfl
  · obtain ⟨p, F, st, k, x, rfl, ⟨c, cs, h⟩, hk, q⟩ := h
    obtain ⟨dx, r, d1, d2, d3, d4, dh, dw, dhi, dto, m1, m2, m3, hp, h1, h2, f1, f2, nd⟩ := h.ho
    refine ⟨_, (pss_cons (ps_set (i := 2) sc_Pieces_at_depth.nd rfl (Or.inl rfl) (pe_fld (pv 0) rfl))
      (pss_cons (ps_while PassesOwn.never (pt_cmpR op_ge (pv 1) (pe_callB call_len_seq (by rfl) T.b_len (by decide +kernel) (pa_cons (pe_fld (pv 2) rfl) pa_nil)) (nomark _)) (pss_cons (ps_aug (i := 1) sc_Pieces_at_depth.nd rfl (Or.inl rfl) (pe_callB call_len_seq (by rfl) T.b_len (by decide +kernel) (pa_cons (pe_fld (pv 2) rfl) pa_nil)) ip_sub)
      (pss_one (ps_set (i := 2) sc_Pieces_at_depth.nd rfl (Or.inl rfl) (pe_fld (pv 2) rfl)))))
      (pss_one (ps_ret (pe_ix ix_list (pe_fld (pv 2) rfl) (pe_op op_sub (pe_un un_neg pe_int) (pv 1)) (fun _ _ => rfl)))))), ?_⟩
    walk_at "ss"
    refine ⟨fun m σ H1 => ∃ (i k' : Nat), H1 = H ∧ m = (c :: cs).length - i ∧ σ = [some (.ref p), some (.int (k' : Int)), some (chV ((c :: cs).drop i))] ∧ (flat ((c :: cs).drop i))[k']? = some x, ⟨_, 0, k, rfl, rfl, rfl, by have e := h.fl; rw [e] at hk; exact hk⟩, ?_⟩
    rintro m σ H1 ⟨i, k', rfl, rfl, rfl, hk'⟩
    have hlt : i < (c :: cs).length := by
      apply Classical.byContradiction
      intro hn
      rw [List.drop_eq_nil_of_le (by omega)] at hk'
      simp [flat] at hk'
    have e0 : (c :: cs).drop i = (c :: cs)[i] :: (c :: cs).drop (i + 1) := List.drop_eq_getElem_cons hlt
    obtain ⟨g1, g2, g3⟩ := h.ch.at_ (List.getElem?_eq_getElem hlt)
    generalize (c :: cs)[i] = d at e0 g1 g2 g3
    rw [e0] at hk' ⊢
    walk_at "ss"
    refine r_fld1 (a := d.a) g1 cEE n3 FE_worths ?_
    walk_at "ss"
    refine ⟨d.l, d.us, rfl, .inl (SqL.of g2), ?_⟩
    walk_at "ss"
    have el := g3.length
    refine iteD (fun hge => ⟨_, fun _ _ n => n, ?_⟩) (fun hlt2 => ?_)
    · refine ⟨_, rfl, ?_⟩
      walk_at "ss"
      refine r_fld1 (a := d.a) g1 cEE n3 FE_worths ?_
      walk_at "ss"
      refine ⟨d.l, d.us, rfl, .inl (SqL.of g2), ?_⟩
      refine ⟨_, _, rfl, rfl, ?_⟩
      walk_at "ss"
      refine r_fld1 (a := d.a) g1 cEE n2 FE_under ?_
      walk_at "ss"
      refine ⟨(c :: cs).length - (i + 1), by omega, i + 1, k' - d.us.length, rfl, rfl, ?_, ?_⟩
      · have e1 : ((k' : Int) - (d.us.length : Int)) = ((k' - d.us.length : Nat) : Int) := by omega
        show [_, some (V.int ((k' : Int) - (d.us.length : Int))), _] = _
        rw [e1]
      · have e2 : flat (d :: (c :: cs).drop (i + 1)) = d.ws.reverse ++ flat ((c :: cs).drop (i + 1)) := rfl
        rw [e2, List.getElem?_append_right (by rw [List.length_reverse]; omega), List.length_reverse, ← el] at hk'
        exact hk'
    · have hk2 : k' < d.us.length := by omega
      walk_at "ss"
      refine r_fld1 (a := d.a) g1 cEE n3 FE_worths ?_
      walk_at "ss"
      refine ⟨1, rfl, ?_⟩
      walk_at "ss"
      have e2 : flat (d :: (c :: cs).drop (i + 1)) = d.ws.reverse ++ flat ((c :: cs).drop (i + 1)) := rfl
      rw [e2, List.getElem?_append_left (by rw [List.length_reverse]; omega)] at hk'
      have wr := g3.reverse
      obtain ⟨v, hv, wv⟩ := wr.get hk'
      exact r_ixL (SqL.of g2) (atI_back hv) (q v wv)
theorem metP_go_up (T : Txt K w mg) : Met P w K mg base 5 (cP K) "go_up" (spGoUp (cP K) (cE K) S) [] := by
  obtain ⟨fd, F⟩ := T.f_Pieces_go_up
  have cC := T.cl_Pieces; have n1 := T.na_Pieces_above; have n4 := T.na_Pieces_most; have n5 := T.na_Pieces_count_moved
  have cEE := T.cl_Piece; have n2 := T.na_Piece_under; have n3 := T.na_Piece_worths; have n6 := T.na_Piece_holders
  have m_run_on : Met P w K mg base 4 (cP K) "run_on" (spPieceOn (cP K) (cE K) 1) [] := metP_run_on T
  refine ⟨_, fd, P_Pieces_go_up, [], T.cl_Pieces, T.m_Pieces_go_up, ?_, F.bindsN (fun _ _ _ _ _ _ us hl => match us, hl with | [_], _ => rfl), .nil⟩
  refine fd_ok F sc_Pieces_go_up (fun vs H Q E h => ?_) (fun cdv A outer s H vs Q E hr h => ?_)
  · obtain ⟨p, F, st, c, cs, rfl, _⟩ := h; rfl
  · obtain ⟨p, F, st, c, cs, rfl, h, hS, q⟩ := h
    obtain ⟨dx, r, d1, d2, d3, d4, dh, dw, dhi, dto, m1, m2, m3, hp, h1, h2, f1, f2, nd⟩ := h.ho
    refine ⟨_, (pss_cons (ps_set (i := 1) sc_Pieces_go_up.nd rfl (Or.inl rfl) (pe_fld (pv 0) rfl))
      (pss_cons (ps_set (i := 2) sc_Pieces_go_up.nd rfl (Or.inl rfl) (pe_op op_sub (pe_fld (pv 0) rfl) (pe_op op_fdivW (pe_fld (pv 0) rfl) pe_int)))
      (pss_cons (ps_fld (pv 0) (pe_mt m_run_on hr (by decide) (pv 0) (pa_cons (pv 1) (pa_cons (pe_slice sl_list (pe_fld (pv 1) rfl) (po_some (pv 2)) po_none) pa_nil))) rfl)
      (pss_cons (ps_fld (pv 1) (pe_slice sl_list (pe_fld (pv 1) rfl) po_none (po_some (pv 2))) rfl)
      (pss_cons (ps_fldaug (pv 1) pe_int in_sub)
      (pss_one (ps_fldaug (pv 0) (pe_op op_fdivW (pe_fld (pv 0) rfl) pe_int) in_add))))))), ?_⟩
    obtain ⟨g1, g2, g3, g4⟩ := h.ch
    obtain ⟨s2, s64⟩ := h.s2
    have el := g3.length
    have ehalf : ((S : Int) - (S : Int) / 2) = ((S - S / 2 : Nat) : Int) := by omega
    have Fa := (h.fF c List.mem_cons_self).1
    have Fl := (h.fF c List.mem_cons_self).2
    walk_at "ss"
    refine r_I ⟨by decide, by decide⟩ ?_
    walk_at "ss"
    rw [ehalf]
    refine r_slL (SqL.of g2) fun p1 np1 => ?_
    rw [cutV_drop]
    have npp1 : p ≠ p1 := ne_of_none hp np1
    have nap1 : c.a ≠ p1 := ne_of_none g1 np1
    have mv1 : Mv F H (fun b => F b ∨ b = p1) (upd H p1 (.lst (c.us.drop (S - S / 2)))) := (Mv.refl F H).new np1
    refine ⟨p, p1, dx, c.a, c.dx, .ref c.a, chV cs, .ref c.l, 1, m1, FP, _, rfl, by rw [upd_ne npp1]; exact hp, rfl, FP_nd, fp_no, rfl, by decide, rfl, .inr ⟨rfl, h.pa c List.mem_cons_self, by rw [upd_ne nap1]; exact g1⟩, fun H2 x dx' nx hp2 hx2 ov2 kk => ?_⟩
    rcases ov2 with z | ⟨_, nap, hb2⟩
    · cases z
    have nax : c.a ≠ x := fun z => by rw [← z, upd_ne nap1, g1] at nx; cases nx
    have npx : p ≠ x := fun z => by rw [← z, upd_ne npp1, hp] at nx; cases nx
    have nx1 : x ≠ p1 := fun z => by rw [z, upd_same] at nx; cases nx
    have nx0 : H x = none := by rw [upd_ne nx1] at nx; exact nx
    have nal : c.a ≠ c.l := ne_of g1 g2 (by intro z; cases z)
    have npl : p ≠ c.l := ne_of hp g2 (by intro z; cases z)
    have k2 : ∀ b o, H b = some o → b ≠ p → b ≠ c.a → H2 b = some o := fun b o e nb nc => kk b o (by rw [upd_ne (ne_of_none e np1)]; exact e) nb (fun z => nc (by injection z with z; exact z.symm))
    have hl2 := k2 _ _ g2 npl.symm nal.symm
    have h2p1 : H2 p1 = some (.lst (c.us.drop (S - S / 2))) := kk p1 _ upd_same npp1.symm (fun z => nap1 (by injection z))
    walk_at "ss"
    refine r_putO 14 hp2 cC n1 rfl FP_nd rfl (by decide) ?_
    walk_at "ss"
    refine r_slL (SqL.of (by rw [upd_ne npl.symm]; exact hl2)) fun p2 np2 => ?_
    rw [cutV_take]
    have npp2 : p ≠ p2 := fun z => by rw [← z, upd_same] at np2; cases np2
    rw [upd_ne npp2.symm] at np2
    have nap2 : c.a ≠ p2 := ne_of_none hb2 np2
    have nxp2 : x ≠ p2 := ne_of_none hx2 np2
    have np12 : p1 ≠ p2 := ne_of_none h2p1 np2
    have np20 : H p2 = none := by
      cases e : H p2 with
      | none => rfl
      | some o =>
        have := k2 p2 o e npp2.symm nap2.symm
        rw [np2] at this; cases this
    walk_at "ss"
    refine r_putO 1 (by rw [upd_ne nap2, upd_ne nap]; exact hb2) cEE n3 rfl FE_nd rfl (by decide) ?_
    walk_at "ss"
    refine r_aug1 upd_same cEE n6 FE_holders ?_
    walk_at "ss"
    refine r_st1 2 upd_same rfl FE_nd rfl (by decide) ?_
    rw [upd_upd]
    walk_at "ss"
    have hp5 : ∀ o1 o2 o3, (upd (upd (upd H2 p o1) p2 o2) c.a o3) p = some o1 := fun o1 o2 o3 => by rw [upd_ne nap.symm, upd_ne npp2, upd_same]
    refine r_aug1 (hp5 _ _ _) cC n5 FP_count_moved ?_
    walk_at "ss"
    refine r_fld1 (hp5 _ _ _) cC n4 FP_most ?_
    walk_at "ss"
    refine r_I ⟨by decide, by decide⟩ ?_
    walk_at "ss"
    refine r_st1 10 (hp5 _ _ _) rfl FP_nd rfl (by decide) ?_
    walk_at "ss"
    generalize eH : upd (upd (upd (upd H2 p _) p2 _) c.a _) p _ = H5
    have a1 : H5 p = some (.ins (cP K) dx (FP.zip [.ref r, .ref d1, .ref d2, .ref d3, .ref d4, .ref dh, .ref dw, .int S, .int (m1 + 1), .int m2, .int (m3 + (S : Int) / 2), .int st.length, .ref dhi, .ref dto, .ref x])) := by rw [← eH, upd_same]; rfl
    have a2 : H5 c.a = some (.ins (cE K) c.dx (FE.zip [chV cs, .ref p2, .int 1])) := by rw [← eH, upd_ne nap, upd_same]; rfl
    have a3 : H5 p2 = some (.lst (c.us.take (S - S / 2))) := by rw [← eH, upd_ne npp2.symm, upd_ne nap2.symm, upd_same]
    have a4 : H5 p1 = some (.lst (c.us.drop (S - S / 2))) := by rw [← eH, upd_ne npp1.symm, upd_ne nap1.symm, upd_ne np12, upd_ne npp1.symm]; exact h2p1
    have a5 : H5 x = some (.ins (cE K) dx' (FE.zip [.ref c.a, .ref p1, .int 1])) := by rw [← eH, upd_ne npx.symm, upd_ne nax.symm, upd_ne nxp2, upd_ne npx.symm]; exact hx2
    have k5 : ∀ b o, H b = some o → b ≠ p → b ≠ c.a → H5 b = some o := fun b o e nb nc => by
      rw [← eH, upd_ne nb, upd_ne nc, upd_ne (ne_of_none e np20), upd_ne nb]; exact k2 b o e nb nc
    clear eH
    have tp : ∀ b xs, H b = some (.tup xs) → H5 b = some (.tup xs) := fun b xs e => k5 b _ e (ne_of e hp (by intro z; cases z)) (ne_of e g1 (by intro z; cases z))
    have mv : Mv F H (fun b => F b ∨ b = p1 ∨ b = x ∨ b = p2) H5 := by
      refine ⟨fun b o e nf => k5 b o e (fun z : b = p => nf (by rw [z]; exact h.fp)) (fun z : b = c.a => nf (by rw [z]; exact Fa)), tp, ?_, fun b hb => ?_⟩
      · rintro b (fb | rfl | rfl | rfl)
        · exact .inl fb
        · exact .inr np1
        · exact .inr nx0
        · exact .inr np20
      · by_cases e1 : b = p
        · rw [e1, a1]; exact fun z => nomatch z
        · by_cases e2 : b = c.a
          · rw [e2, a2]; exact fun z => nomatch z
          · cases e : H b with
            | none => exact absurd e hb
            | some o => rw [k5 b o e e1 e2]; exact fun z => nomatch z
    have nac : ∀ d ∈ cs, d.a ≠ c.a := fun d hd z => (List.nodup_cons.mp h.na).1 (List.mem_map.mpr ⟨d, hd, z⟩)
    have hw : ∀ d ∈ cs, (∃ o fs, H d.a = some (.ins (cE K) o fs)) ∧ ∃ us, H d.l = some (.lst us) := fun d hd => by
      obtain ⟨i, hi, e⟩ := List.mem_iff_getElem.mp hd
      obtain ⟨y1, y2, _⟩ := g4.at_ (i := i) (c := d) (by rw [List.getElem?_eq_getElem hi, e])
      exact ⟨⟨_, _, y1⟩, _, y2⟩
    have hlen : (c.ws.drop (S - S / 2)).length < S := by rw [List.length_drop]; omega
    refine q H5 _ ⟨x, dx', p1, c.us.drop (S - S / 2), c.ws.drop (S - S / 2)⟩ (⟨c.a, c.dx, p2, c.us.take (S - S / 2), c.ws.take (S - S / 2)⟩ :: cs) mv ?_ hlen
    refine ⟨⟨dx, r, d1, d2, d3, d4, dh, dw, dhi, dto, m1 + 1, m2, m3 + (S : Int) / 2, a1, k5 _ _ h1 (ne_of h1 hp (by intro z; cases z)) (ne_of h1 g1 (by intro z; cases z)), k5 _ _ h2 (ne_of h2 hp (by intro z; cases z)) (ne_of h2 g1 (by intro z; cases z)), .inl f1, .inl f2, ?_⟩, ?_, ?_, ?_, ?_, ?_, ?_, ?_, ?_, h.s2, .inl h.fp, ?_, h.pl⟩
    · intro d hd
      rcases List.mem_cons.mp hd with rfl | hd
      · exact (ne_of_none h2 np1).symm
      · rcases List.mem_cons.mp hd with rfl | hd
        · exact (ne_of_none h2 np20).symm
        · exact nd d (List.mem_cons_of_mem _ hd)
    · refine ⟨a5, a4, (g3.drop _).keep tp, a2, a3, (g3.take _).keep tp, g4.keep tp fun d hd => ?_⟩
      obtain ⟨⟨o1, o2, y1⟩, us, y2⟩ := hw d hd
      exact ⟨fun o e => k5 _ o e (h.pa d (List.mem_cons_of_mem _ hd)) (nac d hd), fun o e => k5 _ o e (ne_of y2 hp (by intro z; cases z)) (ne_of y2 g1 (by intro z; cases z))⟩
    · show (x :: c.a :: cs.map (·.a)).Nodup
      refine List.nodup_cons.mpr ⟨fun hm => ?_, h.na⟩
      rcases List.mem_cons.mp hm with z | hm
      · exact nax z.symm
      · obtain ⟨d, hd, e⟩ := List.mem_map.mp hm
        obtain ⟨⟨o1, o2, y1⟩, us, y2⟩ := hw d hd
        exact ne_of_none y1 nx0 e
    · show (p1 :: p2 :: cs.map (·.l)).Nodup
      have hh : ∀ y ∈ cs.map (·.l), ∃ us, H y = some (.lst us) := fun y hy => by
        obtain ⟨d, hd, e⟩ := List.mem_map.mp hy
        rw [← e]; exact (hw d hd).2
      refine List.nodup_cons.mpr ⟨fun hm => ?_, List.nodup_cons.mpr ⟨fun hm => ?_, (List.nodup_cons.mp h.nl).2⟩⟩
      · rcases List.mem_cons.mp hm with z | hm
        · exact np12 z
        · obtain ⟨us, e⟩ := hh _ hm
          rw [np1] at e; cases e
      · obtain ⟨us, e⟩ := hh _ hm
        rw [np20] at e; cases e
    · intro d hd
      rcases List.mem_cons.mp hd with rfl | hd
      · exact npx.symm
      · rcases List.mem_cons.mp hd with rfl | hd
        · exact nap
        · exact h.pa d (List.mem_cons_of_mem _ hd)
    · intro d hd
      rcases List.mem_cons.mp hd with rfl | hd
      · exact Nat.le_of_lt hlen
      · rcases List.mem_cons.mp hd with rfl | hd
        · show (c.ws.take (S - S / 2)).length ≤ S
          rw [List.length_take]; omega
        · exact h.sz d (List.mem_cons_of_mem _ hd)
    · intro d hd
      rcases List.mem_cons.mp hd with rfl | hd
      · intro z
        have e : (c.ws.take (S - S / 2)).length = 0 := by show (c.ws.take (S - S / 2)).length = 0; rw [show c.ws.take (S - S / 2) = [] from z]; rfl
        rw [List.length_take] at e
        omega
      · exact h.ne d hd
    · rw [h.fl]
      show c.ws.reverse ++ flat cs = (c.ws.drop (S - S / 2)).reverse ++ ((c.ws.take (S - S / 2)).reverse ++ flat cs)
      rw [← List.append_assoc, ← List.reverse_append, List.take_append_drop]
    · intro d hd
      rcases List.mem_cons.mp hd with rfl | hd
      · exact ⟨.inr (.inr (.inl rfl)), .inr (.inl rfl)⟩
      · rcases List.mem_cons.mp hd with rfl | hd
        · exact ⟨.inl Fa, .inr (.inr (.inr rfl))⟩
        · exact ⟨.inl (h.fF d (List.mem_cons_of_mem _ hd)).1, .inl (h.fF d (List.mem_cons_of_mem _ hd)).2⟩
    · rintro b (fb | rfl | rfl | rfl)
      · exact mv.liv b (h.liv b fb)
      · rw [a4]; exact fun z => nomatch z
      · rw [a5]; exact fun z => nomatch z
      · rw [a3]; exact fun z => nomatch z
end
end MG

namespace MG
open PySem PySem.Spec PyProof.Rows L2
local macro_rules | `(tactic| walk_at "ne") => `(tactic| first | assumption | exact Ne.symm (by assumption) | exact ne_of_none (by assumption) (by assumption) | exact (ne_of_none (by assumption) (by assumption)).symm)
local macro_rules | `(tactic| walk_at "hp") => `(tactic| first | assumption | exact upd_same | (refine (upd_ne ?k1).trans ?k2; (case k1 => walk_at "ne"); (case k2 => walk_at "hp")))
local macro_rules | `(tactic| walk_at "lk") => `(tactic| first | assumption | with_reducible exact FE_under | with_reducible exact FE_worths | with_reducible exact FE_holders | with_reducible exact FC_running | with_reducible exact FC_wholes | with_reducible exact FC_places | with_reducible exact FC_in_box | with_reducible exact FC_on_peg | with_reducible exact FC_holding | with_reducible exact FC_waiting | with_reducible exact FP_running | with_reducible exact FP_wholes | with_reducible exact FP_places | with_reducible exact FP_in_box | with_reducible exact FP_on_peg | with_reducible exact FP_holding | with_reducible exact FP_waiting | with_reducible exact FP_most | with_reducible exact FP_count_made | with_reducible exact FP_count_handed | with_reducible exact FP_count_moved | with_reducible exact FP_high | with_reducible exact FP_highs | with_reducible exact FP_tops | with_reducible exact FP_above)
/-- one step of a reading that needs nothing but what is written -/
local macro_rules | `(tactic| walk_at "s") => `(tactic| first
  | with_reducible refine r_seq ?_ | with_reducible refine r_next ?_ | with_reducible refine r_set ?_ | with_reducible refine r_asg ?_ | with_reducible refine r_drop ?_ | with_reducible refine r_ret ?_ | with_reducible refine r_retN ?_ | with_reducible refine r_ifs ?_
  | ((with_reducible refine' r_var ?k1 ?_); (case k1 => exact rfl))
  | with_reducible refine r_c ?_ | with_reducible refine r_op ?_ | with_reducible refine r_un ?_ | with_reducible refine r_fld ?_ | with_reducible refine r_sfld ?_ | with_reducible refine r_saug ?_
  | with_reducible refine r_call ?_ | with_reducible refine r_make ?_ | with_reducible refine r_meth ?_ | with_reducible refine r_nil ?_ | with_reducible refine r_cons ?_ | with_reducible refine r_tup ?_ | with_reducible refine r_lst ?_ | with_reducible refine r_cb ?_ | with_reducible refine r_bm ?_ | with_reducible refine r_bm0 ?_
  | with_reducible refine r_tb ?_ | with_reducible refine r_test ?_ | with_reducible refine r_bl ?_ | with_reducible refine r_not ?_ | with_reducible refine r_and ?_ | with_reducible refine r_or ?_ | with_reducible refine r_andV ?_ | with_reducible refine r_orV ?_ | with_reducible refine r_notV ?_
  | with_reducible refine r_I0 ?_ | with_reducible refine r_eqI ?_ | with_reducible refine r_neI ?_ | with_reducible refine r_eqS ?_ | with_reducible refine r_neS ?_ | with_reducible refine r_eqB ?_ | with_reducible refine r_neB ?_
  | with_reducible refine r_gname ?_ | with_reducible refine r_forRev ?_ | with_reducible refine r_forL ?_ | with_reducible refine r_forR1 ?_ | with_reducible refine r_sl ?_ | with_reducible refine r_part ?_ | with_reducible refine r_int ?_ | with_reducible refine r_nopart ?_
  | with_reducible refine r_din ?_ | with_reducible refine r_dnin ?_ | with_reducible refine r_gsub ?_
  | ((with_reducible refine' r_fld1 ?k1 ?k2 ?k3 ?k4 ?_); (case k1 => walk_at "hp"); (case k2 => assumption); (case k3 => assumption); (case k4 => walk_at "lk"))
  | ((with_reducible refine' r_aug1 ?k1 ?k2 ?k3 ?k4 ?_); (case k1 => walk_at "hp"); (case k2 => assumption); (case k3 => assumption); (case k4 => walk_at "lk"))
  | with_reducible refine r_add ?_ | with_reducible refine r_sub ?_
  | ((with_reducible refine' r_meth1 ?k1 ?k2 ?_); (case k1 => walk_at "hp"); (case k2 => first | assumption | exact fz_no (by decide +kernel)))
  | ((with_reducible refine' r_ixT ?k1 ?k2 ?_); (case k1 => first | assumption | exact SqT.of (by walk_at "hp")); (case k2 => first | assumption | rfl)))
local macro_rules | `(tactic| walk_at "ss") => `(tactic| repeat walk_at "s")

theorem Chn.mem {H : Hp} {CE : Addr} {cs : List Pc} (h : Chn H CE cs) {d : Pc} (hd : d ∈ cs) : (∃ fs, H d.a = some (.ins CE d.dx fs)) ∧ H d.l = some (.lst d.us) ∧ WL H d.us d.ws := by
  obtain ⟨i, hi, e⟩ := List.mem_iff_getElem.mp hd
  obtain ⟨y1, y2, y3⟩ := h.at_ (i := i) (c := d) (by rw [List.getElem?_eq_getElem hi, e])
  exact ⟨⟨_, y1⟩, y2, y3⟩
theorem r_cut {t u : TS} {D : Ends} {σ : L2.St} {H : Hp} (Mid : L2.St → Hp → Prop) (h : t { D with nx := Mid } σ H) (q : ∀ σ' H', Mid σ' H' → u D σ' H') : C8.tCut t u D σ H := ⟨Mid, h, q⟩
section
variable {P : Program} {w : World} {K : PySem.W.Frag} {mg : Str → Option Value} {base : Heap} {S : Nat}
/-- the running piece's list, and the height, changed: what is right behind it -/
theorem PieX.chg {H : Hp} {p : Addr} {F : Addr → Prop} {st st' : List Wo} {c : Pc} {cs : List Pc} (h : PieX (cP K) (cE K) S H p F st c cs) {us : List V} {ws : List Wo} {H' : Hp}
    (hl : H' c.l = some (.lst us)) (hp' : ∀ dx r d1 d2 d3 d4 dh dw dhi dto (m1 m2 m3 : Int), H p = some (.ins (cP K) dx (FP.zip [.ref r, .ref d1, .ref d2, .ref d3, .ref d4, .ref dh, .ref dw, .int S, .int m1, .int m2, .int m3, .int st.length, .ref dhi, .ref dto, .ref c.a])) →
      H' p = some (.ins (cP K) dx (FP.zip [.ref r, .ref d1, .ref d2, .ref d3, .ref d4, .ref dh, .ref dw, .int S, .int m1, .int m2, .int m3, .int st'.length, .ref dhi, .ref dto, .ref c.a])))
    (k : ∀ b o, H b = some o → b ≠ p → b ≠ c.l → H' b = some o) (wl : WL H' us ws) (sz : ws.length ≤ S) (fl : st' = ws.reverse ++ flat cs) (pl : ∀ x ∈ st', Plain x) :
    PieX (cP K) (cE K) S H' p F st' ⟨c.a, c.dx, c.l, us, ws⟩ cs ∧ Mv F H F H' := by
  obtain ⟨dx, r, d1, d2, d3, d4, dh, dw, dhi, dto, m1, m2, m3, hp, h1, h2, f1, f2, nd⟩ := h.ho
  obtain ⟨g1, g2, g3, g4⟩ := h.ch
  have Fl := (h.fF c List.mem_cons_self).2
  have tp : ∀ b xs, H b = some (.tup xs) → H' b = some (.tup xs) := fun b xs e => k b _ e (ne_of e hp (by intro z; cases z)) (ne_of e g2 (by intro z; cases z))
  have mv : Mv F H F H' := ⟨fun b o e nf => k b o e (fun z : b = p => nf (by rw [z]; exact h.fp)) (fun z : b = c.l => nf (by rw [z]; exact Fl)), tp, fun _ f => .inl f, fun b hb => by
    by_cases e1 : b = p
    · rw [e1, hp' _ _ _ _ _ _ _ _ _ _ _ _ _ hp]; exact fun z => nomatch z
    · by_cases e2 : b = c.l
      · rw [e2, hl]; exact fun z => nomatch z
      · cases e : H b with
        | none => exact absurd e hb
        | some o => rw [k b o e e1 e2]; exact fun z => nomatch z⟩
  have nlc : ∀ d ∈ cs, d.l ≠ c.l := fun d hd z => (List.nodup_cons.mp h.nl).1 (List.mem_map.mpr ⟨d, hd, z⟩)
  refine ⟨⟨⟨dx, r, d1, d2, d3, d4, dh, dw, dhi, dto, m1, m2, m3, hp' _ _ _ _ _ _ _ _ _ _ _ _ _ hp, k _ _ h1 (ne_of h1 hp (by intro z; cases z)) (ne_of h1 g2 (by intro z; cases z)), k _ _ h2 (ne_of h2 hp (by intro z; cases z)) (nd c List.mem_cons_self).symm, f1, f2, ?_⟩, ?_, ?_, ?_, ?_, ?_, h.ne, fl, ?_, h.s2, h.fp, fun b fb => mv.liv b (h.liv b fb), pl⟩, mv⟩
  · intro d hd
    rcases List.mem_cons.mp hd with rfl | hd
    · exact nd c List.mem_cons_self
    · exact nd d (List.mem_cons_of_mem _ hd)
  · refine ⟨k _ _ g1 (h.pa c List.mem_cons_self) (ne_of g1 g2 (by intro z; cases z)), hl, wl, g4.keep tp fun d hd => ?_⟩
    obtain ⟨⟨fs, y1⟩, y2, _⟩ := g4.mem hd
    exact ⟨fun o e => k _ o e (h.pa d (List.mem_cons_of_mem _ hd)) (ne_of y1 g2 (by intro z; cases z)), fun o e => k _ o e (ne_of y2 hp (by intro z; cases z)) (nlc d hd)⟩
  · exact h.na
  · exact h.nl
  · intro d hd
    rcases List.mem_cons.mp hd with rfl | hd
    · exact h.pa c List.mem_cons_self
    · exact h.pa d (List.mem_cons_of_mem _ hd)
  · intro d hd
    rcases List.mem_cons.mp hd with rfl | hd
    · exact sz
    · exact h.sz d (List.mem_cons_of_mem _ hd)
  · intro d hd
    rcases List.mem_cons.mp hd with rfl | hd
    · exact h.fF c List.mem_cons_self
    · exact h.fF d (List.mem_cons_of_mem _ hd)
theorem metP_lay_on (T : Txt K w mg) : Met P w K mg base 6 (cP K) "lay_on" (spLayOn (PieAt (cP K) (cE K) S)) [] := by
  obtain ⟨fd, F⟩ := T.f_Pieces_lay_on
  have cC := T.cl_Pieces; have n1 := T.na_Pieces_above; have n4 := T.na_Pieces_most; have n5 := T.na_Pieces_high
  have cEE := T.cl_Piece; have n2 := T.na_Piece_under; have n3 := T.na_Piece_worths; have n6 := T.na_Piece_holders
  have m_go_up : Met P w K mg base 5 (cP K) "go_up" (spGoUp (cP K) (cE K) S) [] := metP_go_up T
  have m_hold : Met P w K mg base 2 (cP K) "hold" (spQuiet (cP K)) [] := met_hold T (hcls_Pieces T)
  refine ⟨_, fd, P_Pieces_lay_on, [], T.cl_Pieces, T.m_Pieces_lay_on, ?_, F.bindsN (fun _ _ _ _ _ _ us hl => match us, hl with | [_, _], _ => rfl), .nil⟩
  refine fd_ok F sc_Pieces_lay_on (fun vs H Q E h => ?_) (fun cdv A outer s H vs Q E hr h => ?_)
  · obtain ⟨p, F, st, t, x, rfl, _⟩ := h; rfl
  · obtain ⟨p, F, st, t, x, rfl, ⟨c, cs, h⟩, ht, hx, hl, q⟩ := h
    obtain ⟨dx, r, d1, d2, d3, d4, dh, dw, dhi, dto, m1, m2, m3, hp, h1, h2, f1, f2, nd⟩ := h.ho
    obtain ⟨g1, g2, g3, g4⟩ := h.ch
    have el := g3.length
    have szc := h.sz c List.mem_cons_self
    refine ⟨_, (C8.pss_cut (ps_if (pt_cmpR op_eq (pe_callB call_len_seq (by rfl) T.b_len (by decide +kernel) (pa_cons (pe_fld (pe_fld (pv 0) rfl) rfl) pa_nil)) (pe_fld (pv 0) rfl) (nomark _)) (pss_one (ps_expr (pe_mt0 m_go_up hr (by decide) (pv 0)))) pss_nil)
      (pss_cons (ps_expr (pe_bm PySem.F.plainAttrs_list PySem.F.slot_list_append PySem.F.type_list_append mt_append (pe_fld (pe_fld (pv 0) rfl) rfl) (pa_cons (pv 1) pa_nil)))
      (pss_cons (ps_fldaug (pv 0) pe_int in_add)
      (pss_one (ps_expr (pe_mt m_hold hr (by decide) (pv 0) (pa_cons (pv 1) pa_nil))))))), ?_⟩
    refine r_cut (fun σ H1 => ∃ F1 c1 cs1, σ = start N_Pieces_lay_on [.ref p, .ref t] ∧ Mv F H F1 H1 ∧ PieX (cP K) (cE K) S H1 p F1 st c1 cs1 ∧ c1.ws.length < S) ?_ ?_
    · walk_at "ss"
      refine ⟨c.l, c.us, rfl, .inl (SqL.of g2), ?_⟩
      walk_at "ss"
      refine iteD (fun e => ?_) (fun e => ?_)
      · walk_at "ss"
        exact ⟨p, F, st, c, cs, rfl, h, by omega, fun H' F' c' cs' mv h' hlt => ⟨F', c', cs', rfl, mv, h', hlt⟩⟩
      · walk_at "ss"
        exact ⟨F, c, cs, rfl, Mv.refl F H, h, by omega⟩
    · rintro σ H1 ⟨F1, c1, cs1, rfl, mv, h', hlt⟩
      clear nd h2 h1 hp g1 g2 g3 g4
      obtain ⟨dx, r, d1, d2, d3, d4, dh, dw, dhi, dto, m1, m2, m3, hp, h1, h2, f1, f2, nd⟩ := h'.ho
      obtain ⟨g1, g2, g3, g4⟩ := h'.ch
      have ht1 := mv.tup _ _ ht
      walk_at "ss"
      refine ⟨tyL g2, ?_⟩
      walk_at "ss"
      refine r_append g2 (small5 (by rw [g3.length]; have := h'.s2; omega)) ?_
      have npl : p ≠ c1.l := ne_of hp g2 (by intro z; cases z)
      walk_at "ss"
      refine r_st1 11 (by rw [upd_ne npl]; exact hp) rfl FP_nd rfl (by decide) ?_
      walk_at "ss"
      have tp : ∀ b xs, H1 b = some (.tup xs) → (upd (upd H1 c1.l (.lst (c1.us ++ [.ref t]))) p (.ins (cP K) dx (FP.zip [.ref r, .ref d1, .ref d2, .ref d3, .ref d4, .ref dh, .ref dw, .int S, .int m1, .int m2, .int m3, .int ((st.length : Int) + 1), .ref dhi, .ref dto, .ref c1.a]))) b = some (.tup xs) := fun b xs e => by
          rw [upd_ne (ne_of e hp (by intro z; cases z)), upd_ne (ne_of e g2 (by intro z; cases z))]; exact e
      obtain ⟨hx', mv'⟩ := h'.chg (st' := x :: st) (us := c1.us ++ [.ref t]) (ws := c1.ws ++ [x]) (H' := upd (upd H1 c1.l (.lst (c1.us ++ [.ref t]))) p (.ins (cP K) dx (FP.zip [.ref r, .ref d1, .ref d2, .ref d3, .ref d4, .ref dh, .ref dw, .int S, .int m1, .int m2, .int m3, .int ((st.length : Int) + 1), .ref dhi, .ref dto, .ref c1.a])))
        (by rw [upd_ne npl.symm, upd_same]) (fun dx' r' d1' d2' d3' d4' dh' dw' dhi' dto' m1' m2' m3' e => by rw [hp] at e; cases e; rw [upd_same]; rfl) (fun b o e nb nc => by rw [upd_ne nb, upd_ne nc]; exact e) ((g3.keep tp).append (.one ⟨t, rfl, tp _ _ ht1⟩)) (by rw [List.length_append]; exact hlt) (by rw [h'.fl, List.reverse_append]; rfl) (fun y hy => by
          rcases List.mem_cons.mp hy with rfl | hy
          · exact hx
          · exact h'.pl y hy)
      refine ⟨p, t, x, rfl, hx'.com, mv'.tup _ _ ht1, hx, ?_⟩
      exact q _ F1 (mv.trans mv') ⟨_, _, hx'⟩
theorem metP_go_down (T : Txt K w mg) : Met P w K mg base 1 (cP K) "go_down" (spGoDown (cP K) (cE K) S) [] := by
  obtain ⟨fd, F⟩ := T.f_Pieces_go_down
  have cC := T.cl_Pieces; have n1 := T.na_Pieces_above; have n4 := T.na_Pieces_count_handed
  have cEE := T.cl_Piece; have n2 := T.na_Piece_under; have n3 := T.na_Piece_worths; have n6 := T.na_Piece_holders
  refine ⟨_, fd, P_Pieces_go_down, [], T.cl_Pieces, T.m_Pieces_go_down, ?_, F.bindsN (fun _ _ _ _ _ _ us hl => match us, hl with | [_], _ => rfl), .nil⟩
  refine fd_ok F sc_Pieces_go_down (fun vs H Q E h => ?_) (fun cdv A outer s H vs Q E hr h => ?_)
  · obtain ⟨p, F, st, c, cs, rfl, _⟩ := h; rfl
  · obtain ⟨p, F, st, c, cs, rfl, h, e0, hne, q⟩ := h
    obtain ⟨dx, r, d1, d2, d3, d4, dh, dw, dhi, dto, m1, m2, m3, hp, h1, h2, f1, f2, nd⟩ := h.ho
    obtain ⟨g1, g2, g3, g4⟩ := h.ch
    refine ⟨_, (pss_cons (ps_set (i := 1) sc_Pieces_go_down.nd rfl (Or.inl rfl) (pe_fld (pe_fld (pv 0) rfl) rfl))
      (pss_cons (ps_if (pt_cmpR op_eq (pe_fld (pv 1) rfl) pe_int (nomark _)) (pss_cons (ps_fldaug (pv 0) pe_int in_add)
      (pss_cons (ps_fld (pv 0) (pv 1) rfl)
      (pss_one ps_retN))) pss_nil)
      (pss_cons ps_never
      (pss_cons ps_never
      (pss_cons ps_never
      (pss_cons ps_never
      (pss_cons ps_never
      (pss_cons ps_never
      (pss_one ps_never))))))))), ?_⟩
    cases cs with
    | nil =>
      have e := h.fl
      rw [show flat [c] = c.ws.reverse ++ [] from rfl, e0] at e
      exact absurd e hne
    | cons d cs =>
      obtain ⟨y1, y2, y3, y4⟩ := id g4
      have nap : c.a ≠ p := h.pa c List.mem_cons_self
      have ndp : d.a ≠ p := h.pa d (List.mem_cons_of_mem _ List.mem_cons_self)
      walk_at "ss"
      refine r_fld1 (a := d.a) y1 cEE n6 FE_holders ?_
      walk_at "ss"
      refine iteT ?_
      walk_at "ss"
      refine r_st1 9 hp rfl FP_nd rfl (by decide) ?_
      walk_at "ss"
      refine r_putO 14 upd_same cC n1 rfl FP_nd rfl (by decide) ?_
      rw [upd_upd]
      walk_at "ss"
      generalize eH : upd H p _ = H'
      have a1 : H' p = some (.ins (cP K) dx (FP.zip [.ref r, .ref d1, .ref d2, .ref d3, .ref d4, .ref dh, .ref dw, .int S, .int m1, .int (m2 + 1), .int m3, .int st.length, .ref dhi, .ref dto, .ref d.a])) := by rw [← eH, upd_same]; rfl
      have k : ∀ b o, H b = some o → b ≠ p → H' b = some o := fun b o e nb => by rw [← eH, upd_ne nb]; exact e
      clear eH
      have tp : ∀ b xs, H b = some (.tup xs) → H' b = some (.tup xs) := fun b xs e => k b _ e (ne_of e hp (by intro z; cases z))
      have mv : Mv F H F H' := ⟨fun b o e nf => k b o e (fun z : b = p => nf (by rw [z]; exact h.fp)), tp, fun _ f => .inl f, fun b hb => by
        by_cases e1 : b = p
        · rw [e1, a1]; exact fun z => nomatch z
        · cases e : H b with
          | none => exact absurd e hb
          | some o => rw [k b o e e1]; exact fun z => nomatch z⟩
      refine q H' F d cs mv ?_ (h.ne d List.mem_cons_self)
      refine ⟨⟨dx, r, d1, d2, d3, d4, dh, dw, dhi, dto, m1, m2 + 1, m3, a1, k _ _ h1 (ne_of h1 hp (by intro z; cases z)), k _ _ h2 (ne_of h2 hp (by intro z; cases z)), f1, f2, fun d' hd => nd d' (List.mem_cons_of_mem _ hd)⟩, ?_, (List.nodup_cons.mp h.na).2, (List.nodup_cons.mp h.nl).2, fun d' hd => h.pa d' (List.mem_cons_of_mem _ hd), fun d' hd => h.sz d' (List.mem_cons_of_mem _ hd), fun d' hd => h.ne d' (List.mem_cons_of_mem _ hd), ?_, fun d' hd => h.fF d' (List.mem_cons_of_mem _ hd), h.s2, h.fp, fun b fb => mv.liv b (h.liv b fb), h.pl⟩
      · exact g4.keep tp fun d' hd => by
          obtain ⟨⟨fs, z1⟩, z2, _⟩ := g4.mem hd
          exact ⟨fun o e => k _ o e (h.pa d' (List.mem_cons_of_mem _ hd)), fun o e => k _ o e (ne_of z2 hp (by intro z; cases z))⟩
      · rw [h.fl]
        show c.ws.reverse ++ flat (d :: cs) = flat (d :: cs)
        rw [e0] <;> rfl
theorem metP_lift_off (T : Txt K w mg) : Met P w K mg base 2 (cP K) "lift_off" (spLiftOff (PieAt (cP K) (cE K) S)) [] := by
  obtain ⟨fd, F⟩ := T.f_Pieces_lift_off
  have cC := T.cl_Pieces; have n1 := T.na_Pieces_above; have n5 := T.na_Pieces_high
  have cEE := T.cl_Piece; have n2 := T.na_Piece_under; have n3 := T.na_Piece_worths; have n6 := T.na_Piece_holders
  have m_go_down : Met P w K mg base 1 (cP K) "go_down" (spGoDown (cP K) (cE K) S) [] := metP_go_down T
  have m_loose : Met P w K mg base 1 (cP K) "loose" (spQuiet (cP K)) [] := met_loose T (hcls_Pieces T)
  refine ⟨_, fd, P_Pieces_lift_off, [], T.cl_Pieces, T.m_Pieces_lift_off, ?_, F.bindsN (fun _ _ _ _ _ _ us hl => match us, hl with | [_], _ => rfl), .nil⟩
  refine fd_ok F sc_Pieces_lift_off (fun vs H Q E h => ?_) (fun cdv A outer s H vs Q E hr h => ?_)
  · obtain ⟨p, F, x, st, rfl, _⟩ := h; rfl
  · obtain ⟨p, F, x, st, rfl, ⟨c, cs, h⟩, hl, q⟩ := h
    obtain ⟨dx, r, d1, d2, d3, d4, dh, dw, dhi, dto, m1, m2, m3, hp, h1, h2, f1, f2, nd⟩ := h.ho
    obtain ⟨g1, g2, g3, g4⟩ := h.ch
    refine ⟨_, (C8.pss_cut (ps_if (pt_cmpR (op_eqD hr.units) (pe_fld (pe_fld (pv 0) rfl) rfl) (pe_lst pa_nil) (nomark _)) (pss_one (ps_expr (pe_mt0 m_go_down hr (by decide) (pv 0)))) pss_nil)
      (pss_cons (ps_set (i := 1) sc_Pieces_lift_off.nd rfl (Or.inl rfl) (pe_bm0 PySem.F.plainAttrs_list PySem.F.slot_list_pop PySem.F.type_list_pop mt_pop (pe_fld (pe_fld (pv 0) rfl) rfl)))
      (pss_cons (ps_fldaug (pv 0) pe_int in_sub)
      (pss_cons (ps_expr (pe_mt m_loose hr (by decide) (pv 0) (pa_cons (pv 1) pa_nil)))
      (pss_one (ps_ret (pv 1))))))), ?_⟩
    refine r_cut (fun σ H1 => ∃ F1 c1 cs1, σ = start N_Pieces_lift_off [.ref p] ∧ Mv F H F1 H1 ∧ PieX (cP K) (cE K) S H1 p F1 (x :: st) c1 cs1 ∧ c1.ws ≠ []) ?_ ?_
    · walk_at "ss"
      refine ⟨Nat.zero_le _, fun l nl => ?_⟩
      have sm : Sm H (upd H l (.lst [])) := (Sm.refl H).new nl
      refine r_eqD (.lst (SqL.of (sm _ _ g2)) (g3.keep fun b xs e => sm b _ e).dp) (.lst (SqL.of upd_same) .nil) (wos_shaped h.plc) rfl wos_empty ?_
      walk_at "ss"
      have h' := h.stay (H' := upd H l (.lst [])) (fun b o _ e => sm b o e) fun b xs e => sm b _ e
      refine iteB (fun e => ?_) (fun e => ?_)
      · have hp' := sm _ _ hp
        walk_at "ss"
        exact ⟨p, F, x :: st, c, cs, rfl, h', List.isEmpty_iff.mp e, (fun z => nomatch z), fun H' F' c' cs' mv hx' hne => ⟨F', c', cs', rfl, (sm.mv F).trans mv, hx', hne⟩⟩
      · walk_at "ss"
        exact ⟨F, c, cs, rfl, sm.mv F, h', fun z => by rw [z] at e; cases e⟩
    · rintro σ H1 ⟨F1, c1, cs1, rfl, mv, h', hne⟩
      clear nd h2 h1 hp g1 g2 g3 g4
      obtain ⟨dx, r, d1, d2, d3, d4, dh, dw, dhi, dto, m1, m2, m3, hp, h1, h2, f1, f2, nd⟩ := h'.ho
      obtain ⟨g1, g2, g3, g4⟩ := h'.ch
      obtain ⟨ws', y, ew⟩ : ∃ ws' y, c1.ws = ws' ++ [y] := ⟨c1.ws.dropLast, c1.ws.getLast hne, (List.dropLast_concat_getLast hne).symm⟩
      have efl := h'.fl
      have e1 : flat (c1 :: cs1) = y :: (ws'.reverse ++ flat cs1) := by
        show c1.ws.reverse ++ flat cs1 = _
        rw [ew, List.reverse_append]; rfl
      rw [e1] at efl
      injection efl with ex est
      subst ex
      rw [ew] at g3
      obtain ⟨us', v, eu, wl', t, rfl, ht⟩ := g3.split
      rw [eu] at g2
      have hpx := h'.pl x List.mem_cons_self
      have npl : p ≠ c1.l := ne_of hp g2 (by intro z; cases z)
      have szc := h'.sz c1 List.mem_cons_self
      walk_at "ss"
      refine ⟨tyL g2, ?_⟩
      refine r_pop g2 ?_
      walk_at "ss"
      refine r_st1 11 (by rw [upd_ne npl]; exact hp) rfl FP_nd rfl (by decide) ?_
      walk_at "ss"
      have tp : ∀ b xs, H1 b = some (.tup xs) → (upd (upd H1 c1.l (.lst us')) p (.ins (cP K) dx (FP.zip [.ref r, .ref d1, .ref d2, .ref d3, .ref d4, .ref dh, .ref dw, .int S, .int m1, .int m2, .int m3, .int (((x :: st).length : Int) - 1), .ref dhi, .ref dto, .ref c1.a]))) b = some (.tup xs) := fun b xs e => by
        rw [upd_ne (ne_of e hp (by intro z; cases z)), upd_ne (ne_of e g2 (by intro z; cases z))]; exact e
      obtain ⟨hx', mv'⟩ := h'.chg (st' := st) (us := us') (ws := ws') (H' := upd (upd H1 c1.l (.lst us')) p (.ins (cP K) dx (FP.zip [.ref r, .ref d1, .ref d2, .ref d3, .ref d4, .ref dh, .ref dw, .int S, .int m1, .int m2, .int m3, .int (((x :: st).length : Int) - 1), .ref dhi, .ref dto, .ref c1.a])))
        (by rw [upd_ne npl.symm, upd_same]) (fun dx' r' d1' d2' d3' d4' dh' dw' dhi' dto' m1' m2' m3' e => by
          rw [hp] at e; cases e; rw [upd_same]
          have e9 : (((x :: st).length : Int) - 1) = (st.length : Int) := by rw [List.length_cons]; omega
          rw [e9]) (fun b o e nb nc => by rw [upd_ne nb, upd_ne nc]; exact e) (wl'.keep tp) (by rw [ew, List.length_append] at szc; simp at szc; omega) est (fun y hy => h'.pl y (List.mem_cons_of_mem _ hy))
      refine ⟨p, t, x, rfl, hx'.com, mv'.tup _ _ ht, hpx, ?_⟩
      walk_at "ss"
      exact q _ _ F1 (mv.trans mv') ⟨_, _, hx'⟩ ⟨t, rfl, mv'.tup _ _ ht⟩
end
end MG

namespace MG
open PySem PySem.Spec PyProof.Rows L2
local macro_rules | `(tactic| walk_at "ne") => `(tactic| first | assumption | exact Ne.symm (by assumption) | exact ne_of_none (by assumption) (by assumption) | exact (ne_of_none (by assumption) (by assumption)).symm)
local macro_rules | `(tactic| walk_at "hp") => `(tactic| first | assumption | exact upd_same | (refine (upd_ne ?k1).trans ?k2; (case k1 => walk_at "ne"); (case k2 => walk_at "hp")))
local macro_rules | `(tactic| walk_at "lk") => `(tactic| first | assumption | with_reducible exact FE_under | with_reducible exact FE_worths | with_reducible exact FE_holders | with_reducible exact FC_running | with_reducible exact FC_wholes | with_reducible exact FC_places | with_reducible exact FC_in_box | with_reducible exact FC_on_peg | with_reducible exact FC_holding | with_reducible exact FC_waiting | with_reducible exact FP_running | with_reducible exact FP_wholes | with_reducible exact FP_places | with_reducible exact FP_in_box | with_reducible exact FP_on_peg | with_reducible exact FP_holding | with_reducible exact FP_waiting | with_reducible exact FP_most | with_reducible exact FP_count_made | with_reducible exact FP_count_handed | with_reducible exact FP_count_moved | with_reducible exact FP_high | with_reducible exact FP_highs | with_reducible exact FP_tops | with_reducible exact FP_above)
/-- one step of a reading that needs nothing but what is written -/
local macro_rules | `(tactic| walk_at "s") => `(tactic| first
  | with_reducible refine r_seq ?_ | with_reducible refine r_next ?_ | with_reducible refine r_set ?_ | with_reducible refine r_asg ?_ | with_reducible refine r_drop ?_ | with_reducible refine r_ret ?_ | with_reducible refine r_retN ?_ | with_reducible refine r_ifs ?_
  | ((with_reducible refine' r_var ?k1 ?_); (case k1 => exact rfl))
  | with_reducible refine r_c ?_ | with_reducible refine r_op ?_ | with_reducible refine r_un ?_ | with_reducible refine r_fld ?_ | with_reducible refine r_sfld ?_ | with_reducible refine r_saug ?_
  | with_reducible refine r_call ?_ | with_reducible refine r_make ?_ | with_reducible refine r_meth ?_ | with_reducible refine r_nil ?_ | with_reducible refine r_cons ?_ | with_reducible refine r_tup ?_ | with_reducible refine r_lst ?_ | with_reducible refine r_cb ?_ | with_reducible refine r_bm ?_ | with_reducible refine r_bm0 ?_
  | with_reducible refine r_tb ?_ | with_reducible refine r_test ?_ | with_reducible refine r_bl ?_ | with_reducible refine r_not ?_ | with_reducible refine r_and ?_ | with_reducible refine r_or ?_ | with_reducible refine r_andV ?_ | with_reducible refine r_orV ?_ | with_reducible refine r_notV ?_
  | with_reducible refine r_I0 ?_ | with_reducible refine r_eqI ?_ | with_reducible refine r_neI ?_ | with_reducible refine r_eqS ?_ | with_reducible refine r_neS ?_ | with_reducible refine r_eqB ?_ | with_reducible refine r_neB ?_
  | with_reducible refine r_gname ?_ | with_reducible refine r_forRev ?_ | with_reducible refine r_forL ?_ | with_reducible refine r_forR1 ?_ | with_reducible refine r_sl ?_ | with_reducible refine r_part ?_ | with_reducible refine r_int ?_ | with_reducible refine r_nopart ?_
  | with_reducible refine r_din ?_ | with_reducible refine r_dnin ?_ | with_reducible refine r_gsub ?_
  | ((with_reducible refine' r_fld1 ?k1 ?k2 ?k3 ?k4 ?_); (case k1 => walk_at "hp"); (case k2 => assumption); (case k3 => assumption); (case k4 => walk_at "lk"))
  | ((with_reducible refine' r_aug1 ?k1 ?k2 ?k3 ?k4 ?_); (case k1 => walk_at "hp"); (case k2 => assumption); (case k3 => assumption); (case k4 => walk_at "lk"))
  | with_reducible refine r_add ?_ | with_reducible refine r_sub ?_
  | ((with_reducible refine' r_meth1 ?k1 ?k2 ?_); (case k1 => walk_at "hp"); (case k2 => first | assumption | exact fz_no (by decide +kernel)))
  | ((with_reducible refine' r_ixT ?k1 ?k2 ?_); (case k1 => first | assumption | exact SqT.of (by walk_at "hp")); (case k2 => first | assumption | rfl)))
local macro_rules | `(tactic| walk_at "ss") => `(tactic| repeat walk_at "s")

def spInitP (K : PySem.W.Frag) : Sp := fun vs H Q _ => ∃ (p dx : Addr) (S : Nat), vs = [.ref p, .int (S : Int)] ∧ 2 ≤ S ∧ S ≤ 64 ∧ H p = some (.ins (cP K) dx []) ∧
  ∀ (H' : Hp) (F' : Addr → Prop), PieAt (cP K) (cE K) S H' p F' [] → (∀ b, F' b → b = p ∨ H b = none) → (∀ b o, H b = some o → b ≠ p → H' b = some o) → Q .non H'
section
variable {P : Program} {w : World} {K : PySem.W.Frag} {mg : Str → Option Value} {base : Heap} {S : Nat}
theorem low_Pieces (T : Txt K w mg) : Low P w K mg base 6 (cP K) (PieAt (cP K) (cE K) S) where
  com := fun ⟨_, _, h⟩ => h.com
  liv := fun ⟨_, _, h⟩ => h.liv
  stay := fun ⟨c, cs, h⟩ k t => ⟨c, cs, h.stay k t⟩
  pl := fun ⟨_, _, h⟩ => h.pl
  tall := (metP_tall T).mono (by decide)
  at_depth := (metP_at_depth T).mono (by decide)
  whole := (metP_whole T).mono (by decide)
  lay_on := metP_lay_on T
  lift_off := (metP_lift_off T).mono (by decide)
theorem house_Pieces (T : Txt K w mg) : House P w K mg base (cP K) (PieAt (cP K) (cE K) S) := house_of T (hcls_Pieces T) (low_Pieces T)
theorem hinit_Pieces (T : Txt K w mg) : HInit K (cP K) := ⟨T.cl_Pieces, T.na_Pieces_running, T.na_Pieces_wholes, T.na_Pieces_places, T.na_Pieces_in_box, T.na_Pieces_on_peg, T.na_Pieces_holding, T.na_Pieces_waiting⟩
theorem fat_init (T : Txt K w mg) : Fat P w K mg base 1 (He.ga K "Copies") "__init__" (spInitC (cP K)) := by
  obtain ⟨fd, F⟩ := T.f_Copies___init__
  obtain ⟨a, b⟩ := clsFnB_ok T.cf_Copies
  exact ⟨_, fd, P_Copies___init__, _, a, b, F.kp, ok_initC (hinit_Pieces T) F, F.bindsN (fun _ _ _ _ _ _ us hl => match us, hl with | [_], _ => rfl)⟩
theorem mak_Pieces (T : Txt K w mg) : Mak P w K mg base 5 "Pieces" (cP K) (spInitP K) [] := by
  obtain ⟨fd, F⟩ := T.f_Pieces___init__
  have f_Copies___init__ : Fat P w K mg base 1 (He.ga K "Copies") "__init__" (spInitC (cP K)) := fat_init T
  have cC := T.cl_Pieces
  have n7 := T.na_Pieces_most; have n8 := T.na_Pieces_count_made; have n9 := T.na_Pieces_count_handed; have n10 := T.na_Pieces_count_moved; have n11 := T.na_Pieces_high; have n12 := T.na_Pieces_highs; have n13 := T.na_Pieces_tops; have n14 := T.na_Pieces_above
  have m_run_on : Met P w K mg base 4 (cP K) "run_on" (spPieceOn (cP K) (cE K) 1) [] := metP_run_on T
  refine ⟨_, fd, P_Pieces___init__, [], T.mk_Pieces, ?_, T.g_Pieces, F.bindsN (fun _ _ _ _ _ _ us hl => match us, hl with | [_, _], _ => rfl), .nil⟩
  refine fd_ok F sc_Pieces___init__ (fun vs H Q E h => ?_) (fun cdv A outer s H vs Q E hr h => ?_)
  · obtain ⟨p, dx, S, rfl, _⟩ := h; rfl
  · obtain ⟨p, dx, S, rfl, s2, s64, hp, q⟩ := h
    refine ⟨_, (pss_cons (ps_if (PW.pt (pw_or (pt_cmpR op_lt (pv 1) pe_int (nomark _)) (pw_or1 (pt_cmpR op_gt (pv 1) pe_int (nomark _))))) (pss_one ps_never) pss_nil)
      (pss_cons (ps_expr (pe_clsfn T.g_Copies f_Copies___init__ hr (by decide) (by rfl) (pa_cons (pv 0) pa_nil)))
      (pss_cons (ps_fld (pv 0) (pv 1) rfl)
      (pss_cons (ps_fld (pv 0) pe_int rfl)
      (pss_cons (ps_fld (pv 0) pe_int rfl)
      (pss_cons (ps_fld (pv 0) pe_int rfl)
      (pss_cons (ps_fld (pv 0) pe_int rfl)
      (pss_cons (ps_fld (pv 0) pe_dnewK rfl)
      (pss_cons (ps_fld (pv 0) pe_dnewK rfl)
      (pss_one (ps_fld (pv 0) (pe_mt m_run_on hr (by decide) (pv 0) (pa_cons pe_non (pa_cons (pe_lst pa_nil) pa_nil))) rfl))))))))))), ?_⟩
    walk_at "ss"
    refine ite_f (decide_eq_false (by omega)) ?_
    walk_at "ss"
    refine ite_f (decide_eq_false (by omega)) ?_
    walk_at "ss"
    refine ⟨p, dx, rfl, hp, fun H1 r d1 d2 d3 d4 dh dw hp1 hR h1 h2 nrw fr k1 => ?_⟩
    walk_at "ss"
    have put : ∀ {H : Hp} (f : Str) (y : V) (ns ns' : List Str) (vs vs' : List V) {Q : Hp → Prop}, H p = some (.ins (cP K) dx (ns.zip vs)) → NoAttr K (cP K) f → f ∉ ns → ns.length = vs.length → ns.length < 1000 → ns ++ [f] = ns' → vs ++ [y] = vs' → Q (upd H p (.ins (cP K) dx (ns'.zip vs'))) → RPut K f (.ref p) y H Q :=
      fun {H} f y ns ns' vs vs' {Q} h hn nf hl hz e1 e2 q => r_putN ns' vs' h cC hn nf hl hz e1 e2 q
    refine put "most" (.int S) FC (FP.take 8) _ [.ref r, .ref d1, .ref d2, .ref d3, .ref d4, .ref dh, .ref dw, .int S] hp1 n7 (by decide +kernel) rfl (by decide) rfl rfl ?_
    walk_at "ss"
    refine put "count_made" (.int 0) (FP.take 8) (FP.take 9) _ [.ref r, .ref d1, .ref d2, .ref d3, .ref d4, .ref dh, .ref dw, .int S, .int 0] upd_same n8 (by decide +kernel) rfl (by decide) rfl rfl ?_
    rw [upd_upd]
    walk_at "ss"
    refine put "count_handed" (.int 0) (FP.take 9) (FP.take 10) _ [.ref r, .ref d1, .ref d2, .ref d3, .ref d4, .ref dh, .ref dw, .int S, .int 0, .int 0] upd_same n9 (by decide +kernel) rfl (by decide) rfl rfl ?_
    rw [upd_upd]
    walk_at "ss"
    refine put "count_moved" (.int 0) (FP.take 10) (FP.take 11) _ [.ref r, .ref d1, .ref d2, .ref d3, .ref d4, .ref dh, .ref dw, .int S, .int 0, .int 0, .int 0] upd_same n10 (by decide +kernel) rfl (by decide) rfl rfl ?_
    rw [upd_upd]
    walk_at "ss"
    refine put "high" (.int 0) (FP.take 11) (FP.take 12) _ [.ref r, .ref d1, .ref d2, .ref d3, .ref d4, .ref dh, .ref dw, .int S, .int 0, .int 0, .int 0, .int 0] upd_same n11 (by decide +kernel) rfl (by decide) rfl rfl ?_
    rw [upd_upd]
    walk_at "ss"
    intro dhi ndhi
    have nph : p ≠ dhi := fun z => by rw [← z, upd_same] at ndhi; cases ndhi
    walk_at "ss"
    refine put "highs" (.ref dhi) (FP.take 12) (FP.take 13) _ [.ref r, .ref d1, .ref d2, .ref d3, .ref d4, .ref dh, .ref dw, .int S, .int 0, .int 0, .int 0, .int 0, .ref dhi] (by rw [upd_ne nph]; exact upd_same) n12 (by decide +kernel) rfl (by decide) rfl rfl ?_
    walk_at "ss"
    intro dto ndto
    have npt : p ≠ dto := fun z => by rw [← z, upd_same] at ndto; cases ndto
    walk_at "ss"
    refine put "tops" (.ref dto) (FP.take 13) (FP.take 14) _ [.ref r, .ref d1, .ref d2, .ref d3, .ref d4, .ref dh, .ref dw, .int S, .int 0, .int 0, .int 0, .int 0, .ref dhi, .ref dto] (by rw [upd_ne npt]; exact upd_same) n13 (by decide +kernel) rfl (by decide) rfl rfl ?_
    walk_at "ss"
    generalize eH : upd (upd _ dto _) p _ = H2
    have hp2 : H2 p = some (.ins (cP K) dx ((FP.take 14).zip [.ref r, .ref d1, .ref d2, .ref d3, .ref d4, .ref dh, .ref dw, .int S, .int 0, .int 0, .int 0, .int 0, .ref dhi, .ref dto])) := by rw [← eH, upd_same]
    have ndhi1 : H1 dhi = none := by rw [upd_ne nph.symm] at ndhi; exact ndhi
    have k2 : ∀ b o, H1 b = some o → b ≠ p → H2 b = some o := fun b o e nb => by
      have nd : b ≠ dhi := ne_of_none e ndhi1
      have nt : b ≠ dto := fun z => by
        rw [← z, upd_ne nb, upd_ne nd, upd_ne nb] at ndto
        rw [e] at ndto; cases ndto
      rw [← eH, upd_ne nb, upd_ne nt, upd_ne nb, upd_ne nd, upd_ne nb]; exact e
    have z2 : ∀ b, H2 b = none → b ≠ p ∧ H1 b = none := fun b e => by
      have nb : b ≠ p := fun z => by rw [z, hp2] at e; cases e
      refine ⟨nb, ?_⟩
      cases e1 : H1 b with
      | none => rfl
      | some o => rw [k2 b o e1 nb] at e; cases e
    clear eH ndto ndhi npt nph
    have z1 : ∀ b, H1 b = none → b ≠ p → H b = none := fun b e nb => by
      cases e1 : H b with
      | none => rfl
      | some o => rw [k1 b o e1 nb] at e; cases e
    refine ⟨Nat.zero_le _, fun l nl => ?_⟩
    walk_at "ss"
    obtain ⟨nlp, nl1⟩ := z2 l nl
    have npl : p ≠ l := nlp.symm
    have hn8 : ∀ m ∈ MN, m ∉ FP.take 14 := by decide +kernel
    have hp3 : upd H2 l (.lst []) p = some (.ins (cP K) dx ((FP.take 14).zip [.ref r, .ref d1, .ref d2, .ref d3, .ref d4, .ref dh, .ref dw, .int S, .int 0, .int 0, .int 0, .int 0, .ref dhi, .ref dto])) := by rw [upd_ne npl]; exact hp2
    refine ⟨p, l, dx, 0, 0, .non, .non, .non, 0, 0, FP.take 14, _, rfl, hp3, rfl, by decide +kernel, hn8, rfl, by decide, rfl, .inl rfl, fun H4 x dx' nx hp4 hx4 _ kk => ?_⟩
    walk_at "ss"
    refine put "above" (.ref x) (FP.take 14) FP _ [.ref r, .ref d1, .ref d2, .ref d3, .ref d4, .ref dh, .ref dw, .int S, .int 1, .int 0, .int 0, .int 0, .ref dhi, .ref dto, .ref x] hp4 n14 (by decide +kernel) rfl (by decide) rfl rfl ?_
    walk_at "ss"
    have nlx : l ≠ x := fun z => by rw [← z, upd_same] at nx; cases nx
    have nx2 : H2 x = none := by rw [upd_ne nlx.symm] at nx; exact nx
    obtain ⟨nxp, nx1⟩ := z2 x nx2
    generalize eH : upd H4 p _ = H5
    have a1 : H5 p = some (.ins (cP K) dx (FP.zip [.ref r, .ref d1, .ref d2, .ref d3, .ref d4, .ref dh, .ref dw, .int S, .int 1, .int 0, .int 0, .int 0, .ref dhi, .ref dto, .ref x])) := by rw [← eH, upd_same]
    have a2 : H5 x = some (.ins (cE K) dx' (FE.zip [.non, .ref l, .int 1])) := by rw [← eH, upd_ne nxp]; exact hx4
    have a3 : H5 l = some (.lst []) := by rw [← eH, upd_ne nlp]; exact kk l _ upd_same nlp (fun z => nomatch z)
    have k5 : ∀ b o, H1 b = some o → b ≠ p → H5 b = some o := fun b o e nb => by
      have e2 := k2 b o e nb
      rw [← eH, upd_ne nb]
      exact kk b o (by rw [upd_ne (ne_of_none e2 nl)]; exact e2) nb (fun z => nomatch z)
    clear eH
    have ndhp : dh ≠ p := ne_of h1 hp1 (by intro z; cases z)
    have ndwp : dw ≠ p := ne_of h2 hp1 (by intro z; cases z)
    have b1 := k5 _ _ h1 ndhp
    have b2 := k5 _ _ h2 ndwp
    have fdh : H dh = none := fr dh (by simp)
    have fdw : H dw = none := fr dw (by simp)
    refine q H5 (fun b => b = p ∨ b = x ∨ b = l ∨ b = dh ∨ b = dw) ⟨⟨x, dx', l, [], []⟩, [], ⟨⟨dx, r, d1, d2, d3, d4, dh, dw, dhi, dto, 1, 0, 0, a1, b1, b2, .inr (.inr (.inr (.inl rfl))), .inr (.inr (.inr (.inr rfl))), ?_⟩, ⟨a2, a3, .nil, True.intro⟩, ?_, ?_, ?_, ?_, ?_, rfl, ?_, ⟨s2, s64⟩, .inl rfl, ?_, fun y hy => nomatch hy⟩⟩ ?_ ?_
    · intro d hd
      rcases List.mem_cons.mp hd with rfl | hd
      · exact (ne_of_none h2 nl1).symm
      · cases hd
    · exact List.nodup_cons.mpr ⟨(fun z => nomatch z), List.nodup_nil⟩
    · exact List.nodup_cons.mpr ⟨(fun z => nomatch z), List.nodup_nil⟩
    · intro d hd
      rcases List.mem_cons.mp hd with rfl | hd
      · exact nxp
      · cases hd
    · intro d hd
      rcases List.mem_cons.mp hd with rfl | hd
      · exact Nat.zero_le _
      · cases hd
    · intro d hd
      cases hd
    · intro d hd
      rcases List.mem_cons.mp hd with rfl | hd
      · exact ⟨.inr (.inl rfl), .inr (.inr (.inl rfl))⟩
      · cases hd
    · rintro b (rfl | rfl | rfl | rfl | rfl)
      · rw [a1]; exact fun z => nomatch z
      · rw [a2]; exact fun z => nomatch z
      · rw [a3]; exact fun z => nomatch z
      · rw [b1]; exact fun z => nomatch z
      · rw [b2]; exact fun z => nomatch z
    · rintro b (rfl | rfl | rfl | rfl | rfl)
      · exact .inl rfl
      · exact .inr (z1 _ nx1 nxp)
      · exact .inr (z1 _ nl1 nlp)
      · exact .inr fdh
      · exact .inr fdw
    · exact fun b o e nb => k5 b o (k1 b o e nb) nb
end
end MG

namespace MG
open PySem PySem.Spec PyProof.Rows L2
local macro_rules | `(tactic| walk_at "ne") => `(tactic| first | assumption | exact Ne.symm (by assumption) | exact ne_of_none (by assumption) (by assumption) | exact (ne_of_none (by assumption) (by assumption)).symm)
local macro_rules | `(tactic| walk_at "hp") => `(tactic| first | assumption | exact upd_same | (refine (upd_ne ?k1).trans ?k2; (case k1 => walk_at "ne"); (case k2 => walk_at "hp")))
local macro_rules | `(tactic| walk_at "lk") => `(tactic| first | assumption | with_reducible exact FE_under | with_reducible exact FE_worths | with_reducible exact FE_holders | with_reducible exact FC_running | with_reducible exact FC_wholes | with_reducible exact FC_places | with_reducible exact FC_in_box | with_reducible exact FC_on_peg | with_reducible exact FC_holding | with_reducible exact FC_waiting | with_reducible exact FP_running | with_reducible exact FP_wholes | with_reducible exact FP_places | with_reducible exact FP_in_box | with_reducible exact FP_on_peg | with_reducible exact FP_holding | with_reducible exact FP_waiting | with_reducible exact FP_most | with_reducible exact FP_count_made | with_reducible exact FP_count_handed | with_reducible exact FP_count_moved | with_reducible exact FP_high | with_reducible exact FP_highs | with_reducible exact FP_tops | with_reducible exact FP_above)
/-- one step of a reading that needs nothing but what is written -/
local macro_rules | `(tactic| walk_at "s") => `(tactic| first
  | with_reducible refine r_seq ?_ | with_reducible refine r_next ?_ | with_reducible refine r_set ?_ | with_reducible refine r_asg ?_ | with_reducible refine r_drop ?_ | with_reducible refine r_ret ?_ | with_reducible refine r_retN ?_ | with_reducible refine r_ifs ?_
  | ((with_reducible refine' r_var ?k1 ?_); (case k1 => exact rfl))
  | with_reducible refine r_c ?_ | with_reducible refine r_op ?_ | with_reducible refine r_un ?_ | with_reducible refine r_fld ?_ | with_reducible refine r_sfld ?_ | with_reducible refine r_saug ?_
  | with_reducible refine r_call ?_ | with_reducible refine r_make ?_ | with_reducible refine r_meth ?_ | with_reducible refine r_nil ?_ | with_reducible refine r_cons ?_ | with_reducible refine r_tup ?_ | with_reducible refine r_lst ?_ | with_reducible refine r_cb ?_ | with_reducible refine r_bm ?_ | with_reducible refine r_bm0 ?_
  | with_reducible refine r_tb ?_ | with_reducible refine r_test ?_ | with_reducible refine r_bl ?_ | with_reducible refine r_not ?_ | with_reducible refine r_and ?_ | with_reducible refine r_or ?_ | with_reducible refine r_andV ?_ | with_reducible refine r_orV ?_ | with_reducible refine r_notV ?_
  | with_reducible refine r_I0 ?_ | with_reducible refine r_eqI ?_ | with_reducible refine r_neI ?_ | with_reducible refine r_eqS ?_ | with_reducible refine r_neS ?_ | with_reducible refine r_eqB ?_ | with_reducible refine r_neB ?_
  | with_reducible refine r_gname ?_ | with_reducible refine r_forRev ?_ | with_reducible refine r_forL ?_ | with_reducible refine r_forR1 ?_ | with_reducible refine r_sl ?_ | with_reducible refine r_part ?_ | with_reducible refine r_int ?_ | with_reducible refine r_nopart ?_
  | with_reducible refine r_din ?_ | with_reducible refine r_dnin ?_ | with_reducible refine r_gsub ?_
  | ((with_reducible refine' r_fld1 ?k1 ?k2 ?k3 ?k4 ?_); (case k1 => walk_at "hp"); (case k2 => assumption); (case k3 => assumption); (case k4 => walk_at "lk"))
  | ((with_reducible refine' r_aug1 ?k1 ?k2 ?k3 ?k4 ?_); (case k1 => walk_at "hp"); (case k2 => assumption); (case k3 => assumption); (case k4 => walk_at "lk"))
  | with_reducible refine r_add ?_ | with_reducible refine r_sub ?_
  | ((with_reducible refine' r_meth1 ?k1 ?k2 ?_); (case k1 => walk_at "hp"); (case k2 => first | assumption | exact fz_no (by decide +kernel)))
  | ((with_reducible refine' r_ixT ?k1 ?k2 ?_); (case k1 => first | assumption | exact SqT.of (by walk_at "hp")); (case k2 => first | assumption | rfl)))
local macro_rules | `(tactic| walk_at "ss") => `(tactic| repeat walk_at "s")

/-! ## 10. Rows and the machine, over piles that lead nowhere -/
inductive Op where
  | put (n : Int) | pick (k : Nat) | drop (k : Nat) | tell | add | less | ifr (r : Nat) | jump (r : Nat)
def rowV : Op → List V
  | .put n => [.str "put", .int n]
  | .pick k => [.str "pick", .int (k : Int)]
  | .drop k => [.str "drop", .int (k : Int)]
  | .tell => [.str "tell"]
  | .add => [.str "add"]
  | .less => [.str "less"]
  | .ifr r => [.str "if", .int (r : Int)]
  | .jump r => [.str "jump", .int (r : Int)]
def Op.word : Op → Str
  | .put _ => "put"
  | .pick _ => "pick"
  | .drop _ => "drop"
  | .tell => "tell"
  | .add => "add"
  | .less => "less"
  | .ifr _ => "if"
  | .jump _ => "jump"
theorem row0 {op : Op} : (rowV op)[0]? = some (V.str op.word) := by cases op <;> rfl
/-- may stand in a program of so many rows -/
def Op.ok (many : Nat) : Op → Prop
  | .ifr r => r ≤ many
  | .jump r => r ≤ many
  | _ => True
theorem op_len (op : Op) : (rowV op).length = 1 ∨ (rowV op).length = 2 := by cases op <;> first | exact .inl rfl | exact .inr rfl
theorem op_bare : ∀ {op : Op}, (rowV op).length = 1 → inV (V.str op.word) [V.str "add", V.str "less", V.str "box", V.str "get", V.str "set", V.str "tell", V.str "sweep"] = true
  | .tell, _ => by decide +kernel
  | .add, _ => by decide +kernel
  | .less, _ => by decide +kernel
theorem op_two : ∀ {op : Op}, (rowV op).length = 2 → ∃ n, (rowV op)[1]? = some (V.int n)
  | .put _, _ => ⟨_, rfl⟩
  | .pick _, _ => ⟨_, rfl⟩
  | .drop _, _ => ⟨_, rfl⟩
  | .ifr _, _ => ⟨_, rfl⟩
  | .jump _, _ => ⟨_, rfl⟩
theorem op_reach : ∀ {op : Op} {n : Int}, ¬ op.word = "put" → (rowV op)[1]? = some (V.int n) → (inV (V.str op.word) [V.str "pick", V.str "drop", V.str "lift", V.str "go", V.str "back"] = true ∧ 0 ≤ n) ∨ (inV (V.str op.word) [V.str "pick", V.str "drop", V.str "lift", V.str "go", V.str "back"] = false ∧ inV (V.str op.word) [V.str "keep", V.str "call", V.str "jump", V.str "if"] = true ∧ 0 ≤ n ∧ ∀ many, op.ok many → n ≤ (many : Int))
  | .put _, _, h, _ => absurd rfl h
  | .pick k, n, _, e => .inl ⟨by simp only [Op.word]; decide +kernel, by injection e with e; injection e with e; omega⟩
  | .drop k, n, _, e => .inl ⟨by simp only [Op.word]; decide +kernel, by injection e with e; injection e with e; omega⟩
  | .ifr r, n, _, e => .inr ⟨by simp only [Op.word]; decide +kernel, by simp only [Op.word]; decide +kernel, by injection e with e; injection e with e; omega, fun many ok => by injection e with e; injection e with e; have ok' : r ≤ many := ok; omega⟩
  | .jump r, n, _, e => .inr ⟨by simp only [Op.word]; decide +kernel, by simp only [Op.word]; decide +kernel, by injection e with e; injection e with e; omega, fun many ok => by injection e with e; injection e with e; have ok' : r ≤ many := ok; omega⟩
def RL (H : Hp) (vs : List V) (ops : List Op) : Prop := vs.length = ops.length ∧ ∀ (i : Nat) (op : Op), ops[i]? = some op → ∃ t : Addr, vs[i]? = some (V.ref t) ∧ H t = some (HO.tup (rowV op))
theorem RL.keep {H H' : Hp} {vs : List V} {ops : List Op} (h : RL H vs ops) (k : ∀ b xs, H b = some (.tup xs) → H' b = some (.tup xs)) : RL H' vs ops :=
  ⟨h.1, fun i op e => let ⟨t, a, b⟩ := h.2 i op e; ⟨t, a, k _ _ b⟩⟩
def standsP (st : List Wo) (k : Nat) (wd : Str) : Bool := match st[k]? with
  | some x => decide (x.1 = wd)
  | none => false
def lacksP (st : List Wo) : Op → Bool
  | .put _ => false
  | .jump _ => false
  | .pick k => decide (st.length ≤ k)
  | .drop k => decide (st.length ≤ k)
  | .tell => decide (st.length = 0)
  | .add => !standsP st 0 "num" || !standsP st 1 "num"
  | .less => !standsP st 0 "num" || !standsP st 1 "num"
  | .ifr _ => !standsP st 0 "num"
def spIsRow : Sp := fun vs H Q _ => ∃ (t : Addr) (op : Op) (many : Nat), vs = [.ref t, .int (many : Int)] ∧ H t = some (.tup (rowV op)) ∧ Op.ok many op ∧ Q (.bl true) H
def spIsProgram : Sp := fun vs H Q _ => ∃ (a : Addr) (us : List V) (ops : List Op), vs = [V.ref a] ∧ H a = some (HO.lst us) ∧ RL H us ops ∧ (∀ op ∈ ops, Op.ok ops.length op) ∧ ∀ H', Sm H H' → Q (.bl true) H'
section
variable {P : Program} {w : World} {K : PySem.W.Frag} {mg : Str → Option Value} {base : Heap}
theorem cal_is_row (T : Txt K w mg) : Cal P w K mg base 2 "is_row" spIsRow [] := by
  obtain ⟨fd, F⟩ := T.f_is_row
  have c_is_whole : Cal P w K mg base 1 "is_whole" spIsWhole [] := cal_is_whole T
  refine ⟨_, fd, P_is_row, [], ?_, T.g_is_row, F.kp, F.bindsN (fun _ _ _ _ _ _ us hl => match us, hl with | [_, _], _ => rfl), .nil⟩
  refine fd_ok F sc_is_row (fun vs H Q E h => ?_) (fun cdv A outer s H vs Q E hr h => ?_)
  · obtain ⟨t, op, many, rfl, _⟩ := h; rfl
  · obtain ⟨t, op, many, rfl, ht, ok, q⟩ := h
    refine ⟨_, (pss_cons (ps_if (PW.pt (pw_or (pt_not (pt_val (pe_callB call_isi (by rfl) T.b_isinstance (by decide +kernel) (pa_cons (pv 0) (pa_cons (pe_bltn (v := .ty "tuple") (u := .type "tuple") (by rfl) T.b_tuple (by decide +kernel) rfl) pa_nil))))) (pw_or (pt_cmpR op_lt (pe_callB call_len_seq (by rfl) T.b_len (by decide +kernel) (pa_cons (pv 0) pa_nil)) pe_int (nomark _)) (pw_or1 (pt_cmpR op_gt (pe_callB call_len_seq (by rfl) T.b_len (by decide +kernel) (pa_cons (pv 0) pa_nil)) pe_int (nomark _)))))) (pss_one (ps_ret pe_bl)) pss_nil)
      (pss_cons (ps_if (pt_not (pt_val (pe_callB call_isi (by rfl) T.b_isinstance (by decide +kernel) (pa_cons (pe_ix ix_tup (pv 0) pe_int (fun _ _ => rfl)) (pa_cons (pe_bltn (v := .ty "str") (u := .type "str") (by rfl) T.b_str (by decide +kernel) rfl) pa_nil))))) (pss_one (ps_ret pe_bl)) pss_nil)
      (pss_cons (ps_if (pt_cmpR op_eq (pe_callB call_len_seq (by rfl) T.b_len (by decide +kernel) (pa_cons (pv 0) pa_nil)) pe_int (nomark _)) (pss_one (ps_ret (pe_cmpR op_in_seq (pe_ix ix_tup (pv 0) pe_int (fun _ _ => rfl)) (pe_gc (by rfl) T.c_BARE) (by rfl)))) pss_nil)
      (pss_cons (ps_if (pt_not (pt_val (pe_c c_is_whole hr (by decide) rfl (pa_cons (pe_ix ix_tup (pv 0) pe_int (fun _ _ => rfl)) pa_nil)))) (pss_one (ps_ret pe_bl)) pss_nil)
      (pss_cons (ps_if (pt_cmpR op_eq (pe_ix ix_tup (pv 0) pe_int (fun _ _ => rfl)) pe_str (nomark _)) (pss_one (ps_ret pe_bl)) pss_nil)
      (pss_cons (ps_if (pt_cmpR op_in_seq (pe_ix ix_tup (pv 0) pe_int (fun _ _ => rfl)) (pe_gc (by rfl) T.c_REACHING) (by rfl)) (pss_one (ps_ret (pe_cmpR op_ge (pe_ix ix_tup (pv 0) pe_int (fun _ _ => rfl)) pe_int (nomark _)))) pss_nil)
      (pss_one (ps_ret (pe_and (pe_cmpR op_in_seq (pe_ix ix_tup (pv 0) pe_int (fun _ _ => rfl)) (pe_gc (by rfl) T.c_LEADING) (by rfl)) (pe_one (pe_chain op_le op_le pe_int (pe_ix ix_tup (pv 0) pe_int (fun _ _ => rfl)) (pv 1)))))))))))), ?_⟩
    have l12 := op_len op
    walk_at "ss"
    refine r_isi (.ty _) (tyX_tup ht) (kit_ty (b := "tuple") (r := true) (by decide +kernel)) ?_
    walk_at "ss"
    refine ite_f rfl ?_
    walk_at "ss"
    refine ⟨t, _, rfl, .inr (SqT.of ht), ?_⟩
    walk_at "ss"
    refine ite_f (decide_eq_false (by omega)) ?_
    walk_at "ss"
    refine ⟨t, _, rfl, .inr (SqT.of ht), ?_⟩
    walk_at "ss"
    refine ite_f (decide_eq_false (by omega)) ?_
    walk_at "ss"
    refine r_ixT (SqT.of ht) (atI_nat (j := 0) row0) ?_
    walk_at "ss"
    refine r_isi (.ty _) tyX_str (kit_ty (b := "str") (r := true) (by decide +kernel)) ?_
    walk_at "ss"
    refine ite_f rfl ?_
    walk_at "ss"
    refine ⟨t, _, rfl, .inr (SqT.of ht), ?_⟩
    walk_at "ss"
    by_cases h1 : (rowV op).length = 1
    · refine ite_t (decide_eq_true (by rw [h1]; rfl)) ?_
      walk_at "ss"
      refine r_ixT (SqT.of ht) (atI_nat (j := 0) row0) ?_
      walk_at "ss"
      refine r_in (b := true) (.inr (T.t_BARE _)) rfl rfl (op_bare h1) q
    · have h2 : (rowV op).length = 2 := by omega
      obtain ⟨n, hn⟩ := op_two h2
      refine ite_f (decide_eq_false (by omega)) ?_
      walk_at "ss"
      refine r_ixT (SqT.of ht) (atI_nat (j := 1) hn) ?_
      walk_at "ss"
      refine ⟨n, rfl, ?_⟩
      walk_at "ss"
      refine ite_f rfl ?_
      walk_at "ss"
      refine r_ixT (SqT.of ht) (atI_nat (j := 0) row0) ?_
      walk_at "ss"
      by_cases hput : op.word = "put"
      · refine ite_t (decide_eq_true hput) ?_
        walk_at "ss"
        exact q
      · refine ite_f (decide_eq_false hput) ?_
        walk_at "ss"
        refine r_ixT (SqT.of ht) (atI_nat (j := 0) row0) ?_
        walk_at "ss"
        rcases op_reach hput hn with ⟨hr1, h0⟩ | ⟨hr1, hr2, h0, hm⟩
        · refine r_in (b := true) (.inr (T.t_REACHING _)) rfl rfl hr1 ?_
          walk_at "ss"
          refine ite_t rfl ?_
          walk_at "ss"
          refine r_ixT (SqT.of ht) (atI_nat (j := 1) hn) ?_
          walk_at "ss"
          have e : decide ((0 : Int) ≤ n) = true := decide_eq_true h0
          show Q (.bl (decide ((0 : Int) ≤ n))) H
          rw [e]
          exact q
        · refine r_in (b := false) (.inr (T.t_REACHING _)) rfl rfl hr1 ?_
          walk_at "ss"
          refine ite_f rfl ?_
          walk_at "ss"
          refine r_ixT (SqT.of ht) (atI_nat (j := 0) row0) ?_
          walk_at "ss"
          refine r_in (b := true) (.inr (T.t_LEADING _)) rfl rfl hr2 ?_
          walk_at "ss"
          refine ite_t rfl ?_
          have hmn := hm many ok
          show tChain _ _ _ _ _ _ _ _
          refine r_c ?_
          walk_at "ss"
          refine r_ixT (SqT.of ht) (atI_nat (j := 1) hn) ?_
          refine ⟨_, _, rfl, rfl, _, rfl, ?_⟩
          refine ite_t (decide_eq_true h0) ?_
          walk_at "ss"
          have e : decide (n ≤ (many : Int)) = true := decide_eq_true hmn
          show Q (.bl (decide (n ≤ (many : Int)))) H
          rw [e]
          exact q
end
end MG

namespace MG
open PySem PySem.Spec PyProof.Rows L2
local macro_rules | `(tactic| walk_at "ne") => `(tactic| first | assumption | exact Ne.symm (by assumption) | exact ne_of_none (by assumption) (by assumption) | exact (ne_of_none (by assumption) (by assumption)).symm)
local macro_rules | `(tactic| walk_at "hp") => `(tactic| first | assumption | exact upd_same | (refine (upd_ne ?k1).trans ?k2; (case k1 => walk_at "ne"); (case k2 => walk_at "hp")))
local macro_rules | `(tactic| walk_at "lk") => `(tactic| first | assumption | with_reducible exact FE_under | with_reducible exact FE_worths | with_reducible exact FE_holders | with_reducible exact FC_running | with_reducible exact FC_wholes | with_reducible exact FC_places | with_reducible exact FC_in_box | with_reducible exact FC_on_peg | with_reducible exact FC_holding | with_reducible exact FC_waiting | with_reducible exact FP_running | with_reducible exact FP_wholes | with_reducible exact FP_places | with_reducible exact FP_in_box | with_reducible exact FP_on_peg | with_reducible exact FP_holding | with_reducible exact FP_waiting | with_reducible exact FP_most | with_reducible exact FP_count_made | with_reducible exact FP_count_handed | with_reducible exact FP_count_moved | with_reducible exact FP_high | with_reducible exact FP_highs | with_reducible exact FP_tops | with_reducible exact FP_above)
/-- one step of a reading that needs nothing but what is written -/
local macro_rules | `(tactic| walk_at "s") => `(tactic| first
  | with_reducible refine r_seq ?_ | with_reducible refine r_next ?_ | with_reducible refine r_set ?_ | with_reducible refine r_asg ?_ | with_reducible refine r_drop ?_ | with_reducible refine r_ret ?_ | with_reducible refine r_retN ?_ | with_reducible refine r_ifs ?_
  | ((with_reducible refine' r_var ?k1 ?_); (case k1 => exact rfl))
  | with_reducible refine r_c ?_ | with_reducible refine r_op ?_ | with_reducible refine r_un ?_ | with_reducible refine r_fld ?_ | with_reducible refine r_sfld ?_ | with_reducible refine r_saug ?_
  | with_reducible refine r_call ?_ | with_reducible refine r_make ?_ | with_reducible refine r_meth ?_ | with_reducible refine r_nil ?_ | with_reducible refine r_cons ?_ | with_reducible refine r_tup ?_ | with_reducible refine r_lst ?_ | with_reducible refine r_cb ?_ | with_reducible refine r_bm ?_ | with_reducible refine r_bm0 ?_
  | with_reducible refine r_tb ?_ | with_reducible refine r_test ?_ | with_reducible refine r_bl ?_ | with_reducible refine r_not ?_ | with_reducible refine r_and ?_ | with_reducible refine r_or ?_ | with_reducible refine r_andV ?_ | with_reducible refine r_orV ?_ | with_reducible refine r_notV ?_
  | with_reducible refine r_I0 ?_ | with_reducible refine r_eqI ?_ | with_reducible refine r_neI ?_ | with_reducible refine r_eqS ?_ | with_reducible refine r_neS ?_ | with_reducible refine r_eqB ?_ | with_reducible refine r_neB ?_
  | with_reducible refine r_gname ?_ | with_reducible refine r_forRev ?_ | with_reducible refine r_forL ?_ | with_reducible refine r_forR1 ?_ | with_reducible refine r_sl ?_ | with_reducible refine r_part ?_ | with_reducible refine r_int ?_ | with_reducible refine r_nopart ?_
  | with_reducible refine r_din ?_ | with_reducible refine r_dnin ?_ | with_reducible refine r_gsub ?_
  | ((with_reducible refine' r_fld1 ?k1 ?k2 ?k3 ?k4 ?_); (case k1 => walk_at "hp"); (case k2 => assumption); (case k3 => assumption); (case k4 => walk_at "lk"))
  | ((with_reducible refine' r_aug1 ?k1 ?k2 ?k3 ?k4 ?_); (case k1 => walk_at "hp"); (case k2 => assumption); (case k3 => assumption); (case k4 => walk_at "lk"))
  | with_reducible refine r_add ?_ | with_reducible refine r_sub ?_
  | ((with_reducible refine' r_meth1 ?k1 ?k2 ?_); (case k1 => walk_at "hp"); (case k2 => first | assumption | exact fz_no (by decide +kernel)))
  | ((with_reducible refine' r_ixT ?k1 ?k2 ?_); (case k1 => first | assumption | exact SqT.of (by walk_at "hp")); (case k2 => first | assumption | rfl)))
local macro_rules | `(tactic| walk_at "ss") => `(tactic| repeat walk_at "s")

theorem r_tupIn {K : PySem.W.Frag} {H : Hp} {neg : Bool} {x : V} {xs : List V} {b : Bool} {Q : VK} (hb : (if neg then !inV x xs else inV x xs) = b) (hl : xs.length ≤ sizeLine) (hx : flatV x = true) (ha : xs.all flatV = true) (q : ∀ H', Sm H H' → Q (.bl b) H') :
    xs.length ≤ sizeLine ∧ ∀ p, H p = none → rIn K neg x (.ref p) (upd H p (.tup xs)) Q := ⟨hl, fun p np => r_in (.inr (SqT.of upd_same)) hx ha hb (q _ ((Sm.refl H).new np))⟩
def spStands (At : AtT) : Sp := fun vs H Q _ => ∃ (p : Addr) (F : Addr → Prop) (st : List Wo) (k : Nat) (wd : Str), vs = [V.ref p, .int (k : Int), .str wd] ∧ At H p F st ∧ Q (.bl (standsP st k wd)) H
def spLacksR (At : AtT) : Sp := fun vs H Q _ => ∃ (p : Addr) (F : Addr → Prop) (st : List Wo) (k : Nat) (wd : Str) (many : Int), vs = [V.ref p, .str wd, .int (k : Int), .int many] ∧ At H p F st ∧ ¬ wd = "go" ∧ ¬ wd = "back" ∧ Q (.bl (decide (st.length ≤ k))) H
def spLacks (At : AtT) : Sp := fun vs H Q _ => ∃ (p t : Addr) (F : Addr → Prop) (st : List Wo) (op : Op) (many : Int), vs = [V.ref p, .ref t, .int many] ∧ At H p F st ∧ H t = some (HO.tup (rowV op)) ∧ ∀ H', Sm H H' → Q (.bl (lacksP st op)) H'
section
variable {P : Program} {w : World} {K : PySem.W.Frag} {mg : Str → Option Value} {base : Heap} {C : Addr} {At : AtT}
theorem cal_is_program (T : Txt K w mg) : Cal P w K mg base 3 "is_program" spIsProgram [] := by
  obtain ⟨fd, F⟩ := T.f_is_program
  have c_is_row : Cal P w K mg base 2 "is_row" spIsRow [] := cal_is_row T
  refine ⟨_, fd, P_is_program, [], ?_, T.g_is_program, F.kp, F.bindsN (fun _ _ _ _ _ _ us hl => match us, hl with | [_], _ => rfl), .nil⟩
  refine fd_ok F sc_is_program (fun vs H Q E h => ?_) (fun cdv A outer s H vs Q E hr h => ?_)
  · obtain ⟨a, us, ops, rfl, _⟩ := h; rfl
  · obtain ⟨a, us, ops, rfl, ha, hrl, ok, q⟩ := h
    refine ⟨_, (pss_cons (ps_if (pt_not (pt_val (pe_callB call_isi (by rfl) T.b_isinstance (by decide +kernel) (pa_cons (pv 0) (pa_cons (pe_bltn (v := .ty "list") (u := .type "list") (by rfl) T.b_list (by decide +kernel) rfl) pa_nil))))) (pss_one (ps_ret pe_bl)) pss_nil)
      (pss_cons (ps_for PassesOwn.never rfl (pi_list (pv 0)) (pg_name (i := 1) sc_is_program.nd rfl (Or.inl rfl)) (pss_one (ps_if (pt_not (pt_val (pe_c c_is_row hr (by decide) rfl (pa_cons (pv 1) (pa_cons (pe_callB call_len_seq (by rfl) T.b_len (by decide +kernel) (pa_cons (pv 0) pa_nil)) pa_nil))))) (pss_one (ps_ret pe_bl)) pss_nil)))
      (pss_one (ps_ret pe_bl)))), ?_⟩
    walk_at "ss"
    refine r_isi (.ty _) (tyX_lst ha) (kit_ty (b := "list") (r := true) (by decide +kernel)) ?_
    walk_at "ss"
    refine ite_f rfl ?_
    walk_at "ss"
    refine ⟨a, rfl, ⟨us, SqL.of ha⟩, for_list (K := K) (a := a) (xs := us) (fun i σ H1 => ∃ o, σ = [some (V.ref a), o] ∧ H1 = H) ⟨_, rfl, rfl⟩ (fun i σ H1 _ ⟨_, _, e⟩ => by rw [e]; exact SqL.of ha) ?_ ?_⟩
    · rintro i x σ H1 hx ⟨o, rfl, rfl⟩
      have hi : i < ops.length := by rw [← hrl.1]; exact (List.getElem?_eq_some_iff.mp hx).1
      obtain ⟨t, e1, e2⟩ := hrl.2 i ops[i] (List.getElem?_eq_getElem hi)
      rw [hx] at e1
      injection e1 with e1
      subst e1
      walk_at "ss"
      refine ⟨a, us, rfl, .inl (SqL.of ha), ?_⟩
      rw [hrl.1]
      refine ⟨t, ops[i], ops.length, rfl, e2, ok _ (List.getElem_mem hi), ?_⟩
      walk_at "ss"
      refine ite_f rfl ?_
      walk_at "ss"
      exact ⟨_, rfl, rfl⟩
    · rintro σ H1 ⟨o, rfl, rfl⟩
      walk_at "ss"
      exact q _ (Sm.refl _)
theorem cal_stands (T : Txt K w mg) (L : House P w K mg base C At) : Cal P w K mg base 9 "stands" (spStands At) [] := by
  obtain ⟨fd, F⟩ := T.f_stands
  have m_height := L.height
  have m_look := L.look
  refine ⟨_, fd, P_stands, [], ?_, T.g_stands, F.kp, F.bindsN (fun _ _ _ _ _ _ us hl => match us, hl with | [_, _, _], _ => rfl), .nil⟩
  refine fd_ok F sc_stands (fun vs H Q E h => ?_) (fun cdv A outer s H vs Q E hr h => ?_)
  · obtain ⟨p, F, st, k, wd, rfl, _⟩ := h; rfl
  · obtain ⟨p, F, st, k, wd, rfl, ha, q⟩ := h
    obtain ⟨dx, fs, dh, dw, hp, nm, _⟩ := L.com ha
    have n1 := nm "height" (by decide +kernel)
    have n2 := nm "look" (by decide +kernel)
    refine ⟨_, (pss_one (ps_ret (pe_and (pe_cmpR op_lt (pv 1) (pe_mt0 m_height hr (by decide) (pv 0)) (nomark _)) (pe_one (pe_cmpR op_eq (pe_ix ix_tup (pe_mt m_look hr (by decide) (pv 0) (pa_cons (pv 1) pa_nil)) pe_int (fun _ _ => rfl)) (pv 2) (nomark _)))))), ?_⟩
    walk_at "ss"
    refine ⟨p, F, st, rfl, ha, ?_⟩
    walk_at "ss"
    cases e : st[k]? with
    | none =>
      have hk : st.length ≤ k := List.getElem?_eq_none_iff.mp e
      refine ite_f (decide_eq_false (by omega)) ?_
      have e2 : standsP st k wd = false := by unfold standsP; rw [e]
      rw [e2] at q
      exact q
    | some x =>
      have hk : k < st.length := (List.getElem?_eq_some_iff.mp e).1
      refine ite_t (decide_eq_true (by omega)) ?_
      walk_at "ss"
      refine ⟨p, F, st, k, x, rfl, ha, e, fun v ⟨t, ev, ht⟩ => ?_⟩
      subst ev
      walk_at "ss"
      have e2 : standsP st k wd = decide (x.1 = wd) := by unfold standsP; rw [e]
      rw [e2] at q
      exact q
theorem cal_lacks_reached (T : Txt K w mg) (L : House P w K mg base C At) : Cal P w K mg base 10 "lacks_reached" (spLacksR At) [] := by
  obtain ⟨fd, F⟩ := T.f_lacks_reached
  have m_height := L.height
  refine ⟨_, fd, P_lacks_reached, [], ?_, T.g_lacks_reached, F.kp, F.bindsN (fun _ _ _ _ _ _ us hl => match us, hl with | [_, _, _, _], _ => rfl), .nil⟩
  refine fd_ok F sc_lacks_reached (fun vs H Q E h => ?_) (fun cdv A outer s H vs Q E hr h => ?_)
  · obtain ⟨p, F, st, k, wd, many, rfl, _⟩ := h; rfl
  · obtain ⟨p, F, st, k, wd, many, rfl, ha, h1, h2, q⟩ := h
    obtain ⟨dx, fs, dh, dw, hp, nm, _⟩ := L.com ha
    have n1 := nm "height" (by decide +kernel)
    refine ⟨_, (pss_cons (ps_if (pt_cmpR op_eq (pv 1) pe_str (nomark _)) (pss_one ps_never) pss_nil)
      (pss_cons (ps_if (pt_cmpR op_eq (pv 1) pe_str (nomark _)) (pss_one ps_never) pss_nil)
      (pss_one (ps_ret (pe_cmpR op_ge (pv 2) (pe_mt0 m_height hr (by decide) (pv 0)) (nomark _)))))), ?_⟩
    walk_at "ss"
    refine ite_f (decide_eq_false h1) ?_
    walk_at "ss"
    refine ite_f (decide_eq_false h2) ?_
    walk_at "ss"
    refine ⟨p, F, st, rfl, ha, ?_⟩
    walk_at "ss"
    have e : decide ((st.length : Int) ≤ (k : Int)) = decide (st.length ≤ k) := by simp
    show Q (.bl (decide ((st.length : Int) ≤ (k : Int)))) H
    rw [e]
    exact q
theorem cal_lacks (T : Txt K w mg) (L : House P w K mg base C At) : Cal P w K mg base 11 "lacks" (spLacks At) [] := by
  obtain ⟨fd, F⟩ := T.f_lacks
  have m_height := L.height
  have c_stands : Cal P w K mg base 9 "stands" (spStands At) [] := cal_stands T L
  have c_lacks_reached : Cal P w K mg base 10 "lacks_reached" (spLacksR At) [] := cal_lacks_reached T L
  refine ⟨_, fd, P_lacks, [], ?_, T.g_lacks, F.kp, F.bindsN (fun _ _ _ _ _ _ us hl => match us, hl with | [_, _, _], _ => rfl), .nil⟩
  refine fd_ok F sc_lacks (fun vs H Q E h => ?_) (fun cdv A outer s H vs Q E hr h => ?_)
  · obtain ⟨p, t, F, st, op, many, rfl, _⟩ := h; rfl
  · obtain ⟨p, t, F, st, op, many, rfl, ha, ht, q⟩ := h
    refine ⟨_, (pss_cons (ps_set (i := 3) sc_lacks.nd rfl (Or.inl rfl) (pe_ix ix_tup (pv 1) pe_int (fun _ _ => rfl)))
      (pss_cons (ps_if (pt_cmpR op_in_seq (pv 3) (pe_tup (pa_cons pe_str (pa_cons pe_str (pa_cons pe_str (pa_cons pe_str (pa_cons pe_str pa_nil)))))) (by rfl)) (pss_one (ps_ret (pe_c c_lacks_reached hr (by decide) rfl (pa_cons (pv 0) (pa_cons (pv 3) (pa_cons (pe_ix ix_tup (pv 1) pe_int (fun _ _ => rfl)) (pa_cons (pv 2) pa_nil))))))) pss_nil)
      (pss_cons (ps_if (pt_cmpR op_in_seq (pv 3) (pe_tup (pa_cons pe_str (pa_cons pe_str pa_nil))) (by rfl)) (pss_one (ps_ret (pe_or (pe_not (pe_c c_stands hr (by decide) rfl (pa_cons (pv 0) (pa_cons pe_int (pa_cons pe_str pa_nil))))) (pe_one (pe_not (pe_c c_stands hr (by decide) rfl (pa_cons (pv 0) (pa_cons pe_int (pa_cons pe_str pa_nil))))))))) pss_nil)
      (pss_cons (ps_if (pt_cmpR op_in_seq (pv 3) (pe_tup (pa_cons pe_str (pa_cons pe_str pa_nil))) (by rfl)) (pss_one (ps_ret (pe_cmpR op_eq (pe_mt0 m_height hr (by decide) (pv 0)) pe_int (nomark _)))) pss_nil)
      (pss_cons (ps_if (pt_cmpR op_eq (pv 3) pe_str (nomark _)) (pss_one (ps_ret (pe_not (pe_c c_stands hr (by decide) rfl (pa_cons (pv 0) (pa_cons pe_int (pa_cons pe_str pa_nil))))))) pss_nil)
      (pss_cons (ps_if (pt_cmpR op_eq (pv 3) pe_str (nomark _)) (pss_one (ps_ret (pe_not (pe_c c_stands hr (by decide) rfl (pa_cons (pv 0) (pa_cons pe_int (pa_cons pe_str pa_nil))))))) pss_nil)
      (pss_one (ps_ret (pe_and (pe_cmpR op_eq (pv 3) pe_str (nomark _)) (pe_one (pe_not (pe_c c_stands hr (by decide) rfl (pa_cons (pv 0) (pa_cons pe_int (pa_cons pe_str pa_nil))))))))))))))), ?_⟩
    walk_at "ss"
    refine r_ixT (SqT.of ht) (atI_nat (j := 0) row0) ?_
    walk_at "ss"
    cases op with
    | put n =>
      · refine r_tupIn (b := false) (by simp only [Op.word]; decide +kernel) (by decide) rfl rfl fun H1 s1 => ?_
        walk_at "ss"
        refine ite_f rfl ?_
        walk_at "ss"
        refine r_tupIn (b := false) (by simp only [Op.word]; decide +kernel) (by decide) rfl rfl fun H2 s2 => ?_
        walk_at "ss"
        refine ite_f rfl ?_
        walk_at "ss"
        refine r_tupIn (b := false) (by simp only [Op.word]; decide +kernel) (by decide) rfl rfl fun H3 s3 => ?_
        walk_at "ss"
        refine ite_f rfl ?_
        walk_at "ss"
        refine ite_f (decide_eq_false (by simp only [Op.word]; decide +kernel)) ?_
        walk_at "ss"
        refine ite_f (decide_eq_false (by simp only [Op.word]; decide +kernel)) ?_
        walk_at "ss"
        refine ite_f (decide_eq_false (by simp only [Op.word]; decide +kernel)) ?_
        exact q H3 ((s1.trans s2).trans s3)
    | pick k =>
      · refine r_tupIn (b := true) (by simp only [Op.word]; decide +kernel) (by decide) rfl rfl fun H1 s1 => ?_
        walk_at "ss"
        refine ite_t rfl ?_
        walk_at "ss"
        refine r_ixT (SqT.of (s1 _ _ ht)) (atI_nat (j := 1) rfl) ?_
        walk_at "ss"
        exact ⟨p, F, st, k, _, many, rfl, L.sm ha s1, by simp only [Op.word]; decide +kernel, by simp only [Op.word]; decide +kernel, q H1 s1⟩
    | drop k =>
      · refine r_tupIn (b := true) (by simp only [Op.word]; decide +kernel) (by decide) rfl rfl fun H1 s1 => ?_
        walk_at "ss"
        refine ite_t rfl ?_
        walk_at "ss"
        refine r_ixT (SqT.of (s1 _ _ ht)) (atI_nat (j := 1) rfl) ?_
        walk_at "ss"
        exact ⟨p, F, st, k, _, many, rfl, L.sm ha s1, by simp only [Op.word]; decide +kernel, by simp only [Op.word]; decide +kernel, q H1 s1⟩
    | tell =>
      · refine r_tupIn (b := false) (by simp only [Op.word]; decide +kernel) (by decide) rfl rfl fun H1 s1 => ?_
        walk_at "ss"
        refine ite_f rfl ?_
        walk_at "ss"
        refine r_tupIn (b := false) (by simp only [Op.word]; decide +kernel) (by decide) rfl rfl fun H2 s2 => ?_
        walk_at "ss"
        refine ite_f rfl ?_
        walk_at "ss"
        refine r_tupIn (b := true) (by simp only [Op.word]; decide +kernel) (by decide) rfl rfl fun H3 s3 => ?_
        walk_at "ss"
        refine ite_t rfl ?_
        have ha3 := L.sm ha ((s1.trans s2).trans s3)
        obtain ⟨dx, fs, dh, dw, hp, nm, _⟩ := L.com ha3
        have n1 := nm "height" (by decide +kernel)
        walk_at "ss"
        refine ⟨p, F, st, rfl, ha3, ?_⟩
        walk_at "ss"
        have e : decide ((st.length : Int) = 0) = decide (st.length = 0) := by
          rw [Bool.eq_iff_iff, decide_eq_true_iff, decide_eq_true_iff]; omega
        rw [e]
        exact q H3 ((s1.trans s2).trans s3)
    | add =>
      · refine r_tupIn (b := false) (by simp only [Op.word]; decide +kernel) (by decide) rfl rfl fun H1 s1 => ?_
        walk_at "ss"
        refine ite_f rfl ?_
        walk_at "ss"
        refine r_tupIn (b := true) (by simp only [Op.word]; decide +kernel) (by decide) rfl rfl fun H2 s2 => ?_
        walk_at "ss"
        refine ite_t rfl ?_
        walk_at "ss"
        have ha2 := L.sm ha (s1.trans s2)
        refine ⟨p, F, st, 0, "num", rfl, ha2, ?_⟩
        walk_at "ss"
        have q2 : Q (.bl (!standsP st 0 "num" || !standsP st 1 "num")) H2 := q H2 (s1.trans s2)
        refine iteB (fun e => ?_) (fun e => ?_)
        · rw [e] at q2; exact q2
        · walk_at "ss"
          refine ⟨p, F, st, 1, "num", rfl, ha2, ?_⟩
          walk_at "ss"
          rw [e] at q2; exact q2
    | less =>
      · refine r_tupIn (b := false) (by simp only [Op.word]; decide +kernel) (by decide) rfl rfl fun H1 s1 => ?_
        walk_at "ss"
        refine ite_f rfl ?_
        walk_at "ss"
        refine r_tupIn (b := true) (by simp only [Op.word]; decide +kernel) (by decide) rfl rfl fun H2 s2 => ?_
        walk_at "ss"
        refine ite_t rfl ?_
        walk_at "ss"
        have ha2 := L.sm ha (s1.trans s2)
        refine ⟨p, F, st, 0, "num", rfl, ha2, ?_⟩
        walk_at "ss"
        have q2 : Q (.bl (!standsP st 0 "num" || !standsP st 1 "num")) H2 := q H2 (s1.trans s2)
        refine iteB (fun e => ?_) (fun e => ?_)
        · rw [e] at q2; exact q2
        · walk_at "ss"
          refine ⟨p, F, st, 1, "num", rfl, ha2, ?_⟩
          walk_at "ss"
          rw [e] at q2; exact q2
    | ifr r =>
      · refine r_tupIn (b := false) (by simp only [Op.word]; decide +kernel) (by decide) rfl rfl fun H1 s1 => ?_
        walk_at "ss"
        refine ite_f rfl ?_
        walk_at "ss"
        refine r_tupIn (b := false) (by simp only [Op.word]; decide +kernel) (by decide) rfl rfl fun H2 s2 => ?_
        walk_at "ss"
        refine ite_f rfl ?_
        walk_at "ss"
        refine r_tupIn (b := false) (by simp only [Op.word]; decide +kernel) (by decide) rfl rfl fun H3 s3 => ?_
        walk_at "ss"
        refine ite_f rfl ?_
        walk_at "ss"
        refine ite_f (decide_eq_false (by simp only [Op.word]; decide +kernel)) ?_
        walk_at "ss"
        refine ite_f (decide_eq_false (by simp only [Op.word]; decide +kernel)) ?_
        walk_at "ss"
        refine ite_t (decide_eq_true (by simp only [Op.word])) ?_
        walk_at "ss"
        refine ⟨p, F, st, 0, "num", rfl, L.sm ha ((s1.trans s2).trans s3), ?_⟩
        walk_at "ss"
        exact q H3 ((s1.trans s2).trans s3)
    | jump r =>
      · refine r_tupIn (b := false) (by simp only [Op.word]; decide +kernel) (by decide) rfl rfl fun H1 s1 => ?_
        walk_at "ss"
        refine ite_f rfl ?_
        walk_at "ss"
        refine r_tupIn (b := false) (by simp only [Op.word]; decide +kernel) (by decide) rfl rfl fun H2 s2 => ?_
        walk_at "ss"
        refine ite_f rfl ?_
        walk_at "ss"
        refine r_tupIn (b := false) (by simp only [Op.word]; decide +kernel) (by decide) rfl rfl fun H3 s3 => ?_
        walk_at "ss"
        refine ite_f rfl ?_
        walk_at "ss"
        refine ite_f (decide_eq_false (by simp only [Op.word]; decide +kernel)) ?_
        walk_at "ss"
        refine ite_f (decide_eq_false (by simp only [Op.word]; decide +kernel)) ?_
        walk_at "ss"
        refine ite_f (decide_eq_false (by simp only [Op.word]; decide +kernel)) ?_
        exact q H3 ((s1.trans s2).trans s3)
end
end MG

namespace MG
open PySem PySem.Spec PyProof.Rows L2
local macro_rules | `(tactic| walk_at "ne") => `(tactic| first | assumption | exact Ne.symm (by assumption) | exact ne_of_none (by assumption) (by assumption) | exact (ne_of_none (by assumption) (by assumption)).symm)
local macro_rules | `(tactic| walk_at "hp") => `(tactic| first | assumption | exact upd_same | (refine (upd_ne ?k1).trans ?k2; (case k1 => walk_at "ne"); (case k2 => walk_at "hp")))
local macro_rules | `(tactic| walk_at "lk") => `(tactic| first | assumption | with_reducible exact FE_under | with_reducible exact FE_worths | with_reducible exact FE_holders | with_reducible exact FC_running | with_reducible exact FC_wholes | with_reducible exact FC_places | with_reducible exact FC_in_box | with_reducible exact FC_on_peg | with_reducible exact FC_holding | with_reducible exact FC_waiting | with_reducible exact FP_running | with_reducible exact FP_wholes | with_reducible exact FP_places | with_reducible exact FP_in_box | with_reducible exact FP_on_peg | with_reducible exact FP_holding | with_reducible exact FP_waiting | with_reducible exact FP_most | with_reducible exact FP_count_made | with_reducible exact FP_count_handed | with_reducible exact FP_count_moved | with_reducible exact FP_high | with_reducible exact FP_highs | with_reducible exact FP_tops | with_reducible exact FP_above)
/-- one step of a reading that needs nothing but what is written -/
local macro_rules | `(tactic| walk_at "s") => `(tactic| first
  | with_reducible refine r_seq ?_ | with_reducible refine r_next ?_ | with_reducible refine r_set ?_ | with_reducible refine r_asg ?_ | with_reducible refine r_drop ?_ | with_reducible refine r_ret ?_ | with_reducible refine r_retN ?_ | with_reducible refine r_ifs ?_
  | ((with_reducible refine' r_var ?k1 ?_); (case k1 => exact rfl))
  | with_reducible refine r_c ?_ | with_reducible refine r_op ?_ | with_reducible refine r_un ?_ | with_reducible refine r_fld ?_ | with_reducible refine r_sfld ?_ | with_reducible refine r_saug ?_
  | with_reducible refine r_call ?_ | with_reducible refine r_make ?_ | with_reducible refine r_meth ?_ | with_reducible refine r_nil ?_ | with_reducible refine r_cons ?_ | with_reducible refine r_tup ?_ | with_reducible refine r_lst ?_ | with_reducible refine r_cb ?_ | with_reducible refine r_bm ?_ | with_reducible refine r_bm0 ?_
  | with_reducible refine r_tb ?_ | with_reducible refine r_test ?_ | with_reducible refine r_bl ?_ | with_reducible refine r_not ?_ | with_reducible refine r_and ?_ | with_reducible refine r_or ?_ | with_reducible refine r_andV ?_ | with_reducible refine r_orV ?_ | with_reducible refine r_notV ?_
  | with_reducible refine r_I0 ?_ | with_reducible refine r_eqI ?_ | with_reducible refine r_neI ?_ | with_reducible refine r_eqS ?_ | with_reducible refine r_neS ?_ | with_reducible refine r_eqB ?_ | with_reducible refine r_neB ?_
  | with_reducible refine r_gname ?_ | with_reducible refine r_forRev ?_ | with_reducible refine r_forL ?_ | with_reducible refine r_forR1 ?_ | with_reducible refine r_sl ?_ | with_reducible refine r_part ?_ | with_reducible refine r_int ?_ | with_reducible refine r_nopart ?_
  | with_reducible refine r_din ?_ | with_reducible refine r_dnin ?_ | with_reducible refine r_gsub ?_
  | ((with_reducible refine' r_fld1 ?k1 ?k2 ?k3 ?k4 ?_); (case k1 => walk_at "hp"); (case k2 => assumption); (case k3 => assumption); (case k4 => walk_at "lk"))
  | ((with_reducible refine' r_aug1 ?k1 ?k2 ?k3 ?k4 ?_); (case k1 => walk_at "hp"); (case k2 => assumption); (case k3 => assumption); (case k4 => walk_at "lk"))
  | with_reducible refine r_add ?_ | with_reducible refine r_sub ?_
  | ((with_reducible refine' r_meth1 ?k1 ?k2 ?_); (case k1 => walk_at "hp"); (case k2 => first | assumption | exact fz_no (by decide +kernel)))
  | ((with_reducible refine' r_ixT ?k1 ?k2 ?_); (case k1 => first | assumption | exact SqT.of (by walk_at "hp")); (case k2 => first | assumption | rfl)))
local macro_rules | `(tactic| walk_at "ss") => `(tactic| repeat walk_at "s")

/-- a row done: the next row's number, the pile, what is told -/
def stepP : Op → Int → List Wo → Option (Int × List Wo × List Wo)
  | .put n, a, st => some (a + 1, ("num", n) :: st, [])
  | .pick k, a, st => (st[k]?).map fun x => (a + 1, x :: st, [])
  | .drop k, a, st => (st[k]?).map fun _ => (a + 1, st.eraseIdx k, [])
  | .tell, a, x :: st => some (a + 1, st, [x])
  | .add, a, c :: b :: st => if c.1 = "num" ∧ b.1 = "num" then some (a + 1, ("num", b.2 + c.2) :: st, []) else none
  | .less, a, c :: b :: st => if c.1 = "num" ∧ b.1 = "num" then some (a + 1, ("num", b.2 + (0 - c.2)) :: st, []) else none
  | .ifr r, a, x :: st => if x.1 = "num" then some (if x.2 = 0 then a + 1 else (r : Int), st, []) else none
  | .jump r, _, st => some ((r : Int), st, [])
  | _, _, _ => none
theorem Mv.wide {F F' : Addr → Prop} {H H' : Hp} (tl : Addr) (m : Mv F H F' H') : Mv (fun b => F b ∨ b = tl) H (fun b => F' b ∨ b = tl) H' :=
  ⟨fun b o e nf => m.frm b o e fun f => nf (.inl f), m.tup, fun b f => by
    rcases f with f | f
    · rcases m.grow b f with g | g
      · exact .inl (.inl g)
      · exact .inr g
    · exact .inl (.inr f), m.liv⟩
def spReckon (At : AtT) : Sp := fun vs H Q _ => ∃ (p : Addr) (F : Addr → Prop) (c b : Wo) (st : List Wo) (wd : Str), vs = [V.ref p, .str wd] ∧ At H p F (c :: b :: st) ∧ (c :: b :: st).length ≤ 90000 ∧ ∀ H' F', Mv F H F' H' → At H' p F' (("num", if wd = "less" then b.2 + (0 - c.2) else b.2 + c.2) :: st) → Q .non H'
def spReach (At : AtT) : Sp := fun vs H Q _ => ∃ (p : Addr) (F : Addr → Prop) (st : List Wo) (k : Nat) (x : Wo) (wd : Str), vs = [V.ref p, .str wd, .int (k : Int)] ∧ At H p F st ∧ st[k]? = some x ∧ st.length ≤ 90000 ∧ (wd = "pick" ∨ wd = "drop") ∧ ∀ H' F', Mv F H F' H' → At H' p F' (if wd = "pick" then x :: st else st.eraseIdx k) → Q .non H'
def spLead (At : AtT) : Sp := fun vs H Q _ => ∃ (p : Addr) (F : Addr → Prop) (st : List Wo) (wd : Str) (to a : Int), vs = [V.ref p, .str wd, .int to, .int a] ∧ At H p F st ∧ st.length ≤ 90000 ∧
  ((wd = "jump" ∧ ∀ H' F', Mv F H F' H' → At H' p F' st → Q (.int to) H') ∨ (wd = "if" ∧ ∃ x st', st = x :: st' ∧ ∀ H' F', Mv F H F' H' → At H' p F' st' → Q (.int (if x.2 = 0 then a + 1 else to)) H'))
def spDone (At : AtT) : Sp := fun vs H Q _ => ∃ (p t tl : Addr) (F : Addr → Prop) (st st' nw : List Wo) (op : Op) (a a' : Int) (tv : List V), vs = [V.ref p, .ref t, .int a, .ref tl] ∧ At H p F st ∧ H t = some (HO.tup (rowV op)) ∧ stepP op a st = some (a', st', nw) ∧ st.length ≤ 90000 ∧ H tl = some (HO.lst tv) ∧ tv.length ≤ 90000 ∧ ¬ F tl ∧
  ∀ H' F' nv, Mv (fun b => F b ∨ b = tl) H (fun b => F' b ∨ b = tl) H' → At H' p F' st' → ¬ F' tl → H' tl = some (HO.lst (tv ++ nv)) → WL H' nv nw → Q (.int a') H'
section
variable {P : Program} {w : World} {K : PySem.W.Frag} {mg : Str → Option Value} {base : Heap} {C : Addr} {At : AtT}
theorem cal_reckon (T : Txt K w mg) (L : House P w K mg base C At) : Cal P w K mg base 9 "reckon" (spReckon At) [] := by
  obtain ⟨fd, F⟩ := T.f_reckon
  have m_take_0 := L.take0
  have m_put := L.put
  refine ⟨_, fd, P_reckon, [], ?_, T.g_reckon, F.kp, F.bindsN (fun _ _ _ _ _ _ us hl => match us, hl with | [_, _], _ => rfl), .nil⟩
  refine fd_ok F sc_reckon (fun vs H Q E h => ?_) (fun cdv A outer s H vs Q E hr h => ?_)
  · obtain ⟨p, F, c, b, st, wd, rfl, _⟩ := h; rfl
  · obtain ⟨p, F, c, b, st, wd, rfl, ha, hl, q⟩ := h
    obtain ⟨dx, fs, dh, dw, hp, nm, _⟩ := L.com ha
    have n1 := nm "take" (by decide +kernel)
    refine ⟨_, (pss_cons (ps_set (i := 2) sc_reckon.nd rfl (Or.inl rfl) (pe_ix ix_tup (pe_mt0 m_take_0 hr (by decide) (pv 0)) pe_int (fun _ _ => rfl)))
      (pss_cons (ps_set (i := 3) sc_reckon.nd rfl (Or.inl rfl) (pe_ix ix_tup (pe_mt0 m_take_0 hr (by decide) (pv 0)) pe_int (fun _ _ => rfl)))
      (C8.pss_cut (ps_if (pt_cmpR op_eq (pv 1) pe_str (nomark _)) (pss_one (ps_set (i := 2) sc_reckon.nd rfl (Or.inl rfl) (pe_op op_sub pe_int (pv 2)))) pss_nil)
      (pss_one (ps_expr (pe_mt m_put hr (by decide) (pv 0) (pa_cons (pe_tup (pa_cons pe_str (pa_cons (pe_op op_add (pv 3) (pv 2)) pa_nil))) pa_nil))))))), ?_⟩
    simp only [List.length_cons] at hl
    walk_at "ss"
    refine ⟨p, F, _, 0, c, rfl, ha, rfl, by simp only [List.length_cons]; omega, fun v H1 F1 mv1 ha1 ⟨t1, ev, ht1⟩ => ?_⟩
    subst ev
    obtain ⟨dx, fs, dh, dw, hp, nm, _⟩ := L.com ha1
    have n1 := nm "take" (by decide +kernel)
    walk_at "ss"
    refine ⟨p, F1, _, 0, b, rfl, ha1, rfl, by simp only [List.eraseIdx_zero, List.tail_cons, List.length_cons]; omega, fun v H2 F2 mv2 ha2 ⟨t2, ev, ht2⟩ => ?_⟩
    subst ev
    walk_at "ss"
    refine r_cut (fun σ H3 => H3 = H2 ∧ ∃ z : Int, σ = [some (V.ref p), some (.str wd), some (.int z), some (.int b.2)] ∧ b.2 + z = if wd = "less" then b.2 + (0 - c.2) else b.2 + c.2) ?_ ?_
    · walk_at "ss"
      refine iteD (fun e => ?_) (fun e => ?_)
      · walk_at "ss"
        exact ⟨rfl, _, rfl, by rw [if_pos e]⟩
      · walk_at "ss"
        exact ⟨rfl, c.2, rfl, by rw [if_neg e]⟩
    · rintro σ H3 ⟨rfl, z, rfl, ez⟩
      obtain ⟨dx, fs, dh, dw, hp, nm, _⟩ := L.com ha2
      have n2 := nm "put" (by decide +kernel)
      walk_at "ss"
      refine ⟨by show 2 ≤ sizeLine; decide, fun t nt => ?_⟩
      have sm : Sm H3 (upd H3 t (.tup [.str "num", .int (b.2 + z)])) := (Sm.refl H3).new nt
      walk_at "ss"
      refine ⟨p, F2, st, t, ("num", b.2 + z), rfl, L.sm ha2 sm, upd_same, .inl rfl, by omega, fun H4 F4 mv4 ha4 => ?_⟩
      rw [ez] at ha4
      exact q H4 F4 (((mv1.trans mv2).trans (sm.mv F2)).trans mv4) ha4
theorem cal_reach (T : Txt K w mg) (L : House P w K mg base C At) : Cal P w K mg base 9 "reach" (spReach At) [] := by
  obtain ⟨fd, F⟩ := T.f_reach
  have m_take := L.take
  have m_put := L.put
  have m_look := L.look
  refine ⟨_, fd, P_reach, [], ?_, T.g_reach, F.kp, F.bindsN (fun _ _ _ _ _ _ us hl => match us, hl with | [_, _, _], _ => rfl), .nil⟩
  refine fd_ok F sc_reach (fun vs H Q E h => ?_) (fun cdv A outer s H vs Q E hr h => ?_)
  · obtain ⟨p, F, st, k, x, wd, rfl, _⟩ := h; rfl
  · obtain ⟨p, F, st, k, x, wd, rfl, ha, hk, hl, hw, q⟩ := h
    obtain ⟨dx, fs, dh, dw, hp, nm, _⟩ := L.com ha
    have n1 := nm "take" (by decide +kernel)
    have n2 := nm "put" (by decide +kernel)
    have n3 := nm "look" (by decide +kernel)
    refine ⟨_, (pss_one (ps_if (pt_cmpR op_eq (pv 1) pe_str (nomark _)) (pss_one (ps_expr (pe_mt m_put hr (by decide) (pv 0) (pa_cons (pe_mt m_look hr (by decide) (pv 0) (pa_cons (pv 2) pa_nil)) pa_nil)))) (pss_one (ps_if (pt_cmpR op_eq (pv 1) pe_str (nomark _)) (pss_one (ps_expr (pe_mt m_take hr (by decide) (pv 0) (pa_cons (pv 2) pa_nil)))) (pss_one ps_never))))), ?_⟩
    walk_at "ss"
    rcases hw with rfl | rfl
    · refine ite_t (decide_eq_true rfl) ?_
      walk_at "ss"
      refine ⟨p, F, st, k, x, rfl, ha, hk, fun v ⟨t, ev, ht⟩ => ?_⟩
      subst ev
      walk_at "ss"
      refine ⟨p, F, st, t, x, rfl, ha, ht, L.pl ha x (List.mem_of_getElem? hk), by omega, fun H1 F1 mv1 ha1 => ?_⟩
      exact q H1 F1 mv1 (by rw [if_pos rfl]; exact ha1)
    · refine ite_f (by decide +kernel) ?_
      walk_at "ss"
      refine ite_t (decide_eq_true rfl) ?_
      walk_at "ss"
      refine ⟨p, F, st, k, x, rfl, ha, hk, by omega, fun v H1 F1 mv1 ha1 _ => ?_⟩
      walk_at "ss"
      exact q H1 F1 mv1 (by rw [if_neg (by decide +kernel)]; exact ha1)
theorem cal_lead (T : Txt K w mg) (L : House P w K mg base C At) : Cal P w K mg base 9 "lead" (spLead At) [] := by
  obtain ⟨fd, F⟩ := T.f_lead
  have m_take_0 := L.take0
  refine ⟨_, fd, P_lead, [], ?_, T.g_lead, F.kp, F.bindsN (fun _ _ _ _ _ _ us hl => match us, hl with | [_, _, _, _], _ => rfl), .nil⟩
  refine fd_ok F sc_lead (fun vs H Q E h => ?_) (fun cdv A outer s H vs Q E hr h => ?_)
  · obtain ⟨p, F, st, wd, to, a, rfl, _⟩ := h; rfl
  · obtain ⟨p, F, st, wd, to, a, rfl, ha, hl, hq⟩ := h
    obtain ⟨dx, fs, dh, dw, hp, nm, _⟩ := L.com ha
    have n1 := nm "take" (by decide +kernel)
    refine ⟨_, (pss_cons (ps_if (pt_cmpR op_eq (pv 1) pe_str (nomark _)) (pss_one ps_never) pss_nil)
      (pss_cons (ps_if (pt_cmpR op_eq (pv 1) pe_str (nomark _)) (pss_one ps_never) pss_nil)
      (pss_cons (ps_if (pt_cmpR op_eq (pv 1) pe_str (nomark _)) (pss_cons ps_never
      (pss_one ps_never)) pss_nil)
      (pss_cons (ps_if (PW.pt (pw_and (pt_cmpR op_eq (pv 1) pe_str (nomark _)) (pw_and1 (pt_cmpR op_eq (pe_ix ix_tup (pe_mt0 m_take_0 hr (by decide) (pv 0)) pe_int (fun _ _ => rfl)) pe_int (nomark _))))) (pss_one (ps_ret (pe_op op_add (pv 3) pe_int))) pss_nil)
      (pss_cons (ps_if (pt_cmpR op_eq (pv 1) pe_str (nomark _)) (pss_one ps_never) pss_nil)
      (pss_one (ps_ret (pv 2)))))))), ?_⟩
    have w1 : ¬ wd = "go" := by rcases hq with ⟨e, _⟩ | ⟨e, _⟩ <;> rw [e] <;> decide +kernel
    have w2 : ¬ wd = "back" := by rcases hq with ⟨e, _⟩ | ⟨e, _⟩ <;> rw [e] <;> decide +kernel
    have w3 : ¬ wd = "keep" := by rcases hq with ⟨e, _⟩ | ⟨e, _⟩ <;> rw [e] <;> decide +kernel
    have w4 : ¬ wd = "call" := by rcases hq with ⟨e, _⟩ | ⟨e, _⟩ <;> rw [e] <;> decide +kernel
    walk_at "ss"
    refine ite_f (decide_eq_false w1) ?_
    walk_at "ss"
    refine ite_f (decide_eq_false w2) ?_
    walk_at "ss"
    refine ite_f (decide_eq_false w3) ?_
    walk_at "ss"
    rcases hq with ⟨rfl, q⟩ | ⟨rfl, x, st', rfl, q⟩
    · refine ite_f (by decide +kernel) ?_
      refine iteF ?_
      walk_at "ss"
      refine ite_f (decide_eq_false w4) ?_
      walk_at "ss"
      exact q H F (Mv.refl F H) ha
    · refine ite_t (by decide +kernel) ?_
      walk_at "ss"
      refine ⟨p, F, _, 0, x, rfl, ha, rfl, by omega, fun v H1 F1 mv1 ha1 ⟨t1, ev, ht1⟩ => ?_⟩
      subst ev
      have q1 := q H1 F1 mv1 ha1
      walk_at "ss"
      refine iteD (fun e => ?_) (fun e => ?_)
      · walk_at "ss"
        rw [if_pos e] at q1
        exact q1
      · walk_at "ss"
        refine ite_f (decide_eq_false w4) ?_
        walk_at "ss"
        rw [if_neg e] at q1
        exact q1
end
end MG

namespace MG
open PySem PySem.Spec PyProof.Rows L2
local macro_rules | `(tactic| walk_at "ne") => `(tactic| first | assumption | exact Ne.symm (by assumption) | exact ne_of_none (by assumption) (by assumption) | exact (ne_of_none (by assumption) (by assumption)).symm)
local macro_rules | `(tactic| walk_at "hp") => `(tactic| first | assumption | exact upd_same | (refine (upd_ne ?k1).trans ?k2; (case k1 => walk_at "ne"); (case k2 => walk_at "hp")))
local macro_rules | `(tactic| walk_at "lk") => `(tactic| first | assumption | with_reducible exact FE_under | with_reducible exact FE_worths | with_reducible exact FE_holders | with_reducible exact FC_running | with_reducible exact FC_wholes | with_reducible exact FC_places | with_reducible exact FC_in_box | with_reducible exact FC_on_peg | with_reducible exact FC_holding | with_reducible exact FC_waiting | with_reducible exact FP_running | with_reducible exact FP_wholes | with_reducible exact FP_places | with_reducible exact FP_in_box | with_reducible exact FP_on_peg | with_reducible exact FP_holding | with_reducible exact FP_waiting | with_reducible exact FP_most | with_reducible exact FP_count_made | with_reducible exact FP_count_handed | with_reducible exact FP_count_moved | with_reducible exact FP_high | with_reducible exact FP_highs | with_reducible exact FP_tops | with_reducible exact FP_above)
/-- one step of a reading that needs nothing but what is written -/
local macro_rules | `(tactic| walk_at "s") => `(tactic| first
  | with_reducible refine r_seq ?_ | with_reducible refine r_next ?_ | with_reducible refine r_set ?_ | with_reducible refine r_asg ?_ | with_reducible refine r_drop ?_ | with_reducible refine r_ret ?_ | with_reducible refine r_retN ?_ | with_reducible refine r_ifs ?_
  | ((with_reducible refine' r_var ?k1 ?_); (case k1 => exact rfl))
  | with_reducible refine r_c ?_ | with_reducible refine r_op ?_ | with_reducible refine r_un ?_ | with_reducible refine r_fld ?_ | with_reducible refine r_sfld ?_ | with_reducible refine r_saug ?_
  | with_reducible refine r_call ?_ | with_reducible refine r_make ?_ | with_reducible refine r_meth ?_ | with_reducible refine r_nil ?_ | with_reducible refine r_cons ?_ | with_reducible refine r_tup ?_ | with_reducible refine r_lst ?_ | with_reducible refine r_cb ?_ | with_reducible refine r_bm ?_ | with_reducible refine r_bm0 ?_
  | with_reducible refine r_tb ?_ | with_reducible refine r_test ?_ | with_reducible refine r_bl ?_ | with_reducible refine r_not ?_ | with_reducible refine r_and ?_ | with_reducible refine r_or ?_ | with_reducible refine r_andV ?_ | with_reducible refine r_orV ?_ | with_reducible refine r_notV ?_
  | with_reducible refine r_I0 ?_ | with_reducible refine r_eqI ?_ | with_reducible refine r_neI ?_ | with_reducible refine r_eqS ?_ | with_reducible refine r_neS ?_ | with_reducible refine r_eqB ?_ | with_reducible refine r_neB ?_
  | with_reducible refine r_gname ?_ | with_reducible refine r_forRev ?_ | with_reducible refine r_forL ?_ | with_reducible refine r_forR1 ?_ | with_reducible refine r_sl ?_ | with_reducible refine r_part ?_ | with_reducible refine r_int ?_ | with_reducible refine r_nopart ?_
  | with_reducible refine r_din ?_ | with_reducible refine r_dnin ?_ | with_reducible refine r_gsub ?_
  | ((with_reducible refine' r_fld1 ?k1 ?k2 ?k3 ?k4 ?_); (case k1 => walk_at "hp"); (case k2 => assumption); (case k3 => assumption); (case k4 => walk_at "lk"))
  | ((with_reducible refine' r_aug1 ?k1 ?k2 ?k3 ?k4 ?_); (case k1 => walk_at "hp"); (case k2 => assumption); (case k3 => assumption); (case k4 => walk_at "lk"))
  | with_reducible refine r_add ?_ | with_reducible refine r_sub ?_
  | ((with_reducible refine' r_meth1 ?k1 ?k2 ?_); (case k1 => walk_at "hp"); (case k2 => first | assumption | exact fz_no (by decide +kernel)))
  | ((with_reducible refine' r_ixT ?k1 ?k2 ?_); (case k1 => first | assumption | exact SqT.of (by walk_at "hp")); (case k2 => first | assumption | rfl)))
local macro_rules | `(tactic| walk_at "ss") => `(tactic| repeat walk_at "s")

theorem step_add {a : Int} {st : List Wo} {r : Int × List Wo × List Wo} (h : stepP .add a st = some r) : ∃ c b st', st = c :: b :: st' ∧ r = (a + 1, (("num" : Str), b.2 + c.2) :: st', []) := by
  match st, h with
  | c :: b :: st', h =>
    have h' : (if c.1 = "num" ∧ b.1 = "num" then some (a + 1, ((("num" : Str), b.2 + c.2) : Wo) :: st', ([] : List Wo)) else none) = some r := h
    split at h'
    · exact ⟨c, b, st', rfl, (Option.some.inj h').symm⟩
    · cases h'
theorem step_less {a : Int} {st : List Wo} {r : Int × List Wo × List Wo} (h : stepP .less a st = some r) : ∃ c b st', st = c :: b :: st' ∧ r = (a + 1, (("num" : Str), b.2 + (0 - c.2)) :: st', []) := by
  match st, h with
  | c :: b :: st', h =>
    have h' : (if c.1 = "num" ∧ b.1 = "num" then some (a + 1, ((("num" : Str), b.2 + (0 - c.2)) : Wo) :: st', ([] : List Wo)) else none) = some r := h
    split at h'
    · exact ⟨c, b, st', rfl, (Option.some.inj h').symm⟩
    · cases h'
theorem step_ifr {k : Nat} {a : Int} {st : List Wo} {r : Int × List Wo × List Wo} (h : stepP (.ifr k) a st = some r) : ∃ x st', st = x :: st' ∧ r = ((if x.2 = 0 then a + 1 else (k : Int)), st', []) := by
  match st, h with
  | x :: st', h =>
    have h' : (if x.1 = "num" then some ((if x.2 = 0 then a + 1 else (k : Int)), st', ([] : List Wo)) else none) = some r := h
    split at h'
    · exact ⟨x, st', rfl, (Option.some.inj h').symm⟩
    · cases h'
def howP (ops : List Op) (st : List Wo) (a : Nat) : Str := if a = ops.length then "done" else match ops[a]? with
  | some op => if lacksP st op = true then "stuck" else "more"
  | none => "done"
def spHow (At : AtT) : Sp := fun vs H Q _ => ∃ (p R : Addr) (F : Addr → Prop) (st : List Wo) (us : List V) (ops : List Op) (a : Nat), vs = [V.ref p, .ref R, .int (a : Int)] ∧ At H p F st ∧ H R = some (HO.lst us) ∧ RL H us ops ∧ a ≤ ops.length ∧ ∀ H', Sm H H' → Q (.str (howP ops st a)) H'
section
variable {P : Program} {w : World} {K : PySem.W.Frag} {mg : Str → Option Value} {base : Heap} {C : Addr} {At : AtT}
theorem cal_done_row (T : Txt K w mg) (L : House P w K mg base C At) : Cal P w K mg base 10 "done_row" (spDone At) [] := by
  obtain ⟨fd, F⟩ := T.f_done_row
  have m_take_0 := L.take0
  have m_put := L.put
  have c_lead : Cal P w K mg base 9 "lead" (spLead At) [] := cal_lead T L
  have c_reach : Cal P w K mg base 9 "reach" (spReach At) [] := cal_reach T L
  have c_reckon : Cal P w K mg base 9 "reckon" (spReckon At) [] := cal_reckon T L
  refine ⟨_, fd, P_done_row, [], ?_, T.g_done_row, F.kp, F.bindsN (fun _ _ _ _ _ _ us hl => match us, hl with | [_, _, _, _], _ => rfl), .nil⟩
  refine fd_ok F sc_done_row (fun vs H Q E h => ?_) (fun cdv A outer s H vs Q E hr h => ?_)
  · obtain ⟨p, t, tl, F, st, st', nw, op, a, a', tv, rfl, _⟩ := h; rfl
  · obtain ⟨p, t, tl, F, st, st', nw, op, a, a', tv, rfl, ha, ht, hs, hl, hT, htl, nF, q⟩ := h
    refine ⟨_, (pss_cons (ps_set (i := 4) sc_done_row.nd rfl (Or.inl rfl) (pe_ix ix_tup (pv 1) pe_int (fun _ _ => rfl)))
      (pss_cons (ps_if (pt_cmpR op_in_seq (pv 4) (pe_tup (pa_cons pe_str (pa_cons pe_str (pa_cons pe_str (pa_cons pe_str (pa_cons pe_str (pa_cons pe_str pa_nil))))))) (by rfl)) (pss_one (ps_ret (pe_c c_lead hr (by decide) rfl (pa_cons (pv 0) (pa_cons (pv 4) (pa_cons (pe_ix ix_tup (pv 1) pe_int (fun _ _ => rfl)) (pa_cons (pv 2) pa_nil))))))) pss_nil)
      (pss_cons (ps_if (pt_cmpR op_eq (pv 4) pe_str (nomark _)) (pss_one (ps_expr (pe_mt m_put hr (by decide) (pv 0) (pa_cons (pe_tup (pa_cons pe_str (pa_cons (pe_ix ix_tup (pv 1) pe_int (fun _ _ => rfl)) pa_nil))) pa_nil)))) (pss_one (ps_if (pt_cmpR op_in_seq (pv 4) (pe_tup (pa_cons pe_str (pa_cons pe_str (pa_cons pe_str pa_nil)))) (by rfl)) (pss_one (ps_expr (pe_c c_reach hr (by decide) rfl (pa_cons (pv 0) (pa_cons (pv 4) (pa_cons (pe_ix ix_tup (pv 1) pe_int (fun _ _ => rfl)) pa_nil)))))) (pss_one (ps_if (pt_cmpR op_in_seq (pv 4) (pe_tup (pa_cons pe_str (pa_cons pe_str pa_nil))) (by rfl)) (pss_one (ps_expr (pe_c c_reckon hr (by decide) rfl (pa_cons (pv 0) (pa_cons (pv 4) pa_nil))))) (pss_one (ps_if (pt_cmpR op_in_seq (pv 4) (pe_tup (pa_cons pe_str (pa_cons pe_str pa_nil))) (by rfl)) (pss_one ps_never) (pss_one (ps_if (pt_cmpR op_eq (pv 4) pe_str (nomark _)) (pss_one ps_never) (pss_one (ps_if (pt_cmpR op_eq (pv 4) pe_str (nomark _)) (pss_one ps_never) (pss_one (ps_expr (pe_bm PySem.F.plainAttrs_list PySem.F.slot_list_append PySem.F.type_list_append mt_append (pv 3) (pa_cons (pe_mt0 m_take_0 hr (by decide) (pv 0)) pa_nil)))))))))))))))
      (pss_one (ps_ret (pe_op op_add (pv 2) pe_int)))))), ?_⟩
    -- what is left where nothing is told
    have fin : ∀ {H1 H' : Hp} {F' : Addr → Prop}, Sm H H1 → Mv F H1 F' H' → At H' p F' st' → nw = [] → Q (.int a') H' := fun {H1 H' F'} s1 mv ha' en => by
      have mv' := (s1.mv F).trans mv
      refine q H' F' [] (mv'.wide tl) ha' (mv'.nF hT nF) ?_ (by rw [en]; exact .nil)
      rw [List.append_nil]
      exact mv'.frm _ _ hT nF
    walk_at "ss"
    refine r_ixT (SqT.of ht) (atI_nat (j := 0) row0) ?_
    walk_at "ss"
    cases op with
    | put n =>
      cases hs
      refine r_tupIn (b := false) (by simp only [Op.word]; decide +kernel) (by decide) rfl rfl fun H1 s1 => ?_
      walk_at "ss"
      refine ite_f rfl ?_
      walk_at "ss"
      refine ite_t (decide_eq_true (by simp only [Op.word])) ?_
      have ha1 := L.sm ha s1
      obtain ⟨dx, fs, dh, dw, hp, nm, _⟩ := L.com ha1
      have n1 := nm "put" (by decide +kernel)
      walk_at "ss"
      refine r_ixT (SqT.of (s1 _ _ ht)) (atI_nat (j := 1) rfl) ?_
      walk_at "ss"
      refine ⟨by show 2 ≤ sizeLine; decide, fun x nx => ?_⟩
      have s2 : Sm H1 (upd H1 x (.tup [.str "num", .int n])) := (Sm.refl H1).new nx
      walk_at "ss"
      refine ⟨p, F, st, x, ("num", n), rfl, L.sm ha1 s2, upd_same, .inl rfl, by omega, fun H2 F2 mv2 ha2 => ?_⟩
      walk_at "ss"
      exact fin (s1.trans s2) mv2 ha2 rfl
    | pick k =>
      obtain ⟨x, hk, e⟩ := Option.map_eq_some_iff.mp hs
      cases e
      refine r_tupIn (b := false) (by simp only [Op.word]; decide +kernel) (by decide) rfl rfl fun H1 s1 => ?_
      walk_at "ss"
      refine ite_f rfl ?_
      walk_at "ss"
      refine ite_f (decide_eq_false (by simp only [Op.word]; decide +kernel)) ?_
      walk_at "ss"
      refine r_tupIn (b := true) (by simp only [Op.word]; decide +kernel) (by decide) rfl rfl fun H2 s2 => ?_
      walk_at "ss"
      refine ite_t rfl ?_
      walk_at "ss"
      refine r_ixT (SqT.of (s2 _ _ (s1 _ _ ht))) (atI_nat (j := 1) rfl) ?_
      walk_at "ss"
      refine ⟨p, F, st, k, x, _, rfl, L.sm ha (s1.trans s2), hk, hl, .inl rfl, fun H3 F3 mv3 ha3 => ?_⟩
      rw [if_pos (by simp only [Op.word])] at ha3
      walk_at "ss"
      exact fin (s1.trans s2) mv3 ha3 rfl
    | drop k =>
      obtain ⟨x, hk, e⟩ := Option.map_eq_some_iff.mp hs
      cases e
      refine r_tupIn (b := false) (by simp only [Op.word]; decide +kernel) (by decide) rfl rfl fun H1 s1 => ?_
      walk_at "ss"
      refine ite_f rfl ?_
      walk_at "ss"
      refine ite_f (decide_eq_false (by simp only [Op.word]; decide +kernel)) ?_
      walk_at "ss"
      refine r_tupIn (b := true) (by simp only [Op.word]; decide +kernel) (by decide) rfl rfl fun H2 s2 => ?_
      walk_at "ss"
      refine ite_t rfl ?_
      walk_at "ss"
      refine r_ixT (SqT.of (s2 _ _ (s1 _ _ ht))) (atI_nat (j := 1) rfl) ?_
      walk_at "ss"
      refine ⟨p, F, st, k, x, _, rfl, L.sm ha (s1.trans s2), hk, hl, .inr rfl, fun H3 F3 mv3 ha3 => ?_⟩
      rw [if_neg (by simp only [Op.word]; decide +kernel)] at ha3
      walk_at "ss"
      exact fin (s1.trans s2) mv3 ha3 rfl
    | tell =>
      cases st with
      | nil => cases hs
      | cons x st =>
        cases hs
        refine r_tupIn (b := false) (by simp only [Op.word]; decide +kernel) (by decide) rfl rfl fun H1 s1 => ?_
        walk_at "ss"
        refine ite_f rfl ?_
        walk_at "ss"
        refine ite_f (decide_eq_false (by simp only [Op.word]; decide +kernel)) ?_
        walk_at "ss"
        refine r_tupIn (b := false) (by simp only [Op.word]; decide +kernel) (by decide) rfl rfl fun H2 s2 => ?_
        walk_at "ss"
        refine ite_f rfl ?_
        walk_at "ss"
        refine r_tupIn (b := false) (by simp only [Op.word]; decide +kernel) (by decide) rfl rfl fun H3 s3 => ?_
        walk_at "ss"
        refine ite_f rfl ?_
        walk_at "ss"
        refine r_tupIn (b := false) (by simp only [Op.word]; decide +kernel) (by decide) rfl rfl fun H4 s4 => ?_
        walk_at "ss"
        refine ite_f rfl ?_
        walk_at "ss"
        refine ite_f (decide_eq_false (by simp only [Op.word]; decide +kernel)) ?_
        walk_at "ss"
        refine ite_f (decide_eq_false (by simp only [Op.word]; decide +kernel)) ?_
        have sm := ((s1.trans s2).trans s3).trans s4
        have ha4 := L.sm ha sm
        have hT4 := sm _ _ hT
        obtain ⟨dx, fs, dh, dw, hp, nm, _⟩ := L.com ha4
        have n1 := nm "take" (by decide +kernel)
        walk_at "ss"
        refine ⟨tyL hT4, ?_⟩
        walk_at "ss"
        refine ⟨p, F, _, 0, x, rfl, ha4, rfl, by omega, fun v H5 F5 mv5 ha5 wv => ?_⟩
        have hT5 := mv5.frm _ _ hT4 nF
        have nF5 := mv5.nF hT4 nF
        walk_at "ss"
        refine r_append hT5 (small5 (by omega)) ?_
        walk_at "ss"
        have tp := tup_l (o := HO.lst (tv ++ [v])) hT5
        refine q _ F5 [v] ?_ (L.ex_ ha5 nF5 hT5) nF5 upd_same (.one (wv.keep tp))
        exact (((sm.mv F).trans mv5).wide tl).wr (.inr rfl) fun xs z => by rw [hT5] at z; cases z
    | add =>
      obtain ⟨c, b, st1, rfl, e⟩ := step_add hs
      cases e
      · · refine r_tupIn (b := false) (by simp only [Op.word]; decide +kernel) (by decide) rfl rfl fun H1 s1 => ?_
          walk_at "ss"
          refine ite_f rfl ?_
          walk_at "ss"
          refine ite_f (decide_eq_false (by simp only [Op.word]; decide +kernel)) ?_
          walk_at "ss"
          refine r_tupIn (b := false) (by simp only [Op.word]; decide +kernel) (by decide) rfl rfl fun H2 s2 => ?_
          walk_at "ss"
          refine ite_f rfl ?_
          walk_at "ss"
          refine r_tupIn (b := true) (by simp only [Op.word]; decide +kernel) (by decide) rfl rfl fun H3 s3 => ?_
          walk_at "ss"
          refine ite_t rfl ?_
          walk_at "ss"
          have sm := (s1.trans s2).trans s3
          refine ⟨p, F, c, b, st1, _, rfl, L.sm ha sm, hl, fun H4 F4 mv4 ha4 => ?_⟩
          rw [if_neg (by simp only [Op.word]; decide +kernel)] at ha4
          walk_at "ss"
          exact fin sm mv4 ha4 rfl
    | less =>
      obtain ⟨c, b, st1, rfl, e⟩ := step_less hs
      cases e
      · · refine r_tupIn (b := false) (by simp only [Op.word]; decide +kernel) (by decide) rfl rfl fun H1 s1 => ?_
          walk_at "ss"
          refine ite_f rfl ?_
          walk_at "ss"
          refine ite_f (decide_eq_false (by simp only [Op.word]; decide +kernel)) ?_
          walk_at "ss"
          refine r_tupIn (b := false) (by simp only [Op.word]; decide +kernel) (by decide) rfl rfl fun H2 s2 => ?_
          walk_at "ss"
          refine ite_f rfl ?_
          walk_at "ss"
          refine r_tupIn (b := true) (by simp only [Op.word]; decide +kernel) (by decide) rfl rfl fun H3 s3 => ?_
          walk_at "ss"
          refine ite_t rfl ?_
          walk_at "ss"
          have sm := (s1.trans s2).trans s3
          refine ⟨p, F, c, b, st1, _, rfl, L.sm ha sm, hl, fun H4 F4 mv4 ha4 => ?_⟩
          rw [if_pos (by simp only [Op.word])] at ha4
          walk_at "ss"
          exact fin sm mv4 ha4 rfl
    | ifr r =>
      obtain ⟨x, st1, rfl, e⟩ := step_ifr hs
      cases e
      · · refine r_tupIn (b := true) (by simp only [Op.word]; decide +kernel) (by decide) rfl rfl fun H1 s1 => ?_
          walk_at "ss"
          refine ite_t rfl ?_
          walk_at "ss"
          refine r_ixT (SqT.of (s1 _ _ ht)) (atI_nat (j := 1) rfl) ?_
          walk_at "ss"
          exact ⟨p, F, _, _, _, a, rfl, L.sm ha s1, hl, .inr ⟨rfl, x, _, rfl, fun H2 F2 mv2 ha2 => fin s1 mv2 ha2 rfl⟩⟩
    | jump r =>
      cases hs
      refine r_tupIn (b := true) (by simp only [Op.word]; decide +kernel) (by decide) rfl rfl fun H1 s1 => ?_
      walk_at "ss"
      refine ite_t rfl ?_
      walk_at "ss"
      refine r_ixT (SqT.of (s1 _ _ ht)) (atI_nat (j := 1) rfl) ?_
      walk_at "ss"
      exact ⟨p, F, st, _, _, a, rfl, L.sm ha s1, hl, .inl ⟨rfl, fun H2 F2 mv2 ha2 => fin s1 mv2 ha2 rfl⟩⟩
theorem cal_how_it_is (T : Txt K w mg) (L : House P w K mg base C At) : Cal P w K mg base 12 "how_it_is" (spHow At) [] := by
  obtain ⟨fd, F⟩ := T.f_how_it_is
  have c_lacks : Cal P w K mg base 11 "lacks" (spLacks At) [] := cal_lacks T L
  refine ⟨_, fd, P_how_it_is, [], ?_, T.g_how_it_is, F.kp, F.bindsN (fun _ _ _ _ _ _ us hl => match us, hl with | [_, _, _], _ => rfl), .nil⟩
  refine fd_ok F sc_how_it_is (fun vs H Q E h => ?_) (fun cdv A outer s H vs Q E hr h => ?_)
  · obtain ⟨p, R, F, st, us, ops, a, rfl, _⟩ := h; rfl
  · obtain ⟨p, R, F, st, us, ops, a, rfl, ha, hR, hrl, hal, q⟩ := h
    refine ⟨_, (pss_cons (ps_if (pt_cmpR op_eq (pv 2) (pe_callB call_len_seq (by rfl) T.b_len (by decide +kernel) (pa_cons (pv 1) pa_nil)) (nomark _)) (pss_one (ps_ret pe_str)) pss_nil)
      (pss_cons (ps_if (pt_val (pe_c c_lacks hr (by decide) rfl (pa_cons (pv 0) (pa_cons (pe_ix ix_list (pv 1) (pv 2) (fun _ _ => rfl)) (pa_cons (pe_callB call_len_seq (by rfl) T.b_len (by decide +kernel) (pa_cons (pv 1) pa_nil)) pa_nil))))) (pss_one (ps_ret pe_str)) pss_nil)
      (pss_one (ps_ret pe_str)))), ?_⟩
    walk_at "ss"
    refine ⟨R, us, rfl, .inl (SqL.of hR), ?_⟩
    walk_at "ss"
    rw [hrl.1]
    refine iteD (fun e => ?_) (fun e => ?_)
    · walk_at "ss"
      have e1 : howP ops st a = "done" := by unfold howP; rw [if_pos (by omega)]
      rw [e1] at q
      exact q H (Sm.refl H)
    · have hlt : a < ops.length := by omega
      obtain ⟨t, h1, h2⟩ := hrl.2 a ops[a] (List.getElem?_eq_getElem hlt)
      have e1 : howP ops st a = if lacksP st ops[a] = true then ("stuck" : Str) else ("more" : Str) := by
        unfold howP
        rw [if_neg (by omega), List.getElem?_eq_getElem hlt]
      rw [e1] at q
      walk_at "ss"
      refine r_ixL (SqL.of hR) (atI_nat h1) ?_
      walk_at "ss"
      refine ⟨R, us, rfl, .inl (SqL.of hR), ?_⟩
      refine ⟨p, t, F, st, ops[a], _, rfl, ha, h2, fun H1 s1 => ?_⟩
      have q1 := q H1 s1
      walk_at "ss"
      refine iteB (fun e => ?_) (fun e => ?_)
      · walk_at "ss"
        rw [if_pos e] at q1
        exact q1
      · walk_at "ss"
        rw [if_neg (by rw [e]; decide)] at q1
        exact q1
end
end MG

namespace MG
open PySem PySem.Spec PyProof.Rows L2
local macro_rules | `(tactic| walk_at "ne") => `(tactic| first | assumption | exact Ne.symm (by assumption) | exact ne_of_none (by assumption) (by assumption) | exact (ne_of_none (by assumption) (by assumption)).symm)
local macro_rules | `(tactic| walk_at "hp") => `(tactic| first | assumption | exact upd_same | (refine (upd_ne ?k1).trans ?k2; (case k1 => walk_at "ne"); (case k2 => walk_at "hp")))
local macro_rules | `(tactic| walk_at "lk") => `(tactic| first | assumption | with_reducible exact FE_under | with_reducible exact FE_worths | with_reducible exact FE_holders | with_reducible exact FC_running | with_reducible exact FC_wholes | with_reducible exact FC_places | with_reducible exact FC_in_box | with_reducible exact FC_on_peg | with_reducible exact FC_holding | with_reducible exact FC_waiting | with_reducible exact FP_running | with_reducible exact FP_wholes | with_reducible exact FP_places | with_reducible exact FP_in_box | with_reducible exact FP_on_peg | with_reducible exact FP_holding | with_reducible exact FP_waiting | with_reducible exact FP_most | with_reducible exact FP_count_made | with_reducible exact FP_count_handed | with_reducible exact FP_count_moved | with_reducible exact FP_high | with_reducible exact FP_highs | with_reducible exact FP_tops | with_reducible exact FP_above)
/-- one step of a reading that needs nothing but what is written -/
local macro_rules | `(tactic| walk_at "s") => `(tactic| first
  | with_reducible refine r_seq ?_ | with_reducible refine r_next ?_ | with_reducible refine r_set ?_ | with_reducible refine r_asg ?_ | with_reducible refine r_drop ?_ | with_reducible refine r_ret ?_ | with_reducible refine r_retN ?_ | with_reducible refine r_ifs ?_
  | ((with_reducible refine' r_var ?k1 ?_); (case k1 => exact rfl))
  | with_reducible refine r_c ?_ | with_reducible refine r_op ?_ | with_reducible refine r_un ?_ | with_reducible refine r_fld ?_ | with_reducible refine r_sfld ?_ | with_reducible refine r_saug ?_
  | with_reducible refine r_call ?_ | with_reducible refine r_make ?_ | with_reducible refine r_meth ?_ | with_reducible refine r_nil ?_ | with_reducible refine r_cons ?_ | with_reducible refine r_tup ?_ | with_reducible refine r_lst ?_ | with_reducible refine r_cb ?_ | with_reducible refine r_bm ?_ | with_reducible refine r_bm0 ?_
  | with_reducible refine r_tb ?_ | with_reducible refine r_test ?_ | with_reducible refine r_bl ?_ | with_reducible refine r_not ?_ | with_reducible refine r_and ?_ | with_reducible refine r_or ?_ | with_reducible refine r_andV ?_ | with_reducible refine r_orV ?_ | with_reducible refine r_notV ?_
  | with_reducible refine r_I0 ?_ | with_reducible refine r_eqI ?_ | with_reducible refine r_neI ?_ | with_reducible refine r_eqS ?_ | with_reducible refine r_neS ?_ | with_reducible refine r_eqB ?_ | with_reducible refine r_neB ?_
  | with_reducible refine r_gname ?_ | with_reducible refine r_forRev ?_ | with_reducible refine r_forL ?_ | with_reducible refine r_forR1 ?_ | with_reducible refine r_sl ?_ | with_reducible refine r_part ?_ | with_reducible refine r_int ?_ | with_reducible refine r_nopart ?_
  | with_reducible refine r_din ?_ | with_reducible refine r_dnin ?_ | with_reducible refine r_gsub ?_
  | ((with_reducible refine' r_fld1 ?k1 ?k2 ?k3 ?k4 ?_); (case k1 => walk_at "hp"); (case k2 => assumption); (case k3 => assumption); (case k4 => walk_at "lk"))
  | ((with_reducible refine' r_aug1 ?k1 ?k2 ?k3 ?k4 ?_); (case k1 => walk_at "hp"); (case k2 => assumption); (case k3 => assumption); (case k4 => walk_at "lk"))
  | with_reducible refine r_add ?_ | with_reducible refine r_sub ?_
  | ((with_reducible refine' r_meth1 ?k1 ?k2 ?_); (case k1 => walk_at "hp"); (case k2 => first | assumption | exact fz_no (by decide +kernel)))
  | ((with_reducible refine' r_ixT ?k1 ?k2 ?_); (case k1 => first | assumption | exact SqT.of (by walk_at "hp")); (case k2 => first | assumption | rfl)))
local macro_rules | `(tactic| walk_at "ss") => `(tactic| repeat walk_at "s")

theorem Mv.told {F F1 F2 : Addr → Prop} {H H1 H2 : Hp} {tl : Addr} (a : Mv F H F1 H1) (ht : H tl = none) (b : Mv (fun b => F1 b ∨ b = tl) H1 (fun b => F2 b ∨ b = tl) H2) : Mv F H F2 H2 where
  frm := fun c o h hn => b.frm c o (a.frm c o h hn) fun f => by
    rcases f with f | f
    · rcases a.grow c f with g | g
      · exact hn g
      · rw [h] at g; cases g
    · rw [f, ht] at h; cases h
  tup := fun c xs h => b.tup c xs (a.tup c xs h)
  grow := fun c f => by
    rcases b.grow c (.inl f) with (g | g) | g
    · exact a.grow c g
    · exact .inr (g ▸ ht)
    · cases e : H c with
      | none => exact .inr rfl
      | some o => exact absurd g (a.liv c (by rw [e]; exact fun z => nomatch z))
  liv := fun c h => b.liv c (a.liv c h)
/-- where a run is: the next row, the pile, what is told -/
abbrev Tr := Nat × List Wo × List Wo
def Nx (ops : List Op) (x y : Tr) : Prop := ∃ op nw, ops[x.1]? = some op ∧ lacksP x.2.1 op = false ∧ stepP op (x.1 : Int) x.2.1 = some ((y.1 : Int), y.2.1, nw) ∧ y.2.2 = x.2.2 ++ nw
structure Goes (ops : List Op) (tr : Nat → Tr) (m : Nat) : Prop where
  nx : ∀ i, i < m → Nx ops (tr i) (tr (i + 1))
  sz : ∀ i, i ≤ m → (tr i).2.1.length ≤ 90000 ∧ (tr i).2.2.length ≤ 90000 ∧ (tr i).1 ≤ ops.length
theorem Nx.more {ops : List Op} {x y : Tr} (h : Nx ops x y) : howP ops x.2.1 x.1 = "more" := by
  obtain ⟨op, nw, e, l, _⟩ := h
  have hlt := (List.getElem?_eq_some_iff.mp e).1
  unfold howP
  rw [if_neg (by omega), e]
  show (if lacksP x.2.1 op = true then ("stuck" : Str) else ("more" : Str)) = "more"
  rw [if_neg (by rw [l]; decide)]
def spRun (At : AtT) : Sp := fun vs H Q _ => ∃ (p R : Addr) (F : Addr → Prop) (us : List V) (ops : List Op) (steps m : Nat) (tr : Nat → Tr), vs = [V.ref p, .ref R, .int (steps : Int), .int ((tr 0).1 : Int)] ∧ At H p F (tr 0).2.1 ∧ (tr 0).2.2 = [] ∧ H R = some (HO.lst us) ∧ RL H us ops ∧ (∀ op ∈ ops, Op.ok ops.length op) ∧ ¬ F R ∧ steps ≤ 1000 ∧ m ≤ steps ∧ Goes ops tr m ∧ (m = steps ∨ ¬ howP ops (tr m).2.1 (tr m).1 = "more") ∧
  ∀ H' F' t tl tv, Mv F H F' H' → At H' p F' (tr m).2.1 → H' t = some (HO.tup [.str (howP ops (tr m).2.1 (tr m).1), .int ((tr m).1 : Int), .ref tl, .int (m : Int)]) → H' tl = some (HO.lst tv) → WL H' tv (tr m).2.2 → Q (.ref t) H'
section
variable {P : Program} {w : World} {K : PySem.W.Frag} {mg : Str → Option Value} {base : Heap} {C : Addr} {At : AtT}
theorem cal_run (T : Txt K w mg) (L : House P w K mg base C At) : Cal P w K mg base 13 "run" (spRun At) [] := by
  obtain ⟨fd, F⟩ := T.f_run
  have c_is_program : Cal P w K mg base 3 "is_program" spIsProgram [] := cal_is_program T
  have c_how_it_is : Cal P w K mg base 12 "how_it_is" (spHow At) [] := cal_how_it_is T L
  have c_done_row : Cal P w K mg base 10 "done_row" (spDone At) [] := cal_done_row T L
  obtain ⟨ds, hv, hb⟩ := F.binds1 (ps := P_run) 4 1 (fun z => nomatch z) rfl (fun _ _ _ _ _ _ _ us its hl hi => match us, its, hl, hi with | [_, _, _, _], [_], _, _ => ⟨_, rfl, rfl⟩)
  refine ⟨_, fd, P_run, ds, ?_, T.g_run, F.kp, hb, hv⟩
  refine fd_ok F sc_run (fun vs H Q E h => ?_) (fun cdv A outer s H vs Q E hr h => ?_)
  · obtain ⟨p, R, F, us, ops, steps, m, tr, rfl, _⟩ := h; rfl
  · obtain ⟨p, R, F, us, ops, steps, m, tr, rfl, ha, h0, hR, hrl, ok, nFR, s1000, hms, go, hend, q⟩ := h
    refine ⟨_, (pss_cons (ps_if (pt_not (pt_val (pe_c c_is_program hr (by decide) rfl (pa_cons (pv 1) pa_nil)))) (pss_one ps_never) pss_nil)
      (pss_cons (ps_if (PW.pt (pw_or (pt_cmpR op_lt (pv 2) pe_int (nomark _)) (pw_or1 (pt_cmpR op_gt (pv 2) (pe_gc (by rfl) T.c_MOST_STEPS) (nomark _))))) (pss_one ps_never) pss_nil)
      (pss_cons (ps_if (PW.pt (pw_or (pt_cmpR op_lt (pv 3) pe_int (nomark _)) (pw_or1 (pt_cmpR op_gt (pv 3) (pe_callB call_len_seq (by rfl) T.b_len (by decide +kernel) (pa_cons (pv 1) pa_nil)) (nomark _))))) (pss_one ps_never) pss_nil)
      (pss_cons (ps_set (i := 4) sc_run.nd rfl (Or.inl rfl) (pe_lst pa_nil))
      (pss_cons (ps_set (i := 5) sc_run.nd rfl (Or.inl rfl) pe_int)
      (pss_cons (ps_while PassesOwn.never (PW.pt (pw_and (pt_cmpR op_lt (pv 5) (pv 2) (nomark _)) (pw_and1 (pt_cmpR op_eq (pe_c c_how_it_is hr (by decide) rfl (pa_cons (pv 0) (pa_cons (pv 1) (pa_cons (pv 3) pa_nil)))) pe_str (nomark _))))) (pss_cons (ps_set (i := 3) sc_run.nd rfl (Or.inl rfl) (pe_c c_done_row hr (by decide) rfl (pa_cons (pv 0) (pa_cons (pe_ix ix_list (pv 1) (pv 3) (fun _ _ => rfl)) (pa_cons (pv 3) (pa_cons (pv 4) pa_nil))))))
      (pss_one (ps_aug (i := 5) sc_run.nd rfl (Or.inl rfl) pe_int ip_add))))
      (pss_one (ps_ret (pe_tup (pa_cons (pe_c c_how_it_is hr (by decide) rfl (pa_cons (pv 0) (pa_cons (pv 1) (pa_cons (pv 3) pa_nil)))) (pa_cons (pv 3) (pa_cons (pv 4) (pa_cons (pv 5) pa_nil))))))))))))), ?_⟩
    walk_at "ss"
    refine ⟨R, us, ops, rfl, hR, hrl, ok, fun H1 s1 => ?_⟩
    walk_at "ss"
    refine ite_f rfl ?_
    walk_at "ss"
    refine ite_f (decide_eq_false (by omega)) ?_
    walk_at "ss"
    refine ite_f (decide_eq_false (by omega)) ?_
    walk_at "ss"
    refine ite_f (decide_eq_false (by omega)) ?_
    walk_at "ss"
    refine ⟨R, us, rfl, .inl (SqL.of (s1 _ _ hR)), ?_⟩
    walk_at "ss"
    have sz0 := (go.sz 0 (Nat.zero_le _)).2.2
    refine ite_f (decide_eq_false (by rw [hrl.1]; omega)) ?_
    walk_at "ss"
    refine ⟨Nat.zero_le _, fun tl ntl => ?_⟩
    have s2 : Sm H (upd H1 tl (.lst [])) := s1.new ntl
    have ntl0 : H tl = none := by
      cases e : H tl with
      | none => rfl
      | some o => rw [s1 _ _ e] at ntl; cases ntl
    have nFtl : ¬ F tl := L.out_ ha ntl0
    walk_at "ss"
    refine ⟨fun n σ H2 => ∃ i F2 tv, i ≤ m ∧ n = m - i ∧ σ = [some (V.ref p), some (.ref R), some (.int (steps : Int)), some (.int ((tr i).1 : Int)), some (.ref tl), some (.int (i : Int))] ∧ Mv F H F2 H2 ∧ At H2 p F2 (tr i).2.1 ∧ ¬ F2 tl ∧ H2 tl = some (HO.lst tv) ∧ WL H2 tv (tr i).2.2,
      ⟨_, 0, F, [], Nat.zero_le _, rfl, rfl, s2.mv F, L.sm ha s2, nFtl, upd_same, by rw [h0]; exact .nil⟩, ?_⟩
    rintro n σ H2 ⟨i, F2, tv, hi, rfl, rfl, mv, ha2, nF2, hT, wl⟩
    have hR2 := mv.frm _ _ hR nFR
    have nF2R := mv.nF hR nFR
    have hrl2 := hrl.keep mv.tup
    obtain ⟨z1, z2, z3⟩ := go.sz i hi
    walk_at "ss"
    by_cases hlt : i < m
    · have nx := go.nx i hlt
      refine ite_t (decide_eq_true (by omega)) ?_
      walk_at "ss"
      refine ⟨p, R, F2, _, us, ops, (tr i).1, rfl, ha2, hR2, hrl2, z3, fun H3 s3 => ?_⟩
      rw [nx.more]
      walk_at "ss"
      refine ite_t (decide_eq_true rfl) ⟨_, fun _ _ n => n, ?_⟩
      obtain ⟨op, nw, e1, e2, e3, e4⟩ := nx
      obtain ⟨t, h1, h2⟩ := (hrl2.keep fun b xs e => s3 b _ e).2 _ _ e1
      walk_at "ss"
      refine r_ixL (SqL.of (s3 _ _ hR2)) (atI_nat h1) ?_
      walk_at "ss"
      refine ⟨p, t, tl, F2, _, _, nw, op, _, _, tv, rfl, L.sm ha2 s3, h2, e3, z1, s3 _ _ hT, by rw [wl.length]; exact z2, nF2, fun H4 F4 nv mv4 ha4 nF4 hT4 wl4 => ?_⟩
      walk_at "ss"
      refine ⟨_, rfl, ?_⟩
      walk_at "ss"
      refine ⟨_, _, rfl, rfl, ?_⟩
      refine ⟨m - (i + 1), by omega, i + 1, F4, tv ++ nv, hlt, rfl, rfl, (mv.trans (s3.mv F2)).told ntl0 mv4, ha4, nF4, hT4, ?_⟩
      rw [e4]
      exact (wl.keep fun b xs e => mv4.tup b xs (s3 b _ e)).append wl4
    · have ei : i = m := by omega
      subst ei
      by_cases e : i = steps
      · refine ite_f (decide_eq_false (by omega)) ?_
        refine iteF ?_
        have s3 : Sm H2 H2 := Sm.refl H2
        walk_at "ss"
        refine ⟨p, R, F2, _, us, ops, (tr i).1, rfl, L.sm ha2 s3, s3 _ _ hR2, hrl2.keep fun b xs e => s3 b _ e, z3, fun H4 s4 => ?_⟩
        walk_at "ss"
        refine ⟨by show 4 ≤ sizeLine; decide, fun t nt => ?_⟩
        have s5 := s3.trans (s4.new (o := .tup [.str (howP ops (tr i).2.1 (tr i).1), .int ((tr i).1 : Int), .ref tl, .int (i : Int)]) nt)
        exact q _ F2 t tl tv (mv.trans (s5.mv F2)) (L.sm ha2 s5) upd_same (s5 _ _ hT) (wl.keep fun b xs e => s5 b _ e)
      · refine ite_t (decide_eq_true (by omega)) ?_
        walk_at "ss"
        refine ⟨p, R, F2, _, us, ops, (tr i).1, rfl, ha2, hR2, hrl2, z3, fun H3 s3 => ?_⟩
        walk_at "ss"
        refine ite_f (decide_eq_false (hend.resolve_left e)) ?_
        walk_at "ss"
        refine ⟨p, R, F2, _, us, ops, (tr i).1, rfl, L.sm ha2 s3, s3 _ _ hR2, hrl2.keep fun b xs e => s3 b _ e, z3, fun H4 s4 => ?_⟩
        walk_at "ss"
        refine ⟨by show 4 ≤ sizeLine; decide, fun t nt => ?_⟩
        have s5 := s3.trans (s4.new (o := .tup [.str (howP ops (tr i).2.1 (tr i).1), .int ((tr i).1 : Int), .ref tl, .int (i : Int)]) nt)
        exact q _ F2 t tl tv (mv.trans (s5.mv F2)) (L.sm ha2 s5) upd_same (s5 _ _ hT) (wl.keep fun b xs e => s5 b _ e)
end
end MG

namespace MG
open PySem PySem.Spec PyProof.Rows L2
/-! ## 11. Counting down, in plain Lean -/
def opsD (start : Nat) (number : Int) : List Op := List.replicate start Op.tell ++ [.put number, .pick 0, .tell, .put 1, .less, .pick 0, .ifr (start + 1), .drop 0]
def nw (n : Int) : Wo := ("num", n)
/-- what stands on the pile within a round, its top first -/
def withT (n : Int) : Nat → List Wo
  | 0 => [nw n]
  | 1 => [nw n, nw n]
  | 2 => [nw n]
  | 3 => [nw 1, nw n]
  | 4 => [nw (n - 1)]
  | _ => [nw (n - 1), nw (n - 1)]
def toldD (number : Int) (k : Nat) : List Wo := (List.range k).map fun (j : Nat) => nw (number - (j : Int))
theorem toldD_succ (number : Int) (k : Nat) : toldD number (k + 1) = toldD number k ++ [nw (number - (k : Int))] := by
  unfold toldD
  rw [List.range_succ, List.map_append]
  rfl
def trD (start : Nat) (number : Int) (P : List Wo) (i : Nat) : Tr :=
  if i = 0 then (start, P, [])
  else if 0 < number ∧ 6 * number < (i : Int) then
    if (i : Int) = 6 * number + 1 then (start + 7, nw 0 :: P, toldD number number.toNat) else (start + 8, P, toldD number number.toNat)
  else (start + 1 + (i - 1) % 6, withT (number - (((i - 1) / 6 : Nat) : Int)) ((i - 1) % 6) ++ P, toldD number ((i - 1) / 6 + if (i - 1) % 6 > 1 then 1 else 0))
def manyD (number : Int) (steps : Nat) : Nat := if 0 < number ∧ 6 * number + 2 ≤ (steps : Int) then (6 * number + 2).toNat else steps
theorem opsD_len (start : Nat) (number : Int) : (opsD start number).length = start + 8 := by
  unfold opsD
  rw [List.length_append, List.length_replicate]
  rfl
theorem opsD_at (start : Nat) (number : Int) (j : Nat) : (opsD start number)[start + j]? = ([.put number, .pick 0, .tell, .put 1, .less, .pick 0, .ifr (start + 1), .drop 0] : List Op)[j]? := by
  unfold opsD
  rw [List.getElem?_append_right (by rw [List.length_replicate]; omega), List.length_replicate]
  congr 1
  omega
theorem opsD_ok (start : Nat) (number : Int) : ∀ op ∈ opsD start number, Op.ok (opsD start number).length op := by
  intro op h
  rw [opsD_len]
  unfold opsD at h
  rcases List.mem_append.mp h with h | h
  · rw [(List.mem_replicate.mp h).2]; exact True.intro
  · simp only [List.mem_cons, List.not_mem_nil, or_false] at h
    rcases h with rfl | rfl | rfl | rfl | rfl | rfl | rfl | rfl <;> first | exact True.intro | (show start + 1 ≤ start + 8; omega)
theorem trD_0 (start : Nat) (number : Int) (P : List Wo) : trD start number P 0 = (start, P, []) := by unfold trD; rw [if_pos rfl]
/-- within the rounds: r whole ones behind, ph steps into the next -/
theorem trD_in {start : Nat} {number : Int} {P : List Wo} {i r ph : Nat} (hi : i = 6 * r + ph + 1) (hp : ph < 6) (hn : ¬ (0 < number ∧ 6 * number < (i : Int))) :
    trD start number P i = (start + 1 + ph, withT (number - (r : Int)) ph ++ P, toldD number (r + if ph > 1 then 1 else 0)) := by
  unfold trD
  rw [if_neg (by omega), if_neg hn]
  have e1 : (i - 1) % 6 = ph := by omega
  have e2 : (i - 1) / 6 = r := by omega
  rw [e1, e2]
theorem trD_end1 {start : Nat} {number : Int} {P : List Wo} {i : Nat} (h0 : 0 < number) (hi : (i : Int) = 6 * number + 1) : trD start number P i = (start + 7, nw 0 :: P, toldD number number.toNat) := by
  unfold trD
  rw [if_neg (by omega), if_pos ⟨h0, by omega⟩, if_pos hi]
theorem trD_end2 {start : Nat} {number : Int} {P : List Wo} {i : Nat} (h0 : 0 < number) (hi : (i : Int) = 6 * number + 2) : trD start number P i = (start + 8, P, toldD number number.toNat) := by
  unfold trD
  rw [if_neg (by omega), if_pos ⟨h0, by omega⟩, if_neg (by omega)]
theorem st0 {x : Wo} {st : List Wo} (h : x.1 = "num") : standsP (x :: st) 0 "num" = true := by unfold standsP; simp [h]
theorem st1 {y x : Wo} {st : List Wo} (h : x.1 = "num") : standsP (y :: x :: st) 1 "num" = true := by unfold standsP; simp [h]
theorem nxD {start : Nat} {number : Int} {P : List Wo} {i : Nat} (hi : ¬ 0 < number ∨ (i : Int) < 6 * number + 2) : Nx (opsD start number) (trD start number P i) (trD start number P (i + 1)) := by
  have at_ : ∀ j op, ([.put number, .pick 0, .tell, .put 1, .less, .pick 0, .ifr (start + 1), .drop 0] : List Op)[j]? = some op → (opsD start number)[start + j]? = some op := fun j op e => by rw [opsD_at]; exact e
  by_cases h0 : i = 0
  · subst h0
    rw [trD_0, trD_in (r := 0) (ph := 0) rfl (by decide) (by omega)]
    refine ⟨.put number, [], at_ 0 _ rfl, rfl, ?_, by simp [toldD]⟩
    show some (((start : Int) + 1), (("num", number) : Wo) :: P, ([] : List Wo)) = some (((start + 1 + 0 : Nat) : Int), [nw (number - ((0 : Nat) : Int))] ++ P, [])
    have e : number - ((0 : Nat) : Int) = number := by omega
    rw [e]
    rfl
  · obtain ⟨r, ph, hp, e⟩ : ∃ r ph, ph < 6 ∧ i = 6 * r + ph + 1 := ⟨(i - 1) / 6, (i - 1) % 6, Nat.mod_lt _ (by decide), by omega⟩
    by_cases hn : 0 < number ∧ 6 * number < (i : Int)
    · -- behind the last round: the drop
      have ei : (i : Int) = 6 * number + 1 := by omega
      rw [trD_end1 hn.1 ei, trD_end2 hn.1 (by omega)]
      refine ⟨.drop 0, [], at_ 7 _ rfl, ?_, rfl, by simp⟩
      show decide ((nw 0 :: P).length ≤ 0) = false
      simp
    · rw [trD_in e hp hn]
      have hph : ph = 0 ∨ ph = 1 ∨ ph = 2 ∨ ph = 3 ∨ ph = 4 ∨ ph = 5 := by omega
      rcases hph with rfl | rfl | rfl | rfl | rfl | rfl
      · rw [trD_in (r := r) (ph := 1) (by omega) (by decide) (by omega)]
        refine ⟨.pick 0, [], at_ 1 _ rfl, rfl, rfl, by simp⟩
      · rw [trD_in (r := r) (ph := 2) (by omega) (by decide) (by omega)]
        refine ⟨.tell, [nw (number - (r : Int))], at_ 2 _ rfl, rfl, rfl, ?_⟩
        show toldD number (r + 1) = toldD number (r + 0) ++ _
        rw [toldD_succ]; rfl
      · rw [trD_in (r := r) (ph := 3) (by omega) (by decide) (by omega)]
        exact ⟨.put 1, [], at_ 3 _ rfl, rfl, rfl, by simp⟩
      · rw [trD_in (r := r) (ph := 4) (by omega) (by decide) (by omega)]
        refine ⟨.less, [], at_ 4 _ rfl, ?_, ?_, by simp⟩
        · show (!standsP (nw 1 :: nw (number - (r : Int)) :: P) 0 "num" || !standsP (nw 1 :: nw (number - (r : Int)) :: P) 1 "num") = false
          rw [st0 rfl, st1 rfl]; rfl
        · show (if (nw 1).1 = "num" ∧ (nw (number - (r : Int))).1 = "num" then some (((start + 1 + 3 : Nat) : Int) + 1, (((("num" : Str), (nw (number - (r : Int))).2 + (0 - (nw 1).2)) : Wo) :: P), ([] : List Wo)) else none) = _
          rw [if_pos ⟨rfl, rfl⟩]
          have e9 : (nw (number - (r : Int))).2 + (0 - (nw 1).2) = number - (r : Int) - 1 := by show number - (r : Int) + (0 - 1) = _; omega
          rw [e9]
          rfl
      · rw [trD_in (r := r) (ph := 5) (by omega) (by decide) (by omega)]
        exact ⟨.pick 0, [], at_ 5 _ rfl, rfl, rfl, by simp⟩
      · -- the if
        have hl : lacksP (withT (number - (r : Int)) 5 ++ P) (.ifr (start + 1)) = false := by
          show (!standsP (nw (number - (r : Int) - 1) :: nw (number - (r : Int) - 1) :: P) 0 "num") = false
          rw [st0 rfl]; rfl
        have hs : stepP (.ifr (start + 1)) ((start + 1 + 5 : Nat) : Int) (withT (number - (r : Int)) 5 ++ P) = some ((if number - (r : Int) - 1 = 0 then ((start + 1 + 5 : Nat) : Int) + 1 else ((start + 1 : Nat) : Int)), nw (number - (r : Int) - 1) :: P, []) := by
          show (if (nw (number - (r : Int) - 1)).1 = "num" then some ((if (nw (number - (r : Int) - 1)).2 = 0 then ((start + 1 + 5 : Nat) : Int) + 1 else ((start + 1 : Nat) : Int)), nw (number - (r : Int) - 1) :: P, ([] : List Wo)) else none) = _
          exact if_pos rfl
        by_cases hz : number - (r : Int) - 1 = 0
        · have hpos : 0 < number := by omega
          rw [trD_end1 (i := i + 1) hpos (by omega)]
          refine ⟨.ifr (start + 1), [], at_ 6 _ rfl, hl, ?_, ?_⟩
          · rw [hs, if_pos hz, hz]
            rfl
          · have : number.toNat = r + 1 := by omega
            rw [this]; simp
        · have hr : ¬ (0 < number ∧ 6 * number < ((i + 1 : Nat) : Int)) := by omega
          rw [trD_in (r := r + 1) (ph := 0) (i := i + 1) (by omega) (by decide) hr]
          refine ⟨.ifr (start + 1), [], at_ 6 _ rfl, hl, ?_, by simp⟩
          rw [hs, if_neg hz]
          have e9 : number - (r : Int) - 1 = number - ((r + 1 : Nat) : Int) := by omega
          rw [e9]
          rfl
theorem goD {start steps : Nat} {number : Int} {P : List Wo} (hP : P.length ≤ 80000) (hs : steps ≤ 1000) (hst : start ≤ 1000) : Goes (opsD start number) (trD start number P) (manyD number steps) := by
  have hm : manyD number steps ≤ steps := by unfold manyD; split <;> omega
  refine ⟨fun i hi => nxD ?_, fun i hi => ?_⟩
  · unfold manyD at hi
    split at hi
    · right; omega
    · by_cases h : 0 < number
      · right; omega
      · left; exact h
  · by_cases h0 : i = 0
    · subst h0
      rw [trD_0, opsD_len]
      exact ⟨by show P.length ≤ 90000; omega, by simp, by show start ≤ start + 8; omega⟩
    · by_cases hn : 0 < number ∧ 6 * number < (i : Int)
      · have ln : (toldD number number.toNat).length ≤ 90000 := by unfold toldD; rw [List.length_map, List.length_range]; omega
        by_cases e1 : (i : Int) = 6 * number + 1
        · rw [trD_end1 hn.1 e1, opsD_len]
          exact ⟨by show P.length + 1 ≤ 90000; omega, ln, by show start + 7 ≤ start + 8; omega⟩
        · unfold trD
          rw [if_neg h0, if_pos hn, if_neg e1, opsD_len]
          exact ⟨by show P.length ≤ 90000; omega, ln, Nat.le_refl _⟩
      · obtain ⟨r, ph, hp, e⟩ : ∃ r ph, ph < 6 ∧ i = 6 * r + ph + 1 := ⟨(i - 1) / 6, (i - 1) % 6, Nat.mod_lt _ (by decide), by omega⟩
        rw [trD_in e hp hn, opsD_len]
        refine ⟨?_, ?_, by show start + 1 + ph ≤ start + 8; omega⟩
        · have : (withT (number - (r : Int)) ph).length ≤ 2 := by
            unfold withT
            split <;> simp
          show (withT (number - (r : Int)) ph ++ P).length ≤ 90000
          rw [List.length_append]; omega
        · show (toldD number _).length ≤ 90000
          unfold toldD
          rw [List.length_map, List.length_range]
          split <;> omega
end MG

namespace MG
open PySem PySem.Spec PyProof.Rows L2
local macro_rules | `(tactic| walk_at "ne") => `(tactic| first | assumption | exact Ne.symm (by assumption) | exact ne_of_none (by assumption) (by assumption) | exact (ne_of_none (by assumption) (by assumption)).symm)
local macro_rules | `(tactic| walk_at "hp") => `(tactic| first | assumption | exact upd_same | (refine (upd_ne ?k1).trans ?k2; (case k1 => walk_at "ne"); (case k2 => walk_at "hp")))
local macro_rules | `(tactic| walk_at "lk") => `(tactic| first | assumption | with_reducible exact FE_under | with_reducible exact FE_worths | with_reducible exact FE_holders | with_reducible exact FC_running | with_reducible exact FC_wholes | with_reducible exact FC_places | with_reducible exact FC_in_box | with_reducible exact FC_on_peg | with_reducible exact FC_holding | with_reducible exact FC_waiting | with_reducible exact FP_running | with_reducible exact FP_wholes | with_reducible exact FP_places | with_reducible exact FP_in_box | with_reducible exact FP_on_peg | with_reducible exact FP_holding | with_reducible exact FP_waiting | with_reducible exact FP_most | with_reducible exact FP_count_made | with_reducible exact FP_count_handed | with_reducible exact FP_count_moved | with_reducible exact FP_high | with_reducible exact FP_highs | with_reducible exact FP_tops | with_reducible exact FP_above)
/-- one step of a reading that needs nothing but what is written -/
local macro_rules | `(tactic| walk_at "s") => `(tactic| first
  | with_reducible refine r_seq ?_ | with_reducible refine r_next ?_ | with_reducible refine r_set ?_ | with_reducible refine r_asg ?_ | with_reducible refine r_drop ?_ | with_reducible refine r_ret ?_ | with_reducible refine r_retN ?_ | with_reducible refine r_ifs ?_
  | ((with_reducible refine' r_var ?k1 ?_); (case k1 => exact rfl))
  | with_reducible refine r_c ?_ | with_reducible refine r_op ?_ | with_reducible refine r_un ?_ | with_reducible refine r_fld ?_ | with_reducible refine r_sfld ?_ | with_reducible refine r_saug ?_
  | with_reducible refine r_call ?_ | with_reducible refine r_make ?_ | with_reducible refine r_meth ?_ | with_reducible refine r_nil ?_ | with_reducible refine r_cons ?_ | with_reducible refine r_tup ?_ | with_reducible refine r_lst ?_ | with_reducible refine r_cb ?_ | with_reducible refine r_bm ?_ | with_reducible refine r_bm0 ?_
  | with_reducible refine r_tb ?_ | with_reducible refine r_test ?_ | with_reducible refine r_bl ?_ | with_reducible refine r_not ?_ | with_reducible refine r_and ?_ | with_reducible refine r_or ?_ | with_reducible refine r_andV ?_ | with_reducible refine r_orV ?_ | with_reducible refine r_notV ?_
  | with_reducible refine r_I0 ?_ | with_reducible refine r_eqI ?_ | with_reducible refine r_neI ?_ | with_reducible refine r_eqS ?_ | with_reducible refine r_neS ?_ | with_reducible refine r_eqB ?_ | with_reducible refine r_neB ?_
  | with_reducible refine r_gname ?_ | with_reducible refine r_forRev ?_ | with_reducible refine r_forL ?_ | with_reducible refine r_forR1 ?_ | with_reducible refine r_sl ?_ | with_reducible refine r_part ?_ | with_reducible refine r_int ?_ | with_reducible refine r_nopart ?_
  | with_reducible refine r_din ?_ | with_reducible refine r_dnin ?_ | with_reducible refine r_gsub ?_
  | ((with_reducible refine' r_fld1 ?k1 ?k2 ?k3 ?k4 ?_); (case k1 => walk_at "hp"); (case k2 => assumption); (case k3 => assumption); (case k4 => walk_at "lk"))
  | ((with_reducible refine' r_aug1 ?k1 ?k2 ?k3 ?k4 ?_); (case k1 => walk_at "hp"); (case k2 => assumption); (case k3 => assumption); (case k4 => walk_at "lk"))
  | with_reducible refine r_add ?_ | with_reducible refine r_sub ?_
  | ((with_reducible refine' r_meth1 ?k1 ?k2 ?_); (case k1 => walk_at "hp"); (case k2 => first | assumption | exact fz_no (by decide +kernel)))
  | ((with_reducible refine' r_ixT ?k1 ?k2 ?_); (case k1 => first | assumption | exact SqT.of (by walk_at "hp")); (case k2 => first | assumption | rfl)))
local macro_rules | `(tactic| walk_at "ss") => `(tactic| repeat walk_at "s")

/-- a reading that is chosen where the run stands -/
theorem pss_ex {X : Cx} {ι : Type} {sts : List Stmt} {t : ι → TS} (h : ∀ i, PSs X sts (t i)) : PSs X sts (fun D σ H => ∃ i, t i D σ H) := ⟨fun pins s σ H D I ⟨i, q⟩ => (h i).run pins s σ H D I q⟩
structure HouseI (P : Program) (w : World) (K : PySem.W.Frag) (mg : Str → Option Value) (base : Heap) where
  C : Addr
  At : AtT
  L : House P w K mg base C At
def BagAt (H : Hp) (b : Addr) : Prop := ∃ x y z : Int, H b = some (.lst [.int x, .int y, .int z])
def spCell (K : PySem.W.Frag) : Sp := fun vs H Q _ => ∃ (a : Addr) (ns : List Int), vs = [V.ref a, .int 0] ∧ SqL K H a (ns.map V.int) ∧ ∀ z : Int, Q (.int z) H
def spBag : Sp := fun vs H Q _ => ∃ c : Int, vs = [V.int c] ∧ ∀ (l : Addr) (x y : Int), H l = none → Q (.ref l) (upd H l (.lst [.int x, .int y, .int 0]))
def spDraw : Sp := fun vs H Q _ => ∃ (b : Addr) (x y z many : Int), vs = [V.ref b, .int many] ∧ H b = some (HO.lst [.int x, .int y, .int z]) ∧ 0 < many ∧ many.natAbs.log2 < 9000 ∧ ∀ r x' y' z' : Int, 0 ≤ r → r < many → Q (.int r) (upd H b (.lst [.int x', .int y', .int z']))
def spNumber : Sp := fun vs H Q _ => ∃ (b : Addr) (x y z : Int), vs = [V.ref b] ∧ H b = some (HO.lst [.int x, .int y, .int z]) ∧ ∀ r x' y' z' : Int, Q (.int r) (upd H b (.lst [.int x', .int y', .int z']))
section
variable {P : Program} {w : World} {K : PySem.W.Frag} {mg : Str → Option Value} {base : Heap}
theorem cal_cell (T : Txt K w mg) : Cal P w K mg base 1 "_law_cell_at" (spCell K) [] := by
  obtain ⟨fd, F⟩ := T.f__law_cell_at
  refine ⟨_, fd, P__law_cell_at, [], ?_, T.g__law_cell_at, F.kp, F.bindsN (fun _ _ _ _ _ _ us hl => match us, hl with | [_, _], _ => rfl), .nil⟩
  refine fd_ok F sc__law_cell_at (fun vs H Q E h => ?_) (fun cdv A outer s H vs Q E hr h => ?_)
  · obtain ⟨a, ns, rfl, _⟩ := h; rfl
  · obtain ⟨a, ns, rfl, hS, q⟩ := h
    refine ⟨_, (pss_cons (ps_if (pt_cmpR op_lt (pv 1) (pe_callB call_len_seq (by rfl) T.b_len (by decide +kernel) (pa_cons (pv 0) pa_nil)) (nomark _)) (pss_one (ps_ret (pe_ix ix_list (pv 0) (pv 1) (fun _ _ => rfl)))) pss_nil)
      (pss_one (ps_ret pe_int))), ?_⟩
    walk_at "ss"
    refine ⟨a, _, rfl, .inl hS, ?_⟩
    walk_at "ss"
    refine iteD (fun e => ?_) (fun e => ?_)
    · walk_at "ss"
      cases ns with
      | nil => simp at e
      | cons n ns => exact r_ixL hS (atI_nat (j := 0) rfl) (q n)
    · walk_at "ss"
      exact q 0
theorem cal_bag (T : Txt K w mg) : Cal P w K mg base 1 "_law_bag" spBag [] := by
  obtain ⟨fd, F⟩ := T.f__law_bag
  refine ⟨_, fd, P__law_bag, [], ?_, T.g__law_bag, F.kp, F.bindsN (fun _ _ _ _ _ _ us hl => match us, hl with | [_], _ => rfl), .nil⟩
  refine fd_ok F sc__law_bag (fun vs H Q E h => ?_) (fun cdv A outer s H vs Q E hr h => ?_)
  · obtain ⟨c, rfl, _⟩ := h; rfl
  · obtain ⟨c, rfl, q⟩ := h
    refine ⟨_, (pss_one (ps_ret (pe_lst (pa_cons (pe_callB (call_max2 rfl) (by rfl) T.b_max (by decide +kernel) (pa_cons pe_int (pa_cons (pe_op op_sub (pv 0) (pe_op op_pow pe_int pe_int)) pa_nil))) (pa_cons (pe_op op_modN (pv 0) pe_int) (pa_cons pe_int pa_nil)))))), ?_⟩
    walk_at "ss"
    refine r_I ⟨by decide, by decide, by decide⟩ ?_
    walk_at "ss"
    refine ⟨_, _, rfl, ?_⟩
    walk_at "ss"
    refine r_I (by decide) ?_
    walk_at "ss"
    exact ⟨by show 3 ≤ sizeLine; decide, fun l nl => q l _ _ nl⟩
theorem fmod_in {i j : Int} (h : 0 < j) : 0 ≤ i.fmod j ∧ i.fmod j < j := ⟨Int.fmod_nonneg_of_pos i h, Int.fmod_lt_of_pos i h⟩
theorem cal_draw (T : Txt K w mg) : Cal P w K mg base 1 "_law_draw" spDraw [] := by
  obtain ⟨fd, F⟩ := T.f__law_draw
  refine ⟨_, fd, P__law_draw, [], ?_, T.g__law_draw, F.kp, F.bindsN (fun _ _ _ _ _ _ us hl => match us, hl with | [_, _], _ => rfl), .nil⟩
  refine fd_ok F sc__law_draw (fun vs H Q E h => ?_) (fun cdv A outer s H vs Q E hr h => ?_)
  · obtain ⟨b, x, y, z, many, rfl, _⟩ := h; rfl
  · obtain ⟨b, x, y, z, many, rfl, hb, h0, hlg, q⟩ := h
    refine ⟨_, (pss_cons (ps_if (pt_cmpR op_gt (pe_ix ix_list (pv 0) pe_int (fun _ _ => rfl)) pe_int (nomark _)) (pss_cons (ps_set (i := 2) sc__law_draw.nd rfl (Or.inl rfl) (pe_op op_modN (pe_ix ix_list (pv 0) pe_int (fun _ _ => rfl)) (pv 1)))
      (pss_cons (ps_asg (pe_op op_fdivW (pe_ix ix_list (pv 0) pe_int (fun _ _ => rfl)) (pv 1)) (pg_sub (pv 0) pe_int set_list))
      (pss_one (ps_ret (pv 2))))) pss_nil)
      (pss_cons (ps_asg (pe_op op_add (pe_ix ix_list (pv 0) pe_int (fun _ _ => rfl)) pe_int) (pg_sub (pv 0) pe_int set_list))
      (pss_cons (ps_set (i := 2) sc__law_draw.nd rfl (Or.inl rfl) (pe_op op_modN (pe_op op_add (pe_ix ix_list (pv 0) pe_int (fun _ _ => rfl)) (pe_op op_mul (pe_ix ix_list (pv 0) pe_int (fun _ _ => rfl)) pe_int)) pe_int))
      (pss_cons (ps_set (i := 2) sc__law_draw.nd rfl (Or.inl rfl) (pe_op op_modN (pe_op op_add (pe_op op_pow (pv 2) pe_int) (pe_op op_mul (pe_ix ix_list (pv 0) pe_int (fun _ _ => rfl)) pe_int)) pe_int))
      (pss_one (ps_ret (pe_op op_modN (pe_op op_fdivW (pe_op op_modN (pe_op op_pow (pv 2) pe_int) pe_int) pe_int) (pv 1)))))))), ?_⟩
    walk_at "ss"
    refine r_ixL (SqL.of hb) (atI_nat (j := 0) rfl) ?_
    walk_at "ss"
    refine iteD (fun e => ?_) (fun e => ?_)
    · walk_at "ss"
      refine r_ixL (SqL.of hb) (atI_nat (j := 0) rfl) ?_
      walk_at "ss"
      refine r_I (by omega) ?_
      walk_at "ss"
      refine r_ixL (SqL.of hb) (atI_nat (j := 0) rfl) ?_
      walk_at "ss"
      refine r_I ⟨h0, hlg⟩ ?_
      walk_at "ss"
      refine ⟨b, _, 0, 0, rfl, rfl, hb, rfl, ?_⟩
      walk_at "ss"
      exact q _ _ _ _ (fmod_in h0).1 (fmod_in h0).2
    · walk_at "ss"
      refine r_ixL (SqL.of hb) (atI_nat (j := 2) rfl) ?_
      walk_at "ss"
      refine ⟨b, _, 2, 2, rfl, rfl, hb, rfl, ?_⟩
      walk_at "ss"
      refine r_ixL (SqL.of upd_same) (atI_nat (j := 1) rfl) ?_
      walk_at "ss"
      refine r_ixL (SqL.of upd_same) (atI_nat (j := 2) rfl) ?_
      walk_at "ss"
      refine r_I (.inr ⟨by decide, by decide⟩) ?_
      walk_at "ss"
      refine r_I (by decide) ?_
      walk_at "ss"
      generalize e1 : (y + (z + 1) * 7368787).fmod 2147483647 = o1
      have b1 := fmod_in (i := y + (z + 1) * 7368787) (j := 2147483647) (by decide)
      rw [e1] at b1
      refine r_I ⟨by decide, by decide, by omega⟩ ?_
      walk_at "ss"
      refine r_ixL (SqL.of upd_same) (atI_nat (j := 2) rfl) ?_
      walk_at "ss"
      refine r_I (.inr ⟨by decide, by decide⟩) ?_
      walk_at "ss"
      refine r_I (by decide) ?_
      walk_at "ss"
      generalize e2 : (o1 ^ (5 : Int).toNat + (z + 1) * 15485863).fmod 2147483629 = o2
      have b2 := fmod_in (i := o1 ^ (5 : Int).toNat + (z + 1) * 15485863) (j := 2147483629) (by decide)
      rw [e2] at b2
      refine r_I ⟨by decide, by decide, by omega⟩ ?_
      walk_at "ss"
      refine r_I (by decide) ?_
      walk_at "ss"
      refine r_I ⟨by decide, by decide⟩ ?_
      walk_at "ss"
      refine r_I (by omega) ?_
      exact q _ _ _ _ (fmod_in h0).1 (fmod_in h0).2
end
end MG

namespace MG
open PySem PySem.Spec PyProof.Rows L2
local macro_rules | `(tactic| walk_at "ne") => `(tactic| first | assumption | exact Ne.symm (by assumption) | exact ne_of_none (by assumption) (by assumption) | exact (ne_of_none (by assumption) (by assumption)).symm)
local macro_rules | `(tactic| walk_at "hp") => `(tactic| first | assumption | exact upd_same | (refine (upd_ne ?k1).trans ?k2; (case k1 => walk_at "ne"); (case k2 => walk_at "hp")))
local macro_rules | `(tactic| walk_at "lk") => `(tactic| first | assumption | with_reducible exact FE_under | with_reducible exact FE_worths | with_reducible exact FE_holders | with_reducible exact FC_running | with_reducible exact FC_wholes | with_reducible exact FC_places | with_reducible exact FC_in_box | with_reducible exact FC_on_peg | with_reducible exact FC_holding | with_reducible exact FC_waiting | with_reducible exact FP_running | with_reducible exact FP_wholes | with_reducible exact FP_places | with_reducible exact FP_in_box | with_reducible exact FP_on_peg | with_reducible exact FP_holding | with_reducible exact FP_waiting | with_reducible exact FP_most | with_reducible exact FP_count_made | with_reducible exact FP_count_handed | with_reducible exact FP_count_moved | with_reducible exact FP_high | with_reducible exact FP_highs | with_reducible exact FP_tops | with_reducible exact FP_above)
/-- one step of a reading that needs nothing but what is written -/
local macro_rules | `(tactic| walk_at "s") => `(tactic| first
  | with_reducible refine r_seq ?_ | with_reducible refine r_next ?_ | with_reducible refine r_set ?_ | with_reducible refine r_asg ?_ | with_reducible refine r_drop ?_ | with_reducible refine r_ret ?_ | with_reducible refine r_retN ?_ | with_reducible refine r_ifs ?_
  | ((with_reducible refine' r_var ?k1 ?_); (case k1 => exact rfl))
  | with_reducible refine r_c ?_ | with_reducible refine r_op ?_ | with_reducible refine r_un ?_ | with_reducible refine r_fld ?_ | with_reducible refine r_sfld ?_ | with_reducible refine r_saug ?_
  | with_reducible refine r_call ?_ | with_reducible refine r_make ?_ | with_reducible refine r_meth ?_ | with_reducible refine r_nil ?_ | with_reducible refine r_cons ?_ | with_reducible refine r_tup ?_ | with_reducible refine r_lst ?_ | with_reducible refine r_cb ?_ | with_reducible refine r_bm ?_ | with_reducible refine r_bm0 ?_
  | with_reducible refine r_tb ?_ | with_reducible refine r_test ?_ | with_reducible refine r_bl ?_ | with_reducible refine r_not ?_ | with_reducible refine r_and ?_ | with_reducible refine r_or ?_ | with_reducible refine r_andV ?_ | with_reducible refine r_orV ?_ | with_reducible refine r_notV ?_
  | with_reducible refine r_I0 ?_ | with_reducible refine r_eqI ?_ | with_reducible refine r_neI ?_ | with_reducible refine r_eqS ?_ | with_reducible refine r_neS ?_ | with_reducible refine r_eqB ?_ | with_reducible refine r_neB ?_
  | with_reducible refine r_gname ?_ | with_reducible refine r_forRev ?_ | with_reducible refine r_forL ?_ | with_reducible refine r_forR1 ?_ | with_reducible refine r_sl ?_ | with_reducible refine r_part ?_ | with_reducible refine r_int ?_ | with_reducible refine r_nopart ?_
  | with_reducible refine r_din ?_ | with_reducible refine r_dnin ?_ | with_reducible refine r_gsub ?_
  | ((with_reducible refine' r_fld1 ?k1 ?k2 ?k3 ?k4 ?_); (case k1 => walk_at "hp"); (case k2 => assumption); (case k3 => assumption); (case k4 => walk_at "lk"))
  | ((with_reducible refine' r_aug1 ?k1 ?k2 ?k3 ?k4 ?_); (case k1 => walk_at "hp"); (case k2 => assumption); (case k3 => assumption); (case k4 => walk_at "lk"))
  | with_reducible refine r_add ?_ | with_reducible refine r_sub ?_
  | ((with_reducible refine' r_meth1 ?k1 ?k2 ?_); (case k1 => walk_at "hp"); (case k2 => first | assumption | exact fz_no (by decide +kernel)))
  | ((with_reducible refine' r_ixT ?k1 ?k2 ?_); (case k1 => first | assumption | exact SqT.of (by walk_at "hp")); (case k2 => first | assumption | rfl)))
local macro_rules | `(tactic| walk_at "ss") => `(tactic| repeat walk_at "s")

mutual
/-- data all of it tracked: whole numbers, texts, lists, tuples -/
inductive Dq (H : Hp) : V → PyData → Prop where
  | int (i : Int) : Dq H (.int i) (.int i)
  | str (x : Str) : Dq H (.str x) (.str x)
  | lst {a : Addr} {xs : List V} {ds : List PyData} : H a = some (.lst xs) → DqAll H xs ds → Dq H (.ref a) (.list ds)
  | tup {a : Addr} {xs : List V} {ds : List PyData} : H a = some (.tup xs) → DqAll H xs ds → Dq H (.ref a) (.tuple ds)
inductive DqAll (H : Hp) : List V → List PyData → Prop where
  | nil : DqAll H [] []
  | cons {v : V} {vs : List V} {d : PyData} {ds : List PyData} : Dq H v d → DqAll H vs ds → DqAll H (v :: vs) (d :: ds)
end
theorem DqAll.length {H : Hp} : ∀ {vs : List V} {ds : List PyData}, DqAll H vs ds → vs.length = ds.length
  | _, _, .nil => rfl
  | _, _, .cons _ t => by rw [List.length_cons, List.length_cons, t.length]
theorem DqAll.get {H : Hp} : ∀ {vs : List V} {ds : List PyData}, DqAll H vs ds → ∀ {i : Nat} {d : PyData}, ds[i]? = some d → ∃ v, vs[i]? = some v ∧ Dq H v d
  | _, _, .nil, i, d, e => by simp at e
  | _, _, .cons a t, 0, d, e => by
    have e' := Option.some.inj e
    subst e'
    exact ⟨_, rfl, a⟩
  | _, _, .cons a t, i + 1, d, e => t.get (i := i) (show _ = some d from e)
mutual
theorem Dq.keep {H H' : Hp} (k : Sm H H') : ∀ {v : V} {d : PyData}, Dq H v d → Dq H' v d
  | _, _, .int i => .int i
  | _, _, .str x => .str x
  | _, _, .lst e t => .lst (k _ _ e) (t.keep k)
  | _, _, .tup e t => .tup (k _ _ e) (t.keep k)
theorem DqAll.keep {H H' : Hp} (k : Sm H H') : ∀ {vs : List V} {ds : List PyData}, DqAll H vs ds → DqAll H' vs ds
  | _, _, .nil => .nil
  | _, _, .cons a t => .cons (a.keep k) (t.keep k)
end
theorem WV.dq {H : Hp} {v : V} {x : Wo} (h : WV H v x) : Dq H v (dWo x) := by
  obtain ⟨t, rfl, e⟩ := h
  exact .tup e (.cons (.str _) (.cons (.int _) .nil))
theorem WL.dq {H : Hp} {vs : List V} {xs : List Wo} (h : WL H vs xs) : DqAll H vs (xs.map dWo) := by
  induction h with
  | nil => exact .nil
  | cons a _ ih => exact .cons a.dq ih
/-- how deep lists and tuples stand in one another -/
def deep : Nat → PyData → Prop
  | _, .int _ => True
  | _, .str _ => True
  | n + 1, .list ds => ds.length ≤ 100000 ∧ ∀ d ∈ ds, deep n d
  | n + 1, .tuple ds => ds.length ≤ 100000 ∧ ∀ d ∈ ds, deep n d
  | _, _ => False
def spSame (n : Nat) : Sp := fun vs H Q _ => ∃ (v u : V) (d : PyData), vs = [v, u] ∧ Dq H v d ∧ Dq H u d ∧ deep n d ∧ Q (.bl true) H
section
variable {P : Program} {w : World} {K : PySem.W.Frag} {mg : Str → Option Value} {base : Heap}
theorem cal_number (T : Txt K w mg) : Cal P w K mg base 2 "_law_number" spNumber [] := by
  obtain ⟨fd, F⟩ := T.f__law_number
  have c__law_draw : Cal P w K mg base 1 "_law_draw" spDraw [] := cal_draw T
  refine ⟨_, fd, P__law_number, [], ?_, T.g__law_number, F.kp, F.bindsN (fun _ _ _ _ _ _ us hl => match us, hl with | [_], _ => rfl), .nil⟩
  refine fd_ok F sc__law_number (fun vs H Q E h => ?_) (fun cdv A outer s H vs Q E hr h => ?_)
  · obtain ⟨b, x, y, z, rfl, _⟩ := h; rfl
  · obtain ⟨b, x, y, z, rfl, hb, q⟩ := h
    refine ⟨_, (pss_cons (ps_set (i := 1) sc__law_number.nd rfl (Or.inl rfl) (pe_c c__law_draw hr (by decide) rfl (pa_cons (pv 0) (pa_cons pe_int pa_nil))))
      (pss_cons (ps_if (pt_cmpR op_eq (pv 1) pe_int (nomark _)) (pss_one (ps_ret (pe_op op_sub (pe_c c__law_draw hr (by decide) rfl (pa_cons (pv 0) (pa_cons pe_int pa_nil))) pe_int))) pss_nil)
      (pss_cons (ps_if (pt_cmpR op_eq (pv 1) pe_int (nomark _)) (pss_one (ps_ret (pe_op op_sub (pe_c c__law_draw hr (by decide) rfl (pa_cons (pv 0) (pa_cons pe_int pa_nil))) pe_int))) pss_nil)
      (pss_cons (ps_set (i := 2) sc__law_number.nd rfl (Or.inl rfl) (pe_op op_add (pe_op op_add (pe_op op_mulW (pe_c c__law_draw hr (by decide) rfl (pa_cons (pv 0) (pa_cons (pe_op op_pow pe_int pe_int) pa_nil))) (pe_op op_pow pe_int pe_int)) (pe_op op_mulW (pe_c c__law_draw hr (by decide) rfl (pa_cons (pv 0) (pa_cons (pe_op op_pow pe_int pe_int) pa_nil))) (pe_op op_pow pe_int pe_int))) (pe_c c__law_draw hr (by decide) rfl (pa_cons (pv 0) (pa_cons (pe_op op_pow pe_int pe_int) pa_nil)))))
      (pss_cons (ps_if (pt_cmpR op_eq (pv 1) pe_int (nomark _)) (pss_one (ps_ret (pv 2))) pss_nil)
      (pss_one (ps_ret (pe_op op_sub pe_int (pv 2))))))))), ?_⟩
    have lg : ((10 : Int) ^ (20 : Int).toNat).natAbs.log2 < 9000 := by decide +kernel
    have ps : (0 : Int) < (10 : Int) ^ (20 : Int).toNat := by decide +kernel
    walk_at "ss"
    refine ⟨b, x, y, z, 4, rfl, hb, by decide, by decide +kernel, fun r x1 y1 z1 h0 h4 => ?_⟩
    walk_at "ss"
    refine iteD (fun e => ?_) (fun e => ?_)
    · walk_at "ss"
      refine ⟨b, _, _, _, 5, rfl, upd_same, by decide, by decide +kernel, fun r x2 y2 z2 h0 h4 => ?_⟩
      rw [upd_upd]
      walk_at "ss"
      exact q _ _ _ _
    · walk_at "ss"
      refine iteD (fun e => ?_) (fun e => ?_)
      · walk_at "ss"
        refine ⟨b, _, _, _, 201, rfl, upd_same, by decide, by decide +kernel, fun r x2 y2 z2 h0 h4 => ?_⟩
        rw [upd_upd]
        walk_at "ss"
        exact q _ _ _ _
      · walk_at "ss"
        refine r_I ⟨by decide, by decide, by decide⟩ ?_
        walk_at "ss"
        refine ⟨b, _, _, _, _, rfl, upd_same, ps, lg, fun r1 x2 y2 z2 h10 h11 => ?_⟩
        rw [upd_upd]
        walk_at "ss"
        refine r_I ⟨by decide, by decide, by decide⟩ ?_
        have hr1 : r1.natAbs < 2 ^ 67 := by
          have e : (10 : Int) ^ (20 : Int).toNat = 100000000000000000000 := by decide +kernel
          rw [e] at h11
          omega
        refine r_I (wide_mul (a := 67) (b := 133) hr1 (by decide +kernel) (by decide) (by decide) (by decide)) ?_
        walk_at "ss"
        refine r_I ⟨by decide, by decide, by decide⟩ ?_
        walk_at "ss"
        refine ⟨b, _, _, _, _, rfl, upd_same, ps, lg, fun r2 x3 y3 z3 h20 h21 => ?_⟩
        rw [upd_upd]
        walk_at "ss"
        refine r_I ⟨by decide, by decide, by decide⟩ ?_
        have hr2 : r2.natAbs < 2 ^ 67 := by
          have e : (10 : Int) ^ (20 : Int).toNat = 100000000000000000000 := by decide +kernel
          rw [e] at h21
          omega
        refine r_I (wide_mul (a := 67) (b := 67) hr2 (by decide +kernel) (by decide) (by decide) (by decide)) ?_
        walk_at "ss"
        refine r_I ⟨by decide, by decide, by decide⟩ ?_
        walk_at "ss"
        refine ⟨b, _, _, _, _, rfl, upd_same, ps, lg, fun r3 x4 y4 z4 h30 h31 => ?_⟩
        rw [upd_upd]
        walk_at "ss"
        refine iteD (fun e => ?_) (fun e => ?_)
        · walk_at "ss"
          exact q _ _ _ _
        · walk_at "ss"
          exact q _ _ _ _
theorem same0 (T : Txt K w mg) : Cal P w K mg base 1 "_law_same" (spSame 0) [] := by
  obtain ⟨fd, F⟩ := T.f__law_same
  refine ⟨_, fd, P__law_same, [], ?_, T.g__law_same, F.kp, F.bindsN (fun _ _ _ _ _ _ us hl => match us, hl with | [_, _], _ => rfl), .nil⟩
  refine fd_ok F sc__law_same (fun vs H Q E h => ?_) (fun cdv A outer s H vs Q E hr h => ?_)
  · obtain ⟨v, u, d, rfl, _⟩ := h; rfl
  · obtain ⟨v, u, d, rfl, hv, hu, hd, q⟩ := h
    refine ⟨_, (pss_cons (ps_if (PW.pt (pw_or (pt_val (pe_callB call_isi (by rfl) T.b_isinstance (by decide +kernel) (pa_cons (pv 1) (pa_cons (pe_bltn (v := .ty "tuple") (u := .type "tuple") (by rfl) T.b_tuple (by decide +kernel) rfl) pa_nil)))) (pw_or1 (pt_val (pe_callB call_isi (by rfl) T.b_isinstance (by decide +kernel) (pa_cons (pv 1) (pa_cons (pe_bltn (v := .ty "list") (u := .type "list") (by rfl) T.b_list (by decide +kernel) rfl) pa_nil))))))) (pss_cons ps_never
      (pss_cons ps_never
      (pss_cons ps_never
      (pss_one ps_never)))) pss_nil)
      (pss_cons (ps_if (pt_val (pe_callB call_isi (by rfl) T.b_isinstance (by decide +kernel) (pa_cons (pv 1) (pa_cons (pe_bltn (v := .ty "str") (u := .type "str") (by rfl) T.b_str (by decide +kernel) rfl) pa_nil)))) (pss_one (ps_ret (pe_and (pe_callB call_isi (by rfl) T.b_isinstance (by decide +kernel) (pa_cons (pv 0) (pa_cons (pe_bltn (v := .ty "str") (u := .type "str") (by rfl) T.b_str (by decide +kernel) rfl) pa_nil))) (pe_one (pe_cmpR op_eq (pv 0) (pv 1) (nomark _)))))) pss_nil)
      (pss_one (ps_ret (pe_and (pe_callB call_isi (by rfl) T.b_isinstance (by decide +kernel) (pa_cons (pv 0) (pa_cons (pe_bltn (v := .ty "int") (u := .type "int") (by rfl) T.b_int (by decide +kernel) rfl) pa_nil))) (pe_and (pe_not (pe_callB call_isi (by rfl) T.b_isinstance (by decide +kernel) (pa_cons (pv 0) (pa_cons (pe_bltn (v := .ty "bool") (u := .type "bool") (by rfl) T.b_bool (by decide +kernel) rfl) pa_nil)))) (pe_one (pe_cmpR op_eq (pv 0) (pv 1) (nomark _))))))))), ?_⟩
    walk_at "ss"
    cases hu with
    | int i =>
      cases hv
      refine r_isi (.ty _) tyX_int (kit_ty (b := "tuple") (r := false) (by decide +kernel)) ?_
      walk_at "ss"
      refine iteF ?_
      walk_at "ss"
      refine r_isi (.ty _) tyX_int (kit_ty (b := "list") (r := false) (by decide +kernel)) ?_
      walk_at "ss"
      refine iteF ?_
      walk_at "ss"
      refine r_isi (.ty _) tyX_int (kit_ty (b := "str") (r := false) (by decide +kernel)) ?_
      walk_at "ss"
      refine iteF ?_
      walk_at "ss"
      refine r_isi (.ty _) tyX_int (kit_ty (b := "int") (r := true) (by decide +kernel)) ?_
      walk_at "ss"
      refine iteT ?_
      walk_at "ss"
      refine r_isi (.ty _) tyX_int (kit_ty (b := "bool") (r := false) (by decide +kernel)) ?_
      walk_at "ss"
      refine iteT ?_
      walk_at "ss"
      rw [decide_eq_true rfl]
      exact q
    | str i =>
      cases hv
      refine r_isi (.ty _) tyX_str (kit_ty (b := "tuple") (r := false) (by decide +kernel)) ?_
      walk_at "ss"
      refine iteF ?_
      walk_at "ss"
      refine r_isi (.ty _) tyX_str (kit_ty (b := "list") (r := false) (by decide +kernel)) ?_
      walk_at "ss"
      refine iteF ?_
      walk_at "ss"
      refine r_isi (.ty _) tyX_str (kit_ty (b := "str") (r := true) (by decide +kernel)) ?_
      walk_at "ss"
      refine iteT ?_
      walk_at "ss"
      refine r_isi (.ty _) tyX_str (kit_ty (b := "str") (r := true) (by decide +kernel)) ?_
      walk_at "ss"
      refine iteT ?_
      walk_at "ss"
      rw [decide_eq_true rfl]
      exact q
    | lst e t => exact hd.elim
    | tup e t => exact hd.elim
theorem sameS {n k : Nat} (T : Txt K w mg) (c__law_same : Cal P w K mg base k "_law_same" (spSame n) []) : Cal P w K mg base (k + 1) "_law_same" (spSame (n + 1)) [] := by
  obtain ⟨fd, F⟩ := T.f__law_same
  refine ⟨_, fd, P__law_same, [], ?_, T.g__law_same, F.kp, F.bindsN (fun _ _ _ _ _ _ us hl => match us, hl with | [_, _], _ => rfl), .nil⟩
  refine fd_ok F sc__law_same (fun vs H Q E h => ?_) (fun cdv A outer s H vs Q E hr h => ?_)
  · obtain ⟨v, u, d, rfl, _⟩ := h; rfl
  · obtain ⟨v, u, d, rfl, hv, hu, hd, q⟩ := h
    refine ⟨_, (pss_cons (ps_if (PW.pt (pw_or (pt_val (pe_callB call_isi (by rfl) T.b_isinstance (by decide +kernel) (pa_cons (pv 1) (pa_cons (pe_bltn (v := .ty "tuple") (u := .type "tuple") (by rfl) T.b_tuple (by decide +kernel) rfl) pa_nil)))) (pw_or1 (pt_val (pe_callB call_isi (by rfl) T.b_isinstance (by decide +kernel) (pa_cons (pv 1) (pa_cons (pe_bltn (v := .ty "list") (u := .type "list") (by rfl) T.b_list (by decide +kernel) rfl) pa_nil))))))) (pss_cons (ps_if (PW.pt (pw_or (pt_cmpR op_ne (pe_callB call_isi (by rfl) T.b_isinstance (by decide +kernel) (pa_cons (pv 0) (pa_cons (pe_bltn (v := .ty "tuple") (u := .type "tuple") (by rfl) T.b_tuple (by decide +kernel) rfl) pa_nil))) (pe_callB call_isi (by rfl) T.b_isinstance (by decide +kernel) (pa_cons (pv 1) (pa_cons (pe_bltn (v := .ty "tuple") (u := .type "tuple") (by rfl) T.b_tuple (by decide +kernel) rfl) pa_nil))) (nomark _)) (pw_or1 (pt_cmpR op_ne (pe_callB call_isi (by rfl) T.b_isinstance (by decide +kernel) (pa_cons (pv 0) (pa_cons (pe_bltn (v := .ty "list") (u := .type "list") (by rfl) T.b_list (by decide +kernel) rfl) pa_nil))) (pe_callB call_isi (by rfl) T.b_isinstance (by decide +kernel) (pa_cons (pv 1) (pa_cons (pe_bltn (v := .ty "list") (u := .type "list") (by rfl) T.b_list (by decide +kernel) rfl) pa_nil))) (nomark _))))) (pss_one (ps_ret pe_bl)) pss_nil)
      (pss_cons (ps_if (pt_cmpR op_ne (pe_callB call_len_seq (by rfl) T.b_len (by decide +kernel) (pa_cons (pv 0) pa_nil)) (pe_callB call_len_seq (by rfl) T.b_len (by decide +kernel) (pa_cons (pv 1) pa_nil)) (nomark _)) (pss_one (ps_ret pe_bl)) pss_nil)
      (pss_cons (ps_for PassesOwn.never rfl (pi_range1 (by rfl) T.b_range (pa_cons (pe_callB call_len_seq (by rfl) T.b_len (by decide +kernel) (pa_cons (pv 1) pa_nil)) pa_nil)) (pg_name (i := 2) sc__law_same.nd rfl (Or.inl rfl)) (pss_one (ps_if (pt_not (pt_val (pe_c c__law_same hr (Nat.le_refl _) rfl (pa_cons (pe_ix ix_seq (pv 0) (pv 2) (fun _ _ => rfl)) (pa_cons (pe_ix ix_seq (pv 1) (pv 2) (fun _ _ => rfl)) pa_nil))))) (pss_one (ps_ret pe_bl)) pss_nil)))
      (pss_one (ps_ret pe_bl))))) pss_nil)
      (pss_cons (ps_if (pt_val (pe_callB call_isi (by rfl) T.b_isinstance (by decide +kernel) (pa_cons (pv 1) (pa_cons (pe_bltn (v := .ty "str") (u := .type "str") (by rfl) T.b_str (by decide +kernel) rfl) pa_nil)))) (pss_one (ps_ret (pe_and (pe_callB call_isi (by rfl) T.b_isinstance (by decide +kernel) (pa_cons (pv 0) (pa_cons (pe_bltn (v := .ty "str") (u := .type "str") (by rfl) T.b_str (by decide +kernel) rfl) pa_nil))) (pe_one (pe_cmpR op_eq (pv 0) (pv 1) (nomark _)))))) pss_nil)
      (pss_one (ps_ret (pe_and (pe_callB call_isi (by rfl) T.b_isinstance (by decide +kernel) (pa_cons (pv 0) (pa_cons (pe_bltn (v := .ty "int") (u := .type "int") (by rfl) T.b_int (by decide +kernel) rfl) pa_nil))) (pe_and (pe_not (pe_callB call_isi (by rfl) T.b_isinstance (by decide +kernel) (pa_cons (pv 0) (pa_cons (pe_bltn (v := .ty "bool") (u := .type "bool") (by rfl) T.b_bool (by decide +kernel) rfl) pa_nil)))) (pe_one (pe_cmpR op_eq (pv 0) (pv 1) (nomark _))))))))), ?_⟩
    walk_at "ss"
    cases hu with
    | int i =>
      cases hv
      refine r_isi (.ty _) tyX_int (kit_ty (b := "tuple") (r := false) (by decide +kernel)) ?_
      walk_at "ss"
      refine iteF ?_
      walk_at "ss"
      refine r_isi (.ty _) tyX_int (kit_ty (b := "list") (r := false) (by decide +kernel)) ?_
      walk_at "ss"
      refine iteF ?_
      walk_at "ss"
      refine r_isi (.ty _) tyX_int (kit_ty (b := "str") (r := false) (by decide +kernel)) ?_
      walk_at "ss"
      refine iteF ?_
      walk_at "ss"
      refine r_isi (.ty _) tyX_int (kit_ty (b := "int") (r := true) (by decide +kernel)) ?_
      walk_at "ss"
      refine iteT ?_
      walk_at "ss"
      refine r_isi (.ty _) tyX_int (kit_ty (b := "bool") (r := false) (by decide +kernel)) ?_
      walk_at "ss"
      refine iteT ?_
      walk_at "ss"
      rw [decide_eq_true rfl]
      exact q
    | str i =>
      cases hv
      refine r_isi (.ty _) tyX_str (kit_ty (b := "tuple") (r := false) (by decide +kernel)) ?_
      walk_at "ss"
      refine iteF ?_
      walk_at "ss"
      refine r_isi (.ty _) tyX_str (kit_ty (b := "list") (r := false) (by decide +kernel)) ?_
      walk_at "ss"
      refine iteF ?_
      walk_at "ss"
      refine r_isi (.ty _) tyX_str (kit_ty (b := "str") (r := true) (by decide +kernel)) ?_
      walk_at "ss"
      refine iteT ?_
      walk_at "ss"
      refine r_isi (.ty _) tyX_str (kit_ty (b := "str") (r := true) (by decide +kernel)) ?_
      walk_at "ss"
      refine iteT ?_
      walk_at "ss"
      rw [decide_eq_true rfl]
      exact q
    | @lst a xs ds e t =>
      cases hv with
      | @lst a' xs' _ e' t' =>
      have el := t.length
      have el' := t'.length
      refine r_isi (.ty _) (tyX_lst e) (kit_ty (b := "tuple") (r := false) (by decide +kernel)) ?_
      walk_at "ss"
      refine iteF ?_
      walk_at "ss"
      refine r_isi (.ty _) (tyX_lst e) (kit_ty (b := "list") (r := true) (by decide +kernel)) ?_
      walk_at "ss"
      refine iteT ?_
      walk_at "ss"
      refine r_isi (.ty _) (tyX_lst e') (kit_ty (b := "tuple") (r := false) (by decide +kernel)) ?_
      walk_at "ss"
      refine r_isi (.ty _) (tyX_lst e) (kit_ty (b := "tuple") (r := false) (by decide +kernel)) ?_
      walk_at "ss"
      refine ite_f rfl ?_
      walk_at "ss"
      refine r_isi (.ty _) (tyX_lst e') (kit_ty (b := "list") (r := true) (by decide +kernel)) ?_
      walk_at "ss"
      refine r_isi (.ty _) (tyX_lst e) (kit_ty (b := "list") (r := true) (by decide +kernel)) ?_
      walk_at "ss"
      refine ite_f rfl ?_
      walk_at "ss"
      refine ⟨_, _, rfl, .inl (SqL.of e'), ?_⟩
      walk_at "ss"
      refine ⟨_, _, rfl, .inl (SqL.of e), ?_⟩
      walk_at "ss"
      refine ite_f (by rw [decide_eq_true (by omega)]; rfl) ?_
      walk_at "ss"
      refine ⟨_, _, rfl, .inl (SqL.of e), ?_⟩
      obtain ⟨hsm, hd⟩ := hd
      refine ⟨_, rfl, by omega, by omega, ?_⟩
      refine for_range (lo := 0) (n := ((xs.length : Nat) : Int).toNat) (fun i σ H1 => ∃ o, σ = [some (V.ref a'), some (V.ref a), o] ∧ H1 = H) ⟨none, rfl, rfl⟩ ?_ ?_
      · rintro i σ H1 hi ⟨o, rfl, rfl⟩
        have hi2 : i < ds.length := by omega
        obtain ⟨x1, g1, w1⟩ := t.get (List.getElem?_eq_getElem hi2)
        obtain ⟨x2, g2, w2⟩ := t'.get (List.getElem?_eq_getElem hi2)
        rw [Int.zero_add]
        walk_at "ss"
        refine .inl ⟨_, _, _, _, rfl, rfl, SqL.of e', atI_nat g2, ?_⟩
        walk_at "ss"
        refine .inl ⟨_, _, _, _, rfl, rfl, SqL.of e, atI_nat g1, ?_⟩
        walk_at "ss"
        refine ⟨x2, x1, ds[i], rfl, w2, w1, hd _ (List.getElem_mem hi2), ?_⟩
        walk_at "ss"
        refine ite_f rfl ?_
        walk_at "ss"
        exact ⟨_, rfl, rfl⟩
      · rintro σ H1 ⟨o, rfl, rfl⟩
        walk_at "ss"
        exact q
    | @tup a xs ds e t =>
      cases hv with
      | @tup a' xs' _ e' t' =>
      have el := t.length
      have el' := t'.length
      refine r_isi (.ty _) (tyX_tup e) (kit_ty (b := "tuple") (r := true) (by decide +kernel)) ?_
      walk_at "ss"
      refine iteT ?_
      refine iteT ?_
      walk_at "ss"
      refine r_isi (.ty _) (tyX_tup e') (kit_ty (b := "tuple") (r := true) (by decide +kernel)) ?_
      walk_at "ss"
      refine r_isi (.ty _) (tyX_tup e) (kit_ty (b := "tuple") (r := true) (by decide +kernel)) ?_
      walk_at "ss"
      refine ite_f rfl ?_
      walk_at "ss"
      refine r_isi (.ty _) (tyX_tup e') (kit_ty (b := "list") (r := false) (by decide +kernel)) ?_
      walk_at "ss"
      refine r_isi (.ty _) (tyX_tup e) (kit_ty (b := "list") (r := false) (by decide +kernel)) ?_
      walk_at "ss"
      refine ite_f rfl ?_
      walk_at "ss"
      refine ⟨_, _, rfl, .inr (SqT.of e'), ?_⟩
      walk_at "ss"
      refine ⟨_, _, rfl, .inr (SqT.of e), ?_⟩
      walk_at "ss"
      refine ite_f (by rw [decide_eq_true (by omega)]; rfl) ?_
      walk_at "ss"
      refine ⟨_, _, rfl, .inr (SqT.of e), ?_⟩
      obtain ⟨hsm, hd⟩ := hd
      refine ⟨_, rfl, by omega, by omega, ?_⟩
      refine for_range (lo := 0) (n := ((xs.length : Nat) : Int).toNat) (fun i σ H1 => ∃ o, σ = [some (V.ref a'), some (V.ref a), o] ∧ H1 = H) ⟨none, rfl, rfl⟩ ?_ ?_
      · rintro i σ H1 hi ⟨o, rfl, rfl⟩
        have hi2 : i < ds.length := by omega
        obtain ⟨x1, g1, w1⟩ := t.get (List.getElem?_eq_getElem hi2)
        obtain ⟨x2, g2, w2⟩ := t'.get (List.getElem?_eq_getElem hi2)
        rw [Int.zero_add]
        walk_at "ss"
        refine .inr (.inl ⟨_, _, _, _, rfl, rfl, SqT.of e', atI_nat g2, ?_⟩)
        walk_at "ss"
        refine .inr (.inl ⟨_, _, _, _, rfl, rfl, SqT.of e, atI_nat g1, ?_⟩)
        walk_at "ss"
        refine ⟨x2, x1, ds[i], rfl, w2, w1, hd _ (List.getElem_mem hi2), ?_⟩
        walk_at "ss"
        refine ite_f rfl ?_
        walk_at "ss"
        exact ⟨_, rfl, rfl⟩
      · rintro σ H1 ⟨o, rfl, rfl⟩
        walk_at "ss"
        exact q
end
end MG

namespace MG
open PySem PySem.Spec PyProof.Rows L2
/-! ## 12. Comprehensions of one name, without a test -/
theorem wipe1 {σ : L2.St} {j : Nat} {v : V} : wipe ((wipe σ [j]).set j (some v)) [j] = wipe σ [j] := by
  show (((σ.set j none).set j (some v)).set j none) = σ.set j none
  rw [List.set_set, List.set_set]
def LcIt (J : It) (j : Nat) (te : TE) (σ : L2.St) (H1 : Hp) (Q : VK) : Prop := ∀ D, H1 D = none → ∃ W : Nat → Nat → Hp → Prop, (∃ m, W 0 m (upd H1 D (.lst []))) ∧ ∀ i m H, W i m H →
  (J.stop i H ∧ Q (.ref D) H) ∨ (J.go i H ∧ ∃ Nx : Hp → Prop, (∀ H', Nx H' → ∃ m', m' < m ∧ W (i + 1) m' H') ∧ ∀ x H', J.yld i H x H' → gName j x (wipe σ [j]) H' fun σ2 H2 => wipe σ2 [j] = wipe σ [j] ∧ tYes σ2 H2 fun b H3 =>
    if b = true then te σ2 H3 fun y H4 => ∃ acc, H4 D = some (.lst acc) ∧ acc.length < sizeLine ∧ Nx (upd H4 D (.lst (acc ++ [y]))) else Nx H3)
theorem r_lcR {x : Str} {ta : TA} {j : Nat} {te : TE} {σ : L2.St} {H : Hp} {Q : VK} (h : ta σ H fun vs H1 => ∃ m : Int, vs = [.int m] ∧ -(2 ^ 62) ≤ m ∧ m < 2 ^ 62 ∧ LcIt (Itr 0 m.toNat) j te σ H1 Q) : tLc (iRng1 ta) (gName j) tYes te (([(x, j)] : List (Str × Nat)).map (·.2)) σ H Q := h
theorem r_lcL {x : Str} {K : PySem.W.Frag} {ta : TE} {j : Nat} {te : TE} {σ : L2.St} {H : Hp} {Q : VK} (h : ta σ H fun x H1 => ∃ a, x = .ref a ∧ (∃ xs, SqL K H1 a xs) ∧ LcIt (Itl K a) j te σ H1 Q) : tLc (iList K ta) (gName j) tYes te (([(x, j)] : List (Str × Nat)).map (·.2)) σ H Q := h
/-- an item is made: it goes behind the list at D -/
def LcEnd (D : Addr) (Pv : List V → Hp → Prop) (y : V) (H4 : Hp) : Prop := ∃ acc, H4 D = some (.lst acc) ∧ acc.length < sizeLine ∧ ∃ acc', upd H4 D (.lst (acc ++ [y])) D = some (.lst acc') ∧ Pv acc' (upd H4 D (.lst (acc ++ [y])))
theorem LcEnd.mk {D : Addr} {Pv : List V → Hp → Prop} {y : V} {H4 : Hp} {acc : List V} (h : H4 D = some (.lst acc)) (hl : acc.length < sizeLine) (p : Pv (acc ++ [y]) (upd H4 D (.lst (acc ++ [y])))) : LcEnd D Pv y H4 := ⟨acc, h, hl, _, upd_same, p⟩
theorem lcR_mk {n j : Nat} {te : TE} {σ : L2.St} {H1 : Hp} {Q : VK} (Pv : Addr → Nat → List V → Hp → Prop) (p0 : ∀ D, H1 D = none → Pv D 0 [] (upd H1 D (.lst [])))
    (ps : ∀ i acc H D, i < n → H1 D = none → Pv D i acc H → H D = some (.lst acc) → te ((wipe σ [j]).set j (some (.int (i : Int)))) H (LcEnd D (Pv D (i + 1))))
    (pd : ∀ D acc H, H1 D = none → Pv D n acc H → H D = some (.lst acc) → Q (.ref D) H) : LcIt (Itr 0 n) j te σ H1 Q := fun D hD => by
  refine lc_range (lo := 0) (n := n) (fun i H => ∃ acc, H D = some (.lst acc) ∧ Pv D i acc H) ⟨[], upd_same, p0 D hD⟩ ?_ ?_
  · rintro i H hi ⟨acc, hd, hp⟩
    have e0 : (0 : Int) + (i : Nat) = (i : Int) := by omega
    rw [e0]
    exact ⟨wipe1, ps i acc H D hi hD hp hd⟩
  · rintro H ⟨acc, hd, hp⟩
    exact pd D acc H hD hp hd
theorem lcL_mk {K : PySem.W.Frag} {a : Addr} {xs : List V} {j : Nat} {te : TE} {σ : L2.St} {H1 : Hp} {Q : VK} (Pv : Addr → Nat → List V → Hp → Prop) (p0 : ∀ D, H1 D = none → Pv D 0 [] (upd H1 D (.lst [])))
    (hl : ∀ D i acc H, i ≤ xs.length → H1 D = none → Pv D i acc H → SqL K H a xs)
    (ps : ∀ i x acc H D, xs[i]? = some x → H1 D = none → Pv D i acc H → H D = some (.lst acc) → te ((wipe σ [j]).set j (some x)) H (LcEnd D (Pv D (i + 1))))
    (pd : ∀ D acc H, H1 D = none → Pv D xs.length acc H → H D = some (.lst acc) → Q (.ref D) H) : LcIt (Itl K a) j te σ H1 Q := fun D hD => by
  refine lc_list (K := K) (a := a) (xs := xs) (fun i H => ∃ acc, H D = some (.lst acc) ∧ Pv D i acc H) ⟨[], upd_same, p0 D hD⟩ (fun i H hi ⟨acc, _, hp⟩ => hl D i acc H hi hD hp) ?_ ?_
  · rintro i x H hx ⟨acc, hd, hp⟩
    exact ⟨wipe1, ps i x acc H D hx hD hp hd⟩
  · rintro H ⟨acc, hd, hp⟩
    exact pd D acc H hD hp hd
local macro_rules | `(tactic| walk_at "ne") => `(tactic| first | assumption | exact Ne.symm (by assumption) | exact ne_of_none (by assumption) (by assumption) | exact (ne_of_none (by assumption) (by assumption)).symm)
local macro_rules | `(tactic| walk_at "hp") => `(tactic| first | assumption | exact upd_same | (refine (upd_ne ?k1).trans ?k2; (case k1 => walk_at "ne"); (case k2 => walk_at "hp")))
local macro_rules | `(tactic| walk_at "lk") => `(tactic| first | assumption | with_reducible exact FE_under | with_reducible exact FE_worths | with_reducible exact FE_holders | with_reducible exact FC_running | with_reducible exact FC_wholes | with_reducible exact FC_places | with_reducible exact FC_in_box | with_reducible exact FC_on_peg | with_reducible exact FC_holding | with_reducible exact FC_waiting | with_reducible exact FP_running | with_reducible exact FP_wholes | with_reducible exact FP_places | with_reducible exact FP_in_box | with_reducible exact FP_on_peg | with_reducible exact FP_holding | with_reducible exact FP_waiting | with_reducible exact FP_most | with_reducible exact FP_count_made | with_reducible exact FP_count_handed | with_reducible exact FP_count_moved | with_reducible exact FP_high | with_reducible exact FP_highs | with_reducible exact FP_tops | with_reducible exact FP_above)
/-- one step of a reading that needs nothing but what is written -/
local macro_rules | `(tactic| walk_at "s") => `(tactic| first
  | with_reducible refine r_seq ?_ | with_reducible refine r_next ?_ | with_reducible refine r_set ?_ | with_reducible refine r_asg ?_ | with_reducible refine r_drop ?_ | with_reducible refine r_ret ?_ | with_reducible refine r_retN ?_ | with_reducible refine r_ifs ?_
  | ((with_reducible refine' r_var ?k1 ?_); (case k1 => exact rfl))
  | with_reducible refine r_c ?_ | with_reducible refine r_op ?_ | with_reducible refine r_un ?_ | with_reducible refine r_fld ?_ | with_reducible refine r_sfld ?_ | with_reducible refine r_saug ?_
  | with_reducible refine r_call ?_ | with_reducible refine r_make ?_ | with_reducible refine r_meth ?_ | with_reducible refine r_nil ?_ | with_reducible refine r_cons ?_ | with_reducible refine r_tup ?_ | with_reducible refine r_lst ?_ | with_reducible refine r_cb ?_ | with_reducible refine r_bm ?_ | with_reducible refine r_bm0 ?_
  | with_reducible refine r_tb ?_ | with_reducible refine r_test ?_ | with_reducible refine r_bl ?_ | with_reducible refine r_not ?_ | with_reducible refine r_and ?_ | with_reducible refine r_or ?_ | with_reducible refine r_andV ?_ | with_reducible refine r_orV ?_ | with_reducible refine r_notV ?_
  | with_reducible refine r_I0 ?_ | with_reducible refine r_eqI ?_ | with_reducible refine r_neI ?_ | with_reducible refine r_eqS ?_ | with_reducible refine r_neS ?_ | with_reducible refine r_eqB ?_ | with_reducible refine r_neB ?_
  | with_reducible refine r_lcR ?_ | with_reducible refine r_lcL ?_
  | with_reducible refine r_gname ?_ | with_reducible refine r_forRev ?_ | with_reducible refine r_forL ?_ | with_reducible refine r_forR1 ?_ | with_reducible refine r_sl ?_ | with_reducible refine r_part ?_ | with_reducible refine r_int ?_ | with_reducible refine r_nopart ?_
  | with_reducible refine r_din ?_ | with_reducible refine r_dnin ?_ | with_reducible refine r_gsub ?_
  | ((with_reducible refine' r_fld1 ?k1 ?k2 ?k3 ?k4 ?_); (case k1 => walk_at "hp"); (case k2 => assumption); (case k3 => assumption); (case k4 => walk_at "lk"))
  | ((with_reducible refine' r_aug1 ?k1 ?k2 ?k3 ?k4 ?_); (case k1 => walk_at "hp"); (case k2 => assumption); (case k3 => assumption); (case k4 => walk_at "lk"))
  | with_reducible refine r_add ?_ | with_reducible refine r_sub ?_
  | ((with_reducible refine' r_meth1 ?k1 ?k2 ?_); (case k1 => walk_at "hp"); (case k2 => first | assumption | exact fz_no (by decide +kernel)))
  | ((with_reducible refine' r_ixT ?k1 ?k2 ?_); (case k1 => first | assumption | exact SqT.of (by walk_at "hp")); (case k2 => first | assumption | rfl)))
local macro_rules | `(tactic| walk_at "ss") => `(tactic| repeat walk_at "s")

/-! ## 13. The law's house, and what stands on its pile -/
def spHouse (P : Program) (w : World) (K : PySem.W.Frag) (mg : Str → Option Value) (base : Heap) : Sp := fun vs H Q _ => ∃ (b : Addr) (x y z : Int), vs = [V.ref b] ∧ H b = some (HO.lst [.int x, .int y, .int z]) ∧
  ∀ (i : HouseI P w K mg base) (H' : Hp) (p : Addr) (F : Addr → Prop) (x' y' z' : Int), i.At H' p F [] → H' b = some (HO.lst [.int x', .int y', .int z']) → (∀ a, F a → H a = none) → (∀ c o, H c = some o → c ≠ b → H' c = some o) → Q (.ref p) H'
def spWithin : Sp := fun vs H Q _ => ∃ (n : Int) (ph : Nat), vs = [V.int n, .int (ph : Int)] ∧ ph < 6 ∧ ∀ H' l us, Sm H H' → H l = none → H' l = some (HO.lst us) → WL H' us (withT n ph).reverse → Q (.ref l) H'
section
variable {P : Program} {w : World} {K : PySem.W.Frag} {mg : Str → Option Value} {base : Heap}
theorem cal_house (T : Txt K w mg) : Cal P w K mg base 7 "_law_house" (spHouse P w K mg base) [] := by
  obtain ⟨fd, F⟩ := T.f__law_house
  have c__law_draw : Cal P w K mg base 1 "_law_draw" spDraw [] := cal_draw T
  have k_Copies : Mak P w K mg base 1 "Copies" (He.ga K "Copies") (spInitC (He.ga K "Copies")) [] := mak_Copies T
  have k_Pieces : Mak P w K mg base 5 "Pieces" (cP K) (spInitP K) [] := mak_Pieces T
  refine ⟨_, fd, P__law_house, [], ?_, T.g__law_house, F.kp, F.bindsN (fun _ _ _ _ _ _ us hl => match us, hl with | [_], _ => rfl), .nil⟩
  refine fd_ok F sc__law_house (fun vs H Q E h => ?_) (fun cdv A outer s H vs Q E hr h => ?_)
  · obtain ⟨b, x, y, z, rfl, _⟩ := h; rfl
  · obtain ⟨b, x, y, z, rfl, hb, q⟩ := h
    refine ⟨_, (pss_cons (ps_set (i := 1) sc__law_house.nd rfl (Or.inl rfl) (pe_c c__law_draw hr (by decide) rfl (pa_cons (pv 0) (pa_cons pe_int pa_nil))))
      (pss_cons (ps_if (pt_cmpR op_eq (pv 1) pe_int (nomark _)) (pss_one (ps_ret (pe_mk0 k_Copies hr (by decide) rfl))) pss_nil)
      (pss_cons (ps_if (pt_cmpR op_eq (pv 1) pe_int (nomark _)) (pss_one (ps_ret (pe_mk k_Pieces hr (by decide) rfl (pa_cons (pe_op op_add pe_int (pe_c c__law_draw hr (by decide) rfl (pa_cons (pv 0) (pa_cons pe_int pa_nil)))) pa_nil)))) pss_nil)
      (pss_one (ps_ret (pe_mk k_Pieces hr (by decide) rfl (pa_cons (pe_op op_add pe_int (pe_c c__law_draw hr (by decide) rfl (pa_cons (pv 0) (pa_cons pe_int pa_nil)))) pa_nil))))))), ?_⟩
    have pieces : ∀ (S : Nat) (x2 y2 z2 : Int) (p dx : Addr), 2 ≤ S → S ≤ 64 → upd H b (.lst [.int x2, .int y2, .int z2]) p = none → upd H b (.lst [.int x2, .int y2, .int z2]) dx = none → dx ≠ p →
        spInitP K [.ref p, .int (S : Int)] (upd (upd (upd H b (.lst [.int x2, .int y2, .int z2])) dx (.own p)) p (.ins (cP K) dx [])) (fun v H2 => v = .non ∧ Q (.ref p) H2) E0 := fun S x2 y2 z2 p dx s2 s64 np ndx nex => by
      refine ⟨p, dx, S, rfl, s2, s64, upd_same, fun H' F' ha hf k => ⟨rfl, ?_⟩⟩
      have nbp : b ≠ p := fun z => by rw [← z, upd_same] at np; cases np
      have nbd : b ≠ dx := fun z => by rw [← z, upd_same] at ndx; cases ndx
      rw [upd_ne nbp.symm] at np
      refine q ⟨cP K, _, house_Pieces T⟩ H' p F' x2 y2 z2 ha ?_ (fun a fa => ?_) (fun c o e nc => ?_)
      · exact k b _ (by rw [upd_ne nbp, upd_ne nbd, upd_same]) nbp
      · rcases hf a fa with rfl | h
        · exact np
        · cases e : H a with
          | none => rfl
          | some o =>
            have nap : a ≠ p := ne_of_none e np
            rw [upd_ne nap] at h
            by_cases e1 : a = dx
            · rw [e1, upd_same] at h; cases h
            · rw [upd_ne e1] at h
              by_cases e2 : a = b
              · rw [e2, upd_same] at h; cases h
              · rw [upd_ne e2, e] at h; cases h
      · have ncp : c ≠ p := ne_of_none e np
        have ncd : c ≠ dx := fun z => by rw [← z, upd_ne nc, e] at ndx; cases ndx
        exact k c o (by rw [upd_ne ncp, upd_ne ncd, upd_ne nc]; exact e) ncp
    walk_at "ss"
    refine ⟨b, x, y, z, 3, rfl, hb, by decide, by decide +kernel, fun r x1 y1 z1 h0 h3 => ?_⟩
    walk_at "ss"
    refine iteD (fun e => ?_) (fun e => ?_)
    · walk_at "ss"
      intro p dx np ndx nex
      refine ⟨p, dx, rfl, upd_same, fun H' r d1 d2 d3 d4 dh dw hp hR h1 h2 nrw fr k => ⟨rfl, ?_⟩⟩
      have nbp : b ≠ p := fun z => by rw [← z, upd_same] at np; cases np
      have nbd : b ≠ dx := fun z => by rw [← z, upd_same] at ndx; cases ndx
      rw [upd_ne nbp.symm] at np
      have fresh : ∀ a, (upd (upd (upd H b (.lst [.int x1, .int y1, .int z1])) dx (.own p)) p (.ins (He.ga K "Copies") dx [])) a = none → H a = none := fun a h => by
        cases e : H a with
        | none => rfl
        | some o =>
          have nap : a ≠ p := ne_of_none e np
          rw [upd_ne nap] at h
          by_cases e1 : a = dx
          · rw [e1, upd_same] at h; cases h
          · rw [upd_ne e1] at h
            by_cases e2 : a = b
            · rw [e2, upd_same] at h; cases h
            · rw [upd_ne e2, e] at h; cases h
      refine q ⟨He.ga K "Copies", _, house_Copies T⟩ H' p (fun a => a = p ∨ a = r ∨ a = dh ∨ a = dw) x1 y1 z1 ⟨dx, r, d1, d2, d3, d4, dh, dw, [], hp, hR, .nil, h1, h2, nrw, ⟨.inl rfl, .inr (.inl rfl), .inr (.inr (.inl rfl)), .inr (.inr (.inr rfl))⟩, ?_, fun y hy => nomatch hy⟩ ?_ ?_ ?_
      · rintro a (rfl | rfl | rfl | rfl)
        · rw [hp]; exact fun z => nomatch z
        · rw [hR]; exact fun z => nomatch z
        · rw [h1]; exact fun z => nomatch z
        · rw [h2]; exact fun z => nomatch z
      · exact k b _ (by rw [upd_ne nbp, upd_ne nbd, upd_same]) nbp
      · rintro a (rfl | rfl | rfl | rfl)
        · exact np
        · exact fresh _ (fr _ (by simp))
        · exact fresh _ (fr _ (by simp))
        · exact fresh _ (fr _ (by simp))
      · intro c o e nc
        have ncp : c ≠ p := ne_of_none e np
        have ncd : c ≠ dx := fun z => by rw [← z, upd_ne nc, e] at ndx; cases ndx
        exact k c o (by rw [upd_ne ncp, upd_ne ncd, upd_ne nc]; exact e) ncp
    · walk_at "ss"
      refine iteD (fun e => ?_) (fun e => ?_)
      · walk_at "ss"
        refine ⟨b, _, _, _, 4, rfl, upd_same, by decide, by decide +kernel, fun r x2 y2 z2 h0 h4 => ?_⟩
        rw [upd_upd]
        walk_at "ss"
        intro p dx np ndx nex
        have es : (2 + r : Int) = ((2 + r.toNat : Nat) : Int) := by omega
        rw [es]
        exact pieces _ _ _ _ p dx (by omega) (by omega) np ndx nex
      · walk_at "ss"
        refine ⟨b, _, _, _, 63, rfl, upd_same, by decide, by decide +kernel, fun r x2 y2 z2 h0 h4 => ?_⟩
        rw [upd_upd]
        walk_at "ss"
        intro p dx np ndx nex
        have es : (2 + r : Int) = ((2 + r.toNat : Nat) : Int) := by omega
        rw [es]
        exact pieces _ _ _ _ p dx (by omega) (by omega) np ndx nex
theorem cal_within (T : Txt K w mg) : Cal P w K mg base 1 "_law_within" spWithin [] := by
  obtain ⟨fd, F⟩ := T.f__law_within
  refine ⟨_, fd, P__law_within, [], ?_, T.g__law_within, F.kp, F.bindsN (fun _ _ _ _ _ _ us hl => match us, hl with | [_, _], _ => rfl), .nil⟩
  refine fd_ok F sc__law_within (fun vs H Q E h => ?_) (fun cdv A outer s H vs Q E hr h => ?_)
  · obtain ⟨n, ph, rfl, _⟩ := h; rfl
  · obtain ⟨n, ph, rfl, hph, q⟩ := h
    refine ⟨_, (pss_cons (ps_set (i := 2) sc__law_within.nd rfl (Or.inl rfl) (pe_lst (pa_cons (pe_lst (pa_cons (pv 0) pa_nil)) (pa_cons (pe_lst (pa_cons (pv 0) (pa_cons (pv 0) pa_nil))) (pa_cons (pe_lst (pa_cons (pv 0) pa_nil)) (pa_cons (pe_lst (pa_cons (pv 0) (pa_cons pe_int pa_nil))) (pa_cons (pe_lst (pa_cons (pe_op op_sub (pv 0) pe_int) pa_nil)) (pa_cons (pe_lst (pa_cons (pe_op op_sub (pv 0) pe_int) (pa_cons (pe_op op_sub (pv 0) pe_int) pa_nil))) pa_nil))))))))
      (pss_one (ps_ret (pe_lc (own := [("n", 3)]) (g := gName 3) (tt := tYes) rfl sc__law_within.nd (pi_list (pe_ix ix_list (pv 2) (pv 1) (fun _ _ => rfl))) (blkOk_by (own := [("n", 3)]) (N := N__law_within) (sc := defScope s__law_within) (by decide +kernel)) (fun _ _ _ _ _ => pg_name (i := 3) sc__law_within.nd rfl (Or.inl rfl)) (fun _ _ _ _ _ => pts_nil) (fun _ _ _ _ _ => (pe_tup (pa_cons pe_str (pa_cons (pv 3) pa_nil)))))))), ?_⟩
    walk_at "ss"
    refine ⟨by show 1 ≤ sizeLine; decide, fun p0 n0 => ?_⟩
    walk_at "ss"
    refine ⟨by show 2 ≤ sizeLine; decide, fun p1 n1 => ?_⟩
    walk_at "ss"
    refine ⟨by show 1 ≤ sizeLine; decide, fun p2 n2 => ?_⟩
    walk_at "ss"
    refine ⟨by show 2 ≤ sizeLine; decide, fun p3 n3 => ?_⟩
    walk_at "ss"
    refine ⟨by show 1 ≤ sizeLine; decide, fun p4 n4 => ?_⟩
    walk_at "ss"
    refine ⟨by show 2 ≤ sizeLine; decide, fun p5 n5 => ?_⟩
    walk_at "ss"
    refine ⟨by show 6 ≤ sizeLine; decide, fun p6 n6 => ?_⟩
    walk_at "ss"
    have ns : ∀ {H : Hp} {a : Addr} {o : HO} {b : Addr}, upd H a o b = none → b ≠ a ∧ H b = none := fun {H a o b} h => by
      have e : b ≠ a := fun z => by rw [z, upd_same] at h; cases h
      exact ⟨e, by rw [upd_ne e] at h; exact h⟩
    generalize eH : upd (upd (upd (upd (upd (upd (upd H p0 _) p1 _) p2 _) p3 _) p4 _) p5 _) p6 _ = H7
    have k7 : ∀ a o, H a = some o → H7 a = some o := fun a o e => by
      obtain ⟨a1, b1⟩ := ns n6; obtain ⟨a2, b2⟩ := ns b1; obtain ⟨a3, b3⟩ := ns b2; obtain ⟨a4, b4⟩ := ns b3; obtain ⟨a5, b5⟩ := ns b4; obtain ⟨a6, b6⟩ := ns b5
      obtain ⟨c1, d1⟩ := ns n5; obtain ⟨c2, d2⟩ := ns d1; obtain ⟨c3, d3⟩ := ns d2; obtain ⟨c4, d4⟩ := ns d3; obtain ⟨c5, d5⟩ := ns d4
      obtain ⟨e1, f1⟩ := ns n4; obtain ⟨e2, f2⟩ := ns f1; obtain ⟨e3, f3⟩ := ns f2; obtain ⟨e4, f4⟩ := ns f3
      obtain ⟨g1, h1⟩ := ns n3; obtain ⟨g2, h2⟩ := ns h1; obtain ⟨g3, h3⟩ := ns h2
      obtain ⟨i1, j1⟩ := ns n2; obtain ⟨i2, j2⟩ := ns j1
      obtain ⟨l1, m1⟩ := ns n1
      rw [← eH, upd_ne (ne_of_none e b6), upd_ne (ne_of_none e d5), upd_ne (ne_of_none e f4), upd_ne (ne_of_none e h3), upd_ne (ne_of_none e j2), upd_ne (ne_of_none e m1), upd_ne (ne_of_none e n0)]
      exact e
    have h6 : H7 p6 = some (.lst [.ref p0, .ref p1, .ref p2, .ref p3, .ref p4, .ref p5]) := by rw [← eH, upd_same]
    obtain ⟨q0, xs, h9, h10, h11⟩ : ∃ (q0 : Addr) (xs : List Int), ([.ref p0, .ref p1, .ref p2, .ref p3, .ref p4, .ref p5] : List V)[ph]? = some (.ref q0) ∧ H7 q0 = some (.lst (xs.map V.int)) ∧ (withT n ph).reverse = xs.map nw := by
      obtain ⟨a1, b1⟩ := ns n6; obtain ⟨a2, b2⟩ := ns b1; obtain ⟨a3, b3⟩ := ns b2; obtain ⟨a4, b4⟩ := ns b3; obtain ⟨a5, b5⟩ := ns b4; obtain ⟨a6, b6⟩ := ns b5
      obtain ⟨c1, d1⟩ := ns n5; obtain ⟨c2, d2⟩ := ns d1; obtain ⟨c3, d3⟩ := ns d2; obtain ⟨c4, d4⟩ := ns d3; obtain ⟨c5, d5⟩ := ns d4
      obtain ⟨e1, f1⟩ := ns n4; obtain ⟨e2, f2⟩ := ns f1; obtain ⟨e3, f3⟩ := ns f2; obtain ⟨e4, f4⟩ := ns f3
      obtain ⟨g1, h1⟩ := ns n3; obtain ⟨g2, h2⟩ := ns h1; obtain ⟨g3, h3⟩ := ns h2
      obtain ⟨i1, j1⟩ := ns n2; obtain ⟨i2, j2⟩ := ns j1
      obtain ⟨l1, m1⟩ := ns n1
      have hc : ph = 0 ∨ ph = 1 ∨ ph = 2 ∨ ph = 3 ∨ ph = 4 ∨ ph = 5 := by omega
      rcases hc with rfl | rfl | rfl | rfl | rfl | rfl
      · exact ⟨p0, [n], rfl, by rw [← eH, upd_ne a6.symm, upd_ne c5.symm, upd_ne e4.symm, upd_ne g3.symm, upd_ne i2.symm, upd_ne l1.symm, upd_same]; rfl, rfl⟩
      · exact ⟨p1, [n, n], rfl, by rw [← eH, upd_ne a5.symm, upd_ne c4.symm, upd_ne e3.symm, upd_ne g2.symm, upd_ne i1.symm, upd_same]; rfl, rfl⟩
      · exact ⟨p2, [n], rfl, by rw [← eH, upd_ne a4.symm, upd_ne c3.symm, upd_ne e2.symm, upd_ne g1.symm, upd_same]; rfl, rfl⟩
      · exact ⟨p3, [n, 1], rfl, by rw [← eH, upd_ne a3.symm, upd_ne c2.symm, upd_ne e1.symm, upd_same]; rfl, rfl⟩
      · exact ⟨p4, [n - 1], rfl, by rw [← eH, upd_ne a2.symm, upd_ne c1.symm, upd_same]; rfl, rfl⟩
      · exact ⟨p5, [n - 1, n - 1], rfl, by rw [← eH, upd_ne a1.symm, upd_same]; rfl, rfl⟩
    clear eH
    walk_at "ss"
    refine r_ixL (SqL.of h6) (atI_nat h9) ?_
    refine ⟨q0, rfl, ⟨_, SqL.of h10⟩, ?_⟩
    refine lcL_mk (K := K) (a := q0) (xs := xs.map V.int) (fun D i acc H8 => Sm H7 H8 ∧ WL H8 acc ((xs.take i).map nw)) (fun D hD => ⟨(Sm.refl H7).new hD, .nil⟩) (fun D i acc H8 _ _ ⟨s, _⟩ => SqL.of (s _ _ h10)) ?_ ?_
    · rintro i x acc H8 D hx hD ⟨s, wl⟩ hd
      rw [List.getElem?_map] at hx
      have hi : i < xs.length := by
        cases e : xs[i]? with
        | none => rw [e] at hx; cases hx
        | some z => exact (List.getElem?_eq_some_iff.mp e).1
      rw [List.getElem?_eq_getElem hi] at hx
      have ex : V.int xs[i] = x := Option.some.inj hx
      subst ex
      walk_at "ss"
      refine ⟨by show 2 ≤ sizeLine; decide, fun t nt => ?_⟩
      have ndt : D ≠ t := ne_of_none hd nt
      have lx : xs.length ≤ 2 := by
        have : (withT n ph).length ≤ 2 := by unfold withT; split <;> simp
        rw [← List.length_reverse, h11, List.length_map] at this
        exact this
      refine LcEnd.mk (acc := acc) (by rw [upd_ne ndt]; exact hd) (small5 (by rw [wl.length, List.length_map, List.length_take]; omega)) ?_
      have s2 : Sm H8 (upd H8 t (.tup [.str "num", .int xs[i]])) := (Sm.refl H8).new nt
      have tp := tup_l (H := upd H8 t (.tup [.str "num", .int xs[i]])) (l := D) (us := acc) (o := .lst (acc ++ [.ref t])) (by rw [upd_ne ndt]; exact hd)
      refine ⟨fun a o e => ?_, ?_⟩
      · rw [upd_ne (ne_of_none e hD)]; exact s2 _ _ (s _ _ e)
      · rw [List.take_succ_eq_append_getElem hi, List.map_append]
        exact ((wl.keep fun b xs e => s2 b _ e).keep tp).append (.one ⟨t, rfl, tp _ _ upd_same⟩)
    · rintro D acc H8 hD ⟨s, wl⟩ hd
      rw [List.length_map, List.take_length, ← h11] at wl
      exact q H8 D acc (fun a o e => s _ _ (k7 a o e)) (by
        cases e : H D with
        | none => rfl
        | some o => rw [k7 D o e] at hD; cases hD) hd wl
end
end MG

namespace MG
open PySem PySem.Spec PyProof.Rows L2
local macro_rules | `(tactic| walk_at "ne") => `(tactic| first | assumption | exact Ne.symm (by assumption) | exact ne_of_none (by assumption) (by assumption) | exact (ne_of_none (by assumption) (by assumption)).symm)
local macro_rules | `(tactic| walk_at "hp") => `(tactic| first | assumption | exact upd_same | (refine (upd_ne ?k1).trans ?k2; (case k1 => walk_at "ne"); (case k2 => walk_at "hp")))
local macro_rules | `(tactic| walk_at "lk") => `(tactic| first | assumption | with_reducible exact FE_under | with_reducible exact FE_worths | with_reducible exact FE_holders | with_reducible exact FC_running | with_reducible exact FC_wholes | with_reducible exact FC_places | with_reducible exact FC_in_box | with_reducible exact FC_on_peg | with_reducible exact FC_holding | with_reducible exact FC_waiting | with_reducible exact FP_running | with_reducible exact FP_wholes | with_reducible exact FP_places | with_reducible exact FP_in_box | with_reducible exact FP_on_peg | with_reducible exact FP_holding | with_reducible exact FP_waiting | with_reducible exact FP_most | with_reducible exact FP_count_made | with_reducible exact FP_count_handed | with_reducible exact FP_count_moved | with_reducible exact FP_high | with_reducible exact FP_highs | with_reducible exact FP_tops | with_reducible exact FP_above)
/-- one step of a reading that needs nothing but what is written -/
local macro_rules | `(tactic| walk_at "s") => `(tactic| first
  | with_reducible refine r_seq ?_ | with_reducible refine r_next ?_ | with_reducible refine r_set ?_ | with_reducible refine r_asg ?_ | with_reducible refine r_drop ?_ | with_reducible refine r_ret ?_ | with_reducible refine r_retN ?_ | with_reducible refine r_ifs ?_
  | ((with_reducible refine' r_var ?k1 ?_); (case k1 => exact rfl))
  | with_reducible refine r_c ?_ | with_reducible refine r_op ?_ | with_reducible refine r_un ?_ | with_reducible refine r_fld ?_ | with_reducible refine r_sfld ?_ | with_reducible refine r_saug ?_
  | with_reducible refine r_call ?_ | with_reducible refine r_make ?_ | with_reducible refine r_meth ?_ | with_reducible refine r_nil ?_ | with_reducible refine r_cons ?_ | with_reducible refine r_tup ?_ | with_reducible refine r_lst ?_ | with_reducible refine r_cb ?_ | with_reducible refine r_bm ?_ | with_reducible refine r_bm0 ?_
  | with_reducible refine r_tb ?_ | with_reducible refine r_test ?_ | with_reducible refine r_bl ?_ | with_reducible refine r_not ?_ | with_reducible refine r_and ?_ | with_reducible refine r_or ?_ | with_reducible refine r_andV ?_ | with_reducible refine r_orV ?_ | with_reducible refine r_notV ?_
  | with_reducible refine r_I0 ?_ | with_reducible refine r_eqI ?_ | with_reducible refine r_neI ?_ | with_reducible refine r_eqS ?_ | with_reducible refine r_neS ?_ | with_reducible refine r_eqB ?_ | with_reducible refine r_neB ?_
  | with_reducible refine r_lcR ?_ | with_reducible refine r_lcL ?_
  | with_reducible refine r_gname ?_ | with_reducible refine r_forRev ?_ | with_reducible refine r_forL ?_ | with_reducible refine r_forR1 ?_ | with_reducible refine r_sl ?_ | with_reducible refine r_part ?_ | with_reducible refine r_int ?_ | with_reducible refine r_nopart ?_
  | with_reducible refine r_din ?_ | with_reducible refine r_dnin ?_ | with_reducible refine r_gsub ?_
  | ((with_reducible refine' r_fld1 ?k1 ?k2 ?k3 ?k4 ?_); (case k1 => walk_at "hp"); (case k2 => assumption); (case k3 => assumption); (case k4 => walk_at "lk"))
  | ((with_reducible refine' r_aug1 ?k1 ?k2 ?k3 ?k4 ?_); (case k1 => walk_at "hp"); (case k2 => assumption); (case k3 => assumption); (case k4 => walk_at "lk"))
  | with_reducible refine r_add ?_ | with_reducible refine r_sub ?_
  | ((with_reducible refine' r_meth1 ?k1 ?k2 ?_); (case k1 => walk_at "hp"); (case k2 => first | assumption | exact fz_no (by decide +kernel)))
  | ((with_reducible refine' r_ixT ?k1 ?k2 ?_); (case k1 => first | assumption | exact SqT.of (by walk_at "hp")); (case k2 => first | assumption | rfl)))
local macro_rules | `(tactic| walk_at "ss") => `(tactic| repeat walk_at "s")

/-! ## 14. The law -/
theorem Sm.over {H H1 : Hp} {b : Addr} {o : HO} (s : Sm H H1) (hb : H b = none) : Sm H (upd H1 b o) := fun c u e => by
  rw [upd_ne (ne_of_none e hb)]; exact s _ _ e
theorem BagAt.new {H : Hp} {b p : Addr} {o : HO} (h : BagAt H b) (n : H p = none) : BagAt (upd H p o) b := by
  obtain ⟨x, y, z, e⟩ := h
  exact ⟨x, y, z, by rw [upd_ne (ne_of_none e n)]; exact e⟩
theorem draw_ {I : Hp → Prop} {H1 : Hp} {b : Addr} {many : Int} {Q : VK} {E : XK} (h : I H1) (g : BagAt H1 b) (cl : ∀ H us vs, I H → H b = some (.lst vs) → I (upd H b (.lst us))) (m0 : 0 < many) (lg : many.natAbs.log2 < 9000)
    (q : ∀ H2 r, I H2 → BagAt H2 b → 0 ≤ r → r < many → Q (.int r) H2) : spDraw [V.ref b, .int many] H1 Q E := by
  obtain ⟨x, y, z, e⟩ := g
  exact ⟨b, x, y, z, many, rfl, e, m0, lg, fun r x' y' z' r0 r1 => q _ r (cl _ _ _ h e) ⟨_, _, _, upd_same⟩ r0 r1⟩
theorem number_ {I : Hp → Prop} {H1 : Hp} {b : Addr} {Q : VK} {E : XK} (h : I H1) (g : BagAt H1 b) (cl : ∀ H us vs, I H → H b = some (.lst vs) → I (upd H b (.lst us)))
    (q : ∀ H2 r, I H2 → BagAt H2 b → Q (.int r) H2) : spNumber [V.ref b] H1 Q E := by
  obtain ⟨x, y, z, e⟩ := g
  exact ⟨b, x, y, z, rfl, e, fun r x' y' z' => q _ r (cl _ _ _ h e) ⟨_, _, _, upd_same⟩⟩
/-- the pile of the law at D, the house still empty -/
structure G2 (H : Hp) (At : AtT) (p D : Addr) (F : Addr → Prop) (acc : List V) (xs : List Wo) (H1 : Hp) : Prop where
  sm : Sm H H1
  at_ : At H1 p F []
  li : H1 D = some (.lst acc)
  wl : WL H1 acc xs
section
variable {P : Program} {w : World} {K : PySem.W.Frag} {mg : Str → Option Value} {base : Heap} {C : Addr} {At : AtT} {H H1 : Hp} {p D : Addr} {F : Addr → Prop} {acc : List V} {xs : List Wo}
theorem G2.new (L : House P w K mg base C At) (g : G2 H At p D F acc xs H1) {t : Addr} {o : HO} (n : H1 t = none) : G2 H At p D F acc xs (upd H1 t o) :=
  have s : Sm H1 (upd H1 t o) := (Sm.refl H1).new n
  ⟨g.sm.new n, L.sm g.at_ s, s _ _ g.li, g.wl.keep fun b us e => s b _ e⟩
theorem G2.bag (L : House P w K mg base C At) (g : G2 H At p D F acc xs H1) {b : Addr} {us vs : List V} (e : H1 b = some (.lst vs)) (nb : H b = none) (nF : ¬ F b) (nd : b ≠ D) : G2 H At p D F acc xs (upd H1 b (.lst us)) :=
  ⟨g.sm.over nb, L.ex_ g.at_ nF e, by rw [upd_ne nd.symm]; exact g.li, g.wl.keep (tup_l e)⟩
theorem G2.push (L : House P w K mg base C At) (g : G2 H At p D F acc xs H1) (nD : H D = none) (nF : ¬ F D) {t : Addr} {x : Wo} (e : H1 t = some (.tup [.str x.1, .int x.2])) : G2 H At p D F (acc ++ [.ref t]) (xs ++ [x]) (upd H1 D (.lst (acc ++ [.ref t]))) :=
  have k := tup_l (H := H1) (l := D) (us := acc) (o := .lst (acc ++ [.ref t])) g.li
  ⟨g.sm.over nD, L.ex_ g.at_ nF g.li, upd_same, (g.wl.keep k).append (.one ⟨t, rfl, k _ _ e⟩)⟩
theorem G2.last (L : House P w K mg base C At) {v : V} {y : Wo} (g : G2 H At p D F (acc ++ [v]) (xs ++ [y]) H1) (nD : H D = none) (nF : ¬ F D) {t : Addr} {x : Wo} (e : H1 t = some (.tup [.str x.1, .int x.2])) : G2 H At p D F (acc ++ [.ref t]) (xs ++ [x]) (upd H1 D (.lst (acc ++ [.ref t]))) := by
  have k := tup_l (H := H1) (l := D) (us := acc ++ [v]) (o := .lst (acc ++ [.ref t])) g.li
  have wl : WL H1 acc xs := by
    have := g.wl.dropLast
    rwa [List.dropLast_concat, List.dropLast_concat] at this
  exact ⟨g.sm.over nD, L.ex_ g.at_ nF g.li, upd_same, (wl.keep k).append (.one ⟨t, rfl, k _ _ e⟩)⟩
end
/-- the pile of the law at D, the house at st -/
structure G3 (H : Hp) (At : AtT) (p D : Addr) (acc : List V) (xs : List Wo) (st : List Wo) (F : Addr → Prop) (H1 : Hp) : Prop where
  sm : Sm H H1
  out : ∀ c, F c → H c = none
  nD : ¬ F D
  at_ : At H1 p F st
  li : H1 D = some (.lst acc)
  wl : WL H1 acc xs
theorem G3.mv {H H1 H2 : Hp} {At : AtT} {p D : Addr} {acc : List V} {xs st st' : List Wo} {F F' : Addr → Prop} (g : G3 H At p D acc xs st F H1) (m : Mv F H1 F' H2) (a : At H2 p F' st') : G3 H At p D acc xs st' F' H2 where
  sm := fun c o e => m.frm c o (g.sm c o e) fun f => by rw [g.out c f] at e; cases e
  out := fun c f => by
    rcases m.grow c f with h | h
    · exact g.out c h
    · cases e : H c with
      | none => rfl
      | some o => rw [g.sm c o e] at h; cases h
  nD := fun f => by
    rcases m.grow D f with h | h
    · exact g.nD h
    · rw [g.li] at h; cases h
  at_ := a
  li := m.frm D _ g.li g.nD
  wl := g.wl.keep m.tup
theorem RL.nil {H : Hp} : RL H [] [] := ⟨rfl, fun i op e => by cases i <;> cases e⟩
theorem RL.append {H : Hp} {us vs : List V} {os ps : List Op} (h : RL H us os) (g : RL H vs ps) : RL H (us ++ vs) (os ++ ps) := by
  refine ⟨by rw [List.length_append, List.length_append, h.1, g.1], fun i op e => ?_⟩
  by_cases hi : i < os.length
  · rw [List.getElem?_append_left hi] at e
    obtain ⟨t, a, b⟩ := h.2 i op e
    exact ⟨t, by rw [List.getElem?_append_left (by rw [h.1]; exact hi)]; exact a, b⟩
  · rw [List.getElem?_append_right (by omega)] at e
    obtain ⟨t, a, b⟩ := g.2 _ op e
    exact ⟨t, by rw [List.getElem?_append_right (by rw [h.1]; omega), h.1]; exact a, b⟩
theorem RL.cons {H : Hp} {t : Addr} {op : Op} {vs : List V} {ps : List Op} (e : H t = some (.tup (rowV op))) (g : RL H vs ps) : RL H (.ref t :: vs) (op :: ps) := by
  refine ⟨by rw [List.length_cons, List.length_cons, g.1], fun i op' e' => ?_⟩
  cases i with
  | zero =>
    have := Option.some.inj e'
    subst this
    exact ⟨t, rfl, e⟩
  | succ i => exact g.2 i op' e'
theorem sq_sm {K : PySem.W.Frag} {H H' : Hp} {a : Addr} {xs : List V} (h : SqL K H a xs) (e : Sm H H') : SqL K H' a xs :=
  h.elim (fun h => .inl (h.elim (fun h => .inl (e _ _ h)) fun ⟨o, h⟩ => .inr ⟨o, e _ _ h⟩)) fun h => .inr h
theorem al {H : Hp} {a : Addr} {o : HO} (n : H a = none) : Sm H (upd H a o) ∧ upd H a o a = some o := ⟨(Sm.refl H).new n, upd_same⟩
theorem howD {start steps : Nat} {number : Int} {P : List Wo} : howP (opsD start number) (trD start number P (manyD number steps)).2.1 (trD start number P (manyD number steps)).1 = if 0 < number ∧ 6 * number + 2 ≤ (steps : Int) then "done" else "more" := by
  unfold manyD
  by_cases h : 0 < number ∧ 6 * number + 2 ≤ (steps : Int)
  · rw [if_pos h, if_pos h, trD_end2 h.1 (by omega)]
    unfold howP
    rw [opsD_len]
    exact if_pos rfl
  · rw [if_neg h, if_neg h]
    exact (nxD (by omega)).more
theorem manyD_le {number : Int} {steps : Nat} : manyD number steps ≤ steps := by unfold manyD; split <;> omega
theorem manyD_end {number : Int} {steps : Nat} (h : ¬ (0 < number ∧ 6 * number + 2 ≤ (steps : Int))) : manyD number steps = steps := by unfold manyD; rw [if_neg h]
def dF (how : Str) (row m : Int) (told : List Wo) : PyData := .tuple [.str how, .int row, .list (told.map dWo), .int m]
theorem dL_q {H : Hp} {l : Addr} {us : List V} {xs : List Wo} (h : H l = some (.lst us)) (wl : WL H us xs) : Dq H (.ref l) (.list (xs.map dWo)) := .lst h wl.dq
theorem dF_q {H : Hp} {t tl : Addr} {tv : List V} {told : List Wo} {how : Str} {row m : Int} (h : H t = some (.tup [.str how, .int row, .ref tl, .int m])) (e : H tl = some (.lst tv)) (wl : WL H tv told) : Dq H (.ref t) (dF how row m told) :=
  .tup h (.cons (.str _) (.cons (.int _) (.cons (dL_q e wl) (.cons (.int _) .nil))))
theorem dWo_deep {n : Nat} {x : Wo} : deep (n + 1) (dWo x) := by
  refine ⟨by show 2 ≤ 100000; decide, fun d hd => ?_⟩
  rcases List.mem_cons.mp hd with h | h
  · rw [h]; unfold deep; exact True.intro
  · rw [List.mem_singleton.mp h]; unfold deep; exact True.intro
theorem dL_deep {n : Nat} {xs : List Wo} (h : xs.length ≤ 100000) : deep (n + 2) (.list (xs.map dWo)) := by
  refine ⟨by rw [List.length_map]; exact h, fun d hd => ?_⟩
  obtain ⟨x, _, e⟩ := List.mem_map.mp hd
  rw [← e]
  exact dWo_deep
theorem dF_deep {how : Str} {row m : Int} {told : List Wo} (h : told.length ≤ 100000) : deep 3 (dF how row m told) := by
  refine ⟨by show 4 ≤ 100000; decide, fun d hd => ?_⟩
  simp only [List.mem_cons, List.not_mem_nil, or_false] at hd
  rcases hd with rfl | rfl | rfl | rfl
  · unfold deep; exact True.intro
  · unfold deep; exact True.intro
  · exact dL_deep h
  · unfold deep; exact True.intro
theorem same_ {H : Hp} {v u : V} {Q : VK} {E : XK} (d : PyData) (hv : Dq H v d) (hu : Dq H u d) (hd : deep 3 d) (q : Q (.bl true) H) : spSame 3 [v, u] H Q E := ⟨v, u, d, rfl, hv, hu, hd, q⟩
theorem if_and2 {p : Prop} [Decidable p] {A X Y : Prop} (hA : Y → p → A) (hY : Y) : if decide p = true then A else (if false = true then X else Y) := by
  by_cases h : p
  · rw [if_pos (decide_eq_true h)]; exact hA hY h
  · rw [if_neg (by simp [h]), if_neg (by decide)]; exact hY
def spLaw (K : PySem.W.Frag) : Sp := fun vs H Q _ => ∃ (a : Addr) (ns : List Int), vs = [V.ref a] ∧ SqL K H a (ns.map V.int) ∧ ns.length ≤ 63 ∧ ∀ H', Q (.bl true) H'
section
variable {P : Program} {w : World} {K : PySem.W.Frag} {mg : Str → Option Value} {base : Heap}
theorem law_ok (T : Txt K w mg) {fd : FuncData} (F : FunD K "law" "law" (defArgs s_law) (defBody s_law) (defScope s_law) [] [] (He.ga K "law") fd) : FnOk P w K mg base CX0 14 (He.ga K "law") fd P_law (spLaw K) := by
  have c__law_draw : Cal P w K mg base 1 "_law_draw" spDraw [] := cal_draw T
  have c__law_bag : Cal P w K mg base 1 "_law_bag" spBag [] := cal_bag T
  have c__law_cell_at : Cal P w K mg base 1 "_law_cell_at" (spCell K) [] := cal_cell T
  have c__law_number : Cal P w K mg base 2 "_law_number" spNumber [] := cal_number T
  have c__law_house : Cal P w K mg base 7 "_law_house" (spHouse P w K mg base) [] := cal_house T
  have c__law_within : Cal P w K mg base 1 "_law_within" spWithin [] := cal_within T
  have c__law_same : Cal P w K mg base 4 "_law_same" (spSame 3) [] := sameS T (sameS T (sameS T (same0 T)))
  refine fd_ok F sc_law (fun vs H Q E h => ?_) (fun cdv A outer s H vs Q E hr h => ?_)
  · obtain ⟨a, ns, rfl, _⟩ := h; rfl
  · obtain ⟨a, ns, rfl, hS, hn, q⟩ := h
    refine ⟨_, (pss_cons (ps_set (i := 1) sc_law.nd rfl (Or.inr rfl) (pe_c c__law_bag hr (by decide) rfl (pa_cons (pe_c c__law_cell_at hr (by decide) rfl (pa_cons (pv 0) (pa_cons pe_int pa_nil))) pa_nil)))
      (pss_cons (ps_set (i := 2) sc_law.nd rfl (Or.inl rfl) (pe_c c__law_draw hr (by decide) rfl (pa_cons (pv 1) (pa_cons pe_int pa_nil))))
      (pss_cons (ps_set (i := 3) sc_law.nd rfl (Or.inr rfl) (pe_op op_add pe_int (pe_c c__law_draw hr (by decide) rfl (pa_cons (pv 1) (pa_cons (pe_ix ix_list (pe_lst (pa_cons pe_int (pa_cons pe_int (pa_cons pe_int (pa_cons pe_int (pa_cons pe_int (pa_cons pe_int pa_nil))))))) (pv 2) (fun _ _ => rfl)) pa_nil)))))
      (C8.pss_cut (ps_if (pt_cmpR op_eq (pv 2) pe_int (nomark _)) (pss_one (ps_set (i := 3) sc_law.nd rfl (Or.inr rfl) (pe_op op_sub pe_int (pv 3)))) pss_nil)
      (pss_cons (ps_set (i := 4) sc_law.nd rfl (Or.inl rfl) (pe_c c__law_draw hr (by decide) rfl (pa_cons (pv 1) (pa_cons pe_int pa_nil))))
      (pss_cons (ps_set (i := 5) sc_law.nd rfl (Or.inl rfl) (pe_c c__law_draw hr (by decide) rfl (pa_cons (pv 1) (pa_cons (pe_ix ix_list (pe_lst (pa_cons pe_int (pa_cons pe_int (pa_cons pe_int (pa_cons pe_int pa_nil))))) (pe_c c__law_draw hr (by decide) rfl (pa_cons (pv 1) (pa_cons pe_int pa_nil))) (fun _ _ => rfl)) pa_nil))))
      (pss_cons (ps_set (i := 6) sc_law.nd rfl (Or.inl rfl) (pe_c c__law_house hr (by decide) rfl (pa_cons (pv 1) pa_nil)))
      (pss_ex fun (i : HouseI _ _ _ _ _) =>
      have m_put := i.L.put
      have m_pile := i.L.pile
      have c_run := cal_run T i.L
      (pss_cons (ps_setLc (i := 7) (own := [("k", 18)]) (g := gName 18) (tt := tYes) rfl sc_law.nd rfl rfl (sw_true rfl rfl rfl (by decide +kernel)) (pi_range1 (by rfl) T.b_range (pa_cons (pe_c c__law_draw hr (by decide) rfl (pa_cons (pv 1) (pa_cons pe_int pa_nil))) pa_nil)) (blkOk_by (own := [("k", 18)]) (N := N_law) (sc := defScope s_law) (by decide +kernel)) (fun _ _ _ _ _ => pg_name (i := 18) sc_law.nd rfl (Or.inl rfl)) (fun _ _ _ _ _ => pts_nil) (fun _ _ _ _ _ => (pe_tup (pa_cons pe_str (pa_cons (pe_c c__law_number hr (by decide) rfl (pa_cons (pv 1) pa_nil)) pa_nil)))))
      (pss_cons (ps_for PassesOwn.never rfl (pi_list (pe_slice sl_list (pv 0) (po_some pe_int) (po_some pe_int))) (pg_name (i := 8) sc_law.nd rfl (Or.inl rfl)) (pss_cons (ps_set (i := 9) sc_law.nd rfl (Or.inl rfl) (pe_c c__law_bag hr (by decide) rfl (pa_cons (pv 8) pa_nil)))
      (pss_cons (ps_expr (pe_bm PySem.F.plainAttrs_list PySem.F.slot_list_append PySem.F.type_list_append mt_append (pv 7) (pa_cons (pe_tup (pa_cons pe_str (pa_cons (pe_c c__law_number hr (by decide) rfl (pa_cons (pv 9) pa_nil)) pa_nil))) pa_nil)))
      (pss_one (ps_if (pt_cmpR op_eq (pe_c c__law_draw hr (by decide) rfl (pa_cons (pv 9) (pa_cons pe_int pa_nil))) pe_int (nomark _)) (pss_one (ps_asg (pe_tup (pa_cons pe_str (pa_cons (pe_callB call_abs (by rfl) T.b_abs (by decide +kernel) (pa_cons (pe_c c__law_number hr (by decide) rfl (pa_cons (pv 9) pa_nil)) pa_nil)) pa_nil))) (pg_sub (pv 7) (pe_un un_neg pe_int) set_list))) pss_nil)))))
      (pss_cons (ps_for PassesOwn.never rfl (pi_list (pv 7)) (pg_name (i := 10) sc_law.nd rfl (Or.inl rfl)) (pss_one (ps_expr (pe_mt m_put hr (by decide) (pv 6) (pa_cons (pv 10) pa_nil)))))
      (pss_cons (ps_set (i := 11) sc_law.nd rfl (Or.inl rfl) (pe_op op_cat (pe_lc (own := [("k", 18)]) (g := gName 18) (tt := tYes) rfl sc_law.nd (pi_range1 (by rfl) T.b_range (pa_cons (pv 4) pa_nil)) (blkOk_by (own := [("k", 18)]) (N := N_law) (sc := defScope s_law) (by decide +kernel)) (fun _ _ _ _ _ => pg_name (i := 18) sc_law.nd rfl (Or.inl rfl)) (fun _ _ _ _ _ => pts_nil) (fun _ _ _ _ _ => (pe_tup (pa_cons pe_str pa_nil)))) (pe_lst (pa_cons (pe_tup (pa_cons pe_str (pa_cons (pv 3) pa_nil))) (pa_cons (pe_tup (pa_cons pe_str (pa_cons pe_int pa_nil))) (pa_cons (pe_tup (pa_cons pe_str pa_nil)) (pa_cons (pe_tup (pa_cons pe_str (pa_cons pe_int pa_nil))) (pa_cons (pe_tup (pa_cons pe_str pa_nil)) pa_nil))))))))
      (pss_cons (ps_set (i := 11) sc_law.nd rfl (Or.inl rfl) (pe_op op_cat (pv 11) (pe_lst (pa_cons (pe_tup (pa_cons pe_str (pa_cons pe_int pa_nil))) (pa_cons (pe_tup (pa_cons pe_str (pa_cons (pe_op op_add (pv 4) pe_int) pa_nil))) (pa_cons (pe_tup (pa_cons pe_str (pa_cons pe_int pa_nil))) pa_nil))))))
      (pss_cons (ps_set (i := 12) sc_law.nd rfl (Or.inl rfl) (pe_c c_run hr (by decide) rfl (pa_cons (pv 6) (pa_cons (pe_callTy call_list_of (by rfl) T.b_list (by decide +kernel) (pa_cons (pv 11) pa_nil)) (pa_cons (pv 5) (pa_cons (pv 4) pa_nil))))))
      (pss_cons (ps_if (pt_cmpR op_eq (pv 5) pe_int (nomark _)) (pss_one (ps_ret (pe_and (pe_c c__law_same hr (by decide) rfl (pa_cons (pv 12) (pa_cons (pe_tup (pa_cons pe_str (pa_cons (pv 4) (pa_cons (pe_lst pa_nil) (pa_cons pe_int pa_nil))))) pa_nil))) (pe_one (pe_c c__law_same hr (by decide) rfl (pa_cons (pe_mt0 m_pile hr (by decide) (pv 6)) (pa_cons (pv 7) pa_nil))))))) pss_nil)
      (pss_cons (ps_set (i := 13) sc_law.nd rfl (Or.inl rfl) (pe_op op_fdivW (pe_op op_sub (pv 5) pe_int) pe_int))
      (pss_cons (ps_set (i := 14) sc_law.nd rfl (Or.inl rfl) (pe_op op_modN (pe_op op_sub (pv 5) pe_int) pe_int))
      (pss_cons (ps_if (PW.pt (pw_and (pt_cmpR op_gt (pv 3) pe_int (nomark _)) (pw_and1 (pt_cmpR op_gt (pv 5) (pe_op op_mul pe_int (pv 3)) (nomark _))))) (pss_cons (ps_setLc (i := 15) (own := [("k", 18)]) (g := gName 18) (tt := tYes) rfl sc_law.nd rfl rfl (sw_true rfl rfl rfl (by decide +kernel)) (pi_range1 (by rfl) T.b_range (pa_cons (pv 3) pa_nil)) (blkOk_by (own := [("k", 18)]) (N := N_law) (sc := defScope s_law) (by decide +kernel)) (fun _ _ _ _ _ => pg_name (i := 18) sc_law.nd rfl (Or.inl rfl)) (fun _ _ _ _ _ => pts_nil) (fun _ _ _ _ _ => (pe_tup (pa_cons pe_str (pa_cons (pe_op op_sub (pv 3) (pv 18)) pa_nil)))))
      (pss_cons (ps_set (i := 16) sc_law.nd rfl (Or.inl rfl) (pe_tup (pa_cons pe_str (pa_cons (pe_op op_add (pv 4) pe_int) (pa_cons (pv 15) (pa_cons (pv 5) pa_nil))))))
      (C8.pss_cut (ps_if (pt_cmpR op_gt (pv 5) (pe_op op_add (pe_op op_mul pe_int (pv 3)) pe_int) (nomark _)) (pss_one (ps_set (i := 16) sc_law.nd rfl (Or.inl rfl) (pe_tup (pa_cons pe_str (pa_cons (pe_op op_add (pv 4) pe_int) (pa_cons (pv 15) (pa_cons (pe_op op_add (pe_op op_mul pe_int (pv 3)) pe_int) pa_nil))))))) pss_nil)
      (pss_cons (ps_set (i := 17) sc_law.nd rfl (Or.inl rfl) (pe_slice sl_list (pe_lst (pa_cons (pe_tup (pa_cons pe_str (pa_cons pe_int pa_nil))) pa_nil)) po_none (po_some (pe_callTy call_int1 (by rfl) T.b_int (by decide +kernel) (pa_cons (pe_cmpR op_eq (pe_ix ix_tup (pv 16) pe_int (fun _ _ => rfl)) pe_str (nomark _)) pa_nil)))))
      (pss_one (ps_ret (pe_and (pe_c c__law_same hr (by decide) rfl (pa_cons (pv 12) (pa_cons (pv 16) pa_nil))) (pe_one (pe_c c__law_same hr (by decide) rfl (pa_cons (pe_mt0 m_pile hr (by decide) (pv 6)) (pa_cons (pe_op op_cat (pv 7) (pv 17)) pa_nil))))))))))) pss_nil)
      (pss_cons (ps_setLc (i := 15) (own := [("k", 18)]) (g := gName 18) (tt := tYes) rfl sc_law.nd rfl rfl (sw_true rfl rfl rfl (by decide +kernel)) (pi_range1 (by rfl) T.b_range (pa_cons (pe_op op_add (pv 13) (pe_callTy call_int1 (by rfl) T.b_int (by decide +kernel) (pa_cons (pe_cmpR op_gt (pv 14) pe_int (nomark _)) pa_nil))) pa_nil)) (blkOk_by (own := [("k", 18)]) (N := N_law) (sc := defScope s_law) (by decide +kernel)) (fun _ _ _ _ _ => pg_name (i := 18) sc_law.nd rfl (Or.inl rfl)) (fun _ _ _ _ _ => pts_nil) (fun _ _ _ _ _ => (pe_tup (pa_cons pe_str (pa_cons (pe_op op_sub (pv 3) (pv 18)) pa_nil)))))
      (pss_cons (ps_if (pt_not (pt_val (pe_c c__law_same hr (by decide) rfl (pa_cons (pv 12) (pa_cons (pe_tup (pa_cons pe_str (pa_cons (pe_op op_add (pe_op op_add (pv 4) pe_int) (pv 14)) (pa_cons (pv 15) (pa_cons (pv 5) pa_nil))))) pa_nil))))) (pss_one (ps_ret pe_bl)) pss_nil)
      (pss_one (ps_ret (pe_c c__law_same hr (by decide) rfl (pa_cons (pe_mt0 m_pile hr (by decide) (pv 6)) (pa_cons (pe_op op_cat (pv 7) (pe_c c__law_within hr (by decide) rfl (pa_cons (pe_op op_sub (pv 3) (pv 13)) (pa_cons (pv 14) pa_nil)))) pa_nil))))))))))))))))))))))))), ?_⟩
    walk_at "ss"
    refine ⟨a, ns, rfl, hS, fun z0 => ?_⟩
    walk_at "ss"
    refine ⟨_, rfl, fun l x0 y0 nl => ?_⟩
    have s1 : Sm H (upd H l (.lst [.int x0, .int y0, .int 0])) := (Sm.refl H).over nl
    walk_at "ss"
    have cl : ∀ (H1 : Hp) (us vs : List V), Sm H H1 → H1 l = some (.lst vs) → Sm H (upd H1 l (.lst us)) := fun H1 us _ s _ => s.over nl
    refine draw_ (I := Sm H) s1 ⟨_, _, _, upd_same⟩ cl (by decide) (by decide +kernel) fun H1 way s1 b1 w0 w6 => ?_
    walk_at "ss"
    refine ⟨by show 6 ≤ sizeLine; decide, fun q1 n1 => ?_⟩
    walk_at "ss"
    obtain ⟨many, e1, m0, m160, mlg⟩ : ∃ m : Int, atI [V.int 160, .int 20, .int 20, .int 8, .int 8, .int 8] way = some (.int m) ∧ 0 < m ∧ m ≤ 160 ∧ m.natAbs.log2 < 9000 := by
      have hc : way = 0 ∨ way = 1 ∨ way = 2 ∨ way = 3 ∨ way = 4 ∨ way = 5 := by omega
      rcases hc with rfl | rfl | rfl | rfl | rfl | rfl
      · exact ⟨160, rfl, by decide, by decide, by decide +kernel⟩
      · exact ⟨20, rfl, by decide, by decide, by decide +kernel⟩
      · exact ⟨20, rfl, by decide, by decide, by decide +kernel⟩
      · exact ⟨8, rfl, by decide, by decide, by decide +kernel⟩
      · exact ⟨8, rfl, by decide, by decide, by decide +kernel⟩
      · exact ⟨8, rfl, by decide, by decide, by decide +kernel⟩
    refine r_ixL (SqL.of upd_same) e1 ?_
    walk_at "ss"
    refine draw_ (I := Sm H) (s1.new n1) (b1.new n1) cl m0 mlg fun H2 num s2 b2 u0 u1 => ?_
    walk_at "ss"
    refine r_cut (fun σ H3 => (∃ number : Int, σ = [some (.ref a), some (.ref l), some (.int way), some (.int number), none, none, none, none, none, none, none, none, none, none, none, none, none, none, none] ∧ -159 ≤ number ∧ number ≤ 160) ∧ Sm H H3 ∧ BagAt H3 l) ?_ ?_
    · walk_at "ss"
      refine iteD (fun e => ?_) (fun e => ?_)
      · walk_at "ss"
        exact ⟨⟨_, rfl, by omega, by omega⟩, s2, b2⟩
      · walk_at "ss"
        exact ⟨⟨_, rfl, by omega, by omega⟩, s2, b2⟩
    clear s1 b1 s2 b2 u0 u1 e1 m0 m160 mlg n1 w0 w6
    rintro σ H3 ⟨⟨number, rfl, n0, n160⟩, s3, b3⟩
    walk_at "ss"
    refine draw_ (I := Sm H) s3 b3 cl (by decide) (by decide +kernel) fun H4 r s4 b4 w0 w6 => ?_
    obtain ⟨st, rfl⟩ : ∃ st : Nat, r = (st : Int) := ⟨r.toNat, by omega⟩
    have hst : st ≤ 50 := by omega
    walk_at "ss"
    refine ⟨by show 4 ≤ sizeLine; decide, fun q1 n1 => ?_⟩
    walk_at "ss"
    refine draw_ (I := fun H1 => Sm H H1 ∧ H1 q1 = some (.lst [V.int 1001, .int 200, .int 60, .int 20])) ⟨s4.new n1, upd_same⟩ (b4.new n1) (fun H1 us vs ⟨s, e⟩ e1 => ⟨s.over nl, by
      have ne : q1 ≠ l := fun z => by
        obtain ⟨x, y, z', e2⟩ := b4
        rw [← z, n1] at e2; cases e2
      rw [upd_ne ne]; exact e⟩) (by decide) (by decide +kernel) fun H5 r ⟨s5, e5⟩ b5 w0 w6 => ?_
    obtain ⟨many, e1, m0, m160, mlg⟩ : ∃ m : Int, atI [V.int 1001, .int 200, .int 60, .int 20] r = some (.int m) ∧ 0 < m ∧ m ≤ 1001 ∧ m.natAbs.log2 < 9000 := by
      have hc : r = 0 ∨ r = 1 ∨ r = 2 ∨ r = 3 := by omega
      rcases hc with rfl | rfl | rfl | rfl
      · exact ⟨1001, rfl, by decide, by decide, by decide +kernel⟩
      · exact ⟨200, rfl, by decide, by decide, by decide +kernel⟩
      · exact ⟨60, rfl, by decide, by decide, by decide +kernel⟩
      · exact ⟨20, rfl, by decide, by decide, by decide +kernel⟩
    refine r_ixL (SqL.of e5) e1 ?_
    walk_at "ss"
    refine draw_ (I := Sm H) s5 b5 cl m0 mlg fun H6 r2 s6 b6 u0 u1 => ?_
    obtain ⟨steps, rfl⟩ : ∃ st : Nat, r2 = (st : Int) := ⟨r2.toNat, by omega⟩
    have hsteps : steps ≤ 1000 := by omega
    clear s4 b4 s5 b5 u0 u1 e1 e5 m0 m160 mlg n1 w0 w6
    walk_at "ss"
    obtain ⟨x6, y6, z6, e6⟩ := b6
    refine ⟨l, x6, y6, z6, rfl, e6, fun i H7 p F x7 y7 z7 ha hb hF k => ?_⟩
    have s7 : Sm H H7 := fun c o e => k c o (s6 _ _ e) (ne_of_none e nl)
    have nFl : ¬ F l := fun f => by rw [hF l f] at e6; cases e6
    have oF : ∀ c, F c → H c = none := fun c f => by
      cases e : H c with
      | none => rfl
      | some o => have := hF c f; rw [s6 _ _ e] at this; cases this
    have b7 : BagAt H7 l := ⟨_, _, _, hb⟩
    clear hF k hb e6 s6
    walk_at "ss"
    refine ⟨i, ?_⟩
    walk_at "ss"
    refine draw_ (I := fun H1 => Sm H H1 ∧ i.At H1 p F []) ⟨s7, ha⟩ b7 (fun H1 us vs ⟨s, e⟩ e1 => ⟨s.over nl, i.L.ex_ e nFl e1⟩) (by decide) (by decide +kernel) fun H8 r ⟨s8, a8⟩ b8 w0 w6 => ?_
    walk_at "ss"
    refine ⟨_, rfl, by omega, by omega, ?_⟩
    refine lcR_mk (fun D j acc H1 => ∃ xs, G2 H i.At p D F acc xs H1 ∧ BagAt H1 l ∧ xs.length = j ∧ ∀ x ∈ xs, Plain x) (fun D hD => ⟨[], ⟨s8.new hD, i.L.sm a8 ((Sm.refl H8).new hD), upd_same, .nil⟩, b8.new hD, rfl, fun x hx => nomatch hx⟩) ?_ ?_
    · rintro j acc H9 D hj hD ⟨xs, g, b9, lj, pl⟩ hd
      have nDl : l ≠ D := fun z => by
        obtain ⟨x, y, z', e2⟩ := b8
        rw [z, hD] at e2; cases e2
      have nD : H D = none := by
        cases e : H D with
        | none => rfl
        | some o => rw [s8 _ _ e] at hD; cases hD
      have nFD : ¬ F D := i.L.out_ a8 hD
      walk_at "ss"
      refine number_ (I := G2 H i.At p D F acc xs) g b9 (fun H1 us vs g e => g.bag i.L e nl nFl nDl) fun H10 n g b10 => ?_
      walk_at "ss"
      refine ⟨by show 2 ≤ sizeLine; decide, fun t nt => ?_⟩
      have g' := g.new i.L (o := .tup [.str "num", .int n]) nt
      refine LcEnd.mk (acc := acc) g'.li (small5 (by rw [g.wl.length, lj]; omega)) ⟨xs ++ [nw n], g'.push i.L nD nFD upd_same, ?_, by rw [List.length_append, lj]; rfl, ?_⟩
      · have b11 := b10.new (o := .tup [.str "num", .int n]) nt
        obtain ⟨x, y, z, e⟩ := b11
        exact ⟨x, y, z, by rw [upd_ne nDl]; exact e⟩
      · intro x hx
        rcases List.mem_append.mp hx with h | h
        · exact pl x h
        · rw [List.mem_singleton.mp h]; exact .inl rfl
    rintro D acc H9 hD ⟨xs, g, b9, lj, pl⟩ hd
    have nD : H D = none := by
      cases e : H D with
      | none => rfl
      | some o => rw [s8 _ _ e] at hD; cases hD
    have nFD : ¬ F D := i.L.out_ a8 hD
    have lx : xs.length ≤ 6 := by omega
    clear s7 b7 s8 a8 b8 w0 w6 lj hD hd b9
    walk_at "ss"
    refine r_slL (sq_sm hS g.sm) fun c nc => ?_
    generalize ecs : cutV (ns.map V.int) (some 1) (some 63) = cs
    have hcs : cs.length ≤ 63 ∧ ∀ (j : Nat) (x : V), cs[j]? = some x → ∃ n, x = V.int n := by
      rw [← ecs]
      refine ⟨Nat.le_trans (cutV_length _ _ _) (by rw [List.length_map]; exact hn), fun j x hx => ?_⟩
      have hm : x ∈ ns.map V.int := by
        have := List.mem_of_getElem? hx
        unfold cutV at this
        exact List.mem_of_mem_drop (List.mem_of_mem_take this)
      obtain ⟨n, _, e⟩ := List.mem_map.mp hm
      exact ⟨n, e.symm⟩
    have nDc : c ≠ D := fun z => by have := g.li; rw [← z, nc] at this; cases this
    refine ⟨c, rfl, ⟨_, SqL.of upd_same⟩, for_list (K := K) (a := c) (xs := cs) (fun j σ H1 => (∃ o8 o9, σ = [some (.ref a), some (.ref l), some (.int way), some (.int number), some (.int st), some (.int steps), some (.ref p), some (.ref D), o8, o9, none, none, none, none, none, none, none, none, none]) ∧ ∃ acc xs, G2 H i.At p D F acc xs H1 ∧ H1 c = some (.lst cs) ∧ xs.length ≤ 6 + j ∧ ∀ x ∈ xs, Plain x)
      ⟨⟨_, _, rfl⟩, acc, xs, g.new i.L nc, upd_same, lx, pl⟩ (fun j σ H1 _ ⟨_, _, _, _, e, _⟩ => SqL.of e) ?_ ?_⟩
    · clear g pl nc lx
      rintro j x σ H10 hx ⟨⟨o8, o9, rfl⟩, acc, xs, g, e10, lx, pl⟩
      obtain ⟨n, rfl⟩ := hcs.2 j x hx
      have hj : j < cs.length := (List.getElem?_eq_some_iff.mp hx).1
      walk_at "ss"
      refine ⟨n, rfl, fun b x1 y1 nb => ?_⟩
      have nbD : b ≠ D := fun z => by have := g.li; rw [← z, nb] at this; cases this
      have nbc : b ≠ c := fun z => by rw [← z, nb] at e10; cases e10
      have nHb : H b = none := by
        cases e : H b with
        | none => rfl
        | some o => have := g.sm _ _ e; rw [nb] at this; cases this
      have nFb : ¬ F b := i.L.out_ g.at_ nb
      have clb : ∀ {acc : List V} {xs : List Wo} (H1 : Hp) (us vs : List V), (G2 H i.At p D F acc xs H1 ∧ H1 c = some (.lst cs)) → H1 b = some (.lst vs) → (G2 H i.At p D F acc xs (upd H1 b (.lst us)) ∧ upd H1 b (.lst us) c = some (.lst cs)) := fun H1 us vs ⟨g, e⟩ e1 => ⟨g.bag i.L e1 nHb nFb nbD, by rw [upd_ne nbc.symm]; exact e⟩
      walk_at "ss"
      refine ⟨tyL (g.new i.L nb).li, ?_⟩
      walk_at "ss"
      refine number_ (I := fun H1 => G2 H i.At p D F acc xs H1 ∧ H1 c = some (.lst cs)) ⟨g.new i.L nb, by rw [upd_ne nbc.symm]; exact e10⟩ ⟨_, _, _, upd_same⟩ clb fun H11 n1 ⟨g, e11⟩ b11 => ?_
      walk_at "ss"
      refine ⟨by show 2 ≤ sizeLine; decide, fun t nt => ?_⟩
      have g := g.new i.L (o := .tup [.str "num", .int n1]) nt
      have b12 := b11.new (o := .tup [.str "num", .int n1]) nt
      have e12 : upd H11 t (.tup [.str "num", .int n1]) c = some (.lst cs) := by rw [upd_ne (ne_of_none e11 nt)]; exact e11
      walk_at "ss"
      refine r_append g.li (small5 (by rw [g.wl.length]; omega)) ?_
      have g := G2.push i.L (x := nw n1) g nD nFD upd_same
      have e13 : upd (upd H11 t (.tup [.str "num", .int n1])) D (.lst (acc ++ [.ref t])) c = some (.lst cs) := by rw [upd_ne nDc]; exact e12
      have b13 : BagAt (upd (upd H11 t (.tup [.str "num", .int n1])) D (.lst (acc ++ [.ref t]))) b := by
        obtain ⟨x, y, z, e⟩ := b12
        exact ⟨x, y, z, by rw [upd_ne nbD]; exact e⟩
      have pl' : ∀ x ∈ xs ++ [nw n1], Plain x := fun x hx => by
        rcases List.mem_append.mp hx with h | h
        · exact pl x h
        · rw [List.mem_singleton.mp h]; exact .inl rfl
      walk_at "ss"
      refine draw_ (I := fun H1 => G2 H i.At p D F (acc ++ [.ref t]) (xs ++ [nw n1]) H1 ∧ H1 c = some (.lst cs)) ⟨g, e13⟩ b13 clb (by decide) (by decide +kernel) fun H14 r ⟨g, e14⟩ b14 w0 w6 => ?_
      walk_at "ss"
      refine iteD (fun e => ?_) (fun e => ?_)
      · walk_at "ss"
        refine number_ (I := fun H1 => G2 H i.At p D F (acc ++ [.ref t]) (xs ++ [nw n1]) H1 ∧ H1 c = some (.lst cs)) ⟨g, e14⟩ b14 clb fun H15 n2 ⟨g, e15⟩ b15 => ?_
        walk_at "ss"
        refine ⟨n2, rfl, ?_⟩
        have h3 : 0 ≤ (if n2 < 0 then -n2 else n2) := by split <;> omega
        generalize (if n2 < 0 then -n2 else n2) = n3 at h3 ⊢
        walk_at "ss"
        refine ⟨by show 2 ≤ sizeLine; decide, fun t2 nt2 => ?_⟩
        have g := g.new i.L (o := .tup [.str "at", .int n3]) nt2
        have e16 : upd H15 t2 (.tup [.str "at", .int n3]) c = some (.lst cs) := by rw [upd_ne (ne_of_none e15 nt2)]; exact e15
        walk_at "ss"
        refine ⟨1, rfl, ?_⟩
        walk_at "ss"
        refine ⟨D, acc ++ [.ref t], -1, acc.length, rfl, rfl, g.li, ?_, ?_⟩
        · unfold ixN
          rw [if_neg (by omega), if_pos (by rw [List.length_append]; show -((acc.length + 1 : Nat) : Int) ≤ -1; omega), List.length_append]
          congr 1
          show (-1 + ((acc.length + 1 : Nat) : Int)).toNat = acc.length
          omega
        have es : ((acc ++ [V.ref t]).set acc.length (V.ref t2)) = acc ++ [V.ref t2] := by
          rw [List.set_append_right _ _ (Nat.le_refl _), Nat.sub_self]
          rfl
        rw [es]
        have g := G2.last i.L (x := (("at", n3) : Wo)) g nD nFD upd_same
        walk_at "ss"
        refine ⟨⟨_, _, rfl⟩, _, _, g, by rw [upd_ne nDc]; exact e16, by rw [List.length_append]; show xs.length + 1 ≤ _; omega, fun x hx => ?_⟩
        rcases List.mem_append.mp hx with h | h
        · exact pl x h
        · rw [List.mem_singleton.mp h]; exact .inr ⟨rfl, h3⟩
      · walk_at "ss"
        exact ⟨⟨_, _, rfl⟩, _, _, g, e14, by rw [List.length_append]; show xs.length + 1 ≤ _; omega, pl'⟩
    clear g pl lx
    rintro σ H10 ⟨⟨o8, o9, rfl⟩, acc, xs, g, e10, lx, pl⟩
    have lx : xs.length ≤ 100 := by have := hcs.1; omega
    have g3 : G3 H i.At p D acc xs [] F H10 := ⟨g.sm, oF, nFD, g.at_, g.li, g.wl⟩
    clear e10 g hcs ecs nc nDc hn
    walk_at "ss"
    refine ⟨D, rfl, ⟨_, SqL.of g3.li⟩, for_list (K := K) (a := D) (xs := acc) (fun j σ H1 => (∃ o8 o9 o10, σ = [some (.ref a), some (.ref l), some (.int way), some (.int number), some (.int st), some (.int steps), some (.ref p), some (.ref D), o8, o9, o10, none, none, none, none, none, none, none, none]) ∧ ∃ F1, G3 H i.At p D acc xs (xs.take j).reverse F1 H1)
      ⟨⟨_, _, _, rfl⟩, F, g3⟩ (fun j σ H1 _ ⟨_, _, g⟩ => SqL.of g.li) ?_ ?_⟩
    · rintro j x σ H11 hx ⟨⟨o8, o9, o10, rfl⟩, F1, g⟩
      obtain ⟨w, hw, t, rfl, et⟩ := g.wl.get' hx
      have hj : j < xs.length := (List.getElem?_eq_some_iff.mp hw).1
      walk_at "ss"
      obtain ⟨dx, fs, dh, dw, hp, nm, _⟩ := i.L.com g.at_
      walk_at "ss"
      refine r_meth1 hp (nm _ (by decide +kernel)) ?_
      walk_at "ss"
      refine ⟨p, F1, _, t, w, rfl, g.at_, et, pl w (List.mem_of_getElem? hw), by rw [List.length_reverse, List.length_take]; omega, fun H12 F2 m a2 => ?_⟩
      walk_at "ss"
      refine ⟨⟨_, _, _, rfl⟩, F2, ?_⟩
      have e : xs.take (j + 1) = xs.take j ++ [w] := by
        rw [List.take_succ_eq_append_getElem hj]
        congr 2
        exact (List.getElem?_eq_some_iff.mp hw).2
      rw [e, List.reverse_append]
      exact g.mv m a2
    have la : acc.length = xs.length := g3.wl.length
    clear g3
    rintro σ H11 ⟨⟨o8, o9, o10, rfl⟩, F1, g⟩
    rw [la, List.take_length] at g
    walk_at "ss"
    refine ⟨_, rfl, by omega, by omega, ?_⟩
    refine lcR_mk (fun D2 j us H1 => Sm H11 H1 ∧ RL H1 us (List.replicate j Op.tell)) (fun D2 hD => ⟨(Sm.refl H11).new hD, .nil⟩) ?_ ?_
    · rintro j us H12 D2 hj hD ⟨s, rl⟩ hd
      have nD2 : H11 D2 = none := hD
      walk_at "ss"
      refine ⟨by show 1 ≤ sizeLine; decide, fun t nt => ?_⟩
      obtain ⟨k1, e1⟩ := al (o := .tup (rowV .tell)) nt
      refine LcEnd.mk (k1 _ _ hd) (small5 (by rw [rl.1, List.length_replicate]; omega)) ⟨fun a o e => ?_, ?_⟩
      · rw [upd_ne (ne_of_none e hD)]; exact k1 _ _ (s _ _ e)
      · have tp := tup_l (o := .lst (us ++ [.ref t])) (k1 _ _ hd)
        have ee : List.replicate (j + 1) Op.tell = List.replicate j Op.tell ++ [Op.tell] := by rw [List.replicate_succ']
        rw [ee]
        exact ((rl.keep fun b xs e => k1 b _ e).keep tp).append (.cons (tp _ _ e1) .nil)
    rintro D2 us H12 hD ⟨s12, rl⟩ hd
    rw [Int.toNat_natCast] at rl
    have lus : us.length ≤ 50 := by rw [rl.1, List.length_replicate]; omega
    walk_at "ss"
    refine ⟨by show 2 ≤ sizeLine; decide, fun t1 m1 => ?_⟩
    obtain ⟨k1, e1⟩ := al (o := .tup (rowV (.put number))) m1
    walk_at "ss"
    refine ⟨by show 2 ≤ sizeLine; decide, fun t2 m2 => ?_⟩
    obtain ⟨k2, e2⟩ := al (o := .tup (rowV (.pick 0))) m2
    walk_at "ss"
    refine ⟨by show 1 ≤ sizeLine; decide, fun t3 m3 => ?_⟩
    obtain ⟨k3, e3⟩ := al (o := .tup (rowV .tell)) m3
    walk_at "ss"
    refine ⟨by show 2 ≤ sizeLine; decide, fun t4 m4 => ?_⟩
    obtain ⟨k4, e4⟩ := al (o := .tup (rowV (.put 1))) m4
    walk_at "ss"
    refine ⟨by show 1 ≤ sizeLine; decide, fun t5 m5 => ?_⟩
    obtain ⟨k5, e5⟩ := al (o := .tup (rowV .less)) m5
    walk_at "ss"
    refine ⟨by show 5 ≤ sizeLine; decide, fun b1 m6 => ?_⟩
    obtain ⟨k6, e6⟩ := al (o := .lst [.ref t1, .ref t2, .ref t3, .ref t4, .ref t5]) m6
    have kk := (((((k1.trans k2).trans k3).trans k4).trans k5).trans k6)
    walk_at "ss"
    refine ⟨D2, b1, us, _, rfl, rfl, kk _ _ hd, e6, small5' (by show us.length + 5 ≤ _; omega), fun r1 m7 => ?_⟩
    have rl1 := (rl.keep fun b xs e => kk b _ e).append (.cons (k6 _ _ (k5 _ _ (k4 _ _ (k3 _ _ (k2 _ _ e1))))) (.cons (k6 _ _ (k5 _ _ (k4 _ _ (k3 _ _ e2)))) (.cons (k6 _ _ (k5 _ _ (k4 _ _ e3))) (.cons (k6 _ _ (k5 _ _ e4)) (.cons (k6 _ _ e5) .nil)))))
    generalize upd (upd (upd (upd (upd (upd H12 t1 _) t2 _) t3 _) t4 _) t5 _) b1 _ = H13 at kk rl1 m7 ⊢
    clear k1 k2 k3 k4 k5 k6 e1 e2 e3 e4 e5 e6 m1 m2 m3 m4 m5 m6
    obtain ⟨k7, e7⟩ := al (o := .lst (us ++ [.ref t1, .ref t2, .ref t3, .ref t4, .ref t5])) m7
    have rl2 := rl1.keep fun b xs e => k7 b _ e
    walk_at "ss"
    refine ⟨by show 2 ≤ sizeLine; decide, fun t6 m1 => ?_⟩
    obtain ⟨k1, e1⟩ := al (o := .tup (rowV (.pick 0))) m1
    walk_at "ss"
    refine ⟨by show 2 ≤ sizeLine; decide, fun t7 m2 => ?_⟩
    obtain ⟨k2, e2⟩ := al (o := .tup (rowV (.ifr (st + 1)))) m2
    walk_at "ss"
    refine ⟨by show 2 ≤ sizeLine; decide, fun t8 m3 => ?_⟩
    obtain ⟨k3, e3⟩ := al (o := .tup (rowV (.drop 0))) m3
    walk_at "ss"
    refine ⟨by show 3 ≤ sizeLine; decide, fun b2 m4 => ?_⟩
    obtain ⟨k4, e4⟩ := al (o := .lst [.ref t6, .ref t7, .ref t8]) m4
    have kk2 := ((k1.trans k2).trans k3).trans k4
    walk_at "ss"
    refine ⟨r1, b2, us ++ [.ref t1, .ref t2, .ref t3, .ref t4, .ref t5], _, rfl, rfl, kk2 _ _ e7, e4, small5' (by show (us ++ _).length + 3 ≤ _; rw [List.length_append]; show us.length + 5 + 3 ≤ _; omega), fun r2 m5 => ?_⟩
    have rl3 := (rl2.keep fun b xs e => kk2 b _ e).append (.cons (k4 _ _ (k3 _ _ (k2 _ _ e1))) (.cons (k4 _ _ (k3 _ _ e2)) (.cons (k4 _ _ e3) .nil)))
    have s14 := ((s12.trans kk).trans k7).trans kk2
    generalize upd (upd (upd (upd (upd H13 r1 _) t6 _) t7 _) t8 _) b2 _ = H14 at s14 rl3 m5 ⊢
    clear k1 k2 k3 k4 e1 e2 e3 e4 m1 m2 m3 m4 rl2 rl1 rl kk kk2 s12 hd k7 e7 m7
    have eops : (List.replicate st Op.tell ++ [Op.put number, .pick 0, .tell, .put 1, .less] ++ [.pick 0, .ifr (st + 1), .drop 0]) = opsD st number := by
      unfold opsD
      rw [List.append_assoc]
      rfl
    rw [eops] at rl3
    obtain ⟨k5, e5⟩ := al (o := .lst (us ++ [.ref t1, .ref t2, .ref t3, .ref t4, .ref t5] ++ [.ref t6, .ref t7, .ref t8])) m5
    have rl4 := rl3.keep fun b xs e => k5 b _ e
    have s15 := s14.trans k5
    generalize (us ++ [.ref t1, .ref t2, .ref t3, .ref t4, .ref t5] ++ [.ref t6, .ref t7, .ref t8]) = vs at *
    generalize upd H14 r2 _ = H15 at s15 e5 rl4 ⊢
    clear k5 rl3 m5 s14
    walk_at "ss"
    refine ⟨r2, vs, rfl, .inl (SqL.of e5), fun l2 m6 => ?_⟩
    obtain ⟨k6, e6⟩ := al (o := .lst vs) m6
    have rl5 := rl4.keep fun b xs e => k6 b _ e
    have nFl2 : ¬ F1 l2 := fun f => i.L.liv g.at_ l2 f (by
      cases e : H11 l2 with
      | none => rfl
      | some o => rw [s15 _ _ e] at m6; cases m6)
    have g := g.mv ((s15.trans k6).mv F1) (i.L.sm g.at_ (s15.trans k6))
    generalize upd H15 l2 _ = H16 at e6 rl5 g ⊢
    clear s15 e5 rl4 k6 m6
    walk_at "ss"
    refine ⟨p, l2, F1, vs, opsD st number, steps, manyD number steps, trD st number xs.reverse, rfl, g.at_, rfl, e6, rl5, opsD_ok st number, nFl2, hsteps, manyD_le, goD (by rw [List.length_reverse]; omega) hsteps (by omega), ?_, fun H17 F2 t tl tv m a2 et etl wt => ?_⟩
    · by_cases h : 0 < number ∧ 6 * number + 2 ≤ (steps : Int)
      · right
        rw [howD, if_pos h]
        decide
      · exact .inl (manyD_end h)
    have g := g.mv m a2
    rw [howD] at et
    clear m a2 nFl2 e6 rl5
    walk_at "ss"
    refine iteD (fun e => ?_) (fun e => ?_)
    · walk_at "ss"
      have e0 : steps = 0 := by omega
      subst e0
      have em : manyD number 0 = 0 := by unfold manyD; split <;> omega
      rw [em, trD_0] at et wt g
      rw [if_neg (by omega)] at et
      refine ⟨by show 0 ≤ sizeLine; decide, fun q1 n1 => ?_⟩
      obtain ⟨k1, e1⟩ := al (o := .lst []) n1
      walk_at "ss"
      refine ⟨by show 4 ≤ sizeLine; decide, fun q2 n2 => ?_⟩
      obtain ⟨k2, e2⟩ := al (o := .tup [.str "more", .int (st : Int), .ref q1, .int 0]) n2
      have kk := k1.trans k2
      walk_at "ss"
      refine same_ (dF "more" st 0 []) (dF_q (kk _ _ et) (kk _ _ etl) (wt.keep fun b xs e => kk b _ e)) (dF_q e2 (k2 _ _ e1) .nil) (dF_deep (by decide)) ?_
      walk_at "ss"
      refine iteT ?_
      walk_at "ss"
      obtain ⟨dx, fs, dh, dw, hp, nm, _⟩ := i.L.com g.at_
      refine r_meth1 (kk _ _ hp) (nm _ (by decide +kernel)) ?_
      walk_at "ss"
      refine ⟨p, F2, _, rfl, i.L.sm g.at_ kk, by show xs.reverse.length ≤ _; rw [List.length_reverse]; omega, fun H20 lp up s20 nlp hlp wlp => ?_⟩
      walk_at "ss"
      have wlp : WL H20 up xs := by rw [← List.reverse_reverse xs]; exact wlp
      refine same_ (.list (xs.map dWo)) (dL_q hlp wlp) (dL_q (s20 _ _ (kk _ _ g.li)) (g.wl.keep fun b xs e => s20 _ _ (kk _ _ e))) (dL_deep (by omega)) ?_
      walk_at "ss"
      exact q _
    walk_at "ss"
    refine r_I ⟨by decide, by decide +kernel⟩ ?_
    obtain ⟨r, ph, hph, es⟩ : ∃ r ph : Nat, ph < 6 ∧ steps = 6 * r + ph + 1 := ⟨(steps - 1) / 6, (steps - 1) % 6, Nat.mod_lt _ (by decide), by omega⟩
    have er : ((steps : Int) - 1) / 6 = (r : Int) := by omega
    have ef : ((steps : Int) - 1).fmod 6 = (ph : Int) := by
      rw [Int.fmod_eq_emod_of_nonneg _ (by decide)]
      omega
    rw [er]
    walk_at "ss"
    refine r_I (by decide) ?_
    rw [ef]
    walk_at "ss"
    by_cases hc : 0 < number ∧ 6 * number < (steps : Int)
    · obtain ⟨how, row, m', lf, et', wt', g', hor⟩ : ∃ (how : Str) (row m' : Int) (lf : List Wo), H17 t = some (HO.tup [.str how, .int row, .ref tl, .int m']) ∧ WL H17 tv (toldD number number.toNat) ∧ G3 H i.At p D acc xs (lf ++ xs.reverse) F2 H17 ∧
          ((how = "more" ∧ row = (st : Int) + 7 ∧ m' = (steps : Int) ∧ lf = [nw 0] ∧ (steps : Int) = 6 * number + 1) ∨ (how = "done" ∧ row = (st : Int) + 8 ∧ m' = 6 * number + 2 ∧ lf = [] ∧ 6 * number + 1 < (steps : Int))) := by
        by_cases h : 6 * number + 2 ≤ (steps : Int)
        · have em : manyD number steps = (6 * number + 2).toNat := by unfold manyD; rw [if_pos ⟨hc.1, h⟩]
          have em' : ((manyD number steps : Nat) : Int) = 6 * number + 2 := by rw [em]; omega
          rw [trD_end2 hc.1 em'] at et wt g
          rw [if_pos ⟨hc.1, h⟩, em'] at et
          exact ⟨_, _, _, [], et, wt, g, .inr ⟨rfl, rfl, rfl, rfl, by omega⟩⟩
        · have em : manyD number steps = steps := manyD_end (by omega)
          have e1 : (steps : Int) = 6 * number + 1 := by omega
          rw [em, trD_end1 hc.1 e1] at et wt g
          rw [if_neg (by omega)] at et
          exact ⟨_, _, _, [nw 0], et, wt, g, .inl ⟨rfl, rfl, rfl, rfl, e1⟩⟩
      refine ite_t (decide_eq_true hc.1) ?_
      walk_at "ss"
      refine r_I (.inl ⟨by decide, by decide⟩) ?_
      walk_at "ss"
      refine ite_t (decide_eq_true hc.2) ?_
      walk_at "ss"
      refine ⟨_, rfl, by omega, by omega, ?_⟩
      refine lcR_mk (fun D2 j us H1 => Sm H17 H1 ∧ WL H1 us (toldD number j)) (fun D2 hD => ⟨(Sm.refl H17).new hD, .nil⟩) ?_ ?_
      · rintro j us H18 D2 hj hD ⟨s, wl⟩ hd
        walk_at "ss"
        refine ⟨by show 2 ≤ sizeLine; decide, fun t nt => ?_⟩
        obtain ⟨k1, e1⟩ := al (o := .tup [.str "num", .int (number - (j : Int))]) nt
        refine LcEnd.mk (k1 _ _ hd) (small5 (by rw [wl.length]; unfold toldD; rw [List.length_map, List.length_range]; omega)) ⟨fun a o e => ?_, ?_⟩
        · rw [upd_ne (ne_of_none e hD)]; exact k1 _ _ (s _ _ e)
        · have tp := tup_l (o := .lst (us ++ [.ref t])) (k1 _ _ hd)
          rw [toldD_succ]
          exact ((wl.keep fun b xs e => k1 b _ e).keep tp).append (.one ⟨t, rfl, tp _ _ e1⟩)
      rintro D3 us3 H18 hD3 ⟨s18, wl3⟩ hd3
      walk_at "ss"
      refine ⟨by show 4 ≤ sizeLine; decide, fun q1 n1 => ?_⟩
      obtain ⟨k1, e1⟩ := al (o := .tup [.str "more", .int ((st : Int) + 7), .ref D3, .int (steps : Int)]) n1
      walk_at "ss"
      refine r_cut (fun σ H1 => ∃ du, σ = [some (.ref a), some (.ref l), some (.int way), some (.int number), some (.int st), some (.int steps), some (.ref p), some (.ref D), o8, o9, o10, some (.ref r2), some (.ref t), some (.int r), some (.int ph), some (.ref D3), some (.ref du), none, none] ∧ Sm H18 H1 ∧ H1 du = some (.tup [.str how, .int row, .ref D3, .int m'])) ?_ ?_
      · walk_at "ss"
        refine r_I (.inl ⟨by decide, by decide⟩) ?_
        walk_at "ss"
        refine iteD (fun e => ?_) (fun e => ?_)
        · walk_at "ss"
          refine r_I (.inl ⟨by decide, by decide⟩) ?_
          walk_at "ss"
          refine ⟨by show 4 ≤ sizeLine; decide, fun q2 n2 => ?_⟩
          obtain ⟨k2, e2⟩ := al (o := .tup [.str "done", .int ((st : Int) + 8), .ref D3, .int (6 * number + 2)]) n2
          walk_at "ss"
          rcases hor with ⟨_, _, _, _, h⟩ | ⟨rfl, rfl, rfl, _, _⟩
          · omega
          · exact ⟨q2, rfl, k1.trans k2, e2⟩
        · walk_at "ss"
          rcases hor with ⟨rfl, rfl, rfl, _, _⟩ | ⟨_, _, _, _, h⟩
          · exact ⟨q1, rfl, k1, e1⟩
          · omega
      rintro _ H19 ⟨du, rfl, s19, hdu⟩
      walk_at "ss"
      refine ⟨by show 2 ≤ sizeLine; decide, fun q2 n2 => ?_⟩
      obtain ⟨k2, e2⟩ := al (o := .tup [.str "num", .int 0]) n2
      walk_at "ss"
      refine ⟨by show 1 ≤ sizeLine; decide, fun q3 n3 => ?_⟩
      obtain ⟨k3, e3⟩ := al (o := .lst [.ref q2]) n3
      have hdu3 := k3 _ _ (k2 _ _ hdu)
      walk_at "ss"
      refine .inr ⟨_, rfl, ?_⟩
      walk_at "ss"
      have lfq : ∀ H, H q2 = some (.tup [.str "num", .int 0]) → ∃ ls, cutV [V.ref q2] none (some (if decide (how = "more") = true then 1 else 0)) = ls ∧ WL H ls lf := fun H e => by
        rcases hor with ⟨rfl, _, _, rfl, _⟩ | ⟨rfl, _, _, rfl, _⟩
        · refine ⟨[.ref q2], ?_, .one ⟨q2, rfl, e⟩⟩
          rw [if_pos (by decide)]
          rfl
        · refine ⟨[], ?_, .nil⟩
          rw [if_neg (by decide)]
          rfl
      have rlf : lf.reverse = lf ∧ lf.length ≤ 1 := by
        rcases hor with ⟨_, _, _, rfl, _⟩ | ⟨_, _, _, rfl, _⟩
        · exact ⟨rfl, Nat.le_refl _⟩
        · exact ⟨rfl, Nat.zero_le _⟩
      refine r_slL (SqL.of e3) fun q4 n4 => ?_
      obtain ⟨ls, els, wls⟩ := lfq _ (k3 _ _ e2)
      rw [els]
      obtain ⟨k4, e4⟩ := al (o := .lst ls) n4
      have k18 := ((s18.trans s19).trans k2).trans (k3.trans k4)
      have k19 := k2.trans (k3.trans k4)
      have wls := wls.keep fun b xs e => k4 b _ e
      generalize upd (upd (upd H19 q2 _) q3 _) q4 _ = H20 at k18 k19 e4 wls ⊢
      have wl3 := wl3.keep fun b xs e => (s19.trans k19) b _ e
      have hd3 := (s19.trans k19) _ _ hd3
      have hdu := k19 _ _ hdu
      clear k1 k2 k3 k4 e1 e2 e3 n1 n2 n3 n4 k19 lfq els s19 s18 et wt g hdu3
      have g := g'.mv (k18.mv F2) (i.L.sm g'.at_ k18)
      walk_at "ss"
      refine same_ (dF how row m' (toldD number number.toNat)) (dF_q (k18 _ _ et') (k18 _ _ etl) (wt'.keep fun b xs e => k18 b _ e)) (dF_q hdu hd3 wl3) (dF_deep (by unfold toldD; rw [List.length_map, List.length_range]; omega)) ?_
      walk_at "ss"
      refine iteT ?_
      walk_at "ss"
      obtain ⟨dx, fs, dh, dw, hp, nm, _⟩ := i.L.com g.at_
      refine r_meth1 hp (nm _ (by decide +kernel)) ?_
      walk_at "ss"
      refine ⟨p, F2, _, rfl, g.at_, by rw [List.length_append, List.length_reverse]; omega, fun H21 lp up s21 nlp hlp wlp => ?_⟩
      rw [List.reverse_append, List.reverse_reverse, rlf.1] at wlp
      walk_at "ss"
      refine ⟨D, q4, acc, ls, rfl, rfl, s21 _ _ g.li, s21 _ _ e4, small5' (by rw [la, wls.length]; omega), fun q5 n5 => ?_⟩
      obtain ⟨k5, e5⟩ := al (o := .lst (acc ++ ls)) n5
      walk_at "ss"
      refine same_ (.list ((xs ++ lf).map dWo)) (dL_q (k5 _ _ hlp) (wlp.keep fun b xs e => k5 b _ e)) (dL_q e5 (((g.wl.append wls).keep fun b xs e => s21 b _ e).keep fun b xs e => k5 b _ e)) (dL_deep (by rw [List.length_append]; omega)) ?_
      walk_at "ss"
      exact q _
    · refine if_and2 (fun y p0 => ?_) ?_
      · walk_at "ss"
        refine r_I (.inl ⟨by decide, by decide⟩) ?_
        walk_at "ss"
        refine ite_f (decide_eq_false (by omega)) ?_
        exact y
      have em : manyD number steps = steps := manyD_end (by omega)
      rw [em, trD_in es hph hc] at et wt g
      rw [if_neg (by omega)] at et
      walk_at "ss"
      refine .inr ⟨_, rfl, ?_⟩
      walk_at "ss"
      refine ⟨_, rfl, by split <;> omega, by split <;> omega, ?_⟩
      have en : ((r : Int) + if decide (1 < (ph : Int)) = true then 1 else 0).toNat = r + if ph > 1 then 1 else 0 := by
        by_cases h : ph > 1
        · rw [if_pos (decide_eq_true (by omega)), if_pos h]; omega
        · rw [if_neg (by simp; omega), if_neg h]; omega
      rw [en]
      have hnt : (r + if ph > 1 then 1 else 0) ≤ 2000 := by split <;> omega
      generalize (r + if ph > 1 then 1 else 0) = nt at wt hnt ⊢
      refine lcR_mk (fun D2 j us H1 => Sm H17 H1 ∧ WL H1 us (toldD number j)) (fun D2 hD => ⟨(Sm.refl H17).new hD, .nil⟩) ?_ ?_
      · rintro j us H18 D2 hj hD ⟨s, wl⟩ hd
        walk_at "ss"
        refine ⟨by show 2 ≤ sizeLine; decide, fun t nt => ?_⟩
        obtain ⟨k1, e1⟩ := al (o := .tup [.str "num", .int (number - (j : Int))]) nt
        refine LcEnd.mk (k1 _ _ hd) (small5 (by rw [wl.length]; unfold toldD; rw [List.length_map, List.length_range]; omega)) ⟨fun a o e => ?_, ?_⟩
        · rw [upd_ne (ne_of_none e hD)]; exact k1 _ _ (s _ _ e)
        · have tp := tup_l (o := .lst (us ++ [.ref t])) (k1 _ _ hd)
          rw [toldD_succ]
          exact ((wl.keep fun b xs e => k1 b _ e).keep tp).append (.one ⟨t, rfl, tp _ _ e1⟩)
      rintro D3 us3 H18 hD3 ⟨s18, wl3⟩ hd3
      walk_at "ss"
      refine ⟨by show 4 ≤ sizeLine; decide, fun q1 n1 => ?_⟩
      obtain ⟨k1, e1⟩ := al (o := .tup [.str "more", .int ((st : Int) + 1 + (ph : Int)), .ref D3, .int (steps : Int)]) n1
      have k18 := s18.trans k1
      have wl3 := wl3.keep fun b xs e => k1 b _ e
      have hd3 := k1 _ _ hd3
      generalize upd H18 q1 _ = H20 at k18 e1 wl3 hd3 ⊢
      have g := g.mv (k18.mv F2) (i.L.sm g.at_ k18)
      walk_at "ss"
      have er1 : ((st + 1 + ph : Nat) : Int) = (st : Int) + 1 + (ph : Int) := by omega
      have et : H17 t = some (.tup [.str "more", .int ((st + 1 + ph : Nat) : Int), .ref tl, .int (steps : Int)]) := et
      rw [er1] at et
      refine same_ (dF "more" ((st : Int) + 1 + (ph : Int)) steps (toldD number nt)) (dF_q (k18 _ _ et) (k18 _ _ etl) (wt.keep fun b xs e => k18 b _ e)) (dF_q e1 hd3 wl3) (dF_deep (by unfold toldD; rw [List.length_map, List.length_range]; omega)) ?_
      walk_at "ss"
      refine ite_f rfl ?_
      walk_at "ss"
      obtain ⟨dx, fs, dh, dw, hp, nm, _⟩ := i.L.com g.at_
      refine r_meth1 hp (nm _ (by decide +kernel)) ?_
      walk_at "ss"
      have lw : (withT (number - (r : Int)) ph).length ≤ 2 := by unfold withT; split <;> simp
      refine ⟨p, F2, _, rfl, g.at_, by show (withT (number - (r : Int)) ph ++ xs.reverse).length ≤ _; rw [List.length_append, List.length_reverse]; omega, fun H21 lp up s21 nlp hlp wlp => ?_⟩
      have wlp : WL H21 up (withT (number - (r : Int)) ph ++ xs.reverse).reverse := wlp
      rw [List.reverse_append, List.reverse_reverse] at wlp
      walk_at "ss"
      refine ⟨_, ph, rfl, hph, fun H22 q4 ls s22 n4 e4 wls => ?_⟩
      walk_at "ss"
      have s23 := s21.trans s22
      refine ⟨D, q4, acc, ls, rfl, rfl, s23 _ _ g.li, e4, small5' (by rw [la, wls.length, List.length_reverse]; omega), fun q5 n5 => ?_⟩
      obtain ⟨k5, e5⟩ := al (o := .lst (acc ++ ls)) n5
      walk_at "ss"
      refine same_ (.list ((xs ++ (withT (number - (r : Int)) ph).reverse).map dWo)) (dL_q (k5 _ _ (s22 _ _ hlp)) ((wlp.keep fun b xs e => s22 b _ e).keep fun b xs e => k5 b _ e)) (dL_q e5 (((g.wl.keep fun b xs e => s23 b _ e).append wls).keep fun b xs e => k5 b _ e)) (dL_deep (by rw [List.length_append, List.length_reverse]; omega)) ?_
      walk_at "ss"
      exact q _
end
end MG

namespace MG
open PySem PySem.Spec PyProof.Rows L2
theorem facts {P : Program} {w : World} {K : PySem.W.Frag} {h : Heap} {mg : Str → Option Value} {f : Addr} (X : K.In h) (G : h.Ns mainGlobals mg) (hfa : mg ("law" : Str) = some (.ref f)) (c : He.SaysX fa fn ts [] ex w h K) :
    ∃ fd : FuncData, (∀ (s : Shared) (v : Value), BindsTo s fd ⟨[v], []⟩ [("script", v)]) ∧ ∀ base : Heap, K.In base → base.Ns mainGlobals mg → FnOk P w K mg base CX0 14 f fd ["script"] (spLaw K) := by
  have T : Txt K w mg := txt_of X G c
  obtain ⟨fd, F⟩ := T.f_law
  have e := hfa.symm.trans T.g_law
  cases e
  have b := FunD.bindsA (ps := ["script"]) F fun _ _ _ _ _ _ us hl => match us, hl with | [_], _ => rfl
  exact ⟨fd, fun s v => b s [v] rfl, fun base _ _ => law_ok T F⟩
end MG
open PySem PySem.W PySem.Calls PyProof.Rows
theorem PySem.Challenge.cw_manygoings_k78_counting_down_holds : PySem.Challenge.rw_manygoings_k78_counting_down.Holds := by
  w_on; o_law
  refine HandSHeadRun.head_any (r := OpenLaw.row PySem.Challenge.rw_manygoings_k78_counting_down) (q := view (OpenLaw.row PySem.Challenge.rw_manygoings_k78_counting_down).prog [MG.LAWI]) (H := MG.hk) (ob := MG.ob) (M := 7000) (loose := MG.loose) (d := HandSHeadRun.topDef (OpenLaw.row PySem.Challenge.rw_manygoings_k78_counting_down).prog MG.LAWI) (kwd := []) MG.ob_eq
    (by kernel_rfl) (fun s => by kernel_rfl) MG.run (by kernel_rfl) (by kernel_rfl) (by kernel_rfl) (by rfl) (by first | assumption | decide +kernel) (by decide +kernel) ⟨rfl, rfl, rfl, rfl, rfl, by decide +kernel⟩ ?hw ?hc
  case hw => w_witness2
  case hc =>
    refine L2.walk_ofE (l := PySem.Challenge.rw_manygoings_k78_counting_down) (n := 63) (k := 14) (x := "script") (CX := L2.CX0) rfl (by decide) (by kernel_rfl) ⟨rfl, by decide, by decide⟩ ?F (fun _ _ _ _ z => z)
    intro w mg fa h Y G hmg0
    obtain ⟨K, KX, c⟩ := Y
    have hmg : mg ("law" : PySem.Str) = some (.ref fa) := by
      have e : (HandSHeadRun.topDef (OpenLaw.row PySem.Challenge.rw_manygoings_k78_counting_down).prog MG.LAWI).name = ("law" : PySem.Str) := by kernel_rfl
      rw [← e]
      exact hmg0
    obtain ⟨fd, hb, hF⟩ := MG.facts (P := (PySem.Challenge.rw_manygoings_k78_counting_down).prog) (w := w) KX G hmg c
    exact ⟨K, fd, MG.spLaw K, KX, hb, fun H a ns hl _ hS => ⟨a, ns, rfl, hS, hl, fun _ => rfl⟩, hF⟩
